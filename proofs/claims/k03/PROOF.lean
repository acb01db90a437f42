import PyProof.Rows.All
import Wide.All
import OpenK.AllK
import Wide.FinOn
import HandS.ForMost
import HandS.ForExc
import HandS.IsInst
import HandS.Walk
import HandS.Rev
import HandS.RevRange
import HandS.SetFor
import HandS.Deep
import HandS.Wide
import HandS.ExcIs
import HandS.Lambda
import HandS.EndTab
import KE.KLam
import KE.KNestM
import PySem.Challenge.RW_halfrows_k03_bits_refused
set_option Elab.async false
set_option maxRecDepth 100000
set_option linter.all false
namespace Hf
/-! Plain lists of bits: words of 32, marks, ones counted. -/
def wordOf : List Bool → Nat
  | [] => 0
  | b :: l => b.toNat + 2 * wordOf l
def cnt (l : List Bool) : Nat := l.count true
def popc : Nat → Nat → Nat
  | 0, _ => 0
  | k + 1, w => w % 2 + popc k (w / 2)

theorem toNat_lt2 (b : Bool) : b.toNat < 2 := by cases b <;> decide
theorem wordOf_lt : ∀ l : List Bool, wordOf l < 2 ^ l.length
  | [] => by decide
  | b :: l => by
    have h := wordOf_lt l
    have hb := toNat_lt2 b
    rw [List.length_cons, Nat.pow_succ]
    show b.toNat + 2 * wordOf l < _
    omega
theorem wordOf_app : ∀ l m : List Bool, wordOf (l ++ m) = wordOf l + 2 ^ l.length * wordOf m
  | [], m => by simp [wordOf]
  | b :: l, m => by
    have h := wordOf_app l m
    show b.toNat + 2 * wordOf (l ++ m) = b.toNat + 2 * wordOf l + _
    rw [h, List.length_cons, Nat.pow_succ, Nat.mul_add, Nat.add_assoc]
    congr 2
    rw [← Nat.mul_assoc, Nat.mul_comm 2]
theorem wordOf_bit : ∀ (l : List Bool) (i : Nat), wordOf l / 2 ^ i % 2 = (l.getD i false).toNat
  | [], i => by simp [wordOf]
  | b :: l, 0 => by
    have hb := toNat_lt2 b
    show (b.toNat + 2 * wordOf l) / 2 ^ 0 % 2 = b.toNat
    omega
  | b :: l, i + 1 => by
    have h := wordOf_bit l i
    have hb := toNat_lt2 b
    have e : (b.toNat + 2 * wordOf l) / 2 ^ (i + 1) = wordOf l / 2 ^ i := by
      have e2 : (b.toNat + 2 * wordOf l) / 2 = wordOf l := by omega
      rw [Nat.pow_succ', ← Nat.div_div_eq_div_mul, e2]
    show (b.toNat + 2 * wordOf l) / 2 ^ (i + 1) % 2 = (l.getD i false).toNat
    rw [e, h]
theorem wordOf_mod : ∀ (l : List Bool) (k : Nat), wordOf l % 2 ^ k = wordOf (l.take k) := by
  intro l k
  by_cases h : k ≤ l.length
  · have e : wordOf l = wordOf (l.take k) + 2 ^ k * wordOf (l.drop k) := by
      have := wordOf_app (l.take k) (l.drop k)
      rw [List.take_append_drop, List.length_take, Nat.min_eq_left h] at this
      exact this
    have lt := wordOf_lt (l.take k)
    rw [List.length_take, Nat.min_eq_left h] at lt
    rw [e, Nat.add_mul_mod_self_left, Nat.mod_eq_of_lt lt]
  · have h' : l.length ≤ k := by omega
    rw [List.take_of_length_le h']
    exact Nat.mod_eq_of_lt (Nat.lt_of_lt_of_le (wordOf_lt l) (Nat.pow_le_pow_right (by decide) h'))
theorem popc_zero : ∀ k, popc k 0 = 0
  | 0 => rfl
  | k + 1 => by show 0 % 2 + popc k (0 / 2) = 0; rw [Nat.zero_div, popc_zero k]
theorem cnt_cons (b : Bool) (l : List Bool) : cnt (b :: l) = b.toNat + cnt l := by
  cases b <;> simp [cnt] <;> omega
theorem cnt_app (l m : List Bool) : cnt (l ++ m) = cnt l + cnt m := List.count_append ..
theorem cnt_le (l : List Bool) : cnt l ≤ l.length := List.count_le_length ..
theorem popc_wordOf : ∀ (l : List Bool) (k : Nat), l.length ≤ k → popc k (wordOf l) = cnt l
  | [], k, _ => popc_zero k
  | b :: l, 0, h => by simp at h
  | b :: l, k + 1, h => by
    have hb := toNat_lt2 b
    have ih := popc_wordOf l k (by simpa using h)
    show (b.toNat + 2 * wordOf l) % 2 + popc k ((b.toNat + 2 * wordOf l) / 2) = _
    have e1 : (b.toNat + 2 * wordOf l) % 2 = b.toNat := by omega
    have e2 : (b.toNat + 2 * wordOf l) / 2 = wordOf l := by omega
    rw [e1, e2, ih, cnt_cons]
theorem popc_add : ∀ (a b w : Nat), popc (a + b) w = popc a (w % 2 ^ a) + popc b (w / 2 ^ a)
  | 0, b, w => by simp [popc]
  | a + 1, b, w => by
    have h := popc_add a b (w / 2)
    have e : a + 1 + b = (a + b) + 1 := by omega
    rw [e]
    show w % 2 + popc (a + b) (w / 2) = (w % 2 ^ (a + 1) % 2 + popc a (w % 2 ^ (a + 1) / 2)) + popc b (w / 2 ^ (a + 1))
    have e1 : w % 2 ^ (a + 1) % 2 = w % 2 := Nat.mod_mod_of_dvd _ ⟨2 ^ a, by rw [Nat.pow_succ, Nat.mul_comm]⟩
    have e2 : w % 2 ^ (a + 1) / 2 = w / 2 % 2 ^ a := by
      rw [Nat.pow_succ, Nat.mul_comm, Nat.mod_mul_right_div_self]
    have e3 : w / 2 ^ (a + 1) = w / 2 / 2 ^ a := by rw [Nat.pow_succ, Nat.mul_comm, Nat.div_div_eq_div_mul]
    rw [e1, e2, e3, h]
    omega

/-! ### the bits of a word counted side by side -/
theorem and_split {x m y n : Nat} (hx : x < 256) (hm : m < 256) : (x + 256 * y) &&& (m + 256 * n) = (x &&& m) + 256 * (y &&& n) := by
  have h1 : x + 256 * y = 2 ^ 8 * y + x := by omega
  have h2 : m + 256 * n = 2 ^ 8 * n + m := by omega
  have h3 : (x &&& m) + 256 * (y &&& n) = 2 ^ 8 * (y &&& n) + (x &&& m) := by omega
  have hxm : x &&& m < 2 ^ 8 := Nat.lt_of_le_of_lt Nat.and_le_left hx
  rw [h1, h2, h3]
  apply Nat.eq_of_testBit_eq
  intro i
  rw [Nat.testBit_and, Nat.testBit_two_pow_mul_add _ hx, Nat.testBit_two_pow_mul_add _ hm, Nat.testBit_two_pow_mul_add _ hxm]
  split <;> rw [Nat.testBit_and]
def ga (x : Nat) : Nat := x - (x / 2 &&& 0x55)
def gb (x : Nat) : Nat := (ga x &&& 0x33) + (ga x / 4 &&& 0x33)
def gc (x : Nat) : Nat := (gb x + gb x / 16) &&& 0x0F
theorem t1 : ∀ x : Fin 256, ∀ t : Fin 2, ((x.val / 2 + 128 * t.val) &&& 0x55) = (x.val / 2 &&& 0x55) := by decide +kernel
theorem t2 : ∀ x : Fin 256, (x.val / 2 &&& 0x55) ≤ x.val := by decide +kernel
theorem t3 : ∀ x : Fin 256, ∀ t : Fin 4, ((x.val / 4 + 64 * t.val) &&& 0x33) = (x.val / 4 &&& 0x33) := by decide +kernel
theorem t4 : ∀ x : Fin 256, ga x.val < 256 := by decide +kernel
theorem t5 : ∀ x : Fin 256, gb x.val ≤ 0x44 ∧ gb x.val % 16 ≤ 4 := by decide +kernel
theorem t6 : ∀ x : Fin 256, gc x.val = popc 8 x.val ∧ gc x.val ≤ 8 := by decide +kernel
theorem t7 : ∀ x : Fin 256, ∀ t : Fin 8, ((x.val + 16 * t.val) &&& 0x0F) = (x.val &&& 0x0F) := by decide +kernel
theorem s1 {x y n : Nat} (hx : x < 256) : (x + 256 * y) / 2 &&& (0x55 + 256 * n) = (x / 2 &&& 0x55) + 256 * (y / 2 &&& n) := by
  have e : (x + 256 * y) / 2 = (x / 2 + 128 * (y % 2)) + 256 * (y / 2) := by omega
  rw [e, and_split (by omega) (by decide), t1 ⟨x, hx⟩ ⟨y % 2, by omega⟩]
theorem s3 {x y n : Nat} (hx : x < 256) : (x + 256 * y) / 4 &&& (0x33 + 256 * n) = (x / 4 &&& 0x33) + 256 * (y / 4 &&& n) := by
  have e : (x + 256 * y) / 4 = (x / 4 + 64 * (y % 4)) + 256 * (y / 4) := by omega
  rw [e, and_split (by omega) (by decide), t3 ⟨x, hx⟩ ⟨y % 4, by omega⟩]
theorem s5 {x y n : Nat} (hx : x ≤ 0x44) (hy : y % 16 ≤ 4) : (x + 256 * y) + (x + 256 * y) / 16 &&& (0x0F + 256 * n) = ((x + x / 16) &&& 0x0F) + 256 * ((y + y / 16) &&& n) := by
  have e : (x + 256 * y) + (x + 256 * y) / 16 = (x + x / 16 + 16 * (y % 16)) + 256 * (y + y / 16) := by omega
  rw [e, and_split (by omega) (by decide), t7 ⟨x + x / 16, by omega⟩ ⟨y % 16, by omega⟩]
def swar (w : Nat) : Nat :=
  let a := w - (w / 2 &&& 0x55555555)
  let b := (a &&& 0x33333333) + (a / 4 &&& 0x33333333)
  let c := (b + b / 16) &&& 0x0F0F0F0F
  let d := c + c / 256
  (d + d / 65536) &&& 0x3F
theorem swarA {x y z u : Nat} (hx : x < 256) (hy : y < 256) (hz : z < 256) (hu : u < 256) : (x + 256 * (y + 256 * (z + 256 * u))) - ((x + 256 * (y + 256 * (z + 256 * u))) / 2 &&& 0x55555555) = ga x + 256 * (ga y + 256 * (ga z + 256 * ga u)) := by
  have e : (0x55555555 : Nat) = 0x55 + 256 * (0x55 + 256 * (0x55 + 256 * 0x55)) := by decide
  have a1 := t2 ⟨x, hx⟩
  have a2 := t2 ⟨y, hy⟩
  have a3 := t2 ⟨z, hz⟩
  have a4 := t2 ⟨u, hu⟩
  rw [e, s1 hx, s1 hy, s1 hz]
  simp only [ga]
  simp only at a1 a2 a3 a4
  omega
theorem swarB {x y z u : Nat} (hx : x < 256) (hy : y < 256) (hz : z < 256) : ((x + 256 * (y + 256 * (z + 256 * u))) &&& 0x33333333) + ((x + 256 * (y + 256 * (z + 256 * u))) / 4 &&& 0x33333333) =
    ((x &&& 0x33) + (x / 4 &&& 0x33)) + 256 * (((y &&& 0x33) + (y / 4 &&& 0x33)) + 256 * (((z &&& 0x33) + (z / 4 &&& 0x33)) + 256 * ((u &&& 0x33) + (u / 4 &&& 0x33)))) := by
  have e : (0x33333333 : Nat) = 0x33 + 256 * (0x33 + 256 * (0x33 + 256 * 0x33)) := by decide
  rw [e, s3 hx, s3 hy, s3 hz, and_split hx (by decide), and_split hy (by decide), and_split hz (by decide)]
  omega
theorem swarC {x y z u : Nat} (hx : x ≤ 0x44) (hy : y ≤ 0x44) (hz : z ≤ 0x44) (my : y % 16 ≤ 4) (mz : z % 16 ≤ 4) (mu : u % 16 ≤ 4) : ((x + 256 * (y + 256 * (z + 256 * u))) + (x + 256 * (y + 256 * (z + 256 * u))) / 16) &&& 0x0F0F0F0F =
    ((x + x / 16) &&& 0x0F) + 256 * (((y + y / 16) &&& 0x0F) + 256 * (((z + z / 16) &&& 0x0F) + 256 * ((u + u / 16) &&& 0x0F))) := by
  have e : (0x0F0F0F0F : Nat) = 0x0F + 256 * (0x0F + 256 * (0x0F + 256 * 0x0F)) := by decide
  rw [e, s5 hx (by omega), s5 hy (by omega), s5 hz (by omega)]
theorem swarD {x y z u : Nat} (hx : x ≤ 8) (hy : y ≤ 8) (hz : z ≤ 8) (hu : u ≤ 8) : (x + 256 * (y + 256 * (z + 256 * u)) + (x + 256 * (y + 256 * (z + 256 * u))) / 256 + (x + 256 * (y + 256 * (z + 256 * u)) + (x + 256 * (y + 256 * (z + 256 * u))) / 256) / 65536) % 64 = x + y + z + u := by
  have e1 : (x + 256 * (y + 256 * (z + 256 * u))) / 256 = y + 256 * (z + 256 * u) := by omega
  rw [e1]
  have e2 : (x + 256 * (y + 256 * (z + 256 * u)) + (y + 256 * (z + 256 * u))) / 65536 = z + u + 256 * u := by omega
  rw [e2]
  omega
theorem swar_eq {w : Nat} (h : w < 2 ^ 32) : swar w = popc 32 w := by
  obtain ⟨x, hx⟩ : ∃ x, x = w % 256 := ⟨_, rfl⟩
  obtain ⟨y, hy⟩ : ∃ y, y = w / 256 % 256 := ⟨_, rfl⟩
  obtain ⟨z, hz⟩ : ∃ z, z = w / 65536 % 256 := ⟨_, rfl⟩
  obtain ⟨u, hu⟩ : ∃ u, u = w / 16777216 := ⟨_, rfl⟩
  have ew : w = x + 256 * (y + 256 * (z + 256 * u)) := by omega
  have lx : x < 256 := by omega
  have ly : y < 256 := by omega
  have lz : z < 256 := by omega
  have lu : u < 256 := by omega
  obtain ⟨bx, mx⟩ := t5 ⟨x, lx⟩
  obtain ⟨by', my⟩ := t5 ⟨y, ly⟩
  obtain ⟨bz, mz⟩ := t5 ⟨z, lz⟩
  obtain ⟨bu, mu⟩ := t5 ⟨u, lu⟩
  obtain ⟨px, qx⟩ := t6 ⟨x, lx⟩
  obtain ⟨py, qy⟩ := t6 ⟨y, ly⟩
  obtain ⟨pz, qz⟩ := t6 ⟨z, lz⟩
  obtain ⟨pu, qu⟩ := t6 ⟨u, lu⟩
  have ep : popc 32 w = popc 8 x + popc 8 y + popc 8 z + popc 8 u := by
    have e1 : (32 : Nat) = 8 + 24 := rfl
    have e2 : (24 : Nat) = 8 + 16 := rfl
    have e3 : (16 : Nat) = 8 + 8 := rfl
    rw [e1, popc_add, e2, popc_add 8 16, e3, popc_add 8 8]
    have f1 : w % 2 ^ 8 = x := by omega
    have f2 : w / 2 ^ 8 % 2 ^ 8 = y := by omega
    have f3 : w / 2 ^ 8 / 2 ^ 8 % 2 ^ 8 = z := by omega
    have f4 : w / 2 ^ 8 / 2 ^ 8 / 2 ^ 8 = u := by omega
    rw [f1, f2, f3, f4]
    omega
  simp only at px py pz pu qx qy qz qu bx by' bz bu mx my mz mu
  rw [ep, ← px, ← py, ← pz, ← pu]
  unfold swar
  simp only
  rw [ew, swarA lx ly lz lu, swarB (t4 ⟨x, lx⟩) (t4 ⟨y, ly⟩) (t4 ⟨z, lz⟩)]
  show (_ : Nat) = _
  have eC := swarC (x := gb x) (y := gb y) (z := gb z) (u := gb u) bx by' bz my mz mu
  simp only [gb] at eC
  rw [eC]
  have e63 : ∀ n : Nat, n &&& 63 = n % 64 := fun n => Nat.and_two_pow_sub_one_eq_mod n 6
  rw [e63]
  exact swarD qx qy qz qu
/-- how many words -/
def wn (n : Nat) : Nat := (n + 31) / 32
def words (l : List Bool) : List Nat := (List.range (wn l.length)).map fun k => wordOf ((l.drop (32 * k)).take 32)
def marks (l : List Bool) : List Nat := (List.range (wn l.length)).map fun k => cnt (l.take (32 * k))
theorem words_len (l : List Bool) : (words l).length = wn l.length := by simp [words]
theorem marks_len (l : List Bool) : (marks l).length = wn l.length := by simp [marks]
theorem words_at {l : List Bool} {k : Nat} (h : k < wn l.length) : (words l)[k]? = some (wordOf ((l.drop (32 * k)).take 32)) := by
  simp [words, h]
theorem marks_at {l : List Bool} {k : Nat} (h : k < wn l.length) : (marks l)[k]? = some (cnt (l.take (32 * k))) := by
  simp [marks, h]
theorem chunk_len (l : List Bool) (k : Nat) : ((l.drop (32 * k)).take 32).length ≤ 32 := by simp; omega
theorem word_lt (l : List Bool) (k : Nat) : wordOf ((l.drop (32 * k)).take 32) < 2 ^ 32 :=
  Nat.lt_of_lt_of_le (wordOf_lt _) (Nat.pow_le_pow_right (by decide) (chunk_len l k))
theorem words_lt {l : List Bool} {w : Nat} (h : w ∈ words l) : w < 2 ^ 32 := by
  obtain ⟨k, _, rfl⟩ := List.mem_map.mp h
  exact word_lt l k
/-- a word begun -/
theorem words_new {l : List Bool} (h : l.length % 32 = 0) (b : Bool) : words (l ++ [b]) = words l ++ [b.toNat] := by
  have e : wn (l ++ [b]).length = wn l.length + 1 := by simp [wn]; omega
  unfold words
  rw [e, List.range_succ, List.map_append]
  congr 1
  · apply List.map_congr_left
    intro k hk
    have hk := List.mem_range.mp hk
    have hk2 : 32 * k + 32 ≤ l.length := by unfold wn at hk; omega
    rw [List.drop_append_of_le_length (by omega), List.take_append_of_le_length (by rw [List.length_drop]; omega)]
  · have e2 : 32 * wn l.length = l.length := by unfold wn; omega
    show [wordOf (((l ++ [b]).drop (32 * wn l.length)).take 32)] = [b.toNat]
    rw [e2, List.drop_left]
    cases b <;> rfl
/-- a word that goes on -/
theorem words_on {l : List Bool} (h : l.length % 32 ≠ 0) (b : Bool) : words (l ++ [b]) = (words l).set (wn l.length - 1) (wordOf (l.drop (32 * (wn l.length - 1))) + b.toNat * 2 ^ (l.length % 32)) := by
  have e : wn (l ++ [b]).length = wn l.length := by simp [wn]; omega
  have p : 0 < wn l.length := by unfold wn; omega
  apply List.ext_getElem?
  intro k
  by_cases hk : k < wn l.length
  · rw [words_at (by rw [e]; exact hk), List.getElem?_set]
    by_cases hl : k = wn l.length - 1
    · subst hl
      rw [if_pos rfl, if_pos (by rw [words_len]; exact hk)]
      have lo : 32 * (wn l.length - 1) ≤ l.length := by unfold wn; omega
      have hd : (l.drop (32 * (wn l.length - 1))).length = l.length % 32 := by rw [List.length_drop]; unfold wn; omega
      rw [List.drop_append_of_le_length lo, List.take_of_length_le (by simp [hd]; omega), wordOf_app, hd]
      cases b <;> simp [wordOf]
    · rw [if_neg (fun z => hl z.symm), words_at hk]
      have hk2 : 32 * k + 32 ≤ l.length := by unfold wn at hk hl; omega
      rw [List.drop_append_of_le_length (by omega), List.take_append_of_le_length (by rw [List.length_drop]; omega)]
  · rw [List.getElem?_eq_none (by rw [words_len, e]; omega), List.getElem?_eq_none (by rw [List.length_set, words_len]; omega)]
theorem words_last {l : List Bool} (h : l.length % 32 ≠ 0) : (words l)[wn l.length - 1]? = some (wordOf (l.drop (32 * (wn l.length - 1)))) := by
  rw [words_at (by unfold wn; omega), List.take_of_length_le]
  rw [List.length_drop]
  unfold wn
  omega
theorem last_lt {l : List Bool} (h : l.length % 32 ≠ 0) : wordOf (l.drop (32 * (wn l.length - 1))) < 2 ^ (l.length % 32) := by
  have e : (l.drop (32 * (wn l.length - 1))).length = l.length % 32 := by rw [List.length_drop]; unfold wn; omega
  have := wordOf_lt (l.drop (32 * (wn l.length - 1)))
  rwa [e] at this
/-- the bit at a place, out of its word -/
theorem bit_of {l : List Bool} {i : Nat} (_h : i < l.length) : wordOf ((l.drop (32 * (i / 32))).take 32) / 2 ^ (i % 32) % 2 = (l.getD i false).toNat := by
  rw [wordOf_bit]
  congr 1
  rw [List.getD_eq_getElem?_getD, List.getD_eq_getElem?_getD, List.getElem?_take, if_pos (by omega), List.getElem?_drop]
  congr 2
  omega
/-- ones ahead of a place, by its word -/
theorem ones_of {l : List Bool} {i : Nat} (_h : i ≤ l.length) (k : Nat) (hk : 32 * k ≤ i) (hk2 : i ≤ 32 * k + 32) : cnt (l.take (32 * k)) + popc 32 (wordOf ((l.drop (32 * k)).take 32) % 2 ^ (i - 32 * k)) = cnt (l.take i) := by
  rw [wordOf_mod, List.take_take, popc_wordOf _ _ (by rw [List.length_take]; omega), ← cnt_app]
  congr 1
  have e : min (i - 32 * k) 32 = i - 32 * k := by omega
  rw [e]
  have := (List.take_add (l := l) (i := 32 * k) (j := i - 32 * k)).symm
  rw [this]
  congr 1
  omega
theorem marks_step {l : List Bool} {k : Nat} (_h : k < wn l.length) : cnt (l.take (32 * (k + 1))) = cnt (l.take (32 * k)) + popc 32 (wordOf ((l.drop (32 * k)).take 32)) := by
  rw [popc_wordOf _ _ (chunk_len l k), ← cnt_app, ← List.take_add]
  rfl
/-! Found by halving; a bit put. -/
/-- how many of the bit b stand ahead of a place -/
def cb (b : Bool) (l : List Bool) (p : Nat) : Nat := (l.take p).count b
theorem cb_true (l : List Bool) (p : Nat) : cb true l p = cnt (l.take p) := rfl
theorem count_two : ∀ l : List Bool, l.count false + l.count true = l.length
  | [] => rfl
  | b :: l => by
    have h := count_two l
    cases b <;> simp <;> omega
theorem cb_sum (l : List Bool) {p : Nat} (h : p ≤ l.length) : cb false l p + cb true l p = p := by
  unfold cb
  have e : (l.take p).length = p := by rw [List.length_take]; omega
  have := count_two (l.take p)
  omega
theorem cb_false (l : List Bool) {p : Nat} (h : p ≤ l.length) : cb false l p = p - cnt (l.take p) := by
  have := cb_sum l h
  rw [cb_true] at this
  omega
theorem cb_succ {b : Bool} {l : List Bool} {p : Nat} (h : p < l.length) : cb b l (p + 1) = cb b l p + (if l[p]? = some b then 1 else 0) := by
  unfold cb
  rw [List.take_add_one, List.count_append]
  congr 1
  rw [List.getElem?_eq_getElem h]
  simp [List.count_singleton]
theorem cb_mono {b : Bool} {l : List Bool} {p q : Nat} (h : p ≤ q) : cb b l p ≤ cb b l q := by
  unfold cb
  have e : l.take q = l.take p ++ (l.drop p).take (q - p) := by
    rw [← List.take_add]
    congr 1
    omega
  rw [e, List.count_append]
  omega
theorem cb_all (b : Bool) (l : List Bool) : cb b l l.length = l.count b := by
  unfold cb
  rw [List.take_length]
/-- the place that halving has found -/
theorem found_at {b : Bool} {l : List Bool} {t r : Nat} (h : r < l.length) (h1 : cb b l r ≤ t) (h2 : t < cb b l (r + 1)) : l[r]? = some b ∧ cb b l r = t := by
  rw [cb_succ h] at h2
  by_cases e : l[r]? = some b
  · rw [if_pos e] at h2
    exact ⟨e, by omega⟩
  · rw [if_neg e] at h2
    omega
/-- there is but one such place -/
theorem found_one {b : Bool} {l : List Bool} {r q : Nat} (h1 : l[r]? = some b) (h2 : l[q]? = some b) (h : cb b l r = cb b l q) : r = q := by
  have lr : r < l.length := (List.getElem?_eq_some_iff.mp h1).1
  have lq : q < l.length := (List.getElem?_eq_some_iff.mp h2).1
  have a := cb_succ (b := b) lr
  have c := cb_succ (b := b) lq
  rw [if_pos h1] at a
  rw [if_pos h2] at c
  rcases Nat.lt_trichotomy r q with e | e | e
  · have := cb_mono (b := b) (l := l) (show r + 1 ≤ q by omega)
    omega
  · exact e
  · have := cb_mono (b := b) (l := l) (show q + 1 ≤ r by omega)
    omega
/-- each turn below the bit's number is found -/
theorem found_is {b : Bool} : ∀ {l : List Bool} {t : Nat}, t < l.count b → ∃ r, l[r]? = some b ∧ cb b l r = t := by
  intro l
  induction l with
  | nil => intro t h; simp at h
  | cons x l ih =>
    intro t h
    by_cases e : x = b
    · subst e
      cases t with
      | zero => exact ⟨0, rfl, by simp [cb]⟩
      | succ t =>
        obtain ⟨r, h1, h2⟩ := ih (t := t) (by simpa using h)
        exact ⟨r + 1, by simpa using h1, by simpa [cb] using h2⟩
    · obtain ⟨r, h1, h2⟩ := ih (t := t) (by simpa [List.count_cons, e] using h)
      exact ⟨r + 1, by simpa using h1, by simpa [cb, List.count_cons, e] using h2⟩

theorem wordOf_set : ∀ {l : List Bool} {j : Nat} {c b : Bool}, l[j]? = some c → wordOf (l.set j b) + c.toNat * 2 ^ j = wordOf l + b.toNat * 2 ^ j
  | [], j, c, b, h => by simp at h
  | x :: l, 0, c, b, h => by
    have e : x = c := Option.some.inj h
    subst e
    show b.toNat + 2 * wordOf l + x.toNat * 2 ^ 0 = x.toNat + 2 * wordOf l + b.toNat * 2 ^ 0
    omega
  | x :: l, j + 1, c, b, h => by
    have ih := wordOf_set (l := l) (j := j) (c := c) (b := b) (by simpa using h)
    show x.toNat + 2 * wordOf (l.set j b) + c.toNat * 2 ^ (j + 1) = x.toNat + 2 * wordOf l + b.toNat * 2 ^ (j + 1)
    have e1 : c.toNat * 2 ^ (j + 1) = 2 * (c.toNat * 2 ^ j) := by rw [Nat.pow_succ', ← Nat.mul_assoc, Nat.mul_comm c.toNat 2, Nat.mul_assoc]
    have e2 : b.toNat * 2 ^ (j + 1) = 2 * (b.toNat * 2 ^ j) := by rw [Nat.pow_succ', ← Nat.mul_assoc, Nat.mul_comm b.toNat 2, Nat.mul_assoc]
    rw [e1, e2]
    omega
theorem chunk_set {l : List Bool} {i : Nat} {b : Bool} (h : i < l.length) (k : Nat) : (((l.set i b).drop (32 * k)).take 32) = if k = i / 32 then ((l.drop (32 * k)).take 32).set (i % 32) b else (l.drop (32 * k)).take 32 := by
  apply List.ext_getElem?
  intro j
  by_cases hk : k = i / 32
  · rw [if_pos hk]
    subst hk
    rw [List.getElem?_take, List.getElem?_drop, List.getElem?_set, List.getElem?_set]
    by_cases hj : j < 32
    · rw [if_pos hj]
      by_cases e : i % 32 = j
      · rw [if_pos (by omega), if_pos e, if_pos h, if_pos (by rw [List.length_take, List.length_drop]; omega)]
      · rw [if_neg (by omega), if_neg e, List.getElem?_take, if_pos hj, List.getElem?_drop]
    · rw [if_neg hj, if_neg (by omega), List.getElem?_take, if_neg hj]
  · rw [if_neg hk, List.getElem?_take, List.getElem?_take, List.getElem?_drop, List.getElem?_drop]
    by_cases hj : j < 32
    · rw [if_pos hj, if_pos hj, List.getElem?_set_ne (by omega)]
    · rw [if_neg hj, if_neg hj]
/-- the one word that a bit put otherwise changes -/
theorem words_set {l : List Bool} {i : Nat} {b : Bool} (h : l[i]? = some (!b)) :
    words (l.set i b) = (words l).set (i / 32) (wordOf ((l.drop (32 * (i / 32))).take 32) + 2 ^ (i % 32) - 2 * (wordOf ((l.drop (32 * (i / 32))).take 32) / 2 ^ (i % 32) % 2) * 2 ^ (i % 32)) := by
  have hi : i < l.length := (List.getElem?_eq_some_iff.mp h).1
  have hw : wn (l.set i b).length = wn l.length := by rw [List.length_set]
  have hc : ((l.drop (32 * (i / 32))).take 32)[i % 32]? = some (!b) := by
    rw [List.getElem?_take, if_pos (by omega), List.getElem?_drop, ← h]
    congr 1
    omega
  apply List.ext_getElem?
  intro k
  by_cases hk : k < wn l.length
  · rw [words_at (by rw [hw]; exact hk), List.getElem?_set, chunk_set hi]
    by_cases e : k = i / 32
    · subst e
      rw [if_pos rfl, if_pos rfl, if_pos (by rw [words_len]; exact hk)]
      congr 1
      have a := wordOf_set (b := b) hc
      have c : wordOf ((l.drop (32 * (i / 32))).take 32) / 2 ^ (i % 32) % 2 = (!b).toNat := by
        rw [wordOf_bit, List.getD_eq_getElem?_getD, hc]
        rfl
      rw [c]
      cases b with
      | false => simp only [Bool.not_false, Bool.toNat_true, Bool.toNat_false] at a ⊢; omega
      | true => simp only [Bool.not_true, Bool.toNat_true, Bool.toNat_false] at a ⊢; omega
    · rw [if_neg e, if_neg (fun z => e z.symm), words_at hk]
  · rw [List.getElem?_eq_none (by rw [words_len, hw]; omega), List.getElem?_eq_none (by rw [List.length_set, words_len]; omega)]
theorem cnt_set_take {l : List Bool} {i : Nat} {b : Bool} (h : l[i]? = some (!b)) (p : Nat) : (cnt ((l.set i b).take p) : Int) = cnt (l.take p) + (if i < p then 2 * (b.toNat : Int) - 1 else 0) := by
  have hi : i < l.length := (List.getElem?_eq_some_iff.mp h).1
  induction p with
  | zero => simp [cnt]
  | succ p ih =>
    by_cases hp : p < l.length
    · have a := cb_succ (b := true) hp
      have c := cb_succ (b := true) (l := l.set i b) (p := p) (by rw [List.length_set]; exact hp)
      rw [cb_true, cb_true] at a c
      by_cases e : i = p
      · subst e
        rw [List.getElem?_set_self hi] at c
        rw [h] at a
        rw [if_neg (by omega)] at ih
        rw [if_pos (by omega)]
        cases b <;> simp at a c ih ⊢ <;> omega
      · rw [List.getElem?_set_ne e] at c
        by_cases e2 : i < p
        · rw [if_pos e2] at ih
          rw [if_pos (by omega)]
          omega
        · rw [if_neg e2] at ih
          rw [if_neg (by omega)]
          omega
    · have e1 : (l.set i b).take (p + 1) = (l.set i b).take p := by rw [List.take_of_length_le (by rw [List.length_set]; omega), List.take_of_length_le (by rw [List.length_set]; omega)]
      have e2 : l.take (p + 1) = l.take p := by rw [List.take_of_length_le (by omega), List.take_of_length_le (by omega)]
      rw [e1, e2, ih, if_pos (by omega), if_pos (by omega)]

end Hf
namespace Hf
open PySem L2
def top (i : Nat) : Stmt := PySem.Challenge.pw_halfrows_k03_bits_refused.main.body.getD i (.Pass ⟨0, 0, 0, 0⟩)
abbrev s_is_whole : Stmt := top 7
abbrev s_is_among : Stmt := top 8
abbrev s_ones_in : Stmt := top 9
abbrev s_packed : Stmt := top 10
abbrev s_B_init : Stmt := inClass (top 13) 0
abbrev s_B_words : Stmt := inClass (top 13) 1
abbrev s_B_marks : Stmt := inClass (top 13) 2
abbrev s_B_bit_at : Stmt := inClass (top 13) 4
abbrev s_B_ones : Stmt := inClass (top 13) 5
abbrev s_B_noughts : Stmt := inClass (top 13) 6
abbrev s_B_place_of : Stmt := inClass (top 13) 7
abbrev s_B_put : Stmt := inClass (top 13) 8
abbrev s__law_next : Stmt := top 15
abbrev s__law_bits : Stmt := top 17
abbrev s__law_said : Stmt := top 18
abbrev s__law_kinds : Stmt := top 19
abbrev s__law_places_refused : Stmt := top 20
abbrev s_law : Stmt := top 21
/-- where everything stands -/
structure Adr where
  is_whole : Addr
  is_whole_d : FuncData
  is_among : Addr
  is_among_d : FuncData
  ones_in : Addr
  ones_in_d : FuncData
  packed : Addr
  packed_d : FuncData
  B_init : Addr
  B_init_d : FuncData
  B_words : Addr
  B_words_d : FuncData
  B_marks : Addr
  B_marks_d : FuncData
  B_bit_at : Addr
  B_bit_at_d : FuncData
  B_ones : Addr
  B_ones_d : FuncData
  B_noughts : Addr
  B_noughts_d : FuncData
  B_place_of : Addr
  B_place_of_d : FuncData
  B_put : Addr
  B_put_d : FuncData
  _law_next : Addr
  _law_next_d : FuncData
  _law_bits : Addr
  _law_bits_d : FuncData
  _law_said : Addr
  _law_said_d : FuncData
  _law_kinds : Addr
  _law_kinds_d : FuncData
  _law_places_refused : Addr
  _law_places_refused_d : FuncData
  law : Addr
  law_d : FuncData
  cB : Addr
  xBadRow : Addr
  xNoNumber : Addr
  xNoPlace : Addr
  xHalfError : Addr
  _law_places_refused_c : Addr
  _law_places_refused_P : Addr
  law_c : Addr
  law_P : Addr
structure Caught (K : PySem.W.Frag) (D HE BR NN NP : Addr) (j : Nat) : Prop where
  c : ExcC K D
  h : PySem.W.exmOne K (.ref D) (.ref HE) = some true
  br : PySem.W.kitOne K (.ref D) (.ref BR) = some (decide (j = 0))
  nn : PySem.W.kitOne K (.ref D) (.ref NN) = some (decide (j = 1))
  np : PySem.W.kitOne K (.ref D) (.ref NP) = some (decide (j = 2))
  ve : PySem.W.kitOne K (.ref D) (.type "ValueError") = some true
structure Def (K : PySem.W.Frag) (mg : Str → Option Value) (x : Str) (st : Stmt) (ps : List Str) (f : Addr) (fd : FuncData) : Prop where
  F : Fun K x x st f fd
  b : Binds K fd ps []
  g : mg x = some (.ref f)
structure Met (K : PySem.W.Frag) (C : Addr) (x qual : Str) (st : Stmt) (ps : List Str) (f : Addr) (fd : FuncData) : Prop where
  F : Fun K x qual st f fd
  b : Binds K fd ps []
  m : Meth K C x f
structure Exc (K : PySem.W.Frag) (mg : Str → Option Value) (x : Str) (C : Addr) : Prop where
  g : mg x = some (.ref C)
  x : PySem.W.excIn K C [.type "ValueError", .type "Exception", .type "BaseException", .type "object"] "ValueError.__new__" = true
  k : PySem.W.keepIn K (.ref C) = true
  b : PySem.W.subIn K (.ref C) (.type "BaseException") = some true
  t : PySem.W.typeIn K (.ref C) = some (.type "type")
structure Tx (K : PySem.W.Frag) (mg : Str → Option Value) (A : Adr) : Prop where
  is_whole : Def K mg "is_whole" s_is_whole ["thing"] A.is_whole A.is_whole_d
  is_among : Def K mg "is_among" s_is_among ["thing", "least", "most"] A.is_among A.is_among_d
  ones_in : Def K mg "ones_in" s_ones_in ["word"] A.ones_in A.ones_in_d
  packed : Def K mg "packed" s_packed ["bits"] A.packed A.packed_d
  B_init : Met K A.cB "__init__" "BitRow.__init__" s_B_init ["self", "bits"] A.B_init A.B_init_d
  B_words : Met K A.cB "words" "BitRow.words" s_B_words ["self"] A.B_words A.B_words_d
  B_marks : Met K A.cB "marks" "BitRow.marks" s_B_marks ["self"] A.B_marks A.B_marks_d
  B_bit_at : Met K A.cB "bit_at" "BitRow.bit_at" s_B_bit_at ["self", "place"] A.B_bit_at A.B_bit_at_d
  B_ones : Met K A.cB "ones" "BitRow.ones" s_B_ones ["self", "place"] A.B_ones A.B_ones_d
  B_noughts : Met K A.cB "noughts" "BitRow.noughts" s_B_noughts ["self", "place"] A.B_noughts A.B_noughts_d
  B_place_of : Met K A.cB "place_of" "BitRow.place_of" s_B_place_of ["self", "bit", "turn"] A.B_place_of A.B_place_of_d
  B_put : Met K A.cB "put" "BitRow.put" s_B_put ["self", "place", "bit"] A.B_put A.B_put_d
  _law_next : Def K mg "_law_next" s__law_next ["_law_state"] A._law_next A._law_next_d
  _law_bits : Def K mg "_law_bits" s__law_bits ["_law_state"] A._law_bits A._law_bits_d
  _law_said : Def K mg "_law_said" s__law_said ["_law_worker"] A._law_said A._law_said_d
  _law_kinds : Def K mg "_law_kinds" s__law_kinds ["_law_n"] A._law_kinds A._law_kinds_d
  _law_places_refused : Def K mg "_law_places_refused" s__law_places_refused ["_law_row", "_law_many", "_law_odd", "_law_far", "_law_bit"] A._law_places_refused A._law_places_refused_d
  law : Def K mg "law" s_law ["_law_script"] A.law A.law_d
  clB : Cls K A.cB
  mkB : Mk K A.cB A.B_init
  gB : mg "BitRow" = some (.ref A.cB)
  nB_size : NoAttr K A.cB "size"
  nB_packs : NoAttr K A.cB "packs"
  nB_heads : NoAttr K A.cB "heads"
  xBadRow : Exc K mg "BadRow" A.xBadRow
  xNoNumber : Exc K mg "NoNumber" A.xNoNumber
  xNoPlace : Exc K mg "NoPlace" A.xNoPlace
  kWORD : ∃ t, mg "WORD" = some (.int 32 t)
  kMOST_BITS : ∃ t, mg "MOST_BITS" = some (.int 4000 t)
  b_isinstance : mg "isinstance" = none
  b_int : mg "int" = none
  b_bool : mg "bool" = none
  b_list : mg "list" = none
  b_tuple : mg "tuple" = none
  b_len : mg "len" = none
  b_enumerate : mg "enumerate" = none
  b_range : mg "range" = none
  b_all : mg "all" = none
  b_sum : mg "sum" = none
  b_ValueError : mg "ValueError" = none
  gHE : mg "HalfError" = some (.ref A.xHalfError)
  cBadRow : Caught K A.xBadRow A.xHalfError A.xBadRow A.xNoNumber A.xNoPlace 0
  cNoNumber : Caught K A.xNoNumber A.xHalfError A.xBadRow A.xNoNumber A.xNoPlace 1
  cNoPlace : Caught K A.xNoPlace A.xHalfError A.xBadRow A.xNoNumber A.xNoPlace 2
  _law_places_refused_cd : A._law_places_refused_d.code = .ref A._law_places_refused_c
  law_cd : A.law_d.code = .ref A.law_c
  n_0_1 : A._law_places_refused_P ≠ A.law_P
/-- the tables of code objects of the defs that make lambdas -/
def lamName (x : Str) : Str := x ++ ".<locals>." ++ "<lambda>"
def Tb (A : Adr) : List (Addr × Str) := [(A._law_places_refused_P, lamName "_law_places_refused"), (A.law_P, lamName "law")]
structure TbB (mg : Str → Option Value) (base : Heap) (A : Adr) : Prop where
  _law_places_refused : LamX.TabB base mg A._law_places_refused_c A._law_places_refused_P
  law : LamX.TabB base mg A.law_c A.law_P
theorem tbm__law_places_refused {A : Adr} : (A._law_places_refused_P, lamName "_law_places_refused") ∈ Tb A := by
  unfold Tb
  simp
theorem tbu__law_places_refused {K : PySem.W.Frag} {mg : Str → Option Value} {A : Adr} (T : Tx K mg A) : ∀ p ∈ Tb A, p.1 = A._law_places_refused_P → p.2 = lamName "_law_places_refused" := by
  intro p hp e
  unfold Tb at hp
  simp only [List.mem_cons, List.not_mem_nil, or_false] at hp
  rcases hp with rfl | rfl
  · rfl
  · exact absurd e.symm T.n_0_1
theorem tbm_law {A : Adr} : (A.law_P, lamName "law") ∈ Tb A := by
  unfold Tb
  simp
theorem tbu_law {K : PySem.W.Frag} {mg : Str → Option Value} {A : Adr} (T : Tx K mg A) : ∀ p ∈ Tb A, p.1 = A.law_P → p.2 = lamName "law" := by
  intro p hp e
  unfold Tb at hp
  simp only [List.mem_cons, List.not_mem_nil, or_false] at hp
  rcases hp with rfl | rfl
  · exact absurd e T.n_0_1
  · rfl
section
variable {P : Program} {w : World} {K : PySem.W.Frag} {mg : Str → Option Value} {base : Heap} {A : Adr}
abbrev n_is_whole : List Str := ["thing"]
theorem sc_is_whole : FnScope n_is_whole ["thing"] (defScope s_is_whole) := ⟨rfl, rfl, rfl, by decide +kernel, rfl, by decide +kernel, by decide +kernel⟩
abbrev n_is_among : List Str := ["thing", "least", "most"]
theorem sc_is_among : FnScope n_is_among ["thing", "least", "most"] (defScope s_is_among) := ⟨rfl, rfl, rfl, by decide +kernel, rfl, by decide +kernel, by decide +kernel⟩
abbrev n_ones_in : List Str := ["word"]
theorem sc_ones_in : FnScope n_ones_in ["word"] (defScope s_ones_in) := ⟨rfl, rfl, rfl, by decide +kernel, rfl, by decide +kernel, by decide +kernel⟩
abbrev n_packed : List Str := ["bits", "found", "place", "bit"]
theorem sc_packed : FnScope n_packed ["bits"] (defScope s_packed) := ⟨rfl, rfl, rfl, by decide +kernel, rfl, by decide +kernel, by decide +kernel⟩
abbrev n_B_init : List Str := ["self", "bits", "bit", "many", "word"]
theorem sc_B_init : FnScope n_B_init ["self", "bits"] (defScope s_B_init) := ⟨rfl, rfl, rfl, by decide +kernel, rfl, by decide +kernel, by decide +kernel⟩
abbrev n_B_words : List Str := ["self"]
theorem sc_B_words : FnScope n_B_words ["self"] (defScope s_B_words) := ⟨rfl, rfl, rfl, by decide +kernel, rfl, by decide +kernel, by decide +kernel⟩
abbrev n_B_marks : List Str := ["self"]
theorem sc_B_marks : FnScope n_B_marks ["self"] (defScope s_B_marks) := ⟨rfl, rfl, rfl, by decide +kernel, rfl, by decide +kernel, by decide +kernel⟩
abbrev n_B_bit_at : List Str := ["self", "place"]
theorem sc_B_bit_at : FnScope n_B_bit_at ["self", "place"] (defScope s_B_bit_at) := ⟨rfl, rfl, rfl, by decide +kernel, rfl, by decide +kernel, by decide +kernel⟩
abbrev n_B_ones : List Str := ["self", "place", "at"]
theorem sc_B_ones : FnScope n_B_ones ["self", "place"] (defScope s_B_ones) := ⟨rfl, rfl, rfl, by decide +kernel, rfl, by decide +kernel, by decide +kernel⟩
abbrev n_B_noughts : List Str := ["self", "place"]
theorem sc_B_noughts : FnScope n_B_noughts ["self", "place"] (defScope s_B_noughts) := ⟨rfl, rfl, rfl, by decide +kernel, rfl, by decide +kernel, by decide +kernel⟩
abbrev n_B_place_of : List Str := ["self", "bit", "turn", "least", "most", "half", "many"]
theorem sc_B_place_of : FnScope n_B_place_of ["self", "bit", "turn"] (defScope s_B_place_of) := ⟨rfl, rfl, rfl, by decide +kernel, rfl, by decide +kernel, by decide +kernel⟩
abbrev n_B_put : List Str := ["self", "place", "bit", "at", "later"]
theorem sc_B_put : FnScope n_B_put ["self", "place", "bit"] (defScope s_B_put) := ⟨rfl, rfl, rfl, by decide +kernel, rfl, by decide +kernel, by decide +kernel⟩
abbrev n__law_next : List Str := ["_law_state", "_law_k", "_law_cells", "_law_base"]
theorem sc__law_next : FnScope n__law_next ["_law_state"] (defScope s__law_next) := ⟨rfl, rfl, rfl, by decide +kernel, rfl, by decide +kernel, by decide +kernel⟩
abbrev n__law_bits : List Str := ["_law_state", "_law_n", "_law_size", "_law_part", "_law_bits_here", "_law_k", "_law_bit"]
theorem sc__law_bits : FnScope n__law_bits ["_law_state"] (defScope s__law_bits) := ⟨rfl, rfl, rfl, by decide +kernel, rfl, by decide +kernel, by decide +kernel⟩
abbrev n__law_said : List Str := ["_law_worker", "_law_caught", "_law_found", "e", "_law_some"]
theorem sc__law_said : FnScope n__law_said ["_law_worker"] (defScope s__law_said) := ⟨rfl, rfl, rfl, by decide +kernel, rfl, by decide +kernel, by decide +kernel⟩
abbrev n__law_kinds : List Str := ["_law_n"]
theorem sc__law_kinds : FnScope n__law_kinds ["_law_n"] (defScope s__law_kinds) := ⟨rfl, rfl, rfl, by decide +kernel, rfl, by decide +kernel, by decide +kernel⟩
abbrev n__law_places_refused : List Str := ["_law_row", "_law_many", "_law_odd", "_law_far", "_law_bit", "_law_place"]
theorem sc__law_places_refused : FnScope n__law_places_refused ["_law_row", "_law_many", "_law_odd", "_law_far", "_law_bit"] (defScope s__law_places_refused) := ⟨rfl, rfl, rfl, by decide +kernel, rfl, by decide +kernel, by decide +kernel⟩
abbrev n_law : List Str := ["_law_script", "_law_state", "_law_bits_here", "_law_row", "_law_kept", "_law_n", "_law_odd", "_law_far", "_law_bad", "_law_place", "_law_at", "_law_things", "_law_words"]
theorem sc_law : FnScope n_law ["_law_script"] (defScope s_law) := ⟨rfl, rfl, rfl, by decide +kernel, rfl, by decide +kernel, by decide +kernel⟩
/-! ### values, kinds of values -/
def nV (n : Nat) : V := .int (n : Int)
def bV (b : Bool) : V := .int (b.toNat : Int)
def known : List String := ["NoneType", "bool", "int", "str", "list", "tuple", "dict"]
/-- v is of the built-in kind n -/
def TyN (K : PySem.W.Frag) (H : Hp) (v : V) (n : String) : Prop := TyX K H v (.type n) ∧ n ∈ known
def amongV (v : V) (lo hi : Int) : Bool := match v with
  | .int i => decide (lo ≤ i) && decide (i ≤ hi)
  | _ => false
theorem TyN.int {K : PySem.W.Frag} {H : Hp} (i : Int) : TyN K H (.int i) "int" := ⟨.base (.int i), by decide⟩
theorem TyN.bl {K : PySem.W.Frag} {H : Hp} (b : Bool) : TyN K H (.bl b) "bool" := ⟨.base (.bl b), by decide⟩
theorem TyN.non {K : PySem.W.Frag} {H : Hp} : TyN K H .non "NoneType" := ⟨.base .non, by decide⟩
theorem TyN.str {K : PySem.W.Frag} {H : Hp} (z : Str) : TyN K H (.str z) "str" := ⟨.base (.str z), by decide⟩
theorem TyN.lst {K : PySem.W.Frag} {H : Hp} {a : Addr} {xs : List V} (h : SqL K H a xs) : TyN K H (.ref a) "list" := by
  refine ⟨?_, by decide⟩
  rcases h with (h | ⟨o, h⟩) | ⟨o, its, n, h, c, _⟩
  · exact .base (.lst h)
  · exact .base (.frz h)
  · exact .kList h c
theorem TyN.tup {K : PySem.W.Frag} {H : Hp} {a : Addr} {xs : List V} (h : SqT K H a xs) : TyN K H (.ref a) "tuple" := by
  refine ⟨?_, by decide⟩
  rcases h with (h | ⟨o, h⟩) | ⟨o, its, n, h, c, _⟩
  · exact .base (.tup h)
  · exact .fTuple h
  · exact .kTuple h c
theorem TyN.dct {K : PySem.W.Frag} {H : Hp} {a : Addr} {kvs : List (Key × V)} (h : H a = some (.dK kvs)) : TyN K H (.ref a) "dict" := ⟨.base (.dK h), by decide⟩
theorem tyx_int0 {K : PySem.W.Frag} {H : Hp} {v : V} {t : Value} (h : TyX K H v t) (e : t = .type "int") : ∃ i, v = .int i := by
  cases h with
  | base b => cases b <;> first | exact ⟨_, rfl⟩ | (injection e with e; exact absurd e (by decide)) | cases e
  | _ => first | (injection e with e; exact absurd e (by decide)) | cases e
theorem tyx_int {K : PySem.W.Frag} {H : Hp} {v : V} {n : String} (h : TyX K H v (.type n)) (e : n = "int") : ∃ i, v = .int i := tyx_int0 h (by rw [e])
theorem tyx_of_int0 {K : PySem.W.Frag} {H : Hp} {v : V} {t : Value} (h : TyX K H v t) {i : Int} (e : v = .int i) : t = .type "int" := by
  cases h with
  | base b => cases b <;> first | rfl | cases e
  | _ => cases e
theorem tyx_of_int {K : PySem.W.Frag} {H : Hp} {i : Int} {n : String} (h : TyX K H (.int i) (.type n)) : n = "int" := by
  have e := tyx_of_int0 h rfl
  injection e
theorem kit_int {n : String} (h : n ∈ known) : kitB n "int" = some (n == "int" || n == "bool") := by
  simp only [known, List.mem_cons, List.not_mem_nil, or_false] at h
  rcases h with rfl | rfl | rfl | rfl | rfl | rfl | rfl <;> decide +kernel
theorem kit_bool {n : String} (h : n ∈ known) : kitB n "bool" = some (n == "bool") := by
  simp only [known, List.mem_cons, List.not_mem_nil, or_false] at h
  rcases h with rfl | rfl | rfl | rfl | rfl | rfl | rfl <;> decide +kernel
theorem kit_list {n : String} (h : n ∈ known) : kitB n "list" = some (n == "list") := by
  simp only [known, List.mem_cons, List.not_mem_nil, or_false] at h
  rcases h with rfl | rfl | rfl | rfl | rfl | rfl | rfl <;> decide +kernel
theorem among_not {K : PySem.W.Frag} {H : Hp} {v : V} {n : String} (h : TyN K H v n) (e : ¬ n = "int") (lo hi : Int) : amongV v lo hi = false := by
  cases v with
  | int i => exact absurd (tyx_of_int h.1) e
  | _ => rfl
theorem among_in {i lo hi : Int} (h : lo ≤ i) (h2 : i ≤ hi) : amongV (.int i) lo hi = true := by
  simp [amongV, h, h2]
theorem among_yes {v : V} {lo hi : Int} (h : amongV v lo hi = true) : ∃ i, v = .int i ∧ lo ≤ i ∧ i ≤ hi := by
  cases v with
  | int i =>
    simp only [amongV, Bool.and_eq_true, decide_eq_true_eq] at h
    exact ⟨i, rfl, h.1, h.2⟩
  | _ => simp [amongV] at h
theorem bAnd (a b : Nat) : Builtin.bitAnd (a : Int) (b : Int) = ((a &&& b : Nat) : Int) := by
  rw [PyProof.Rows.bitAnd_pp (by omega) (by omega), Int.toNat_natCast, Int.toNat_natCast]
theorem cast_pow (k : Nat) : ((2 : Int) ^ k) = ((2 ^ k : Nat) : Int) := (PySem.W.kbt_cast k).symm
theorem swar_int {n : Nat} {a b c d : Int} (ha : a = (n : Int) - Builtin.bitAnd ((n : Int) / 2 ^ (1 : Int).toNat) 1431655765)
    (hb : b = Builtin.bitAnd a 858993459 + Builtin.bitAnd (a / 2 ^ (2 : Int).toNat) 858993459) (hc : c = Builtin.bitAnd (b + b / 2 ^ (4 : Int).toNat) 252645135)
    (hd : d = c + c / 2 ^ (8 : Int).toNat) : Builtin.bitAnd (d + d / 2 ^ (16 : Int).toNat) 63 = ((swar n : Nat) : Int) := by
  have e1 : a = ((n - (n / 2 &&& 0x55555555) : Nat) : Int) := by
    have h1 : (n : Int) / 2 ^ (1 : Int).toNat = ((n / 2 : Nat) : Int) := by show (n : Int) / 2 ^ 1 = _; omega
    have h2 : (n / 2 &&& 0x55555555) ≤ n / 2 := Nat.and_le_left
    have h3 : Builtin.bitAnd ((n / 2 : Nat) : Int) 1431655765 = ((n / 2 &&& 0x55555555 : Nat) : Int) := bAnd _ 1431655765
    rw [ha, h1, h3]
    omega
  obtain ⟨an, han⟩ : ∃ an : Nat, an = n - (n / 2 &&& 0x55555555) := ⟨_, rfl⟩
  rw [← han] at e1
  have e2 : b = (((an &&& 0x33333333) + (an / 4 &&& 0x33333333) : Nat) : Int) := by
    have h1 : (an : Int) / 2 ^ (2 : Int).toNat = ((an / 4 : Nat) : Int) := by show (an : Int) / 2 ^ 2 = _; omega
    have h3 : Builtin.bitAnd ((an / 4 : Nat) : Int) 858993459 = ((an / 4 &&& 0x33333333 : Nat) : Int) := bAnd _ 858993459
    have h4 : Builtin.bitAnd (an : Int) 858993459 = ((an &&& 0x33333333 : Nat) : Int) := bAnd _ 858993459
    rw [hb, e1, h1, h3, h4]
    omega
  obtain ⟨bn, hbn⟩ : ∃ bn : Nat, bn = (an &&& 0x33333333) + (an / 4 &&& 0x33333333) := ⟨_, rfl⟩
  rw [← hbn] at e2
  have e3 : c = (((bn + bn / 16) &&& 0x0F0F0F0F : Nat) : Int) := by
    have h1 : (bn : Int) + (bn : Int) / 2 ^ (4 : Int).toNat = ((bn + bn / 16 : Nat) : Int) := by show (bn : Int) + (bn : Int) / 2 ^ 4 = _; omega
    have h3 : Builtin.bitAnd ((bn + bn / 16 : Nat) : Int) 252645135 = (((bn + bn / 16) &&& 0x0F0F0F0F : Nat) : Int) := bAnd _ 252645135
    rw [hc, e2, h1, h3]
  obtain ⟨cn, hcn⟩ : ∃ cn : Nat, cn = (bn + bn / 16) &&& 0x0F0F0F0F := ⟨_, rfl⟩
  rw [← hcn] at e3
  have e4 : d = ((cn + cn / 256 : Nat) : Int) := by
    rw [hd, e3]
    show (cn : Int) + (cn : Int) / 2 ^ 8 = _
    omega
  obtain ⟨dn, hdn⟩ : ∃ dn : Nat, dn = cn + cn / 256 := ⟨_, rfl⟩
  rw [← hdn] at e4
  have h1 : (dn : Int) + (dn : Int) / 2 ^ (16 : Int).toNat = ((dn + dn / 65536 : Nat) : Int) := by show (dn : Int) + (dn : Int) / 2 ^ 16 = _; omega
  have h3 : Builtin.bitAnd ((dn + dn / 65536 : Nat) : Int) 63 = (((dn + dn / 65536) &&& 0x3F : Nat) : Int) := bAnd _ 63
  rw [e4, h1, h3, hdn, hcn, hbn, han]
  rfl

/-! ### the promises -/
def spWhole (K : PySem.W.Frag) : Sp := fun vs H Q _ => ∃ (v : V) (n : String), vs = [v] ∧ TyN K H v n ∧ Q (.bl (n == "int")) H
def spAmong (K : PySem.W.Frag) : Sp := fun vs H Q _ => ∃ (v : V) (n : String) (lo hi : Int), vs = [v, .int lo, .int hi] ∧ TyN K H v n ∧ Q (.bl (amongV v lo hi)) H
def spOnes (K : PySem.W.Frag) (C : Addr) : Sp := fun vs H Q E => ∃ (v : V) (n : String), vs = [v] ∧ TyN K H v n ∧
  (amongV v 0 4294967295 = false → E (.ref C) none H) ∧ (∀ m : Nat, v = nV m → m < 2 ^ 32 → Q (nV (popc 32 m)) H)
def spPacked (K : PySem.W.Frag) : Sp := fun vs H Q _ => ∃ (a : Addr) (l : List Bool), vs = [.ref a] ∧ SqL K H a (l.map bV) ∧ l.length ≤ 4000 ∧
  ∀ (p : Addr) (H' : Hp), Same H H' → H p = none → H' p = some (.lst ((words l).map nV)) → Q (.ref p) H'
theorem ok_is_whole (T : Tx K mg A) : FnOk P w K mg base CX0 1 A.is_whole A.is_whole_d ["thing"] (spWhole K) := by
  refine T.is_whole.F.ok sc_is_whole (fun vs H Q E h => ?_) (fun cdv Ar outer s H vs Q E hr h => ?_)
  · obtain ⟨v, n, rfl, _⟩ := h
    rfl
  · obtain ⟨v, n, rfl, hk, k⟩ := h
    refine ⟨_, (pss_one (ps_ret (pe_and (pe_callB call_isi (by rfl) T.b_isinstance (by decide +kernel) (pa_cons (pv 0) (pa_cons (pe_bltn (u := .type "int") (v := .ty "int") (by rfl) T.b_int (by decide +kernel) rfl) pa_nil))) (pe_one (pe_not (pe_callB call_isi (by rfl) T.b_isinstance (by decide +kernel) (pa_cons (pv 0) (pa_cons (pe_bltn (u := .type "bool") (v := .ty "bool") (by rfl) T.b_bool (by decide +kernel) rfl) pa_nil)))))))), ?_⟩
    refine ⟨_, rfl, _, _, _, _, _, rfl, .ty _, hk.1, kit_ty (kit_int hk.2), _, rfl, ?_⟩
    by_cases e1 : (n == "int" || n == "bool") = true
    · rw [if_pos e1]
      refine ⟨_, rfl, _, _, _, _, _, rfl, .ty _, hk.1, kit_ty (kit_bool hk.2), _, rfl, ?_⟩
      have e2 : (!(n == "bool")) = (n == "int") := by
        by_cases h1 : n = "bool"
        · subst h1; rfl
        · have h2 : n = "int" := by simpa [h1] using e1
          subst h2; rfl
      show Q (.bl (!(n == "bool"))) H
      rw [e2]
      exact k
    · rw [if_neg e1]
      have e2 : (n == "int") = false := by
        cases h : (n == "int") with
        | false => rfl
        | true => rw [h] at e1; exact absurd rfl e1
      rw [e2] at k
      exact k
theorem ok_is_among (T : Tx K mg A) : FnOk P w K mg base CX0 2 A.is_among A.is_among_d ["thing", "least", "most"] (spAmong K) := by
  refine T.is_among.F.ok sc_is_among (fun vs H Q E h => ?_) (fun cdv Ar outer s H vs Q E hr h => ?_)
  · obtain ⟨v, n, lo, hi, rfl, _⟩ := h
    rfl
  · obtain ⟨v, n, lo, hi, rfl, hk, k⟩ := h
    refine ⟨_, (pss_one (ps_ret (pe_and (pe_call (E := E0) (ok_is_whole T) (hr.mono (by decide)) rfl T.is_whole.g T.is_whole.F.kp T.is_whole.b .nil pass0 (pa_cons (pv 0) pa_nil)) (pe_one (pe_chain op_le op_le (pv 1) (pv 0) (pv 2)))))), ?_⟩
    refine ⟨_, rfl, v, n, rfl, hk, _, rfl, ?_⟩
    by_cases e1 : n = "int"
    · obtain ⟨i, rfl⟩ := tyx_int hk.1 e1
      rw [if_pos (by rw [e1]; rfl)]
      refine ⟨_, rfl, _, rfl, _, _, rfl, rfl, _, rfl, ?_⟩
      by_cases h1 : lo ≤ i
      · rw [if_pos (decide_eq_true h1)]
        refine ⟨_, rfl, _, _, rfl, rfl, ?_⟩
        have e : amongV (.int i) lo hi = decide (i ≤ hi) := by simp [amongV, h1]
        rw [e] at k
        exact k
      · rw [if_neg (by simp [h1])]
        have e : amongV (.int i) lo hi = false := by simp [amongV, h1]
        rw [e] at k
        exact k
    · rw [if_neg (by simpa using e1)]
      rw [among_not hk e1] at k
      exact k
theorem ok_ones_in (T : Tx K mg A) : FnOk P w K mg base (L2.CX P w) 3 A.ones_in A.ones_in_d ["word"] (spOnes K A.xBadRow) := by
  refine T.ones_in.F.okX sc_ones_in (fun vs H Q E h => ?_) (fun cdv Ar outer s H vs Q E hr h => ?_)
  · obtain ⟨v, n, rfl, _⟩ := h
    rfl
  · obtain ⟨v, n, rfl, hk, kE, kQ⟩ := h
    refine ⟨_, (pss_cons (ps_if (pt_not (pt_val (pe_call (E := E0) (ok_is_among T) (hr.mono (by decide)) rfl T.is_among.g T.is_among.F.kp T.is_among.b .nil pass0 (pa_cons (pv 0) (pa_cons pe_int (pa_cons (pe_op op_sub (pe_op op_shl pe_int (pe_glob (v := V.int 32) rfl T.kWORD.choose_spec ⟨_, rfl⟩)) pe_int) pa_nil)))))) (pss_one (ps_raise rfl (takes_of rfl rfl rfl rfl) (pmk_own PySem.F.excBase_ValueError T.xBadRow.x T.xBadRow.g T.xBadRow.k (raises_own T.xBadRow.b T.xBadRow.t) rfl))) pss_nil)
      (PSs.nox (pss_cons (ps_set (i := 0) sc_ones_in.nd rfl (by first | exact Or.inl rfl | exact Or.inr rfl) (pe_op op_sub (pv 0) (pe_op op_and (pe_op op_shr (pv 0) pe_int) pe_int)))
      (pss_cons (ps_set (i := 0) sc_ones_in.nd rfl (by first | exact Or.inl rfl | exact Or.inr rfl) (pe_op op_add (pe_op op_and (pv 0) pe_int) (pe_op op_and (pe_op op_shr (pv 0) pe_int) pe_int)))
      (pss_cons (ps_set (i := 0) sc_ones_in.nd rfl (by first | exact Or.inl rfl | exact Or.inr rfl) (pe_op op_and (pe_op op_add (pv 0) (pe_op op_shr (pv 0) pe_int)) pe_int))
      (pss_cons (ps_set (i := 0) sc_ones_in.nd rfl (by first | exact Or.inl rfl | exact Or.inr rfl) (pe_op op_add (pv 0) (pe_op op_shr (pv 0) pe_int)))
      (pss_one (ps_ret (pe_op op_and (pe_op op_add (pv 0) (pe_op op_shr (pv 0) pe_int)) pe_int))))))))), ?_⟩
    refine ⟨_, rfl, _, _, rfl, rfl, ⟨by decide, by decide, by decide⟩, _, _, rfl, rfl, v, n, _, _, rfl, hk, _, rfl, ?_⟩
    have e0 : ((1 : Int) * 2 ^ (32 : Int).toNat - 1) = 4294967295 := by decide
    rw [e0]
    by_cases c : amongV v 0 4294967295 = true
    · rw [c]
      refine iteF ?_
      obtain ⟨i, rfl, i0, i1⟩ := among_yes c
      obtain ⟨m, rfl⟩ := Int.eq_ofNat_of_zero_le i0
      have hm : m < 2 ^ 32 := by omega
      refine ⟨_, rfl, _, rfl, _, _, rfl, rfl, (by show (0 : Int) ≤ _; decide), _, _, rfl, rfl, _, _, rfl, rfl, ?_⟩
      refine ⟨_, rfl, _, _, rfl, rfl, _, rfl, _, _, rfl, rfl, (by show (0 : Int) ≤ _; decide), _, _, rfl, rfl, _, _, rfl, rfl, ?_⟩
      refine ⟨_, rfl, _, rfl, _, _, rfl, rfl, (by show (0 : Int) ≤ _; decide), _, _, rfl, rfl, _, _, rfl, rfl, ?_⟩
      refine ⟨_, rfl, _, rfl, _, _, rfl, rfl, (by show (0 : Int) ≤ _; decide), _, _, rfl, rfl, ?_⟩
      refine ⟨_, rfl, _, rfl, _, _, rfl, rfl, (by show (0 : Int) ≤ _; decide), _, _, rfl, rfl, _, _, rfl, rfl, ?_⟩
      have q := kQ m rfl hm
      rw [← swar_eq hm] at q
      have e := swar_int (n := m) rfl rfl rfl rfl
      refine cast ?_ q
      unfold nV
      rw [← e]
    · have c' : amongV v 0 4294967295 = false := by simpa using c
      rw [c']
      refine iteT ?_
      exact kE c'
theorem bOr_bit {w k : Nat} (b : Bool) (h : w < 2 ^ k) : Builtin.bitOr (w : Int) ((b.toNat : Int) * 2 ^ k) = ((w + b.toNat * 2 ^ k : Nat) : Int) := by
  rw [Bits.bitOr_join (by omega) (by rw [cast_pow]; omega) (by omega), cast_pow]
  simp
theorem words_nil : words [] = [] := by decide
theorem ixN_m1 {n : Nat} (h : 0 < n) : ixN n (-1) = some (n - 1) := by
  unfold ixN
  rw [if_neg (by decide), if_pos (by omega)]
  congr 1
  omega
theorem atI_m1 {α : Type} {xs : List α} {v : α} (h : xs[xs.length - 1]? = some v) : atI xs (-1) = some v := by
  have hl : 0 < xs.length := by
    have := (List.getElem?_eq_some_iff.mp h).1
    omega
  unfold atI
  rw [ixN_m1 hl]
  exact h
theorem ok_packed (T : Tx K mg A) : FnOk P w K mg base CX0 1 A.packed A.packed_d ["bits"] (spPacked K) := by
  refine T.packed.F.ok sc_packed (fun vs H Q E h => ?_) (fun cdv Ar outer s H vs Q E hr h => ?_)
  · obtain ⟨a, l, rfl, _⟩ := h
    rfl
  · obtain ⟨a, l, rfl, hS, hl, k⟩ := h
    refine ⟨_, (pss_cons (ps_set (i := 1) sc_packed.nd rfl (by first | exact Or.inl rfl | exact Or.inr rfl) (pe_lst pa_nil))
      (pss_cons (ps_for PassesOwn.never rfl (pi_enum (by rfl) T.b_enumerate (pa_cons (pv 0) pa_nil)) (pg_tup (by rfl) (pgs_cons (pg_name (i := 2) sc_packed.nd rfl (by first | exact Or.inl rfl | exact Or.inr rfl)) (pgs_cons (pg_name (i := 3) sc_packed.nd rfl (by first | exact Or.inl rfl | exact Or.inr rfl)) pgs_nil))) (pss_cons (ps_if (pt_cmpR op_eq (pe_op op_mod (pv 2) (pe_glob (v := V.int 32) rfl T.kWORD.choose_spec ⟨_, rfl⟩)) pe_int (nomark _)) (pss_one (ps_expr (pe_bm PySem.F.plainAttrs_list PySem.F.slot_list_append PySem.F.type_list_append mt_append (pv 1) (pa_cons pe_int pa_nil)))) pss_nil)
      (pss_one (ps_asg (pe_op op_or (pe_ix ix_list (pv 1) (pe_un un_neg pe_int) (fun _ _ => rfl)) (pe_op op_shl (pv 3) (pe_op op_mod (pv 2) (pe_glob (v := V.int 32) rfl T.kWORD.choose_spec ⟨_, rfl⟩)))) (pg_sub (pv 1) (pe_un un_neg pe_int) set_list)))))
      (pss_one (ps_ret (pv 1))))), ?_⟩
    refine ⟨Nat.zero_le _, fun p hp => ?_⟩
    refine ⟨_, rfl, a, _, rfl, (Same.seq (fun b o e => by rw [upd_ne (ne_of_none e hp)]; exact e) hS), for_it (walk_enum (xs := l.map bV))
      (fun i σ H2 => ∃ (u v : Option V), σ = [some (.ref a), some (.ref p), u, v] ∧ Same H H2 ∧ H2 p = some (.lst ((words (l.take i)).map nV)))
      ⟨none, none, rfl, fun b o e => by rw [upd_ne (ne_of_none e hp)]; exact e, by rw [upd_same, List.take_zero, words_nil]; rfl⟩ (fun i σ H2 _ ⟨_, _, _, s2, _⟩ => s2.seq hS) ?_ ?_⟩
    · rintro i x σ H2 H3 hi ⟨u, v, rfl, s2, h2⟩ ⟨t, x1, y1, rfl, ht, rfl, e1, e2⟩
      cases e1
      rw [List.length_map] at hi
      have hb : (l.map bV)[i]? = some (bV l[i]) := by rw [List.getElem?_map, List.getElem?_eq_getElem hi]; rfl
      have e2 : bV l[i] = y1 := Option.some.inj (hb.symm.trans e2)
      subst e2
      have npt : p ≠ t := ne_of_none h2 ht
      have s3 : Same H (upd H2 t (.tup [.int (i : Nat), bV l[i]])) := fun b o e => by
        rw [upd_ne (ne_of_none (s2 _ _ e) ht)]
        exact s2 _ _ e
      have h3 : upd H2 t (.tup [.int (i : Nat), bV l[i]]) p = some (.lst ((words (l.take i)).map nV)) := by rw [upd_ne npt]; exact h2
      have len : (l.take i).length = i := by rw [List.length_take]; omega
      have tk : l.take (i + 1) = l.take i ++ [l[i]] := by rw [List.take_add_one, List.getElem?_eq_getElem hi]; rfl
      have hbb := toNat_lt2 l[i]
      refine ⟨t, _, rfl, SqT.of upd_same, rfl, _, _, rfl, _, _, rfl, rfl, ?_⟩
      refine ⟨_, rfl, _, _, rfl, rfl, (by show (0 : Int) < 32; decide), rfl, _, rfl, ?_⟩
      have hmod : ((i : Int) % 32).toNat = i % 32 := by omega
      refine ite2 (fun c => ?_) (fun c => ?_)
      · -- a new word
        have c' : (l.take i).length % 32 = 0 := by
          have q : V.int (((i : Nat) : Int) % 32) = V.int 0 := of_decide_eq_true c
          injection q with q
          omega
        refine ⟨_, rfl, .inl ⟨rfl, _, SqL.of h3⟩, p, _, _, rfl, rfl, h3, ?_, ?_⟩
        · rw [List.length_map, words_len, len]
          exact Nat.lt_of_le_of_lt (show wn i ≤ 200 by unfold wn; omega) (by decide)
        refine ⟨_, rfl, _, rfl, p, _, _, (.int 0), rfl, rfl, SqL.of upd_same, atI_last _ _, _, rfl, _, rfl, _, _, rfl, rfl, (by show (0 : Int) < 32; decide), _, _, rfl, rfl, ⟨by omega, by omega, by omega⟩, _, _, rfl, rfl, ?_⟩
        refine ⟨_, rfl, _, rfl, p, _, _, _, rfl, rfl, upd_same, ixN_m1 (by rw [List.length_append]; exact Nat.succ_pos _), ?_⟩
        have hb2 := bOr_bit (w := 0) (k := 0) l[i] (Nat.two_pow_pos _)
        refine ⟨_, _, rfl, fun b o e => ?_, ?_⟩
        · have np : b ≠ p := ne_of_none e hp
          rw [upd_ne np, upd_ne np]
          exact s3 _ _ e
        · rw [upd_same, tk, words_new c', hmod, show i % 32 = 0 by omega, List.length_append, List.length_singleton, Nat.add_sub_cancel, List.set_append_right _ _ (Nat.le_refl _), Nat.sub_self, List.map_append]
          simp at hb2
          show some (HO.lst (_ ++ [V.int (Builtin.bitOr 0 ((l[i].toNat : Int) * 1))])) = _
          rw [Int.mul_one, hb2]
          rfl
      · have c' : (l.take i).length % 32 ≠ 0 := by
          intro z
          apply c
          have e : ((i : Nat) : Int) % 32 = 0 := by omega
          show decide (V.int (((i : Nat) : Int) % 32) = V.int 0) = true
          rw [e]
          rfl
        have hl2 := words_last c'
        have hlen : 0 < ((words (l.take i)).map nV).length := by rw [List.length_map, words_len]; unfold wn; omega
        refine ⟨_, rfl, _, rfl, p, _, _, _, rfl, rfl, SqL.of h3, atI_m1 (v := nV (wordOf ((l.take i).drop (32 * (wn (l.take i).length - 1))))) ?_, _, rfl, _, rfl, _, _, rfl, rfl, (by show (0 : Int) < 32; decide), _, _, rfl, rfl, ⟨by omega, by omega, by omega⟩, _, _, rfl, rfl, ?_⟩
        · rw [List.length_map, words_len, List.getElem?_map, hl2]
          rfl
        refine ⟨_, rfl, _, rfl, p, _, _, _, rfl, rfl, h3, ixN_m1 hlen, ?_⟩
        have hb2 := bOr_bit (k := (l.take i).length % 32) l[i] (last_lt c')
        refine ⟨_, _, rfl, fun b o e => ?_, ?_⟩
        · rw [upd_ne (ne_of_none e hp)]
          exact s3 _ _ e
        · rw [upd_same, tk, words_on c', hmod, List.length_map, words_len, List.map_set]
          rw [len] at hb2 ⊢
          show some (HO.lst (((words (l.take i)).map nV).set _ (V.int (Builtin.bitOr (wordOf ((l.take i).drop (32 * (wn i - 1))) : Int) ((l[i].toNat : Int) * 2 ^ (i % 32)))))) = _
          rw [hb2]
          rfl
    · rintro σ H2 ⟨u, v, rfl, s2, h2⟩
      rw [List.length_map, List.take_length] at h2
      refine ⟨_, rfl, ?_⟩
      exact k p _ s2 hp h2

/-! ### comprehensions whose elements are reckoned apart -/
theorem same_new {H H' : Hp} {p : Addr} {o : HO} (s : Same H H') (h : H' p = none) : Same H (upd H' p o) := fun b u e => by
  rw [upd_ne (ne_of_none (s _ _ e) h)]
  exact s _ _ e
theorem same_mut {H H' : Hp} {p : Addr} {o : HO} (s : Same H H') (h : H p = none) : Same H (upd H' p o) := fun b u e => by
  rw [upd_ne (ne_of_none e h)]
  exact s _ _ e
theorem seqT_of {K : PySem.W.Frag} {H H' : Hp} {a : Addr} {xs : List V} (e : Same H H') (h : SqT K H a xs) : SqT K H' a xs := by
  rcases h with (h | ⟨o, h⟩) | h
  · exact .inl (.inl (e _ _ h))
  · exact .inl (.inr ⟨o, e _ _ h⟩)
  · exact .inr h
theorem tyx_same {K : PySem.W.Frag} {H H' : Hp} {v : V} {t : Value} (s : Same H H') (h : TyX K H v t) : TyX K H' v t := by
  cases h with
  | base b => exact .base (by
      cases b with
      | non => exact .non
      | bl x => exact .bl x
      | int i => exact .int i
      | str x => exact .str x
      | flt x => exact .flt x
      | lst e => exact .lst (s _ _ e)
      | frz e => exact .frz (s _ _ e)
      | tup e => exact .tup (s _ _ e)
      | dK e => exact .dK (s _ _ e)
      | dT e => exact .dT (s _ _ e)
      | ins e cl ha hn htk hm => exact .ins (s _ _ e) cl ha hn htk hm)
  | byt b => exact .byt b
  | set e => exact .set (s _ _ e)
  | kList e c => exact .kList e c
  | kTuple e c => exact .kTuple e c
  | kDict e c => exact .kDict e c
  | fTuple e => exact .fTuple (s _ _ e)
  | fDict e => exact .fDict (s _ _ e)
theorem TyN.same {K : PySem.W.Frag} {H H' : Hp} {v : V} {n : String} (s : Same H H') (h : TyN K H v n) : TyN K H' v n := ⟨tyx_same s h.1, h.2⟩
theorem line5 {n : Nat} (h : n ≤ 100000) : n < sizeLine := Nat.lt_of_le_of_lt h (by decide)
/-- in a comprehension's block the written part is the def's -/
theorem pe_fldK {X : Cx} {KK : PySem.W.Frag} {e : Expr} {f : Str} {pos : Pos} {ta : TE} (hK : X.K = KK) (he : PE X e ta) (hb : attributeBase e f X.env (eval e X.env) = eval e X.env) : PE X (.Attribute e f pos) (tFld KK ta f) := by
  subst hK
  exact pe_fld he hb
abbrev rLenK (K : PySem.W.Frag) : List V → Hp → VK → Prop := fun xs H Q => ∃ p ys, xs = [.ref p] ∧ (SqL K H p ys ∨ SqT K H p ys) ∧ Q (.int ys.length) H
theorem tYes_i {σ : St} {H : Hp} {Q : Bool → Hp → Prop} (h : Q true H) : tYes σ H Q := h
/-- [e for x in xs] -/
theorem lc_map {a : Addr} {xs : List V} {te : TE} {vs : List Nat} {j : Nat} {σ : St} {H1 : Hp} {D : Addr} {Qd : Hp → Prop} (f : V → V) (hq : SqL K H1 a xs) (hz : xs.length ≤ 100000) (hD : H1 D = none)
    (hw : ∀ x, wipe ((wipe σ vs).set j (some x)) vs = wipe σ vs)
    (he : ∀ (i : Nat) (x : V) (H' : Hp), xs[i]? = some x → Same H1 H' → ∀ Q : VK, (∀ H'', Same H' H'' → Q (f x) H'') → te ((wipe σ vs).set j (some x)) H' Q)
    (hd : ∀ H', Same H1 H' → H' D = some (.lst (xs.map f)) → Qd H') :
    ∃ W : Nat → Nat → Hp → Prop, (∃ m, W 0 m (upd H1 D (.lst []))) ∧ ∀ i m H, W i m H →
      ((Itl K a).stop i H ∧ Qd H) ∨ ((Itl K a).go i H ∧ ∃ Nx : Hp → Prop, (∀ H', Nx H' → ∃ m', m' < m ∧ W (i + 1) m' H') ∧ ∀ x H', (Itl K a).yld i H x H' → gName j x (wipe σ vs) H' fun σ2 H2 => wipe σ2 vs = wipe σ vs ∧ tYes σ2 H2 fun b H3 =>
        if b = true then te σ2 H3 fun y H4 => ∃ acc, H4 D = some (.lst acc) ∧ acc.length < sizeLine ∧ Nx (upd H4 D (.lst (acc ++ [y]))) else Nx H3) := by
  refine lc_list (K := K) (a := a) (xs := xs) (fun i H => Same H1 H ∧ H D = some (.lst ((xs.take i).map f))) ⟨same_mut (Same.refl _) hD, by rw [upd_same]; rfl⟩ (fun i H _ h => h.1.seq hq) (fun i x H hi h => ?_) (fun H h => hd H h.1 (by rw [h.2, List.take_length]))
  refine ⟨hw x, ?_⟩
  refine tYes_i ?_
  rw [if_pos rfl]
  have hil : i < xs.length := (List.getElem?_eq_some_iff.mp hi).1
  refine he i x H hi h.1 _ fun H'' s2 => ⟨(xs.take i).map f, s2 _ _ h.2, ?_, same_mut (h.1.trans s2) hD, ?_⟩
  · rw [List.length_map, List.length_take]
    exact line5 (by omega)
  · rw [upd_same, List.take_add_one, hi, List.map_append]
    rfl
/-- [e for x in range(n)] -/
theorem lc_rng {te : TE} {vs : List Nat} {j : Nat} {n : Nat} {σ : St} {H1 : Hp} {D : Addr} {Qd : Hp → Prop} (f : Nat → V) (hz : n ≤ 100000) (hD : H1 D = none)
    (hw : ∀ x, wipe ((wipe σ vs).set j (some x)) vs = wipe σ vs)
    (he : ∀ (i : Nat) (H' : Hp), i < n → Same H1 H' → ∀ Q : VK, (∀ H'', Same H' H'' → Q (f i) H'') → te ((wipe σ vs).set j (some (.int (i : Nat)))) H' Q)
    (hd : ∀ H', Same H1 H' → H' D = some (.lst ((List.range n).map f)) → Qd H') :
    ∃ W : Nat → Nat → Hp → Prop, (∃ m, W 0 m (upd H1 D (.lst []))) ∧ ∀ i m H, W i m H →
      ((Itr 0 n).stop i H ∧ Qd H) ∨ ((Itr 0 n).go i H ∧ ∃ Nx : Hp → Prop, (∀ H', Nx H' → ∃ m', m' < m ∧ W (i + 1) m' H') ∧ ∀ x H', (Itr 0 n).yld i H x H' → gName j x (wipe σ vs) H' fun σ2 H2 => wipe σ2 vs = wipe σ vs ∧ tYes σ2 H2 fun b H3 =>
        if b = true then te σ2 H3 fun y H4 => ∃ acc, H4 D = some (.lst acc) ∧ acc.length < sizeLine ∧ Nx (upd H4 D (.lst (acc ++ [y]))) else Nx H3) := by
  refine lc_range (lo := 0) (n := n) (fun i H => Same H1 H ∧ H D = some (.lst ((List.range i).map f))) ⟨same_mut (Same.refl _) hD, by rw [upd_same]; rfl⟩ (fun i H hi h => ?_) (fun H h => hd H h.1 h.2)
  refine ⟨hw _, ?_⟩
  refine tYes_i ?_
  rw [if_pos rfl]
  have e0 : (0 : Int) + (i : Nat) = ((i : Nat) : Int) := by omega
  rw [e0]
  refine he i H hi h.1 _ fun H'' s2 => ⟨(List.range i).map f, s2 _ _ h.2, ?_, same_mut (h.1.trans s2) hD, ?_⟩
  · rw [List.length_map, List.length_range]
    exact line5 (by omega)
  · rw [upd_same, List.range_succ, List.map_append]
    rfl
/-- [x for x in xs if t] -/
theorem lc_filt {a : Addr} {xs : List V} {tt : TT} {vs : List Nat} {j : Nat} {σ : St} {H1 : Hp} {D : Addr} {Qd : Hp → Prop} {te : TE} (f : V → Bool) (hq : SqL K H1 a xs) (hz : xs.length ≤ 100000) (hD : H1 D = none)
    (hw : ∀ x, wipe ((wipe σ vs).set j (some x)) vs = wipe σ vs)
    (ht : ∀ (i : Nat) (x : V) (H' : Hp), xs[i]? = some x → Same H1 H' → ∀ Q : Bool → Hp → Prop, (∀ H'', Same H' H'' → Q (f x) H'') → tt ((wipe σ vs).set j (some x)) H' Q)
    (he : ∀ (i : Nat) (x : V) (H' : Hp), xs[i]? = some x → Same H1 H' → ∀ Q : VK, Q x H' → te ((wipe σ vs).set j (some x)) H' Q)
    (hd : ∀ H', Same H1 H' → H' D = some (.lst (xs.filter f)) → Qd H') :
    ∃ W : Nat → Nat → Hp → Prop, (∃ m, W 0 m (upd H1 D (.lst []))) ∧ ∀ i m H, W i m H →
      ((Itl K a).stop i H ∧ Qd H) ∨ ((Itl K a).go i H ∧ ∃ Nx : Hp → Prop, (∀ H', Nx H' → ∃ m', m' < m ∧ W (i + 1) m' H') ∧ ∀ x H', (Itl K a).yld i H x H' → gName j x (wipe σ vs) H' fun σ2 H2 => wipe σ2 vs = wipe σ vs ∧ tt σ2 H2 fun b H3 =>
        if b = true then te σ2 H3 fun y H4 => ∃ acc, H4 D = some (.lst acc) ∧ acc.length < sizeLine ∧ Nx (upd H4 D (.lst (acc ++ [y]))) else Nx H3) := by
  refine lc_list (K := K) (a := a) (xs := xs) (fun i H => Same H1 H ∧ H D = some (.lst ((xs.take i).filter f))) ⟨same_mut (Same.refl _) hD, by rw [upd_same]; rfl⟩ (fun i H _ h => h.1.seq hq) (fun i x H hi h => ?_) (fun H h => hd H h.1 (by rw [h.2, List.take_length]))
  refine ⟨hw x, ?_⟩
  have hil : i < xs.length := (List.getElem?_eq_some_iff.mp hi).1
  have tk : xs.take (i + 1) = xs.take i ++ [x] := by rw [List.take_add_one, hi]; rfl
  refine ht i x H hi h.1 _ fun H'' s2 => ?_
  cases hf : f x with
  | true =>
    rw [if_pos rfl]
    refine he i x H'' hi (h.1.trans s2) _ ⟨(xs.take i).filter f, s2 _ _ h.2, ?_, same_mut (h.1.trans s2) hD, ?_⟩
    · have := List.length_filter_le f (xs.take i)
      rw [List.length_take] at this
      exact line5 (by omega)
    · rw [upd_same, tk, List.filter_append]
      simp [hf]
  | false =>
    rw [if_neg Bool.false_ne_true]
    refine ⟨h.1.trans s2, ?_⟩
    rw [s2 _ _ h.2, tk, List.filter_append]
    simp [hf]
/-- [i for i in range(n) if t] -/
theorem lc_rngf {te : TE} {tt : TT} {vs : List Nat} {j : Nat} {n : Nat} {σ : St} {H1 : Hp} {D : Addr} {Qd : Hp → Prop} (f : Nat → Bool) (hz : n ≤ 100000) (hD : H1 D = none)
    (hw : ∀ x, wipe ((wipe σ vs).set j (some x)) vs = wipe σ vs)
    (ht : ∀ (i : Nat) (H' : Hp), i < n → Same H1 H' → ∀ Q : Bool → Hp → Prop, (∀ H'', Same H' H'' → Q (f i) H'') → tt ((wipe σ vs).set j (some (.int (i : Nat)))) H' Q)
    (he : ∀ (i : Nat) (H' : Hp), i < n → Same H1 H' → ∀ Q : VK, Q (nV i) H' → te ((wipe σ vs).set j (some (.int (i : Nat)))) H' Q)
    (hd : ∀ H', Same H1 H' → H' D = some (.lst (((List.range n).filter f).map nV)) → Qd H') :
    ∃ W : Nat → Nat → Hp → Prop, (∃ m, W 0 m (upd H1 D (.lst []))) ∧ ∀ i m H, W i m H →
      ((Itr 0 n).stop i H ∧ Qd H) ∨ ((Itr 0 n).go i H ∧ ∃ Nx : Hp → Prop, (∀ H', Nx H' → ∃ m', m' < m ∧ W (i + 1) m' H') ∧ ∀ x H', (Itr 0 n).yld i H x H' → gName j x (wipe σ vs) H' fun σ2 H2 => wipe σ2 vs = wipe σ vs ∧ tt σ2 H2 fun b H3 =>
        if b = true then te σ2 H3 fun y H4 => ∃ acc, H4 D = some (.lst acc) ∧ acc.length < sizeLine ∧ Nx (upd H4 D (.lst (acc ++ [y]))) else Nx H3) := by
  refine lc_range (lo := 0) (n := n) (fun i H => Same H1 H ∧ H D = some (.lst (((List.range i).filter f).map nV))) ⟨same_mut (Same.refl _) hD, by rw [upd_same]; rfl⟩ (fun i H hi h => ?_) (fun H h => hd H h.1 h.2)
  refine ⟨hw _, ?_⟩
  have e0 : (0 : Int) + (i : Nat) = ((i : Nat) : Int) := by omega
  rw [e0]
  refine ht i H hi h.1 _ fun H'' s2 => ?_
  cases hf : f i with
  | true =>
    rw [if_pos rfl]
    refine he i H'' hi (h.1.trans s2) _ ⟨((List.range i).filter f).map nV, s2 _ _ h.2, ?_, same_mut (h.1.trans s2) hD, ?_⟩
    · have := List.length_filter_le f (List.range i)
      rw [List.length_range] at this
      rw [List.length_map]
      exact line5 (by omega)
    · rw [upd_same, List.range_succ, List.filter_append]
      simp [hf]
  | false =>
    rw [if_neg Bool.false_ne_true]
    refine ⟨h.1.trans s2, ?_⟩
    rw [s2 _ _ h.2, List.range_succ, List.filter_append]
    simp [hf]

/-! ### a row of bits: the object -/
theorem f_sp : ¬ (("size" : Str) = "packs") := by decide +kernel
theorem f_sh : ¬ (("size" : Str) = "heads") := by decide +kernel
theorem f_ph : ¬ (("packs" : Str) = "heads") := by decide +kernel
theorem f_hp : ¬ (("heads" : Str) = "packs") := by decide +kernel
def brf (n : Nat) (a b : Addr) : List (Str × V) := putF "heads" (.ref b) (putF "packs" (.ref a) (putF "size" (.int (n : Int)) []))
theorem brf_size (n : Nat) (a b : Addr) : (brf n a b).lookup ("size" : Str) = some (.int (n : Int)) := by
  unfold brf
  rw [lookup_putF, if_neg f_sh, lookup_putF, if_neg f_sp, lookup_putF, if_pos rfl]
theorem brf_packs (n : Nat) (a b : Addr) : (brf n a b).lookup ("packs" : Str) = some (.ref a) := by
  unfold brf
  rw [lookup_putF, if_neg f_ph, lookup_putF, if_pos rfl]
theorem brf_heads (n : Nat) (a b : Addr) : (brf n a b).lookup ("heads" : Str) = some (.ref b) := by
  unfold brf
  rw [lookup_putF, if_pos rfl]
theorem brf_no (n : Nat) (a b : Addr) {m : Str} (h1 : ¬ m = "heads") (h2 : ¬ m = "packs") (h3 : ¬ m = "size") : (brf n a b).lookup m = none := by
  unfold brf
  rw [lookup_putF, if_neg h1, lookup_putF, if_neg h2, lookup_putF, if_neg h3]
  rfl
structure BRowAt (C : Addr) (H : Hp) (p a b : Addr) (l : List Bool) : Prop where
  ob : ∃ dx, H p = some (.ins C dx (brf l.length a b))
  pk : H a = some (.lst ((words l).map nV))
  hd : H b = some (.lst ((marks l).map nV))
  ne : a ≠ b
  len : l.length ≤ 4000
def BRow (C : Addr) (H : Hp) (p : Addr) (l : List Bool) : Prop := ∃ a b, BRowAt C H p a b l
theorem BRowAt.same {C : Addr} {H H' : Hp} {p a b : Addr} {l : List Bool} (s : Same H H') (R : BRowAt C H p a b l) : BRowAt C H' p a b l :=
  ⟨R.ob.imp fun _ h => s _ _ h, s _ _ R.pk, s _ _ R.hd, R.ne, R.len⟩
theorem BRow.same {C : Addr} {H H' : Hp} {p : Addr} {l : List Bool} (s : Same H H') (R : BRow C H p l) : BRow C H' p l := by
  obtain ⟨a, b, R⟩ := R
  exact ⟨a, b, R.same s⟩
/-- all but the object at p stands as before -/
def Keep (p : Addr) (H H' : Hp) : Prop := ∀ b o, H b = some o → b ≠ p → H' b = some o
theorem Keep.upd {p : Addr} {H H' : Hp} (k : Keep p H H') (o : HO) : Keep p H (upd H' p o) := fun b u e n => by
  rw [upd_ne n]
  exact k b u e n
theorem Keep.same {p : Addr} {H H' H'' : Hp} (k : Keep p H H') (s : Same H' H'') : Keep p H H'' := fun b u e n => s _ _ (k b u e n)
theorem keep_of {p : Addr} {H H' : Hp} (s : Same H H') : Keep p H H' := fun b u e _ => s _ _ e
theorem Keep.trans {p : Addr} {H H' H'' : Hp} (k : Keep p H H') (s : Keep p H' H'') : Keep p H H'' := fun b u e n => s _ _ (k b u e n) n
/-- the heap without one object -/
def off (q : Addr) (H : Hp) : Hp := fun b => if b = q then none else H b
theorem off_q {q : Addr} {H : Hp} : off q H q = none := by
  unfold off
  rw [if_pos rfl]
theorem off_ne {q b : Addr} {H : Hp} (h : b ≠ q) : off q H b = H b := by
  unfold off
  rw [if_neg h]
theorem off_same {q : Addr} {H : Hp} : Same (off q H) H := fun b o e => by
  by_cases h : b = q
  · rw [h, off_q] at e
    cases e
  · rw [off_ne h] at e
    exact e
theorem same_off {q : Addr} {B H : Hp} (s : Same B H) (h : B q = none) : Same B (off q H) := fun b o e => by
  rw [off_ne (ne_of_none e h)]
  exact s _ _ e
theorem sql_keep {K : PySem.W.Frag} {H H' : Hp} {p a C dx : Addr} {fs : List (Str × V)} {xs : List V} (k : Keep p H H') (hp : H p = some (.ins C dx fs)) (h : SqL K H a xs) : SqL K H' a xs := by
  rcases h with (h | ⟨o, h⟩) | h
  · exact .inl (.inl (k _ _ h (ne_of h hp (by intro z; cases z))))
  · exact .inl (.inr ⟨o, k _ _ h (ne_of h hp (by intro z; cases z))⟩)
  · exact .inr h
theorem bits_of : ∀ {xs : List V}, (∀ x ∈ xs, amongV x 0 1 = true) → ∃ l : List Bool, xs = l.map bV
  | [], _ => ⟨[], rfl⟩
  | x :: xs, h => by
    obtain ⟨l, e⟩ := bits_of (xs := xs) fun y hy => h y (List.mem_cons_of_mem _ hy)
    obtain ⟨i, rfl, h0, h1⟩ := among_yes (h x List.mem_cons_self)
    by_cases e0 : i = 0
    · exact ⟨false :: l, by rw [e, e0]; rfl⟩
    · have e1 : i = 1 := by omega
      exact ⟨true :: l, by rw [e, e1]; rfl⟩
theorem bV_among (b : Bool) : amongV (bV b) 0 1 = true := by cases b <;> decide

def spBInit (K : PySem.W.Frag) (C X : Addr) : Sp := fun vs H Q E => ∃ (p dx : Addr) (v : V) (n : String), vs = [.ref p, v] ∧ H p = some (.ins C dx []) ∧ TyN K H v n ∧
  (n ≠ "list" → ∀ H', Same H H' → E (.ref X) none H') ∧
  (n = "list" → ∃ (a : Addr) (xs : List V), v = .ref a ∧ SqL K H a xs ∧ (∀ x ∈ xs, ∃ m, TyN K H x m) ∧
    ((4000 < xs.length ∨ ∃ x ∈ xs, amongV x 0 1 = false) → ∀ H', Same H H' → E (.ref X) none H') ∧
    (∀ l : List Bool, xs = l.map bV → l.length ≤ 4000 → ∀ (H' : Hp) (q b : Addr), Keep p H H' → H q = none → H b = none → BRowAt C H' p q b l → Q .non H'))
theorem hdwords {l : List Bool} {i : Nat} {w : Nat} (h : (words l)[i]? = some w) : i < wn l.length ∧ w = wordOf ((l.drop (32 * i)).take 32) := by
  have hi : i < (words l).length := (List.getElem?_eq_some_iff.mp h).1
  rw [words_len] at hi
  rw [words_at hi] at h
  exact ⟨hi, (Option.some.inj h).symm⟩
set_option maxHeartbeats 1000000 in
theorem ok_B_init (T : Tx K mg A) : FnOk P w K mg base (L2.CX P w) 4 A.B_init A.B_init_d ["self", "bits"] (spBInit K A.cB A.xBadRow) := by
  refine T.B_init.F.okX sc_B_init (fun vs H Q E h => ?_) (fun cdv Ar outer s H vs Q E hr h => ?_)
  · obtain ⟨p, dx, v, n, rfl, _⟩ := h
    rfl
  · obtain ⟨p, dx, v, n, rfl, hp, hk, kN, kL⟩ := h
    refine ⟨_, (pss_cons (ps_if (PW.pt (pw_or (pt_not (pt_val (pe_callB call_isi (by rfl) T.b_isinstance (by decide +kernel) (pa_cons (pv 1) (pa_cons (pe_bltn (u := .type "list") (v := .ty "list") (by rfl) T.b_list (by decide +kernel) rfl) pa_nil))))) (pw_or (pt_cmpR op_gt (pe_callB call_len_seq (by rfl) T.b_len (by decide +kernel) (pa_cons (pv 1) pa_nil)) (pe_glob (v := V.int 4000) rfl T.kMOST_BITS.choose_spec ⟨_, rfl⟩) (nomark _)) (pw_or1 (pt_not (pt_val (pe_callB (cr_all rfl) (by rfl) T.b_all (by decide +kernel) (pa_cons (pe_lc (own := [("bit", 2)]) (g := gName 2) (tt := tYes) rfl sc_B_init.nd (pi_list (pv 1)) (blkOk_by (N := n_B_init) (sc := defScope s_B_init) (by decide +kernel)) (fun _ _ _ _ _ => (pg_name (i := 2) sc_B_init.nd rfl (by first | exact Or.inl rfl | exact Or.inr rfl))) (fun _ _ _ _ _ => pts_nil) (fun _ _ _ _ _ => (pe_call (E := E0) (ok_is_among T) (hr.mono (by decide)) rfl T.is_among.g T.is_among.F.kp T.is_among.b .nil pass0 (pa_cons (pv 2) (pa_cons pe_int (pa_cons pe_int pa_nil)))))) pa_nil)))))))) (pss_one (ps_raise rfl (takes_of rfl rfl rfl rfl) (pmk_own PySem.F.excBase_ValueError T.xBadRow.x T.xBadRow.g T.xBadRow.k (raises_own T.xBadRow.b T.xBadRow.t) rfl))) pss_nil)
      (PSs.nox (pss_cons (ps_fld (pv 0) (pe_callB call_len_seq (by rfl) T.b_len (by decide +kernel) (pa_cons (pv 1) pa_nil)) rfl)
      (pss_cons (ps_fld (pv 0) (pe_call (E := E0) (ok_packed T) (hr.mono (by decide)) rfl T.packed.g T.packed.F.kp T.packed.b .nil pass0 (pa_cons (pv 1) pa_nil)) rfl)
      (pss_cons (ps_fld (pv 0) (pe_lst pa_nil) rfl)
      (pss_cons (ps_set (i := 3) sc_B_init.nd rfl (by first | exact Or.inl rfl | exact Or.inr rfl) pe_int)
      (pss_one (ps_for PassesOwn.never rfl (pi_list (pe_fld (pv 0) rfl)) (pg_name (i := 4) sc_B_init.nd rfl (by first | exact Or.inl rfl | exact Or.inr rfl)) (pss_cons (ps_expr (pe_bm PySem.F.plainAttrs_list PySem.F.slot_list_append PySem.F.type_list_append mt_append (pe_fld (pv 0) rfl) (pa_cons (pv 3) pa_nil)))
      (pss_one (ps_set (i := 3) sc_B_init.nd rfl (by first | exact Or.inl rfl | exact Or.inr rfl) (pe_op op_add (pv 3) (pe_call (E := E0) (ok_ones_in T) (hr.mono (by decide)) rfl T.ones_in.g T.ones_in.F.kp T.ones_in.b .nil passL (pa_cons (pv 4) pa_nil)))))))))))))), ?_⟩
    refine ⟨_, rfl, _, _, _, _, _, rfl, .ty _, hk.1, kit_ty (kit_list hk.2), _, rfl, ?_⟩
    by_cases en : n = "list"
    · obtain ⟨a, xs, rfl, hS, hty, kE, kQ⟩ := kL en
      have e1 : (n == "list") = true := by rw [en]; rfl
      rw [e1]
      refine iteF ?_
      refine ⟨_, rfl, a, xs, rfl, .inl hS, _, _, rfl, rfl, _, rfl, ?_⟩
      refine ite2 (fun c => ?_) (fun c => ?_)
      · refine iteT ?_
        exact kE (.inl (by have := of_decide_eq_true c; omega)) H (Same.refl H)
      · have hz : xs.length ≤ 4000 := by
          have : ¬ ((4000 : Int) < (xs.length : Nat)) := fun z => c (decide_eq_true z)
          omega
        refine ⟨_, rfl, a, rfl, ⟨_, hS⟩, fun D hD => lc_map (xs := xs) (fun x => V.bl (amongV x 0 1)) hS (by omega) hD (fun _ => rfl) (fun i x H' hx s1 Q' kq => ?_) (fun H1 s1 hD1 => ?_)⟩
        · obtain ⟨m, hm⟩ := hty x (List.mem_of_getElem? hx)
          exact ⟨_, rfl, x, m, 0, 1, rfl, hm.same s1, kq H' (Same.refl H')⟩
        · have eD : xs.map (fun x => V.bl (amongV x 0 1)) = (xs.map fun x => amongV x 0 1).map V.bl := by rw [List.map_map]; rfl
          rw [eD] at hD1
          refine ⟨D, _, rfl, SqL.of hD1, _, rfl, ?_⟩
          by_cases ca : ((xs.map fun x => amongV x 0 1).all id) = true
          · rw [ca]
            refine iteF ?_
            have hall : ∀ x ∈ xs, amongV x 0 1 = true := fun x hx => by
              rw [List.all_map, List.all_eq_true] at ca
              exact ca x hx
            obtain ⟨l, rfl⟩ := bits_of hall
            rw [List.length_map] at hz
            have hp1 := s1 _ _ hp
            have hS1 := s1.seq hS
            -- self.size = len(bits)
            refine ⟨_, rfl, a, _, rfl, .inl hS1, _, rfl, p, A.cB, dx, [], rfl, hp1, T.clB, T.nB_size, (by show 0 < 1000; decide), ?_⟩
            -- self.packs = packed(bits)
            refine ⟨_, rfl, a, l, rfl, sql_keep ((keep_of (Same.refl H1)).upd _) hp1 hS1, hz, fun q H2 s2 hq hq2 => ?_⟩
            have npq : p ≠ q := ne_of_none upd_same hq
            refine ⟨_, rfl, p, A.cB, dx, _, rfl, s2 _ _ upd_same, T.clB, T.nB_packs, (by show 1 < 1000; decide), ?_⟩
            -- self.heads = []
            refine ⟨Nat.zero_le _, fun b hb => ?_⟩
            have npb : p ≠ b := ne_of_none upd_same hb
            have hb2 : H2 b = none := by rw [upd_ne npb.symm] at hb; exact hb
            have nqb : q ≠ b := ne_of_none hq2 hb2
            refine ⟨_, rfl, p, A.cB, dx, _, rfl, (by rw [upd_ne npb]; exact upd_same), T.clB, T.nB_heads, (by show 2 < 1000; decide), ?_⟩
            have hq0 : H q = none := by
              have : H1 q = none := by rw [upd_ne npq.symm] at hq; exact hq
              exact s1.free this
            have hb0 : H b = none := by
              have e : (upd H1 p (.ins A.cB dx (putF "size" (V.int (((l.map bV).length : Nat) : Int)) []))) b = none := s2.free hb2
              rw [upd_ne npb.symm] at e
              exact s1.free e
            have kp : Keep p H H2 := ((keep_of s1).upd _).same s2
            have ebr : putF "heads" (V.ref b) (putF "packs" (V.ref q) (putF "size" (V.int (((l.map bV).length : Nat) : Int)) [])) = brf l.length q b := by rw [List.length_map]; rfl
            -- many = 0; for word in self.packs
            refine ⟨_, rfl, p, A.cB, dx, _, _, rfl, upd_same, T.clB, T.nB_packs, (by rw [ebr]; exact brf_packs _ _ _), q, rfl, ⟨_, SqL.of (by rw [upd_ne npq.symm, upd_ne nqb, upd_ne npq.symm]; exact hq2)⟩, ?_⟩
            refine for_list (K := K) (a := q) (xs := (words l).map nV) (fun i σ H3 => ∃ u : Option V, σ = [some (.ref p), some (.ref a), none, some (.int (cnt (l.take (32 * i)) : Nat)), u] ∧ Keep p H H3 ∧ H3 p = some (.ins A.cB dx (brf l.length q b)) ∧
              H3 q = some (.lst ((words l).map nV)) ∧ H3 b = some (.lst (((List.range i).map fun k => cnt (l.take (32 * k))).map nV)) ∧ H q = none ∧ H b = none)
              ⟨none, rfl, ?_, by rw [upd_same, ebr], by rw [upd_ne npq.symm, upd_ne nqb, upd_ne npq.symm]; exact hq2, by rw [upd_ne npb.symm, upd_same]; rfl, hq0, hb0⟩ (fun i σ H3 _ ⟨_, _, _, _, h3, _⟩ => SqL.of h3) ?_ ?_
            · refine Keep.upd (fun b' o e n => ?_) _
              have nb : b' ≠ b := ne_of_none e hb0
              rw [upd_ne nb, upd_ne n]
              exact kp b' o e n
            · rintro i y σ H3 hi ⟨u, rfl, k3, hp3, hq3, hb3, q0, b0⟩
              rw [List.getElem?_map] at hi
              obtain ⟨w0, hw0, ey⟩ : ∃ w0, (words l)[i]? = some w0 ∧ nV w0 = y := by
                cases e : (words l)[i]? with
                | none => rw [e] at hi; cases hi
                | some w0 => rw [e] at hi; exact ⟨w0, rfl, Option.some.inj hi⟩
              subst ey
              obtain ⟨hi2, ew⟩ := hdwords hw0
              have wl : w0 < 2 ^ 32 := by rw [ew]; exact word_lt l i
              have n2 : p ≠ b := ne_of hp3 hb3 (by intro z; cases z)
              -- self.heads.append(many); many = many + ones_in(word)
              refine ⟨_, rfl, p, A.cB, dx, _, _, rfl, hp3, T.clB, T.nB_heads, brf_heads _ _ _, .inl ⟨rfl, _, SqL.of hb3⟩, _, rfl, b, _, _, rfl, rfl, hb3, ?_, ?_⟩
              · rw [List.length_map, List.length_map, List.length_range]
                exact line5 (by unfold wn at hi2; omega)
              refine ⟨_, rfl, _, rfl, _, "int", rfl, TyN.int _, ?_, fun m em hm => ⟨_, _, rfl, rfl, ?_⟩⟩
              · intro z
                rw [show amongV (nV w0) 0 4294967295 = true from among_in (by omega) (by omega)] at z
                cases z
              · have em : w0 = m := by
                  unfold nV at em
                  injection em with em
                  omega
                subst em
                refine ⟨some (nV w0), ?_, fun b' o e n => ?_, by rw [upd_ne n2]; exact hp3, by rw [upd_ne nqb]; exact hq3, ?_, q0, b0⟩
                · rw [marks_step hi2, ← ew]
                  rfl
                · have nb : b' ≠ b := ne_of_none e b0
                  rw [upd_ne nb]
                  exact k3 b' o e n
                · rw [upd_same, List.range_succ, List.map_append, List.map_append]
                  rfl
            · rintro σ H3 ⟨u, rfl, k3, hp3, hq3, hb3, q0, b0⟩
              rw [List.length_map, words_len] at hb3
              exact kQ l rfl hz H3 q b k3 q0 b0 ⟨⟨dx, hp3⟩, hq3, hb3, nqb, hz⟩
          · have cf : ((xs.map fun x => amongV x 0 1).all id) = false := by simpa using ca
            rw [cf]
            refine iteT ?_
            have hex : ∃ x ∈ xs, amongV x 0 1 = false := by
              rw [List.all_map] at cf
              obtain ⟨x, hx, e⟩ := List.all_eq_false.mp cf
              exact ⟨x, hx, by simpa using e⟩
            exact kE (.inr hex) H1 s1
    · have e1 : (n == "list") = false := by simpa using en
      rw [e1]
      refine iteT ?_
      exact kN en H (Same.refl H)

def spBWords (C : Addr) : Sp := fun vs H Q _ => ∃ (p : Addr) (l : List Bool), vs = [.ref p] ∧ BRow C H p l ∧ ∀ (q : Addr) (H' : Hp), Same H H' → H q = none → H' q = some (.lst ((words l).map nV)) → Q (.ref q) H'
def spBMarks (C : Addr) : Sp := fun vs H Q _ => ∃ (p : Addr) (l : List Bool), vs = [.ref p] ∧ BRow C H p l ∧ ∀ (q : Addr) (H' : Hp), Same H H' → H q = none → H' q = some (.lst ((marks l).map nV)) → Q (.ref q) H'
def spBBits (C : Addr) : Sp := fun vs H Q _ => ∃ (p : Addr) (l : List Bool), vs = [.ref p] ∧ BRow C H p l ∧ ∀ (q : Addr) (H' : Hp), Same H H' → H q = none → H' q = some (.lst (l.map bV)) → Q (.ref q) H'
def spBitAt (K : PySem.W.Frag) (C X : Addr) : Sp := fun vs H Q E => ∃ (p : Addr) (l : List Bool) (v : V) (n : String), vs = [.ref p, v] ∧ BRow C H p l ∧ TyN K H v n ∧
  (amongV v 0 ((l.length : Int) - 1) = false → E (.ref X) none H) ∧ (∀ (i : Nat) (b : Bool), v = nV i → l[i]? = some b → Q (bV b) H)
def spBOnes (K : PySem.W.Frag) (C X : Addr) : Sp := fun vs H Q E => ∃ (p : Addr) (l : List Bool) (v : V) (n : String), vs = [.ref p, v] ∧ BRow C H p l ∧ TyN K H v n ∧
  (amongV v 0 (l.length : Int) = false → E (.ref X) none H) ∧ (∀ i : Nat, v = nV i → i ≤ l.length → Q (nV (cnt (l.take i))) H)
theorem among_nat {v : V} {m : Nat} (h : amongV v 0 (m : Int) = true) : ∃ i : Nat, v = nV i ∧ i ≤ m := by
  obtain ⟨i, rfl, h0, h1⟩ := among_yes h
  obtain ⟨k, rfl⟩ := Int.eq_ofNat_of_zero_le h0
  exact ⟨k, rfl, by omega⟩
theorem among_lt {v : V} {m : Nat} (h : amongV v 0 ((m : Int) - 1) = true) : ∃ i : Nat, v = nV i ∧ i < m := by
  obtain ⟨i, rfl, h0, h1⟩ := among_yes h
  obtain ⟨k, rfl⟩ := Int.eq_ofNat_of_zero_le h0
  exact ⟨k, rfl, by omega⟩
theorem nat_among {i m : Nat} (h : i ≤ m) : amongV (nV i) 0 (m : Int) = true := among_in (by omega) (by omega)
theorem lt_among {i m : Nat} (h : i < m) : amongV (nV i) 0 ((m : Int) - 1) = true := among_in (by omega) (by omega)
theorem not_false {b : Bool} {p : Prop} (h : b = true) : b = false → p := fun e => by rw [h] at e; cases e
theorem nV_inj {i j : Nat} (h : nV i = nV j) : i = j := by
  unfold nV at h
  injection h with h
  omega
theorem bV_inj {i j : Bool} (h : bV i = bV j) : i = j := by
  unfold bV at h
  injection h with h
  cases i <;> cases j <;> first | rfl | (exact absurd h (by decide))
theorem range_getD {α β : Type} (f : α → β) (d : α) (l : List α) : (List.range l.length).map (fun i => f (l.getD i d)) = l.map f := by
  apply List.ext_getElem?
  intro i
  rw [List.getElem?_map, List.getElem?_map]
  by_cases h : i < l.length
  · rw [List.getElem?_range h, List.getElem?_eq_getElem h, Option.map_some, Option.map_some, List.getD_eq_getElem?_getD, List.getElem?_eq_getElem h]
    rfl
  · rw [List.getElem?_eq_none (by rw [List.length_range]; omega), List.getElem?_eq_none (by omega)]
    rfl
theorem ok_B_words (T : Tx K mg A) : FnOk P w K mg base CX0 1 A.B_words A.B_words_d ["self"] (spBWords A.cB) := by
  refine T.B_words.F.ok sc_B_words (fun vs H Q E h => ?_) (fun cdv Ar outer s H vs Q E hr h => ?_)
  · obtain ⟨p, l, rfl, _⟩ := h
    rfl
  · obtain ⟨p, l, rfl, ⟨a, b, ⟨dx, hp⟩, ha, hb, _, _⟩, k⟩ := h
    refine ⟨_, (pss_one (ps_ret (pe_callTy call_list_of (by rfl) T.b_list (by decide +kernel) (pa_cons (pe_fld (pv 0) rfl) pa_nil)))), ?_⟩
    refine ⟨_, rfl, p, A.cB, dx, _, _, rfl, hp, T.clB, T.nB_packs, brf_packs _ _ _, a, _, rfl, .inl (SqL.of ha), fun q hq => ?_⟩
    exact k q _ (same_new (Same.refl H) hq) hq upd_same
theorem ok_B_marks (T : Tx K mg A) : FnOk P w K mg base CX0 1 A.B_marks A.B_marks_d ["self"] (spBMarks A.cB) := by
  refine T.B_marks.F.ok sc_B_marks (fun vs H Q E h => ?_) (fun cdv Ar outer s H vs Q E hr h => ?_)
  · obtain ⟨p, l, rfl, _⟩ := h
    rfl
  · obtain ⟨p, l, rfl, ⟨a, b, ⟨dx, hp⟩, ha, hb, _, _⟩, k⟩ := h
    refine ⟨_, (pss_one (ps_ret (pe_callTy call_list_of (by rfl) T.b_list (by decide +kernel) (pa_cons (pe_fld (pv 0) rfl) pa_nil)))), ?_⟩
    refine ⟨_, rfl, p, A.cB, dx, _, _, rfl, hp, T.clB, T.nB_heads, brf_heads _ _ _, b, _, rfl, .inl (SqL.of hb), fun q hq => ?_⟩
    exact k q _ (same_new (Same.refl H) hq) hq upd_same
theorem ok_B_bit_at (T : Tx K mg A) : FnOk P w K mg base (L2.CX P w) 3 A.B_bit_at A.B_bit_at_d ["self", "place"] (spBitAt K A.cB A.xNoPlace) := by
  refine T.B_bit_at.F.okX sc_B_bit_at (fun vs H Q E h => ?_) (fun cdv Ar outer s H vs Q E hr h => ?_)
  · obtain ⟨p, l, v, n, rfl, _⟩ := h
    rfl
  · obtain ⟨p, l, v, n, rfl, ⟨a, b, ⟨dx, hp⟩, ha, hb, _, _⟩, hk, kE, kQ⟩ := h
    refine ⟨_, (pss_cons (ps_if (pt_not (pt_val (pe_call (E := E0) (ok_is_among T) (hr.mono (by decide)) rfl T.is_among.g T.is_among.F.kp T.is_among.b .nil pass0 (pa_cons (pv 1) (pa_cons pe_int (pa_cons (pe_op op_sub (pe_fld (pv 0) rfl) pe_int) pa_nil)))))) (pss_one (ps_raise rfl (takes_of rfl rfl rfl rfl) (pmk_own PySem.F.excBase_ValueError T.xNoPlace.x T.xNoPlace.g T.xNoPlace.k (raises_own T.xNoPlace.b T.xNoPlace.t) rfl))) pss_nil)
      (PSs.nox (pss_one (ps_ret (pe_op op_and (pe_op op_shr (pe_ix ix_list (pe_fld (pv 0) rfl) (pe_op op_fdiv (pv 1) (pe_glob (v := V.int 32) rfl T.kWORD.choose_spec ⟨_, rfl⟩)) (fun _ _ => rfl)) (pe_op op_mod (pv 1) (pe_glob (v := V.int 32) rfl T.kWORD.choose_spec ⟨_, rfl⟩))) pe_int))))), ?_⟩
    refine ⟨_, rfl, _, rfl, p, A.cB, dx, _, _, rfl, hp, T.clB, T.nB_size, brf_size _ _ _, _, _, rfl, rfl, v, n, 0, _, rfl, hk, _, rfl, ?_⟩
    by_cases c : amongV v 0 ((l.length : Int) - 1) = true
    · rw [c]
      refine iteF ?_
      obtain ⟨i, rfl, hi⟩ := among_lt c
      have hw : i / 32 < wn l.length := by unfold wn; omega
      have e1 : ((i : Int) / 32) = ((i / 32 : Nat) : Int) := by omega
      refine ⟨_, rfl, p, A.cB, dx, _, _, rfl, hp, T.clB, T.nB_packs, brf_packs _ _ _, _, rfl, _, _, rfl, rfl, ⟨by decide, by decide⟩, a, _, _, nV (wordOf ((l.drop (32 * (i / 32))).take 32)), rfl, rfl, SqL.of ha, at_of e1 ?_, ?_⟩
      · rw [List.getElem?_map, words_at hw]
        rfl
      refine ⟨_, rfl, _, _, rfl, rfl, (by show (0 : Int) < 32; decide), _, _, rfl, rfl, ?_, _, _, rfl, rfl, ?_⟩
      · show (0 : Int) ≤ (i : Int) % 32
        omega
      have q := kQ i l[i] rfl (List.getElem?_eq_getElem hi)
      refine cast ?_ q
      congr 1
      have e2 : ((i : Int) % 32).toNat = i % 32 := by omega
      have e3 := bit_of hi
      rw [List.getD_eq_getElem?_getD, List.getElem?_eq_getElem hi] at e3
      show bV l[i] = V.int (Builtin.bitAnd ((wordOf ((l.drop (32 * (i / 32))).take 32) : Int) / 2 ^ ((i : Int) % 32).toNat) 1)
      rw [e2, PyProof.Rows.bitAnd_m1, cast_pow]
      unfold bV
      congr 1
      have e4 : (l[i].toNat : Int) = ((wordOf ((l.drop (32 * (i / 32))).take 32) / 2 ^ (i % 32) % 2 : Nat) : Int) := by rw [e3]; rfl
      rw [e4]
      simp
    · have c' : amongV v 0 ((l.length : Int) - 1) = false := by simpa using c
      rw [c']
      refine iteT ?_
      exact kE c'
theorem ok_B_ones (T : Tx K mg A) : FnOk P w K mg base (L2.CX P w) 4 A.B_ones A.B_ones_d ["self", "place"] (spBOnes K A.cB A.xNoPlace) := by
  refine T.B_ones.F.okX sc_B_ones (fun vs H Q E h => ?_) (fun cdv Ar outer s H vs Q E hr h => ?_)
  · obtain ⟨p, l, v, n, rfl, _⟩ := h
    rfl
  · obtain ⟨p, l, v, n, rfl, ⟨a, b, ⟨dx, hp⟩, ha, hb, _, hl⟩, hk, kE, kQ⟩ := h
    refine ⟨_, (pss_cons (ps_if (pt_not (pt_val (pe_call (E := E0) (ok_is_among T) (hr.mono (by decide)) rfl T.is_among.g T.is_among.F.kp T.is_among.b .nil pass0 (pa_cons (pv 1) (pa_cons pe_int (pa_cons (pe_fld (pv 0) rfl) pa_nil)))))) (pss_one (ps_raise rfl (takes_of rfl rfl rfl rfl) (pmk_own PySem.F.excBase_ValueError T.xNoPlace.x T.xNoPlace.g T.xNoPlace.k (raises_own T.xNoPlace.b T.xNoPlace.t) rfl))) pss_nil)
      (PSs.nox (pss_cons (ps_set (i := 2) sc_B_ones.nd rfl (by first | exact Or.inl rfl | exact Or.inr rfl) (pe_op op_fdiv (pv 1) (pe_glob (v := V.int 32) rfl T.kWORD.choose_spec ⟨_, rfl⟩)))
      (pss_cons (ps_if (pt_cmpR op_eq (pv 2) (pe_callB call_len_seq (by rfl) T.b_len (by decide +kernel) (pa_cons (pe_fld (pv 0) rfl) pa_nil)) (nomark _)) (pss_cons (ps_set (i := 2) sc_B_ones.nd rfl (by first | exact Or.inl rfl | exact Or.inr rfl) (pe_op op_sub (pv 2) pe_int))
      (pss_one (ps_if (pt_cmpR op_lt (pv 2) pe_int (nomark _)) (pss_one (ps_ret pe_int)) pss_nil))) pss_nil)
      (pss_one (ps_ret (pe_op op_add (pe_ix ix_list (pe_fld (pv 0) rfl) (pv 2) (fun _ _ => rfl)) (pe_call (E := E0) (ok_ones_in T) (hr.mono (by decide)) rfl T.ones_in.g T.ones_in.F.kp T.ones_in.b .nil passL (pa_cons (pe_op op_and (pe_ix ix_list (pe_fld (pv 0) rfl) (pv 2) (fun _ _ => rfl)) (pe_op op_sub (pe_op op_shl pe_int (pe_op op_sub (pv 1) (pe_op op_mul (pv 2) (pe_glob (v := V.int 32) rfl T.kWORD.choose_spec ⟨_, rfl⟩)))) pe_int)) pa_nil))))))))), ?_⟩
    refine ⟨_, rfl, _, rfl, p, A.cB, dx, _, _, rfl, hp, T.clB, T.nB_size, brf_size _ _ _, v, n, 0, _, rfl, hk, _, rfl, ?_⟩
    by_cases c : amongV v 0 (l.length : Int) = true
    · rw [c]
      refine iteF ?_
      obtain ⟨i, rfl, hi⟩ := among_nat c
      have e1 : ((i : Int) / 32) = ((i / 32 : Nat) : Int) := by omega
      have q0 := kQ i rfl hi
      -- at = place // WORD; if at == len(self.packs)
      refine ⟨_, rfl, _, _, rfl, rfl, ⟨by decide, by decide⟩, _, rfl, _, rfl, p, A.cB, dx, _, _, rfl, hp, T.clB, T.nB_packs, brf_packs _ _ _, a, _, rfl, .inl (SqL.of ha), rfl, _, rfl, ?_⟩
      rw [List.length_map, words_len]
      refine ite2 (fun ce => ?_) (fun ce => ?_)
      · have ek : i / 32 = wn l.length := by
          have z : V.int ((i : Int) / 32) = V.int (wn l.length : Int) := of_decide_eq_true ce
          injection z with z
          omega
        refine ⟨_, rfl, _, _, rfl, rfl, _, rfl, _, _, rfl, rfl, _, rfl, ?_⟩
        refine ite2 (fun c0 => ?_) (fun c0 => ?_)
        · have z : ((i : Int) / 32 - 1) < 0 := of_decide_eq_true c0
          have i0 : i = 0 := by unfold wn at ek; omega
          subst i0
          exact q0
        · have z : ¬ ((i : Int) / 32 - 1) < 0 := fun z => c0 (decide_eq_true z)
          obtain ⟨k, hk⟩ : ∃ k, k = wn l.length - 1 := ⟨_, rfl⟩
          have hk1 : k < wn l.length := by unfold wn at ek hk ⊢; omega
          have ez : ((i : Int) / 32 - 1) = ((k : Nat) : Int) := by omega
          have hk2 : 32 * k ≤ i := by omega
          have hk3 : i ≤ 32 * k + 32 := by unfold wn at ek hk; omega

          have hwl : wordOf ((l.drop (32 * k)).take 32) < 2 ^ 32 := word_lt l k
          have em0 : Builtin.bitAnd (wordOf ((l.drop (32 * k)).take 32) : Int) (1 * 2 ^ (((i : Nat) : Int) - ((i : Int) / 32 - 1) * 32).toNat - 1) = ((wordOf ((l.drop (32 * k)).take 32) % 2 ^ (i - 32 * k) : Nat) : Int) := by
            have e2 : (((i : Nat) : Int) - ((i : Int) / 32 - 1) * 32).toNat = i - 32 * k := by rw [ez]; omega
            rw [e2, Int.one_mul, PySem.W.kbt_mask, cast_pow]
            simp
          refine ⟨_, rfl, p, A.cB, dx, _, _, rfl, hp, T.clB, T.nB_heads, brf_heads _ _ _, _, rfl, b, _, _, nV (cnt (l.take (32 * k))), rfl, rfl, SqL.of hb, at_of ez (by rw [List.getElem?_map, marks_at hk1]; rfl), ?_⟩
          refine ⟨_, rfl, p, A.cB, dx, _, _, rfl, hp, T.clB, T.nB_packs, brf_packs _ _ _, _, rfl, a, _, _, nV (wordOf ((l.drop (32 * k)).take 32)), rfl, rfl, SqL.of ha, at_of ez (by rw [List.getElem?_map, words_at hk1]; rfl), ?_⟩
          refine ⟨_, rfl, _, rfl, _, _, rfl, rfl, .inr ⟨by decide, by decide⟩, _, _, rfl, rfl, _, _, rfl, rfl, ⟨?_, ?_, by decide⟩, _, _, rfl, rfl, _, _, rfl, rfl, ?_⟩
          · show (0 : Int) ≤ (i : Int) - ((i : Int) / 32 - 1) * 32
            omega
          · show (i : Int) - ((i : Int) / 32 - 1) * 32 ≤ 1000000
            omega
          refine ⟨_, "int", rfl, TyN.int _, ?_, fun m em hm => ⟨_, _, rfl, rfl, ?_⟩⟩
          · refine not_false ?_
            show amongV (V.int (Builtin.bitAnd (wordOf ((l.drop (32 * k)).take 32) : Int) (1 * 2 ^ (((i : Nat) : Int) - ((i : Int) / 32 - 1) * 32).toNat - 1))) 0 4294967295 = true
            have := Nat.mod_le (wordOf ((l.drop (32 * k)).take 32)) (2 ^ (i - 32 * k))
            rw [em0]
            exact among_in (by omega) (by omega)
          · have em : nV (wordOf ((l.drop (32 * k)).take 32) % 2 ^ (i - 32 * k)) = nV m := by
              rw [← em]
              unfold nV
              congr 1
              exact em0.symm
            have em := nV_inj em
            subst em
            have e5 := ones_of hi k hk2 hk3
            rw [← e5] at q0
            refine cast ?_ q0
            unfold nV
            congr 2
      · have nk : ¬ i / 32 = wn l.length := fun z => ce (decide_eq_true (by
            show V.int ((i : Int) / 32) = V.int (wn l.length : Int)
            congr 1
            omega))
        · obtain ⟨k, hk⟩ : ∃ k, k = i / 32 := ⟨_, rfl⟩
          have hk1 : k < wn l.length := by unfold wn at nk ⊢; omega
          have ez : ((i : Int) / 32) = ((k : Nat) : Int) := by omega
          have hk2 : 32 * k ≤ i := by omega
          have hk3 : i ≤ 32 * k + 32 := by omega

          have hwl : wordOf ((l.drop (32 * k)).take 32) < 2 ^ 32 := word_lt l k
          have em0 : Builtin.bitAnd (wordOf ((l.drop (32 * k)).take 32) : Int) (1 * 2 ^ (((i : Nat) : Int) - ((i : Int) / 32) * 32).toNat - 1) = ((wordOf ((l.drop (32 * k)).take 32) % 2 ^ (i - 32 * k) : Nat) : Int) := by
            have e2 : (((i : Nat) : Int) - ((i : Int) / 32) * 32).toNat = i - 32 * k := by rw [ez]; omega
            rw [e2, Int.one_mul, PySem.W.kbt_mask, cast_pow]
            simp
          refine ⟨_, rfl, p, A.cB, dx, _, _, rfl, hp, T.clB, T.nB_heads, brf_heads _ _ _, _, rfl, b, _, _, nV (cnt (l.take (32 * k))), rfl, rfl, SqL.of hb, at_of ez (by rw [List.getElem?_map, marks_at hk1]; rfl), ?_⟩
          refine ⟨_, rfl, p, A.cB, dx, _, _, rfl, hp, T.clB, T.nB_packs, brf_packs _ _ _, _, rfl, a, _, _, nV (wordOf ((l.drop (32 * k)).take 32)), rfl, rfl, SqL.of ha, at_of ez (by rw [List.getElem?_map, words_at hk1]; rfl), ?_⟩
          refine ⟨_, rfl, _, rfl, _, _, rfl, rfl, .inr ⟨by decide, by decide⟩, _, _, rfl, rfl, _, _, rfl, rfl, ⟨?_, ?_, by decide⟩, _, _, rfl, rfl, _, _, rfl, rfl, ?_⟩
          · show (0 : Int) ≤ (i : Int) - ((i : Int) / 32) * 32
            omega
          · show (i : Int) - ((i : Int) / 32) * 32 ≤ 1000000
            omega
          refine ⟨_, "int", rfl, TyN.int _, ?_, fun m em hm => ⟨_, _, rfl, rfl, ?_⟩⟩
          · refine not_false ?_
            show amongV (V.int (Builtin.bitAnd (wordOf ((l.drop (32 * k)).take 32) : Int) (1 * 2 ^ (((i : Nat) : Int) - ((i : Int) / 32) * 32).toNat - 1))) 0 4294967295 = true
            have := Nat.mod_le (wordOf ((l.drop (32 * k)).take 32)) (2 ^ (i - 32 * k))
            rw [em0]
            exact among_in (by omega) (by omega)
          · have em : nV (wordOf ((l.drop (32 * k)).take 32) % 2 ^ (i - 32 * k)) = nV m := by
              rw [← em]
              unfold nV
              congr 1
              exact em0.symm
            have em := nV_inj em
            subst em
            have e5 := ones_of hi k hk2 hk3
            rw [← e5] at q0
            refine cast ?_ q0
            unfold nV
            congr 2
    · have c' : amongV v 0 (l.length : Int) = false := by simpa using c
      rw [c']
      refine iteT ?_
      exact kE c'
theorem mk_brow {K : PySem.W.Frag} {C X : Addr} {H1 : Hp} {a x dx : Addr} {l : List Bool} {Q : VK} (hS : SqL K H1 a (l.map bV)) (hl : l.length ≤ 4000) (nx : H1 x = none) (ndx : H1 dx = none)
    (k : ∀ (H' : Hp) (pa pb : Addr), Same H1 H' → H1 pa = none → H1 pb = none → BRowAt C H' x pa pb l → Q .non H') :
    spBInit K C X [.ref x, .ref a] (upd (upd H1 dx (.own x)) x (.ins C dx [])) Q E0 := by
  have s0 : Same H1 (upd (upd H1 dx (.own x)) x (.ins C dx [])) := fun b o e => by
    rw [upd_ne (ne_of_none e nx), upd_ne (ne_of_none e ndx)]
    exact e
  refine ⟨x, dx, .ref a, "list", rfl, upd_same, TyN.lst (s0.seq hS), fun z => absurd rfl z, fun _ => ⟨a, _, rfl, s0.seq hS, fun y hy => ?_, fun z => ?_, fun l' el hl' H' q b kp hq hb R => ?_⟩⟩
  · obtain ⟨b, _, rfl⟩ := List.mem_map.mp hy
    exact ⟨"int", TyN.int _⟩
  · exfalso
    rcases z with z | ⟨y, hy, z⟩
    · rw [List.length_map] at z
      omega
    · obtain ⟨b, _, rfl⟩ := List.mem_map.mp hy
      rw [bV_among] at z
      cases z
  · have el : l = l' := by
      have := congrArg (List.map (fun v : V => decide (v = bV true))) el
      rw [List.map_map, List.map_map] at this
      have e : ((fun v : V => decide (v = bV true)) ∘ bV) = id := by
        funext b
        cases b <;> decide
      rw [e, List.map_id, List.map_id] at this
      exact this
    subst el
    exact k H' q b (fun b' o e => kp b' o (s0 b' o e) (ne_of_none e nx)) (s0.free hq) (s0.free hb) R

/-! ### a row of bits: noughts, found, put -/
def spNoughts (K : PySem.W.Frag) (C X : Addr) : Sp := fun vs H Q E => ∃ (p : Addr) (l : List Bool) (v : V) (n : String), vs = [.ref p, v] ∧ BRow C H p l ∧ TyN K H v n ∧
  (amongV v 0 (l.length : Int) = false → E (.ref X) none H) ∧ (∀ i : Nat, v = nV i → i ≤ l.length → Q (nV (i - cnt (l.take i))) H)
theorem ok_B_noughts (T : Tx K mg A) : FnOk P w K mg base (L2.CX P w) 5 A.B_noughts A.B_noughts_d ["self", "place"] (spNoughts K A.cB A.xNoPlace) := by
  refine T.B_noughts.F.okX sc_B_noughts (fun vs H Q E h => ?_) (fun cdv Ar outer s H vs Q E hr h => ?_)
  · obtain ⟨p, l, v, n, rfl, _⟩ := h
    rfl
  · obtain ⟨p, l, v, n, rfl, R, hk, kE, kQ⟩ := h
    obtain ⟨a, b, ⟨dx, hp⟩, _⟩ := id R
    refine ⟨_, (pss_one (ps_ret (pe_op op_sub (pv 1) (pe_meth (pv 0) T.clB T.B_ones.m (ok_B_ones T) (hr.mono (by decide)) T.B_ones.b .nil (passes_call (takes_of rfl rfl rfl rfl) (fun _ _ _ _ h => h)) (pa_cons (pv 1) pa_nil))))), ?_⟩
    refine ⟨_, rfl, _, rfl, p, dx, _, rfl, hp, brf_no _ _ _ (by decide +kernel) (by decide +kernel) (by decide +kernel), _, rfl, p, l, v, n, rfl, R, hk, kE, fun i ei hi => ?_⟩
    refine ⟨_, _, ei, rfl, ?_⟩
    have q := kQ i ei hi
    refine cast ?_ q
    have hc : cnt (l.take i) ≤ i := by
      have := cnt_le (l.take i)
      rw [List.length_take] at this
      omega
    unfold nV
    congr 2
    omega
def spPlaceOf (K : PySem.W.Frag) (C X : Addr) : Sp := fun vs H Q E => ∃ (p : Addr) (l : List Bool) (u v : V) (m n : String), vs = [.ref p, u, v] ∧ BRow C H p l ∧ TyN K H u m ∧ TyN K H v n ∧
  ((amongV u 0 1 = false ∨ amongV v 0 ((l.length : Int) - 1) = false) → E (.ref X) none H) ∧
  (∀ (b : Bool) (t : Nat), u = bV b → v = nV t → t < l.length → (l.count b ≤ t → E (.ref X) none H) ∧ (∀ r : Nat, l[r]? = some b → cb b l r = t → Q (nV r) H))
theorem bV_of {v : V} (h : amongV v 0 1 = true) : ∃ b, v = bV b := by
  obtain ⟨i, rfl, h0, h1⟩ := among_yes h
  by_cases e0 : i = 0
  · exact ⟨false, by rw [e0]; rfl⟩
  · exact ⟨true, by rw [show i = 1 by omega]; rfl⟩
theorem cb_le_len (b : Bool) (l : List Bool) {p : Nat} (h : p ≤ l.length) : cb b l p ≤ p := by
  have := cb_sum l h
  cases b <;> omega
set_option maxHeartbeats 1000000 in
theorem ok_B_place_of (T : Tx K mg A) : FnOk P w K mg base (L2.CX P w) 5 A.B_place_of A.B_place_of_d ["self", "bit", "turn"] (spPlaceOf K A.cB A.xNoPlace) := by
  refine T.B_place_of.F.okX sc_B_place_of (fun vs H Q E h => ?_) (fun cdv Ar outer s H vs Q E hr h => ?_)
  · obtain ⟨p, l, u, v, m, n, rfl, _⟩ := h
    rfl
  · obtain ⟨p, l, u, v, m, n, rfl, R, hu, hv, kE, kQ⟩ := h
    obtain ⟨a0, b0, ⟨dx, hp⟩, _, _, _, hl⟩ := id R
    refine ⟨_, (pss_cons (ps_if (PW.pt (pw_or (pt_not (pt_val (pe_call (E := E0) (ok_is_among T) (hr.mono (by decide)) rfl T.is_among.g T.is_among.F.kp T.is_among.b .nil pass0 (pa_cons (pv 1) (pa_cons pe_int (pa_cons pe_int pa_nil)))))) (pw_or1 (pt_not (pt_val (pe_call (E := E0) (ok_is_among T) (hr.mono (by decide)) rfl T.is_among.g T.is_among.F.kp T.is_among.b .nil pass0 (pa_cons (pv 2) (pa_cons pe_int (pa_cons (pe_op op_sub (pe_fld (pv 0) rfl) pe_int) pa_nil))))))))) (pss_one (ps_raise rfl (takes_of rfl rfl rfl rfl) (pmk_own PySem.F.excBase_ValueError T.xNoPlace.x T.xNoPlace.g T.xNoPlace.k (raises_own T.xNoPlace.b T.xNoPlace.t) rfl))) pss_nil)
      (pss_cons (ps_set (i := 3) sc_B_place_of.nd rfl (by first | exact Or.inl rfl | exact Or.inr rfl) pe_int)
      (pss_cons (ps_set (i := 4) sc_B_place_of.nd rfl (by first | exact Or.inl rfl | exact Or.inr rfl) (pe_fld (pv 0) rfl))
      (pss_cons (ps_while (passes_of rfl) (pt_cmpR op_lt (pv 3) (pv 4) (nomark _)) (pss_cons (ps_set (i := 5) sc_B_place_of.nd rfl (by first | exact Or.inl rfl | exact Or.inr rfl) (pe_op op_fdiv (pe_op op_add (pv 3) (pv 4)) pe_int))
      (pss_cons (ps_set (i := 6) sc_B_place_of.nd rfl (by first | exact Or.inl rfl | exact Or.inr rfl) (pe_meth (E := E0) (pv 0) T.clB T.B_ones.m (ok_B_ones T) (hr.mono (by decide)) T.B_ones.b .nil passL (pa_cons (pe_op op_add (pv 5) pe_int) pa_nil)))
      (pss_cons (ps_if (pt_cmpR op_eq (pv 1) pe_int (nomark _)) (pss_one (ps_set (i := 6) sc_B_place_of.nd rfl (by first | exact Or.inl rfl | exact Or.inr rfl) (pe_op op_sub (pe_op op_add (pv 5) pe_int) (pv 6)))) pss_nil)
      (pss_one (ps_if (pt_cmpR op_gt (pv 6) (pv 2) (nomark _)) (pss_one (ps_set (i := 4) sc_B_place_of.nd rfl (by first | exact Or.inl rfl | exact Or.inr rfl) (pv 5))) (pss_one (ps_set (i := 3) sc_B_place_of.nd rfl (by first | exact Or.inl rfl | exact Or.inr rfl) (pe_op op_add (pv 5) pe_int)))))))))
      (pss_cons (ps_if (pt_cmpR op_eq (pv 3) (pe_fld (pv 0) rfl) (nomark _)) (pss_one (ps_raise rfl (takes_of rfl rfl rfl rfl) (pmk_own PySem.F.excBase_ValueError T.xNoPlace.x T.xNoPlace.g T.xNoPlace.k (raises_own T.xNoPlace.b T.xNoPlace.t) rfl))) pss_nil)
      (PSs.nox (pss_one (ps_ret (pv 3))))))))), ?_⟩
    refine ⟨_, rfl, u, m, 0, 1, rfl, hu, _, rfl, ?_⟩
    by_cases cu : amongV u 0 1 = true
    · rw [cu]
      refine iteF ?_
      refine ⟨_, rfl, _, rfl, p, A.cB, dx, _, _, rfl, hp, T.clB, T.nB_size, brf_size _ _ _, _, _, rfl, rfl, v, n, 0, _, rfl, hv, _, rfl, ?_⟩
      by_cases cv : amongV v 0 ((l.length : Int) - 1) = true
      · rw [cv]
        refine iteF ?_
        obtain ⟨b, rfl⟩ := bV_of cu
        obtain ⟨t, rfl, ht⟩ := among_lt cv
        obtain ⟨kF, kR⟩ := kQ b t rfl rfl ht
        -- least = 0; most = self.size
        refine ⟨_, rfl, p, A.cB, dx, _, _, rfl, hp, T.clB, T.nB_size, brf_size _ _ _, ?_⟩
        refine ⟨fun k σ H' => H' = H ∧ ∃ (x y : Nat) (h1 h2 : Option V), σ = [some (.ref p), some (bV b), some (nV t), some (nV x), some (nV y), h1, h2] ∧ k = y - x ∧ x ≤ y ∧ y ≤ l.length ∧ cb b l x ≤ t ∧ (y < l.length → t < cb b l (y + 1)),
          ⟨l.length, rfl, 0, l.length, none, none, rfl, by omega, Nat.zero_le _, Nat.le_refl _, by simp [cb], fun z => absurd z (Nat.lt_irrefl _)⟩, ?_⟩
        rintro k σ H' ⟨rfl, x, y, h1, h2, rfl, rfl, hxy, hyl, hx, hy⟩
        refine ⟨_, rfl, _, rfl, _, _, rfl, rfl, _, rfl, ?_⟩
        refine ite2 (fun c => ?_) (fun c => ?_)
        · have c : x < y := by
            have z : ((x : Int) < (y : Int)) := of_decide_eq_true c
            omega
          refine ⟨fun σ2 H2 => ∃ k', k' < y - x ∧ H2 = H' ∧ ∃ (x y : Nat) (h1 h2 : Option V), σ2 = [some (.ref p), some (bV b), some (nV t), some (nV x), some (nV y), h1, h2] ∧ k' = y - x ∧ x ≤ y ∧ y ≤ l.length ∧ cb b l x ≤ t ∧ (y < l.length → t < cb b l (y + 1)), fun _ _ z => z, ?_⟩
          obtain ⟨hh, ehh⟩ : ∃ hh, hh = (x + y) / 2 := ⟨_, rfl⟩
          have e1 : ((x : Int) + (y : Int)) / 2 = ((hh : Nat) : Int) := by omega
          have hcl : hh + 1 ≤ l.length := by omega
          refine ⟨_, rfl, _, rfl, _, _, rfl, rfl, _, _, rfl, rfl, ⟨by decide, by decide⟩, ?_⟩
          dsimp only
          rw [e1]
          refine ⟨_, rfl, p, dx, _, rfl, hp, brf_no _ _ _ (by decide +kernel) (by decide +kernel) (by decide +kernel), _, rfl, _, _, rfl, rfl, p, l, _, "int", rfl, R, TyN.int _, ?_, fun i ei hi => ?_⟩
          · refine not_false ?_
            show amongV (V.int ((hh : Int) + 1)) 0 (l.length : Int) = true
            exact among_in (by omega) (by omega)
          · have ei : i = hh + 1 := by
              have z : V.int ((hh : Int) + 1) = V.int (i : Int) := ei
              injection z with z
              omega
            subst ei
            have hc1 : cnt (l.take (hh + 1)) ≤ hh + 1 := cb_le_len true l hcl
            refine ⟨_, rfl, rfl, _, rfl, ?_⟩
            refine ite2 (fun c0 => ?_) (fun c0 => ?_)
            · have eb : b = false := by
                have z : bV b = V.int 0 := of_decide_eq_true c0
                exact bV_inj (j := false) z
              subst eb
              refine ⟨_, rfl, _, _, rfl, rfl, _, rfl, _, _, rfl, rfl, ?_⟩
              have MM : (hh : Int) + 1 - (cnt (l.take (hh + 1)) : Int) = ((cb false l (hh + 1) : Nat) : Int) := by
                rw [cb_false l hcl]
                omega
              refine ⟨_, rfl, _, rfl, _, _, rfl, rfl, _, rfl, ?_⟩
              refine ite2 (fun cm => ?_) (fun cm => ?_)
              · have cm : t < cb false l (hh + 1) := by
                  have z := of_decide_eq_true cm
                  rw [MM] at z
                  omega
                refine ⟨_, rfl, ?_⟩
                refine ⟨hh - x, by omega, rfl, x, hh, _, _, rfl, rfl, by omega, by omega, hx, fun _ => cm⟩
              · have cm : ¬ t < cb false l (hh + 1) := fun z => cm (decide_eq_true (by
                  rw [MM]
                  omega))
                refine ⟨_, rfl, _, _, rfl, rfl, ?_⟩
                refine ⟨y - (hh + 1), by omega, rfl, hh + 1, y, _, _, rfl, rfl, by omega, by omega, by omega, hy⟩
            · have eb : b = true := by
                cases b with
                | true => rfl
                | false => exact absurd (decide_eq_true (by rfl)) c0
              subst eb
              have MM : ((cnt (l.take (hh + 1)) : Nat) : Int) = ((cb true l (hh + 1) : Nat) : Int) := rfl
              refine ⟨_, rfl, _, rfl, _, _, rfl, rfl, _, rfl, ?_⟩
              refine ite2 (fun cm => ?_) (fun cm => ?_)
              · have cm : t < cb true l (hh + 1) := by
                  have z := of_decide_eq_true cm
                  rw [MM] at z
                  omega
                refine ⟨_, rfl, ?_⟩
                refine ⟨hh - x, by omega, rfl, x, hh, _, _, rfl, rfl, by omega, by omega, hx, fun _ => cm⟩
              · have cm : ¬ t < cb true l (hh + 1) := fun z => cm (decide_eq_true (by
                  rw [MM]
                  omega))
                refine ⟨_, rfl, _, _, rfl, rfl, ?_⟩
                refine ⟨y - (hh + 1), by omega, rfl, hh + 1, y, _, _, rfl, rfl, by omega, by omega, by omega, hy⟩
        · have c : x = y := by
            have z : ¬ ((x : Int) < (y : Int)) := fun z => c (decide_eq_true z)
            omega
          subst c
          refine ⟨_, rfl, _, rfl, p, A.cB, dx, _, _, rfl, hp, T.clB, T.nB_size, brf_size _ _ _, rfl, _, rfl, ?_⟩
          refine ite2 (fun c => ?_) (fun c => ?_)
          · have c : x = l.length := by
              have z : nV x = V.int (l.length : Int) := of_decide_eq_true c
              exact nV_inj z
            subst c
            exact kF (by rw [← cb_all]; exact hx)
          · have c : x < l.length := by
              have z : ¬ x = l.length := fun z => c (decide_eq_true (by rw [z]; rfl))
              omega
            obtain ⟨r1, r2⟩ := found_at c hx (hy c)
            exact ⟨_, rfl, kR x r1 r2⟩
      · have c' : amongV v 0 ((l.length : Int) - 1) = false := by simpa using cv
        rw [c']
        refine iteT ?_
        exact kE (.inr c')
    · have c' : amongV u 0 1 = false := by simpa using cu
      rw [c']
      refine iteT ?_
      exact kE (.inl c')
/-- a bit is put: C the refusal of what is no bit, D of what is no place -/
def spBPut (K : PySem.W.Frag) (C X Y : Addr) : Sp := fun vs H Q E => ∃ (p a b : Addr) (l : List Bool) (v u : V) (n m : String), vs = [.ref p, v, u] ∧ BRowAt C H p a b l ∧ TyN K H v n ∧ TyN K H u m ∧
  (amongV u 0 1 = false → E (.ref X) none H) ∧
  (∀ c : Bool, u = bV c → (amongV v 0 ((l.length : Int) - 1) = false → E (.ref Y) none H) ∧
    (∀ i : Nat, v = nV i →
      (l[i]? = some c → ∀ (q : Addr) (H' : Hp), Same H H' → H q = none → H' q = some (.lst []) → Q (.ref q) H') ∧
      (l[i]? = some (!c) → ∀ (q : Addr) (H' : Hp), (∀ b' o, H b' = some o → b' ≠ a → b' ≠ b → H' b' = some o) → H q = none → H' q = some (.lst [nV (i / 32)]) → BRowAt C H' p a b (l.set i c) → Q (.ref q) H')))
/-- the marks while they are put right: those below j are new -/
def mmix (l l' : List Bool) (j : Nat) : List Nat := (List.range (wn l.length)).map fun k => if k < j then cnt (l'.take (32 * k)) else cnt (l.take (32 * k))
theorem mmix_len (l l' : List Bool) (j : Nat) : (mmix l l' j).length = wn l.length := by simp [mmix]
theorem mmix_at {l l' : List Bool} {j k : Nat} (h : k < wn l.length) : (mmix l l' j)[k]? = some (if k < j then cnt (l'.take (32 * k)) else cnt (l.take (32 * k))) := by simp [mmix, h]
theorem mmix_set {l l' : List Bool} {j : Nat} (h : j < wn l.length) : (mmix l l' j).set j (cnt (l'.take (32 * j))) = mmix l l' (j + 1) := by
  apply List.ext_getElem?
  intro k
  rw [List.getElem?_set]
  by_cases hk : k < wn l.length
  · by_cases e : j = k
    · subst e
      rw [if_pos rfl, if_pos (by rw [mmix_len]; exact h), mmix_at hk, if_pos (by omega)]
    · rw [if_neg e, mmix_at hk, mmix_at hk]
      by_cases e2 : k < j
      · rw [if_pos e2, if_pos (by omega)]
      · rw [if_neg e2, if_neg (by omega)]
  · have e2 : (mmix l l' (j + 1))[k]? = none := List.getElem?_eq_none (by rw [mmix_len]; omega)
    rw [e2]
    by_cases e : j = k
    · omega
    · rw [if_neg e]
      exact List.getElem?_eq_none (by rw [mmix_len]; omega)
theorem mmix_old {l : List Bool} {i : Nat} {c : Bool} (h : l[i]? = some (!c)) : mmix l (l.set i c) (i / 32 + 1) = marks l := by
  unfold mmix marks
  apply List.map_congr_left
  intro k _
  by_cases e : k < i / 32 + 1
  · rw [if_pos e]
    have := cnt_set_take h (32 * k)
    rw [if_neg (by omega)] at this
    omega
  · rw [if_neg e]
theorem mmix_new {l l' : List Bool} (hl : l'.length = l.length) {j : Nat} (h : wn l.length ≤ j) : mmix l l' j = marks l' := by
  unfold mmix marks
  rw [hl]
  apply List.map_congr_left
  intro k hk
  have := List.mem_range.mp hk
  rw [if_pos (by omega)]
theorem ixN_nat {n j : Nat} (hj : j < n) : ixN n (j : Int) = some j := by
  unfold ixN
  rw [if_pos (by omega), if_pos (by omega)]
  simp
set_option maxHeartbeats 1000000 in
theorem ok_B_put (T : Tx K mg A) : FnOk P w K mg base (L2.CX P w) 4 A.B_put A.B_put_d ["self", "place", "bit"] (spBPut K A.cB A.xBadRow A.xNoPlace) := by
  refine T.B_put.F.okX sc_B_put (fun vs H Q E h => ?_) (fun cdv Ar outer s H vs Q E hr h => ?_)
  · obtain ⟨p, a, b, l, v, u, n, m, rfl, _⟩ := h
    rfl
  · obtain ⟨p, a, b, l, v, u, n, m, rfl, R, hv, hu, kE, kQ⟩ := h
    obtain ⟨⟨dx, hp⟩, ha, hb, nab, hl⟩ := id R
    refine ⟨_, (pss_cons (ps_if (pt_not (pt_val (pe_call (E := E0) (ok_is_among T) (hr.mono (by decide)) rfl T.is_among.g T.is_among.F.kp T.is_among.b .nil pass0 (pa_cons (pv 2) (pa_cons pe_int (pa_cons pe_int pa_nil)))))) (pss_one (ps_raise rfl (takes_of rfl rfl rfl rfl) (pmk_own PySem.F.excBase_ValueError T.xBadRow.x T.xBadRow.g T.xBadRow.k (raises_own T.xBadRow.b T.xBadRow.t) rfl))) pss_nil)
      (pss_cons (ps_if (pt_cmpR op_eq (pe_meth (pv 0) T.clB T.B_bit_at.m (ok_B_bit_at T) (hr.mono (by decide)) T.B_bit_at.b .nil (passes_call (takes_of rfl rfl rfl rfl) (fun _ _ _ _ h => h)) (pa_cons (pv 1) pa_nil)) (pv 2) (nomark _)) (pss_one (ps_ret (pe_lst pa_nil))) pss_nil)
      (PSs.nox (pss_cons (ps_set (i := 3) sc_B_put.nd rfl (by first | exact Or.inl rfl | exact Or.inr rfl) (pe_op op_fdiv (pv 1) (pe_glob (v := V.int 32) rfl T.kWORD.choose_spec ⟨_, rfl⟩)))
      (pss_cons (ps_asg (pe_op op_xor (pe_ix ix_list (pe_fld (pv 0) rfl) (pv 3) (fun _ _ => rfl)) (pe_op op_shl pe_int (pe_op op_mod (pv 1) (pe_glob (v := V.int 32) rfl T.kWORD.choose_spec ⟨_, rfl⟩)))) (pg_sub (pe_fld (pv 0) rfl) (pv 3) set_list))
      (pss_cons (ps_for PassesOwn.never rfl (pi_range2 (by rfl) T.b_range (pa_cons (pe_op op_add (pv 3) pe_int) (pa_cons (pe_callB call_len_seq (by rfl) T.b_len (by decide +kernel) (pa_cons (pe_fld (pv 0) rfl) pa_nil)) pa_nil))) (pg_name (i := 4) sc_B_put.nd rfl (by first | exact Or.inl rfl | exact Or.inr rfl)) (pss_one (ps_asg (pe_op op_sub (pe_op op_add (pe_ix ix_list (pe_fld (pv 0) rfl) (pv 4) (fun _ _ => rfl)) (pe_op op_mul pe_int (pv 2))) pe_int) (pg_sub (pe_fld (pv 0) rfl) (pv 4) set_list))))
      (pss_one (ps_ret (pe_lst (pa_cons (pv 3) pa_nil)))))))))), ?_⟩
    refine ⟨_, rfl, u, m, 0, 1, rfl, hu, _, rfl, ?_⟩
    by_cases cu : amongV u 0 1 = true
    · rw [cu]
      refine iteF ?_
      obtain ⟨c, rfl⟩ := bV_of cu
      obtain ⟨kY, kR⟩ := kQ c rfl
      refine ⟨_, rfl, p, dx, _, rfl, hp, brf_no _ _ _ (by decide +kernel) (by decide +kernel) (by decide +kernel), _, rfl, p, l, v, n, rfl, ⟨a, b, R⟩, hv, kY, fun i b1 ei hb1 => ?_⟩
      subst ei
      obtain ⟨k1, k2⟩ := kR i rfl
      have hi : i < l.length := (List.getElem?_eq_some_iff.mp hb1).1
      refine ⟨_, rfl, rfl, _, rfl, ?_⟩
      refine ite2 (fun e => ?_) (fun e => ?_)
      · have e : b1 = c := bV_inj (of_decide_eq_true e)
        subst e
        refine ⟨Nat.zero_le _, fun q hq => ?_⟩
        exact k1 hb1 q _ (same_new (Same.refl H) hq) hq upd_same
      · have e : b1 = !c := by
          have z : ¬ b1 = c := fun z => e (decide_eq_true (by rw [z]))
          cases b1 <;> cases c <;> first | rfl | (exact absurd rfl z)
        subst e
        have kk := k2 hb1
        have hw : i / 32 < wn l.length := by unfold wn; omega
        have e1 : ((i : Int) / 32) = ((i / 32 : Nat) : Int) := by omega
        have e2 : ((i : Int) % 32).toNat = i % 32 := by omega
        have npa : p ≠ a := ne_of hp ha (by intro z; cases z)
        have npb : p ≠ b := ne_of hp hb (by intro z; cases z)
        -- at = place // WORD
        refine ⟨_, rfl, _, _, rfl, rfl, ⟨by decide, by decide⟩, ?_⟩
        dsimp only
        rw [e1]
        -- self.packs[at] = self.packs[at] ^ 1 << place % WORD
        refine ⟨_, rfl, p, A.cB, dx, _, _, rfl, hp, T.clB, T.nB_packs, brf_packs _ _ _, _, rfl, a, _, _, nV (wordOf ((l.drop (32 * (i / 32))).take 32)), rfl, rfl, SqL.of ha, at_of rfl (by rw [List.getElem?_map, words_at hw]; rfl), ?_⟩
        refine ⟨_, rfl, _, _, rfl, rfl, (by show (0 : Int) < 32; decide), _, _, rfl, rfl, ⟨by omega, by omega, by decide⟩, _, _, rfl, rfl, ?_⟩
        refine ⟨_, rfl, p, A.cB, dx, _, _, rfl, hp, T.clB, T.nB_packs, brf_packs _ _ _, _, rfl, a, _, _, _, rfl, rfl, ha, ixN_nat (by rw [List.length_map, words_len]; exact hw), ?_⟩
        dsimp only
        obtain ⟨wd, ewd⟩ : ∃ wd, wd = wordOf ((l.drop (32 * (i / 32))).take 32) := ⟨_, rfl⟩
        have ex : (words l).set (i / 32) (wd + 2 ^ (i % 32) - 2 * (wd / 2 ^ (i % 32) % 2) * 2 ^ (i % 32)) = words (l.set i c) := by rw [ewd]; exact (words_set hb1).symm
        have ev : V.int (Builtin.bitXor (wordOf ((l.drop (32 * (i / 32))).take 32) : Int) (1 * 2 ^ ((i : Int) % 32).toNat)) = nV (wd + 2 ^ (i % 32) - 2 * (wd / 2 ^ (i % 32) % 2) * 2 ^ (i % 32)) := by
          rw [← ewd, e2, Int.one_mul, PyProof.Rows.bitXor_and, PySem.W.kbt_bit]
          unfold nV
          congr 1
          have hb2 : wd / 2 ^ (i % 32) % 2 * 2 ^ (i % 32) ≤ wd := by
            have h0 := Nat.mod_le (wd / 2 ^ (i % 32)) 2
            have h1 := Nat.div_mul_le_self wd (2 ^ (i % 32))
            have h2 := Nat.mul_le_mul_right (2 ^ (i % 32)) h0
            omega
          have hb3 : wd / 2 ^ (i % 32) % 2 * 2 ^ (i % 32) ≤ 2 ^ (i % 32) := by
            have h0 : wd / 2 ^ (i % 32) % 2 ≤ 1 := by omega
            have h2 := Nat.mul_le_mul_right (2 ^ (i % 32)) h0
            omega
          have e3 : ((wd : Int) / 2 ^ (i % 32) % 2) * 2 ^ (i % 32) = ((wd / 2 ^ (i % 32) % 2 * 2 ^ (i % 32) : Nat) : Int) := by
            rw [cast_pow]
            simp
          have e4 : 2 * (wd / 2 ^ (i % 32) % 2) * 2 ^ (i % 32) = 2 * (wd / 2 ^ (i % 32) % 2 * 2 ^ (i % 32)) := Nat.mul_assoc _ _ _
          rw [e3, e4, cast_pow]
          generalize wd / 2 ^ (i % 32) % 2 * 2 ^ (i % 32) = x at hb2 hb3
          generalize 2 ^ (i % 32) = y at hb3
          omega
        have ha1 : ((words l).map nV).set (i / 32) (V.int (Builtin.bitXor (wordOf ((l.drop (32 * (i / 32))).take 32) : Int) (1 * 2 ^ ((i : Int) % 32).toNat))) = (words (l.set i c)).map nV := by
          rw [ev, ← ex, List.map_set]
        have ha1' := congrArg HO.lst ha1
        rw [show (HO.lst (((words l).map nV).set (i / 32) (V.int (Builtin.bitXor (wordOf ((l.drop (32 * (i / 32))).take 32) : Int) (1 * 2 ^ ((i : Int) % 32).toNat))))) = HO.lst ((words (l.set i c)).map nV) from ha1']
        have hp1 : upd H a (.lst ((words (l.set i c)).map nV)) p = some (.ins A.cB dx (brf l.length a b)) := by rw [upd_ne npa]; exact hp
        have hb1' : upd H a (.lst ((words (l.set i c)).map nV)) b = some (.lst ((marks l).map nV)) := by rw [upd_ne nab.symm]; exact hb
        -- for later in range(at + 1, len(self.heads))
        refine ⟨_, rfl, _, _, rfl, rfl, _, rfl, p, A.cB, dx, _, _, rfl, hp1, T.clB, T.nB_heads, brf_heads _ _ _, b, _, rfl, .inl (SqL.of hb1'), _, _, rfl, ?_, ?_⟩
        · rw [List.length_map, marks_len]
          unfold wn
          omega
        refine for_range (lo := ((i / 32 : Nat) : Int) + 1) (fun j σ H' => ∃ u : Option V, σ = [some (.ref p), some (nV i), some (bV c), some (nV (i / 32)), u] ∧ (∀ b' o, H b' = some o → b' ≠ a → b' ≠ b → H' b' = some o) ∧
          H' a = some (.lst ((words (l.set i c)).map nV)) ∧ H' b = some (.lst ((mmix l (l.set i c) (i / 32 + 1 + j)).map nV)))
          ⟨none, rfl, fun b' o e n1 n2 => by rw [upd_ne n1]; exact e, upd_same, by rw [Nat.add_zero, mmix_old hb1]; exact hb1'⟩ ?_ ?_
        · rintro j σ H' hj ⟨z, rfl, s1, ha2, hb2⟩
          rw [List.length_map, marks_len] at hj
          have hk : i / 32 + 1 + j < wn l.length := by omega
          have hp2 := s1 _ _ hp npa npb
          have ek : ((i / 32 : Nat) : Int) + 1 + (j : Nat) = ((i / 32 + 1 + j : Nat) : Int) := by omega
          refine ⟨_, rfl, p, A.cB, dx, _, _, rfl, hp2, T.clB, T.nB_heads, brf_heads _ _ _, _, rfl, b, _, _, nV (cnt (l.take (32 * (i / 32 + 1 + j)))), rfl, rfl, SqL.of hb2, at_of ek ?_, ?_⟩
          · rw [List.getElem?_map, mmix_at hk, if_neg (Nat.lt_irrefl _)]
            rfl
          refine ⟨_, rfl, _, _, rfl, rfl, .inl ⟨by decide, by decide⟩, _, _, rfl, rfl, _, _, rfl, rfl, ?_⟩
          refine ⟨_, rfl, p, A.cB, dx, _, _, rfl, hp2, T.clB, T.nB_heads, brf_heads _ _ _, _, rfl, b, _, _, _, rfl, rfl, hb2, (by rw [ek]; exact ixN_nat (by rw [List.length_map, mmix_len]; exact hk)), ?_⟩
          refine ⟨_, rfl, fun b' o e n1 n2 => by rw [upd_ne n2]; exact s1 _ _ e n1 n2, by rw [upd_ne nab]; exact ha2, ?_⟩
          have ev : V.int ((cnt (l.take (32 * (i / 32 + 1 + j))) : Int) + 2 * (c.toNat : Int) - 1) = nV (cnt ((l.set i c).take (32 * (i / 32 + 1 + j)))) := by
            have := cnt_set_take hb1 (32 * (i / 32 + 1 + j))
            rw [if_pos (by omega)] at this
            unfold nV
            congr 1
            omega
          rw [upd_same, show i / 32 + 1 + (j + 1) = i / 32 + 1 + j + 1 from rfl, ← mmix_set hk, List.map_set, ← ev]
        · rintro σ H' ⟨z, rfl, s1, ha2, hb2⟩
          rw [List.length_map, marks_len] at hb2
          rw [mmix_new (by rw [List.length_set]) (by omega)] at hb2
          refine ⟨_, rfl, (by show 1 ≤ sizeLine; decide), fun q hq => ?_⟩
          have hp2 := s1 _ _ hp npa npb
          have nq : ∀ {x : Addr} {o : HO}, H' x = some o → x ≠ q := fun h => ne_of_none h hq
          have hq0 : H q = none := by
            cases e : H q with
            | none => rfl
            | some o =>
              by_cases e1 : q = a
              · rw [e1, ha2] at hq; cases hq
              · by_cases e2 : q = b
                · rw [e2, hb2] at hq; cases hq
                · rw [s1 _ _ e e1 e2] at hq; cases hq
          refine kk q _ (fun b' o e n1 n2 => ?_) hq0 upd_same ⟨⟨dx, by rw [List.length_set, upd_ne (nq hp2)]; exact hp2⟩, by rw [upd_ne (nq ha2)]; exact ha2, by rw [upd_ne (nq hb2)]; exact hb2, nab, by rw [List.length_set]; exact hl⟩
          rw [upd_ne (ne_of_none e hq0)]
          exact s1 _ _ e n1 n2
    · have c' : amongV u 0 1 = false := by simpa using cu
      rw [c']
      refine iteT ?_
      exact kE c'

/-! ### data compared -/
theorem dp_ints {K : PySem.W.Frag} {H : Hp} : ∀ ns : List Int, DpAll K H (ns.map V.int) (ns.map PyData.int)
  | [] => .nil
  | n :: ns => .cons (.int n) (dp_ints ns)
theorem lay_ints : ∀ ns : List Int, PyData.canLayAll0 (ns.map PyData.int) = true
  | [] => by simp [PyData.canLayAll0]
  | n :: ns => by
    rw [List.map_cons, PyData.canLayAll0, lay_ints ns]
    simp [PyData.canLay0]
theorem depth_ints : ∀ ns : List Int, PyData.depthAll (ns.map PyData.int) ≤ 1
  | [] => by simp [PyData.depthAll]
  | n :: ns => by
    have := depth_ints ns
    rw [List.map_cons, PyData.depthAll]
    simp only [PyData.depth]
    omega
theorem shaped_ints (ns : List Int) : SeqAt.shaped (.list (ns.map PyData.int)) = true := by
  unfold SeqAt.shaped
  rw [PyData.canLay0, lay_ints, PyData.depth]
  have := depth_ints ns
  simp only [Bool.true_and, decide_eq_true_eq]
  omega
theorem eqv_ints : ∀ ns ms : List Int, PyData.eqvAll (ns.map PyData.int) (ms.map PyData.int) = decide (ns = ms)
  | [], [] => by simp [PyData.eqvAll]
  | [], m :: ms => by simp [PyData.eqvAll]
  | n :: ns, [] => by simp [PyData.eqvAll]
  | n :: ns, m :: ms => by
    rw [List.map_cons, List.map_cons, PyData.eqvAll, eqv_ints ns ms, PyData.eqv]
    by_cases h : n = m
    · by_cases h2 : ns = ms <;> simp [h, h2]
    · simp [h]
theorem ne_ints {K : PySem.W.Frag} {H : Hp} {p q : Addr} {ns ms : List Int} {Q : VK} (h1 : SqL K H p (ns.map V.int)) (h2 : SqL K H q (ms.map V.int)) (k : Q (.bl (!decide (ns = ms))) H) : rNeD K (.ref p) (.ref q) H Q :=
  ⟨_, _, .lst h1 (dp_ints ns), .lst h2 (dp_ints ms), shaped_ints ns, shaped_ints ms, by rw [PyData.eqv, eqv_ints]; exact k⟩
theorem eq_ints {K : PySem.W.Frag} {H : Hp} {p q : Addr} {ns ms : List Int} {Q : VK} (h1 : SqL K H p (ns.map V.int)) (h2 : SqL K H q (ms.map V.int)) (k : Q (.bl (decide (ns = ms))) H) : rEqD K (.ref p) (.ref q) H Q :=
  ⟨_, _, .lst h1 (dp_ints ns), .lst h2 (dp_ints ms), shaped_ints ns, shaped_ints ms, by rw [PyData.eqv, eqv_ints]; exact k⟩
theorem ints_nV (l : List Nat) : l.map nV = (l.map fun (n : Nat) => ((n : Nat) : Int)).map V.int := by rw [List.map_map]; rfl
theorem ints_bV (l : List Bool) : l.map bV = (l.map fun b => (b.toNat : Int)).map V.int := by rw [List.map_map]; rfl
/-- two lists of naturals, the same -/
theorem ne_same {K : PySem.W.Frag} {H : Hp} {p q : Addr} {l : List Nat} {Q : VK} (h1 : SqL K H p (l.map nV)) (h2 : SqL K H q (l.map nV)) (k : Q (.bl false) H) : rNeD K (.ref p) (.ref q) H Q := by
  rw [ints_nV] at h1 h2
  exact ne_ints h1 h2 (by simpa using k)
theorem eq_same {K : PySem.W.Frag} {H : Hp} {p q : Addr} {l : List Nat} {Q : VK} (h1 : SqL K H p (l.map nV)) (h2 : SqL K H q (l.map nV)) (k : Q (.bl true) H) : rEqD K (.ref p) (.ref q) H Q := by
  rw [ints_nV] at h1 h2
  exact eq_ints h1 h2 (by simpa using k)
theorem ne_sameB {K : PySem.W.Frag} {H : Hp} {p q : Addr} {l : List Bool} {Q : VK} (h1 : SqL K H p (l.map bV)) (h2 : SqL K H q (l.map bV)) (k : Q (.bl false) H) : rNeD K (.ref p) (.ref q) H Q := by
  rw [ints_bV] at h1 h2
  exact ne_ints h1 h2 (by simpa using k)
theorem eq_sameB {K : PySem.W.Frag} {H : Hp} {p q : Addr} {l : List Bool} {Q : VK} (h1 : SqL K H p (l.map bV)) (h2 : SqL K H q (l.map bV)) (k : Q (.bl true) H) : rEqD K (.ref p) (.ref q) H Q := by
  rw [ints_bV] at h1 h2
  exact eq_ints h1 h2 (by simpa using k)

/-! ### the law's row of numbers: a dict with the script and a counter -/
def kAt : Key := Sum.inr ("at" : Str)
def kCe : Key := Sum.inr ("cells" : Str)
theorem k_ca : ¬ (kCe = kAt) := by
  intro h
  injection h with h
  exact absurd h (by decide +kernel)
def stD (a : Addr) (k : Nat) : List (Key × V) := [(kCe, .ref a), (kAt, nV k)]
theorem st_at (a : Addr) (k : Nat) : valV (stD a k) kAt = some (nV k) := by
  unfold stD
  rw [valV_neg k_ca, valV_pos rfl]
theorem st_cells (a : Addr) (k : Nat) : valV (stD a k) kCe = some (.ref a) := by
  unfold stD
  rw [valV_pos rfl]
theorem st_put (a : Addr) (k j : Nat) : putK (stD a k) kAt (nV j) = stD a j := by
  unfold putK stD
  rw [if_pos (by simp)]
  simp [k_ca]
theorem dget_at {H : Hp} {d a : Addr} {k : Nat} (h : H d = some (.dK (stD a k))) : DGet H d (.str "at") (some (nV k)) := by
  have := DGet.k (k := kAt) h
  rw [st_at] at this
  exact this
theorem dget_cells {H : Hp} {d a : Addr} {k : Nat} (h : H d = some (.dK (stD a k))) : DGet H d (.str "cells") (some (.ref a)) := by
  have := DGet.k (k := kCe) h
  rw [st_cells] at this
  exact this
theorem dput_at {H : Hp} {d a : Addr} {k j : Nat} {v : V} (h : H d = some (.dK (stD a k))) (hv : v = nV j) : DPut H d (.str "at") v (upd H d (.dK (stD a j))) := by
  have := DPut.k (k := kAt) (v := v) h (Nat.lt_of_le_of_lt (show (stD a k).length ≤ 2 from Nat.le_refl _) (by decide))
  rw [hv, st_put] at this
  rw [hv]
  exact this
structure St (K : PySem.W.Frag) (H : Hp) (d a : Addr) (ns : List Int) (k : Nat) : Prop where
  dict : H d = some (.dK (stD a k))
  cells : SqL K H a (ns.map V.int)
  len : ns.length ≤ 63
  few : k ≤ 1000000
theorem sql_keepD {K : PySem.W.Frag} {H H' : Hp} {d a : Addr} {kvs : List (Key × V)} {xs : List V} (k : Keep d H H') (hd : H d = some (.dK kvs)) (h : SqL K H a xs) : SqL K H' a xs := by
  rcases h with (h | ⟨o, h⟩) | h
  · exact .inl (.inl (k _ _ h (ne_of h hd (by intro z; cases z))))
  · exact .inl (.inr ⟨o, k _ _ h (ne_of h hd (by intro z; cases z))⟩)
  · exact .inr h
theorem St.same {K : PySem.W.Frag} {H H' : Hp} {d a : Addr} {ns : List Int} {k : Nat} (s : Same H H') (h : St K H d a ns k) : St K H' d a ns k := ⟨s _ _ h.dict, s.seq h.cells, h.len, h.few⟩
theorem Keep.free {p x : Addr} {H H' : Hp} {o : HO} (k : Keep p H H') (h : H' x = none) (hp : H' p = some o) : H x = none := by
  cases e : H x with
  | none => rfl
  | some u =>
    by_cases z : x = p
    · rw [z, hp] at h; cases h
    · rw [k _ _ e z] at h; cases h
theorem St.keep {K : PySem.W.Frag} {H H' : Hp} {d a : Addr} {ns : List Int} {k k' : Nat} (h : St K H d a ns k) (kp : Keep d H H') (hd : H' d = some (.dK (stD a k'))) (hk : k' ≤ 1000000) : St K H' d a ns k' :=
  ⟨hd, sql_keepD kp h.dict h.cells, h.len, hk⟩
/-- one more number drawn: some number below 306783379 -/
def spNext (K : PySem.W.Frag) : Sp := fun vs H Q _ => ∃ (d a : Addr) (ns : List Int) (k : Nat), vs = [.ref d] ∧ St K H d a ns k ∧ k < 900000 ∧
  ∀ (n : Nat) (H' : Hp), n < 306783379 → Keep d H H' → St K H' d a ns (k + 1) → Q (nV n) H'
theorem draw_nat {z : Int} : ∃ n : Nat, z % 2147483647 / 7 = (n : Int) ∧ n < 306783379 := by
  refine ⟨(z % 2147483647 / 7).toNat, ?_, ?_⟩ <;> omega
theorem emod_at {α : Type} {xs : List α} {k : Int} (h : 0 < xs.length) : ∃ j : Nat, k % (xs.length : Int) = (j : Int) ∧ j < xs.length := by
  have h1 := Int.emod_nonneg k (b := (xs.length : Int)) (by omega)
  have h2 := Int.emod_lt_of_pos k (b := (xs.length : Int)) (by omega)
  exact ⟨(k % (xs.length : Int)).toNat, by omega, by omega⟩
theorem if_t {c : Bool} {A B : Prop} (hc : c = true) (h : A) : if c = true then A else B := by
  rw [if_pos hc]
  exact h
theorem if_f {c : Bool} {A B : Prop} (hc : c = false) (h : B) : if c = true then A else B := by
  rw [hc, if_neg Bool.false_ne_true]
  exact h
theorem same_new_seq {K : PySem.W.Frag} {H : Hp} {a p : Addr} {xs : List V} {o : HO} (h : SqL K H a xs) (hp : H p = none) : SqL K (upd H p o) a xs := (same_new (Same.refl H) hp).seq h
set_option maxHeartbeats 1000000 in
theorem ok__law_next (T : Tx K mg A) : FnOk P w K mg base CX0 1 A._law_next A._law_next_d ["_law_state"] (spNext K) := by
  refine T._law_next.F.ok sc__law_next (fun vs H Q E h => ?_) (fun cdv Ar outer s H vs Q E hr h => ?_)
  · obtain ⟨d, a, ns, k, rfl, _⟩ := h
    rfl
  · obtain ⟨d, a, ns, k, rfl, S, hk, kQ⟩ := h
    have hu := hu_of hr
    refine ⟨_, (pss_cons (ps_dput hu (pv 0) pe_str (pe_op op_add (pe_dget hu (pv 0) pe_str (fun _ _ => rfl)) pe_int) rfl)
      (pss_cons (ps_set (i := 1) sc__law_next.nd rfl (by first | exact Or.inl rfl | exact Or.inr rfl) (pe_dget hu (pv 0) pe_str (fun _ _ => rfl)))
      (pss_cons (ps_set (i := 2) sc__law_next.nd rfl (by first | exact Or.inl rfl | exact Or.inr rfl) (pe_dget hu (pv 0) pe_str (fun _ _ => rfl)))
      (pss_cons (ps_set (i := 3) sc__law_next.nd rfl (by first | exact Or.inl rfl | exact Or.inr rfl) (pe_op op_add (pe_op op_mul (pe_op op_mul pe_int (pv 1)) (pv 1)) (pe_op op_mul pe_int (pv 1))))
      (pss_cons (ps_if (pt_cmpR (op_neD (hr.units)) (pv 2) (pe_lst pa_nil) (nomark _)) (pss_one (ps_set (i := 3) sc__law_next.nd rfl (by first | exact Or.inl rfl | exact Or.inr rfl) (pe_op op_add (pv 3) (pe_op op_mul (pe_op op_mod (pe_ix ix_list (pv 2) (pe_op op_mod (pv 1) (pe_callB call_len_seq (by rfl) T.b_len (by decide +kernel) (pa_cons (pv 2) pa_nil))) (fun _ _ => rfl)) pe_int) (pe_op op_add pe_int (pe_op op_fdiv (pv 1) (pe_callB call_len_seq (by rfl) T.b_len (by decide +kernel) (pa_cons (pv 2) pa_nil)))))))) pss_nil)
      (pss_one (ps_ret (pe_op op_fdiv (pe_op op_mod (pe_op op_mul (pv 3) pe_int) pe_int) pe_int)))))))), ?_⟩
    obtain ⟨hd, hc, hl, hf⟩ := id S
    -- _law_state["at"] = _law_state["at"] + 1
    refine ⟨_, rfl, d, _, rfl, dget_at hd, _, _, rfl, rfl, _, rfl, d, _, rfl, dput_at (j := k + 1) hd rfl, ?_⟩
    have kp : Keep d H (upd H d (.dK (stD a (k + 1)))) := (keep_of (Same.refl H)).upd _
    have hc1 := sql_keepD kp hd hc
    have S1' : St K (upd H d (.dK (stD a (k + 1)))) d a ns (k + 1) := ⟨upd_same, hc1, hl, by omega⟩
    refine ⟨_, rfl, d, _, rfl, dget_at upd_same, _, rfl, d, _, rfl, dget_cells upd_same, ?_⟩
    refine ⟨_, rfl, _, _, rfl, rfl, .inl ⟨by decide, by decide⟩, _, rfl, _, _, rfl, rfl, .inl ⟨?_, ?_⟩, _, rfl, _, _, rfl, rfl, .inl ⟨by decide, by decide⟩, _, _, rfl, rfl, ?_⟩
    · show -(2 ^ 64) < (31 : Int) * ((k + 1 : Nat) : Int)
      omega
    · show (31 : Int) * ((k + 1 : Nat) : Int) < 2 ^ 64
      omega
    -- if _law_cells != []
    refine ⟨_, rfl, Nat.zero_le _, fun e he => ne_ints (ns := ns) (ms := []) (same_new_seq hc1 he) (SqL.of upd_same) ⟨_, rfl, ?_⟩⟩
    have s0 := same_new (Same.refl (upd H d (.dK (stD a (k + 1))))) (o := .lst []) he
    have kp0 := kp.same s0
    have S1 := S1'.same s0
    by_cases hns : ns = []
    · refine if_f (by simp [hns]) ?_
      refine ⟨_, rfl, _, _, rfl, rfl, .inr ⟨by decide, by decide⟩, _, _, rfl, rfl, (by show (0 : Int) < 2147483647; decide), _, _, rfl, rfl, ⟨by decide, by decide⟩, ?_⟩
      obtain ⟨n, en, hn⟩ := draw_nat (z := (31 * ((k + 1 : Nat) : Int) * ((k + 1 : Nat) : Int) + 7919 * ((k + 1 : Nat) : Int)) * 48271)
      have q := kQ n _ hn kp0 S1
      refine cast ?_ q
      unfold nV
      congr 2
      exact en.symm
    · refine if_t (by simp [hns]) ?_
      have hlen : 0 < ns.length := List.length_pos_iff.mpr hns
      obtain ⟨j, ej, hj⟩ := emod_at (xs := ns) (k := ((k + 1 : Nat) : Int)) hlen
      have hlm : (ns.map V.int).length = ns.length := List.length_map ..
      refine ⟨_, rfl, _, rfl, _, rfl, _, rfl, a, _, rfl, .inl S1.cells, _, _, rfl, rfl, (by show (0 : Int) < ((ns.map V.int).length : Nat); omega), a, _, _, V.int ns[j], rfl, rfl, S1.cells, at_of (j := j) (by show ((k + 1 : Nat) : Int) % ((ns.map V.int).length : Nat) = _; rw [hlm]; exact ej) ?_, ?_⟩
      · rw [List.getElem?_map, List.getElem?_eq_getElem hj]
        rfl
      refine ⟨_, _, rfl, rfl, (by show (0 : Int) < 2147483647; decide), _, rfl, _, rfl, a, _, rfl, .inl S1.cells, _, _, rfl, rfl, ⟨by rw [hlm]; omega, by rw [hlm]; omega⟩, _, _, rfl, rfl, _, _, rfl, rfl, .inl ⟨?_, ?_⟩, _, _, rfl, rfl, ?_⟩
      · show -(2 ^ 64) < ns[j] % 2147483647
        omega
      · show ns[j] % 2147483647 < 2 ^ 64
        omega
      refine ⟨_, rfl, _, _, rfl, rfl, .inr ⟨by decide, by decide⟩, _, _, rfl, rfl, (by show (0 : Int) < 2147483647; decide), _, _, rfl, rfl, ⟨by decide, by decide⟩, ?_⟩
      obtain ⟨n, en, hn⟩ := draw_nat (z := (31 * ((k + 1 : Nat) : Int) * ((k + 1 : Nat) : Int) + 7919 * ((k + 1 : Nat) : Int) + ns[j] % 2147483647 * (1 + ((k + 1 : Nat) : Int) / (((ns.map V.int).length : Nat) : Int))) * 48271)
      have q := kQ n _ hn kp0 S1
      refine cast ?_ q
      unfold nV
      congr 2
      exact en.symm
theorem nn {z : Int} {m : Nat} (h0 : 0 ≤ z) (h1 : z < (m : Int)) : ∃ v : Nat, V.int z = nV v ∧ v < m := ⟨z.toNat, by unfold nV; congr 1; omega, by omega⟩
theorem pick {xs : List V} {z : Int} {R : Nat → Prop} (h0 : 0 ≤ z) (h1 : z < (xs.length : Int)) (hall : ∀ x ∈ xs, ∃ v : Nat, x = nV v ∧ R v) : ∃ v, atI xs z = some (nV v) ∧ R v := by
  have hj : z.toNat < xs.length := by omega
  obtain ⟨v, e, hv⟩ := hall xs[z.toNat] (List.getElem_mem hj)
  exact ⟨v, at_of (j := z.toNat) (by omega) (by rw [List.getElem?_eq_getElem hj, e]), hv⟩
/-- a number of so many bits -/
def spGreat (K : PySem.W.Frag) : Sp := fun vs H Q _ => ∃ (d a : Addr) (ns : List Int) (k wd : Nat), vs = [.ref d, nV wd] ∧ St K H d a ns k ∧ k < 890000 ∧ wd ≤ 64 ∧
  ∀ (v : Nat) (H' : Hp), v < 2 ^ wd → Keep d H H' → St K H' d a ns (k + 3) → Q (nV v) H'
/-! ### what the laws about rows of bits hold -/
def spLaw (K : PySem.W.Frag) : Sp := fun vs H Q _ => ∃ (a : Addr) (ns : List Int), vs = [.ref a] ∧ SqL K H a (ns.map V.int) ∧ ns.length ≤ 63 ∧ ∀ H', Q (.bl true) H'
theorem st_merge (a : Addr) (k : Nat) : mergeK [] (stD a k) = stD a k := by
  unfold mergeK stD
  show putK (putK [] kCe (.ref a)) kAt (nV k) = _
  have e1 : putK ([] : List (Key × V)) kCe (.ref a) = [(kCe, .ref a)] := by simp [putK]
  rw [e1]
  simp [putK, k_ca]
theorem same_keep {d : Addr} {H0 H H' : Hp} (s : Same H0 H) (k : Keep d H H') (f : H0 d = none) : Same H0 H' := fun b o e => k _ _ (s _ _ e) (ne_of_none e f)

/-! ### data of lists and tuples -/
def Ly (n : Nat) (d : PyData) : Prop := d.canLay0 = true ∧ d.depth ≤ n
theorem Ly.int (i : Int) : Ly 0 (.int i) := ⟨rfl, Nat.le_refl _⟩
theorem ly_all {n : Nat} : ∀ {ds : List PyData}, (∀ d ∈ ds, Ly n d) → PyData.canLayAll0 ds = true ∧ PyData.depthAll ds ≤ n
  | [], _ => ⟨rfl, Nat.zero_le _⟩
  | d :: ds, h => by
    have h1 := h d List.mem_cons_self
    have h2 := ly_all (ds := ds) fun e he => h e (List.mem_cons_of_mem _ he)
    refine ⟨?_, ?_⟩
    · rw [PyData.canLayAll0, h1.1, h2.1]
      rfl
    · rw [PyData.depthAll]
      exact Nat.max_le.mpr ⟨h1.2, h2.2⟩
theorem Ly.list {n : Nat} {ds : List PyData} (h : ∀ d ∈ ds, Ly n d) : Ly (n + 1) (.list ds) := by
  obtain ⟨h1, h2⟩ := ly_all h
  refine ⟨?_, ?_⟩
  · rw [PyData.canLay0, h1]
  · rw [PyData.depth]
    omega
theorem Ly.tup {n : Nat} {ds : List PyData} (h : ∀ d ∈ ds, Ly n d) : Ly (n + 1) (.tuple ds) := by
  obtain ⟨h1, h2⟩ := ly_all h
  refine ⟨?_, ?_⟩
  · rw [PyData.canLay0, h1]
  · rw [PyData.depth]
    omega
theorem Ly.le {n m : Nat} {d : PyData} (h : Ly n d) (hm : n ≤ m) : Ly m d := ⟨h.1, Nat.le_trans h.2 hm⟩
theorem Ly.shaped {n : Nat} {d : PyData} (h : Ly n d) (hn : n ≤ 64) : SeqAt.shaped d = true := by
  unfold SeqAt.shaped
  rw [h.1, Bool.true_and, decide_eq_true_eq]
  exact Nat.le_trans h.2 hn
theorem ne_data {K : PySem.W.Frag} {H : Hp} {x y : V} {n : Nat} {d : PyData} {Q : VK} (l : Ly n d) (hn : n ≤ 64) (h1 : Dp K H x d) (h2 : Dp K H y d) (k : Q (.bl false) H) : rNeD K x y H Q :=
  ⟨d, d, h1, h2, l.shaped hn, l.shaped hn, by rw [SeqAt.eqv_refl d l.1]; exact k⟩
theorem eq_data {K : PySem.W.Frag} {H : Hp} {x y : V} {n : Nat} {d : PyData} {Q : VK} (l : Ly n d) (hn : n ≤ 64) (h1 : Dp K H x d) (h2 : Dp K H y d) (k : Q (.bl true) H) : rEqD K x y H Q :=
  ⟨d, d, h1, h2, l.shaped hn, l.shaped hn, by rw [SeqAt.eqv_refl d l.1]; exact k⟩
theorem dp_map {K : PySem.W.Frag} {H : Hp} {α : Type} (f : α → V) (g : α → PyData) : ∀ {l : List α}, (∀ a ∈ l, Dp K H (f a) (g a)) → DpAll K H (l.map f) (l.map g)
  | [], _ => .nil
  | a :: l, h => .cons (h a List.mem_cons_self) (dp_map f g fun b hb => h b (List.mem_cons_of_mem _ hb))
theorem dp_ix {K : PySem.W.Frag} {H : Hp} : ∀ {bs : List Addr} {g : Nat → PyData}, (∀ l b, bs[l]? = some b → Dp K H (.ref b) (g l)) → DpAll K H (bs.map V.ref) ((List.range bs.length).map g)
  | [], _, _ => .nil
  | b :: bs, g, h => by
    rw [List.length_cons, List.range_succ_eq_map, List.map_cons, List.map_cons, List.map_map]
    exact .cons (h 0 b rfl) (dp_ix (g := g ∘ Nat.succ) fun l c hc => h (l + 1) c hc)
def natsD (ns : List Nat) : PyData := .list (ns.map fun (n : Nat) => PyData.int (n : Int))
theorem natsD_ly (ns : List Nat) : Ly 1 (natsD ns) := Ly.list fun d hd => by
  obtain ⟨n, _, rfl⟩ := List.mem_map.mp hd
  exact Ly.int _
theorem natsD_dp {K : PySem.W.Frag} {H : Hp} {a : Addr} {ns : List Nat} (h : SqL K H a (ns.map nV)) : Dp K H (.ref a) (natsD ns) := .lst h (dp_map nV _ fun n _ => .int _)
def bitsD (bs : List Bool) : PyData := .list (bs.map fun (b : Bool) => PyData.int (b.toNat : Int))
theorem bitsD_ly (ns : List Bool) : Ly 1 (bitsD ns) := Ly.list fun d hd => by
  obtain ⟨n, _, rfl⟩ := List.mem_map.mp hd
  exact Ly.int _
theorem bitsD_dp {K : PySem.W.Frag} {H : Hp} {a : Addr} {bs : List Bool} (h : SqL K H a (bs.map bV)) : Dp K H (.ref a) (bitsD bs) := .lst h (dp_map bV _ fun n _ => .int _)
/-- an if whose ends are joined -/
def tJoin (t : TS) : TS := fun D σ H => ∃ R : L2.St → Hp → Prop, t { D with nx := R } σ H ∧ ∀ σ' H', R σ' H' → D.nx σ' H'
theorem ps_join {X : Cx} {st : Stmt} {t : TS} (h : PS X st t) : PS X st (tJoin t) := by
  refine ⟨fun pins s σ H D I hw => ?_⟩
  obtain ⟨R, h1, h2⟩ := hw
  refine thn (h.run pins s σ H _ I h1) fun f s1 q => ?_
  cases f with
  | next => obtain ⟨σ', H', I2, q⟩ := q; exact ⟨σ', H', I2, h2 _ _ q⟩
  | brk => exact q
  | cont => exact q
  | ret v => exact q
theorem cut_nat {xs : List V} {i j : Nat} (h : i ≤ j) : cutV xs (some (i : Int)) (some (j : Int)) = (xs.drop i).take (j - i) := by
  unfold cutV
  rw [HT.sIx_nat, HT.sIx_nat]
  by_cases hi : i ≤ xs.length
  · rw [Nat.min_eq_left hi]
    by_cases hj : j ≤ xs.length
    · rw [Nat.min_eq_left hj]
    · rw [Nat.min_eq_right (by omega), List.take_of_length_le (by rw [List.length_drop]; omega), List.take_of_length_le (by rw [List.length_drop]; omega)]
  · have e : min i xs.length = xs.length := by omega
    rw [e, List.drop_of_length_le (Nat.le_refl xs.length), List.drop_of_length_le (show xs.length ≤ i by omega)]
    simp
theorem cut_to {xs : List V} {j : Nat} : cutV xs none (some (j : Int)) = xs.take j := by
  unfold cutV
  rw [HT.sIx_nat, HT.sIx_none, List.drop_zero]
  show xs.take (min j xs.length - 0) = _
  by_cases hj : j ≤ xs.length
  · rw [Nat.min_eq_left hj, Nat.sub_zero]
  · rw [Nat.min_eq_right (by omega), List.take_of_length_le (by omega), List.take_of_length_le (by omega)]

/-! ### the law's row of bits -/
/-- none to 330 bits in a new list -/
def spLBits (K : PySem.W.Frag) : Sp := fun vs H Q _ => ∃ (d a : Addr) (ns : List Int) (k : Nat), vs = [.ref d] ∧ St K H d a ns k ∧ k < 890000 ∧
  ∀ (l : List Bool) (q : Addr) (H' : Hp) (k' : Nat), l.length ≤ 330 → k' ≤ k + 340 → Keep d H H' → St K H' d a ns k' → H q = none → H' q = some (.lst (l.map bV)) → Q (.ref q) H'
theorem int_bit {b : Bool} : V.int (if b = true then 1 else 0) = bV b := by cases b <;> rfl
set_option maxHeartbeats 1000000 in
theorem ok__law_bits (T : Tx K mg A) : FnOk P w K mg base CX0 2 A._law_bits A._law_bits_d ["_law_state"] (spLBits K) := by
  refine T._law_bits.F.ok sc__law_bits (fun vs H Q E h => ?_) (fun cdv Ar outer s H vs Q E hr h => ?_)
  · obtain ⟨d, a, ns, k, rfl, _⟩ := h
    rfl
  · obtain ⟨d, a, ns, k, rfl, S, hk, kQ⟩ := h
    refine ⟨_, (pss_cons (ps_set (i := 1) sc__law_bits.nd rfl (by first | exact Or.inl rfl | exact Or.inr rfl) (pe_call (E := E0) (ok__law_next T) (hr.mono (by decide)) rfl T._law_next.g T._law_next.F.kp T._law_next.b .nil pass0 (pa_cons (pv 0) pa_nil)))
      (pss_cons (ps_set (i := 2) sc__law_bits.nd rfl (by first | exact Or.inl rfl | exact Or.inr rfl) (pe_ix ix_list (pe_lst (pa_cons (pe_op op_mod (pe_op op_fdiv (pv 1) pe_int) pe_int) (pa_cons (pe_op op_mul pe_int (pe_op op_mod (pe_op op_fdiv (pv 1) pe_int) pe_int)) (pa_cons (pe_op op_mod (pe_op op_fdiv (pv 1) pe_int) pe_int) (pa_cons (pe_op op_add pe_int (pe_op op_mod (pe_op op_fdiv (pv 1) pe_int) pe_int)) (pa_cons pe_int (pa_cons pe_int pa_nil))))))) (pe_op op_mod (pv 1) pe_int) (fun _ _ => rfl)))
      (pss_cons (ps_set (i := 3) sc__law_bits.nd rfl (by first | exact Or.inl rfl | exact Or.inr rfl) (pe_ix ix_list (pe_lst (pa_cons pe_int (pa_cons pe_int (pa_cons pe_int (pa_cons pe_int pa_nil))))) (pe_op op_mod (pe_op op_fdiv (pv 1) pe_int) pe_int) (fun _ _ => rfl)))
      (pss_cons (ps_setLc (i := 4) (own := [("_law_k", 5)]) (g := gName 5) (tt := tYes) rfl sc__law_bits.nd rfl rfl (sw_true rfl rfl rfl (by decide +kernel)) (pi_range1 (by rfl) T.b_range (pa_cons (pv 2) pa_nil)) (blkOk_by (N := n__law_bits) (sc := defScope s__law_bits) (by decide +kernel)) (fun _ _ _ _ _ => (pg_name (i := 5) sc__law_bits.nd rfl (by first | exact Or.inl rfl | exact Or.inr rfl))) (fun _ _ _ _ _ => pts_nil) (fun _ _ _ _ _ => (pe_callTy call_int1 (by rfl) T.b_int (by decide +kernel) (pa_cons (pe_cmpR op_eq (pe_op op_mod (pe_op op_fdiv (pe_call (E := E0) (ok__law_next T) (hr.mono (by decide)) rfl T._law_next.g T._law_next.F.kp T._law_next.b .nil pass0 (pa_cons (pv 0) pa_nil)) pe_int) (pv 3)) pe_int (nomark _)) pa_nil))))
      (pss_cons (ps_if (pt_cmpR op_eq (pe_op op_mod (pe_op op_fdiv (pv 1) pe_int) pe_int) pe_int (nomark _)) (pss_one (ps_setLc (i := 4) (own := [("_law_bit", 6)]) (g := gName 6) (tt := tYes) rfl sc__law_bits.nd rfl rfl (sw_true rfl rfl rfl (by decide +kernel)) (pi_list (pv 4)) (blkOk_by (N := n__law_bits) (sc := defScope s__law_bits) (by decide +kernel)) (fun _ _ _ _ _ => (pg_name (i := 6) sc__law_bits.nd rfl (by first | exact Or.inl rfl | exact Or.inr rfl))) (fun _ _ _ _ _ => pts_nil) (fun _ _ _ _ _ => (pe_op op_sub pe_int (pv 6))))) pss_nil)
      (pss_one (ps_ret (pv 4)))))))), ?_⟩
    refine ⟨_, rfl, d, a, ns, k, rfl, S, by omega, fun n H1 hn kp1 S1 => ?_⟩
    -- _law_size
    refine ⟨_, rfl, _, _, rfl, rfl, ⟨by decide, by decide⟩, _, _, rfl, rfl, (by show (0 : Int) < 70; decide), ?_⟩
    refine ⟨_, rfl, _, _, rfl, rfl, ⟨by decide, by decide⟩, _, _, rfl, rfl, (by show (0 : Int) < 5; decide), _, _, rfl, rfl, .inl ⟨by decide, by decide⟩, ?_⟩
    refine ⟨_, rfl, _, _, rfl, rfl, ⟨by decide, by decide⟩, _, _, rfl, rfl, (by show (0 : Int) < 330; decide), ?_⟩
    refine ⟨_, rfl, _, _, rfl, rfl, ⟨by decide, by decide⟩, _, _, rfl, rfl, (by show (0 : Int) < 3; decide), _, _, rfl, rfl, (by show 6 ≤ sizeLine; decide), fun q1 hq1 => ?_⟩
    obtain ⟨sz, esz, hsz⟩ := pick (xs := [V.int ((n : Int) / 9 % 70), V.int (32 * ((n : Int) / 9 % 5)), V.int ((n : Int) / 9 % 330), V.int (31 + (n : Int) / 9 % 3), V.int 0, V.int 64])
      (z := (n : Int) % 6) (R := fun v => v < 331) (by omega) (by show (n : Int) % 6 < 6; omega) (fun x hx => by
        simp only [List.mem_cons, List.not_mem_nil, or_false] at hx
        rcases hx with rfl | rfl | rfl | rfl | rfl | rfl <;> exact nn (by omega) (by omega))
    refine ⟨_, rfl, _, _, rfl, rfl, (by show (0 : Int) < 6; decide), q1, _, _, _, rfl, rfl, SqL.of upd_same, esz, ?_⟩
    generalize hH2 : upd H1 q1 (.lst [V.int ((n : Int) / 9 % 70), V.int (32 * ((n : Int) / 9 % 5)), V.int ((n : Int) / 9 % 330), V.int (31 + (n : Int) / 9 % 3), V.int 0, V.int 64]) = H2
    have s2 : Same H1 H2 := by rw [← hH2]; exact same_new (Same.refl H1) hq1
    -- _law_part
    refine ⟨(by show 4 ≤ sizeLine; decide), fun q2 hq2 => ?_⟩
    obtain ⟨pt, ept, hpt⟩ := pick (xs := [V.int 2, V.int 2, V.int 9, V.int 40]) (z := (n : Int) / 4000 % 4) (R := fun v => 0 < v) (by omega) (by show (n : Int) / 4000 % 4 < 4; omega) (fun x hx => by
        simp only [List.mem_cons, List.not_mem_nil, or_false] at hx
        rcases hx with rfl | rfl | rfl | rfl
        · exact ⟨2, rfl, by decide⟩
        · exact ⟨2, rfl, by decide⟩
        · exact ⟨9, rfl, by decide⟩
        · exact ⟨40, rfl, by decide⟩)
    refine ⟨_, rfl, _, _, rfl, rfl, ⟨by decide, by decide⟩, _, _, rfl, rfl, (by show (0 : Int) < 4; decide), q2, _, _, _, rfl, rfl, SqL.of upd_same, ept, ?_⟩
    generalize hH3 : upd H2 q2 (.lst [V.int 2, V.int 2, V.int 9, V.int 40]) = H3
    have s3 : Same H2 H3 := by rw [← hH3]; exact same_new (Same.refl H2) hq2
    have S3 := (S1.same s2).same s3
    have kp3 : Keep d H H3 := (kp1.same s2).same s3
    -- the bits
    refine ⟨_, rfl, sz, rfl, by omega, by omega, fun D hD => ?_⟩
    have hdD : d ≠ D := ne_of_none S3.dict hD
    refine lc_range (lo := 0) (n := ((sz : Nat) : Int).toNat) (fun i H' => Keep d H3 H' ∧ St K H' d a ns (k + 1 + i) ∧ ∃ l : List Bool, l.length = i ∧ H' D = some (.lst (l.map bV)))
      ⟨(same_new (Same.refl H3) hD |> keep_of), S3.same (same_new (Same.refl H3) hD), [], rfl, upd_same⟩ (fun i H' hi h => ?_) (fun H' h => ?_)
    · obtain ⟨kp4, S4, l, hl, hD4⟩ := h
      refine ⟨rfl, ?_⟩
      refine tYes_i ?_
      rw [if_pos rfl]
      refine ⟨_, rfl, d, a, ns, k + 1 + i, rfl, S4, by omega, fun m H5 hm kp5 S5 => ?_⟩
      refine ⟨_, _, rfl, rfl, ⟨by decide, by decide⟩, _, rfl, _, _, rfl, rfl, (by show (0 : Int) < (pt : Nat); omega), rfl, .inr ⟨_, rfl, ?_⟩⟩
      have hD5 := kp5 D _ hD4 hdD.symm
      have kp6 : ∀ o : HO, Keep d H3 (upd H5 D o) := fun o b u e n => by
        rw [upd_ne (ne_of_none e hD)]
        exact kp5 _ _ (kp4 _ _ e n) n
      refine ⟨_, hD5, by rw [List.length_map]; exact line5 (by omega), kp6 _, S3.keep (kp6 _) (by rw [upd_ne hdD]; exact S5.dict) S5.few, l ++ [decide (V.int ((m : Int) / 3 % (pt : Int)) = V.int 0)], by simp [hl], ?_⟩
      · rw [upd_same, List.map_append]
        exact congrArg (fun z => some (HO.lst (l.map bV ++ [z]))) int_bit
    · obtain ⟨kp4, S4, l, hl, hD4⟩ := h
      have q0 : H D = none := by
        have e3 := s3.free hD
        have e2 := s2.free e3
        exact kp1.free e2 S1.dict
      have kpA : Keep d H H' := (kp3.trans kp4)
      -- if _law_n // 16000 % 3 == 1
      refine ⟨_, rfl, _, _, rfl, rfl, ⟨by decide, by decide⟩, _, _, rfl, rfl, (by show (0 : Int) < 3; decide), rfl, _, rfl, ?_⟩
      refine ite2 (fun c => ?_) (fun c => ?_)
      · refine ⟨_, rfl, D, rfl, ⟨_, SqL.of hD4⟩, fun D2 hD2 => ?_⟩
        refine lc_map (xs := l.map bV) (fun x => match x with | .int i => .int (1 - i) | _ => x) (SqL.of hD4) (by rw [List.length_map]; omega) hD2 (fun _ => rfl) (fun i x H5 hx s5 Q' kq => ?_) (fun H5 s5 hD5 => ?_)
        · rw [List.getElem?_map] at hx
          obtain ⟨b, hb, ex⟩ : ∃ b, l[i]? = some b ∧ bV b = x := by
            cases e : l[i]? with
            | none => rw [e] at hx; cases hx
            | some b => rw [e] at hx; exact ⟨b, rfl, Option.some.inj hx⟩
          subst ex
          exact ⟨_, rfl, _, _, rfl, rfl, kq H5 (Same.refl H5)⟩
        · refine ⟨_, rfl, ?_⟩
          have em : (l.map bV).map (fun x => match x with | .int i => V.int (1 - i) | _ => x) = (l.map fun b => !b).map bV := by
            rw [List.map_map, List.map_map]
            apply List.map_congr_left
            intro b _
            cases b <;> rfl
          rw [em] at hD5
          have q2 : H D2 = none := kpA.free hD2 S4.dict
          exact kQ (l.map fun b => !b) D2 H5 _ (by rw [List.length_map]; omega) (by omega) (kpA.same s5) (S4.same s5) q2 hD5
      · refine ⟨_, rfl, ?_⟩
        exact kQ l D H' _ (by omega) (by omega) kpA S4 q0 hD4
/-- a row of bits with its bits in a list beside, and the law's numbers -/
structure RJ (K : PySem.W.Frag) (C : Addr) (H0 H : Hp) (d a L p pa pb : Addr) (ns : List Int) (l : List Bool) (k : Nat) : Prop where
  same : Same H0 H
  st : St K H d a ns k
  bits : H L = some (.lst (l.map bV))
  row : BRowAt C H p pa pb l
  fd : H0 d = none
  fL : H0 L = none
  fa : H0 pa = none
  fb : H0 pb = none
  na : L ≠ pa
  nb : L ≠ pb
section
variable {C : Addr} {H0 H H' : Hp} {d a L p pa pb : Addr} {ns : List Int} {l l' : List Bool} {k k' : Nat}
theorem RJ.to (J : RJ K C H0 H d a L p pa pb ns l k) (s : Same H H') : RJ K C H0 H' d a L p pa pb ns l k :=
  ⟨J.same.trans s, J.st.same s, s _ _ J.bits, J.row.same s, J.fd, J.fL, J.fa, J.fb, J.na, J.nb⟩
theorem BRowAt.keep {dd : Addr} {kvs : List (Key × V)} (R : BRowAt C H p pa pb l) (hd : H dd = some (.dK kvs)) (kp : Keep dd H H') : BRowAt C H' p pa pb l :=
  ⟨R.ob.imp fun _ h => kp _ _ h (ne_of h hd (by intro z; cases z)), kp _ _ R.pk (ne_of R.pk hd (by intro z; cases z)), kp _ _ R.hd (ne_of R.hd hd (by intro z; cases z)), R.ne, R.len⟩
theorem RJ.drawn (J : RJ K C H0 H d a L p pa pb ns l k) (kp : Keep d H H') (S : St K H' d a ns k') : RJ K C H0 H' d a L p pa pb ns l k' :=
  ⟨same_keep J.same kp J.fd, S, kp _ _ J.bits (ne_of J.bits J.st.dict (by intro z; cases z)), J.row.keep J.st.dict kp, J.fd, J.fL, J.fa, J.fb, J.na, J.nb⟩
theorem RJ.step (J : RJ K C H0 H d a L p pa pb ns l k) (fr : ∀ b o, H b = some o → b ≠ L → b ≠ pa → b ≠ pb → H' b = some o) (hL : H' L = some (.lst (l'.map bV))) (R : BRowAt C H' p pa pb l') (cs : SqL K H0 a (ns.map V.int)) :
    RJ K C H0 H' d a L p pa pb ns l' k := by
  have s0 : Same H0 H' := fun b o e => fr _ _ (J.same _ _ e) (ne_of_none e J.fL) (ne_of_none e J.fa) (ne_of_none e J.fb)
  exact ⟨s0, ⟨fr _ _ J.st.dict (ne_of J.st.dict J.bits (by intro z; cases z)) (ne_of J.st.dict J.row.pk (by intro z; cases z)) (ne_of J.st.dict J.row.hd (by intro z; cases z)), s0.seq cs, J.st.len, J.st.few⟩, hL, R, J.fd, J.fL, J.fa, J.fb, J.na, J.nb⟩
/-- one more object is held fast -/
theorem RJ.hold {z : Addr} {o : HO} (J : RJ K C H0 H d a L p pa pb ns l k) (hz : H z = none) : RJ K C (upd H0 z o) (upd H z o) d a L p pa pb ns l k := by
  have s := same_new (Same.refl H) (o := o) hz
  have ne : ∀ {x : Addr} {u : HO}, H x = some u → H0 x = none → (upd H0 z o) x = none := fun e f => by rw [upd_ne (ne_of_none e hz)]; exact f
  refine ⟨fun b u e => ?_, J.st.same s, s _ _ J.bits, J.row.same s, ne J.st.dict J.fd, ne J.bits J.fL, ne J.row.pk J.fa, ne J.row.hd J.fb, J.na, J.nb⟩
  by_cases q : b = z
  · subst q
    rw [upd_same] at e ⊢
    exact e
  · rw [upd_ne q] at e ⊢
    exact J.same _ _ e
end
/-- the words that a bit put at i changes -/
def putW (l : List Bool) (i : Nat) (c : Bool) : List Nat := if l[i]? = some c then [] else [i / 32]
theorem put_any {K : PySem.W.Frag} {C X Y : Addr} {H : Hp} {p a b : Addr} {l : List Bool} {i : Nat} {c : Bool} {Q : VK} {E : XK} (R : BRowAt C H p a b l) (hi : i < l.length)
    (k : ∀ (q : Addr) (H' : Hp), (∀ b' o, H b' = some o → b' ≠ a → b' ≠ b → H' b' = some o) → H q = none → H' q = some (.lst ((putW l i c).map nV)) → BRowAt C H' p a b (l.set i c) → Q (.ref q) H') :
    spBPut K C X Y [.ref p, nV i, bV c] H Q E := by
  refine ⟨p, a, b, l, nV i, bV c, "int", "int", rfl, R, TyN.int _, TyN.int _, not_false (bV_among c), fun c' ec => ⟨not_false (lt_among hi), fun i' ei => ?_⟩⟩
  have ec := bV_inj ec
  have ei := nV_inj ei
  subst ec ei
  refine ⟨fun h q H' s hq hq' => k q H' (fun b' o e _ _ => s _ _ e) hq (by rw [hq', putW, if_pos h]; rfl) ?_, fun h q H' s hq hq' R' => k q H' s hq (by rw [hq', putW, if_neg (by rw [h]; intro z; cases c <;> cases z)]; rfl) R'⟩
  have e : l.set i c = l := by
    apply List.ext_getElem?
    intro j
    rw [List.getElem?_set]
    by_cases q : i = j
    · subst q
      rw [if_pos rfl, if_pos hi, h]
    · rw [if_neg q]
  rw [e]
  exact R.same s
theorem sum_bits : ∀ l : List Bool, (l.map fun b => (b.toNat : Int)).sum = (cnt l : Int)
  | [] => rfl
  | b :: l => by
    rw [List.map_cons, List.sum_cons, sum_bits l, cnt_cons]
    omega
/-- the places of the ones -/
def onesOf (l : List Bool) : List Nat := (List.range l.length).filter fun i => decide (l[i]? = some true)
theorem onesOf_to (l : List Bool) : ∀ n, n ≤ l.length → ((List.range n).filter fun i => decide (l[i]? = some true)).length = cb true l n ∧
    ∀ t r, ((List.range n).filter fun i => decide (l[i]? = some true))[t]? = some r → l[r]? = some true ∧ cb true l r = t
  | 0, _ => ⟨by simp [cb], fun t r h => by simp at h⟩
  | n + 1, hn => by
    obtain ⟨h1, h2⟩ := onesOf_to l n (by omega)
    have hc := cb_succ (b := true) (l := l) (p := n) (by omega)
    rw [List.range_succ, List.filter_append]
    by_cases e : l[n]? = some true
    · rw [if_pos e] at hc
      have ef : [n].filter (fun i => decide (l[i]? = some true)) = [n] := by simp [e]
      rw [ef]
      refine ⟨by rw [List.length_append, h1, hc]; rfl, fun t r h => ?_⟩
      rw [List.getElem?_append] at h
      by_cases q : t < ((List.range n).filter fun i => decide (l[i]? = some true)).length
      · rw [if_pos q] at h
        exact h2 t r h
      · rw [if_neg q] at h
        have hz : t - ((List.range n).filter fun i => decide (l[i]? = some true)).length = 0 := by
          have := (List.getElem?_eq_some_iff.mp h).1
          simp at this
          omega
        rw [hz] at h
        have er : n = r := Option.some.inj h
        subst er
        exact ⟨e, by omega⟩
    · rw [if_neg e] at hc
      have ef : [n].filter (fun i => decide (l[i]? = some true)) = [] := by simp [e]
      rw [ef, List.append_nil]
      exact ⟨by rw [h1, hc]; rfl, h2⟩
theorem onesOf_len (l : List Bool) : (onesOf l).length = l.count true := by
  rw [← cb_all]
  exact (onesOf_to l l.length (Nat.le_refl _)).1
theorem onesOf_at {l : List Bool} {t r : Nat} (h : (onesOf l)[t]? = some r) : l[r]? = some true ∧ cb true l r = t := (onesOf_to l l.length (Nat.le_refl _)).2 t r h

/-! ### an exception that was caught and is kept by a name: what is known of it behind the suite -/
def ExK (cls : Value) (d : Option Addr) (a : Addr) : HO := .ext fun h => ∃ (oe : Obj) (vs : Array Value), h.get? a = some oe ∧ Zc cls d oe ∧ oe.data = .fields vs
section
variable {X : Cx} {pins : List (Addr × Obj)} {σ : L2.St} {H : Hp} {s : Shared}
theorem keep_exc {a : Addr} {oe : Obj} {vs : Array Value} {cls : Value} {d : Option Addr} (I : Inv X ((a, oe) :: pins) σ H s) (hz : Zc cls d oe) (hv : oe.data = .fields vs) (n0 : X.s_0.heap.get? a = none)
    (np : ∀ p ∈ X.pn ++ pins, p.1 ≠ a) : Inv X pins σ (upd H a (ExK cls d a)) s := by
  have hmem : (a, oe) ∈ X.pn ++ (a, oe) :: pins := List.mem_append_right _ List.mem_cons_self
  obtain ⟨ga, na, nl, _, _⟩ := I.pin _ hmem
  have old : ∀ {b : Addr} {o : Obj}, X.s_0.heap.get? b = some o → b ≠ a := fun e z => by
    rw [z, n0] at e
    cases e
  have trk : ∀ {b : Addr} {o : HO}, H b = some o → b ≠ a := fun e => ne_of_none e na
  have ncell : ∀ (x : Str) (c : Addr), X.env.cells.lookup x = some c → c ≠ a := fun x c e z => by
    obtain ⟨v, o, ho, hd⟩ := I.cell x c e
    rw [z] at ho
    rw [show s.heap.get? a = some oe from ga] at ho
    cases ho
    rw [hv] at hd
    cases hd
  refine ⟨I.ok, I.os, I.bare, ⟨I.base.keep, I.base.slot, fun b o e n x => ?_, I.base.there, fun b xs e => ?_, fun b o u e => ?_, fun b ps e => ?_⟩, I.loc, I.cell, ?_, fun x c e => ?_, fun p hp => ?_, fun b o e => ?_, I.len⟩
  · rw [upd_ne (old e)]
    exact I.base.free b o e n x
  · have q := I.base.tups b xs e
    rw [upd_ne (trk q)]
    exact q
  · have q := I.base.frzs b o u e
    rw [upd_ne (trk q)]
    exact q
  · obtain ⟨m, q⟩ := I.base.tbls b ps e
    exact ⟨m, by rw [upd_ne (trk q)]; exact q⟩
  · rw [upd_ne (Ne.symm nl)]
    exact I.free
  · rw [upd_ne (ncell x c e)]
    exact I.freeC x c e
  · have hp2 : p ∈ X.pn ++ (a, oe) :: pins := by
      rcases List.mem_append.mp hp with z | z
      · exact List.mem_append_left _ z
      · exact List.mem_append_right _ (List.mem_cons_of_mem _ z)
    obtain ⟨e1, e2, e3⟩ := I.pin p hp2
    exact ⟨e1, by rw [upd_ne (np p hp)]; exact e2, e3⟩
  · by_cases hb : b = a
    · subst hb
      rw [upd_same] at e
      cases e
      exact ⟨⟨oe, vs, ga, hz, hv⟩, ⟨oe, ga⟩, fun _ _ ⟨o1, v1, g1, z1, d1⟩ k => ⟨o1, v1, k o1 g1, z1, d1⟩⟩
    · rw [upd_ne hb] at e
      refine (I.hok b o e).stay (fun _ _ _ q => q) (fun c q => ?_) fun c xs q => ?_
      · rw [upd_ne (trk q)]
        exact q
      · rw [upd_ne (trk q)]
        exact q
end
/-- the wish of 'except c as n: suite' where the suite runs through: behind it the exception is known -/
def wHeld (K : PySem.W.Frag) (c : Value) (i : Nat) (ts : Addr → TS) (D : Ends) : WX := fun cls d σ H =>
  PySem.W.exmOne K cls c = some true ∧ ∀ a, H a = none → ts a { nx := fun σ' H' => H' a = none → D.nx (σ'.set i none) (upd H' a (ExK cls d a)), rt := fun _ _ => False } (σ.set i (some (.ref a))) H
section
variable {X : Cx} {x n : Str} {c : Value} {i : Nat} {body suite : List Stmt} {b₀ : Stmt} {np pos pos' : Pos} {tb : WX → TS} {ts : Addr → TS}
theorem ps_try_held (hs : X.stack = X.env :: X.outer) (hf : X.env.frame = some X.env.locals) (hex : X.ex = []) (hN : X.N.Nodup) (hi : X.N[i]? = some n) (hln : X.env.kindOf n = some .local) (hc : Names X x c)
    (hb : ∀ (W : WX) (pn : List (Addr × Obj)) (xe : Value → Shared → Prop), Takes (X.tr pn xe) W → PSs (X.tr pn xe) body (tb W))
    (hsu : ∀ (a : Addr) (oe : Obj) (pn : List (Addr × Obj)), PSs (X.suite a ((a, oe) :: pn)) (b₀ :: suite) (ts a)) :
    PS X (.Try body [.ExceptHandler (some (.Name x np)) (some n) (b₀ :: suite) pos'] [] [] pos) (fun D σ H => tb (wHeld X.K c i ts D) D σ H) := by
  refine ⟨fun pins s σ H D I h => wpAny_Try_except ?_⟩
  have ok := I.ok
  have frm : X.A.frames = some (X.env :: X.outer) := by rw [ok.frames, hs]
  have way : ∀ (xe : Value → Shared → Prop) (u : Value) (s' : Shared), XE (X.tr (X.pn ++ pins) xe) (wHeld X.K c i ts D) u s' →
      wpAny (model X.prog X.w) X.A (noteFrame u X.env) (fun _ s₂ => wpAny (model X.prog X.w) X.A (setFlight u none)
        (fun _ s₃ => wpAny (model X.prog X.w) X.A (handleBy u X.env [.ExceptHandler (some (.Name x np)) (some n) (b₀ :: suite) pos']) (SP X pins D) X.xe s₃) X.xe s₂) X.xe s' := by
    rintro xe u s' ⟨a, B, sI, pi2, σ1, H1, cls, d, rfl, J0, nb, up, sky, na, os, ag, hm, hsuite⟩
    have J : Inv X pins σ1 H1 sI := J0.ofTry ok
    have sk : Sky B (X.env :: X.outer) a (Zc cls d) X.env.locals s'.heap := by rw [← hs]; exact sky
    refine Sky.land Zc.steady frm hf sk fun h3 f3 u3 => ?_
    obtain ⟨o3, v3, g3, z3, d3⟩ := f3.there
    -- the exception is no frame, and new
    have nfr : a ∉ frs (X.env :: X.outer) := fun hm => by
      obtain ⟨_, o', e', hnf⟩ := f3.2.2.1.mem hm
      rw [g3] at e'
      cases e'
      exact hnf _ d3
    have nL : a ≠ X.env.locals := fun z => nfr (List.mem_filterMap.mpr ⟨X.env, List.mem_cons_self, by rw [hf, z]⟩)
    have nF : a ∉ X.fs := fun hm => by
      obtain ⟨e, he, q⟩ := List.mem_filterMap.mp hm
      exact nfr (List.mem_filterMap.mpr ⟨e, List.mem_cons_of_mem _ he, q⟩)
    have nI : sI.heap.get? a = none := by
      cases q : sI.heap.get? a with
      | none => rfl
      | some o =>
        have z := nb a o q (by show a ∉ frs X.stack; rw [hs]; exact nfr)
        rw [f3.2.1] at z
        cases z
    have n0 : X.s_0.heap.get? a = none := by
      cases q : X.s_0.heap.get? a with
      | none => rfl
      | some o =>
        obtain ⟨o', z⟩ := J.base.there a o q (by rw [hex]; simp)
        rw [nI] at z
        cases z
    have npin : ∀ p ∈ X.pn ++ pins, p.1 ≠ a := fun p hp z => by
      have q := (J.pin p hp).1
      rw [z, nI] at q
      cases q
    have S3 := (J.landed (s' := { s' with heap := h3 }) nb f3.1 (up.trans u3) os ag).suite g3 d3 na nL nF
    refine wpAny_handleBy_cons (codeAny_handlers_test ?_) (by intro q; cases q)
    have LT : PySem.W.Looks (model X.prog X.w) h3 (typeOf (.ref a)) cls := fun A Q E s k q => wpAny_typeOf_ref (k _ _ g3) (by rw [z3.1]; exact q)
    have LM := PySem.W.exm_one (M := model X.prog X.w) S3.kIn LT hm
    have named : ∀ {Q E : Value → Shared → Prop}, Q c { s' with heap := h3 } → wpAny (model X.prog X.w) (X.A.mark (some (.ref a))) (eval (.Name x np) X.env) Q E { s' with heap := h3 } := by
      intro Q E q
      obtain ⟨hg, hdbg, z | ⟨z, hv, hnn⟩⟩ := hc
      · exact ld_glob (X := X.suite a ((a, o3) :: (X.pn ++ pins))) S3 hg z q hdbg
      · exact ld_blt (X := X.suite a ((a, o3) :: (X.pn ++ pins))) S3 hg z hv q hnn hdbg
    refine named (LM.here (codeAny_handlers_suite_as (HandSPX.lands_againZ f3 fun h4 f4 u4 => ?_)))
    obtain ⟨o4, v4, g4, z4, d4⟩ := f4.there
    have S4 := (J.landed (s' := { s' with heap := h4 }) nb f4.1 ((up.trans u3).trans u4) os ag).suite g4 d4 na nL nF
    refine store_ok (X := X.suite a ((a, o4) :: (X.pn ++ pins))) (v := .ref a) S4 hN hi (.inl hln) rfl (fun s5 S5 => ?_) (.inr hln)
    refine wpAny_mono ((hsu a o4 (X.pn ++ pins)).run [] s5 _ H1 _ S5 (hsuite a na)) (fun f s6 hsp => ?_) fun _ _ z => False.elim z
    cases f with
    | next =>
      obtain ⟨σ6, H6, S6, q6⟩ := hsp
      have J6 : Inv X ((a, o4) :: pins) σ6 H6 s6 := ⟨ok, S6.os, S6.bare, S6.base, S6.loc, S6.cell, S6.free, S6.freeC, fun p hp => S6.pin p (by
        refine List.mem_append_left _ ?_
        rcases List.mem_append.mp hp with z | z
        · exact List.mem_cons_of_mem _ (List.mem_append_left _ z)
        · rcases List.mem_cons.mp z with z | z
          · rw [z]
            exact List.mem_cons_self
          · exact List.mem_cons_of_mem _ (List.mem_append_right _ z)), S6.hok, S6.len⟩
      exact gone_ok J6 hN hi hln fun s7 J7 => ⟨_, _, keep_exc J7 z4 d4 n0 npin, q6 (J6.pin (a, o4) (List.mem_append_right _ List.mem_cons_self)).2.1⟩
    | brk =>
      obtain ⟨_, _, _, z⟩ := hsp
      exact z.elim
    | cont =>
      obtain ⟨_, _, _, z⟩ := hsp
      exact z.elim
    | ret u =>
      obtain ⟨_, _, _, _, _, z⟩ := hsp
      exact z.elim
  refine wpAny_mono ((hb (wHeld X.K c i ts D) (X.pn ++ pins) (fun u s' => wpAny (model X.prog X.w) X.A (noteFrame u X.env) (fun _ s₂ => wpAny (model X.prog X.w) X.A (setFlight u none)
    (fun _ s₃ => wpAny (model X.prog X.w) X.A (handleBy u X.env [.ExceptHandler (some (.Name x np)) (some n) (b₀ :: suite) pos']) (SP X pins D) X.xe s₃) X.xe s₂) X.xe s')
    (way _)).run [] s σ H D (I.toTry _) h) (fun f s1 hsp => ?_) fun e s1 he => he
  cases f with
  | next =>
    obtain ⟨σ1, H1, J1, q⟩ := hsp
    exact wpAny_execs_nil ⟨σ1, H1, J1.ofTry ok, q⟩
  | brk =>
    obtain ⟨σ1, H1, J1, q⟩ := hsp
    exact ⟨σ1, H1, J1.ofTry ok, q⟩
  | cont =>
    obtain ⟨σ1, H1, J1, q⟩ := hsp
    exact ⟨σ1, H1, J1.ofTry ok, q⟩
  | ret u =>
    obtain ⟨v, σ1, H1, J1, r, q⟩ := hsp
    exact ⟨v, σ1, H1, J1.ofTry ok, r, q⟩
end

/-! ### isinstance of it; list.count of flat things -/
def rIsK (K : PySem.W.Frag) : List V → Hp → VK → Prop := fun xs H Q => ∃ (a D : Addr) (c : V) (cv : Value) (b : Bool), xs = [.ref a, c] ∧ H a = some (ExK (.ref D) none a) ∧ ExcC K D ∧ (∀ u, RelV c u → u = cv) ∧ PySem.W.kitOne K (.ref D) cv = some b ∧ Q (.bl b) H
def rCntF (K : PySem.W.Frag) : V → List V → Hp → VK → Prop := fun x xs H Q => ∃ (p : Addr) (ys : List V) (y : V), x = .ref p ∧ xs = [y] ∧ SqL K H p ys ∧ flatV y = true ∧ ys.all flatV = true ∧ Q (.int (ys.countP fun z => eqV z y : Nat)) H
theorem count_eqU {y : V} : ∀ {ys : List V} {us : List Value}, Vals ys us → ys.all flatV = true → us.countP (eqU y) = ys.countP fun z => eqV z y
  | _, _, .nil, _ => rfl
  | _, _, .cons r h, f => by
    rw [List.all_cons, Bool.and_eq_true] at f
    rw [List.countP_cons, List.countP_cons, count_eqU h f.2, eqU_of r f.1]
section
variable {X : Cx}
theorem call_isK : CallR X (.builtin "isinstance") (rIsK X.K) := by
  intro pins s σ H xs us Q I r h
  obtain ⟨a, D, c, cv, b, rfl, ha, C, hcv, e, q⟩ := h
  obtain ⟨u1, u2, rfl, r1, r2⟩ := vals2 r
  cases (show u1 = Value.ref a from r1)
  obtain rfl := hcv _ r2
  obtain ⟨⟨oe, vs, g, ⟨h1, h2⟩, h3⟩, _, _⟩ := I.hok a _ ha
  obtain ⟨oc, od, dt, sl⟩ := oe
  dsimp only at h1 h2 h3
  subst h1 h2 h3
  exact PySem.W.kia_one (PySem.W.handS_kitx_exc C.hg C.hk C.hs C.hd C.ha C.hn C.ht C.hm) I.kIn (show PySem.W.InstAt s.heap a _ D none from ⟨g, rfl, rfl, trivial⟩) e (fun z => nomatch z) fun tk => ⟨.bl b, H, I.tok tk, rfl, q⟩
theorem mt_lcountF : MtR X "list.count" (rCntF X.K) := by
  intro pins s σ H x xs v us Q I rx rxs h
  obtain ⟨p, ys, y, rfl, rfl, hs, fy, fys, q⟩ := h
  cases rx
  obtain ⟨u, rfl, ru⟩ := rxs.one
  obtain ⟨its, rv, ⟨⟨cls, dd, data, sl⟩, n, ho, hc, hdn, hd⟩, hlen⟩ := I.list hs
  dsimp only at hc hd
  subst hc hd
  refine call_meets PySem.F.slot_list_count ⟨_, ho, rfl⟩ PySem.F.entry_list_count (PySem.F.args_list_count_2 _ _)
    (SeqAt.list_countAt p its.toArray n dd sl u (eqU y)) ⟨ho, fun z hz => mem_eqAt ru fy rv fys z (by simpa using hz), ?_⟩
  refine ⟨.int (ys.countP fun z => eqV z y : Nat), H, I.tok _, ⟨s.toks, ?_⟩, q⟩
  show Value.int ((its.toArray.toList.countP (eqU y) : Nat) : Int) s.toks = _
  rw [show its.toArray.toList = its from by simp, count_eqU rv fys]
end

/-! ### _law_said: the worker refuses, its class's word is told -/
def wordOf3 (j : Nat) : Str := if j = 0 then "row" else if j = 1 then "number" else "place"
/-- what is told where the worker refuses by C -/
def TSaid (C : Addr) (ret : Str) : (XK → Hp → VK → Prop) → Hp → VK → Prop := fun tl H Q =>
  ∀ Q' : VK, tl (fun cls d H1 => cls = .ref C ∧ d = none ∧ ∀ (p : Addr) (H2 : Hp), Same H1 H2 → H1 p = none → H2 p = some (.lst [.str ret]) → Q (.ref p) H2) H Q'
theorem takes_len {X : Cx} {W : WX} (t : Takes X W) : Takes X (fun cls d σ H => σ.length = X.N.length → W cls d σ H) :=
  fun u s' ⟨a, B, sI, pins, σ, H, cls, d, e, I, nb, up, sky, na, os, ag, w⟩ => t u s' ⟨a, B, sI, pins, σ, H, cls, d, e, I, nb, up, sky, na, os, ag, w I.len⟩
theorem pss_ex {X : Cx} {ss : List Stmt} {α : Type} {R : α → Prop} {t : α → TS} (h : ∀ e, R e → PSs X ss (t e)) : PSs X ss (fun D σ H => ∃ e, R e ∧ t e D σ H) :=
  ⟨fun pins s σ H D I ⟨e, he, ht⟩ => (h e he).run pins s σ H D I ht⟩
theorem ex_cls {C : Addr} : ∀ u : Value, RelV (V.ref C) u → u = .ref C := fun _ r => r
theorem ex_ty {n : String} : ∀ u : Value, RelV (V.ty n) u → u = .type n := fun _ r => r
set_option maxHeartbeats 1000000 in
theorem said_gives {X : Cx} {A : Adr} (T : Tx X.K X.mg A) {C : Addr} {j : Nat} (hj : j < 3) (cc : Caught X.K C A.xHalfError A.xBadRow A.xNoNumber A.xNoPlace j) {cdv : Value} {q : Str} :
    LamX.GivesTo X n__law_said "_law_said" (defScope s__law_said) A._law_said cdv (defBody s__law_said) "_law_worker" q (TSaid C (wordOf3 j)) := by
  intro f c' s H Q tl act hc h
  refine ⟨_, pss_cons (ps_set (i := 1) sc__law_said.nd rfl (by first | exact Or.inl rfl | exact Or.inr rfl) pe_non)
    (pss_cons (ps_set (i := 2) sc__law_said.nd rfl (by first | exact Or.inl rfl | exact Or.inr rfl) pe_non)
    (pss_cons (ps_try_held (X := (cxOf C8.CX0 X.prog X.w X.K X.mg X.base n__law_said "_law_said" (defScope s__law_said) A._law_said cdv X.A X.stack s H C8.E0).nox) (i := 3) (c := .ref A.xHalfError)
      (tb := fun W D σ H => ∃ Ech : XK, (∀ cls d σ' H', Ech cls d H' → σ'.length = 5 → W cls d σ' H') ∧ σ[0]? = some (some (.ref f)) ∧ H c' = some (LamX.CodeO c' q) ∧ tl Ech H fun v H1 => D.nx (σ.set 2 (some v)) H1)
      rfl rfl rfl sc__law_said.nd rfl rfl ⟨rfl, by decide, .inl T.gHE⟩ (fun W pn xe tk => ?_)
      (fun a oe pn => pss_one (ps_set (i := 1) sc__law_said.nd rfl (by first | exact Or.inl rfl | exact Or.inr rfl) (pv 3))))
    (pss_cons (ps_if (pt_cmpR op_isN (pv 1) pe_non (nomark _)) (pss_one (ps_ret (pe_lst (pa_cons pe_str (pa_cons (pv 2) pa_nil))))) pss_nil)
      (pss_cons (ps_set (i := 4) sc__law_said.nd rfl (by first | exact Or.inl rfl | exact Or.inr rfl) (pe_lst (pa_cons (pe_callB call_isK (by rfl) T.b_isinstance (by decide +kernel) (pa_cons (pv 1) (pa_cons (pe_glob (v := V.ref A.xBadRow) rfl T.xBadRow.g rfl) pa_nil))) (pa_cons (pe_callB call_isK (by rfl) T.b_isinstance (by decide +kernel) (pa_cons (pv 1) (pa_cons (pe_glob (v := V.ref A.xNoNumber) rfl T.xNoNumber.g rfl) pa_nil))) (pa_cons (pe_callB call_isK (by rfl) T.b_isinstance (by decide +kernel) (pa_cons (pv 1) (pa_cons (pe_glob (v := V.ref A.xNoPlace) rfl T.xNoPlace.g rfl) pa_nil))) pa_nil)))))
      (pss_cons (ps_if (PW.pt (pw_or (pt_cmpR op_ne (pe_bm PySem.F.plainAttrs_list PySem.F.slot_list_count PySem.F.type_list_count mt_lcountF (pv 4) (pa_cons pe_bl pa_nil)) pe_int (nomark _)) (pw_or1 (pt_not (pt_val (pe_callB call_isK (by rfl) T.b_isinstance (by decide +kernel) (pa_cons (pv 1) (pa_cons (pe_bltn (u := .type "ValueError") (v := .ty "ValueError") (by rfl) T.b_ValueError (by decide +kernel) rfl) pa_nil)))))))) (pss_one (ps_ret (pe_lst (pa_cons pe_str pa_nil)))) pss_nil)
      (pss_one (ps_ret (pe_lst (pa_cons (pe_ix ix_list (pe_lst (pa_cons pe_str (pa_cons pe_str (pa_cons pe_str pa_nil)))) (pe_bm PySem.F.plainAttrs_list PySem.F.slot_list_index PySem.F.type_list_index mt_index (pv 4) (pa_cons pe_bl pa_nil)) (fun _ _ => rfl)) pa_nil))))))))), ?_⟩
  · exact pss_ex fun Ech hW => pss_one (ps_set (i := 2) sc__law_said.nd rfl (by first | exact Or.inl rfl | exact Or.inr rfl) (act (fun cls d σ H => σ.length = 5 → W cls d σ H) pn xe Ech _ _ (takes_len tk) hW))
  · refine ⟨_, ?_, rfl, hc, h _⟩
    rintro cls d σ' H1 ⟨rfl, rfl, hQ⟩ hl
    obtain ⟨x0, x1, x2, x3, x4, rfl⟩ : ∃ x0 x1 x2 x3 x4, σ' = [x0, x1, x2, x3, x4] := by
      match σ', hl with
      | [x0, x1, x2, x3, x4], _ => exact ⟨x0, x1, x2, x3, x4, rfl⟩
    refine ⟨cc.h, fun a ha => ⟨_, rfl, fun ha2 => ?_⟩⟩
    have s1 : Same H1 (upd H1 a (ExK (.ref C) none a)) := same_new (Same.refl H1) ha
    have hx : upd H1 a (ExK (.ref C) none a) a = some (ExK (.ref C) none a) := upd_same
    -- if _law_caught is None
    refine ⟨_, rfl, rfl, _, rfl, if_f rfl ?_⟩
    -- _law_some
    refine ⟨_, rfl, a, C, _, _, _, rfl, hx, cc.c, ex_cls, cc.br, _, rfl, a, C, _, _, _, rfl, hx, cc.c, ex_cls, cc.nn, _, rfl, a, C, _, _, _, rfl, hx, cc.c, ex_cls, cc.np, (by show 3 ≤ sizeLine; decide), fun l hl => ?_⟩
    have s2 := s1.trans (same_new (Same.refl _) (o := .lst [V.bl (decide (j = 0)), V.bl (decide (j = 1)), V.bl (decide (j = 2))]) hl)
    have hl2 : upd (upd H1 a (ExK (.ref C) none a)) l (.lst [V.bl (decide (j = 0)), V.bl (decide (j = 1)), V.bl (decide (j = 2))]) l = some (.lst [V.bl (decide (j = 0)), V.bl (decide (j = 1)), V.bl (decide (j = 2))]) := upd_same
    have hx2 : upd (upd H1 a (ExK (.ref C) none a)) l (.lst [V.bl (decide (j = 0)), V.bl (decide (j = 1)), V.bl (decide (j = 2))]) a = some (ExK (.ref C) none a) := by
      rw [upd_ne (ne_of_none hx hl)]
      exact hx
    generalize upd (upd H1 a (ExK (.ref C) none a)) l (.lst [V.bl (decide (j = 0)), V.bl (decide (j = 1)), V.bl (decide (j = 2))]) = H2 at s2 hl2 hx2
    -- if _law_some.count(True) != 1 or not isinstance(..)
    refine ⟨_, rfl, .inl ⟨rfl, _, SqL.of hl2⟩, l, _, _, rfl, rfl, SqL.of hl2, rfl, rfl, rfl, _, rfl, ?_⟩
    have hcnt : (!decide (V.int ((List.countP (fun z => eqV z (V.bl true)) [V.bl (decide (j = 0)), V.bl (decide (j = 1)), V.bl (decide (j = 2))] : Nat) : Int) = V.int 1)) = false := by
      rcases (show j = 0 ∨ j = 1 ∨ j = 2 by omega) with rfl | rfl | rfl <;> rfl
    refine if_f hcnt ?_
    refine ⟨_, rfl, a, C, _, _, _, rfl, hx2, cc.c, ex_ty, cc.ve, _, rfl, if_f rfl ?_⟩
    -- return [[..][_law_some.index(True)]]
    refine ⟨(by show 3 ≤ sizeLine; decide), fun e he => ?_⟩
    have s3 := s2.trans (same_new (Same.refl _) (o := .lst [V.str "row", V.str "number", V.str "place"]) he)
    have hl3 : upd H2 e (.lst [V.str "row", V.str "number", V.str "place"]) l = some (.lst [V.bl (decide (j = 0)), V.bl (decide (j = 1)), V.bl (decide (j = 2))]) := by
      rw [upd_ne (ne_of_none hl2 he)]
      exact hl2
    refine ⟨_, rfl, .inl ⟨rfl, _, SqL.of hl3⟩, l, _, V.bl true, j, V.bl true, rfl, rfl, SqL.of hl3, rfl, rfl, ?_, rfl, ?_, ?_⟩
    · rcases (show j = 0 ∨ j = 1 ∨ j = 2 by omega) with rfl | rfl | rfl <;> rfl
    · intro m z' hm hz
      rcases (show j = 0 ∨ j = 1 ∨ j = 2 by omega) with rfl | rfl | rfl
      · omega
      · obtain rfl : m = 0 := by omega
        cases hz
        rfl
      · rcases (show m = 0 ∨ m = 1 by omega) with rfl | rfl <;> (cases hz; rfl)
    · refine ⟨e, _, _, V.str (wordOf3 j), rfl, rfl, SqL.of upd_same, at_of (j := j) rfl ?_, (by show 1 ≤ sizeLine; decide), fun g hg => ?_⟩
      · rcases (show j = 0 ∨ j = 1 ∨ j = 2 by omega) with rfl | rfl | rfl <;> rfl
      · exact hQ g _ (s3.trans (same_new (Same.refl _) hg)) (s3.free hg) upd_same
/-! ### a lambda handed to _law_said -/
theorem okC {x qual : Str} {st : Stmt} {f : Addr} {fd : FuncData} {N ps : List Str} {k : Nat} {sp : Sp} (F : Fun K x qual st f fd) (S : FnScope N ps (defScope st)) (len : ∀ vs H Q E, sp vs H Q E → vs.length = ps.length)
    (hb : ∀ (Ar : Around) (outer : List Env) (s : Shared) (H : Hp) (vs : List V) (Q : VK) (E : XK), Room k (Ar.deeper (PyProof.Rows.envOfC qual (defScope st) s.heap.objs.size f fd.code)) → sp vs H Q E →
      ∃ t, PSs (cxOf CX0 P w K mg base N qual (defScope st) f fd.code Ar outer s H E).nox (defBody st) t ∧ t { nx := fun _ H' => Q .non H', rt := Q } (L2.start N vs) H) : FnOk P w K mg base CX0 (k + 1) f fd ps sp := by
  obtain ⟨oc, od, kV, doc, pm, an, cdv, ct, osl, e, lk, hcd⟩ := F.ex
  subst e
  refine fn_of lk hcd S len fun Ar outer s H vs Q E hr hs => ?_
  obtain ⟨t, h, q⟩ := hb Ar outer s H vs Q E hr hs
  exact ⟨t, h.nox, q⟩
theorem pe_said {X : Cx} {A : Adr} (T : Tx X.K X.mg A) {c P : Addr} {Tl : List (Addr × Str)} {k j : Nat} {C : Addr} {params : Arguments} {body : Expr} {scope : Scope} {t : XK → TE} {p lpos pos : Pos} (TB : LamX.TabB X.base X.mg c P) (hcode : X.env.code = .ref c)
    (hmT : (P, X.env.qual ++ "<lambda>") ∈ Tl) (hu : ∀ p ∈ Tl, p.1 = P → p.2 = X.env.qual ++ "<lambda>") (hr : Room (k + 2) X.A) (cc : Caught X.K C A.xHalfError A.xBadRow A.xNoNumber A.xNoPlace j) (hg : Gl X "_law_said")
    (L : LamX.LamS X.env.scope scope) (hdef : defaultsOf params X.env = ([], []))
    (hbind : ∀ (q : Str) (cl : List (Str × Addr)) (pm cv ctv : Value), bindArgs (PySem.W.kla_fn "<lambda>" q params body scope cl pm cv ctv) ⟨[], []⟩ = pure [])
    (hbody : ∀ (Ar : Around) (outer : List Env) (s : Shared) (H : Hp) (E : XK) (f c' : Addr), Room k (Ar.deeper (LamX.lamEnv X scope s.heap.objs.size f c')) → PE (LamX.lamCx X Ar outer s H E scope f c') body (t E)) (hj : j < 3 := by decide) :
    PE X (.Call (.Name "_law_said" p) [.Lambda params body scope lpos] [] pos) (LamX.tLam Tl (TSaid C (wordOf3 j)) t) := by
  obtain ⟨oc, od, kV, doc, pm, an, cdv, ct, osl, e, lk, hcd⟩ := T._law_said.F.ex
  have b := T._law_said.b
  rw [e] at lk b
  exact LamX.pe_lamcall hg T._law_said.g T._law_said.F.kp lk hcd b sc__law_said rfl (.inl rfl) (said_gives T hj cc) TB hcode hmT hu hr L hdef hbind hbody
/-! ### the ground B under a heap with tables -/
structure Gn (Tl : List (Addr × Str)) (B H : Hp) : Prop where
  s : Same B H
  n : ∀ b o, B b = some o → ∀ ps, o ≠ .tbl ps
  t : LamX.Tabs Tl H
section
variable {Tl : List (Addr × Str)} {B H H' : Hp}
theorem Gn.to (g : Gn Tl B H) (s : Same H H') : Gn Tl B H' := ⟨g.s.trans s, g.n, g.t.ext s⟩
theorem Gn.ext (g : Gn Tl B H) (e : LamX.ExtN H H') (t : LamX.Tabs Tl H') : Gn Tl B H' := ⟨fun b o q => e b o (g.s b o q) (g.n b o q), g.n, t⟩
def noT (H : Hp) : Hp := fun b => match H b with
  | some (.tbl _) => none
  | o => o
theorem noT_of {b : Addr} {o : HO} (h : H b = some o) (n : ∀ ps, o ≠ .tbl ps) : noT H b = some o := by
  unfold noT
  rw [h]
  cases o <;> first | rfl | exact absurd rfl (n _)
theorem noT_at {b : Addr} {o : HO} (h : noT H b = some o) : H b = some o ∧ ∀ ps, o ≠ .tbl ps := by
  unfold noT at h
  split at h
  · cases h
  · rename_i hn
    exact ⟨h, fun ps z => hn ps (by rw [h, z])⟩
theorem Gn.start (t : LamX.Tabs Tl H) : Gn Tl (noT H) H := ⟨fun b o e => (noT_at e).1, fun b o e => (noT_at e).2, t⟩
end
def spLawT (K : PySem.W.Frag) (A : Adr) : Sp := fun vs H Q _ => ∃ (a : Addr) (ns : List Int), vs = [.ref a] ∧ SqL K H a (ns.map V.int) ∧ ns.length ≤ 63 ∧ LamX.Tabs (Tb A) H ∧ ∀ H', Q (.bl true) H'
/-! ### readings of 'if _law_said(lambda: ..) != [word]' -/
section
variable {Tl : List (Addr × Str)} {B H : Hp} {C : Addr} {wd wd' : Str} {t : XK → TE} {σ : L2.St}
theorem said_core {Q : VK} {r : R2} (g : Gn Tl B H) (hw : wd' = wd) (ht : ∀ (E : XK) (H1 : Hp) (Q' : VK), Gn Tl B H1 → (∀ H2, Same H1 H2 → E (.ref C) none H2) → t E σ H1 Q')
    (k : ∀ (p q : Addr) (H2 : Hp), Gn Tl B H2 → H2 p = some (.lst [.str wd]) → H2 q = some (.lst [.str wd]) → r (.ref p) (.ref q) H2 Q) :
    tOp r (LamX.tLam Tl (TSaid C wd') t) (tLst (tCons (tC (.str wd)) tNil)) σ H Q := by
  subst hw
  refine ⟨g.t, fun H1 e1 t1 Q' => ht _ H1 Q' (g.ext e1 t1) fun H2 s2 => ⟨rfl, rfl, fun p H3 s3 hp hp3 => ⟨(by show 1 ≤ sizeLine; decide), fun q hq => ?_⟩⟩⟩
  exact k p q _ ((((g.ext e1 t1).to s2).to s3).to (same_new (Same.refl H3) hq)) (by rw [upd_ne (ne_of_none hp3 hq)]; exact hp3) upd_same
theorem str_data {H : Hp} {p : Addr} (h : H p = some (.lst [.str wd])) : Dp K H (.ref p) (.list [.str wd]) := .lst (SqL.of h) (.cons (.str _) .nil)
theorem str_lay (hk : PyData.strOk wd = true) : (PyData.list [.str wd]).canLay0 = true := by simp [PyData.canLay0, PyData.canLayAll0, hk]
theorem str_shaped (hk : PyData.strOk wd = true) : SeqAt.shaped (.list [.str wd]) = true := by
  unfold SeqAt.shaped
  rw [str_lay hk]
  simp [PyData.depth, PyData.depthAll]
theorem said_ne {Q : Bool → Hp → Prop} (g : Gn Tl B H) (hw : wd' = wd) (ht : ∀ (E : XK) (H1 : Hp) (Q' : VK), Gn Tl B H1 → (∀ H2, Same H1 H2 → E (.ref C) none H2) → t E σ H1 Q') (k : ∀ H2, Gn Tl B H2 → Q false H2) (hk : PyData.strOk wd = true := by decide +kernel) :
    tTest (tOp (rNeD K) (LamX.tLam Tl (TSaid C wd') t) (tLst (tCons (tC (.str wd)) tNil))) σ H Q :=
  said_core g hw ht fun p q H2 g2 hp hq => ⟨_, _, str_data hp, str_data hq, str_shaped hk, str_shaped hk, _, by rw [SeqAt.eqv_refl _ (str_lay hk)]; rfl, k H2 g2⟩
theorem said_eq {Q : VK} (g : Gn Tl B H) (hw : wd' = wd) (ht : ∀ (E : XK) (H1 : Hp) (Q' : VK), Gn Tl B H1 → (∀ H2, Same H1 H2 → E (.ref C) none H2) → t E σ H1 Q') (k : ∀ H2, Gn Tl B H2 → Q (.bl true) H2) (hk : PyData.strOk wd = true := by decide +kernel) :
    tOp (rEqD K) (LamX.tLam Tl (TSaid C wd') t) (tLst (tCons (tC (.str wd)) tNil)) σ H Q :=
  said_core g hw ht fun p q H2 g2 hp hq => ⟨_, _, str_data hp, str_data hq, str_shaped hk, str_shaped hk, by rw [SeqAt.eqv_refl _ (str_lay hk)]; exact k H2 g2⟩
end
section
variable {Tl : List (Addr × Str)} {B B' H H' : Hp}
theorem Gn.hold (g : Gn Tl B H) {z : Addr} {o : HO} (hz : H z = none) (no : ∀ ps, o ≠ .tbl ps) : Gn Tl (upd B z o) (upd H z o) := by
  refine ⟨fun b u e => ?_, fun b u e => ?_, g.t.ext (same_new (Same.refl H) hz)⟩
  · by_cases q : b = z
    · subst q
      rw [upd_same] at e ⊢
      exact e
    · rw [upd_ne q] at e ⊢
      exact g.s _ _ e
  · by_cases q : b = z
    · subst q
      rw [upd_same] at e
      cases e
      exact no
    · rw [upd_ne q] at e
      exact g.n _ _ e
theorem Gn.back (g : Gn Tl B' H) (s : Same B B') : Gn Tl B H := ⟨s.trans g.s, fun b o e => g.n b o (s _ _ e), g.t⟩
theorem Gn.free (g : Gn Tl B H) {z : Addr} (hz : H z = none) : B z = none := g.s.free hz
/-- the dict at d is written, which is not of the ground -/
theorem Gn.keep (g : Gn Tl B H) {d : Addr} {kvs : List (Key × V)} (hd : H d = some (.dK kvs)) (kp : Keep d H H') (fd : B d = none) : Gn Tl B H' := by
  refine ⟨fun b o e => kp _ _ (g.s _ _ e) (ne_of_none e fd), g.n, fun p hp => ?_⟩
  obtain ⟨ps, h1, h2, h3⟩ := g.t p hp
  refine ⟨ps, kp _ _ h1 (ne_of h1 hd (by intro z; cases z)), h2, fun pos cv hc => ?_⟩
  obtain ⟨c, e1, e2⟩ := h3 pos cv hc
  exact ⟨c, e1, kp _ _ e2 (ne_of e2 hd (by intro z; unfold LamX.CodeO at z; cases z))⟩
end
theorem BRow.noT {C : Addr} {H : Hp} {p : Addr} {l : List Bool} (R : BRow C H p l) : BRow C (noT H) p l := by
  obtain ⟨a, b, ⟨dx, hp⟩, ha, hb, r1, r2⟩ := R
  exact ⟨a, b, ⟨dx, noT_of hp (by intro ps z; cases z)⟩, noT_of ha (by intro ps z; cases z), noT_of hb (by intro ps z; cases z), r1, r2⟩
/-! ### things that are no numbers from nought on -/
def Odd (H : Hp) (v : V) : Prop := v = .non ∨ (∃ b, v = .bl b) ∨ (∃ z, v = .str z) ∨ (∃ a xs, v = .ref a ∧ H a = some (.lst xs)) ∨ (∃ a xs, v = .ref a ∧ H a = some (.tup xs)) ∨ (∃ a kvs, v = .ref a ∧ H a = some (.dK kvs)) ∨ ∃ i : Int, v = .int i ∧ i < 0
theorem Odd.same {H H' : Hp} {v : V} (s : Same H H') (h : Odd H v) : Odd H' v := by
  rcases h with h | h | h | ⟨a, xs, e, h⟩ | ⟨a, xs, e, h⟩ | ⟨a, xs, e, h⟩ | h
  · exact .inl h
  · exact .inr (.inl h)
  · exact .inr (.inr (.inl h))
  · exact .inr (.inr (.inr (.inl ⟨a, xs, e, s _ _ h⟩)))
  · exact .inr (.inr (.inr (.inr (.inl ⟨a, xs, e, s _ _ h⟩))))
  · exact .inr (.inr (.inr (.inr (.inr (.inl ⟨a, xs, e, s _ _ h⟩)))))
  · exact .inr (.inr (.inr (.inr (.inr (.inr h)))))
theorem Odd.noT {H : Hp} {v : V} (h : Odd H v) : Odd (noT H) v := by
  rcases h with h | h | h | ⟨a, xs, e, h⟩ | ⟨a, xs, e, h⟩ | ⟨a, xs, e, h⟩ | h
  · exact .inl h
  · exact .inr (.inl h)
  · exact .inr (.inr (.inl h))
  · exact .inr (.inr (.inr (.inl ⟨a, xs, e, noT_of h (by intro ps z; cases z)⟩)))
  · exact .inr (.inr (.inr (.inr (.inl ⟨a, xs, e, noT_of h (by intro ps z; cases z)⟩))))
  · exact .inr (.inr (.inr (.inr (.inr (.inl ⟨a, xs, e, noT_of h (by intro ps z; cases z)⟩)))))
  · exact .inr (.inr (.inr (.inr (.inr (.inr h)))))
theorem Odd.ty {H : Hp} {v : V} (h : Odd H v) : ∃ n, TyN K H v n := by
  rcases h with rfl | ⟨b, rfl⟩ | ⟨z, rfl⟩ | ⟨a, xs, rfl, h⟩ | ⟨a, xs, rfl, h⟩ | ⟨a, xs, rfl, h⟩ | ⟨i, rfl, _⟩
  · exact ⟨_, .non⟩
  · exact ⟨_, .bl b⟩
  · exact ⟨_, .str z⟩
  · exact ⟨_, .lst (SqL.of h)⟩
  · exact ⟨_, .tup (SqT.of h)⟩
  · exact ⟨_, .dct h⟩
  · exact ⟨_, .int i⟩
theorem int_no {i lo hi : Int} (h : i < lo ∨ hi < i) : amongV (.int i) lo hi = false := by
  show (decide (lo ≤ i) && decide (i ≤ hi)) = false
  rcases h with h | h
  · rw [decide_eq_false (show ¬ lo ≤ i by omega), Bool.false_and]
  · rw [decide_eq_false (show ¬ i ≤ hi by omega), Bool.and_false]
theorem Odd.no {H : Hp} {v : V} (h : Odd H v) {lo hi : Int} (h0 : 0 ≤ lo) : amongV v lo hi = false := by
  rcases h with rfl | ⟨b, rfl⟩ | ⟨z, rfl⟩ | ⟨a, xs, rfl, h⟩ | ⟨a, xs, rfl, h⟩ | ⟨a, xs, rfl, h⟩ | ⟨i, rfl, h⟩ <;> first | rfl | exact int_no (.inl (by omega))
/-- a thing that is no number from lo to hi -/
def Bad (K : PySem.W.Frag) (H : Hp) (v : V) (lo hi : Int) : Prop := (∃ n, TyN K H v n) ∧ amongV v lo hi = false
theorem Bad.same {H H' : Hp} {v : V} {lo hi : Int} (s : Same H H') (h : Bad K H v lo hi) : Bad K H' v lo hi := ⟨h.1.imp fun _ z => z.same s, h.2⟩
theorem Odd.bad {H : Hp} {v : V} {lo hi : Int} (h : Odd H v) (h0 : 0 ≤ lo) : Bad K H v lo hi := ⟨h.ty, h.no h0⟩
theorem Bad.int {H : Hp} {i lo hi : Int} (h : i < lo ∨ hi < i) : Bad K H (.int i) lo hi := ⟨⟨_, .int i⟩, int_no h⟩
def spKinds : Sp := fun vs H Q _ => ∃ n : Nat, vs = [nV n] ∧ ∀ (v : V) (H' : Hp), Same H H' → Odd H' v → Q v H'
theorem odd_int {H : Hp} {m : Nat} {e : Int} (he : e = (10 : Int) ^ ((20 : Int).toNat)) : Odd H (.int (-1 - (m : Int) % 3 * e)) := by
  refine .inr (.inr (.inr (.inr (.inr (.inr ⟨_, rfl, ?_⟩)))))
  have h1 : 0 ≤ (m : Int) % 3 * e := Int.mul_nonneg (by omega) (by rw [he]; decide)
  omega
set_option maxHeartbeats 1000000 in
theorem ok__law_kinds (T : Tx K mg A) : FnOk P w K mg base CX0 1 A._law_kinds A._law_kinds_d ["_law_n"] spKinds := by
  refine T._law_kinds.F.ok sc__law_kinds (fun vs H Q E h => ?_) (fun cdv Ar outer s H vs Q E hr h => ?_)
  · obtain ⟨n, rfl, _⟩ := h
    rfl
  · obtain ⟨n, rfl, kQ⟩ := h
    refine ⟨_, (pss_one (ps_ret (pe_ix ix_list (pe_lst (pa_cons pe_non (pa_cons pe_bl (pa_cons pe_bl (pa_cons pe_str (pa_cons (pe_lst (pa_cons pe_int pa_nil)) (pa_cons (pe_tup (pa_cons pe_int pa_nil)) (pa_cons pe_dnewK (pa_cons (pe_op op_sub (pe_un un_neg pe_int) (pe_op op_mul (pe_op op_mod (pe_op op_fdiv (pv 0) pe_int) pe_int) (pe_op op_pow pe_int pe_int))) pa_nil))))))))) (pe_op op_mod (pv 0) pe_int) (fun _ _ => rfl)))), ?_⟩
    refine ⟨(by show 1 ≤ sizeLine; decide), fun q hq => ⟨(by show 1 ≤ sizeLine; decide), fun t ht => fun dd hd => ?_⟩⟩
    refine ⟨_, rfl, _, rfl, _, _, rfl, rfl, ⟨by decide, by decide⟩, _, _, rfl, rfl, (by show (0 : Int) < 3; decide), _, _, rfl, rfl, ⟨by decide, by decide, by decide⟩, _, _, rfl, rfl, .inl ⟨?_, ?_⟩, _, _, rfl, rfl, ?_⟩
    · show -(2 ^ 64) < (n : Int) / 13 % 3
      omega
    · show (n : Int) / 13 % 3 < 2 ^ 64
      omega
    refine ⟨(by show 8 ≤ sizeLine; decide), fun l hl => ?_⟩
    refine ⟨_, rfl, _, _, rfl, rfl, (by show (0 : Int) < 8; decide), ?_⟩
    obtain ⟨j, hj, hj8⟩ : ∃ j : Nat, (n : Int) % 8 = (j : Int) ∧ j < 8 := ⟨((n : Int) % 8).toNat, by omega, by omega⟩
    have s1 := same_new (Same.refl H) (o := .lst [V.int 0]) hq
    have s2 := same_new (Same.refl _) (o := .tup [V.int 0]) ht
    have s3 := same_new (Same.refl _) (o := .dK []) hd
    have s4 := same_new (Same.refl _) (o := .lst [V.non, V.bl true, V.bl false, V.str "0", V.ref q, V.ref t, V.ref dd, V.int (-1 - (n : Int) / 13 % 3 * 10 ^ (20 : Int).toNat)]) hl
    have sA := ((s1.trans s2).trans s3).trans s4
    have hq4 := s4 _ _ (s3 _ _ (s2 q _ upd_same))
    have ht4 := s4 _ _ (s3 t _ upd_same)
    have hd4 := s4 dd _ upd_same
    obtain ⟨m, hm⟩ : ∃ m : Nat, (n : Int) / 13 = (m : Int) := ⟨n / 13, by omega⟩
    obtain ⟨v, e, o⟩ : ∃ v : V, [V.non, V.bl true, V.bl false, V.str "0", V.ref q, V.ref t, V.ref dd, V.int (-1 - (n : Int) / 13 % 3 * 10 ^ (20 : Int).toNat)][j]? = some v ∧ Odd (upd (upd (upd (upd H q (.lst [V.int 0])) t (.tup [V.int 0])) dd (.dK [])) l
        (.lst [V.non, V.bl true, V.bl false, V.str "0", V.ref q, V.ref t, V.ref dd, V.int (-1 - (n : Int) / 13 % 3 * 10 ^ (20 : Int).toNat)])) v := by
      rcases (show j = 0 ∨ j = 1 ∨ j = 2 ∨ j = 3 ∨ j = 4 ∨ j = 5 ∨ j = 6 ∨ j = 7 by omega) with rfl | rfl | rfl | rfl | rfl | rfl | rfl | rfl
      · exact ⟨_, rfl, .inl rfl⟩
      · exact ⟨_, rfl, .inr (.inl ⟨_, rfl⟩)⟩
      · exact ⟨_, rfl, .inr (.inl ⟨_, rfl⟩)⟩
      · exact ⟨_, rfl, .inr (.inr (.inl ⟨_, rfl⟩))⟩
      · exact ⟨_, rfl, .inr (.inr (.inr (.inl ⟨_, _, rfl, hq4⟩)))⟩
      · exact ⟨_, rfl, .inr (.inr (.inr (.inr (.inl ⟨_, _, rfl, ht4⟩))))⟩
      · exact ⟨_, rfl, .inr (.inr (.inr (.inr (.inr (.inl ⟨_, _, rfl, hd4⟩)))))⟩
      · refine ⟨_, rfl, ?_⟩
        rw [hm]
        exact odd_int rfl
    exact ⟨l, _, _, v, rfl, rfl, SqL.of upd_same, at_of hj e, kQ v _ sA o⟩

/-! ### what a row of bits refuses -/
section
variable {C X Y : Addr} {H : Hp} {p : Addr} {l : List Bool} {v u : V} {Q : VK} {E : XK}
theorem no_bit (R : BRow C H p l) (hv : Bad K H v 0 ((l.length : Int) - 1)) (k : E (.ref X) none H) : spBitAt K C X [.ref p, v] H Q E := by
  obtain ⟨⟨n, hn⟩, hv⟩ := hv
  refine ⟨p, l, v, n, rfl, R, hn, fun _ => k, fun i b e hb => ?_⟩
  rw [e, lt_among (List.getElem?_eq_some_iff.mp hb).1] at hv
  cases hv
theorem no_ones (R : BRow C H p l) (hv : Bad K H v 0 (l.length : Int)) (k : E (.ref X) none H) : spBOnes K C X [.ref p, v] H Q E := by
  obtain ⟨⟨n, hn⟩, hv⟩ := hv
  refine ⟨p, l, v, n, rfl, R, hn, fun _ => k, fun i e hi => ?_⟩
  rw [e, nat_among hi] at hv
  cases hv
theorem no_noughts (R : BRow C H p l) (hv : Bad K H v 0 (l.length : Int)) (k : E (.ref X) none H) : spNoughts K C X [.ref p, v] H Q E := by
  obtain ⟨⟨n, hn⟩, hv⟩ := hv
  refine ⟨p, l, v, n, rfl, R, hn, fun _ => k, fun i e hi => ?_⟩
  rw [e, nat_among hi] at hv
  cases hv
theorem no_turn (R : BRow C H p l) (hu : ∃ n, TyN K H u n) (hv : Bad K H v 0 ((l.length : Int) - 1)) (k : E (.ref X) none H) : spPlaceOf K C X [.ref p, u, v] H Q E := by
  obtain ⟨⟨n, hn⟩, hv⟩ := hv
  obtain ⟨m, hm⟩ := hu
  refine ⟨p, l, u, v, m, n, rfl, R, hm, hn, fun _ => k, fun b t _ e ht => ?_⟩
  rw [e, lt_among ht] at hv
  cases hv
theorem no_such (R : BRow C H p l) (hu : Bad K H u 0 1) (hv : ∃ n, TyN K H v n) (k : E (.ref X) none H) : spPlaceOf K C X [.ref p, u, v] H Q E := by
  obtain ⟨⟨n, hn⟩, hu⟩ := hu
  obtain ⟨m, hm⟩ := hv
  refine ⟨p, l, u, v, n, m, rfl, R, hn, hm, fun _ => k, fun b t e _ ht => ?_⟩
  rw [e, bV_among] at hu
  cases hu
theorem no_more {b : Bool} {t : Nat} (R : BRow C H p l) (ht : l.count b ≤ t) (k : E (.ref X) none H) : spPlaceOf K C X [.ref p, bV b, nV t] H Q E := by
  refine ⟨p, l, _, _, "int", "int", rfl, R, TyN.int _, TyN.int _, fun _ => k, fun b' t' eb et ht' => ?_⟩
  have eb := bV_inj eb
  have et := nV_inj et
  subst eb et
  refine ⟨fun _ => k, fun r h1 h2 => ?_⟩
  have hr := (List.getElem?_eq_some_iff.mp h1).1
  have e1 := cb_succ (b := b) hr
  rw [if_pos h1] at e1
  have e2 := cb_mono (b := b) (l := l) (show r + 1 ≤ l.length from hr)
  rw [cb_all] at e2
  omega
theorem no_put (R : BRow C H p l) {c : Bool} (hv : Bad K H v 0 ((l.length : Int) - 1)) (k : E (.ref Y) none H) : spBPut K C X Y [.ref p, v, bV c] H Q E := by
  obtain ⟨⟨n, hn⟩, hv⟩ := hv
  obtain ⟨a, b, R⟩ := R
  refine ⟨p, a, b, l, v, _, n, "int", rfl, R, hn, TyN.int _, fun z => ?_, fun c' _ => ⟨fun _ => k, fun i e => ?_⟩⟩
  · rw [bV_among] at z
    cases z
  · have hno : ∀ c2, l[i]? = some c2 → False := fun c2 h => by
      rw [e, lt_among (List.getElem?_eq_some_iff.mp h).1] at hv
      cases hv
    exact ⟨fun h => (hno _ h).elim, fun h => (hno _ h).elim⟩
theorem no_putb (R : BRow C H p l) (hu : Bad K H u 0 1) (hv : ∃ n, TyN K H v n) (k : E (.ref X) none H) : spBPut K C X Y [.ref p, v, u] H Q E := by
  obtain ⟨⟨n, hn⟩, hu⟩ := hu
  obtain ⟨m, hm⟩ := hv
  obtain ⟨a, b, R⟩ := R
  refine ⟨p, a, b, l, v, u, m, n, rfl, R, hm, hn, fun _ => k, fun c e => ?_⟩
  rw [e, bV_among] at hu
  cases hu
end
def spPlaces (K : PySem.W.Frag) (A : Adr) : Sp := fun vs H Q _ => ∃ (p : Addr) (l : List Bool) (B : Hp) (odd : V) (far : Int) (b : Bool), vs = [.ref p, nV l.length, odd, .int far, bV b] ∧ Gn (Tb A) B H ∧ BRow A.cB B p l ∧ Odd B odd ∧ (l.length : Int) ≤ far ∧
  ∀ H', Gn (Tb A) B H' → Q (.bl true) H'
set_option maxHeartbeats 2000000 in
theorem ok__law_places_refused (T : Tx K mg A) (TB : TbB mg base A) : FnOk P w K mg base CX0 16 A._law_places_refused A._law_places_refused_d ["_law_row", "_law_many", "_law_odd", "_law_far", "_law_bit"] (spPlaces K A) := by
  refine okC T._law_places_refused.F sc__law_places_refused (fun vs H Q E h => ?_) (fun Ar outer s H vs Q E hr h => ?_)
  · obtain ⟨p, l, B, odd, far, b, rfl, _⟩ := h
    rfl
  · obtain ⟨p, l, B, odd, far, b, rfl, g, R, hO, hfar, kQ⟩ := h
    obtain ⟨pa, pb, ⟨dx, hp⟩, _⟩ := id R
    have nob : ∀ {m : Str}, ¬ m = "heads" → ¬ m = "packs" → ¬ m = "size" → (brf l.length pa pb).lookup m = none := fun h1 h2 h3 => brf_no _ _ _ h1 h2 h3
    refine ⟨_, (pss_cons (ps_for PassesOwn.never rfl (pi_tup (pe_tup (pa_cons (pv 2) (pa_cons (pv 3) pa_nil)))) (pg_name (i := 5) sc__law_places_refused.nd rfl (by first | exact Or.inl rfl | exact Or.inr rfl)) (pss_cons (ps_if (pt_cmpR (op_neD (hr.units)) (pe_said T TB._law_places_refused T._law_places_refused_cd (Tl := Tb A) tbm__law_places_refused (tbu__law_places_refused T) (hr.mono (by decide) : Room 14 _) T.cNoPlace rfl (show LamX.LamS (defScope s__law_places_refused) _ from LamX.lamS_by (by decide +kernel)) rfl (fun _ _ _ _ _ => rfl) (fun _ _ _ _ _ _ _ hr => (pe_meth (pv 0) T.clB T.B_bit_at.m (ok_B_bit_at T) (hr.mono (by decide)) T.B_bit_at.b .nil (passes_call (takes_of rfl rfl rfl rfl) (fun _ _ _ _ h => h)) (pa_cons (pv 5) pa_nil)))) (pe_lst (pa_cons pe_str pa_nil)) (nomark _)) (pss_one (ps_ret pe_bl)) pss_nil)
      (pss_cons (ps_if (pt_cmpR (op_neD (hr.units)) (pe_said T TB._law_places_refused T._law_places_refused_cd (Tl := Tb A) tbm__law_places_refused (tbu__law_places_refused T) (hr.mono (by decide) : Room 14 _) T.cNoPlace rfl (show LamX.LamS (defScope s__law_places_refused) _ from LamX.lamS_by (by decide +kernel)) rfl (fun _ _ _ _ _ => rfl) (fun _ _ _ _ _ _ _ hr => (pe_meth (pv 0) T.clB T.B_put.m (ok_B_put T) (hr.mono (by decide)) T.B_put.b .nil (passes_call (takes_of rfl rfl rfl rfl) (fun _ _ _ _ h => h)) (pa_cons (pv 5) (pa_cons pe_int pa_nil))))) (pe_lst (pa_cons pe_str pa_nil)) (nomark _)) (pss_one (ps_ret pe_bl)) pss_nil)
      (pss_one (ps_if (pt_cmpR (op_neD (hr.units)) (pe_said T TB._law_places_refused T._law_places_refused_cd (Tl := Tb A) tbm__law_places_refused (tbu__law_places_refused T) (hr.mono (by decide) : Room 14 _) T.cNoPlace rfl (show LamX.LamS (defScope s__law_places_refused) _ from LamX.lamS_by (by decide +kernel)) rfl (fun _ _ _ _ _ => rfl) (fun _ _ _ _ _ _ _ hr => (pe_meth (pv 0) T.clB T.B_place_of.m (ok_B_place_of T) (hr.mono (by decide)) T.B_place_of.b .nil (passes_call (takes_of rfl rfl rfl rfl) (fun _ _ _ _ h => h)) (pa_cons (pv 4) (pa_cons (pv 5) pa_nil))))) (pe_lst (pa_cons pe_str pa_nil)) (nomark _)) (pss_one (ps_ret pe_bl)) pss_nil)))))
      (pss_cons (ps_for PassesOwn.never rfl (pi_tup (pe_tup (pa_cons (pv 2) (pa_cons (pe_op op_add (pv 1) pe_int) (pa_cons (pe_op op_add (pv 3) pe_int) pa_nil))))) (pg_name (i := 5) sc__law_places_refused.nd rfl (by first | exact Or.inl rfl | exact Or.inr rfl)) (pss_cons (ps_if (pt_cmpR (op_neD (hr.units)) (pe_said T TB._law_places_refused T._law_places_refused_cd (Tl := Tb A) tbm__law_places_refused (tbu__law_places_refused T) (hr.mono (by decide) : Room 14 _) T.cNoPlace rfl (show LamX.LamS (defScope s__law_places_refused) _ from LamX.lamS_by (by decide +kernel)) rfl (fun _ _ _ _ _ => rfl) (fun _ _ _ _ _ _ _ hr => (pe_meth (pv 0) T.clB T.B_ones.m (ok_B_ones T) (hr.mono (by decide)) T.B_ones.b .nil (passes_call (takes_of rfl rfl rfl rfl) (fun _ _ _ _ h => h)) (pa_cons (pv 5) pa_nil)))) (pe_lst (pa_cons pe_str pa_nil)) (nomark _)) (pss_one (ps_ret pe_bl)) pss_nil)
      (pss_one (ps_if (pt_cmpR (op_neD (hr.units)) (pe_said T TB._law_places_refused T._law_places_refused_cd (Tl := Tb A) tbm__law_places_refused (tbu__law_places_refused T) (hr.mono (by decide) : Room 14 _) T.cNoPlace rfl (show LamX.LamS (defScope s__law_places_refused) _ from LamX.lamS_by (by decide +kernel)) rfl (fun _ _ _ _ _ => rfl) (fun _ _ _ _ _ _ _ hr => (pe_meth (pv 0) T.clB T.B_noughts.m (ok_B_noughts T) (hr.mono (by decide)) T.B_noughts.b .nil (passes_call (takes_of rfl rfl rfl rfl) (fun _ _ _ _ h => h)) (pa_cons (pv 5) pa_nil)))) (pe_lst (pa_cons pe_str pa_nil)) (nomark _)) (pss_one (ps_ret pe_bl)) pss_nil))))
      (pss_one (ps_ret pe_bl)))), ?_⟩
    refine ⟨_, rfl, _, rfl, (by show 2 ≤ sizeLine; decide), fun t ht => ?_⟩
    have s0 := same_new (Same.refl B) (o := .tup [odd, V.int far]) (g.free ht)
    have g0 := g.hold (o := .tup [odd, V.int far]) ht (by intro ps z; cases z)
    have tB : upd B t (.tup [odd, V.int far]) t = some (.tup [odd, V.int far]) := upd_same
    generalize upd H t (.tup [odd, V.int far]) = H0 at g0
    generalize upd B t (.tup [odd, V.int far]) = B0 at g0 s0 tB
    have hp0 := s0 _ _ hp
    refine ⟨t, rfl, ⟨_, SqT.of (g0.s _ _ tB)⟩, for_tup (K := K) (xs := [odd, V.int far]) (fun _ σ H' => ∃ v5, σ = [some (.ref p), some (nV l.length), some odd, some (.int far), some (bV b), v5] ∧ Gn (Tb A) B0 H')
      ⟨none, rfl, g0⟩ (fun i σ H' _ ⟨_, _, g1⟩ => SqT.of (g1.s _ _ tB)) (fun i x σ H' hi h => ?_) fun σ H' h => ?_⟩
    · obtain ⟨v5, rfl, g1⟩ := h
      have hb : Bad K B0 x 0 ((l.length : Int) - 1) := by
        have hx := List.mem_of_getElem? hi
        simp only [List.mem_cons, List.not_mem_nil, or_false] at hx
        rcases hx with rfl | rfl
        · exact (hO.same s0).bad (by decide)
        · exact .int (.inr (by omega))
      refine said_ne g1 rfl (fun E1 H1 Q' g2 kE => ?_) fun H2 g2 => if_f rfl ?_
      · exact ⟨_, rfl, p, dx, _, rfl, g2.s _ _ hp0, nob (by decide +kernel) (by decide +kernel) (by decide +kernel), _, rfl, no_bit ((R.same s0).same g2.s) (hb.same g2.s) (kE _ (Same.refl _))⟩
      refine said_ne g2 rfl (fun E1 H1 Q' g3 kE => ?_) fun H3 g3 => if_f rfl ?_
      · exact ⟨_, rfl, p, dx, _, rfl, g3.s _ _ hp0, nob (by decide +kernel) (by decide +kernel) (by decide +kernel), _, rfl, no_put (c := true) ((R.same s0).same g3.s) (hb.same g3.s) (kE _ (Same.refl _))⟩
      refine said_ne g3 rfl (fun E1 H1 Q' g4 kE => ?_) fun H4 g4 => if_f rfl ?_
      · exact ⟨_, rfl, p, dx, _, rfl, g4.s _ _ hp0, nob (by decide +kernel) (by decide +kernel) (by decide +kernel), _, rfl, _, rfl, no_turn ((R.same s0).same g4.s) ⟨_, TyN.int _⟩ (hb.same g4.s) (kE _ (Same.refl _))⟩
      exact ⟨_, rfl, g4⟩
    · obtain ⟨v5, rfl, g1⟩ := h
      -- for in (odd, many + 1, far + 1)
      refine ⟨_, rfl, _, rfl, _, _, rfl, rfl, _, rfl, _, _, rfl, rfl, (by show 3 ≤ sizeLine; decide), fun t2 ht2 => ?_⟩
      have s2 := same_new (Same.refl B0) (o := .tup [odd, V.int ((l.length : Int) + 1), V.int (far + 1)]) (g1.free ht2)
      have g2 := g1.hold (o := .tup [odd, V.int ((l.length : Int) + 1), V.int (far + 1)]) ht2 (by intro ps z; cases z)
      have tB2 : upd B0 t2 (.tup [odd, V.int ((l.length : Int) + 1), V.int (far + 1)]) t2 = some (.tup [odd, V.int ((l.length : Int) + 1), V.int (far + 1)]) := upd_same
      refine ⟨t2, rfl, ⟨_, SqT.of upd_same⟩, for_tup (K := K) (xs := [odd, V.int ((l.length : Int) + 1), V.int (far + 1)]) (fun _ σ H' => ∃ v5, σ = [some (.ref p), some (nV l.length), some odd, some (.int far), some (bV b), v5] ∧ Gn (Tb A) (upd B0 t2 (.tup [odd, V.int ((l.length : Int) + 1), V.int (far + 1)])) H')
        ⟨_, rfl, g2⟩ (fun i σ H' _ ⟨_, _, g3⟩ => SqT.of (g3.s _ _ tB2)) (fun i x σ H' hi h => ?_) fun σ H' h => ?_⟩
      · obtain ⟨v5, rfl, g3⟩ := h
        have s02 := s0.trans s2
        have hb : Bad K (upd B0 t2 (.tup [odd, V.int ((l.length : Int) + 1), V.int (far + 1)])) x 0 (l.length : Int) := by
          have hx := List.mem_of_getElem? hi
          simp only [List.mem_cons, List.not_mem_nil, or_false] at hx
          rcases hx with rfl | rfl | rfl
          · exact (hO.same s02).bad (by decide)
          · exact .int (.inr (by omega))
          · exact .int (.inr (by omega))
        refine said_ne g3 rfl (fun E1 H1 Q' g4 kE => ?_) fun H4 g4 => if_f rfl ?_
        · exact ⟨_, rfl, p, dx, _, rfl, g4.s _ _ (s02 _ _ hp), nob (by decide +kernel) (by decide +kernel) (by decide +kernel), _, rfl, no_ones ((R.same s02).same g4.s) (hb.same g4.s) (kE _ (Same.refl _))⟩
        refine said_ne g4 rfl (fun E1 H1 Q' g5 kE => ?_) fun H5 g5 => if_f rfl ?_
        · exact ⟨_, rfl, p, dx, _, rfl, g5.s _ _ (s02 _ _ hp), nob (by decide +kernel) (by decide +kernel) (by decide +kernel), _, rfl, no_noughts ((R.same s02).same g5.s) (hb.same g5.s) (kE _ (Same.refl _))⟩
        exact ⟨_, rfl, g5⟩
      · obtain ⟨v5, rfl, g3⟩ := h
        exact kQ _ (g3.back (s0.trans s2))
/-! ### what is no list of bits -/
theorem no_brow {C X x dx a : Addr} {H1 : Hp} {xs : List V} {Q : VK} {E : XK} (hS : SqL K H1 a xs) (hty : ∀ y ∈ xs, ∃ m, TyN K H1 y m) (hbad : 4000 < xs.length ∨ ∃ y ∈ xs, amongV y 0 1 = false) (nx : H1 x = none) (ndx : H1 dx = none)
    (k : ∀ H', Same H1 H' → E (.ref X) none H') : spBInit K C X [.ref x, .ref a] (upd (upd H1 dx (.own x)) x (.ins C dx [])) Q E := by
  have s0 : Same H1 (upd (upd H1 dx (.own x)) x (.ins C dx [])) := fun b o e => by
    rw [upd_ne (ne_of_none e nx), upd_ne (ne_of_none e ndx)]
    exact e
  refine ⟨x, dx, .ref a, "list", rfl, upd_same, TyN.lst (s0.seq hS), fun z => absurd rfl z, fun _ => ⟨a, xs, rfl, s0.seq hS, fun y hy => (hty y hy).imp fun _ h => h.same s0, fun _ H' s => k H' (s0.trans s), fun l el hl => ?_⟩⟩
  exfalso
  subst el
  rcases hbad with z | ⟨y, hy, z⟩
  · rw [List.length_map] at z
    omega
  · obtain ⟨b, _, rfl⟩ := List.mem_map.mp hy
    rw [bV_among] at z
    cases z
theorem no_brow2 {C X x dx : Addr} {H1 : Hp} {v : V} {n : String} {Q : VK} {E : XK} (hv : TyN K H1 v n) (hn : n ≠ "list") (nx : H1 x = none) (ndx : H1 dx = none)
    (k : ∀ H', Same H1 H' → E (.ref X) none H') : spBInit K C X [.ref x, v] (upd (upd H1 dx (.own x)) x (.ins C dx [])) Q E := by
  have s0 : Same H1 (upd (upd H1 dx (.own x)) x (.ins C dx [])) := fun b o e => by
    rw [upd_ne (ne_of_none e nx), upd_ne (ne_of_none e ndx)]
    exact e
  exact ⟨x, dx, v, n, rfl, upd_same, hv.same s0, fun _ H' s => k H' (s0.trans s), fun z => absurd z hn⟩
theorem pickP {xs : List V} {z : Int} {R : V → Prop} (h0 : 0 ≤ z) (h1 : z < (xs.length : Int)) (hall : ∀ x ∈ xs, R x) : ∃ v, atI xs z = some v ∧ R v := by
  have hj : z.toNat < xs.length := by omega
  exact ⟨xs[z.toNat], at_of (j := z.toNat) (by omega) (List.getElem?_eq_getElem hj), hall _ (List.getElem_mem hj)⟩
theorem Gn.re {Tl : List (Addr × Str)} {B H : Hp} (g : Gn Tl B H) : Gn Tl (noT H) H ∧ Same B (noT H) := ⟨Gn.start g.t, fun b o e => noT_of (g.s b o e) (g.n b o e)⟩
theorem count_false (l : List Bool) : l.count false + cnt l = l.length := by
  have h := cb_sum l (Nat.le_refl _)
  rw [cb_all] at h
  have h2 := cb_true l l.length
  rw [List.take_length] at h2
  omega
theorem count_true (l : List Bool) : l.count true = cnt l := by
  have h2 := cb_true l l.length
  rw [List.take_length, cb_all] at h2
  exact h2
theorem far_of {m : Nat} {n : Int} {e : Int} (he : 0 ≤ e) : ∃ far : Int, V.int ((m : Int) + n % 3 * e) = .int far ∧ (m : Int) ≤ far := by
  refine ⟨_, rfl, ?_⟩
  have h1 : 0 ≤ n % 3 * e := Int.mul_nonneg (by omega) he
  omega
/-- what is no list of bits, by its kind or its length -/
def Bar (K : PySem.W.Frag) (H : Hp) (v : V) : Prop := (∃ n, TyN K H v n ∧ n ≠ "list") ∨ ∃ a xs, v = .ref a ∧ H a = some (.lst xs) ∧ 4000 < xs.length ∧ ∀ x ∈ xs, x = V.int 0
theorem Bar.same {H H' : Hp} {v : V} (s : Same H H') (h : Bar K H v) : Bar K H' v := by
  rcases h with ⟨n, h, e⟩ | ⟨a, xs, e, h, r⟩
  · exact .inl ⟨n, h.same s, e⟩
  · exact .inr ⟨a, xs, e, s _ _ h, r⟩
theorem marks_none (n : Nat) : marks (List.replicate n false) = List.replicate (wn n) 0 := by
  unfold marks
  rw [List.length_replicate]
  apply List.ext_getElem
  · simp
  · intro i h1 h2
    simp [cnt, List.take_replicate, List.count_replicate]
theorem rows_bits {l : List Bool} {lo hi : Option Int} {x : V} (h : x ∈ cutV (l.map bV) lo hi) : ∃ b, x = bV b := by
  unfold cutV at h
  obtain ⟨b, _, e⟩ := List.mem_map.mp (List.mem_of_mem_drop (List.mem_of_mem_take h))
  exact ⟨b, e.symm⟩
set_option maxHeartbeats 4000000 in
theorem ok_law (T : Tx K mg A) (TB : TbB mg base A) : FnOk P w K mg base CX0 20 A.law A.law_d ["_law_script"] (spLawT K A) := by
  refine okC T.law.F sc_law (fun vs H Q E h => ?_) (fun Ar outer s H vs Q E hr h => ?_)
  · obtain ⟨a, ns, rfl, _⟩ := h
    rfl
  · obtain ⟨a, ns, rfl, hS, hlen, hT, kQ⟩ := h
    have hu := hu_of hr
    refine ⟨_, (pss_cons (ps_set (i := 1) sc_law.nd rfl (by first | exact Or.inl rfl | exact Or.inr rfl) (pe_disp (pps_cons pe_str (pv 0) (pps_cons pe_str pe_int pps_nil)) (by rfl) (by rfl) (fun z => by cases z) (by decide)))
      (pss_cons (ps_set (i := 2) sc_law.nd rfl (by first | exact Or.inl rfl | exact Or.inr rfl) (pe_call (E := E0) (ok__law_bits T) (hr.mono (by decide)) rfl T._law_bits.g T._law_bits.F.kp T._law_bits.b .nil pass0 (pa_cons (pv 1) pa_nil)))
      (pss_cons (ps_set (i := 3) sc_law.nd rfl (by first | exact Or.inl rfl | exact Or.inr rfl) (pe_make (E := E0) T.mkB (ok_B_init T) (hr.mono (by decide)) rfl T.gB T.B_init.b .nil passL (pa_cons (pe_callTy call_list_of (by rfl) T.b_list (by decide +kernel) (pa_cons (pv 2) pa_nil)) pa_nil)))
      (pss_cons (ps_set (i := 4) sc_law.nd rfl (by first | exact Or.inl rfl | exact Or.inr rfl) (pe_tup (pa_cons (pe_meth0 (E := E0) (pv 3) T.clB T.B_words.m (ok_B_words T) (hr.mono (by decide)) T.B_words.b .nil pass0) (pa_cons (pe_meth0 (E := E0) (pv 3) T.clB T.B_marks.m (ok_B_marks T) (hr.mono (by decide)) T.B_marks.b .nil pass0) pa_nil))))
      (pss_cons (ps_set (i := 5) sc_law.nd rfl (by first | exact Or.inl rfl | exact Or.inr rfl) (pe_call (E := E0) (ok__law_next T) (hr.mono (by decide)) rfl T._law_next.g T._law_next.F.kp T._law_next.b .nil pass0 (pa_cons (pv 1) pa_nil)))
      (pss_cons (ps_set (i := 6) sc_law.nd rfl (by first | exact Or.inl rfl | exact Or.inr rfl) (pe_call (E := E0) (ok__law_kinds T) (hr.mono (by decide)) rfl T._law_kinds.g T._law_kinds.F.kp T._law_kinds.b .nil pass0 (pa_cons (pv 5) pa_nil)))
      (pss_cons (ps_set (i := 7) sc_law.nd rfl (by first | exact Or.inl rfl | exact Or.inr rfl) (pe_op op_add (pe_callB call_len_seq (by rfl) T.b_len (by decide +kernel) (pa_cons (pv 2) pa_nil)) (pe_op op_mul (pe_op op_mod (pe_op op_fdiv (pv 5) pe_int) pe_int) (pe_op op_pow pe_int pe_int))))
      (pss_cons (ps_if (pt_not (pt_val (pe_call (E := E0) (ok__law_places_refused T TB) (hr.mono (by decide)) rfl T._law_places_refused.g T._law_places_refused.F.kp T._law_places_refused.b .nil pass0 (pa_cons (pv 3) (pa_cons (pe_callB call_len_seq (by rfl) T.b_len (by decide +kernel) (pa_cons (pv 2) pa_nil)) (pa_cons (pv 6) (pa_cons (pv 7) (pa_cons (pe_op op_mod (pv 5) pe_int) pa_nil)))))))) (pss_one (ps_ret pe_bl)) pss_nil)
      (pss_cons (ps_if (pt_cmpR (op_neD (hr.units)) (pe_said T TB.law T.law_cd (Tl := Tb A) tbm_law (tbu_law T) (hr.mono (by decide) : Room 14 _) T.cNoPlace rfl (show LamX.LamS (defScope s_law) _ from LamX.lamS_by (by decide +kernel)) rfl (fun _ _ _ _ _ => rfl) (fun _ _ _ _ _ _ _ hr => (pe_meth (pv 3) T.clB T.B_place_of.m (ok_B_place_of T) (hr.mono (by decide)) T.B_place_of.b .nil (passes_call (takes_of rfl rfl rfl rfl) (fun _ _ _ _ h => h)) (pa_cons pe_int (pa_cons (pe_op op_sub (pe_callB (r := rLenK K) call_len_seq (by rfl) T.b_len (by decide +kernel) (pa_cons (pv 2) pa_nil)) (pe_callB (r := rSum K) (cr_sum rfl) (by rfl) T.b_sum (by decide +kernel) (pa_cons (pv 2) pa_nil))) pa_nil))))) (pe_lst (pa_cons pe_str pa_nil)) (nomark _)) (pss_one (ps_ret pe_bl)) pss_nil)
      (pss_cons (ps_if (pt_cmpR (op_neD (hr.units)) (pe_said T TB.law T.law_cd (Tl := Tb A) tbm_law (tbu_law T) (hr.mono (by decide) : Room 14 _) T.cNoPlace rfl (show LamX.LamS (defScope s_law) _ from LamX.lamS_by (by decide +kernel)) rfl (fun _ _ _ _ _ => rfl) (fun _ _ _ _ _ _ _ hr => (pe_meth (pv 3) T.clB T.B_place_of.m (ok_B_place_of T) (hr.mono (by decide)) T.B_place_of.b .nil (passes_call (takes_of rfl rfl rfl rfl) (fun _ _ _ _ h => h)) (pa_cons pe_int (pa_cons (pe_callB (r := rSum K) (cr_sum rfl) (by rfl) T.b_sum (by decide +kernel) (pa_cons (pv 2) pa_nil)) pa_nil))))) (pe_lst (pa_cons pe_str pa_nil)) (nomark _)) (pss_one (ps_ret pe_bl)) pss_nil)
      (pss_cons (ps_set (i := 8) sc_law.nd rfl (by first | exact Or.inl rfl | exact Or.inr rfl) (pe_ix ix_list (pe_lst (pa_cons (pv 6) (pa_cons pe_int (pa_cons (pe_un un_neg pe_int) (pa_cons (pe_op op_pow pe_int pe_int) (pa_cons (pe_op op_pow pe_int pe_int) pa_nil)))))) (pe_op op_mod (pe_op op_fdiv (pv 5) pe_int) pe_int) (fun _ _ => rfl)))
      (pss_cons (ps_if (pt_cmpR (op_neD (hr.units)) (pe_said T TB.law T.law_cd (Tl := Tb A) tbm_law (tbu_law T) (hr.mono (by decide) : Room 14 _) T.cNoPlace rfl (show LamX.LamS (defScope s_law) _ from LamX.lamS_by (by decide +kernel)) rfl (fun _ _ _ _ _ => rfl) (fun _ _ _ _ _ _ _ hr => (pe_meth (pv 3) T.clB T.B_place_of.m (ok_B_place_of T) (hr.mono (by decide)) T.B_place_of.b .nil (passes_call (takes_of rfl rfl rfl rfl) (fun _ _ _ _ h => h)) (pa_cons (pv 8) (pa_cons pe_int pa_nil))))) (pe_lst (pa_cons pe_str pa_nil)) (nomark _)) (pss_one (ps_ret pe_bl)) pss_nil)
      (pss_cons (ps_for PassesOwn.never rfl (pi_tup (pe_tup (pa_cons pe_int (pa_cons (pv 7) pa_nil)))) (pg_name (i := 9) sc_law.nd rfl (by first | exact Or.inl rfl | exact Or.inr rfl)) (pss_one (ps_if (pt_cmpR (op_neD (hr.units)) (pe_said T TB.law T.law_cd (Tl := Tb A) tbm_law (tbu_law T) (hr.mono (by decide) : Room 14 _) T.cBadRow rfl (show LamX.LamS (defScope s_law) _ from LamX.lamS_by (by decide +kernel)) rfl (fun _ _ _ _ _ => rfl) (fun _ _ _ _ _ _ _ hr => (pe_meth (pv 3) T.clB T.B_put.m (ok_B_put T) (hr.mono (by decide)) T.B_put.b .nil (passes_call (takes_of rfl rfl rfl rfl) (fun _ _ _ _ h => h)) (pa_cons (pv 9) (pa_cons (pv 8) pa_nil))))) (pe_lst (pa_cons pe_str pa_nil)) (nomark _)) (pss_one (ps_ret pe_bl)) pss_nil)))
      (pss_cons (ps_set (i := 10) sc_law.nd rfl (by first | exact Or.inl rfl | exact Or.inr rfl) (pe_op op_mod (pe_op op_fdiv (pv 5) pe_int) (pe_op op_add (pe_callB call_len_seq (by rfl) T.b_len (by decide +kernel) (pa_cons (pv 2) pa_nil)) pe_int)))
      (pss_cons (ps_if (pt_cmpR (op_neD (hr.units)) (pe_said T TB.law T.law_cd (Tl := Tb A) tbm_law (tbu_law T) (hr.mono (by decide) : Room 14 _) T.cBadRow rfl (show LamX.LamS (defScope s_law) _ from LamX.lamS_by (by decide +kernel)) rfl (fun _ _ _ _ _ => rfl) (fun _ _ _ _ _ _ _ hr => (pe_make T.mkB (ok_B_init T) (hr.mono (by decide)) rfl T.gB T.B_init.b .nil (passes_call (takes_of rfl rfl rfl rfl) (fun _ _ _ _ h => h)) (pa_cons (pe_op op_cat (pe_op op_cat (pe_slice (r := rSlL K) sl_list (pv 2) po_none (po_some (pv 10))) (pe_lst (pa_cons (pv 8) pa_nil))) (pe_slice (r := rSlL K) sl_list (pv 2) (po_some (pv 10)) po_none)) pa_nil)))) (pe_lst (pa_cons pe_str pa_nil)) (nomark _)) (pss_one (ps_ret pe_bl)) pss_nil)
      (pss_cons (ps_set (i := 11) sc_law.nd rfl (by first | exact Or.inl rfl | exact Or.inr rfl) (pe_lst (pa_cons pe_non (pa_cons pe_str (pa_cons (pe_callTy call_tuple_of (by rfl) T.b_tuple (by decide +kernel) (pa_cons (pv 2) pa_nil)) (pa_cons pe_dnewK (pa_cons pe_int (pa_cons pe_bl (pa_cons (pe_op op_rep (pe_lst (pa_cons pe_int pa_nil)) pe_int) pa_nil)))))))))
      (pss_cons (ps_if (pt_cmpR (op_neD (hr.units)) (pe_said T TB.law T.law_cd (Tl := Tb A) tbm_law (tbu_law T) (hr.mono (by decide) : Room 14 _) T.cBadRow rfl (show LamX.LamS (defScope s_law) _ from LamX.lamS_by (by decide +kernel)) rfl (fun _ _ _ _ _ => rfl) (fun _ _ _ _ _ _ _ hr => (pe_make T.mkB (ok_B_init T) (hr.mono (by decide)) rfl T.gB T.B_init.b .nil (passes_call (takes_of rfl rfl rfl rfl) (fun _ _ _ _ h => h)) (pa_cons (pe_ix (r := rIxL K) ix_list (pv 11) (pe_op op_mod (pe_op op_fdiv (pv 5) pe_int) pe_int) (fun _ _ => rfl)) pa_nil)))) (pe_lst (pa_cons pe_str pa_nil)) (nomark _)) (pss_one (ps_ret pe_bl)) pss_nil)
      (pss_cons (ps_set (i := 12) sc_law.nd rfl (by first | exact Or.inl rfl | exact Or.inr rfl) (pe_lst (pa_cons (pv 6) (pa_cons (pe_op op_pow pe_int pe_int) (pa_cons (pe_un un_neg pe_int) (pa_cons (pe_op op_add (pe_op op_shl pe_int pe_int) (pv 5)) pa_nil))))))
      (pss_cons (ps_if (pt_cmpR (op_neD (hr.units)) (pe_said T TB.law T.law_cd (Tl := Tb A) tbm_law (tbu_law T) (hr.mono (by decide) : Room 14 _) T.cBadRow rfl (show LamX.LamS (defScope s_law) _ from LamX.lamS_by (by decide +kernel)) rfl (fun _ _ _ _ _ => rfl) (fun _ _ _ _ _ _ _ hr => (pe_call (ok_ones_in T) (hr.mono (by decide)) rfl T.ones_in.g T.ones_in.F.kp T.ones_in.b .nil (passes_call (takes_of rfl rfl rfl rfl) (fun _ _ _ _ h => h)) (pa_cons (pe_ix (r := rIxL K) ix_list (pv 12) (pe_op op_mod (pe_op op_fdiv (pv 5) pe_int) pe_int) (fun _ _ => rfl)) pa_nil)))) (pe_lst (pa_cons pe_str pa_nil)) (nomark _)) (pss_one (ps_ret pe_bl)) pss_nil)
      (pss_one (ps_ret (pe_and (pe_cmpR (op_eqD (hr.units)) (pe_tup (pa_cons (pe_meth0 (E := E0) (pv 3) T.clB T.B_words.m (ok_B_words T) (hr.mono (by decide)) T.B_words.b .nil pass0) (pa_cons (pe_meth0 (E := E0) (pv 3) T.clB T.B_marks.m (ok_B_marks T) (hr.mono (by decide)) T.B_marks.b .nil pass0) pa_nil))) (pv 4) (nomark _)) (pe_one (pe_cmpR (op_eqD (hr.units)) (pe_meth0 (E := E0) (pe_make (E := E0) T.mkB (ok_B_init T) (hr.mono (by decide)) rfl T.gB T.B_init.b .nil passL (pa_cons (pe_op op_rep (pe_lst (pa_cons pe_int pa_nil)) pe_int) pa_nil)) T.clB T.B_marks.m (ok_B_marks T) (hr.mono (by decide)) T.B_marks.b .nil pass0) (pe_op op_rep (pe_lst (pa_cons pe_int pa_nil)) pe_int) (nomark _))))))))))))))))))))))))), ?_⟩
    -- _law_state
    refine fun d hd => ⟨_, rfl, upd_same, stD a 0, rfl, (by show 2 ≤ 15; decide), ?_⟩
    rw [st_merge]
    have s1 : Same H (upd (upd H d (.dK [])) d (.dK (stD a 0))) := by rw [upd_upd]; exact same_new (Same.refl H) hd
    have g0 := (Gn.start hT).to s1
    have fd : noT H d = none := by
      unfold noT
      rw [hd]
    refine ⟨_, rfl, d, a, ns, 0, rfl, ⟨upd_same, s1.seq hS, hlen, by omega⟩, by omega, fun l L H1 k1 hl hk1 kp1 S1 hL hL1 => ?_⟩
    have g1 := g0.keep upd_same kp1 fd
    -- _law_row
    refine ⟨_, rfl, L, _, rfl, .inl (SqL.of hL1), fun M hM => fun p dx np ndx _ => mk_brow (SqL.of upd_same) (by omega) np ndx fun H2 pa pb s3 npa npb R => ⟨rfl, ?_⟩⟩
    have s23 : Same H1 H2 := (same_new (Same.refl H1) hM).trans s3
    have g2 := g1.to s23
    have S2 := S1.same s23
    have hL2 := s23 _ _ hL1
    clear g0 g1 s1 s3 s23 S1 hL1
    obtain ⟨dx, hp⟩ := R.ob
    have nob : ∀ {m : Str}, ¬ m = "heads" → ¬ m = "packs" → ¬ m = "size" → (brf l.length pa pb).lookup m = none := fun h1 h2 h3 => brf_no _ _ _ h1 h2 h3
    -- _law_kept
    refine ⟨_, rfl, p, dx, _, rfl, hp, nob (by decide +kernel) (by decide +kernel) (by decide +kernel), p, l, rfl, ⟨pa, pb, R⟩, fun q1 H3 s4 _ hq1 => ?_⟩
    refine ⟨_, rfl, p, dx, _, rfl, s4 _ _ hp, nob (by decide +kernel) (by decide +kernel) (by decide +kernel), p, l, rfl, ⟨pa, pb, R.same s4⟩, fun q2 H4 s5 _ hq2 => ?_⟩
    refine ⟨(by show 2 ≤ sizeLine; decide), fun tk htk => ?_⟩
    have s6 := same_new (Same.refl H4) (o := .tup [V.ref q1, V.ref q2]) htk
    have htk1 : upd H4 tk (.tup [V.ref q1, V.ref q2]) tk = some (.tup [V.ref q1, V.ref q2]) := upd_same
    generalize upd H4 tk (.tup [V.ref q1, V.ref q2]) = H5 at s6 htk1
    have s25 := (s4.trans s5).trans s6
    have g5 := g2.to s25
    have S5 := S2.same s25
    have R5 := R.same s25
    have hL5 := s25 _ _ hL2
    have hq15 := s6 _ _ (s5 _ _ hq1)
    have hq25 := s6 _ _ hq2
    clear s4 s5 s6 hq1 hq2 g2 S2 R hL2 hp s25
    -- _law_n
    refine ⟨_, rfl, d, a, ns, _, rfl, S5, by omega, fun n H6 hn kp6 S6 => ?_⟩
    have g6 := g5.keep S5.dict kp6 fd
    have R6 := R5.keep S5.dict kp6
    have hL6 := kp6 _ _ hL5 (ne_of hL5 S5.dict (by intro z; cases z))
    have hq16 := kp6 _ _ hq15 (ne_of hq15 S5.dict (by intro z; cases z))
    have hq26 := kp6 _ _ hq25 (ne_of hq25 S5.dict (by intro z; cases z))
    have htk6 := kp6 _ _ htk1 (ne_of htk1 S5.dict (by intro z; cases z))
    -- _law_odd
    refine ⟨_, rfl, n, rfl, fun odd H7 s7 hO => ?_⟩
    obtain ⟨g7, _⟩ := (g6.to s7).re
    have hB : ∀ {b : Addr} {o : HO}, H6 b = some o → (∀ ps, o ≠ .tbl ps) → noT H7 b = some o := fun e n => noT_of (s7 _ _ e) n
    have RB : BRow A.cB (noT H7) p l := BRow.noT ⟨pa, pb, R6.same s7⟩
    have LB := hB hL6 (by intro ps z; cases z)
    have q1B := hB hq16 (by intro ps z; cases z)
    have q2B := hB hq26 (by intro ps z; cases z)
    have tkB := hB htk6 (by intro ps z; cases z)
    have OB := hO.noT
    obtain ⟨B, eB⟩ : ∃ B, noT H7 = B := ⟨_, rfl⟩
    rw [eB] at g7 RB LB q1B q2B tkB OB
    clear hB g5 g6 S5 S6 R5 R6 hL5 hL6 hq15 hq16 hq25 hq26 htk6 htk1 kp6 kp1 hO s7 eB
    have hll : (l.map bV).length = l.length := List.length_map ..
    obtain ⟨pa, pb, ⟨dx, hp⟩, _⟩ := id RB
    have nob : ∀ {m : Str}, ¬ m = "heads" → ¬ m = "packs" → ¬ m = "size" → (brf l.length pa pb).lookup m = none := fun h1 h2 h3 => brf_no _ _ _ h1 h2 h3
    -- _law_far
    refine ⟨_, rfl, L, _, rfl, .inl (SqL.of (g7.s _ _ LB)), _, rfl, _, _, rfl, rfl, ⟨by decide, by decide⟩, _, _, rfl, rfl, (by show (0 : Int) < 3; decide), _, _, rfl, rfl, ⟨by decide, by decide, by decide⟩, _, _, rfl, rfl, .inl ⟨?_, ?_⟩, _, _, rfl, rfl, ?_⟩
    · show -(2 ^ 64) < (n : Int) / 90 % 3
      omega
    · show (n : Int) / 90 % 3 < 2 ^ 64
      omega
    dsimp only
    obtain ⟨far, efar, hfar⟩ := far_of (m := (l.map bV).length) (n := (n : Int) / 90) (e := 10 ^ (25 : Int).toNat) (by decide)
    rw [efar]
    rw [hll] at hfar
    -- if not _law_places_refused(..)
    obtain ⟨b2, eb2⟩ := bV_of (v := V.int ((n : Int) % 2)) (among_in (by omega) (by omega))
    refine ⟨_, rfl, _, rfl, L, _, rfl, .inl (SqL.of (g7.s _ _ LB)), _, rfl, _, rfl, _, rfl, _, _, rfl, rfl, (by show (0 : Int) < 2; decide), p, l, B, odd, far, b2, ?_, g7, RB, OB, hfar, fun H8 g8 => ⟨_, rfl, if_f rfl ?_⟩⟩
    · rw [← eb2, hll]
      rfl
    -- place_of(0, len - sum), place_of(1, sum)
    have e0 : V.int (((l.map bV).length : Int) - (l.map fun b => (b.toNat : Int)).sum) = nV (l.count false) := by
      rw [hll, sum_bits]
      have := count_false l
      unfold nV
      congr 1
      omega
    have e1 : V.int ((l.map fun b => (b.toNat : Int)).sum) = nV (l.count true) := by
      rw [sum_bits, count_true]
      rfl
    refine said_ne g8 rfl (fun E1 H1 Q' g kE => ?_) fun H9 g9 => if_f rfl ?_
    · refine ⟨_, rfl, p, dx, _, rfl, g.s _ _ hp, nob (by decide +kernel) (by decide +kernel) (by decide +kernel), _, rfl, L, _, rfl, .inl (SqL.of (g.s _ _ LB)), _, rfl, L, _, rfl, (by rw [← ints_bV]; exact SqL.of (g.s _ _ LB)), _, _, rfl, rfl, ?_⟩
      dsimp only
      rw [e0]
      exact no_more (b := false) (RB.same g.s) (Nat.le_refl _) (kE _ (Same.refl _))
    refine said_ne g9 rfl (fun E1 H1 Q' g kE => ?_) fun H10 g10 => if_f rfl ?_
    · refine ⟨_, rfl, p, dx, _, rfl, g.s _ _ hp, nob (by decide +kernel) (by decide +kernel) (by decide +kernel), _, rfl, L, _, rfl, (by rw [← ints_bV]; exact SqL.of (g.s _ _ LB)), ?_⟩
      dsimp only
      rw [e1]
      exact no_more (b := true) (RB.same g.s) (Nat.le_refl _) (kE _ (Same.refl _))
    clear g8 g9 g7
    -- _law_bad
    refine ⟨_, rfl, _, rfl, _, _, rfl, rfl, ⟨by decide, by decide, by decide⟩, _, _, rfl, rfl, ⟨by decide, by decide, by decide⟩, (by show 5 ≤ sizeLine; decide), fun q hq => ?_⟩
    refine ⟨_, rfl, _, _, rfl, rfl, ⟨by decide, by decide⟩, _, _, rfl, rfl, (by show (0 : Int) < 5; decide), ?_⟩
    have g11 := g10.to (same_new (Same.refl H10) (o := .lst [odd, V.int 2, V.int (-1), V.int (2 ^ (32 : Int).toNat), V.int (10 ^ (30 : Int).toNat)]) hq)
    obtain ⟨bad, ebad, hbad⟩ := pickP (xs := [odd, V.int 2, V.int (-1), V.int (2 ^ (32 : Int).toNat), V.int (10 ^ (30 : Int).toNat)]) (z := (n : Int) / 300 % 5) (R := fun v => Bad K B v 0 1) (by omega) (by show (n : Int) / 300 % 5 < 5; omega) (fun x hx => by
      simp only [List.mem_cons, List.not_mem_nil, or_false] at hx
      rcases hx with rfl | rfl | rfl | rfl | rfl
      · exact OB.bad (by decide)
      · exact .int (.inr (by decide))
      · exact .int (.inl (by decide))
      · exact .int (.inr (by decide))
      · exact .int (.inr (by decide)))
    refine ⟨q, _, _, bad, rfl, rfl, SqL.of upd_same, ebad, ?_⟩
    refine said_ne g11 rfl (fun E1 H1 Q' g kE => ?_) fun H12 g12 => if_f rfl ?_
    · exact ⟨_, rfl, p, dx, _, rfl, g.s _ _ hp, nob (by decide +kernel) (by decide +kernel) (by decide +kernel), _, rfl, no_such (RB.same g.s) (hbad.same g.s) ⟨_, TyN.int _⟩ (kE _ (Same.refl _))⟩
    -- for _law_place in (0, _law_far)
    refine ⟨_, rfl, (by show 2 ≤ sizeLine; decide), fun t ht => ?_⟩
    have sT := same_new (Same.refl B) (o := .tup [V.int 0, V.int far]) (g12.free ht)
    have gT := g12.hold (o := .tup [V.int 0, V.int far]) ht (by intro ps z; cases z)
    have tB : upd B t (.tup [V.int 0, V.int far]) t = some (.tup [V.int 0, V.int far]) := upd_same
    refine ⟨t, rfl, ⟨_, SqT.of upd_same⟩, for_tup (K := K) (xs := [V.int 0, V.int far]) (fun _ σ H' => ∃ v9, σ = [some (.ref a), some (.ref d), some (.ref L), some (.ref p), some (.ref tk), some (nV n), some odd, some (.int far), some bad, v9, none, none, none] ∧ Gn (Tb A) (upd B t (.tup [V.int 0, V.int far])) H')
      ⟨none, rfl, gT⟩ (fun i σ H' _ ⟨_, _, g1⟩ => SqT.of (g1.s _ _ tB)) (fun i x σ H' hi h => ?_) fun σ H' h => ?_⟩
    · obtain ⟨v9, rfl, g1⟩ := h
      obtain ⟨i2, rfl⟩ : ∃ i2, x = V.int i2 := by
        have hx := List.mem_of_getElem? hi
        simp only [List.mem_cons, List.not_mem_nil, or_false] at hx
        rcases hx with rfl | rfl <;> exact ⟨_, rfl⟩
      refine said_ne g1 rfl (fun E1 H1 Q' g kE => ?_) fun H12 g12 => if_f rfl ?_
      · exact ⟨_, rfl, p, dx, _, rfl, g.s _ _ (sT _ _ hp), nob (by decide +kernel) (by decide +kernel) (by decide +kernel), _, rfl, _, rfl, no_putb (RB.same (sT.trans g.s)) (hbad.same (sT.trans g.s)) ⟨_, TyN.int _⟩ (kE _ (Same.refl _))⟩
      exact ⟨_, rfl, g12⟩
    · obtain ⟨v9, rfl, g1⟩ := h
      have g13 := g1.back sT
      clear g12 gT g11 g10 g1
      -- _law_at
      refine ⟨_, rfl, _, _, rfl, rfl, ⟨by decide, by decide⟩, _, rfl, L, _, rfl, .inl (SqL.of (g13.s _ _ LB)), _, _, rfl, rfl, _, _, rfl, rfl, ?_, ?_⟩
      · show (0 : Int) < ((l.map bV).length : Int) + 1
        omega
      obtain ⟨at_, eat, hat⟩ : ∃ at_ : Nat, V.int ((n : Int) / 1500 % (((l.map bV).length : Int) + 1)) = V.int (at_ : Int) ∧ at_ ≤ l.length := by
        have h1 := Int.emod_nonneg ((n : Int) / 1500) (b := ((l.map bV).length : Int) + 1) (by omega)
        have h2 := Int.emod_lt_of_pos ((n : Int) / 1500) (b := ((l.map bV).length : Int) + 1) (by omega)
        rw [hll] at h1 h2 ⊢
        exact ⟨((n : Int) / 1500 % ((l.length : Int) + 1)).toNat, by rw [Int.toNat_of_nonneg h1], by omega⟩
      dsimp only
      rw [eat]
      -- BitRow of a list with something else in it
      refine said_ne g13 rfl (fun E1 H1 Q' g kE => ?_) fun H14 g14 => if_f rfl ?_
      · refine ⟨_, rfl, _, rfl, _, rfl, L, _, rfl, SqL.of (g.s _ _ LB), fun z1 hz1 => ?_⟩
        refine ⟨_, rfl, (by show 1 ≤ sizeLine; decide), fun z2 hz2 => ?_⟩
        have c1 := cutV_length (l.map bV) none (some (at_ : Int))
        have c2 := cutV_length (l.map bV) (some (at_ : Int)) none
        refine ⟨z1, z2, _, _, rfl, rfl, (same_new (Same.refl _) hz2) _ _ upd_same, upd_same, ?_, fun z3 hz3 => ?_⟩
        · exact Nat.le_of_lt (line5 (by rw [List.length_singleton]; omega))
        have t3 := ((same_new (Same.refl H1) (o := .lst (cutV (l.map bV) none (some (at_ : Int)))) hz1).trans (same_new (Same.refl _) (o := .lst [bad]) hz2)).trans (same_new (Same.refl _) (o := .lst (cutV (l.map bV) none (some (at_ : Int)) ++ [bad])) hz3)
        refine ⟨_, rfl, _, rfl, _, rfl, L, _, rfl, SqL.of (t3 _ _ (g.s _ _ LB)), fun z4 hz4 => ?_⟩
        refine ⟨z3, z4, _, _, rfl, rfl, (same_new (Same.refl _) hz4) _ _ upd_same, upd_same, ?_, fun z5 hz5 => fun x dy nx ndy _ => ?_⟩
        · exact Nat.le_of_lt (line5 (by rw [List.length_append, List.length_singleton]; omega))
        have t5 := (t3.trans (same_new (Same.refl _) (o := .lst (cutV (l.map bV) (some (at_ : Int)) none)) hz4)).trans (same_new (Same.refl _) (o := .lst (cutV (l.map bV) none (some (at_ : Int)) ++ [bad] ++ cutV (l.map bV) (some (at_ : Int)) none)) hz5)
        refine no_brow (SqL.of upd_same) (fun y hy => ?_) (.inr ⟨bad, by simp, hbad.2⟩) nx ndy fun H' s' => kE _ (t5.trans s')
        rw [List.append_assoc] at hy
        rcases List.mem_append.mp hy with hy | hy
        · obtain ⟨b, rfl⟩ := rows_bits hy
          exact ⟨_, TyN.int _⟩
        · rcases List.mem_cons.mp hy with rfl | hy
          · exact hbad.1.imp fun _ h => (h.same g.s).same t5
          · obtain ⟨b, rfl⟩ := rows_bits hy
            exact ⟨_, TyN.int _⟩
      -- _law_things
      refine ⟨_, rfl, L, _, rfl, .inl ⟨SqL.of (g14.s _ _ LB), fun t2 ht2 => fun dd hdd => ?_⟩⟩
      refine ⟨(by show 1 ≤ sizeLine; decide), fun z0 hz0 => ⟨z0, _, _, rfl, rfl, upd_same, by decide, by decide, (by show 1 * 4001 ≤ sizeLine; decide), fun z1 hz1 => ?_⟩⟩
      rw [show (List.replicate (4001 : Int).toNat [V.int 0]).flatten = List.replicate 4001 (V.int 0) from List.flatten_replicate_singleton]
      refine ⟨(by show 7 ≤ sizeLine; decide), fun W hW => ?_⟩
      have v1 := same_new (Same.refl H14) (o := .tup (l.map bV)) ht2
      have v2 := same_new (Same.refl _) (o := .dK []) hdd
      have v3 := same_new (Same.refl _) (o := .lst [V.int 0]) hz0
      have v4 := same_new (Same.refl _) (o := .lst (List.replicate 4001 (V.int 0))) hz1
      have v5 := same_new (Same.refl _) (o := .lst [V.non, V.str "01", V.ref t2, V.ref dd, V.int 5, V.bl true, V.ref z1]) hW
      have ft2 := v5 _ _ (v4 _ _ (v3 _ _ (v2 t2 _ upd_same)))
      have fdd := v5 _ _ (v4 _ _ (v3 dd _ upd_same))
      have fz1 := v5 z1 _ upd_same
      have fW := upd_same (H := upd (upd (upd (upd H14 t2 (.tup (l.map bV))) dd (.dK [])) z0 (.lst [V.int 0])) z1 (.lst (List.replicate 4001 (V.int 0)))) (a := W) (o := .lst [V.non, V.str "01", V.ref t2, V.ref dd, V.int 5, V.bl true, V.ref z1])
      obtain ⟨g15, sB⟩ := (g14.to ((((v1.trans v2).trans v3).trans v4).trans v5)).re
      generalize upd (upd (upd (upd (upd H14 t2 (.tup (l.map bV))) dd (.dK [])) z0 (.lst [V.int 0])) z1 (.lst (List.replicate 4001 (V.int 0)))) W (.lst [V.non, V.str "01", V.ref t2, V.ref dd, V.int 5, V.bl true, V.ref z1]) = H15 at g15 sB ft2 fdd fz1 fW
      clear v1 v2 v3 v4 v5 g14 g13
      have ft2 := noT_of ft2 (by intro ps z; cases z)
      have fdd := noT_of fdd (by intro ps z; cases z)
      have fz1 := noT_of fz1 (by intro ps z; cases z)
      have fW := noT_of fW (by intro ps z; cases z)
      generalize noT H15 = B2 at g15 sB ft2 fdd fz1 fW
      refine said_ne g15 rfl (fun E1 H1 Q' g kE => ?_) fun H16 g16 => if_f rfl ?_
      · obtain ⟨v, ev, hv⟩ := pickP (xs := [V.non, V.str "01", V.ref t2, V.ref dd, V.int 5, V.bl true, V.ref z1]) (z := (n : Int) / 7 % 7) (R := fun v => Bar K B2 v) (by omega) (by show (n : Int) / 7 % 7 < 7; omega) (fun x hx => by
          simp only [List.mem_cons, List.not_mem_nil, or_false] at hx
          rcases hx with rfl | rfl | rfl | rfl | rfl | rfl | rfl
          · exact .inl ⟨_, TyN.non, by decide⟩
          · exact .inl ⟨_, TyN.str _, by decide⟩
          · exact .inl ⟨_, TyN.tup (SqT.of ft2), by decide⟩
          · exact .inl ⟨_, TyN.dct fdd, by decide⟩
          · exact .inl ⟨_, TyN.int _, by decide⟩
          · exact .inl ⟨_, TyN.bl _, by decide⟩
          · exact .inr ⟨_, _, rfl, fz1, by rw [List.length_replicate]; decide, fun y hy => List.eq_of_mem_replicate hy⟩)
        refine ⟨_, rfl, _, rfl, _, _, rfl, rfl, ⟨by decide, by decide⟩, _, _, rfl, rfl, (by show (0 : Int) < 7; decide), W, _, _, v, rfl, rfl, SqL.of (g.s _ _ fW), ev, fun x dy nx ndy _ => ?_⟩
        rcases hv.same g.s with ⟨m, h, e⟩ | ⟨a2, xs, rfl, h, e, hx⟩
        · exact no_brow2 h e nx ndy kE
        · exact no_brow (SqL.of h) (fun y hy => by rw [hx y hy]; exact ⟨_, TyN.int _⟩) (.inl e) nx ndy kE
      -- _law_words
      refine ⟨_, rfl, _, _, rfl, rfl, ⟨by decide, by decide, by decide⟩, _, rfl, _, _, rfl, rfl, ⟨by decide, by decide, by decide⟩, _, rfl, _, _, rfl, rfl, (by show 4 ≤ sizeLine; decide), fun W2 hW2 => ?_⟩
      have OB2 := OB.same sB
      obtain ⟨w, ew, hw⟩ := pickP (xs := [odd, V.int (2 ^ (32 : Int).toNat), V.int (-1), V.int (1 * 2 ^ (40 : Int).toNat + (n : Int))]) (z := (n : Int) / 49 % 4) (R := fun v => Bad K B2 v 0 4294967295) (by omega) (by show (n : Int) / 49 % 4 < 4; omega) (fun x hx => by
          simp only [List.mem_cons, List.not_mem_nil, or_false] at hx
          rcases hx with rfl | rfl | rfl | rfl
          · exact OB2.bad (by decide)
          · exact .int (.inr (by decide))
          · exact .int (.inl (by decide))
          · exact .int (.inr (by
              have : (1 : Int) * 2 ^ (40 : Int).toNat = 1099511627776 := by decide
              omega)))
      have sW := same_new (Same.refl B2) (o := .lst [odd, V.int (2 ^ (32 : Int).toNat), V.int (-1), V.int (1 * 2 ^ (40 : Int).toNat + (n : Int))]) (g16.free hW2)
      have g17 := g16.hold (o := .lst [odd, V.int (2 ^ (32 : Int).toNat), V.int (-1), V.int (1 * 2 ^ (40 : Int).toNat + (n : Int))]) hW2 (by intro ps z; cases z)
      refine said_ne g17 rfl (fun E1 H1 Q' g kE => ?_) fun H18 g18 => if_f rfl ?_
      · refine ⟨_, rfl, _, rfl, _, _, rfl, rfl, ⟨by decide, by decide⟩, _, _, rfl, rfl, (by show (0 : Int) < 4; decide), W2, _, _, w, rfl, rfl, SqL.of (g.s _ _ upd_same), ew, ?_⟩
        obtain ⟨⟨m, hm⟩, hw⟩ := (hw.same sW).same g.s
        refine ⟨w, m, rfl, hm, fun _ => kE _ (Same.refl _), fun j ej hj => ?_⟩
        rw [ej, show amongV (nV j) 0 4294967295 = true from among_in (by omega) (by omega)] at hw
        cases hw
      -- the row as it was
      have sK := sB.trans (sW.trans g18.s)
      have hpK := sK _ _ hp
      refine ⟨_, rfl, p, dx, _, rfl, hpK, nob (by decide +kernel) (by decide +kernel) (by decide +kernel), p, l, rfl, RB.same sK, fun u1 H19 s19 _ hu1 => ?_⟩
      refine ⟨_, rfl, p, dx, _, rfl, s19 _ _ hpK, nob (by decide +kernel) (by decide +kernel) (by decide +kernel), p, l, rfl, (RB.same sK).same s19, fun u2 H20 s20 _ hu2 => ?_⟩
      refine ⟨(by show 2 ≤ sizeLine; decide), fun u3 hu3 => ⟨_, rfl, ?_⟩⟩
      have s21 := same_new (Same.refl H20) (o := .tup [V.ref u1, V.ref u2]) hu3
      have sAll := ((sK.trans s19).trans s20).trans s21
      refine eq_data (d := .tuple [natsD (words l), natsD (marks l)]) (Ly.tup (n := 1) fun d hd => ?_) (by decide) (.tup (SqT.of upd_same) (.cons (natsD_dp (SqL.of (s21 _ _ (s20 _ _ hu1)))) (.cons (natsD_dp (SqL.of (s21 _ _ hu2))) .nil)))
        (.tup (SqT.of (sAll _ _ tkB)) (.cons (natsD_dp (SqL.of (sAll _ _ q1B))) (.cons (natsD_dp (SqL.of (sAll _ _ q2B))) .nil))) ⟨_, rfl, if_t rfl ?_⟩
      · simp only [List.mem_cons, List.not_mem_nil, or_false] at hd
        rcases hd with rfl | rfl <;> exact natsD_ly _
      refine ⟨(by show 1 ≤ sizeLine; decide), fun y0 hy0 => ⟨y0, _, _, rfl, rfl, upd_same, by decide, by decide, (by show 1 * 4000 ≤ sizeLine; decide), fun y1 hy1 => fun x dy nx ndy _ => ?_⟩⟩
      have er : (List.replicate (4000 : Int).toNat [V.int 0]).flatten = (List.replicate 4000 false).map bV := by
        rw [show (List.replicate (4000 : Int).toNat [V.int 0]).flatten = List.replicate 4000 (V.int 0) from List.flatten_replicate_singleton, List.map_replicate]
        rfl
      refine mk_brow (l := List.replicate 4000 false) (by rw [← er]; exact SqL.of upd_same) (by rw [List.length_replicate]; decide) nx ndy fun H22 pa2 pb2 s22 _ _ R22 => ⟨rfl, ?_⟩
      obtain ⟨dz, hpz⟩ := R22.ob
      refine ⟨x, dz, _, rfl, hpz, brf_no _ _ _ (by decide +kernel) (by decide +kernel) (by decide +kernel), x, _, rfl, ⟨pa2, pb2, R22⟩, fun m1 H23 s23 _ hm1 => ?_⟩
      rw [marks_none] at hm1
      refine ⟨(by show 1 ≤ sizeLine; decide), fun y2 hy2 => ⟨y2, _, _, rfl, rfl, upd_same, by decide, by decide, (by show 1 * 125 ≤ sizeLine; decide), fun y3 hy3 => ?_⟩⟩
      have er2 : (List.replicate (125 : Int).toNat [V.int 0]).flatten = (List.replicate (wn 4000) 0).map nV := by
        rw [show (List.replicate (125 : Int).toNat [V.int 0]).flatten = List.replicate 125 (V.int 0) from List.flatten_replicate_singleton, List.map_replicate]
        rfl
      rw [er2]
      exact eq_same (SqL.of ((same_new (Same.refl _) hy3) _ _ ((same_new (Same.refl H23) hy2) _ _ hm1))) (SqL.of upd_same) (kQ _)

end
set_option maxHeartbeats 4000000 in
theorem all_mk {l : PySem.W.OpenLaw} {w : World} {K : PySem.W.Frag} {h : Heap} {mg : Str → Option Value} {fa : Addr} {ts : List Addr} (hts : ∀ P ∈ ts, h.get? P = some (PySem.W.tabObj #[])) (X : K.In h) (G : h.Ns mainGlobals mg) (hfa : mg "law" = some (.ref fa))
    {f_is_whole : Addr} {od_is_whole an_is_whole : Option Addr} {sl_is_whole : Array (Option Value)} {oc_is_whole kV_is_whole dc_is_whole pm_is_whole cd_is_whole ct_is_whole : Value}
    {f_is_among : Addr} {od_is_among an_is_among : Option Addr} {sl_is_among : Array (Option Value)} {oc_is_among kV_is_among dc_is_among pm_is_among cd_is_among ct_is_among : Value}
    {f_ones_in : Addr} {od_ones_in an_ones_in : Option Addr} {sl_ones_in : Array (Option Value)} {oc_ones_in kV_ones_in dc_ones_in pm_ones_in cd_ones_in ct_ones_in : Value}
    {f_packed : Addr} {od_packed an_packed : Option Addr} {sl_packed : Array (Option Value)} {oc_packed kV_packed dc_packed pm_packed cd_packed ct_packed : Value}
    {f_B_init : Addr} {od_B_init an_B_init : Option Addr} {sl_B_init : Array (Option Value)} {oc_B_init kV_B_init dc_B_init pm_B_init cd_B_init ct_B_init : Value}
    {f_B_words : Addr} {od_B_words an_B_words : Option Addr} {sl_B_words : Array (Option Value)} {oc_B_words kV_B_words dc_B_words pm_B_words cd_B_words ct_B_words : Value}
    {f_B_marks : Addr} {od_B_marks an_B_marks : Option Addr} {sl_B_marks : Array (Option Value)} {oc_B_marks kV_B_marks dc_B_marks pm_B_marks cd_B_marks ct_B_marks : Value}
    {f_B_bit_at : Addr} {od_B_bit_at an_B_bit_at : Option Addr} {sl_B_bit_at : Array (Option Value)} {oc_B_bit_at kV_B_bit_at dc_B_bit_at pm_B_bit_at cd_B_bit_at ct_B_bit_at : Value}
    {f_B_ones : Addr} {od_B_ones an_B_ones : Option Addr} {sl_B_ones : Array (Option Value)} {oc_B_ones kV_B_ones dc_B_ones pm_B_ones cd_B_ones ct_B_ones : Value}
    {f_B_noughts : Addr} {od_B_noughts an_B_noughts : Option Addr} {sl_B_noughts : Array (Option Value)} {oc_B_noughts kV_B_noughts dc_B_noughts pm_B_noughts cd_B_noughts ct_B_noughts : Value}
    {f_B_place_of : Addr} {od_B_place_of an_B_place_of : Option Addr} {sl_B_place_of : Array (Option Value)} {oc_B_place_of kV_B_place_of dc_B_place_of pm_B_place_of cd_B_place_of ct_B_place_of : Value}
    {f_B_put : Addr} {od_B_put an_B_put : Option Addr} {sl_B_put : Array (Option Value)} {oc_B_put kV_B_put dc_B_put pm_B_put cd_B_put ct_B_put : Value}
    {f__law_next : Addr} {od__law_next an__law_next : Option Addr} {sl__law_next : Array (Option Value)} {oc__law_next kV__law_next dc__law_next pm__law_next cd__law_next ct__law_next : Value}
    {f__law_bits : Addr} {od__law_bits an__law_bits : Option Addr} {sl__law_bits : Array (Option Value)} {oc__law_bits kV__law_bits dc__law_bits pm__law_bits cd__law_bits ct__law_bits : Value}
    {f__law_said : Addr} {od__law_said an__law_said : Option Addr} {sl__law_said : Array (Option Value)} {oc__law_said kV__law_said dc__law_said pm__law_said cd__law_said ct__law_said : Value}
    {f__law_kinds : Addr} {od__law_kinds an__law_kinds : Option Addr} {sl__law_kinds : Array (Option Value)} {oc__law_kinds kV__law_kinds dc__law_kinds pm__law_kinds cd__law_kinds ct__law_kinds : Value}
    {f__law_places_refused : Addr} {od__law_places_refused an__law_places_refused oo__law_places_refused : Option Addr} {sl__law_places_refused sk__law_places_refused : Array (Option Value)} {oc__law_places_refused kV__law_places_refused dc__law_places_refused pm__law_places_refused ct__law_places_refused ck__law_places_refused : Value} {c__law_places_refused P__law_places_refused : Addr} {vs__law_places_refused : Array Value}
    {f_law : Addr} {od_law an_law oo_law : Option Addr} {sl_law sk_law : Array (Option Value)} {oc_law kV_law dc_law pm_law ct_law ck_law : Value} {c_law P_law : Addr} {vs_law : Array Value}
    {cB : Addr}
    {xBadRow : Addr}
    {xNoNumber : Addr}
    {xNoPlace : Addr}
    {xHalfError : Addr}
    {tWORD : Tok}
    {tMOST_BITS : Tok}
    (aB : PySem.W.nsIn K mainGlobals "BitRow" = some (some (.ref cB)))
    (a_is_whole : PySem.W.nsIn K mainGlobals "is_whole" = some (some (.ref f_is_whole)))
    (l_is_whole : K.lookup f_is_whole = some ⟨oc_is_whole, od_is_whole, .func (PySem.W.fnOf "is_whole" "is_whole" (defArgs s_is_whole) (defBody s_is_whole) (defScope s_is_whole) .none kV_is_whole dc_is_whole pm_is_whole an_is_whole cd_is_whole ct_is_whole), sl_is_whole⟩) (k0_is_whole : PySem.W.codeIn K cd_is_whole "is_whole" = true) (kk_is_whole : PySem.W.keepIn K (.ref f_is_whole) = true)
    (a_is_among : PySem.W.nsIn K mainGlobals "is_among" = some (some (.ref f_is_among)))
    (l_is_among : K.lookup f_is_among = some ⟨oc_is_among, od_is_among, .func (PySem.W.fnOf "is_among" "is_among" (defArgs s_is_among) (defBody s_is_among) (defScope s_is_among) .none kV_is_among dc_is_among pm_is_among an_is_among cd_is_among ct_is_among), sl_is_among⟩) (k0_is_among : PySem.W.codeIn K cd_is_among "is_among" = true) (kk_is_among : PySem.W.keepIn K (.ref f_is_among) = true)
    (a_ones_in : PySem.W.nsIn K mainGlobals "ones_in" = some (some (.ref f_ones_in)))
    (l_ones_in : K.lookup f_ones_in = some ⟨oc_ones_in, od_ones_in, .func (PySem.W.fnOf "ones_in" "ones_in" (defArgs s_ones_in) (defBody s_ones_in) (defScope s_ones_in) .none kV_ones_in dc_ones_in pm_ones_in an_ones_in cd_ones_in ct_ones_in), sl_ones_in⟩) (k0_ones_in : PySem.W.codeIn K cd_ones_in "ones_in" = true) (kk_ones_in : PySem.W.keepIn K (.ref f_ones_in) = true)
    (a_packed : PySem.W.nsIn K mainGlobals "packed" = some (some (.ref f_packed)))
    (l_packed : K.lookup f_packed = some ⟨oc_packed, od_packed, .func (PySem.W.fnOf "packed" "packed" (defArgs s_packed) (defBody s_packed) (defScope s_packed) .none kV_packed dc_packed pm_packed an_packed cd_packed ct_packed), sl_packed⟩) (k0_packed : PySem.W.codeIn K cd_packed "packed" = true) (kk_packed : PySem.W.keepIn K (.ref f_packed) = true)
    (a_B_init : PySem.W.findIn K (.ref cB) "__init__" = some (some (.ref f_B_init))) (i_B_init : PySem.W.isFn K (.ref f_B_init) = true)
    (l_B_init : K.lookup f_B_init = some ⟨oc_B_init, od_B_init, .func (PySem.W.fnOf "__init__" "BitRow.__init__" (defArgs s_B_init) (defBody s_B_init) (defScope s_B_init) .none kV_B_init dc_B_init pm_B_init an_B_init cd_B_init ct_B_init), sl_B_init⟩) (k0_B_init : PySem.W.codeIn K cd_B_init "BitRow.__init__" = true) (kk_B_init : PySem.W.keepIn K (.ref f_B_init) = true)
    (a_B_words : PySem.W.findIn K (.ref cB) "words" = some (some (.ref f_B_words))) (i_B_words : PySem.W.isFn K (.ref f_B_words) = true)
    (l_B_words : K.lookup f_B_words = some ⟨oc_B_words, od_B_words, .func (PySem.W.fnOf "words" "BitRow.words" (defArgs s_B_words) (defBody s_B_words) (defScope s_B_words) .none kV_B_words dc_B_words pm_B_words an_B_words cd_B_words ct_B_words), sl_B_words⟩) (k0_B_words : PySem.W.codeIn K cd_B_words "BitRow.words" = true) (kk_B_words : PySem.W.keepIn K (.ref f_B_words) = true)
    (a_B_marks : PySem.W.findIn K (.ref cB) "marks" = some (some (.ref f_B_marks))) (i_B_marks : PySem.W.isFn K (.ref f_B_marks) = true)
    (l_B_marks : K.lookup f_B_marks = some ⟨oc_B_marks, od_B_marks, .func (PySem.W.fnOf "marks" "BitRow.marks" (defArgs s_B_marks) (defBody s_B_marks) (defScope s_B_marks) .none kV_B_marks dc_B_marks pm_B_marks an_B_marks cd_B_marks ct_B_marks), sl_B_marks⟩) (k0_B_marks : PySem.W.codeIn K cd_B_marks "BitRow.marks" = true) (kk_B_marks : PySem.W.keepIn K (.ref f_B_marks) = true)
    (a_B_bit_at : PySem.W.findIn K (.ref cB) "bit_at" = some (some (.ref f_B_bit_at))) (i_B_bit_at : PySem.W.isFn K (.ref f_B_bit_at) = true)
    (l_B_bit_at : K.lookup f_B_bit_at = some ⟨oc_B_bit_at, od_B_bit_at, .func (PySem.W.fnOf "bit_at" "BitRow.bit_at" (defArgs s_B_bit_at) (defBody s_B_bit_at) (defScope s_B_bit_at) .none kV_B_bit_at dc_B_bit_at pm_B_bit_at an_B_bit_at cd_B_bit_at ct_B_bit_at), sl_B_bit_at⟩) (k0_B_bit_at : PySem.W.codeIn K cd_B_bit_at "BitRow.bit_at" = true) (kk_B_bit_at : PySem.W.keepIn K (.ref f_B_bit_at) = true)
    (a_B_ones : PySem.W.findIn K (.ref cB) "ones" = some (some (.ref f_B_ones))) (i_B_ones : PySem.W.isFn K (.ref f_B_ones) = true)
    (l_B_ones : K.lookup f_B_ones = some ⟨oc_B_ones, od_B_ones, .func (PySem.W.fnOf "ones" "BitRow.ones" (defArgs s_B_ones) (defBody s_B_ones) (defScope s_B_ones) .none kV_B_ones dc_B_ones pm_B_ones an_B_ones cd_B_ones ct_B_ones), sl_B_ones⟩) (k0_B_ones : PySem.W.codeIn K cd_B_ones "BitRow.ones" = true) (kk_B_ones : PySem.W.keepIn K (.ref f_B_ones) = true)
    (a_B_noughts : PySem.W.findIn K (.ref cB) "noughts" = some (some (.ref f_B_noughts))) (i_B_noughts : PySem.W.isFn K (.ref f_B_noughts) = true)
    (l_B_noughts : K.lookup f_B_noughts = some ⟨oc_B_noughts, od_B_noughts, .func (PySem.W.fnOf "noughts" "BitRow.noughts" (defArgs s_B_noughts) (defBody s_B_noughts) (defScope s_B_noughts) .none kV_B_noughts dc_B_noughts pm_B_noughts an_B_noughts cd_B_noughts ct_B_noughts), sl_B_noughts⟩) (k0_B_noughts : PySem.W.codeIn K cd_B_noughts "BitRow.noughts" = true) (kk_B_noughts : PySem.W.keepIn K (.ref f_B_noughts) = true)
    (a_B_place_of : PySem.W.findIn K (.ref cB) "place_of" = some (some (.ref f_B_place_of))) (i_B_place_of : PySem.W.isFn K (.ref f_B_place_of) = true)
    (l_B_place_of : K.lookup f_B_place_of = some ⟨oc_B_place_of, od_B_place_of, .func (PySem.W.fnOf "place_of" "BitRow.place_of" (defArgs s_B_place_of) (defBody s_B_place_of) (defScope s_B_place_of) .none kV_B_place_of dc_B_place_of pm_B_place_of an_B_place_of cd_B_place_of ct_B_place_of), sl_B_place_of⟩) (k0_B_place_of : PySem.W.codeIn K cd_B_place_of "BitRow.place_of" = true) (kk_B_place_of : PySem.W.keepIn K (.ref f_B_place_of) = true)
    (a_B_put : PySem.W.findIn K (.ref cB) "put" = some (some (.ref f_B_put))) (i_B_put : PySem.W.isFn K (.ref f_B_put) = true)
    (l_B_put : K.lookup f_B_put = some ⟨oc_B_put, od_B_put, .func (PySem.W.fnOf "put" "BitRow.put" (defArgs s_B_put) (defBody s_B_put) (defScope s_B_put) .none kV_B_put dc_B_put pm_B_put an_B_put cd_B_put ct_B_put), sl_B_put⟩) (k0_B_put : PySem.W.codeIn K cd_B_put "BitRow.put" = true) (kk_B_put : PySem.W.keepIn K (.ref f_B_put) = true)
    (a__law_next : PySem.W.nsIn K mainGlobals "_law_next" = some (some (.ref f__law_next)))
    (l__law_next : K.lookup f__law_next = some ⟨oc__law_next, od__law_next, .func (PySem.W.fnOf "_law_next" "_law_next" (defArgs s__law_next) (defBody s__law_next) (defScope s__law_next) .none kV__law_next dc__law_next pm__law_next an__law_next cd__law_next ct__law_next), sl__law_next⟩) (k0__law_next : PySem.W.codeIn K cd__law_next "_law_next" = true) (kk__law_next : PySem.W.keepIn K (.ref f__law_next) = true)
    (a__law_bits : PySem.W.nsIn K mainGlobals "_law_bits" = some (some (.ref f__law_bits)))
    (l__law_bits : K.lookup f__law_bits = some ⟨oc__law_bits, od__law_bits, .func (PySem.W.fnOf "_law_bits" "_law_bits" (defArgs s__law_bits) (defBody s__law_bits) (defScope s__law_bits) .none kV__law_bits dc__law_bits pm__law_bits an__law_bits cd__law_bits ct__law_bits), sl__law_bits⟩) (k0__law_bits : PySem.W.codeIn K cd__law_bits "_law_bits" = true) (kk__law_bits : PySem.W.keepIn K (.ref f__law_bits) = true)
    (a__law_said : PySem.W.nsIn K mainGlobals "_law_said" = some (some (.ref f__law_said)))
    (l__law_said : K.lookup f__law_said = some ⟨oc__law_said, od__law_said, .func (PySem.W.fnOf "_law_said" "_law_said" (defArgs s__law_said) (defBody s__law_said) (defScope s__law_said) .none kV__law_said dc__law_said pm__law_said an__law_said cd__law_said ct__law_said), sl__law_said⟩) (k0__law_said : PySem.W.codeIn K cd__law_said "_law_said" = true) (kk__law_said : PySem.W.keepIn K (.ref f__law_said) = true)
    (a__law_kinds : PySem.W.nsIn K mainGlobals "_law_kinds" = some (some (.ref f__law_kinds)))
    (l__law_kinds : K.lookup f__law_kinds = some ⟨oc__law_kinds, od__law_kinds, .func (PySem.W.fnOf "_law_kinds" "_law_kinds" (defArgs s__law_kinds) (defBody s__law_kinds) (defScope s__law_kinds) .none kV__law_kinds dc__law_kinds pm__law_kinds an__law_kinds cd__law_kinds ct__law_kinds), sl__law_kinds⟩) (k0__law_kinds : PySem.W.codeIn K cd__law_kinds "_law_kinds" = true) (kk__law_kinds : PySem.W.keepIn K (.ref f__law_kinds) = true)
    (a__law_places_refused : PySem.W.nsIn K mainGlobals "_law_places_refused" = some (some (.ref f__law_places_refused)))
    (l__law_places_refused : K.lookup f__law_places_refused = some ⟨oc__law_places_refused, od__law_places_refused, .func (PySem.W.fnOf "_law_places_refused" "_law_places_refused" (defArgs s__law_places_refused) (defBody s__law_places_refused) (defScope s__law_places_refused) .none kV__law_places_refused dc__law_places_refused pm__law_places_refused an__law_places_refused (.ref c__law_places_refused) ct__law_places_refused), sl__law_places_refused⟩) (k0__law_places_refused : PySem.W.codeIn K (.ref c__law_places_refused) "_law_places_refused" = true) (kk__law_places_refused : PySem.W.keepIn K (.ref f__law_places_refused) = true)
    (a_law : PySem.W.nsIn K mainGlobals "law" = some (some (.ref f_law)))
    (l_law : K.lookup f_law = some ⟨oc_law, od_law, .func (PySem.W.fnOf "law" "law" (defArgs s_law) (defBody s_law) (defScope s_law) .none kV_law dc_law pm_law an_law (.ref c_law) ct_law), sl_law⟩) (k0_law : PySem.W.codeIn K (.ref c_law) "law" = true) (kk_law : PySem.W.keepIn K (.ref f_law) = true)
    (pgB : PySem.W.plainGet K cB Str.empty = true) (hdB : PySem.W.hasDictIn K cB = true) (poB : PySem.W.plainOver K cB = true) (saB : PySem.W.findIn K (.ref cB) "__setattr__" = some (some (.builtin "object.__setattr__"))) (mkB : PySem.W.makesIn K cB = true) (kcB : PySem.W.keepIn K (.ref cB) = true)
    (nB_size : PySem.W.findIn K (.ref cB) "size" = some none)
    (nB_packs : PySem.W.findIn K (.ref cB) "packs" = some none)
    (nB_heads : PySem.W.findIn K (.ref cB) "heads" = some none)
    (aeBadRow : PySem.W.nsIn K mainGlobals "BadRow" = some (some (.ref xBadRow))) (xeBadRow : PySem.W.excIn K xBadRow [.type "ValueError", .type "Exception", .type "BaseException", .type "object"] "ValueError.__new__" = true) (keBadRow : PySem.W.keepIn K (.ref xBadRow) = true) (beBadRow : PySem.W.subIn K (.ref xBadRow) (.type "BaseException") = some true) (teBadRow : PySem.W.typeIn K (.ref xBadRow) = some (.type "type"))
    (aeNoNumber : PySem.W.nsIn K mainGlobals "NoNumber" = some (some (.ref xNoNumber))) (xeNoNumber : PySem.W.excIn K xNoNumber [.type "ValueError", .type "Exception", .type "BaseException", .type "object"] "ValueError.__new__" = true) (keNoNumber : PySem.W.keepIn K (.ref xNoNumber) = true) (beNoNumber : PySem.W.subIn K (.ref xNoNumber) (.type "BaseException") = some true) (teNoNumber : PySem.W.typeIn K (.ref xNoNumber) = some (.type "type"))
    (aeNoPlace : PySem.W.nsIn K mainGlobals "NoPlace" = some (some (.ref xNoPlace))) (xeNoPlace : PySem.W.excIn K xNoPlace [.type "ValueError", .type "Exception", .type "BaseException", .type "object"] "ValueError.__new__" = true) (keNoPlace : PySem.W.keepIn K (.ref xNoPlace) = true) (beNoPlace : PySem.W.subIn K (.ref xNoPlace) (.type "BaseException") = some true) (teNoPlace : PySem.W.typeIn K (.ref xNoPlace) = some (.type "type"))
    (vWORD : PySem.W.nsIn K mainGlobals "WORD" = some (some (.int 32 tWORD)))
    (vMOST_BITS : PySem.W.nsIn K mainGlobals "MOST_BITS" = some (some (.int 4000 tMOST_BITS)))
    (aHE : PySem.W.nsIn K mainGlobals "HalfError" = some (some (.ref xHalfError)))
    (qgBadRow : PySem.W.findIn K (.ref xBadRow) "__getattribute__" = some (some (.builtin "BaseException.__getattribute__")))
    (qkBadRow : PySem.W.findIn K (.ref xBadRow) "__getattr__" = some none)
    (qsBadRow : PySem.W.subIn K (.ref xBadRow) (.type "BaseException") = some true)
    (qdBadRow : PySem.W.hasDictIn K xBadRow = true)
    (qaBadRow : PySem.W.findIn K (.ref xBadRow) "__class__" = some (some (.builtin "object.__class__")))
    (qnBadRow : PySem.W.specialIn K (.builtin "object.__class__") "__get__" = some (some (.builtin "getset_descriptor.__get__")))
    (qtBadRow : PySem.W.takesIn K (.builtin "object.__class__") = some true)
    (qmBadRow : PySem.W.mroIn K xBadRow (.type "object") = some true)
    (kh_BadRow : PySem.W.exmOne K (.ref xBadRow) (.ref xHalfError) = some true)
    (kv_BadRow : PySem.W.kitOne K (.ref xBadRow) (.type "ValueError") = some true)
    (ki0_BadRow : PySem.W.kitOne K (.ref xBadRow) (.ref xBadRow) = some true)
    (ki1_BadRow : PySem.W.kitOne K (.ref xBadRow) (.ref xNoNumber) = some false)
    (ki2_BadRow : PySem.W.kitOne K (.ref xBadRow) (.ref xNoPlace) = some false)
    (qgNoNumber : PySem.W.findIn K (.ref xNoNumber) "__getattribute__" = some (some (.builtin "BaseException.__getattribute__")))
    (qkNoNumber : PySem.W.findIn K (.ref xNoNumber) "__getattr__" = some none)
    (qsNoNumber : PySem.W.subIn K (.ref xNoNumber) (.type "BaseException") = some true)
    (qdNoNumber : PySem.W.hasDictIn K xNoNumber = true)
    (qaNoNumber : PySem.W.findIn K (.ref xNoNumber) "__class__" = some (some (.builtin "object.__class__")))
    (qnNoNumber : PySem.W.specialIn K (.builtin "object.__class__") "__get__" = some (some (.builtin "getset_descriptor.__get__")))
    (qtNoNumber : PySem.W.takesIn K (.builtin "object.__class__") = some true)
    (qmNoNumber : PySem.W.mroIn K xNoNumber (.type "object") = some true)
    (kh_NoNumber : PySem.W.exmOne K (.ref xNoNumber) (.ref xHalfError) = some true)
    (kv_NoNumber : PySem.W.kitOne K (.ref xNoNumber) (.type "ValueError") = some true)
    (ki0_NoNumber : PySem.W.kitOne K (.ref xNoNumber) (.ref xBadRow) = some false)
    (ki1_NoNumber : PySem.W.kitOne K (.ref xNoNumber) (.ref xNoNumber) = some true)
    (ki2_NoNumber : PySem.W.kitOne K (.ref xNoNumber) (.ref xNoPlace) = some false)
    (qgNoPlace : PySem.W.findIn K (.ref xNoPlace) "__getattribute__" = some (some (.builtin "BaseException.__getattribute__")))
    (qkNoPlace : PySem.W.findIn K (.ref xNoPlace) "__getattr__" = some none)
    (qsNoPlace : PySem.W.subIn K (.ref xNoPlace) (.type "BaseException") = some true)
    (qdNoPlace : PySem.W.hasDictIn K xNoPlace = true)
    (qaNoPlace : PySem.W.findIn K (.ref xNoPlace) "__class__" = some (some (.builtin "object.__class__")))
    (qnNoPlace : PySem.W.specialIn K (.builtin "object.__class__") "__get__" = some (some (.builtin "getset_descriptor.__get__")))
    (qtNoPlace : PySem.W.takesIn K (.builtin "object.__class__") = some true)
    (qmNoPlace : PySem.W.mroIn K xNoPlace (.type "object") = some true)
    (kh_NoPlace : PySem.W.exmOne K (.ref xNoPlace) (.ref xHalfError) = some true)
    (kv_NoPlace : PySem.W.kitOne K (.ref xNoPlace) (.type "ValueError") = some true)
    (ki0_NoPlace : PySem.W.kitOne K (.ref xNoPlace) (.ref xBadRow) = some false)
    (ki1_NoPlace : PySem.W.kitOne K (.ref xNoPlace) (.ref xNoNumber) = some false)
    (ki2_NoPlace : PySem.W.kitOne K (.ref xNoPlace) (.ref xNoPlace) = some true)
    (t__law_places_refused : K.lookup c__law_places_refused = some ⟨ck__law_places_refused, oo__law_places_refused, .fields vs__law_places_refused, sk__law_places_refused⟩)
    (v__law_places_refused : vs__law_places_refused[11]? = some (.ref P__law_places_refused))
    (h__law_places_refused : PySem.W.codeHdIn K c__law_places_refused P__law_places_refused = true) (p__law_places_refused : P__law_places_refused ∈ ts) (e__law_places_refused : K.lookup P__law_places_refused = none)
    (t_law : K.lookup c_law = some ⟨ck_law, oo_law, .fields vs_law, sk_law⟩)
    (v_law : vs_law[11]? = some (.ref P_law))
    (h_law : PySem.W.codeHdIn K c_law P_law = true) (p_law : P_law ∈ ts) (e_law : K.lookup P_law = none)
    (n_0_1 : P__law_places_refused ≠ P_law)
    (z_isinstance : PySem.W.nsIn K mainGlobals "isinstance" = some none)
    (z_int : PySem.W.nsIn K mainGlobals "int" = some none)
    (z_bool : PySem.W.nsIn K mainGlobals "bool" = some none)
    (z_list : PySem.W.nsIn K mainGlobals "list" = some none)
    (z_tuple : PySem.W.nsIn K mainGlobals "tuple" = some none)
    (z_len : PySem.W.nsIn K mainGlobals "len" = some none)
    (z_enumerate : PySem.W.nsIn K mainGlobals "enumerate" = some none)
    (z_range : PySem.W.nsIn K mainGlobals "range" = some none)
    (z_all : PySem.W.nsIn K mainGlobals "all" = some none)
    (z_sum : PySem.W.nsIn K mainGlobals "sum" = some none)
    (z_ValueError : PySem.W.nsIn K mainGlobals "ValueError" = some none)
    : LamX.LawAtS l w K CX0 20 63 "_law_script" mg fa h := by
  have e := hfa.symm.trans (PySem.W.mg_of X G a_law)
  cases e
  have F_is_whole := fun_mk (st := s_is_whole) l_is_whole k0_is_whole kk_is_whole
  have F_is_among := fun_mk (st := s_is_among) l_is_among k0_is_among kk_is_among
  have F_ones_in := fun_mk (st := s_ones_in) l_ones_in k0_ones_in kk_ones_in
  have F_packed := fun_mk (st := s_packed) l_packed k0_packed kk_packed
  have F_B_init := fun_mk (st := s_B_init) l_B_init k0_B_init kk_B_init
  have F_B_words := fun_mk (st := s_B_words) l_B_words k0_B_words kk_B_words
  have F_B_marks := fun_mk (st := s_B_marks) l_B_marks k0_B_marks kk_B_marks
  have F_B_bit_at := fun_mk (st := s_B_bit_at) l_B_bit_at k0_B_bit_at kk_B_bit_at
  have F_B_ones := fun_mk (st := s_B_ones) l_B_ones k0_B_ones kk_B_ones
  have F_B_noughts := fun_mk (st := s_B_noughts) l_B_noughts k0_B_noughts kk_B_noughts
  have F_B_place_of := fun_mk (st := s_B_place_of) l_B_place_of k0_B_place_of kk_B_place_of
  have F_B_put := fun_mk (st := s_B_put) l_B_put k0_B_put kk_B_put
  have F__law_next := fun_mk (st := s__law_next) l__law_next k0__law_next kk__law_next
  have F__law_bits := fun_mk (st := s__law_bits) l__law_bits k0__law_bits kk__law_bits
  have F__law_said := fun_mk (st := s__law_said) l__law_said k0__law_said kk__law_said
  have F__law_kinds := fun_mk (st := s__law_kinds) l__law_kinds k0__law_kinds kk__law_kinds
  have F__law_places_refused := fun_mk (st := s__law_places_refused) l__law_places_refused k0__law_places_refused kk__law_places_refused
  have F_law := fun_mk (st := s_law) l_law k0_law kk_law
  have T : Tx K mg ⟨f_is_whole, _, f_is_among, _, f_ones_in, _, f_packed, _, f_B_init, _, f_B_words, _, f_B_marks, _, f_B_bit_at, _, f_B_ones, _, f_B_noughts, _, f_B_place_of, _, f_B_put, _, f__law_next, _, f__law_bits, _, f__law_said, _, f__law_kinds, _, f__law_places_refused, _, fa, _, cB, xBadRow, xNoNumber, xNoPlace, xHalfError, c__law_places_refused, P__law_places_refused, c_law, P_law⟩ := ⟨⟨F_is_whole, F_is_whole.binds (ps := ["thing"]) fun _ _ _ _ _ _ us hl => match us, hl with | [_], _ => rfl, PySem.W.mg_of X G a_is_whole⟩,
    ⟨F_is_among, F_is_among.binds (ps := ["thing", "least", "most"]) fun _ _ _ _ _ _ us hl => match us, hl with | [_, _, _], _ => rfl, PySem.W.mg_of X G a_is_among⟩,
    ⟨F_ones_in, F_ones_in.binds (ps := ["word"]) fun _ _ _ _ _ _ us hl => match us, hl with | [_], _ => rfl, PySem.W.mg_of X G a_ones_in⟩,
    ⟨F_packed, F_packed.binds (ps := ["bits"]) fun _ _ _ _ _ _ us hl => match us, hl with | [_], _ => rfl, PySem.W.mg_of X G a_packed⟩,
    ⟨F_B_init, F_B_init.binds (ps := ["self", "bits"]) fun _ _ _ _ _ _ us hl => match us, hl with | [_, _], _ => rfl, ⟨a_B_init, i_B_init, kk_B_init⟩⟩,
    ⟨F_B_words, F_B_words.binds (ps := ["self"]) fun _ _ _ _ _ _ us hl => match us, hl with | [_], _ => rfl, ⟨a_B_words, i_B_words, kk_B_words⟩⟩,
    ⟨F_B_marks, F_B_marks.binds (ps := ["self"]) fun _ _ _ _ _ _ us hl => match us, hl with | [_], _ => rfl, ⟨a_B_marks, i_B_marks, kk_B_marks⟩⟩,
    ⟨F_B_bit_at, F_B_bit_at.binds (ps := ["self", "place"]) fun _ _ _ _ _ _ us hl => match us, hl with | [_, _], _ => rfl, ⟨a_B_bit_at, i_B_bit_at, kk_B_bit_at⟩⟩,
    ⟨F_B_ones, F_B_ones.binds (ps := ["self", "place"]) fun _ _ _ _ _ _ us hl => match us, hl with | [_, _], _ => rfl, ⟨a_B_ones, i_B_ones, kk_B_ones⟩⟩,
    ⟨F_B_noughts, F_B_noughts.binds (ps := ["self", "place"]) fun _ _ _ _ _ _ us hl => match us, hl with | [_, _], _ => rfl, ⟨a_B_noughts, i_B_noughts, kk_B_noughts⟩⟩,
    ⟨F_B_place_of, F_B_place_of.binds (ps := ["self", "bit", "turn"]) fun _ _ _ _ _ _ us hl => match us, hl with | [_, _, _], _ => rfl, ⟨a_B_place_of, i_B_place_of, kk_B_place_of⟩⟩,
    ⟨F_B_put, F_B_put.binds (ps := ["self", "place", "bit"]) fun _ _ _ _ _ _ us hl => match us, hl with | [_, _, _], _ => rfl, ⟨a_B_put, i_B_put, kk_B_put⟩⟩,
    ⟨F__law_next, F__law_next.binds (ps := ["_law_state"]) fun _ _ _ _ _ _ us hl => match us, hl with | [_], _ => rfl, PySem.W.mg_of X G a__law_next⟩,
    ⟨F__law_bits, F__law_bits.binds (ps := ["_law_state"]) fun _ _ _ _ _ _ us hl => match us, hl with | [_], _ => rfl, PySem.W.mg_of X G a__law_bits⟩,
    ⟨F__law_said, F__law_said.binds (ps := ["_law_worker"]) fun _ _ _ _ _ _ us hl => match us, hl with | [_], _ => rfl, PySem.W.mg_of X G a__law_said⟩,
    ⟨F__law_kinds, F__law_kinds.binds (ps := ["_law_n"]) fun _ _ _ _ _ _ us hl => match us, hl with | [_], _ => rfl, PySem.W.mg_of X G a__law_kinds⟩,
    ⟨F__law_places_refused, F__law_places_refused.binds (ps := ["_law_row", "_law_many", "_law_odd", "_law_far", "_law_bit"]) fun _ _ _ _ _ _ us hl => match us, hl with | [_, _, _, _, _], _ => rfl, PySem.W.mg_of X G a__law_places_refused⟩,
    ⟨F_law, F_law.binds (ps := ["_law_script"]) fun _ _ _ _ _ _ us hl => match us, hl with | [_], _ => rfl, PySem.W.mg_of X G a_law⟩,
    ⟨pgB, hdB, poB, saB⟩,
    ⟨mkB, a_B_init, i_B_init, kcB⟩,
    PySem.W.mg_of X G aB,
    nB_size,
    nB_packs,
    nB_heads,
    ⟨PySem.W.mg_of X G aeBadRow, xeBadRow, keBadRow, beBadRow, teBadRow⟩,
    ⟨PySem.W.mg_of X G aeNoNumber, xeNoNumber, keNoNumber, beNoNumber, teNoNumber⟩,
    ⟨PySem.W.mg_of X G aeNoPlace, xeNoPlace, keNoPlace, beNoPlace, teNoPlace⟩,
    ⟨_, PySem.W.mg_of X G vWORD⟩,
    ⟨_, PySem.W.mg_of X G vMOST_BITS⟩,
    PySem.W.mg_none_of X G z_isinstance,
    PySem.W.mg_none_of X G z_int,
    PySem.W.mg_none_of X G z_bool,
    PySem.W.mg_none_of X G z_list,
    PySem.W.mg_none_of X G z_tuple,
    PySem.W.mg_none_of X G z_len,
    PySem.W.mg_none_of X G z_enumerate,
    PySem.W.mg_none_of X G z_range,
    PySem.W.mg_none_of X G z_all,
    PySem.W.mg_none_of X G z_sum,
    PySem.W.mg_none_of X G z_ValueError,
    PySem.W.mg_of X G aHE,
    ⟨⟨qgBadRow, qkBadRow, qsBadRow, qdBadRow, qaBadRow, qnBadRow, qtBadRow, qmBadRow⟩, kh_BadRow, ki0_BadRow, ki1_BadRow, ki2_BadRow, kv_BadRow⟩,
    ⟨⟨qgNoNumber, qkNoNumber, qsNoNumber, qdNoNumber, qaNoNumber, qnNoNumber, qtNoNumber, qmNoNumber⟩, kh_NoNumber, ki0_NoNumber, ki1_NoNumber, ki2_NoNumber, kv_NoNumber⟩,
    ⟨⟨qgNoPlace, qkNoPlace, qsNoPlace, qdNoPlace, qaNoPlace, qnNoPlace, qtNoPlace, qmNoPlace⟩, kh_NoPlace, ki0_NoPlace, ki1_NoPlace, ki2_NoPlace, kv_NoPlace⟩,
    rfl,
    rfl,
    n_0_1⟩
  refine ⟨_, [(c__law_places_refused, P__law_places_refused), (c_law, P_law)], spLawT K _, ?_, ?_, ?_, fun s v => .of_eq rfl, ?_, fun base _ _ hB => ok_law T ⟨hB (c__law_places_refused, P__law_places_refused) (by simp), hB (c_law, P_law) (by simp)⟩⟩
  · intro p hp
    simp only [List.mem_cons, List.not_mem_nil, or_false] at hp
    rcases hp with rfl | rfl
    · exact hts _ p__law_places_refused
    · exact hts _ p_law
  · intro p hp
    simp only [List.mem_cons, List.not_mem_nil, or_false] at hp
    rcases hp with rfl | rfl
    · exact e__law_places_refused
    · exact e_law
  · intro p hp
    simp only [List.mem_cons, List.not_mem_nil, or_false] at hp
    rcases hp with rfl | rfl
    · exact PySem.W.codeHd_of_K X h__law_places_refused
    · exact PySem.W.codeHd_of_K X h_law
  · intro H a ns hl _ hH hS
    refine ⟨a, ns, rfl, hS, hl, fun p hp => ?_, fun _ => rfl⟩
    unfold Tb at hp
    simp only [List.mem_cons, List.not_mem_nil, or_false] at hp
    rcases hp with rfl | rfl
    · exact LamX.TabS.nil (hH (c__law_places_refused, P__law_places_refused) (by simp))
    · exact LamX.TabS.nil (hH (c_law, P_law) (by simp))
end Hf
open PySem PySem.W PyProof.Rows
set_option maxRecDepth 100000 in
set_option maxHeartbeats 0 in
theorem PySem.Challenge.cw_halfrows_k03_bits_refused_holds : PySem.Challenge.rw_halfrows_k03_bits_refused.Holds := by
  w_on; o_law; k_head; (case hw => w_witness2)
  k_fill
  refine LamX.walk_ofTs (l := PySem.Challenge.rw_halfrows_k03_bits_refused) (n := 63) (k := 20) (x := "_law_script") (CX := fun _ => L2.CX0) rfl (by decide) rfl ⟨rfl, by decide, by decide⟩ (fun w h Y => PySem.W.km_in_of Y) ?F (fun _ _ _ _ _ z => z)
  case F =>
    intro w mg fa h Y KX G hmg
    refine' Hf.all_mk (PySem.W.km_tabs_of Y) KX G hmg ?aB ?a_is_whole ?l_is_whole ?k0_is_whole ?kk_is_whole ?a_is_among ?l_is_among ?k0_is_among ?kk_is_among ?a_ones_in ?l_ones_in ?k0_ones_in ?kk_ones_in ?a_packed ?l_packed ?k0_packed ?kk_packed ?a_B_init ?i_B_init ?l_B_init ?k0_B_init ?kk_B_init ?a_B_words ?i_B_words ?l_B_words ?k0_B_words ?kk_B_words ?a_B_marks ?i_B_marks ?l_B_marks ?k0_B_marks ?kk_B_marks ?a_B_bit_at ?i_B_bit_at ?l_B_bit_at ?k0_B_bit_at ?kk_B_bit_at ?a_B_ones ?i_B_ones ?l_B_ones ?k0_B_ones ?kk_B_ones ?a_B_noughts ?i_B_noughts ?l_B_noughts ?k0_B_noughts ?kk_B_noughts ?a_B_place_of ?i_B_place_of ?l_B_place_of ?k0_B_place_of ?kk_B_place_of ?a_B_put ?i_B_put ?l_B_put ?k0_B_put ?kk_B_put ?a__law_next ?l__law_next ?k0__law_next ?kk__law_next ?a__law_bits ?l__law_bits ?k0__law_bits ?kk__law_bits ?a__law_said ?l__law_said ?k0__law_said ?kk__law_said ?a__law_kinds ?l__law_kinds ?k0__law_kinds ?kk__law_kinds ?a__law_places_refused ?l__law_places_refused ?k0__law_places_refused ?kk__law_places_refused ?a_law ?l_law ?k0_law ?kk_law ?pgB ?hdB ?poB ?saB ?mkB ?kcB ?nB_size ?nB_packs ?nB_heads ?aeBadRow ?xeBadRow ?keBadRow ?beBadRow ?teBadRow ?aeNoNumber ?xeNoNumber ?keNoNumber ?beNoNumber ?teNoNumber ?aeNoPlace ?xeNoPlace ?keNoPlace ?beNoPlace ?teNoPlace ?vWORD ?vMOST_BITS ?aHE ?qgBadRow ?qkBadRow ?qsBadRow ?qdBadRow ?qaBadRow ?qnBadRow ?qtBadRow ?qmBadRow ?kh_BadRow ?kv_BadRow ?ki0_BadRow ?ki1_BadRow ?ki2_BadRow ?qgNoNumber ?qkNoNumber ?qsNoNumber ?qdNoNumber ?qaNoNumber ?qnNoNumber ?qtNoNumber ?qmNoNumber ?kh_NoNumber ?kv_NoNumber ?ki0_NoNumber ?ki1_NoNumber ?ki2_NoNumber ?qgNoPlace ?qkNoPlace ?qsNoPlace ?qdNoPlace ?qaNoPlace ?qnNoPlace ?qtNoPlace ?qmNoPlace ?kh_NoPlace ?kv_NoPlace ?ki0_NoPlace ?ki1_NoPlace ?ki2_NoPlace ?t__law_places_refused ?v__law_places_refused ?h__law_places_refused ?p__law_places_refused ?e__law_places_refused ?t_law ?v_law ?h_law ?p_law ?e_law ?n_0_1 ?z_isinstance ?z_int ?z_bool ?z_list ?z_tuple ?z_len ?z_enumerate ?z_range ?z_all ?z_sum ?z_ValueError
    (case aB => k_is)
    (case a_is_whole => k_is)
    (case l_is_whole => k_is)
    (case k0_is_whole => k_is)
    (case kk_is_whole => k_is)
    (case a_is_among => k_is)
    (case l_is_among => k_is)
    (case k0_is_among => k_is)
    (case kk_is_among => k_is)
    (case a_ones_in => k_is)
    (case l_ones_in => k_is)
    (case k0_ones_in => k_is)
    (case kk_ones_in => k_is)
    (case a_packed => k_is)
    (case l_packed => k_is)
    (case k0_packed => k_is)
    (case kk_packed => k_is)
    (case a_B_init => k_is)
    (case i_B_init => k_is)
    (case l_B_init => k_is)
    (case k0_B_init => k_is)
    (case kk_B_init => k_is)
    (case a_B_words => k_is)
    (case i_B_words => k_is)
    (case l_B_words => k_is)
    (case k0_B_words => k_is)
    (case kk_B_words => k_is)
    (case a_B_marks => k_is)
    (case i_B_marks => k_is)
    (case l_B_marks => k_is)
    (case k0_B_marks => k_is)
    (case kk_B_marks => k_is)
    (case a_B_bit_at => k_is)
    (case i_B_bit_at => k_is)
    (case l_B_bit_at => k_is)
    (case k0_B_bit_at => k_is)
    (case kk_B_bit_at => k_is)
    (case a_B_ones => k_is)
    (case i_B_ones => k_is)
    (case l_B_ones => k_is)
    (case k0_B_ones => k_is)
    (case kk_B_ones => k_is)
    (case a_B_noughts => k_is)
    (case i_B_noughts => k_is)
    (case l_B_noughts => k_is)
    (case k0_B_noughts => k_is)
    (case kk_B_noughts => k_is)
    (case a_B_place_of => k_is)
    (case i_B_place_of => k_is)
    (case l_B_place_of => k_is)
    (case k0_B_place_of => k_is)
    (case kk_B_place_of => k_is)
    (case a_B_put => k_is)
    (case i_B_put => k_is)
    (case l_B_put => k_is)
    (case k0_B_put => k_is)
    (case kk_B_put => k_is)
    (case a__law_next => k_is)
    (case l__law_next => k_is)
    (case k0__law_next => k_is)
    (case kk__law_next => k_is)
    (case a__law_bits => k_is)
    (case l__law_bits => k_is)
    (case k0__law_bits => k_is)
    (case kk__law_bits => k_is)
    (case a__law_said => k_is)
    (case l__law_said => k_is)
    (case k0__law_said => k_is)
    (case kk__law_said => k_is)
    (case a__law_kinds => k_is)
    (case l__law_kinds => k_is)
    (case k0__law_kinds => k_is)
    (case kk__law_kinds => k_is)
    (case a__law_places_refused => k_is)
    (case l__law_places_refused => k_is)
    (case k0__law_places_refused => k_is)
    (case kk__law_places_refused => k_is)
    (case a_law => k_is)
    (case l_law => k_is)
    (case k0_law => k_is)
    (case kk_law => k_is)
    (case pgB => k_is)
    (case hdB => k_is)
    (case poB => k_is)
    (case saB => k_is)
    (case mkB => k_is)
    (case kcB => k_is)
    (case nB_size => k_is)
    (case nB_packs => k_is)
    (case nB_heads => k_is)
    (case aeBadRow => k_is)
    (case xeBadRow => k_exc)
    (case keBadRow => k_is)
    (case beBadRow => k_is)
    (case teBadRow => k_is)
    (case aeNoNumber => k_is)
    (case xeNoNumber => k_exc)
    (case keNoNumber => k_is)
    (case beNoNumber => k_is)
    (case teNoNumber => k_is)
    (case aeNoPlace => k_is)
    (case xeNoPlace => k_exc)
    (case keNoPlace => k_is)
    (case beNoPlace => k_is)
    (case teNoPlace => k_is)
    (case vWORD => k_is)
    (case vMOST_BITS => k_is)
    (case aHE => k_is)
    (case qgBadRow => k_is)
    (case qkBadRow => k_is)
    (case qsBadRow => k_is)
    (case qdBadRow => k_is)
    (case qaBadRow => k_is)
    (case qnBadRow => k_is)
    (case qtBadRow => k_is)
    (case qmBadRow => k_is)
    (case kh_BadRow => kernel_rfl)
    (case kv_BadRow => kernel_rfl)
    (case ki0_BadRow => kernel_rfl)
    (case ki1_BadRow => kernel_rfl)
    (case ki2_BadRow => kernel_rfl)
    (case qgNoNumber => k_is)
    (case qkNoNumber => k_is)
    (case qsNoNumber => k_is)
    (case qdNoNumber => k_is)
    (case qaNoNumber => k_is)
    (case qnNoNumber => k_is)
    (case qtNoNumber => k_is)
    (case qmNoNumber => k_is)
    (case kh_NoNumber => kernel_rfl)
    (case kv_NoNumber => kernel_rfl)
    (case ki0_NoNumber => kernel_rfl)
    (case ki1_NoNumber => kernel_rfl)
    (case ki2_NoNumber => kernel_rfl)
    (case qgNoPlace => k_is)
    (case qkNoPlace => k_is)
    (case qsNoPlace => k_is)
    (case qdNoPlace => k_is)
    (case qaNoPlace => k_is)
    (case qnNoPlace => k_is)
    (case qtNoPlace => k_is)
    (case qmNoPlace => k_is)
    (case kh_NoPlace => kernel_rfl)
    (case kv_NoPlace => kernel_rfl)
    (case ki0_NoPlace => kernel_rfl)
    (case ki1_NoPlace => kernel_rfl)
    (case ki2_NoPlace => kernel_rfl)
    (case t__law_places_refused => k_is)
    (case v__law_places_refused => rfl)
    (case h__law_places_refused => kernel_rfl)
    (case p__law_places_refused => k_mem)
    (case e__law_places_refused => kernel_rfl)
    (case t_law => k_is)
    (case v_law => rfl)
    (case h_law => kernel_rfl)
    (case p_law => k_mem)
    (case e_law => kernel_rfl)
    (case n_0_1 => decide)
    (case z_isinstance => k_is)
    (case z_int => k_is)
    (case z_bool => k_is)
    (case z_list => k_is)
    (case z_tuple => k_is)
    (case z_len => k_is)
    (case z_enumerate => k_is)
    (case z_range => k_is)
    (case z_all => k_is)
    (case z_sum => k_is)
    (case z_ValueError => k_is)
