import PyProof.Rows.All
import Wide.All
import OpenK.AllK
import Wide.FinOn
import HandS.ForMost
import HandS.ForExc
import HandS.IsInst
import HandS.Walk
import HandS.Rev
import HandS.RevRange
import HandS.SetFor
import HandS.Deep
import HandS.Wide
import HandS.ExcIs
import HandS.Lambda
import HandS.EndTab
import KE.KLam
import KE.KNestM
import PySem.Challenge.RW_halfrows_k07_rows_refused
set_option Elab.async false
set_option maxRecDepth 100000
set_option linter.all false
namespace Hf
/-! Plain lists of bits: words of 32, marks, ones counted. -/
def wordOf : List Bool → Nat
  | [] => 0
  | b :: l => b.toNat + 2 * wordOf l
def cnt (l : List Bool) : Nat := l.count true
def popc : Nat → Nat → Nat
  | 0, _ => 0
  | k + 1, w => w % 2 + popc k (w / 2)

theorem toNat_lt2 (b : Bool) : b.toNat < 2 := by cases b <;> decide
theorem wordOf_lt : ∀ l : List Bool, wordOf l < 2 ^ l.length
  | [] => by decide
  | b :: l => by
    have h := wordOf_lt l
    have hb := toNat_lt2 b
    rw [List.length_cons, Nat.pow_succ]
    show b.toNat + 2 * wordOf l < _
    omega
theorem wordOf_app : ∀ l m : List Bool, wordOf (l ++ m) = wordOf l + 2 ^ l.length * wordOf m
  | [], m => by simp [wordOf]
  | b :: l, m => by
    have h := wordOf_app l m
    show b.toNat + 2 * wordOf (l ++ m) = b.toNat + 2 * wordOf l + _
    rw [h, List.length_cons, Nat.pow_succ, Nat.mul_add, Nat.add_assoc]
    congr 2
    rw [← Nat.mul_assoc, Nat.mul_comm 2]
theorem wordOf_bit : ∀ (l : List Bool) (i : Nat), wordOf l / 2 ^ i % 2 = (l.getD i false).toNat
  | [], i => by simp [wordOf]
  | b :: l, 0 => by
    have hb := toNat_lt2 b
    show (b.toNat + 2 * wordOf l) / 2 ^ 0 % 2 = b.toNat
    omega
  | b :: l, i + 1 => by
    have h := wordOf_bit l i
    have hb := toNat_lt2 b
    have e : (b.toNat + 2 * wordOf l) / 2 ^ (i + 1) = wordOf l / 2 ^ i := by
      have e2 : (b.toNat + 2 * wordOf l) / 2 = wordOf l := by omega
      rw [Nat.pow_succ', ← Nat.div_div_eq_div_mul, e2]
    show (b.toNat + 2 * wordOf l) / 2 ^ (i + 1) % 2 = (l.getD i false).toNat
    rw [e, h]
theorem wordOf_mod : ∀ (l : List Bool) (k : Nat), wordOf l % 2 ^ k = wordOf (l.take k) := by
  intro l k
  by_cases h : k ≤ l.length
  · have e : wordOf l = wordOf (l.take k) + 2 ^ k * wordOf (l.drop k) := by
      have := wordOf_app (l.take k) (l.drop k)
      rw [List.take_append_drop, List.length_take, Nat.min_eq_left h] at this
      exact this
    have lt := wordOf_lt (l.take k)
    rw [List.length_take, Nat.min_eq_left h] at lt
    rw [e, Nat.add_mul_mod_self_left, Nat.mod_eq_of_lt lt]
  · have h' : l.length ≤ k := by omega
    rw [List.take_of_length_le h']
    exact Nat.mod_eq_of_lt (Nat.lt_of_lt_of_le (wordOf_lt l) (Nat.pow_le_pow_right (by decide) h'))
theorem popc_zero : ∀ k, popc k 0 = 0
  | 0 => rfl
  | k + 1 => by show 0 % 2 + popc k (0 / 2) = 0; rw [Nat.zero_div, popc_zero k]
theorem cnt_cons (b : Bool) (l : List Bool) : cnt (b :: l) = b.toNat + cnt l := by
  cases b <;> simp [cnt] <;> omega
theorem cnt_app (l m : List Bool) : cnt (l ++ m) = cnt l + cnt m := List.count_append ..
theorem cnt_le (l : List Bool) : cnt l ≤ l.length := List.count_le_length ..
theorem popc_wordOf : ∀ (l : List Bool) (k : Nat), l.length ≤ k → popc k (wordOf l) = cnt l
  | [], k, _ => popc_zero k
  | b :: l, 0, h => by simp at h
  | b :: l, k + 1, h => by
    have hb := toNat_lt2 b
    have ih := popc_wordOf l k (by simpa using h)
    show (b.toNat + 2 * wordOf l) % 2 + popc k ((b.toNat + 2 * wordOf l) / 2) = _
    have e1 : (b.toNat + 2 * wordOf l) % 2 = b.toNat := by omega
    have e2 : (b.toNat + 2 * wordOf l) / 2 = wordOf l := by omega
    rw [e1, e2, ih, cnt_cons]
theorem popc_add : ∀ (a b w : Nat), popc (a + b) w = popc a (w % 2 ^ a) + popc b (w / 2 ^ a)
  | 0, b, w => by simp [popc]
  | a + 1, b, w => by
    have h := popc_add a b (w / 2)
    have e : a + 1 + b = (a + b) + 1 := by omega
    rw [e]
    show w % 2 + popc (a + b) (w / 2) = (w % 2 ^ (a + 1) % 2 + popc a (w % 2 ^ (a + 1) / 2)) + popc b (w / 2 ^ (a + 1))
    have e1 : w % 2 ^ (a + 1) % 2 = w % 2 := Nat.mod_mod_of_dvd _ ⟨2 ^ a, by rw [Nat.pow_succ, Nat.mul_comm]⟩
    have e2 : w % 2 ^ (a + 1) / 2 = w / 2 % 2 ^ a := by
      rw [Nat.pow_succ, Nat.mul_comm, Nat.mod_mul_right_div_self]
    have e3 : w / 2 ^ (a + 1) = w / 2 / 2 ^ a := by rw [Nat.pow_succ, Nat.mul_comm, Nat.div_div_eq_div_mul]
    rw [e1, e2, e3, h]
    omega

/-! ### the bits of a word counted side by side -/
theorem and_split {x m y n : Nat} (hx : x < 256) (hm : m < 256) : (x + 256 * y) &&& (m + 256 * n) = (x &&& m) + 256 * (y &&& n) := by
  have h1 : x + 256 * y = 2 ^ 8 * y + x := by omega
  have h2 : m + 256 * n = 2 ^ 8 * n + m := by omega
  have h3 : (x &&& m) + 256 * (y &&& n) = 2 ^ 8 * (y &&& n) + (x &&& m) := by omega
  have hxm : x &&& m < 2 ^ 8 := Nat.lt_of_le_of_lt Nat.and_le_left hx
  rw [h1, h2, h3]
  apply Nat.eq_of_testBit_eq
  intro i
  rw [Nat.testBit_and, Nat.testBit_two_pow_mul_add _ hx, Nat.testBit_two_pow_mul_add _ hm, Nat.testBit_two_pow_mul_add _ hxm]
  split <;> rw [Nat.testBit_and]
def ga (x : Nat) : Nat := x - (x / 2 &&& 0x55)
def gb (x : Nat) : Nat := (ga x &&& 0x33) + (ga x / 4 &&& 0x33)
def gc (x : Nat) : Nat := (gb x + gb x / 16) &&& 0x0F
theorem t1 : ∀ x : Fin 256, ∀ t : Fin 2, ((x.val / 2 + 128 * t.val) &&& 0x55) = (x.val / 2 &&& 0x55) := by decide +kernel
theorem t2 : ∀ x : Fin 256, (x.val / 2 &&& 0x55) ≤ x.val := by decide +kernel
theorem t3 : ∀ x : Fin 256, ∀ t : Fin 4, ((x.val / 4 + 64 * t.val) &&& 0x33) = (x.val / 4 &&& 0x33) := by decide +kernel
theorem t4 : ∀ x : Fin 256, ga x.val < 256 := by decide +kernel
theorem t5 : ∀ x : Fin 256, gb x.val ≤ 0x44 ∧ gb x.val % 16 ≤ 4 := by decide +kernel
theorem t6 : ∀ x : Fin 256, gc x.val = popc 8 x.val ∧ gc x.val ≤ 8 := by decide +kernel
theorem t7 : ∀ x : Fin 256, ∀ t : Fin 8, ((x.val + 16 * t.val) &&& 0x0F) = (x.val &&& 0x0F) := by decide +kernel
theorem s1 {x y n : Nat} (hx : x < 256) : (x + 256 * y) / 2 &&& (0x55 + 256 * n) = (x / 2 &&& 0x55) + 256 * (y / 2 &&& n) := by
  have e : (x + 256 * y) / 2 = (x / 2 + 128 * (y % 2)) + 256 * (y / 2) := by omega
  rw [e, and_split (by omega) (by decide), t1 ⟨x, hx⟩ ⟨y % 2, by omega⟩]
theorem s3 {x y n : Nat} (hx : x < 256) : (x + 256 * y) / 4 &&& (0x33 + 256 * n) = (x / 4 &&& 0x33) + 256 * (y / 4 &&& n) := by
  have e : (x + 256 * y) / 4 = (x / 4 + 64 * (y % 4)) + 256 * (y / 4) := by omega
  rw [e, and_split (by omega) (by decide), t3 ⟨x, hx⟩ ⟨y % 4, by omega⟩]
theorem s5 {x y n : Nat} (hx : x ≤ 0x44) (hy : y % 16 ≤ 4) : (x + 256 * y) + (x + 256 * y) / 16 &&& (0x0F + 256 * n) = ((x + x / 16) &&& 0x0F) + 256 * ((y + y / 16) &&& n) := by
  have e : (x + 256 * y) + (x + 256 * y) / 16 = (x + x / 16 + 16 * (y % 16)) + 256 * (y + y / 16) := by omega
  rw [e, and_split (by omega) (by decide), t7 ⟨x + x / 16, by omega⟩ ⟨y % 16, by omega⟩]
def swar (w : Nat) : Nat :=
  let a := w - (w / 2 &&& 0x55555555)
  let b := (a &&& 0x33333333) + (a / 4 &&& 0x33333333)
  let c := (b + b / 16) &&& 0x0F0F0F0F
  let d := c + c / 256
  (d + d / 65536) &&& 0x3F
theorem swarA {x y z u : Nat} (hx : x < 256) (hy : y < 256) (hz : z < 256) (hu : u < 256) : (x + 256 * (y + 256 * (z + 256 * u))) - ((x + 256 * (y + 256 * (z + 256 * u))) / 2 &&& 0x55555555) = ga x + 256 * (ga y + 256 * (ga z + 256 * ga u)) := by
  have e : (0x55555555 : Nat) = 0x55 + 256 * (0x55 + 256 * (0x55 + 256 * 0x55)) := by decide
  have a1 := t2 ⟨x, hx⟩
  have a2 := t2 ⟨y, hy⟩
  have a3 := t2 ⟨z, hz⟩
  have a4 := t2 ⟨u, hu⟩
  rw [e, s1 hx, s1 hy, s1 hz]
  simp only [ga]
  simp only at a1 a2 a3 a4
  omega
theorem swarB {x y z u : Nat} (hx : x < 256) (hy : y < 256) (hz : z < 256) : ((x + 256 * (y + 256 * (z + 256 * u))) &&& 0x33333333) + ((x + 256 * (y + 256 * (z + 256 * u))) / 4 &&& 0x33333333) =
    ((x &&& 0x33) + (x / 4 &&& 0x33)) + 256 * (((y &&& 0x33) + (y / 4 &&& 0x33)) + 256 * (((z &&& 0x33) + (z / 4 &&& 0x33)) + 256 * ((u &&& 0x33) + (u / 4 &&& 0x33)))) := by
  have e : (0x33333333 : Nat) = 0x33 + 256 * (0x33 + 256 * (0x33 + 256 * 0x33)) := by decide
  rw [e, s3 hx, s3 hy, s3 hz, and_split hx (by decide), and_split hy (by decide), and_split hz (by decide)]
  omega
theorem swarC {x y z u : Nat} (hx : x ≤ 0x44) (hy : y ≤ 0x44) (hz : z ≤ 0x44) (my : y % 16 ≤ 4) (mz : z % 16 ≤ 4) (mu : u % 16 ≤ 4) : ((x + 256 * (y + 256 * (z + 256 * u))) + (x + 256 * (y + 256 * (z + 256 * u))) / 16) &&& 0x0F0F0F0F =
    ((x + x / 16) &&& 0x0F) + 256 * (((y + y / 16) &&& 0x0F) + 256 * (((z + z / 16) &&& 0x0F) + 256 * ((u + u / 16) &&& 0x0F))) := by
  have e : (0x0F0F0F0F : Nat) = 0x0F + 256 * (0x0F + 256 * (0x0F + 256 * 0x0F)) := by decide
  rw [e, s5 hx (by omega), s5 hy (by omega), s5 hz (by omega)]
theorem swarD {x y z u : Nat} (hx : x ≤ 8) (hy : y ≤ 8) (hz : z ≤ 8) (hu : u ≤ 8) : (x + 256 * (y + 256 * (z + 256 * u)) + (x + 256 * (y + 256 * (z + 256 * u))) / 256 + (x + 256 * (y + 256 * (z + 256 * u)) + (x + 256 * (y + 256 * (z + 256 * u))) / 256) / 65536) % 64 = x + y + z + u := by
  have e1 : (x + 256 * (y + 256 * (z + 256 * u))) / 256 = y + 256 * (z + 256 * u) := by omega
  rw [e1]
  have e2 : (x + 256 * (y + 256 * (z + 256 * u)) + (y + 256 * (z + 256 * u))) / 65536 = z + u + 256 * u := by omega
  rw [e2]
  omega
theorem swar_eq {w : Nat} (h : w < 2 ^ 32) : swar w = popc 32 w := by
  obtain ⟨x, hx⟩ : ∃ x, x = w % 256 := ⟨_, rfl⟩
  obtain ⟨y, hy⟩ : ∃ y, y = w / 256 % 256 := ⟨_, rfl⟩
  obtain ⟨z, hz⟩ : ∃ z, z = w / 65536 % 256 := ⟨_, rfl⟩
  obtain ⟨u, hu⟩ : ∃ u, u = w / 16777216 := ⟨_, rfl⟩
  have ew : w = x + 256 * (y + 256 * (z + 256 * u)) := by omega
  have lx : x < 256 := by omega
  have ly : y < 256 := by omega
  have lz : z < 256 := by omega
  have lu : u < 256 := by omega
  obtain ⟨bx, mx⟩ := t5 ⟨x, lx⟩
  obtain ⟨by', my⟩ := t5 ⟨y, ly⟩
  obtain ⟨bz, mz⟩ := t5 ⟨z, lz⟩
  obtain ⟨bu, mu⟩ := t5 ⟨u, lu⟩
  obtain ⟨px, qx⟩ := t6 ⟨x, lx⟩
  obtain ⟨py, qy⟩ := t6 ⟨y, ly⟩
  obtain ⟨pz, qz⟩ := t6 ⟨z, lz⟩
  obtain ⟨pu, qu⟩ := t6 ⟨u, lu⟩
  have ep : popc 32 w = popc 8 x + popc 8 y + popc 8 z + popc 8 u := by
    have e1 : (32 : Nat) = 8 + 24 := rfl
    have e2 : (24 : Nat) = 8 + 16 := rfl
    have e3 : (16 : Nat) = 8 + 8 := rfl
    rw [e1, popc_add, e2, popc_add 8 16, e3, popc_add 8 8]
    have f1 : w % 2 ^ 8 = x := by omega
    have f2 : w / 2 ^ 8 % 2 ^ 8 = y := by omega
    have f3 : w / 2 ^ 8 / 2 ^ 8 % 2 ^ 8 = z := by omega
    have f4 : w / 2 ^ 8 / 2 ^ 8 / 2 ^ 8 = u := by omega
    rw [f1, f2, f3, f4]
    omega
  simp only at px py pz pu qx qy qz qu bx by' bz bu mx my mz mu
  rw [ep, ← px, ← py, ← pz, ← pu]
  unfold swar
  simp only
  rw [ew, swarA lx ly lz lu, swarB (t4 ⟨x, lx⟩) (t4 ⟨y, ly⟩) (t4 ⟨z, lz⟩)]
  show (_ : Nat) = _
  have eC := swarC (x := gb x) (y := gb y) (z := gb z) (u := gb u) bx by' bz my mz mu
  simp only [gb] at eC
  rw [eC]
  have e63 : ∀ n : Nat, n &&& 63 = n % 64 := fun n => Nat.and_two_pow_sub_one_eq_mod n 6
  rw [e63]
  exact swarD qx qy qz qu
/-- how many words -/
def wn (n : Nat) : Nat := (n + 31) / 32
def words (l : List Bool) : List Nat := (List.range (wn l.length)).map fun k => wordOf ((l.drop (32 * k)).take 32)
def marks (l : List Bool) : List Nat := (List.range (wn l.length)).map fun k => cnt (l.take (32 * k))
theorem words_len (l : List Bool) : (words l).length = wn l.length := by simp [words]
theorem marks_len (l : List Bool) : (marks l).length = wn l.length := by simp [marks]
theorem words_at {l : List Bool} {k : Nat} (h : k < wn l.length) : (words l)[k]? = some (wordOf ((l.drop (32 * k)).take 32)) := by
  simp [words, h]
theorem marks_at {l : List Bool} {k : Nat} (h : k < wn l.length) : (marks l)[k]? = some (cnt (l.take (32 * k))) := by
  simp [marks, h]
theorem chunk_len (l : List Bool) (k : Nat) : ((l.drop (32 * k)).take 32).length ≤ 32 := by simp; omega
theorem word_lt (l : List Bool) (k : Nat) : wordOf ((l.drop (32 * k)).take 32) < 2 ^ 32 :=
  Nat.lt_of_lt_of_le (wordOf_lt _) (Nat.pow_le_pow_right (by decide) (chunk_len l k))
theorem words_lt {l : List Bool} {w : Nat} (h : w ∈ words l) : w < 2 ^ 32 := by
  obtain ⟨k, _, rfl⟩ := List.mem_map.mp h
  exact word_lt l k
/-- a word begun -/
theorem words_new {l : List Bool} (h : l.length % 32 = 0) (b : Bool) : words (l ++ [b]) = words l ++ [b.toNat] := by
  have e : wn (l ++ [b]).length = wn l.length + 1 := by simp [wn]; omega
  unfold words
  rw [e, List.range_succ, List.map_append]
  congr 1
  · apply List.map_congr_left
    intro k hk
    have hk := List.mem_range.mp hk
    have hk2 : 32 * k + 32 ≤ l.length := by unfold wn at hk; omega
    rw [List.drop_append_of_le_length (by omega), List.take_append_of_le_length (by rw [List.length_drop]; omega)]
  · have e2 : 32 * wn l.length = l.length := by unfold wn; omega
    show [wordOf (((l ++ [b]).drop (32 * wn l.length)).take 32)] = [b.toNat]
    rw [e2, List.drop_left]
    cases b <;> rfl
/-- a word that goes on -/
theorem words_on {l : List Bool} (h : l.length % 32 ≠ 0) (b : Bool) : words (l ++ [b]) = (words l).set (wn l.length - 1) (wordOf (l.drop (32 * (wn l.length - 1))) + b.toNat * 2 ^ (l.length % 32)) := by
  have e : wn (l ++ [b]).length = wn l.length := by simp [wn]; omega
  have p : 0 < wn l.length := by unfold wn; omega
  apply List.ext_getElem?
  intro k
  by_cases hk : k < wn l.length
  · rw [words_at (by rw [e]; exact hk), List.getElem?_set]
    by_cases hl : k = wn l.length - 1
    · subst hl
      rw [if_pos rfl, if_pos (by rw [words_len]; exact hk)]
      have lo : 32 * (wn l.length - 1) ≤ l.length := by unfold wn; omega
      have hd : (l.drop (32 * (wn l.length - 1))).length = l.length % 32 := by rw [List.length_drop]; unfold wn; omega
      rw [List.drop_append_of_le_length lo, List.take_of_length_le (by simp [hd]; omega), wordOf_app, hd]
      cases b <;> simp [wordOf]
    · rw [if_neg (fun z => hl z.symm), words_at hk]
      have hk2 : 32 * k + 32 ≤ l.length := by unfold wn at hk hl; omega
      rw [List.drop_append_of_le_length (by omega), List.take_append_of_le_length (by rw [List.length_drop]; omega)]
  · rw [List.getElem?_eq_none (by rw [words_len, e]; omega), List.getElem?_eq_none (by rw [List.length_set, words_len]; omega)]
theorem words_last {l : List Bool} (h : l.length % 32 ≠ 0) : (words l)[wn l.length - 1]? = some (wordOf (l.drop (32 * (wn l.length - 1)))) := by
  rw [words_at (by unfold wn; omega), List.take_of_length_le]
  rw [List.length_drop]
  unfold wn
  omega
theorem last_lt {l : List Bool} (h : l.length % 32 ≠ 0) : wordOf (l.drop (32 * (wn l.length - 1))) < 2 ^ (l.length % 32) := by
  have e : (l.drop (32 * (wn l.length - 1))).length = l.length % 32 := by rw [List.length_drop]; unfold wn; omega
  have := wordOf_lt (l.drop (32 * (wn l.length - 1)))
  rwa [e] at this
/-- the bit at a place, out of its word -/
theorem bit_of {l : List Bool} {i : Nat} (_h : i < l.length) : wordOf ((l.drop (32 * (i / 32))).take 32) / 2 ^ (i % 32) % 2 = (l.getD i false).toNat := by
  rw [wordOf_bit]
  congr 1
  rw [List.getD_eq_getElem?_getD, List.getD_eq_getElem?_getD, List.getElem?_take, if_pos (by omega), List.getElem?_drop]
  congr 2
  omega
/-- ones ahead of a place, by its word -/
theorem ones_of {l : List Bool} {i : Nat} (_h : i ≤ l.length) (k : Nat) (hk : 32 * k ≤ i) (hk2 : i ≤ 32 * k + 32) : cnt (l.take (32 * k)) + popc 32 (wordOf ((l.drop (32 * k)).take 32) % 2 ^ (i - 32 * k)) = cnt (l.take i) := by
  rw [wordOf_mod, List.take_take, popc_wordOf _ _ (by rw [List.length_take]; omega), ← cnt_app]
  congr 1
  have e : min (i - 32 * k) 32 = i - 32 * k := by omega
  rw [e]
  have := (List.take_add (l := l) (i := 32 * k) (j := i - 32 * k)).symm
  rw [this]
  congr 1
  omega
theorem marks_step {l : List Bool} {k : Nat} (_h : k < wn l.length) : cnt (l.take (32 * (k + 1))) = cnt (l.take (32 * k)) + popc 32 (wordOf ((l.drop (32 * k)).take 32)) := by
  rw [popc_wordOf _ _ (chunk_len l k), ← cnt_app, ← List.take_add]
  rfl
/-! Found by halving; a bit put. -/
/-- how many of the bit b stand ahead of a place -/
def cb (b : Bool) (l : List Bool) (p : Nat) : Nat := (l.take p).count b
theorem cb_true (l : List Bool) (p : Nat) : cb true l p = cnt (l.take p) := rfl
theorem count_two : ∀ l : List Bool, l.count false + l.count true = l.length
  | [] => rfl
  | b :: l => by
    have h := count_two l
    cases b <;> simp <;> omega
theorem cb_sum (l : List Bool) {p : Nat} (h : p ≤ l.length) : cb false l p + cb true l p = p := by
  unfold cb
  have e : (l.take p).length = p := by rw [List.length_take]; omega
  have := count_two (l.take p)
  omega
theorem cb_false (l : List Bool) {p : Nat} (h : p ≤ l.length) : cb false l p = p - cnt (l.take p) := by
  have := cb_sum l h
  rw [cb_true] at this
  omega
theorem cb_succ {b : Bool} {l : List Bool} {p : Nat} (h : p < l.length) : cb b l (p + 1) = cb b l p + (if l[p]? = some b then 1 else 0) := by
  unfold cb
  rw [List.take_add_one, List.count_append]
  congr 1
  rw [List.getElem?_eq_getElem h]
  simp [List.count_singleton]
theorem cb_mono {b : Bool} {l : List Bool} {p q : Nat} (h : p ≤ q) : cb b l p ≤ cb b l q := by
  unfold cb
  have e : l.take q = l.take p ++ (l.drop p).take (q - p) := by
    rw [← List.take_add]
    congr 1
    omega
  rw [e, List.count_append]
  omega
theorem cb_all (b : Bool) (l : List Bool) : cb b l l.length = l.count b := by
  unfold cb
  rw [List.take_length]
/-- the place that halving has found -/
theorem found_at {b : Bool} {l : List Bool} {t r : Nat} (h : r < l.length) (h1 : cb b l r ≤ t) (h2 : t < cb b l (r + 1)) : l[r]? = some b ∧ cb b l r = t := by
  rw [cb_succ h] at h2
  by_cases e : l[r]? = some b
  · rw [if_pos e] at h2
    exact ⟨e, by omega⟩
  · rw [if_neg e] at h2
    omega
/-- there is but one such place -/
theorem found_one {b : Bool} {l : List Bool} {r q : Nat} (h1 : l[r]? = some b) (h2 : l[q]? = some b) (h : cb b l r = cb b l q) : r = q := by
  have lr : r < l.length := (List.getElem?_eq_some_iff.mp h1).1
  have lq : q < l.length := (List.getElem?_eq_some_iff.mp h2).1
  have a := cb_succ (b := b) lr
  have c := cb_succ (b := b) lq
  rw [if_pos h1] at a
  rw [if_pos h2] at c
  rcases Nat.lt_trichotomy r q with e | e | e
  · have := cb_mono (b := b) (l := l) (show r + 1 ≤ q by omega)
    omega
  · exact e
  · have := cb_mono (b := b) (l := l) (show q + 1 ≤ r by omega)
    omega
/-- each turn below the bit's number is found -/
theorem found_is {b : Bool} : ∀ {l : List Bool} {t : Nat}, t < l.count b → ∃ r, l[r]? = some b ∧ cb b l r = t := by
  intro l
  induction l with
  | nil => intro t h; simp at h
  | cons x l ih =>
    intro t h
    by_cases e : x = b
    · subst e
      cases t with
      | zero => exact ⟨0, rfl, by simp [cb]⟩
      | succ t =>
        obtain ⟨r, h1, h2⟩ := ih (t := t) (by simpa using h)
        exact ⟨r + 1, by simpa using h1, by simpa [cb] using h2⟩
    · obtain ⟨r, h1, h2⟩ := ih (t := t) (by simpa [List.count_cons, e] using h)
      exact ⟨r + 1, by simpa using h1, by simpa [cb, List.count_cons, e] using h2⟩

theorem wordOf_set : ∀ {l : List Bool} {j : Nat} {c b : Bool}, l[j]? = some c → wordOf (l.set j b) + c.toNat * 2 ^ j = wordOf l + b.toNat * 2 ^ j
  | [], j, c, b, h => by simp at h
  | x :: l, 0, c, b, h => by
    have e : x = c := Option.some.inj h
    subst e
    show b.toNat + 2 * wordOf l + x.toNat * 2 ^ 0 = x.toNat + 2 * wordOf l + b.toNat * 2 ^ 0
    omega
  | x :: l, j + 1, c, b, h => by
    have ih := wordOf_set (l := l) (j := j) (c := c) (b := b) (by simpa using h)
    show x.toNat + 2 * wordOf (l.set j b) + c.toNat * 2 ^ (j + 1) = x.toNat + 2 * wordOf l + b.toNat * 2 ^ (j + 1)
    have e1 : c.toNat * 2 ^ (j + 1) = 2 * (c.toNat * 2 ^ j) := by rw [Nat.pow_succ', ← Nat.mul_assoc, Nat.mul_comm c.toNat 2, Nat.mul_assoc]
    have e2 : b.toNat * 2 ^ (j + 1) = 2 * (b.toNat * 2 ^ j) := by rw [Nat.pow_succ', ← Nat.mul_assoc, Nat.mul_comm b.toNat 2, Nat.mul_assoc]
    rw [e1, e2]
    omega
theorem chunk_set {l : List Bool} {i : Nat} {b : Bool} (h : i < l.length) (k : Nat) : (((l.set i b).drop (32 * k)).take 32) = if k = i / 32 then ((l.drop (32 * k)).take 32).set (i % 32) b else (l.drop (32 * k)).take 32 := by
  apply List.ext_getElem?
  intro j
  by_cases hk : k = i / 32
  · rw [if_pos hk]
    subst hk
    rw [List.getElem?_take, List.getElem?_drop, List.getElem?_set, List.getElem?_set]
    by_cases hj : j < 32
    · rw [if_pos hj]
      by_cases e : i % 32 = j
      · rw [if_pos (by omega), if_pos e, if_pos h, if_pos (by rw [List.length_take, List.length_drop]; omega)]
      · rw [if_neg (by omega), if_neg e, List.getElem?_take, if_pos hj, List.getElem?_drop]
    · rw [if_neg hj, if_neg (by omega), List.getElem?_take, if_neg hj]
  · rw [if_neg hk, List.getElem?_take, List.getElem?_take, List.getElem?_drop, List.getElem?_drop]
    by_cases hj : j < 32
    · rw [if_pos hj, if_pos hj, List.getElem?_set_ne (by omega)]
    · rw [if_neg hj, if_neg hj]
/-- the one word that a bit put otherwise changes -/
theorem words_set {l : List Bool} {i : Nat} {b : Bool} (h : l[i]? = some (!b)) :
    words (l.set i b) = (words l).set (i / 32) (wordOf ((l.drop (32 * (i / 32))).take 32) + 2 ^ (i % 32) - 2 * (wordOf ((l.drop (32 * (i / 32))).take 32) / 2 ^ (i % 32) % 2) * 2 ^ (i % 32)) := by
  have hi : i < l.length := (List.getElem?_eq_some_iff.mp h).1
  have hw : wn (l.set i b).length = wn l.length := by rw [List.length_set]
  have hc : ((l.drop (32 * (i / 32))).take 32)[i % 32]? = some (!b) := by
    rw [List.getElem?_take, if_pos (by omega), List.getElem?_drop, ← h]
    congr 1
    omega
  apply List.ext_getElem?
  intro k
  by_cases hk : k < wn l.length
  · rw [words_at (by rw [hw]; exact hk), List.getElem?_set, chunk_set hi]
    by_cases e : k = i / 32
    · subst e
      rw [if_pos rfl, if_pos rfl, if_pos (by rw [words_len]; exact hk)]
      congr 1
      have a := wordOf_set (b := b) hc
      have c : wordOf ((l.drop (32 * (i / 32))).take 32) / 2 ^ (i % 32) % 2 = (!b).toNat := by
        rw [wordOf_bit, List.getD_eq_getElem?_getD, hc]
        rfl
      rw [c]
      cases b with
      | false => simp only [Bool.not_false, Bool.toNat_true, Bool.toNat_false] at a ⊢; omega
      | true => simp only [Bool.not_true, Bool.toNat_true, Bool.toNat_false] at a ⊢; omega
    · rw [if_neg e, if_neg (fun z => e z.symm), words_at hk]
  · rw [List.getElem?_eq_none (by rw [words_len, hw]; omega), List.getElem?_eq_none (by rw [List.length_set, words_len]; omega)]
theorem cnt_set_take {l : List Bool} {i : Nat} {b : Bool} (h : l[i]? = some (!b)) (p : Nat) : (cnt ((l.set i b).take p) : Int) = cnt (l.take p) + (if i < p then 2 * (b.toNat : Int) - 1 else 0) := by
  have hi : i < l.length := (List.getElem?_eq_some_iff.mp h).1
  induction p with
  | zero => simp [cnt]
  | succ p ih =>
    by_cases hp : p < l.length
    · have a := cb_succ (b := true) hp
      have c := cb_succ (b := true) (l := l.set i b) (p := p) (by rw [List.length_set]; exact hp)
      rw [cb_true, cb_true] at a c
      by_cases e : i = p
      · subst e
        rw [List.getElem?_set_self hi] at c
        rw [h] at a
        rw [if_neg (by omega)] at ih
        rw [if_pos (by omega)]
        cases b <;> simp at a c ih ⊢ <;> omega
      · rw [List.getElem?_set_ne e] at c
        by_cases e2 : i < p
        · rw [if_pos e2] at ih
          rw [if_pos (by omega)]
          omega
        · rw [if_neg e2] at ih
          rw [if_neg (by omega)]
          omega
    · have e1 : (l.set i b).take (p + 1) = (l.set i b).take p := by rw [List.take_of_length_le (by rw [List.length_set]; omega), List.take_of_length_le (by rw [List.length_set]; omega)]
      have e2 : l.take (p + 1) = l.take p := by rw [List.take_of_length_le (by omega), List.take_of_length_le (by omega)]
      rw [e1, e2, ih, if_pos (by omega), if_pos (by omega)]
/-! Numbers parted bit by bit. -/
def tb (n b : Nat) : Bool := decide (n / 2 ^ b % 2 = 1)
theorem tb_nat (n b : Nat) : (tb n b).toNat = n / 2 ^ b % 2 := by
  unfold tb
  by_cases h : n / 2 ^ b % 2 = 1
  · rw [decide_eq_true h, h]
    rfl
  · rw [decide_eq_false h]
    show 0 = _
    omega
theorem half_bit (n k : Nat) : n / 2 ^ k = 2 * (n / 2 ^ (k + 1)) + (tb n k).toNat := by
  rw [tb_nat, Nat.pow_succ, ← Nat.div_div_eq_div_mul]
  omega
def part (b : Nat) (ns : List Nat) : List Nat := (ns.filter fun n => !tb n b) ++ ns.filter fun n => tb n b
def cur (w : Nat) (ns : List Nat) : Nat → List Nat
  | 0 => ns
  | l + 1 => part (w - 1 - l) (cur w ns l)
/-- the bits of the row at a level -/
def row (w : Nat) (ns : List Nat) (l : Nat) : List Bool := (cur w ns l).map fun n => tb n (w - 1 - l)
theorem part_perm (b : Nat) (ns : List Nat) : (part b ns).Perm ns := by
  unfold part
  have h := List.filter_append_perm (fun n => tb n b) ns
  exact (List.perm_append_comm).trans h
theorem part_len (b : Nat) (ns : List Nat) : (part b ns).length = ns.length := (part_perm b ns).length_eq
theorem cur_perm (w : Nat) (ns : List Nat) : ∀ l, (cur w ns l).Perm ns
  | 0 => .refl _
  | l + 1 => (part_perm _ _).trans (cur_perm w ns l)
theorem cur_len (w : Nat) (ns : List Nat) (l : Nat) : (cur w ns l).length = ns.length := (cur_perm w ns l).length_eq
theorem row_len (w : Nat) (ns : List Nat) (l : Nat) : (row w ns l).length = ns.length := by
  unfold row
  rw [List.length_map, cur_len]
theorem row_at {w l i n : Nat} {ns : List Nat} (h : (cur w ns l)[i]? = some n) : (row w ns l)[i]? = some (tb n (w - 1 - l)) := by
  unfold row
  rw [List.getElem?_map, h]
  rfl
/-- where a place leads in the next row, on the side of a bit -/
def led (r : List Bool) (p : Nat) (b : Bool) : Nat := if b then r.count false + cb true r p else cb false r p
theorem led_true (r : List Bool) (p : Nat) : led r p true = r.count false + cb true r p := rfl
theorem led_false (r : List Bool) (p : Nat) : led r p false = cb false r p := rfl
theorem led_mono {r : List Bool} {p q : Nat} (b : Bool) (h : p ≤ q) : led r p b ≤ led r q b := by
  have h1 := cb_mono (b := true) (l := r) h
  have h2 := cb_mono (b := false) (l := r) h
  cases b
  · exact h2
  · rw [led_true, led_true]; omega
theorem led_le {r : List Bool} {p : Nat} (b : Bool) (h : p ≤ r.length) : led r p b ≤ r.length := by
  have h1 := cb_mono (b := true) (l := r) h
  have h2 := cb_mono (b := false) (l := r) h
  rw [cb_all] at h1 h2
  have h3 := count_two r
  cases b
  · rw [led_false]; omega
  · rw [led_true]; omega
/-- a filtered list, cut as the list is -/
theorem filt_take {α : Type} (p : α → Bool) : ∀ (L : List α) (q : Nat), (L.filter p).take ((L.take q).countP p) = (L.take q).filter p
  | [], q => by simp
  | x :: L, 0 => by simp
  | x :: L, q + 1 => by
    have h := filt_take p L q
    by_cases e : p x = true
    · simp [e, h]
    · simp [e, h]
theorem filt_slice {α : Type} (p : α → Bool) (L : List α) {f q : Nat} (h : f ≤ q) : ((L.filter p).take ((L.take q).countP p)).drop ((L.take f).countP p) = ((L.take q).drop f).filter p := by
  rw [filt_take]
  have e : L.take q = L.take f ++ (L.take q).drop f := by
    have := List.take_append_drop f (L.take q)
    rw [List.take_take, Nat.min_eq_left h] at this
    exact this.symm
  have e2 : (L.take q).filter p = (L.take f).filter p ++ ((L.take q).drop f).filter p := by
    rw [← List.filter_append, ← e]
  rw [e2, List.countP_eq_length_filter, List.drop_left]
theorem filt_at {α : Type} (p : α → Bool) : ∀ {L : List α} {i : Nat} {x : α}, L[i]? = some x → p x = true → (L.filter p)[(L.take i).countP p]? = some x
  | [], i, x, h, _ => by simp at h
  | y :: L, 0, x, h, e => by
    have e1 : y = x := Option.some.inj h
    subst e1
    simp [e]
  | y :: L, i + 1, x, h, e => by
    have ih := filt_at p (L := L) (i := i) (x := x) h e
    by_cases ey : p y = true
    · simp [ey, ih]
    · simp [ey, ih]
theorem cb_map (k : Nat) (L : List Nat) (q : Nat) (b : Bool) : cb b (L.map fun n => tb n k) q = (L.take q).countP fun n => tb n k == b := by
  unfold cb
  rw [← List.map_take, List.count, List.countP_map]
  rfl
theorem eq_true_fun (k : Nat) : (fun n => tb n k == true) = fun n => tb n k := by
  funext n
  cases tb n k <;> rfl
theorem eq_false_fun (k : Nat) : (fun n => tb n k == false) = fun n => !tb n k := by
  funext n
  cases tb n k <;> rfl
theorem count_false_map (k : Nat) (L : List Nat) : (L.map fun n => tb n k).count false = (L.filter fun n => !tb n k).length := by
  rw [List.count, List.countP_map, ← List.countP_eq_length_filter, ← eq_false_fun]
  rfl
/-- a slice of the parted list -/
def slice (L : List Nat) (f q : Nat) : List Nat := (L.take q).drop f
theorem slice_len {L : List Nat} {f q : Nat} (h : q ≤ L.length) : (slice L f q).length = q - f := by
  unfold slice
  rw [List.length_drop, List.length_take]
  omega
theorem slice_part (k : Nat) (L : List Nat) {f q : Nat} (h : f ≤ q) (b : Bool) :
    slice (part k L) (led (L.map fun n => tb n k) f b) (led (L.map fun n => tb n k) q b) = (slice L f q).filter fun n => tb n k == b := by
  unfold slice part
  cases b with
  | false =>
    rw [led_false, led_false, cb_map, cb_map, eq_false_fun]
    have hle : (L.take q).countP (fun n => !tb n k) ≤ (L.filter fun n => !tb n k).length := by
      rw [← List.countP_eq_length_filter]
      exact (List.take_sublist q L).countP_le
    rw [List.take_append_of_le_length hle, filt_slice _ _ h]
  | true =>
    rw [led_true, led_true, cb_map, cb_map, count_false_map, eq_true_fun]
    rw [List.take_append, List.drop_append]
    have e1 : ∀ m, (L.filter fun n => !tb n k).take ((L.filter fun n => !tb n k).length + m) = L.filter fun n => !tb n k := fun m => List.take_of_length_le (by omega)
    rw [e1, Nat.add_sub_cancel_left, List.drop_of_length_le (by omega), Nat.add_sub_cancel_left, List.nil_append, filt_slice _ _ h]
theorem part_at {k i n : Nat} {L : List Nat} (h : L[i]? = some n) : (part k L)[led (L.map fun n => tb n k) i (tb n k)]? = some n := by
  unfold part
  cases e : tb n k with
  | false =>
    rw [led_false, cb_map, eq_false_fun]
    have h1 := filt_at (fun n => !tb n k) h (by simp [e])
    have hl := (List.getElem?_eq_some_iff.mp h1).1
    rw [List.getElem?_append_left hl]
    exact h1
  | true =>
    rw [led_true, cb_map, count_false_map, eq_true_fun]
    have h1 := filt_at (fun n => tb n k) h e
    rw [List.getElem?_append_right (by omega), Nat.add_sub_cancel_left]
    exact h1
/-! ### a stretch followed down the rows -/
/-- of a stretch S the numbers that begin with c, at a level, stand from f to ahead of q -/
structure SL (w : Nat) (ns S : List Nat) (l c f q : Nat) : Prop where
  eq : slice (cur w ns l) f q = S.filter fun n => n / 2 ^ (w - l) == c
  le : f ≤ q
  in_ : q ≤ ns.length
theorem SL.start {w f q : Nat} {ns : List Nat} (hw : ∀ n ∈ ns, n < 2 ^ w) (h : f ≤ q) (h2 : q ≤ ns.length) : SL w ns (slice ns f q) 0 0 f q := by
  refine ⟨?_, h, h2⟩
  show slice ns f q = _
  rw [List.filter_eq_self.mpr]
  intro n hn
  have : n ∈ ns := List.mem_of_mem_take (List.mem_of_mem_drop hn)
  rw [Nat.sub_zero, Nat.div_eq_of_lt (hw n this)]
  rfl
theorem SL.step {w l c f q : Nat} {ns S : List Nat} (h : SL w ns S l c f q) (hl : l < w) (b : Bool) : SL w ns S (l + 1) (2 * c + b.toNat) (led (row w ns l) f b) (led (row w ns l) q b) := by
  refine ⟨?_, led_mono b h.le, ?_⟩
  · show slice (part (w - 1 - l) (cur w ns l)) _ _ = _
    unfold row
    rw [slice_part _ _ h.le, h.eq, List.filter_filter]
    apply List.filter_congr
    intro n _
    have e1 : w - l = (w - 1 - l) + 1 := by omega
    have e2 : w - (l + 1) = w - 1 - l := by omega
    have e3 := half_bit n (w - 1 - l)
    rw [e1, e2, e3]
    have e4 := toNat_lt2 (tb n (w - 1 - l))
    have e5 := toNat_lt2 b
    by_cases g1 : n / 2 ^ (w - 1 - l + 1) = c
    · rw [g1]
      cases tb n (w - 1 - l) <;> cases b <;> simp
    · have g2 : ¬ (2 * (n / 2 ^ (w - 1 - l + 1)) + (tb n (w - 1 - l)).toNat = 2 * c + b.toNat) := by omega
      rw [beq_false_of_ne g1, beq_false_of_ne g2]
      cases (tb n (w - 1 - l) == b) <;> rfl
  · have := led_le (r := row w ns l) (p := q) b (by rw [row_len]; exact h.in_)
    rw [row_len] at this
    exact this
theorem SL.size {w l c f q : Nat} {ns S : List Nat} (h : SL w ns S l c f q) : q - f = S.countP fun n => n / 2 ^ (w - l) == c := by
  have := congrArg List.length h.eq
  rw [slice_len (by rw [cur_len]; exact h.in_), ← List.countP_eq_length_filter] at this
  exact this
theorem SL.last {w c f q : Nat} {ns S : List Nat} (h : SL w ns S w c f q) : q - f = S.count c := by
  rw [h.size, Nat.sub_self, List.count]
  congr 1
  funext n
  rw [Nat.pow_zero, Nat.div_one]
/-- how many numbers of it have a nought next -/
theorem SL.zeros {w l c f q : Nat} {ns S : List Nat} (h : SL w ns S l c f q) (hl : l < w) : led (row w ns l) q false - led (row w ns l) f false = S.countP fun n => n / 2 ^ (w - (l + 1)) == 2 * c := by
  have := (h.step hl false).size
  simpa using this
/-- of those less than c at a level, those less at the next -/
theorem below_step (S : List Nat) (k c : Nat) (b : Bool) : S.countP (fun n => decide (n / 2 ^ k < 2 * c + b.toNat)) =
    S.countP (fun n => decide (n / 2 ^ (k + 1) < c)) + (if b then S.countP (fun n => n / 2 ^ k == 2 * c) else 0) := by
  induction S with
  | nil => cases b <;> rfl
  | cons n S ih =>
    rw [List.countP_cons, List.countP_cons, List.countP_cons, ih]
    have e3 := half_bit n k
    have e4 := toNat_lt2 (tb n k)
    rw [e3]
    generalize n / 2 ^ (k + 1) = x
    generalize (tb n k).toNat = y at e4
    cases b with
    | false =>
      simp only [Bool.toNat_false, Nat.add_zero, Bool.false_eq_true, if_false, decide_eq_true_eq]
      by_cases g : x < c
      · rw [if_pos g, if_pos (by omega)]
      · rw [if_neg g, if_neg (by omega)]
    | true =>
      simp only [Bool.toNat_true, if_true, decide_eq_true_eq, beq_iff_eq]
      by_cases g : x < c
      · rw [if_pos g, if_pos (by omega), if_neg (by omega)]; omega
      · by_cases g2 : 2 * x + y = 2 * c
        · rw [if_neg g, if_pos (by omega), if_pos g2]; omega
        · rw [if_neg g, if_neg (by omega), if_neg g2]; omega
/-- a sorted list by what stands below -/
theorem sorted_at {T : List Nat} (hs : T.Pairwise (· ≤ ·)) {t v : Nat} (h1 : T.countP (fun n => decide (n < v)) ≤ t) (h2 : t < T.countP (fun n => decide (n < v)) + T.count v) : T[t]? = some v := by
  induction T generalizing t with
  | nil => simp at h2
  | cons x T ih =>
    have hx := List.pairwise_cons.mp hs
    rw [List.countP_cons] at h1 h2
    rw [List.count_cons] at h2
    have hall : ¬ x < v → T.countP (fun n => decide (n < v)) = 0 := fun g => by
      rw [List.countP_eq_zero]
      intro n hn
      have := hx.1 n hn
      simp
      omega
    by_cases g : x < v
    · simp only [g, decide_true, if_true] at h1 h2
      have g2 : (x == v) = false := by simp; omega
      rw [g2] at h2
      cases t with
      | zero => omega
      | succ t =>
        show T[t]? = some v
        exact ih hx.2 (by omega) (by simp at h2; omega)
    · have h0 := hall g
      simp only [g, decide_false, Bool.false_eq_true, if_false] at h1 h2
      rw [h0] at h1 h2
      by_cases g2 : x = v
      · subst g2
        cases t with
        | zero => rfl
        | succ t =>
          show T[t]? = some x
          exact ih hx.2 (by rw [h0]; omega) (by rw [h0]; simp at h2; omega)
      · have g3 : (x == v) = false := by simp [g2]
        rw [g3] at h2
        have g4 : T.count v = 0 := by
          rw [List.count_eq_zero]
          intro hv
          have := hx.1 v hv
          omega
        simp [g4] at h2
/-! ### which stands most often -/
/-- among the values below lo: the one that stands most often, the least of several, and how often -/
structure Best (S : List Nat) (lo bv bc : Nat) : Prop where
  most : ∀ u, u < lo → S.count u ≤ bc
  least : bc = 0 ∨ (S.count bv = bc ∧ bv < lo ∧ ∀ u, u < bv → S.count u < bc)
theorem Best.nil (S : List Nat) : Best S 0 0 0 := ⟨fun u h => absurd h (Nat.not_lt_zero u), .inl rfl⟩
theorem count_le_pre (S : List Nat) (k u : Nat) : S.count u ≤ S.countP fun n => n / 2 ^ k == u / 2 ^ k := by
  rw [List.count]
  apply List.countP_mono_left
  intro n _ h
  have e : n = u := by simpa using h
  rw [e]
  simp
/-- a stretch too small to matter is passed over -/
theorem Best.skip {S : List Nat} {k c bv bc : Nat} (h : Best S (c * 2 ^ k) bv bc) (hs : S.countP (fun n => n / 2 ^ k == c) ≤ bc) : Best S ((c + 1) * 2 ^ k) bv bc := by
  refine ⟨fun u hu => ?_, ?_⟩
  · by_cases g : u < c * 2 ^ k
    · exact h.most u g
    · have e : u / 2 ^ k = c := by
        have hp : 0 < 2 ^ k := Nat.two_pow_pos k
        have h1 : c ≤ u / 2 ^ k := (Nat.le_div_iff_mul_le hp).mpr (by omega)
        have h2 : u / 2 ^ k < c + 1 := (Nat.div_lt_iff_lt_mul hp).mpr hu
        omega
      have := count_le_pre S k u
      rw [e] at this
      omega
  · rcases h.least with z | ⟨h1, h2, h3⟩
    · exact .inl z
    · have : c * 2 ^ k ≤ (c + 1) * 2 ^ k := Nat.mul_le_mul_right _ (by omega)
      exact .inr ⟨h1, by omega, h3⟩
/-- a better one -/
theorem Best.take {S : List Nat} {c bv bc : Nat} (h : Best S c bv bc) (hs : bc < S.count c) : Best S (c + 1) c (S.count c) := by
  refine ⟨fun u hu => ?_, .inr ⟨rfl, by omega, fun u hu => ?_⟩⟩
  · by_cases e : u = c
    · rw [e]
      exact Nat.le_refl _
    · have := h.most u (by omega)
      omega
  · have := h.most u hu
    omega
theorem Best.keep {S : List Nat} {c bv bc : Nat} (h : Best S c bv bc) (hs : S.count c ≤ bc) : Best S (c + 1) bv bc := by
  refine ⟨fun u hu => ?_, ?_⟩
  · by_cases e : u = c
    · rw [e]
      exact hs
    · exact h.most u (by omega)
  · rcases h.least with z | ⟨h1, h2, h3⟩
    · exact .inl z
    · exact .inr ⟨h1, by omega, h3⟩
/-- which value stands most often, and how often -/
structure Often (S : List Nat) (v m : Nat) : Prop where
  most : ∀ u, S.count u ≤ m
  is : S.count v = m
  least : ∀ u, u < v → S.count u < m
theorem Best.often {S : List Nat} {lo bv bc : Nat} (h : Best S lo bv bc) (hS : ∀ n ∈ S, n < lo) (hne : S ≠ []) : Often S bv bc := by
  have hm : ∀ u, S.count u ≤ bc := fun u => by
    by_cases g : u < lo
    · exact h.most u g
    · have : S.count u = 0 := List.count_eq_zero.mpr fun hu => g (hS u hu)
      omega
  rcases h.least with z | ⟨h1, h2, h3⟩
  · exfalso
    obtain ⟨x, hx⟩ := List.exists_mem_of_ne_nil S hne
    have a := hm x
    have b := List.count_pos_iff.mpr hx
    omega
  · exact ⟨hm, h1, h3⟩
theorem Often.one {S : List Nat} {v m v' m' : Nat} (h : Often S v m) (h' : Often S v' m') : v = v' ∧ m = m' := by
  have a := h.most v'
  have b := h'.most v
  rw [h'.is] at a
  rw [h.is] at b
  have e : m = m' := by omega
  subst e
  refine ⟨?_, rfl⟩
  rcases Nat.lt_trichotomy v v' with g | g | g
  · have := h'.least v g
    have := h.is
    omega
  · exact g
  · have := h.least v' g
    have := h'.is
    omega
/-! ### found from below -/
/-- where v stands for the turn t: at p of the row at level l, counted from f -/
structure At (w : Nat) (ns : List Nat) (v t l f q p : Nat) : Prop where
  lo : f ≤ p
  hi : p < q
  at_ : (cur w ns l)[p]? = some v
  turn : (slice (cur w ns l) f p).count v = t
theorem slice_at {L : List Nat} {f q i : Nat} (h : i < (slice L f q).length) : L[f + i]? = (slice L f q)[i]? := by
  unfold slice at h ⊢
  rw [List.getElem?_drop, List.getElem?_take, if_pos]
  rw [List.length_drop, List.length_take] at h
  omega
theorem slice_to {L : List Nat} {f q i : Nat} (h : f + i ≤ q) : slice L f (f + i) = (slice L f q).take i := by
  unfold slice
  rw [List.take_drop, List.take_take, Nat.min_eq_left h]
theorem At.last {w v t f q : Nat} {ns S : List Nat} (h : SL w ns S w v f q) (ht : t < q - f) : At w ns v t w f q (f + t) := by
  have hl := slice_len (L := cur w ns w) (f := f) (q := q) (by rw [cur_len]; exact h.in_)
  have hall : ∀ x ∈ slice (cur w ns w) f q, x = v := fun x hx => by
    rw [h.eq, List.mem_filter] at hx
    have := hx.2
    rw [Nat.sub_self, Nat.pow_zero, Nat.div_one] at this
    simpa using this
  refine ⟨by omega, by omega, ?_, ?_⟩
  · rw [slice_at (q := q) (by omega)]
    have hlt : t < (slice (cur w ns w) f q).length := by omega
    rw [List.getElem?_eq_getElem hlt, hall _ (List.getElem_mem hlt)]
  · rw [slice_to (q := q) (by omega)]
    have e : ((slice (cur w ns w) f q).take t).count v = ((slice (cur w ns w) f q).take t).length := by
      rw [List.count_eq_length]
      intro x hx
      exact (hall x (List.mem_of_mem_take hx)).symm
    rw [e, List.length_take]
    omega
theorem led_sub {r : List Bool} {p : Nat} (b : Bool) : led r p b - (if b then r.count false else 0) = cb b r p := by
  cases b
  · rfl
  · rw [led_true]
    simp
/-- one row up -/
theorem At.up {w l v t f q p : Nat} {ns : List Nat} (_hf : f ≤ q) (hq : q ≤ ns.length) (h : At w ns v t (l + 1) (led (row w ns l) f (tb v (w - 1 - l))) (led (row w ns l) q (tb v (w - 1 - l))) p) :
    p - (if tb v (w - 1 - l) then (row w ns l).count false else 0) < (row w ns l).count (tb v (w - 1 - l)) ∧ (if tb v (w - 1 - l) then (row w ns l).count false else 0) ≤ p ∧
    ∀ r, (row w ns l)[r]? = some (tb v (w - 1 - l)) → cb (tb v (w - 1 - l)) (row w ns l) r = p - (if tb v (w - 1 - l) then (row w ns l).count false else 0) → At w ns v t l f q r := by
  have lo := h.lo
  have hi := h.hi
  have hc := cb_mono (b := tb v (w - 1 - l)) (l := row w ns l) (p := q) (q := (row w ns l).length) (by rw [row_len]; exact hq)
  rw [cb_all] at hc
  obtain ⟨b, eb⟩ : ∃ b, b = tb v (w - 1 - l) := ⟨_, rfl⟩
  have hz : (if b then (row w ns l).count false else 0) ≤ p := by
    rw [← eb] at lo
    cases b
    · exact Nat.zero_le _
    · rw [led_true] at lo
      simp
      omega
  rw [← eb] at lo hi hc ⊢
  refine ⟨?_, hz, fun r hr hcr => ?_⟩
  · cases b
    · rw [led_false] at hi
      simp only [Bool.false_eq_true, if_false, Nat.sub_zero] at hz ⊢
      omega
    · rw [led_true] at hi
      simp only [if_true] at hz ⊢
      omega
  · have hrl : r < (row w ns l).length := (List.getElem?_eq_some_iff.mp hr).1
    have hsucc := cb_succ (b := b) hrl
    rw [if_pos hr] at hsucc
    have elr : led (row w ns l) r b = p := by
      cases b
      · simp only [Bool.false_eq_true, if_false, Nat.sub_zero] at hcr
        exact hcr
      · simp only [if_true] at hcr hz
        rw [led_true]
        omega
    have h1 : f ≤ r := by
      refine Nat.le_of_not_lt fun g => ?_
      have := cb_mono (b := b) (l := row w ns l) (show r + 1 ≤ f by omega)
      cases b
      · rw [led_false] at lo elr; omega
      · rw [led_true] at lo elr; omega
    have h2 : r < q := by
      refine Nat.lt_of_not_le fun g => ?_
      have := led_mono (r := row w ns l) b g
      omega
    have hrc : r < (cur w ns l).length := by rw [cur_len, ← row_len w ns l]; exact hrl
    obtain ⟨n, hn⟩ : ∃ n, (cur w ns l)[r]? = some n := ⟨_, List.getElem?_eq_getElem hrc⟩
    have hnb : tb n (w - 1 - l) = b := by
      have := row_at hn
      rw [hr] at this
      exact (Option.some.inj this).symm
    have hp := part_at (k := w - 1 - l) hn
    rw [hnb] at hp
    have hrow : ((cur w ns l).map fun n => tb n (w - 1 - l)) = row w ns l := rfl
    rw [hrow, elr] at hp
    have hcp := h.at_
    have e : n = v := Option.some.inj (hp.symm.trans hcp)
    subst e
    refine ⟨h1, h2, hn, ?_⟩
    have hs := slice_part (w - 1 - l) (cur w ns l) h1 b
    rw [hrow, elr] at hs
    have ht := h.turn
    rw [← eb] at ht
    have hsl : slice (cur w ns (l + 1)) (led (row w ns l) f b) p = slice (part (w - 1 - l) (cur w ns l)) (led (row w ns l) f b) p := rfl
    rw [hsl, hs, List.count_filter (by simp [eb])] at ht
    exact ht
theorem At.top {w v t q p : Nat} {ns : List Nat} (h : At w ns v t 0 0 q p) : ns[p]? = some v ∧ (ns.take p).count v = t := ⟨h.at_, h.turn⟩
/-! ### a number followed down the rows -/
structure Path (w : Nat) (ns : List Nat) (n l p : Nat) : Prop where
  at_ : (cur w ns l)[p]? = some n
theorem Path.step {w l n p : Nat} {ns : List Nat} (h : Path w ns n l p) : Path w ns n (l + 1) (led (row w ns l) p (tb n (w - 1 - l))) := ⟨part_at h.at_⟩
/-! ### the rows' ones -/
theorem row_count (w : Nat) (ns : List Nat) (l : Nat) : (row w ns l).count true = ns.countP fun n => tb n (w - 1 - l) := by
  unfold row
  rw [List.count, List.countP_map, ← (cur_perm w ns l).countP_eq]
  congr 1
  funext n
  show (tb n (w - 1 - l) == true) = _
  cases tb n (w - 1 - l) <;> rfl
theorem sum_tb (ns : List Nat) (k : Nat) : (ns.countP fun n => tb n k) = (ns.map fun n => (tb n k).toNat).sum := by
  induction ns with
  | nil => rfl
  | cons n ns ih =>
    rw [List.countP_cons, List.map_cons, List.sum_cons, ih]
    cases tb n k <;> simp <;> omega

end Hf
namespace Hf
open PySem L2
def top (i : Nat) : Stmt := PySem.Challenge.pw_halfrows_k07_rows_refused.main.body.getD i (.Pass ⟨0, 0, 0, 0⟩)
abbrev s_is_whole : Stmt := top 8
abbrev s_is_among : Stmt := top 9
abbrev s_ones_in : Stmt := top 10
abbrev s_packed : Stmt := top 11
abbrev s_B_init : Stmt := inClass (top 14) 0
abbrev s_B_words : Stmt := inClass (top 14) 1
abbrev s_B_bit_at : Stmt := inClass (top 14) 4
abbrev s_B_ones : Stmt := inClass (top 14) 5
abbrev s_B_noughts : Stmt := inClass (top 14) 6
abbrev s_B_place_of : Stmt := inClass (top 14) 7
abbrev s_B_put : Stmt := inClass (top 14) 8
abbrev s_parted : Stmt := top 16
abbrev s_bit_rows : Stmt := top 17
abbrev s_H_init : Stmt := inClass (top 21) 0
abbrev s_H_need_number : Stmt := inClass (top 21) 1
abbrev s_H_need_stretch : Stmt := inClass (top 21) 2
abbrev s_H_led : Stmt := inClass (top 21) 4
abbrev s_H_number_at : Stmt := inClass (top 21) 5
abbrev s_H_numbers : Stmt := inClass (top 21) 6
abbrev s_H_bit_of : Stmt := inClass (top 21) 7
abbrev s_H_stretch_of : Stmt := inClass (top 21) 8
abbrev s_H_count : Stmt := inClass (top 21) 9
abbrev s_H_below : Stmt := inClass (top 21) 10
abbrev s_H_least : Stmt := inClass (top 21) 11
abbrev s_H_often : Stmt := inClass (top 21) 12
abbrev s_H_place_of : Stmt := inClass (top 21) 13
abbrev s_H_put : Stmt := inClass (top 21) 14
abbrev s_H_words : Stmt := inClass (top 21) 15
abbrev s__law_next : Stmt := top 23
abbrev s__law_great : Stmt := top 24
abbrev s__law_row : Stmt := top 25
abbrev s__law_stretch : Stmt := top 26
abbrev s__law_said : Stmt := top 27
abbrev s__law_odd : Stmt := top 28
abbrev s__law_values_refused : Stmt := top 29
abbrev s__law_stretches_refused : Stmt := top 30
abbrev s_law : Stmt := top 31
/-- where everything stands -/
structure Adr where
  is_whole : Addr
  is_whole_d : FuncData
  is_among : Addr
  is_among_d : FuncData
  ones_in : Addr
  ones_in_d : FuncData
  packed : Addr
  packed_d : FuncData
  B_init : Addr
  B_init_d : FuncData
  B_words : Addr
  B_words_d : FuncData
  B_bit_at : Addr
  B_bit_at_d : FuncData
  B_ones : Addr
  B_ones_d : FuncData
  B_noughts : Addr
  B_noughts_d : FuncData
  B_place_of : Addr
  B_place_of_d : FuncData
  B_put : Addr
  B_put_d : FuncData
  parted : Addr
  parted_d : FuncData
  bit_rows : Addr
  bit_rows_d : FuncData
  H_init : Addr
  H_init_d : FuncData
  H_need_number : Addr
  H_need_number_d : FuncData
  H_need_stretch : Addr
  H_need_stretch_d : FuncData
  H_led : Addr
  H_led_d : FuncData
  H_number_at : Addr
  H_number_at_d : FuncData
  H_numbers : Addr
  H_numbers_d : FuncData
  H_bit_of : Addr
  H_bit_of_d : FuncData
  H_stretch_of : Addr
  H_stretch_of_d : FuncData
  H_count : Addr
  H_count_d : FuncData
  H_below : Addr
  H_below_d : FuncData
  H_least : Addr
  H_least_d : FuncData
  H_often : Addr
  H_often_d : FuncData
  H_place_of : Addr
  H_place_of_d : FuncData
  H_put : Addr
  H_put_d : FuncData
  H_words : Addr
  H_words_d : FuncData
  _law_next : Addr
  _law_next_d : FuncData
  _law_great : Addr
  _law_great_d : FuncData
  _law_row : Addr
  _law_row_d : FuncData
  _law_stretch : Addr
  _law_stretch_d : FuncData
  _law_said : Addr
  _law_said_d : FuncData
  _law_odd : Addr
  _law_odd_d : FuncData
  _law_values_refused : Addr
  _law_values_refused_d : FuncData
  _law_stretches_refused : Addr
  _law_stretches_refused_d : FuncData
  law : Addr
  law_d : FuncData
  cB : Addr
  cH : Addr
  xBadRow : Addr
  xNoNumber : Addr
  xNoPlace : Addr
  xHalfError : Addr
  _law_values_refused_c : Addr
  _law_values_refused_P : Addr
  _law_stretches_refused_c : Addr
  _law_stretches_refused_P : Addr
  law_c : Addr
  law_P : Addr
structure Caught (K : PySem.W.Frag) (D HE BR NN NP : Addr) (j : Nat) : Prop where
  c : ExcC K D
  h : PySem.W.exmOne K (.ref D) (.ref HE) = some true
  br : PySem.W.kitOne K (.ref D) (.ref BR) = some (decide (j = 0))
  nn : PySem.W.kitOne K (.ref D) (.ref NN) = some (decide (j = 1))
  np : PySem.W.kitOne K (.ref D) (.ref NP) = some (decide (j = 2))
  ve : PySem.W.kitOne K (.ref D) (.type "ValueError") = some true
structure Def (K : PySem.W.Frag) (mg : Str → Option Value) (x : Str) (st : Stmt) (ps : List Str) (f : Addr) (fd : FuncData) : Prop where
  F : Fun K x x st f fd
  b : Binds K fd ps []
  g : mg x = some (.ref f)
structure Met (K : PySem.W.Frag) (C : Addr) (x qual : Str) (st : Stmt) (ps : List Str) (f : Addr) (fd : FuncData) : Prop where
  F : Fun K x qual st f fd
  b : Binds K fd ps []
  m : Meth K C x f
structure Exc (K : PySem.W.Frag) (mg : Str → Option Value) (x : Str) (C : Addr) : Prop where
  g : mg x = some (.ref C)
  x : PySem.W.excIn K C [.type "ValueError", .type "Exception", .type "BaseException", .type "object"] "ValueError.__new__" = true
  k : PySem.W.keepIn K (.ref C) = true
  b : PySem.W.subIn K (.ref C) (.type "BaseException") = some true
  t : PySem.W.typeIn K (.ref C) = some (.type "type")
structure Tx (K : PySem.W.Frag) (mg : Str → Option Value) (A : Adr) : Prop where
  is_whole : Def K mg "is_whole" s_is_whole ["thing"] A.is_whole A.is_whole_d
  is_among : Def K mg "is_among" s_is_among ["thing", "least", "most"] A.is_among A.is_among_d
  ones_in : Def K mg "ones_in" s_ones_in ["word"] A.ones_in A.ones_in_d
  packed : Def K mg "packed" s_packed ["bits"] A.packed A.packed_d
  B_init : Met K A.cB "__init__" "BitRow.__init__" s_B_init ["self", "bits"] A.B_init A.B_init_d
  B_words : Met K A.cB "words" "BitRow.words" s_B_words ["self"] A.B_words A.B_words_d
  B_bit_at : Met K A.cB "bit_at" "BitRow.bit_at" s_B_bit_at ["self", "place"] A.B_bit_at A.B_bit_at_d
  B_ones : Met K A.cB "ones" "BitRow.ones" s_B_ones ["self", "place"] A.B_ones A.B_ones_d
  B_noughts : Met K A.cB "noughts" "BitRow.noughts" s_B_noughts ["self", "place"] A.B_noughts A.B_noughts_d
  B_place_of : Met K A.cB "place_of" "BitRow.place_of" s_B_place_of ["self", "bit", "turn"] A.B_place_of A.B_place_of_d
  B_put : Met K A.cB "put" "BitRow.put" s_B_put ["self", "place", "bit"] A.B_put A.B_put_d
  parted : Def K mg "parted" s_parted ["numbers", "bit"] A.parted A.parted_d
  bit_rows : Def K mg "bit_rows" s_bit_rows ["numbers", "wide"] A.bit_rows A.bit_rows_d
  H_init : Met K A.cH "__init__" "HalfRow.__init__" s_H_init ["self", "numbers", "wide"] A.H_init A.H_init_d
  H_need_number : Met K A.cH "need_number" "HalfRow.need_number" s_H_need_number ["self", "value"] A.H_need_number A.H_need_number_d
  H_need_stretch : Met K A.cH "need_stretch" "HalfRow.need_stretch" s_H_need_stretch ["self", "first", "behind"] A.H_need_stretch A.H_need_stretch_d
  H_led : Met K A.cH "led" "HalfRow.led" s_H_led ["self", "level", "place", "bit"] A.H_led A.H_led_d
  H_number_at : Met K A.cH "number_at" "HalfRow.number_at" s_H_number_at ["self", "place"] A.H_number_at A.H_number_at_d
  H_numbers : Met K A.cH "numbers" "HalfRow.numbers" s_H_numbers ["self"] A.H_numbers A.H_numbers_d
  H_bit_of : Met K A.cH "bit_of" "HalfRow.bit_of" s_H_bit_of ["self", "value", "level"] A.H_bit_of A.H_bit_of_d
  H_stretch_of : Met K A.cH "stretch_of" "HalfRow.stretch_of" s_H_stretch_of ["self", "value", "first", "behind"] A.H_stretch_of A.H_stretch_of_d
  H_count : Met K A.cH "count" "HalfRow.count" s_H_count ["self", "value", "first", "behind"] A.H_count A.H_count_d
  H_below : Met K A.cH "below" "HalfRow.below" s_H_below ["self", "value", "first", "behind"] A.H_below A.H_below_d
  H_least : Met K A.cH "least" "HalfRow.least" s_H_least ["self", "turn", "first", "behind"] A.H_least A.H_least_d
  H_often : Met K A.cH "often" "HalfRow.often" s_H_often ["self", "first", "behind"] A.H_often A.H_often_d
  H_place_of : Met K A.cH "place_of" "HalfRow.place_of" s_H_place_of ["self", "value", "turn"] A.H_place_of A.H_place_of_d
  H_put : Met K A.cH "put" "HalfRow.put" s_H_put ["self", "place", "value"] A.H_put A.H_put_d
  H_words : Met K A.cH "words" "HalfRow.words" s_H_words ["self", "level"] A.H_words A.H_words_d
  _law_next : Def K mg "_law_next" s__law_next ["_law_state"] A._law_next A._law_next_d
  _law_great : Def K mg "_law_great" s__law_great ["_law_state", "_law_wide"] A._law_great A._law_great_d
  _law_row : Def K mg "_law_row" s__law_row ["_law_state"] A._law_row A._law_row_d
  _law_stretch : Def K mg "_law_stretch" s__law_stretch ["_law_state", "_law_size"] A._law_stretch A._law_stretch_d
  _law_said : Def K mg "_law_said" s__law_said ["_law_worker"] A._law_said A._law_said_d
  _law_odd : Def K mg "_law_odd" s__law_odd ["_law_n"] A._law_odd A._law_odd_d
  _law_values_refused : Def K mg "_law_values_refused" s__law_values_refused ["_law_row_here", "_law_size", "_law_bad"] A._law_values_refused A._law_values_refused_d
  _law_stretches_refused : Def K mg "_law_stretches_refused" s__law_stretches_refused ["_law_row_here", "_law_size", "_law_odd_here", "_law_far"] A._law_stretches_refused A._law_stretches_refused_d
  law : Def K mg "law" s_law ["_law_script"] A.law A.law_d
  clB : Cls K A.cB
  mkB : Mk K A.cB A.B_init
  gB : mg "BitRow" = some (.ref A.cB)
  nB_size : NoAttr K A.cB "size"
  nB_packs : NoAttr K A.cB "packs"
  nB_heads : NoAttr K A.cB "heads"
  clH : Cls K A.cH
  mkH : Mk K A.cH A.H_init
  gH : mg "HalfRow" = some (.ref A.cH)
  nH_size : NoAttr K A.cH "size"
  nH_wide : NoAttr K A.cH "wide"
  nH_halves : NoAttr K A.cH "halves"
  xBadRow : Exc K mg "BadRow" A.xBadRow
  xNoNumber : Exc K mg "NoNumber" A.xNoNumber
  xNoPlace : Exc K mg "NoPlace" A.xNoPlace
  kWORD : ∃ t, mg "WORD" = some (.int 32 t)
  kMOST_BITS : ∃ t, mg "MOST_BITS" = some (.int 4000 t)
  kMOST_NUMBERS : ∃ t, mg "MOST_NUMBERS" = some (.int 200 t)
  kMOST_WIDE : ∃ t, mg "MOST_WIDE" = some (.int 64 t)
  b_isinstance : mg "isinstance" = none
  b_int : mg "int" = none
  b_bool : mg "bool" = none
  b_list : mg "list" = none
  b_tuple : mg "tuple" = none
  b_len : mg "len" = none
  b_enumerate : mg "enumerate" = none
  b_range : mg "range" = none
  b_all : mg "all" = none
  b_reversed : mg "reversed" = none
  b_min : mg "min" = none
  b_max : mg "max" = none
  b_ValueError : mg "ValueError" = none
  gHE : mg "HalfError" = some (.ref A.xHalfError)
  cBadRow : Caught K A.xBadRow A.xHalfError A.xBadRow A.xNoNumber A.xNoPlace 0
  cNoNumber : Caught K A.xNoNumber A.xHalfError A.xBadRow A.xNoNumber A.xNoPlace 1
  cNoPlace : Caught K A.xNoPlace A.xHalfError A.xBadRow A.xNoNumber A.xNoPlace 2
  _law_values_refused_cd : A._law_values_refused_d.code = .ref A._law_values_refused_c
  _law_stretches_refused_cd : A._law_stretches_refused_d.code = .ref A._law_stretches_refused_c
  law_cd : A.law_d.code = .ref A.law_c
  n_0_1 : A._law_values_refused_P ≠ A._law_stretches_refused_P
  n_0_2 : A._law_values_refused_P ≠ A.law_P
  n_1_2 : A._law_stretches_refused_P ≠ A.law_P
/-- the tables of code objects of the defs that make lambdas -/
def lamName (x : Str) : Str := x ++ ".<locals>." ++ "<lambda>"
def Tb (A : Adr) : List (Addr × Str) := [(A._law_values_refused_P, lamName "_law_values_refused"), (A._law_stretches_refused_P, lamName "_law_stretches_refused"), (A.law_P, lamName "law")]
structure TbB (mg : Str → Option Value) (base : Heap) (A : Adr) : Prop where
  _law_values_refused : LamX.TabB base mg A._law_values_refused_c A._law_values_refused_P
  _law_stretches_refused : LamX.TabB base mg A._law_stretches_refused_c A._law_stretches_refused_P
  law : LamX.TabB base mg A.law_c A.law_P
theorem tbm__law_values_refused {A : Adr} : (A._law_values_refused_P, lamName "_law_values_refused") ∈ Tb A := by
  unfold Tb
  simp
theorem tbu__law_values_refused {K : PySem.W.Frag} {mg : Str → Option Value} {A : Adr} (T : Tx K mg A) : ∀ p ∈ Tb A, p.1 = A._law_values_refused_P → p.2 = lamName "_law_values_refused" := by
  intro p hp e
  unfold Tb at hp
  simp only [List.mem_cons, List.not_mem_nil, or_false] at hp
  rcases hp with rfl | rfl | rfl
  · rfl
  · exact absurd e.symm T.n_0_1
  · exact absurd e.symm T.n_0_2
theorem tbm__law_stretches_refused {A : Adr} : (A._law_stretches_refused_P, lamName "_law_stretches_refused") ∈ Tb A := by
  unfold Tb
  simp
theorem tbu__law_stretches_refused {K : PySem.W.Frag} {mg : Str → Option Value} {A : Adr} (T : Tx K mg A) : ∀ p ∈ Tb A, p.1 = A._law_stretches_refused_P → p.2 = lamName "_law_stretches_refused" := by
  intro p hp e
  unfold Tb at hp
  simp only [List.mem_cons, List.not_mem_nil, or_false] at hp
  rcases hp with rfl | rfl | rfl
  · exact absurd e T.n_0_1
  · rfl
  · exact absurd e.symm T.n_1_2
theorem tbm_law {A : Adr} : (A.law_P, lamName "law") ∈ Tb A := by
  unfold Tb
  simp
theorem tbu_law {K : PySem.W.Frag} {mg : Str → Option Value} {A : Adr} (T : Tx K mg A) : ∀ p ∈ Tb A, p.1 = A.law_P → p.2 = lamName "law" := by
  intro p hp e
  unfold Tb at hp
  simp only [List.mem_cons, List.not_mem_nil, or_false] at hp
  rcases hp with rfl | rfl | rfl
  · exact absurd e T.n_0_2
  · exact absurd e T.n_1_2
  · rfl
section
variable {P : Program} {w : World} {K : PySem.W.Frag} {mg : Str → Option Value} {base : Heap} {A : Adr}
abbrev n_is_whole : List Str := ["thing"]
theorem sc_is_whole : FnScope n_is_whole ["thing"] (defScope s_is_whole) := ⟨rfl, rfl, rfl, by decide +kernel, rfl, by decide +kernel, by decide +kernel⟩
abbrev n_is_among : List Str := ["thing", "least", "most"]
theorem sc_is_among : FnScope n_is_among ["thing", "least", "most"] (defScope s_is_among) := ⟨rfl, rfl, rfl, by decide +kernel, rfl, by decide +kernel, by decide +kernel⟩
abbrev n_ones_in : List Str := ["word"]
theorem sc_ones_in : FnScope n_ones_in ["word"] (defScope s_ones_in) := ⟨rfl, rfl, rfl, by decide +kernel, rfl, by decide +kernel, by decide +kernel⟩
abbrev n_packed : List Str := ["bits", "found", "place", "bit"]
theorem sc_packed : FnScope n_packed ["bits"] (defScope s_packed) := ⟨rfl, rfl, rfl, by decide +kernel, rfl, by decide +kernel, by decide +kernel⟩
abbrev n_B_init : List Str := ["self", "bits", "bit", "many", "word"]
theorem sc_B_init : FnScope n_B_init ["self", "bits"] (defScope s_B_init) := ⟨rfl, rfl, rfl, by decide +kernel, rfl, by decide +kernel, by decide +kernel⟩
abbrev n_B_words : List Str := ["self"]
theorem sc_B_words : FnScope n_B_words ["self"] (defScope s_B_words) := ⟨rfl, rfl, rfl, by decide +kernel, rfl, by decide +kernel, by decide +kernel⟩
abbrev n_B_bit_at : List Str := ["self", "place"]
theorem sc_B_bit_at : FnScope n_B_bit_at ["self", "place"] (defScope s_B_bit_at) := ⟨rfl, rfl, rfl, by decide +kernel, rfl, by decide +kernel, by decide +kernel⟩
abbrev n_B_ones : List Str := ["self", "place", "at"]
theorem sc_B_ones : FnScope n_B_ones ["self", "place"] (defScope s_B_ones) := ⟨rfl, rfl, rfl, by decide +kernel, rfl, by decide +kernel, by decide +kernel⟩
abbrev n_B_noughts : List Str := ["self", "place"]
theorem sc_B_noughts : FnScope n_B_noughts ["self", "place"] (defScope s_B_noughts) := ⟨rfl, rfl, rfl, by decide +kernel, rfl, by decide +kernel, by decide +kernel⟩
abbrev n_B_place_of : List Str := ["self", "bit", "turn", "least", "most", "half", "many"]
theorem sc_B_place_of : FnScope n_B_place_of ["self", "bit", "turn"] (defScope s_B_place_of) := ⟨rfl, rfl, rfl, by decide +kernel, rfl, by decide +kernel, by decide +kernel⟩
abbrev n_B_put : List Str := ["self", "place", "bit", "at", "later"]
theorem sc_B_put : FnScope n_B_put ["self", "place", "bit"] (defScope s_B_put) := ⟨rfl, rfl, rfl, by decide +kernel, rfl, by decide +kernel, by decide +kernel⟩
abbrev n_parted : List Str := ["numbers", "bit", "low", "number"]
theorem sc_parted : FnScope n_parted ["numbers", "bit"] (defScope s_parted) := ⟨rfl, rfl, rfl, by decide +kernel, rfl, by decide +kernel, by decide +kernel⟩
abbrev n_bit_rows : List Str := ["numbers", "wide", "found", "bit", "number"]
theorem sc_bit_rows : FnScope n_bit_rows ["numbers", "wide"] (defScope s_bit_rows) := ⟨rfl, rfl, rfl, by decide +kernel, rfl, by decide +kernel, by decide +kernel⟩
abbrev n_H_init : List Str := ["self", "numbers", "wide", "number"]
theorem sc_H_init : FnScope n_H_init ["self", "numbers", "wide"] (defScope s_H_init) := ⟨rfl, rfl, rfl, by decide +kernel, rfl, by decide +kernel, by decide +kernel⟩
abbrev n_H_need_number : List Str := ["self", "value"]
theorem sc_H_need_number : FnScope n_H_need_number ["self", "value"] (defScope s_H_need_number) := ⟨rfl, rfl, rfl, by decide +kernel, rfl, by decide +kernel, by decide +kernel⟩
abbrev n_H_need_stretch : List Str := ["self", "first", "behind"]
theorem sc_H_need_stretch : FnScope n_H_need_stretch ["self", "first", "behind"] (defScope s_H_need_stretch) := ⟨rfl, rfl, rfl, by decide +kernel, rfl, by decide +kernel, by decide +kernel⟩
abbrev n_H_led : List Str := ["self", "level", "place", "bit", "row"]
theorem sc_H_led : FnScope n_H_led ["self", "level", "place", "bit"] (defScope s_H_led) := ⟨rfl, rfl, rfl, by decide +kernel, rfl, by decide +kernel, by decide +kernel⟩
abbrev n_H_number_at : List Str := ["self", "place", "found", "level", "bit"]
theorem sc_H_number_at : FnScope n_H_number_at ["self", "place"] (defScope s_H_number_at) := ⟨rfl, rfl, rfl, by decide +kernel, rfl, by decide +kernel, by decide +kernel⟩
abbrev n_H_numbers : List Str := ["self", "place"]
theorem sc_H_numbers : FnScope n_H_numbers ["self"] (defScope s_H_numbers) := ⟨rfl, rfl, rfl, by decide +kernel, rfl, by decide +kernel, by decide +kernel⟩
abbrev n_H_bit_of : List Str := ["self", "value", "level"]
theorem sc_H_bit_of : FnScope n_H_bit_of ["self", "value", "level"] (defScope s_H_bit_of) := ⟨rfl, rfl, rfl, by decide +kernel, rfl, by decide +kernel, by decide +kernel⟩
abbrev n_H_stretch_of : List Str := ["self", "value", "first", "behind", "level", "bit"]
theorem sc_H_stretch_of : FnScope n_H_stretch_of ["self", "value", "first", "behind"] (defScope s_H_stretch_of) := ⟨rfl, rfl, rfl, by decide +kernel, rfl, by decide +kernel, by decide +kernel⟩
abbrev n_H_count : List Str := ["self", "value", "first", "behind"]
theorem sc_H_count : FnScope n_H_count ["self", "value", "first", "behind"] (defScope s_H_count) := ⟨rfl, rfl, rfl, by decide +kernel, rfl, by decide +kernel, by decide +kernel⟩
abbrev n_H_below : List Str := ["self", "value", "first", "behind", "found", "level", "bit"]
theorem sc_H_below : FnScope n_H_below ["self", "value", "first", "behind"] (defScope s_H_below) := ⟨rfl, rfl, rfl, by decide +kernel, rfl, by decide +kernel, by decide +kernel⟩
abbrev n_H_least : List Str := ["self", "turn", "first", "behind", "found", "level", "many", "bit"]
theorem sc_H_least : FnScope n_H_least ["self", "turn", "first", "behind"] (defScope s_H_least) := ⟨rfl, rfl, rfl, by decide +kernel, rfl, by decide +kernel, by decide +kernel⟩
abbrev n_H_often : List Str := ["self", "first", "behind", "best", "waiting", "value", "level", "bit", "low"]
theorem sc_H_often : FnScope n_H_often ["self", "first", "behind"] (defScope s_H_often) := ⟨rfl, rfl, rfl, by decide +kernel, rfl, by decide +kernel, by decide +kernel⟩
abbrev n_H_place_of : List Str := ["self", "value", "turn", "first", "behind", "place", "level", "row", "bit"]
theorem sc_H_place_of : FnScope n_H_place_of ["self", "value", "turn"] (defScope s_H_place_of) := ⟨rfl, rfl, rfl, by decide +kernel, rfl, by decide +kernel, by decide +kernel⟩
abbrev n_H_put : List Str := ["self", "place", "value", "numbers", "found", "level", "row", "at", "word"]
theorem sc_H_put : FnScope n_H_put ["self", "place", "value"] (defScope s_H_put) := ⟨rfl, rfl, rfl, by decide +kernel, rfl, by decide +kernel, by decide +kernel⟩
abbrev n_H_words : List Str := ["self", "level"]
theorem sc_H_words : FnScope n_H_words ["self", "level"] (defScope s_H_words) := ⟨rfl, rfl, rfl, by decide +kernel, rfl, by decide +kernel, by decide +kernel⟩
abbrev n__law_next : List Str := ["_law_state", "_law_k", "_law_cells", "_law_base"]
theorem sc__law_next : FnScope n__law_next ["_law_state"] (defScope s__law_next) := ⟨rfl, rfl, rfl, by decide +kernel, rfl, by decide +kernel, by decide +kernel⟩
abbrev n__law_great : List Str := ["_law_state", "_law_wide", "_law_n", "_law_all_of", "_law_any_one"]
theorem sc__law_great : FnScope n__law_great ["_law_state", "_law_wide"] (defScope s__law_great) := ⟨rfl, rfl, rfl, by decide +kernel, rfl, by decide +kernel, by decide +kernel⟩
abbrev n__law_row : List Str := ["_law_state", "_law_n", "_law_wide", "_law_numbers", "_law_k", "_law_more"]
theorem sc__law_row : FnScope n__law_row ["_law_state"] (defScope s__law_row) := ⟨rfl, rfl, rfl, by decide +kernel, rfl, by decide +kernel, by decide +kernel⟩
abbrev n__law_stretch : List Str := ["_law_state", "_law_size", "_law_one", "_law_other"]
theorem sc__law_stretch : FnScope n__law_stretch ["_law_state", "_law_size"] (defScope s__law_stretch) := ⟨rfl, rfl, rfl, by decide +kernel, rfl, by decide +kernel, by decide +kernel⟩
abbrev n__law_said : List Str := ["_law_worker", "_law_caught", "_law_found", "e", "_law_some"]
theorem sc__law_said : FnScope n__law_said ["_law_worker"] (defScope s__law_said) := ⟨rfl, rfl, rfl, by decide +kernel, rfl, by decide +kernel, by decide +kernel⟩
abbrev n__law_odd : List Str := ["_law_n"]
theorem sc__law_odd : FnScope n__law_odd ["_law_n"] (defScope s__law_odd) := ⟨rfl, rfl, rfl, by decide +kernel, rfl, by decide +kernel, by decide +kernel⟩
abbrev n__law_values_refused : List Str := ["_law_row_here", "_law_size", "_law_bad", "_law_first", "_law_behind", "_law_turn"]
theorem sc__law_values_refused : FnScope n__law_values_refused ["_law_row_here", "_law_size", "_law_bad"] (defScope s__law_values_refused) := ⟨rfl, rfl, rfl, by decide +kernel, rfl, by decide +kernel, by decide +kernel⟩
abbrev n__law_stretches_refused : List Str := ["_law_row_here", "_law_size", "_law_odd_here", "_law_far", "_law_first", "_law_behind"]
theorem sc__law_stretches_refused : FnScope n__law_stretches_refused ["_law_row_here", "_law_size", "_law_odd_here", "_law_far"] (defScope s__law_stretches_refused) := ⟨rfl, rfl, rfl, by decide +kernel, rfl, by decide +kernel, by decide +kernel⟩
abbrev n_law : List Str := ["_law_script", "_law_state", "_law_numbers", "_law_wide", "_law_size", "_law_row_here", "_law_n", "_law_odd_here", "_law_far", "_law_bad", "_law_first", "_law_behind", "_law_turn", "_law_value", "_law_place", "_law_level", "_law_at", "_law_bads", "_law_some", "_law_size_of"]
theorem sc_law : FnScope n_law ["_law_script"] (defScope s_law) := ⟨rfl, rfl, rfl, by decide +kernel, rfl, by decide +kernel, by decide +kernel⟩
/-! ### values, kinds of values -/
def nV (n : Nat) : V := .int (n : Int)
def bV (b : Bool) : V := .int (b.toNat : Int)
def known : List String := ["NoneType", "bool", "int", "str", "list", "tuple", "dict"]
/-- v is of the built-in kind n -/
def TyN (K : PySem.W.Frag) (H : Hp) (v : V) (n : String) : Prop := TyX K H v (.type n) ∧ n ∈ known
def amongV (v : V) (lo hi : Int) : Bool := match v with
  | .int i => decide (lo ≤ i) && decide (i ≤ hi)
  | _ => false
theorem TyN.int {K : PySem.W.Frag} {H : Hp} (i : Int) : TyN K H (.int i) "int" := ⟨.base (.int i), by decide⟩
theorem TyN.bl {K : PySem.W.Frag} {H : Hp} (b : Bool) : TyN K H (.bl b) "bool" := ⟨.base (.bl b), by decide⟩
theorem TyN.non {K : PySem.W.Frag} {H : Hp} : TyN K H .non "NoneType" := ⟨.base .non, by decide⟩
theorem TyN.str {K : PySem.W.Frag} {H : Hp} (z : Str) : TyN K H (.str z) "str" := ⟨.base (.str z), by decide⟩
theorem TyN.lst {K : PySem.W.Frag} {H : Hp} {a : Addr} {xs : List V} (h : SqL K H a xs) : TyN K H (.ref a) "list" := by
  refine ⟨?_, by decide⟩
  rcases h with (h | ⟨o, h⟩) | ⟨o, its, n, h, c, _⟩
  · exact .base (.lst h)
  · exact .base (.frz h)
  · exact .kList h c
theorem TyN.tup {K : PySem.W.Frag} {H : Hp} {a : Addr} {xs : List V} (h : SqT K H a xs) : TyN K H (.ref a) "tuple" := by
  refine ⟨?_, by decide⟩
  rcases h with (h | ⟨o, h⟩) | ⟨o, its, n, h, c, _⟩
  · exact .base (.tup h)
  · exact .fTuple h
  · exact .kTuple h c
theorem TyN.dct {K : PySem.W.Frag} {H : Hp} {a : Addr} {kvs : List (Key × V)} (h : H a = some (.dK kvs)) : TyN K H (.ref a) "dict" := ⟨.base (.dK h), by decide⟩
theorem tyx_int0 {K : PySem.W.Frag} {H : Hp} {v : V} {t : Value} (h : TyX K H v t) (e : t = .type "int") : ∃ i, v = .int i := by
  cases h with
  | base b => cases b <;> first | exact ⟨_, rfl⟩ | (injection e with e; exact absurd e (by decide)) | cases e
  | _ => first | (injection e with e; exact absurd e (by decide)) | cases e
theorem tyx_int {K : PySem.W.Frag} {H : Hp} {v : V} {n : String} (h : TyX K H v (.type n)) (e : n = "int") : ∃ i, v = .int i := tyx_int0 h (by rw [e])
theorem tyx_of_int0 {K : PySem.W.Frag} {H : Hp} {v : V} {t : Value} (h : TyX K H v t) {i : Int} (e : v = .int i) : t = .type "int" := by
  cases h with
  | base b => cases b <;> first | rfl | cases e
  | _ => cases e
theorem tyx_of_int {K : PySem.W.Frag} {H : Hp} {i : Int} {n : String} (h : TyX K H (.int i) (.type n)) : n = "int" := by
  have e := tyx_of_int0 h rfl
  injection e
theorem kit_int {n : String} (h : n ∈ known) : kitB n "int" = some (n == "int" || n == "bool") := by
  simp only [known, List.mem_cons, List.not_mem_nil, or_false] at h
  rcases h with rfl | rfl | rfl | rfl | rfl | rfl | rfl <;> decide +kernel
theorem kit_bool {n : String} (h : n ∈ known) : kitB n "bool" = some (n == "bool") := by
  simp only [known, List.mem_cons, List.not_mem_nil, or_false] at h
  rcases h with rfl | rfl | rfl | rfl | rfl | rfl | rfl <;> decide +kernel
theorem kit_list {n : String} (h : n ∈ known) : kitB n "list" = some (n == "list") := by
  simp only [known, List.mem_cons, List.not_mem_nil, or_false] at h
  rcases h with rfl | rfl | rfl | rfl | rfl | rfl | rfl <;> decide +kernel
theorem among_not {K : PySem.W.Frag} {H : Hp} {v : V} {n : String} (h : TyN K H v n) (e : ¬ n = "int") (lo hi : Int) : amongV v lo hi = false := by
  cases v with
  | int i => exact absurd (tyx_of_int h.1) e
  | _ => rfl
theorem among_in {i lo hi : Int} (h : lo ≤ i) (h2 : i ≤ hi) : amongV (.int i) lo hi = true := by
  simp [amongV, h, h2]
theorem among_yes {v : V} {lo hi : Int} (h : amongV v lo hi = true) : ∃ i, v = .int i ∧ lo ≤ i ∧ i ≤ hi := by
  cases v with
  | int i =>
    simp only [amongV, Bool.and_eq_true, decide_eq_true_eq] at h
    exact ⟨i, rfl, h.1, h.2⟩
  | _ => simp [amongV] at h
theorem bAnd (a b : Nat) : Builtin.bitAnd (a : Int) (b : Int) = ((a &&& b : Nat) : Int) := by
  rw [PyProof.Rows.bitAnd_pp (by omega) (by omega), Int.toNat_natCast, Int.toNat_natCast]
theorem cast_pow (k : Nat) : ((2 : Int) ^ k) = ((2 ^ k : Nat) : Int) := (PySem.W.kbt_cast k).symm
theorem swar_int {n : Nat} {a b c d : Int} (ha : a = (n : Int) - Builtin.bitAnd ((n : Int) / 2 ^ (1 : Int).toNat) 1431655765)
    (hb : b = Builtin.bitAnd a 858993459 + Builtin.bitAnd (a / 2 ^ (2 : Int).toNat) 858993459) (hc : c = Builtin.bitAnd (b + b / 2 ^ (4 : Int).toNat) 252645135)
    (hd : d = c + c / 2 ^ (8 : Int).toNat) : Builtin.bitAnd (d + d / 2 ^ (16 : Int).toNat) 63 = ((swar n : Nat) : Int) := by
  have e1 : a = ((n - (n / 2 &&& 0x55555555) : Nat) : Int) := by
    have h1 : (n : Int) / 2 ^ (1 : Int).toNat = ((n / 2 : Nat) : Int) := by show (n : Int) / 2 ^ 1 = _; omega
    have h2 : (n / 2 &&& 0x55555555) ≤ n / 2 := Nat.and_le_left
    have h3 : Builtin.bitAnd ((n / 2 : Nat) : Int) 1431655765 = ((n / 2 &&& 0x55555555 : Nat) : Int) := bAnd _ 1431655765
    rw [ha, h1, h3]
    omega
  obtain ⟨an, han⟩ : ∃ an : Nat, an = n - (n / 2 &&& 0x55555555) := ⟨_, rfl⟩
  rw [← han] at e1
  have e2 : b = (((an &&& 0x33333333) + (an / 4 &&& 0x33333333) : Nat) : Int) := by
    have h1 : (an : Int) / 2 ^ (2 : Int).toNat = ((an / 4 : Nat) : Int) := by show (an : Int) / 2 ^ 2 = _; omega
    have h3 : Builtin.bitAnd ((an / 4 : Nat) : Int) 858993459 = ((an / 4 &&& 0x33333333 : Nat) : Int) := bAnd _ 858993459
    have h4 : Builtin.bitAnd (an : Int) 858993459 = ((an &&& 0x33333333 : Nat) : Int) := bAnd _ 858993459
    rw [hb, e1, h1, h3, h4]
    omega
  obtain ⟨bn, hbn⟩ : ∃ bn : Nat, bn = (an &&& 0x33333333) + (an / 4 &&& 0x33333333) := ⟨_, rfl⟩
  rw [← hbn] at e2
  have e3 : c = (((bn + bn / 16) &&& 0x0F0F0F0F : Nat) : Int) := by
    have h1 : (bn : Int) + (bn : Int) / 2 ^ (4 : Int).toNat = ((bn + bn / 16 : Nat) : Int) := by show (bn : Int) + (bn : Int) / 2 ^ 4 = _; omega
    have h3 : Builtin.bitAnd ((bn + bn / 16 : Nat) : Int) 252645135 = (((bn + bn / 16) &&& 0x0F0F0F0F : Nat) : Int) := bAnd _ 252645135
    rw [hc, e2, h1, h3]
  obtain ⟨cn, hcn⟩ : ∃ cn : Nat, cn = (bn + bn / 16) &&& 0x0F0F0F0F := ⟨_, rfl⟩
  rw [← hcn] at e3
  have e4 : d = ((cn + cn / 256 : Nat) : Int) := by
    rw [hd, e3]
    show (cn : Int) + (cn : Int) / 2 ^ 8 = _
    omega
  obtain ⟨dn, hdn⟩ : ∃ dn : Nat, dn = cn + cn / 256 := ⟨_, rfl⟩
  rw [← hdn] at e4
  have h1 : (dn : Int) + (dn : Int) / 2 ^ (16 : Int).toNat = ((dn + dn / 65536 : Nat) : Int) := by show (dn : Int) + (dn : Int) / 2 ^ 16 = _; omega
  have h3 : Builtin.bitAnd ((dn + dn / 65536 : Nat) : Int) 63 = (((dn + dn / 65536) &&& 0x3F : Nat) : Int) := bAnd _ 63
  rw [e4, h1, h3, hdn, hcn, hbn, han]
  rfl

/-! ### the promises -/
def spWhole (K : PySem.W.Frag) : Sp := fun vs H Q _ => ∃ (v : V) (n : String), vs = [v] ∧ TyN K H v n ∧ Q (.bl (n == "int")) H
def spAmong (K : PySem.W.Frag) : Sp := fun vs H Q _ => ∃ (v : V) (n : String) (lo hi : Int), vs = [v, .int lo, .int hi] ∧ TyN K H v n ∧ Q (.bl (amongV v lo hi)) H
def spOnes (K : PySem.W.Frag) (C : Addr) : Sp := fun vs H Q E => ∃ (v : V) (n : String), vs = [v] ∧ TyN K H v n ∧
  (amongV v 0 4294967295 = false → E (.ref C) none H) ∧ (∀ m : Nat, v = nV m → m < 2 ^ 32 → Q (nV (popc 32 m)) H)
def spPacked (K : PySem.W.Frag) : Sp := fun vs H Q _ => ∃ (a : Addr) (l : List Bool), vs = [.ref a] ∧ SqL K H a (l.map bV) ∧ l.length ≤ 4000 ∧
  ∀ (p : Addr) (H' : Hp), Same H H' → H p = none → H' p = some (.lst ((words l).map nV)) → Q (.ref p) H'
theorem ok_is_whole (T : Tx K mg A) : FnOk P w K mg base CX0 1 A.is_whole A.is_whole_d ["thing"] (spWhole K) := by
  refine T.is_whole.F.ok sc_is_whole (fun vs H Q E h => ?_) (fun cdv Ar outer s H vs Q E hr h => ?_)
  · obtain ⟨v, n, rfl, _⟩ := h
    rfl
  · obtain ⟨v, n, rfl, hk, k⟩ := h
    refine ⟨_, (pss_one (ps_ret (pe_and (pe_callB call_isi (by rfl) T.b_isinstance (by decide +kernel) (pa_cons (pv 0) (pa_cons (pe_bltn (u := .type "int") (v := .ty "int") (by rfl) T.b_int (by decide +kernel) rfl) pa_nil))) (pe_one (pe_not (pe_callB call_isi (by rfl) T.b_isinstance (by decide +kernel) (pa_cons (pv 0) (pa_cons (pe_bltn (u := .type "bool") (v := .ty "bool") (by rfl) T.b_bool (by decide +kernel) rfl) pa_nil)))))))), ?_⟩
    refine ⟨_, rfl, _, _, _, _, _, rfl, .ty _, hk.1, kit_ty (kit_int hk.2), _, rfl, ?_⟩
    by_cases e1 : (n == "int" || n == "bool") = true
    · rw [if_pos e1]
      refine ⟨_, rfl, _, _, _, _, _, rfl, .ty _, hk.1, kit_ty (kit_bool hk.2), _, rfl, ?_⟩
      have e2 : (!(n == "bool")) = (n == "int") := by
        by_cases h1 : n = "bool"
        · subst h1; rfl
        · have h2 : n = "int" := by simpa [h1] using e1
          subst h2; rfl
      show Q (.bl (!(n == "bool"))) H
      rw [e2]
      exact k
    · rw [if_neg e1]
      have e2 : (n == "int") = false := by
        cases h : (n == "int") with
        | false => rfl
        | true => rw [h] at e1; exact absurd rfl e1
      rw [e2] at k
      exact k
theorem ok_is_among (T : Tx K mg A) : FnOk P w K mg base CX0 2 A.is_among A.is_among_d ["thing", "least", "most"] (spAmong K) := by
  refine T.is_among.F.ok sc_is_among (fun vs H Q E h => ?_) (fun cdv Ar outer s H vs Q E hr h => ?_)
  · obtain ⟨v, n, lo, hi, rfl, _⟩ := h
    rfl
  · obtain ⟨v, n, lo, hi, rfl, hk, k⟩ := h
    refine ⟨_, (pss_one (ps_ret (pe_and (pe_call (E := E0) (ok_is_whole T) (hr.mono (by decide)) rfl T.is_whole.g T.is_whole.F.kp T.is_whole.b .nil pass0 (pa_cons (pv 0) pa_nil)) (pe_one (pe_chain op_le op_le (pv 1) (pv 0) (pv 2)))))), ?_⟩
    refine ⟨_, rfl, v, n, rfl, hk, _, rfl, ?_⟩
    by_cases e1 : n = "int"
    · obtain ⟨i, rfl⟩ := tyx_int hk.1 e1
      rw [if_pos (by rw [e1]; rfl)]
      refine ⟨_, rfl, _, rfl, _, _, rfl, rfl, _, rfl, ?_⟩
      by_cases h1 : lo ≤ i
      · rw [if_pos (decide_eq_true h1)]
        refine ⟨_, rfl, _, _, rfl, rfl, ?_⟩
        have e : amongV (.int i) lo hi = decide (i ≤ hi) := by simp [amongV, h1]
        rw [e] at k
        exact k
      · rw [if_neg (by simp [h1])]
        have e : amongV (.int i) lo hi = false := by simp [amongV, h1]
        rw [e] at k
        exact k
    · rw [if_neg (by simpa using e1)]
      rw [among_not hk e1] at k
      exact k
theorem ok_ones_in (T : Tx K mg A) : FnOk P w K mg base (L2.CX P w) 3 A.ones_in A.ones_in_d ["word"] (spOnes K A.xBadRow) := by
  refine T.ones_in.F.okX sc_ones_in (fun vs H Q E h => ?_) (fun cdv Ar outer s H vs Q E hr h => ?_)
  · obtain ⟨v, n, rfl, _⟩ := h
    rfl
  · obtain ⟨v, n, rfl, hk, kE, kQ⟩ := h
    refine ⟨_, (pss_cons (ps_if (pt_not (pt_val (pe_call (E := E0) (ok_is_among T) (hr.mono (by decide)) rfl T.is_among.g T.is_among.F.kp T.is_among.b .nil pass0 (pa_cons (pv 0) (pa_cons pe_int (pa_cons (pe_op op_sub (pe_op op_shl pe_int (pe_glob (v := V.int 32) rfl T.kWORD.choose_spec ⟨_, rfl⟩)) pe_int) pa_nil)))))) (pss_one (ps_raise rfl (takes_of rfl rfl rfl rfl) (pmk_own PySem.F.excBase_ValueError T.xBadRow.x T.xBadRow.g T.xBadRow.k (raises_own T.xBadRow.b T.xBadRow.t) rfl))) pss_nil)
      (PSs.nox (pss_cons (ps_set (i := 0) sc_ones_in.nd rfl (by first | exact Or.inl rfl | exact Or.inr rfl) (pe_op op_sub (pv 0) (pe_op op_and (pe_op op_shr (pv 0) pe_int) pe_int)))
      (pss_cons (ps_set (i := 0) sc_ones_in.nd rfl (by first | exact Or.inl rfl | exact Or.inr rfl) (pe_op op_add (pe_op op_and (pv 0) pe_int) (pe_op op_and (pe_op op_shr (pv 0) pe_int) pe_int)))
      (pss_cons (ps_set (i := 0) sc_ones_in.nd rfl (by first | exact Or.inl rfl | exact Or.inr rfl) (pe_op op_and (pe_op op_add (pv 0) (pe_op op_shr (pv 0) pe_int)) pe_int))
      (pss_cons (ps_set (i := 0) sc_ones_in.nd rfl (by first | exact Or.inl rfl | exact Or.inr rfl) (pe_op op_add (pv 0) (pe_op op_shr (pv 0) pe_int)))
      (pss_one (ps_ret (pe_op op_and (pe_op op_add (pv 0) (pe_op op_shr (pv 0) pe_int)) pe_int))))))))), ?_⟩
    refine ⟨_, rfl, _, _, rfl, rfl, ⟨by decide, by decide, by decide⟩, _, _, rfl, rfl, v, n, _, _, rfl, hk, _, rfl, ?_⟩
    have e0 : ((1 : Int) * 2 ^ (32 : Int).toNat - 1) = 4294967295 := by decide
    rw [e0]
    by_cases c : amongV v 0 4294967295 = true
    · rw [c]
      refine iteF ?_
      obtain ⟨i, rfl, i0, i1⟩ := among_yes c
      obtain ⟨m, rfl⟩ := Int.eq_ofNat_of_zero_le i0
      have hm : m < 2 ^ 32 := by omega
      refine ⟨_, rfl, _, rfl, _, _, rfl, rfl, (by show (0 : Int) ≤ _; decide), _, _, rfl, rfl, _, _, rfl, rfl, ?_⟩
      refine ⟨_, rfl, _, _, rfl, rfl, _, rfl, _, _, rfl, rfl, (by show (0 : Int) ≤ _; decide), _, _, rfl, rfl, _, _, rfl, rfl, ?_⟩
      refine ⟨_, rfl, _, rfl, _, _, rfl, rfl, (by show (0 : Int) ≤ _; decide), _, _, rfl, rfl, _, _, rfl, rfl, ?_⟩
      refine ⟨_, rfl, _, rfl, _, _, rfl, rfl, (by show (0 : Int) ≤ _; decide), _, _, rfl, rfl, ?_⟩
      refine ⟨_, rfl, _, rfl, _, _, rfl, rfl, (by show (0 : Int) ≤ _; decide), _, _, rfl, rfl, _, _, rfl, rfl, ?_⟩
      have q := kQ m rfl hm
      rw [← swar_eq hm] at q
      have e := swar_int (n := m) rfl rfl rfl rfl
      refine cast ?_ q
      unfold nV
      rw [← e]
    · have c' : amongV v 0 4294967295 = false := by simpa using c
      rw [c']
      refine iteT ?_
      exact kE c'
theorem bOr_bit {w k : Nat} (b : Bool) (h : w < 2 ^ k) : Builtin.bitOr (w : Int) ((b.toNat : Int) * 2 ^ k) = ((w + b.toNat * 2 ^ k : Nat) : Int) := by
  rw [Bits.bitOr_join (by omega) (by rw [cast_pow]; omega) (by omega), cast_pow]
  simp
theorem words_nil : words [] = [] := by decide
theorem ixN_m1 {n : Nat} (h : 0 < n) : ixN n (-1) = some (n - 1) := by
  unfold ixN
  rw [if_neg (by decide), if_pos (by omega)]
  congr 1
  omega
theorem atI_m1 {α : Type} {xs : List α} {v : α} (h : xs[xs.length - 1]? = some v) : atI xs (-1) = some v := by
  have hl : 0 < xs.length := by
    have := (List.getElem?_eq_some_iff.mp h).1
    omega
  unfold atI
  rw [ixN_m1 hl]
  exact h
theorem ok_packed (T : Tx K mg A) : FnOk P w K mg base CX0 1 A.packed A.packed_d ["bits"] (spPacked K) := by
  refine T.packed.F.ok sc_packed (fun vs H Q E h => ?_) (fun cdv Ar outer s H vs Q E hr h => ?_)
  · obtain ⟨a, l, rfl, _⟩ := h
    rfl
  · obtain ⟨a, l, rfl, hS, hl, k⟩ := h
    refine ⟨_, (pss_cons (ps_set (i := 1) sc_packed.nd rfl (by first | exact Or.inl rfl | exact Or.inr rfl) (pe_lst pa_nil))
      (pss_cons (ps_for PassesOwn.never rfl (pi_enum (by rfl) T.b_enumerate (pa_cons (pv 0) pa_nil)) (pg_tup (by rfl) (pgs_cons (pg_name (i := 2) sc_packed.nd rfl (by first | exact Or.inl rfl | exact Or.inr rfl)) (pgs_cons (pg_name (i := 3) sc_packed.nd rfl (by first | exact Or.inl rfl | exact Or.inr rfl)) pgs_nil))) (pss_cons (ps_if (pt_cmpR op_eq (pe_op op_mod (pv 2) (pe_glob (v := V.int 32) rfl T.kWORD.choose_spec ⟨_, rfl⟩)) pe_int (nomark _)) (pss_one (ps_expr (pe_bm PySem.F.plainAttrs_list PySem.F.slot_list_append PySem.F.type_list_append mt_append (pv 1) (pa_cons pe_int pa_nil)))) pss_nil)
      (pss_one (ps_asg (pe_op op_or (pe_ix ix_list (pv 1) (pe_un un_neg pe_int) (fun _ _ => rfl)) (pe_op op_shl (pv 3) (pe_op op_mod (pv 2) (pe_glob (v := V.int 32) rfl T.kWORD.choose_spec ⟨_, rfl⟩)))) (pg_sub (pv 1) (pe_un un_neg pe_int) set_list)))))
      (pss_one (ps_ret (pv 1))))), ?_⟩
    refine ⟨Nat.zero_le _, fun p hp => ?_⟩
    refine ⟨_, rfl, a, _, rfl, (Same.seq (fun b o e => by rw [upd_ne (ne_of_none e hp)]; exact e) hS), for_it (walk_enum (xs := l.map bV))
      (fun i σ H2 => ∃ (u v : Option V), σ = [some (.ref a), some (.ref p), u, v] ∧ Same H H2 ∧ H2 p = some (.lst ((words (l.take i)).map nV)))
      ⟨none, none, rfl, fun b o e => by rw [upd_ne (ne_of_none e hp)]; exact e, by rw [upd_same, List.take_zero, words_nil]; rfl⟩ (fun i σ H2 _ ⟨_, _, _, s2, _⟩ => s2.seq hS) ?_ ?_⟩
    · rintro i x σ H2 H3 hi ⟨u, v, rfl, s2, h2⟩ ⟨t, x1, y1, rfl, ht, rfl, e1, e2⟩
      cases e1
      rw [List.length_map] at hi
      have hb : (l.map bV)[i]? = some (bV l[i]) := by rw [List.getElem?_map, List.getElem?_eq_getElem hi]; rfl
      have e2 : bV l[i] = y1 := Option.some.inj (hb.symm.trans e2)
      subst e2
      have npt : p ≠ t := ne_of_none h2 ht
      have s3 : Same H (upd H2 t (.tup [.int (i : Nat), bV l[i]])) := fun b o e => by
        rw [upd_ne (ne_of_none (s2 _ _ e) ht)]
        exact s2 _ _ e
      have h3 : upd H2 t (.tup [.int (i : Nat), bV l[i]]) p = some (.lst ((words (l.take i)).map nV)) := by rw [upd_ne npt]; exact h2
      have len : (l.take i).length = i := by rw [List.length_take]; omega
      have tk : l.take (i + 1) = l.take i ++ [l[i]] := by rw [List.take_add_one, List.getElem?_eq_getElem hi]; rfl
      have hbb := toNat_lt2 l[i]
      refine ⟨t, _, rfl, SqT.of upd_same, rfl, _, _, rfl, _, _, rfl, rfl, ?_⟩
      refine ⟨_, rfl, _, _, rfl, rfl, (by show (0 : Int) < 32; decide), rfl, _, rfl, ?_⟩
      have hmod : ((i : Int) % 32).toNat = i % 32 := by omega
      refine ite2 (fun c => ?_) (fun c => ?_)
      · -- a new word
        have c' : (l.take i).length % 32 = 0 := by
          have q : V.int (((i : Nat) : Int) % 32) = V.int 0 := of_decide_eq_true c
          injection q with q
          omega
        refine ⟨_, rfl, .inl ⟨rfl, _, SqL.of h3⟩, p, _, _, rfl, rfl, h3, ?_, ?_⟩
        · rw [List.length_map, words_len, len]
          exact Nat.lt_of_le_of_lt (show wn i ≤ 200 by unfold wn; omega) (by decide)
        refine ⟨_, rfl, _, rfl, p, _, _, (.int 0), rfl, rfl, SqL.of upd_same, atI_last _ _, _, rfl, _, rfl, _, _, rfl, rfl, (by show (0 : Int) < 32; decide), _, _, rfl, rfl, ⟨by omega, by omega, by omega⟩, _, _, rfl, rfl, ?_⟩
        refine ⟨_, rfl, _, rfl, p, _, _, _, rfl, rfl, upd_same, ixN_m1 (by rw [List.length_append]; exact Nat.succ_pos _), ?_⟩
        have hb2 := bOr_bit (w := 0) (k := 0) l[i] (Nat.two_pow_pos _)
        refine ⟨_, _, rfl, fun b o e => ?_, ?_⟩
        · have np : b ≠ p := ne_of_none e hp
          rw [upd_ne np, upd_ne np]
          exact s3 _ _ e
        · rw [upd_same, tk, words_new c', hmod, show i % 32 = 0 by omega, List.length_append, List.length_singleton, Nat.add_sub_cancel, List.set_append_right _ _ (Nat.le_refl _), Nat.sub_self, List.map_append]
          simp at hb2
          show some (HO.lst (_ ++ [V.int (Builtin.bitOr 0 ((l[i].toNat : Int) * 1))])) = _
          rw [Int.mul_one, hb2]
          rfl
      · have c' : (l.take i).length % 32 ≠ 0 := by
          intro z
          apply c
          have e : ((i : Nat) : Int) % 32 = 0 := by omega
          show decide (V.int (((i : Nat) : Int) % 32) = V.int 0) = true
          rw [e]
          rfl
        have hl2 := words_last c'
        have hlen : 0 < ((words (l.take i)).map nV).length := by rw [List.length_map, words_len]; unfold wn; omega
        refine ⟨_, rfl, _, rfl, p, _, _, _, rfl, rfl, SqL.of h3, atI_m1 (v := nV (wordOf ((l.take i).drop (32 * (wn (l.take i).length - 1))))) ?_, _, rfl, _, rfl, _, _, rfl, rfl, (by show (0 : Int) < 32; decide), _, _, rfl, rfl, ⟨by omega, by omega, by omega⟩, _, _, rfl, rfl, ?_⟩
        · rw [List.length_map, words_len, List.getElem?_map, hl2]
          rfl
        refine ⟨_, rfl, _, rfl, p, _, _, _, rfl, rfl, h3, ixN_m1 hlen, ?_⟩
        have hb2 := bOr_bit (k := (l.take i).length % 32) l[i] (last_lt c')
        refine ⟨_, _, rfl, fun b o e => ?_, ?_⟩
        · rw [upd_ne (ne_of_none e hp)]
          exact s3 _ _ e
        · rw [upd_same, tk, words_on c', hmod, List.length_map, words_len, List.map_set]
          rw [len] at hb2 ⊢
          show some (HO.lst (((words (l.take i)).map nV).set _ (V.int (Builtin.bitOr (wordOf ((l.take i).drop (32 * (wn i - 1))) : Int) ((l[i].toNat : Int) * 2 ^ (i % 32)))))) = _
          rw [hb2]
          rfl
    · rintro σ H2 ⟨u, v, rfl, s2, h2⟩
      rw [List.length_map, List.take_length] at h2
      refine ⟨_, rfl, ?_⟩
      exact k p _ s2 hp h2

/-! ### comprehensions whose elements are reckoned apart -/
theorem same_new {H H' : Hp} {p : Addr} {o : HO} (s : Same H H') (h : H' p = none) : Same H (upd H' p o) := fun b u e => by
  rw [upd_ne (ne_of_none (s _ _ e) h)]
  exact s _ _ e
theorem same_mut {H H' : Hp} {p : Addr} {o : HO} (s : Same H H') (h : H p = none) : Same H (upd H' p o) := fun b u e => by
  rw [upd_ne (ne_of_none e h)]
  exact s _ _ e
theorem seqT_of {K : PySem.W.Frag} {H H' : Hp} {a : Addr} {xs : List V} (e : Same H H') (h : SqT K H a xs) : SqT K H' a xs := by
  rcases h with (h | ⟨o, h⟩) | h
  · exact .inl (.inl (e _ _ h))
  · exact .inl (.inr ⟨o, e _ _ h⟩)
  · exact .inr h
theorem tyx_same {K : PySem.W.Frag} {H H' : Hp} {v : V} {t : Value} (s : Same H H') (h : TyX K H v t) : TyX K H' v t := by
  cases h with
  | base b => exact .base (by
      cases b with
      | non => exact .non
      | bl x => exact .bl x
      | int i => exact .int i
      | str x => exact .str x
      | flt x => exact .flt x
      | lst e => exact .lst (s _ _ e)
      | frz e => exact .frz (s _ _ e)
      | tup e => exact .tup (s _ _ e)
      | dK e => exact .dK (s _ _ e)
      | dT e => exact .dT (s _ _ e)
      | ins e cl ha hn htk hm => exact .ins (s _ _ e) cl ha hn htk hm)
  | byt b => exact .byt b
  | set e => exact .set (s _ _ e)
  | kList e c => exact .kList e c
  | kTuple e c => exact .kTuple e c
  | kDict e c => exact .kDict e c
  | fTuple e => exact .fTuple (s _ _ e)
  | fDict e => exact .fDict (s _ _ e)
theorem TyN.same {K : PySem.W.Frag} {H H' : Hp} {v : V} {n : String} (s : Same H H') (h : TyN K H v n) : TyN K H' v n := ⟨tyx_same s h.1, h.2⟩
theorem line5 {n : Nat} (h : n ≤ 100000) : n < sizeLine := Nat.lt_of_le_of_lt h (by decide)
/-- in a comprehension's block the written part is the def's -/
theorem pe_fldK {X : Cx} {KK : PySem.W.Frag} {e : Expr} {f : Str} {pos : Pos} {ta : TE} (hK : X.K = KK) (he : PE X e ta) (hb : attributeBase e f X.env (eval e X.env) = eval e X.env) : PE X (.Attribute e f pos) (tFld KK ta f) := by
  subst hK
  exact pe_fld he hb
abbrev rLenK (K : PySem.W.Frag) : List V → Hp → VK → Prop := fun xs H Q => ∃ p ys, xs = [.ref p] ∧ (SqL K H p ys ∨ SqT K H p ys) ∧ Q (.int ys.length) H
theorem tYes_i {σ : St} {H : Hp} {Q : Bool → Hp → Prop} (h : Q true H) : tYes σ H Q := h
/-- [e for x in xs] -/
theorem lc_map {a : Addr} {xs : List V} {te : TE} {vs : List Nat} {j : Nat} {σ : St} {H1 : Hp} {D : Addr} {Qd : Hp → Prop} (f : V → V) (hq : SqL K H1 a xs) (hz : xs.length ≤ 100000) (hD : H1 D = none)
    (hw : ∀ x, wipe ((wipe σ vs).set j (some x)) vs = wipe σ vs)
    (he : ∀ (i : Nat) (x : V) (H' : Hp), xs[i]? = some x → Same H1 H' → ∀ Q : VK, (∀ H'', Same H' H'' → Q (f x) H'') → te ((wipe σ vs).set j (some x)) H' Q)
    (hd : ∀ H', Same H1 H' → H' D = some (.lst (xs.map f)) → Qd H') :
    ∃ W : Nat → Nat → Hp → Prop, (∃ m, W 0 m (upd H1 D (.lst []))) ∧ ∀ i m H, W i m H →
      ((Itl K a).stop i H ∧ Qd H) ∨ ((Itl K a).go i H ∧ ∃ Nx : Hp → Prop, (∀ H', Nx H' → ∃ m', m' < m ∧ W (i + 1) m' H') ∧ ∀ x H', (Itl K a).yld i H x H' → gName j x (wipe σ vs) H' fun σ2 H2 => wipe σ2 vs = wipe σ vs ∧ tYes σ2 H2 fun b H3 =>
        if b = true then te σ2 H3 fun y H4 => ∃ acc, H4 D = some (.lst acc) ∧ acc.length < sizeLine ∧ Nx (upd H4 D (.lst (acc ++ [y]))) else Nx H3) := by
  refine lc_list (K := K) (a := a) (xs := xs) (fun i H => Same H1 H ∧ H D = some (.lst ((xs.take i).map f))) ⟨same_mut (Same.refl _) hD, by rw [upd_same]; rfl⟩ (fun i H _ h => h.1.seq hq) (fun i x H hi h => ?_) (fun H h => hd H h.1 (by rw [h.2, List.take_length]))
  refine ⟨hw x, ?_⟩
  refine tYes_i ?_
  rw [if_pos rfl]
  have hil : i < xs.length := (List.getElem?_eq_some_iff.mp hi).1
  refine he i x H hi h.1 _ fun H'' s2 => ⟨(xs.take i).map f, s2 _ _ h.2, ?_, same_mut (h.1.trans s2) hD, ?_⟩
  · rw [List.length_map, List.length_take]
    exact line5 (by omega)
  · rw [upd_same, List.take_add_one, hi, List.map_append]
    rfl
/-- [e for x in range(n)] -/
theorem lc_rng {te : TE} {vs : List Nat} {j : Nat} {n : Nat} {σ : St} {H1 : Hp} {D : Addr} {Qd : Hp → Prop} (f : Nat → V) (hz : n ≤ 100000) (hD : H1 D = none)
    (hw : ∀ x, wipe ((wipe σ vs).set j (some x)) vs = wipe σ vs)
    (he : ∀ (i : Nat) (H' : Hp), i < n → Same H1 H' → ∀ Q : VK, (∀ H'', Same H' H'' → Q (f i) H'') → te ((wipe σ vs).set j (some (.int (i : Nat)))) H' Q)
    (hd : ∀ H', Same H1 H' → H' D = some (.lst ((List.range n).map f)) → Qd H') :
    ∃ W : Nat → Nat → Hp → Prop, (∃ m, W 0 m (upd H1 D (.lst []))) ∧ ∀ i m H, W i m H →
      ((Itr 0 n).stop i H ∧ Qd H) ∨ ((Itr 0 n).go i H ∧ ∃ Nx : Hp → Prop, (∀ H', Nx H' → ∃ m', m' < m ∧ W (i + 1) m' H') ∧ ∀ x H', (Itr 0 n).yld i H x H' → gName j x (wipe σ vs) H' fun σ2 H2 => wipe σ2 vs = wipe σ vs ∧ tYes σ2 H2 fun b H3 =>
        if b = true then te σ2 H3 fun y H4 => ∃ acc, H4 D = some (.lst acc) ∧ acc.length < sizeLine ∧ Nx (upd H4 D (.lst (acc ++ [y]))) else Nx H3) := by
  refine lc_range (lo := 0) (n := n) (fun i H => Same H1 H ∧ H D = some (.lst ((List.range i).map f))) ⟨same_mut (Same.refl _) hD, by rw [upd_same]; rfl⟩ (fun i H hi h => ?_) (fun H h => hd H h.1 h.2)
  refine ⟨hw _, ?_⟩
  refine tYes_i ?_
  rw [if_pos rfl]
  have e0 : (0 : Int) + (i : Nat) = ((i : Nat) : Int) := by omega
  rw [e0]
  refine he i H hi h.1 _ fun H'' s2 => ⟨(List.range i).map f, s2 _ _ h.2, ?_, same_mut (h.1.trans s2) hD, ?_⟩
  · rw [List.length_map, List.length_range]
    exact line5 (by omega)
  · rw [upd_same, List.range_succ, List.map_append]
    rfl
/-- [x for x in xs if t] -/
theorem lc_filt {a : Addr} {xs : List V} {tt : TT} {vs : List Nat} {j : Nat} {σ : St} {H1 : Hp} {D : Addr} {Qd : Hp → Prop} {te : TE} (f : V → Bool) (hq : SqL K H1 a xs) (hz : xs.length ≤ 100000) (hD : H1 D = none)
    (hw : ∀ x, wipe ((wipe σ vs).set j (some x)) vs = wipe σ vs)
    (ht : ∀ (i : Nat) (x : V) (H' : Hp), xs[i]? = some x → Same H1 H' → ∀ Q : Bool → Hp → Prop, (∀ H'', Same H' H'' → Q (f x) H'') → tt ((wipe σ vs).set j (some x)) H' Q)
    (he : ∀ (i : Nat) (x : V) (H' : Hp), xs[i]? = some x → Same H1 H' → ∀ Q : VK, Q x H' → te ((wipe σ vs).set j (some x)) H' Q)
    (hd : ∀ H', Same H1 H' → H' D = some (.lst (xs.filter f)) → Qd H') :
    ∃ W : Nat → Nat → Hp → Prop, (∃ m, W 0 m (upd H1 D (.lst []))) ∧ ∀ i m H, W i m H →
      ((Itl K a).stop i H ∧ Qd H) ∨ ((Itl K a).go i H ∧ ∃ Nx : Hp → Prop, (∀ H', Nx H' → ∃ m', m' < m ∧ W (i + 1) m' H') ∧ ∀ x H', (Itl K a).yld i H x H' → gName j x (wipe σ vs) H' fun σ2 H2 => wipe σ2 vs = wipe σ vs ∧ tt σ2 H2 fun b H3 =>
        if b = true then te σ2 H3 fun y H4 => ∃ acc, H4 D = some (.lst acc) ∧ acc.length < sizeLine ∧ Nx (upd H4 D (.lst (acc ++ [y]))) else Nx H3) := by
  refine lc_list (K := K) (a := a) (xs := xs) (fun i H => Same H1 H ∧ H D = some (.lst ((xs.take i).filter f))) ⟨same_mut (Same.refl _) hD, by rw [upd_same]; rfl⟩ (fun i H _ h => h.1.seq hq) (fun i x H hi h => ?_) (fun H h => hd H h.1 (by rw [h.2, List.take_length]))
  refine ⟨hw x, ?_⟩
  have hil : i < xs.length := (List.getElem?_eq_some_iff.mp hi).1
  have tk : xs.take (i + 1) = xs.take i ++ [x] := by rw [List.take_add_one, hi]; rfl
  refine ht i x H hi h.1 _ fun H'' s2 => ?_
  cases hf : f x with
  | true =>
    rw [if_pos rfl]
    refine he i x H'' hi (h.1.trans s2) _ ⟨(xs.take i).filter f, s2 _ _ h.2, ?_, same_mut (h.1.trans s2) hD, ?_⟩
    · have := List.length_filter_le f (xs.take i)
      rw [List.length_take] at this
      exact line5 (by omega)
    · rw [upd_same, tk, List.filter_append]
      simp [hf]
  | false =>
    rw [if_neg Bool.false_ne_true]
    refine ⟨h.1.trans s2, ?_⟩
    rw [s2 _ _ h.2, tk, List.filter_append]
    simp [hf]
/-- [i for i in range(n) if t] -/
theorem lc_rngf {te : TE} {tt : TT} {vs : List Nat} {j : Nat} {n : Nat} {σ : St} {H1 : Hp} {D : Addr} {Qd : Hp → Prop} (f : Nat → Bool) (hz : n ≤ 100000) (hD : H1 D = none)
    (hw : ∀ x, wipe ((wipe σ vs).set j (some x)) vs = wipe σ vs)
    (ht : ∀ (i : Nat) (H' : Hp), i < n → Same H1 H' → ∀ Q : Bool → Hp → Prop, (∀ H'', Same H' H'' → Q (f i) H'') → tt ((wipe σ vs).set j (some (.int (i : Nat)))) H' Q)
    (he : ∀ (i : Nat) (H' : Hp), i < n → Same H1 H' → ∀ Q : VK, Q (nV i) H' → te ((wipe σ vs).set j (some (.int (i : Nat)))) H' Q)
    (hd : ∀ H', Same H1 H' → H' D = some (.lst (((List.range n).filter f).map nV)) → Qd H') :
    ∃ W : Nat → Nat → Hp → Prop, (∃ m, W 0 m (upd H1 D (.lst []))) ∧ ∀ i m H, W i m H →
      ((Itr 0 n).stop i H ∧ Qd H) ∨ ((Itr 0 n).go i H ∧ ∃ Nx : Hp → Prop, (∀ H', Nx H' → ∃ m', m' < m ∧ W (i + 1) m' H') ∧ ∀ x H', (Itr 0 n).yld i H x H' → gName j x (wipe σ vs) H' fun σ2 H2 => wipe σ2 vs = wipe σ vs ∧ tt σ2 H2 fun b H3 =>
        if b = true then te σ2 H3 fun y H4 => ∃ acc, H4 D = some (.lst acc) ∧ acc.length < sizeLine ∧ Nx (upd H4 D (.lst (acc ++ [y]))) else Nx H3) := by
  refine lc_range (lo := 0) (n := n) (fun i H => Same H1 H ∧ H D = some (.lst (((List.range i).filter f).map nV))) ⟨same_mut (Same.refl _) hD, by rw [upd_same]; rfl⟩ (fun i H hi h => ?_) (fun H h => hd H h.1 h.2)
  refine ⟨hw _, ?_⟩
  have e0 : (0 : Int) + (i : Nat) = ((i : Nat) : Int) := by omega
  rw [e0]
  refine ht i H hi h.1 _ fun H'' s2 => ?_
  cases hf : f i with
  | true =>
    rw [if_pos rfl]
    refine he i H'' hi (h.1.trans s2) _ ⟨((List.range i).filter f).map nV, s2 _ _ h.2, ?_, same_mut (h.1.trans s2) hD, ?_⟩
    · have := List.length_filter_le f (List.range i)
      rw [List.length_range] at this
      rw [List.length_map]
      exact line5 (by omega)
    · rw [upd_same, List.range_succ, List.filter_append]
      simp [hf]
  | false =>
    rw [if_neg Bool.false_ne_true]
    refine ⟨h.1.trans s2, ?_⟩
    rw [s2 _ _ h.2, List.range_succ, List.filter_append]
    simp [hf]

/-! ### a row of bits: the object -/
theorem f_sp : ¬ (("size" : Str) = "packs") := by decide +kernel
theorem f_sh : ¬ (("size" : Str) = "heads") := by decide +kernel
theorem f_ph : ¬ (("packs" : Str) = "heads") := by decide +kernel
theorem f_hp : ¬ (("heads" : Str) = "packs") := by decide +kernel
def brf (n : Nat) (a b : Addr) : List (Str × V) := putF "heads" (.ref b) (putF "packs" (.ref a) (putF "size" (.int (n : Int)) []))
theorem brf_size (n : Nat) (a b : Addr) : (brf n a b).lookup ("size" : Str) = some (.int (n : Int)) := by
  unfold brf
  rw [lookup_putF, if_neg f_sh, lookup_putF, if_neg f_sp, lookup_putF, if_pos rfl]
theorem brf_packs (n : Nat) (a b : Addr) : (brf n a b).lookup ("packs" : Str) = some (.ref a) := by
  unfold brf
  rw [lookup_putF, if_neg f_ph, lookup_putF, if_pos rfl]
theorem brf_heads (n : Nat) (a b : Addr) : (brf n a b).lookup ("heads" : Str) = some (.ref b) := by
  unfold brf
  rw [lookup_putF, if_pos rfl]
theorem brf_no (n : Nat) (a b : Addr) {m : Str} (h1 : ¬ m = "heads") (h2 : ¬ m = "packs") (h3 : ¬ m = "size") : (brf n a b).lookup m = none := by
  unfold brf
  rw [lookup_putF, if_neg h1, lookup_putF, if_neg h2, lookup_putF, if_neg h3]
  rfl
structure BRowAt (C : Addr) (H : Hp) (p a b : Addr) (l : List Bool) : Prop where
  ob : ∃ dx, H p = some (.ins C dx (brf l.length a b))
  pk : H a = some (.lst ((words l).map nV))
  hd : H b = some (.lst ((marks l).map nV))
  ne : a ≠ b
  len : l.length ≤ 4000
def BRow (C : Addr) (H : Hp) (p : Addr) (l : List Bool) : Prop := ∃ a b, BRowAt C H p a b l
theorem BRowAt.same {C : Addr} {H H' : Hp} {p a b : Addr} {l : List Bool} (s : Same H H') (R : BRowAt C H p a b l) : BRowAt C H' p a b l :=
  ⟨R.ob.imp fun _ h => s _ _ h, s _ _ R.pk, s _ _ R.hd, R.ne, R.len⟩
theorem BRow.same {C : Addr} {H H' : Hp} {p : Addr} {l : List Bool} (s : Same H H') (R : BRow C H p l) : BRow C H' p l := by
  obtain ⟨a, b, R⟩ := R
  exact ⟨a, b, R.same s⟩
/-- all but the object at p stands as before -/
def Keep (p : Addr) (H H' : Hp) : Prop := ∀ b o, H b = some o → b ≠ p → H' b = some o
theorem Keep.upd {p : Addr} {H H' : Hp} (k : Keep p H H') (o : HO) : Keep p H (upd H' p o) := fun b u e n => by
  rw [upd_ne n]
  exact k b u e n
theorem Keep.same {p : Addr} {H H' H'' : Hp} (k : Keep p H H') (s : Same H' H'') : Keep p H H'' := fun b u e n => s _ _ (k b u e n)
theorem keep_of {p : Addr} {H H' : Hp} (s : Same H H') : Keep p H H' := fun b u e _ => s _ _ e
theorem Keep.trans {p : Addr} {H H' H'' : Hp} (k : Keep p H H') (s : Keep p H' H'') : Keep p H H'' := fun b u e n => s _ _ (k b u e n) n
/-- the heap without one object -/
def off (q : Addr) (H : Hp) : Hp := fun b => if b = q then none else H b
theorem off_q {q : Addr} {H : Hp} : off q H q = none := by
  unfold off
  rw [if_pos rfl]
theorem off_ne {q b : Addr} {H : Hp} (h : b ≠ q) : off q H b = H b := by
  unfold off
  rw [if_neg h]
theorem off_same {q : Addr} {H : Hp} : Same (off q H) H := fun b o e => by
  by_cases h : b = q
  · rw [h, off_q] at e
    cases e
  · rw [off_ne h] at e
    exact e
theorem same_off {q : Addr} {B H : Hp} (s : Same B H) (h : B q = none) : Same B (off q H) := fun b o e => by
  rw [off_ne (ne_of_none e h)]
  exact s _ _ e
theorem sql_keep {K : PySem.W.Frag} {H H' : Hp} {p a C dx : Addr} {fs : List (Str × V)} {xs : List V} (k : Keep p H H') (hp : H p = some (.ins C dx fs)) (h : SqL K H a xs) : SqL K H' a xs := by
  rcases h with (h | ⟨o, h⟩) | h
  · exact .inl (.inl (k _ _ h (ne_of h hp (by intro z; cases z))))
  · exact .inl (.inr ⟨o, k _ _ h (ne_of h hp (by intro z; cases z))⟩)
  · exact .inr h
theorem bits_of : ∀ {xs : List V}, (∀ x ∈ xs, amongV x 0 1 = true) → ∃ l : List Bool, xs = l.map bV
  | [], _ => ⟨[], rfl⟩
  | x :: xs, h => by
    obtain ⟨l, e⟩ := bits_of (xs := xs) fun y hy => h y (List.mem_cons_of_mem _ hy)
    obtain ⟨i, rfl, h0, h1⟩ := among_yes (h x List.mem_cons_self)
    by_cases e0 : i = 0
    · exact ⟨false :: l, by rw [e, e0]; rfl⟩
    · have e1 : i = 1 := by omega
      exact ⟨true :: l, by rw [e, e1]; rfl⟩
theorem bV_among (b : Bool) : amongV (bV b) 0 1 = true := by cases b <;> decide

def spBInit (K : PySem.W.Frag) (C X : Addr) : Sp := fun vs H Q E => ∃ (p dx : Addr) (v : V) (n : String), vs = [.ref p, v] ∧ H p = some (.ins C dx []) ∧ TyN K H v n ∧
  (n ≠ "list" → ∀ H', Same H H' → E (.ref X) none H') ∧
  (n = "list" → ∃ (a : Addr) (xs : List V), v = .ref a ∧ SqL K H a xs ∧ (∀ x ∈ xs, ∃ m, TyN K H x m) ∧
    ((4000 < xs.length ∨ ∃ x ∈ xs, amongV x 0 1 = false) → ∀ H', Same H H' → E (.ref X) none H') ∧
    (∀ l : List Bool, xs = l.map bV → l.length ≤ 4000 → ∀ (H' : Hp) (q b : Addr), Keep p H H' → H q = none → H b = none → BRowAt C H' p q b l → Q .non H'))
theorem hdwords {l : List Bool} {i : Nat} {w : Nat} (h : (words l)[i]? = some w) : i < wn l.length ∧ w = wordOf ((l.drop (32 * i)).take 32) := by
  have hi : i < (words l).length := (List.getElem?_eq_some_iff.mp h).1
  rw [words_len] at hi
  rw [words_at hi] at h
  exact ⟨hi, (Option.some.inj h).symm⟩
set_option maxHeartbeats 1000000 in
theorem ok_B_init (T : Tx K mg A) : FnOk P w K mg base (L2.CX P w) 4 A.B_init A.B_init_d ["self", "bits"] (spBInit K A.cB A.xBadRow) := by
  refine T.B_init.F.okX sc_B_init (fun vs H Q E h => ?_) (fun cdv Ar outer s H vs Q E hr h => ?_)
  · obtain ⟨p, dx, v, n, rfl, _⟩ := h
    rfl
  · obtain ⟨p, dx, v, n, rfl, hp, hk, kN, kL⟩ := h
    refine ⟨_, (pss_cons (ps_if (PW.pt (pw_or (pt_not (pt_val (pe_callB call_isi (by rfl) T.b_isinstance (by decide +kernel) (pa_cons (pv 1) (pa_cons (pe_bltn (u := .type "list") (v := .ty "list") (by rfl) T.b_list (by decide +kernel) rfl) pa_nil))))) (pw_or (pt_cmpR op_gt (pe_callB call_len_seq (by rfl) T.b_len (by decide +kernel) (pa_cons (pv 1) pa_nil)) (pe_glob (v := V.int 4000) rfl T.kMOST_BITS.choose_spec ⟨_, rfl⟩) (nomark _)) (pw_or1 (pt_not (pt_val (pe_callB (cr_all rfl) (by rfl) T.b_all (by decide +kernel) (pa_cons (pe_lc (own := [("bit", 2)]) (g := gName 2) (tt := tYes) rfl sc_B_init.nd (pi_list (pv 1)) (blkOk_by (N := n_B_init) (sc := defScope s_B_init) (by decide +kernel)) (fun _ _ _ _ _ => (pg_name (i := 2) sc_B_init.nd rfl (by first | exact Or.inl rfl | exact Or.inr rfl))) (fun _ _ _ _ _ => pts_nil) (fun _ _ _ _ _ => (pe_call (E := E0) (ok_is_among T) (hr.mono (by decide)) rfl T.is_among.g T.is_among.F.kp T.is_among.b .nil pass0 (pa_cons (pv 2) (pa_cons pe_int (pa_cons pe_int pa_nil)))))) pa_nil)))))))) (pss_one (ps_raise rfl (takes_of rfl rfl rfl rfl) (pmk_own PySem.F.excBase_ValueError T.xBadRow.x T.xBadRow.g T.xBadRow.k (raises_own T.xBadRow.b T.xBadRow.t) rfl))) pss_nil)
      (PSs.nox (pss_cons (ps_fld (pv 0) (pe_callB call_len_seq (by rfl) T.b_len (by decide +kernel) (pa_cons (pv 1) pa_nil)) rfl)
      (pss_cons (ps_fld (pv 0) (pe_call (E := E0) (ok_packed T) (hr.mono (by decide)) rfl T.packed.g T.packed.F.kp T.packed.b .nil pass0 (pa_cons (pv 1) pa_nil)) rfl)
      (pss_cons (ps_fld (pv 0) (pe_lst pa_nil) rfl)
      (pss_cons (ps_set (i := 3) sc_B_init.nd rfl (by first | exact Or.inl rfl | exact Or.inr rfl) pe_int)
      (pss_one (ps_for PassesOwn.never rfl (pi_list (pe_fld (pv 0) rfl)) (pg_name (i := 4) sc_B_init.nd rfl (by first | exact Or.inl rfl | exact Or.inr rfl)) (pss_cons (ps_expr (pe_bm PySem.F.plainAttrs_list PySem.F.slot_list_append PySem.F.type_list_append mt_append (pe_fld (pv 0) rfl) (pa_cons (pv 3) pa_nil)))
      (pss_one (ps_set (i := 3) sc_B_init.nd rfl (by first | exact Or.inl rfl | exact Or.inr rfl) (pe_op op_add (pv 3) (pe_call (E := E0) (ok_ones_in T) (hr.mono (by decide)) rfl T.ones_in.g T.ones_in.F.kp T.ones_in.b .nil passL (pa_cons (pv 4) pa_nil)))))))))))))), ?_⟩
    refine ⟨_, rfl, _, _, _, _, _, rfl, .ty _, hk.1, kit_ty (kit_list hk.2), _, rfl, ?_⟩
    by_cases en : n = "list"
    · obtain ⟨a, xs, rfl, hS, hty, kE, kQ⟩ := kL en
      have e1 : (n == "list") = true := by rw [en]; rfl
      rw [e1]
      refine iteF ?_
      refine ⟨_, rfl, a, xs, rfl, .inl hS, _, _, rfl, rfl, _, rfl, ?_⟩
      refine ite2 (fun c => ?_) (fun c => ?_)
      · refine iteT ?_
        exact kE (.inl (by have := of_decide_eq_true c; omega)) H (Same.refl H)
      · have hz : xs.length ≤ 4000 := by
          have : ¬ ((4000 : Int) < (xs.length : Nat)) := fun z => c (decide_eq_true z)
          omega
        refine ⟨_, rfl, a, rfl, ⟨_, hS⟩, fun D hD => lc_map (xs := xs) (fun x => V.bl (amongV x 0 1)) hS (by omega) hD (fun _ => rfl) (fun i x H' hx s1 Q' kq => ?_) (fun H1 s1 hD1 => ?_)⟩
        · obtain ⟨m, hm⟩ := hty x (List.mem_of_getElem? hx)
          exact ⟨_, rfl, x, m, 0, 1, rfl, hm.same s1, kq H' (Same.refl H')⟩
        · have eD : xs.map (fun x => V.bl (amongV x 0 1)) = (xs.map fun x => amongV x 0 1).map V.bl := by rw [List.map_map]; rfl
          rw [eD] at hD1
          refine ⟨D, _, rfl, SqL.of hD1, _, rfl, ?_⟩
          by_cases ca : ((xs.map fun x => amongV x 0 1).all id) = true
          · rw [ca]
            refine iteF ?_
            have hall : ∀ x ∈ xs, amongV x 0 1 = true := fun x hx => by
              rw [List.all_map, List.all_eq_true] at ca
              exact ca x hx
            obtain ⟨l, rfl⟩ := bits_of hall
            rw [List.length_map] at hz
            have hp1 := s1 _ _ hp
            have hS1 := s1.seq hS
            -- self.size = len(bits)
            refine ⟨_, rfl, a, _, rfl, .inl hS1, _, rfl, p, A.cB, dx, [], rfl, hp1, T.clB, T.nB_size, (by show 0 < 1000; decide), ?_⟩
            -- self.packs = packed(bits)
            refine ⟨_, rfl, a, l, rfl, sql_keep ((keep_of (Same.refl H1)).upd _) hp1 hS1, hz, fun q H2 s2 hq hq2 => ?_⟩
            have npq : p ≠ q := ne_of_none upd_same hq
            refine ⟨_, rfl, p, A.cB, dx, _, rfl, s2 _ _ upd_same, T.clB, T.nB_packs, (by show 1 < 1000; decide), ?_⟩
            -- self.heads = []
            refine ⟨Nat.zero_le _, fun b hb => ?_⟩
            have npb : p ≠ b := ne_of_none upd_same hb
            have hb2 : H2 b = none := by rw [upd_ne npb.symm] at hb; exact hb
            have nqb : q ≠ b := ne_of_none hq2 hb2
            refine ⟨_, rfl, p, A.cB, dx, _, rfl, (by rw [upd_ne npb]; exact upd_same), T.clB, T.nB_heads, (by show 2 < 1000; decide), ?_⟩
            have hq0 : H q = none := by
              have : H1 q = none := by rw [upd_ne npq.symm] at hq; exact hq
              exact s1.free this
            have hb0 : H b = none := by
              have e : (upd H1 p (.ins A.cB dx (putF "size" (V.int (((l.map bV).length : Nat) : Int)) []))) b = none := s2.free hb2
              rw [upd_ne npb.symm] at e
              exact s1.free e
            have kp : Keep p H H2 := ((keep_of s1).upd _).same s2
            have ebr : putF "heads" (V.ref b) (putF "packs" (V.ref q) (putF "size" (V.int (((l.map bV).length : Nat) : Int)) [])) = brf l.length q b := by rw [List.length_map]; rfl
            -- many = 0; for word in self.packs
            refine ⟨_, rfl, p, A.cB, dx, _, _, rfl, upd_same, T.clB, T.nB_packs, (by rw [ebr]; exact brf_packs _ _ _), q, rfl, ⟨_, SqL.of (by rw [upd_ne npq.symm, upd_ne nqb, upd_ne npq.symm]; exact hq2)⟩, ?_⟩
            refine for_list (K := K) (a := q) (xs := (words l).map nV) (fun i σ H3 => ∃ u : Option V, σ = [some (.ref p), some (.ref a), none, some (.int (cnt (l.take (32 * i)) : Nat)), u] ∧ Keep p H H3 ∧ H3 p = some (.ins A.cB dx (brf l.length q b)) ∧
              H3 q = some (.lst ((words l).map nV)) ∧ H3 b = some (.lst (((List.range i).map fun k => cnt (l.take (32 * k))).map nV)) ∧ H q = none ∧ H b = none)
              ⟨none, rfl, ?_, by rw [upd_same, ebr], by rw [upd_ne npq.symm, upd_ne nqb, upd_ne npq.symm]; exact hq2, by rw [upd_ne npb.symm, upd_same]; rfl, hq0, hb0⟩ (fun i σ H3 _ ⟨_, _, _, _, h3, _⟩ => SqL.of h3) ?_ ?_
            · refine Keep.upd (fun b' o e n => ?_) _
              have nb : b' ≠ b := ne_of_none e hb0
              rw [upd_ne nb, upd_ne n]
              exact kp b' o e n
            · rintro i y σ H3 hi ⟨u, rfl, k3, hp3, hq3, hb3, q0, b0⟩
              rw [List.getElem?_map] at hi
              obtain ⟨w0, hw0, ey⟩ : ∃ w0, (words l)[i]? = some w0 ∧ nV w0 = y := by
                cases e : (words l)[i]? with
                | none => rw [e] at hi; cases hi
                | some w0 => rw [e] at hi; exact ⟨w0, rfl, Option.some.inj hi⟩
              subst ey
              obtain ⟨hi2, ew⟩ := hdwords hw0
              have wl : w0 < 2 ^ 32 := by rw [ew]; exact word_lt l i
              have n2 : p ≠ b := ne_of hp3 hb3 (by intro z; cases z)
              -- self.heads.append(many); many = many + ones_in(word)
              refine ⟨_, rfl, p, A.cB, dx, _, _, rfl, hp3, T.clB, T.nB_heads, brf_heads _ _ _, .inl ⟨rfl, _, SqL.of hb3⟩, _, rfl, b, _, _, rfl, rfl, hb3, ?_, ?_⟩
              · rw [List.length_map, List.length_map, List.length_range]
                exact line5 (by unfold wn at hi2; omega)
              refine ⟨_, rfl, _, rfl, _, "int", rfl, TyN.int _, ?_, fun m em hm => ⟨_, _, rfl, rfl, ?_⟩⟩
              · intro z
                rw [show amongV (nV w0) 0 4294967295 = true from among_in (by omega) (by omega)] at z
                cases z
              · have em : w0 = m := by
                  unfold nV at em
                  injection em with em
                  omega
                subst em
                refine ⟨some (nV w0), ?_, fun b' o e n => ?_, by rw [upd_ne n2]; exact hp3, by rw [upd_ne nqb]; exact hq3, ?_, q0, b0⟩
                · rw [marks_step hi2, ← ew]
                  rfl
                · have nb : b' ≠ b := ne_of_none e b0
                  rw [upd_ne nb]
                  exact k3 b' o e n
                · rw [upd_same, List.range_succ, List.map_append, List.map_append]
                  rfl
            · rintro σ H3 ⟨u, rfl, k3, hp3, hq3, hb3, q0, b0⟩
              rw [List.length_map, words_len] at hb3
              exact kQ l rfl hz H3 q b k3 q0 b0 ⟨⟨dx, hp3⟩, hq3, hb3, nqb, hz⟩
          · have cf : ((xs.map fun x => amongV x 0 1).all id) = false := by simpa using ca
            rw [cf]
            refine iteT ?_
            have hex : ∃ x ∈ xs, amongV x 0 1 = false := by
              rw [List.all_map] at cf
              obtain ⟨x, hx, e⟩ := List.all_eq_false.mp cf
              exact ⟨x, hx, by simpa using e⟩
            exact kE (.inr hex) H1 s1
    · have e1 : (n == "list") = false := by simpa using en
      rw [e1]
      refine iteT ?_
      exact kN en H (Same.refl H)

def spBWords (C : Addr) : Sp := fun vs H Q _ => ∃ (p : Addr) (l : List Bool), vs = [.ref p] ∧ BRow C H p l ∧ ∀ (q : Addr) (H' : Hp), Same H H' → H q = none → H' q = some (.lst ((words l).map nV)) → Q (.ref q) H'
def spBMarks (C : Addr) : Sp := fun vs H Q _ => ∃ (p : Addr) (l : List Bool), vs = [.ref p] ∧ BRow C H p l ∧ ∀ (q : Addr) (H' : Hp), Same H H' → H q = none → H' q = some (.lst ((marks l).map nV)) → Q (.ref q) H'
def spBBits (C : Addr) : Sp := fun vs H Q _ => ∃ (p : Addr) (l : List Bool), vs = [.ref p] ∧ BRow C H p l ∧ ∀ (q : Addr) (H' : Hp), Same H H' → H q = none → H' q = some (.lst (l.map bV)) → Q (.ref q) H'
def spBitAt (K : PySem.W.Frag) (C X : Addr) : Sp := fun vs H Q E => ∃ (p : Addr) (l : List Bool) (v : V) (n : String), vs = [.ref p, v] ∧ BRow C H p l ∧ TyN K H v n ∧
  (amongV v 0 ((l.length : Int) - 1) = false → E (.ref X) none H) ∧ (∀ (i : Nat) (b : Bool), v = nV i → l[i]? = some b → Q (bV b) H)
def spBOnes (K : PySem.W.Frag) (C X : Addr) : Sp := fun vs H Q E => ∃ (p : Addr) (l : List Bool) (v : V) (n : String), vs = [.ref p, v] ∧ BRow C H p l ∧ TyN K H v n ∧
  (amongV v 0 (l.length : Int) = false → E (.ref X) none H) ∧ (∀ i : Nat, v = nV i → i ≤ l.length → Q (nV (cnt (l.take i))) H)
theorem among_nat {v : V} {m : Nat} (h : amongV v 0 (m : Int) = true) : ∃ i : Nat, v = nV i ∧ i ≤ m := by
  obtain ⟨i, rfl, h0, h1⟩ := among_yes h
  obtain ⟨k, rfl⟩ := Int.eq_ofNat_of_zero_le h0
  exact ⟨k, rfl, by omega⟩
theorem among_lt {v : V} {m : Nat} (h : amongV v 0 ((m : Int) - 1) = true) : ∃ i : Nat, v = nV i ∧ i < m := by
  obtain ⟨i, rfl, h0, h1⟩ := among_yes h
  obtain ⟨k, rfl⟩ := Int.eq_ofNat_of_zero_le h0
  exact ⟨k, rfl, by omega⟩
theorem nat_among {i m : Nat} (h : i ≤ m) : amongV (nV i) 0 (m : Int) = true := among_in (by omega) (by omega)
theorem lt_among {i m : Nat} (h : i < m) : amongV (nV i) 0 ((m : Int) - 1) = true := among_in (by omega) (by omega)
theorem not_false {b : Bool} {p : Prop} (h : b = true) : b = false → p := fun e => by rw [h] at e; cases e
theorem nV_inj {i j : Nat} (h : nV i = nV j) : i = j := by
  unfold nV at h
  injection h with h
  omega
theorem bV_inj {i j : Bool} (h : bV i = bV j) : i = j := by
  unfold bV at h
  injection h with h
  cases i <;> cases j <;> first | rfl | (exact absurd h (by decide))
theorem range_getD {α β : Type} (f : α → β) (d : α) (l : List α) : (List.range l.length).map (fun i => f (l.getD i d)) = l.map f := by
  apply List.ext_getElem?
  intro i
  rw [List.getElem?_map, List.getElem?_map]
  by_cases h : i < l.length
  · rw [List.getElem?_range h, List.getElem?_eq_getElem h, Option.map_some, Option.map_some, List.getD_eq_getElem?_getD, List.getElem?_eq_getElem h]
    rfl
  · rw [List.getElem?_eq_none (by rw [List.length_range]; omega), List.getElem?_eq_none (by omega)]
    rfl
theorem ok_B_words (T : Tx K mg A) : FnOk P w K mg base CX0 1 A.B_words A.B_words_d ["self"] (spBWords A.cB) := by
  refine T.B_words.F.ok sc_B_words (fun vs H Q E h => ?_) (fun cdv Ar outer s H vs Q E hr h => ?_)
  · obtain ⟨p, l, rfl, _⟩ := h
    rfl
  · obtain ⟨p, l, rfl, ⟨a, b, ⟨dx, hp⟩, ha, hb, _, _⟩, k⟩ := h
    refine ⟨_, (pss_one (ps_ret (pe_callTy call_list_of (by rfl) T.b_list (by decide +kernel) (pa_cons (pe_fld (pv 0) rfl) pa_nil)))), ?_⟩
    refine ⟨_, rfl, p, A.cB, dx, _, _, rfl, hp, T.clB, T.nB_packs, brf_packs _ _ _, a, _, rfl, .inl (SqL.of ha), fun q hq => ?_⟩
    exact k q _ (same_new (Same.refl H) hq) hq upd_same
theorem ok_B_bit_at (T : Tx K mg A) : FnOk P w K mg base (L2.CX P w) 3 A.B_bit_at A.B_bit_at_d ["self", "place"] (spBitAt K A.cB A.xNoPlace) := by
  refine T.B_bit_at.F.okX sc_B_bit_at (fun vs H Q E h => ?_) (fun cdv Ar outer s H vs Q E hr h => ?_)
  · obtain ⟨p, l, v, n, rfl, _⟩ := h
    rfl
  · obtain ⟨p, l, v, n, rfl, ⟨a, b, ⟨dx, hp⟩, ha, hb, _, _⟩, hk, kE, kQ⟩ := h
    refine ⟨_, (pss_cons (ps_if (pt_not (pt_val (pe_call (E := E0) (ok_is_among T) (hr.mono (by decide)) rfl T.is_among.g T.is_among.F.kp T.is_among.b .nil pass0 (pa_cons (pv 1) (pa_cons pe_int (pa_cons (pe_op op_sub (pe_fld (pv 0) rfl) pe_int) pa_nil)))))) (pss_one (ps_raise rfl (takes_of rfl rfl rfl rfl) (pmk_own PySem.F.excBase_ValueError T.xNoPlace.x T.xNoPlace.g T.xNoPlace.k (raises_own T.xNoPlace.b T.xNoPlace.t) rfl))) pss_nil)
      (PSs.nox (pss_one (ps_ret (pe_op op_and (pe_op op_shr (pe_ix ix_list (pe_fld (pv 0) rfl) (pe_op op_fdiv (pv 1) (pe_glob (v := V.int 32) rfl T.kWORD.choose_spec ⟨_, rfl⟩)) (fun _ _ => rfl)) (pe_op op_mod (pv 1) (pe_glob (v := V.int 32) rfl T.kWORD.choose_spec ⟨_, rfl⟩))) pe_int))))), ?_⟩
    refine ⟨_, rfl, _, rfl, p, A.cB, dx, _, _, rfl, hp, T.clB, T.nB_size, brf_size _ _ _, _, _, rfl, rfl, v, n, 0, _, rfl, hk, _, rfl, ?_⟩
    by_cases c : amongV v 0 ((l.length : Int) - 1) = true
    · rw [c]
      refine iteF ?_
      obtain ⟨i, rfl, hi⟩ := among_lt c
      have hw : i / 32 < wn l.length := by unfold wn; omega
      have e1 : ((i : Int) / 32) = ((i / 32 : Nat) : Int) := by omega
      refine ⟨_, rfl, p, A.cB, dx, _, _, rfl, hp, T.clB, T.nB_packs, brf_packs _ _ _, _, rfl, _, _, rfl, rfl, ⟨by decide, by decide⟩, a, _, _, nV (wordOf ((l.drop (32 * (i / 32))).take 32)), rfl, rfl, SqL.of ha, at_of e1 ?_, ?_⟩
      · rw [List.getElem?_map, words_at hw]
        rfl
      refine ⟨_, rfl, _, _, rfl, rfl, (by show (0 : Int) < 32; decide), _, _, rfl, rfl, ?_, _, _, rfl, rfl, ?_⟩
      · show (0 : Int) ≤ (i : Int) % 32
        omega
      have q := kQ i l[i] rfl (List.getElem?_eq_getElem hi)
      refine cast ?_ q
      congr 1
      have e2 : ((i : Int) % 32).toNat = i % 32 := by omega
      have e3 := bit_of hi
      rw [List.getD_eq_getElem?_getD, List.getElem?_eq_getElem hi] at e3
      show bV l[i] = V.int (Builtin.bitAnd ((wordOf ((l.drop (32 * (i / 32))).take 32) : Int) / 2 ^ ((i : Int) % 32).toNat) 1)
      rw [e2, PyProof.Rows.bitAnd_m1, cast_pow]
      unfold bV
      congr 1
      have e4 : (l[i].toNat : Int) = ((wordOf ((l.drop (32 * (i / 32))).take 32) / 2 ^ (i % 32) % 2 : Nat) : Int) := by rw [e3]; rfl
      rw [e4]
      simp
    · have c' : amongV v 0 ((l.length : Int) - 1) = false := by simpa using c
      rw [c']
      refine iteT ?_
      exact kE c'
theorem ok_B_ones (T : Tx K mg A) : FnOk P w K mg base (L2.CX P w) 4 A.B_ones A.B_ones_d ["self", "place"] (spBOnes K A.cB A.xNoPlace) := by
  refine T.B_ones.F.okX sc_B_ones (fun vs H Q E h => ?_) (fun cdv Ar outer s H vs Q E hr h => ?_)
  · obtain ⟨p, l, v, n, rfl, _⟩ := h
    rfl
  · obtain ⟨p, l, v, n, rfl, ⟨a, b, ⟨dx, hp⟩, ha, hb, _, hl⟩, hk, kE, kQ⟩ := h
    refine ⟨_, (pss_cons (ps_if (pt_not (pt_val (pe_call (E := E0) (ok_is_among T) (hr.mono (by decide)) rfl T.is_among.g T.is_among.F.kp T.is_among.b .nil pass0 (pa_cons (pv 1) (pa_cons pe_int (pa_cons (pe_fld (pv 0) rfl) pa_nil)))))) (pss_one (ps_raise rfl (takes_of rfl rfl rfl rfl) (pmk_own PySem.F.excBase_ValueError T.xNoPlace.x T.xNoPlace.g T.xNoPlace.k (raises_own T.xNoPlace.b T.xNoPlace.t) rfl))) pss_nil)
      (PSs.nox (pss_cons (ps_set (i := 2) sc_B_ones.nd rfl (by first | exact Or.inl rfl | exact Or.inr rfl) (pe_op op_fdiv (pv 1) (pe_glob (v := V.int 32) rfl T.kWORD.choose_spec ⟨_, rfl⟩)))
      (pss_cons (ps_if (pt_cmpR op_eq (pv 2) (pe_callB call_len_seq (by rfl) T.b_len (by decide +kernel) (pa_cons (pe_fld (pv 0) rfl) pa_nil)) (nomark _)) (pss_cons (ps_set (i := 2) sc_B_ones.nd rfl (by first | exact Or.inl rfl | exact Or.inr rfl) (pe_op op_sub (pv 2) pe_int))
      (pss_one (ps_if (pt_cmpR op_lt (pv 2) pe_int (nomark _)) (pss_one (ps_ret pe_int)) pss_nil))) pss_nil)
      (pss_one (ps_ret (pe_op op_add (pe_ix ix_list (pe_fld (pv 0) rfl) (pv 2) (fun _ _ => rfl)) (pe_call (E := E0) (ok_ones_in T) (hr.mono (by decide)) rfl T.ones_in.g T.ones_in.F.kp T.ones_in.b .nil passL (pa_cons (pe_op op_and (pe_ix ix_list (pe_fld (pv 0) rfl) (pv 2) (fun _ _ => rfl)) (pe_op op_sub (pe_op op_shl pe_int (pe_op op_sub (pv 1) (pe_op op_mul (pv 2) (pe_glob (v := V.int 32) rfl T.kWORD.choose_spec ⟨_, rfl⟩)))) pe_int)) pa_nil))))))))), ?_⟩
    refine ⟨_, rfl, _, rfl, p, A.cB, dx, _, _, rfl, hp, T.clB, T.nB_size, brf_size _ _ _, v, n, 0, _, rfl, hk, _, rfl, ?_⟩
    by_cases c : amongV v 0 (l.length : Int) = true
    · rw [c]
      refine iteF ?_
      obtain ⟨i, rfl, hi⟩ := among_nat c
      have e1 : ((i : Int) / 32) = ((i / 32 : Nat) : Int) := by omega
      have q0 := kQ i rfl hi
      -- at = place // WORD; if at == len(self.packs)
      refine ⟨_, rfl, _, _, rfl, rfl, ⟨by decide, by decide⟩, _, rfl, _, rfl, p, A.cB, dx, _, _, rfl, hp, T.clB, T.nB_packs, brf_packs _ _ _, a, _, rfl, .inl (SqL.of ha), rfl, _, rfl, ?_⟩
      rw [List.length_map, words_len]
      refine ite2 (fun ce => ?_) (fun ce => ?_)
      · have ek : i / 32 = wn l.length := by
          have z : V.int ((i : Int) / 32) = V.int (wn l.length : Int) := of_decide_eq_true ce
          injection z with z
          omega
        refine ⟨_, rfl, _, _, rfl, rfl, _, rfl, _, _, rfl, rfl, _, rfl, ?_⟩
        refine ite2 (fun c0 => ?_) (fun c0 => ?_)
        · have z : ((i : Int) / 32 - 1) < 0 := of_decide_eq_true c0
          have i0 : i = 0 := by unfold wn at ek; omega
          subst i0
          exact q0
        · have z : ¬ ((i : Int) / 32 - 1) < 0 := fun z => c0 (decide_eq_true z)
          obtain ⟨k, hk⟩ : ∃ k, k = wn l.length - 1 := ⟨_, rfl⟩
          have hk1 : k < wn l.length := by unfold wn at ek hk ⊢; omega
          have ez : ((i : Int) / 32 - 1) = ((k : Nat) : Int) := by omega
          have hk2 : 32 * k ≤ i := by omega
          have hk3 : i ≤ 32 * k + 32 := by unfold wn at ek hk; omega

          have hwl : wordOf ((l.drop (32 * k)).take 32) < 2 ^ 32 := word_lt l k
          have em0 : Builtin.bitAnd (wordOf ((l.drop (32 * k)).take 32) : Int) (1 * 2 ^ (((i : Nat) : Int) - ((i : Int) / 32 - 1) * 32).toNat - 1) = ((wordOf ((l.drop (32 * k)).take 32) % 2 ^ (i - 32 * k) : Nat) : Int) := by
            have e2 : (((i : Nat) : Int) - ((i : Int) / 32 - 1) * 32).toNat = i - 32 * k := by rw [ez]; omega
            rw [e2, Int.one_mul, PySem.W.kbt_mask, cast_pow]
            simp
          refine ⟨_, rfl, p, A.cB, dx, _, _, rfl, hp, T.clB, T.nB_heads, brf_heads _ _ _, _, rfl, b, _, _, nV (cnt (l.take (32 * k))), rfl, rfl, SqL.of hb, at_of ez (by rw [List.getElem?_map, marks_at hk1]; rfl), ?_⟩
          refine ⟨_, rfl, p, A.cB, dx, _, _, rfl, hp, T.clB, T.nB_packs, brf_packs _ _ _, _, rfl, a, _, _, nV (wordOf ((l.drop (32 * k)).take 32)), rfl, rfl, SqL.of ha, at_of ez (by rw [List.getElem?_map, words_at hk1]; rfl), ?_⟩
          refine ⟨_, rfl, _, rfl, _, _, rfl, rfl, .inr ⟨by decide, by decide⟩, _, _, rfl, rfl, _, _, rfl, rfl, ⟨?_, ?_, by decide⟩, _, _, rfl, rfl, _, _, rfl, rfl, ?_⟩
          · show (0 : Int) ≤ (i : Int) - ((i : Int) / 32 - 1) * 32
            omega
          · show (i : Int) - ((i : Int) / 32 - 1) * 32 ≤ 1000000
            omega
          refine ⟨_, "int", rfl, TyN.int _, ?_, fun m em hm => ⟨_, _, rfl, rfl, ?_⟩⟩
          · refine not_false ?_
            show amongV (V.int (Builtin.bitAnd (wordOf ((l.drop (32 * k)).take 32) : Int) (1 * 2 ^ (((i : Nat) : Int) - ((i : Int) / 32 - 1) * 32).toNat - 1))) 0 4294967295 = true
            have := Nat.mod_le (wordOf ((l.drop (32 * k)).take 32)) (2 ^ (i - 32 * k))
            rw [em0]
            exact among_in (by omega) (by omega)
          · have em : nV (wordOf ((l.drop (32 * k)).take 32) % 2 ^ (i - 32 * k)) = nV m := by
              rw [← em]
              unfold nV
              congr 1
              exact em0.symm
            have em := nV_inj em
            subst em
            have e5 := ones_of hi k hk2 hk3
            rw [← e5] at q0
            refine cast ?_ q0
            unfold nV
            congr 2
      · have nk : ¬ i / 32 = wn l.length := fun z => ce (decide_eq_true (by
            show V.int ((i : Int) / 32) = V.int (wn l.length : Int)
            congr 1
            omega))
        · obtain ⟨k, hk⟩ : ∃ k, k = i / 32 := ⟨_, rfl⟩
          have hk1 : k < wn l.length := by unfold wn at nk ⊢; omega
          have ez : ((i : Int) / 32) = ((k : Nat) : Int) := by omega
          have hk2 : 32 * k ≤ i := by omega
          have hk3 : i ≤ 32 * k + 32 := by omega

          have hwl : wordOf ((l.drop (32 * k)).take 32) < 2 ^ 32 := word_lt l k
          have em0 : Builtin.bitAnd (wordOf ((l.drop (32 * k)).take 32) : Int) (1 * 2 ^ (((i : Nat) : Int) - ((i : Int) / 32) * 32).toNat - 1) = ((wordOf ((l.drop (32 * k)).take 32) % 2 ^ (i - 32 * k) : Nat) : Int) := by
            have e2 : (((i : Nat) : Int) - ((i : Int) / 32) * 32).toNat = i - 32 * k := by rw [ez]; omega
            rw [e2, Int.one_mul, PySem.W.kbt_mask, cast_pow]
            simp
          refine ⟨_, rfl, p, A.cB, dx, _, _, rfl, hp, T.clB, T.nB_heads, brf_heads _ _ _, _, rfl, b, _, _, nV (cnt (l.take (32 * k))), rfl, rfl, SqL.of hb, at_of ez (by rw [List.getElem?_map, marks_at hk1]; rfl), ?_⟩
          refine ⟨_, rfl, p, A.cB, dx, _, _, rfl, hp, T.clB, T.nB_packs, brf_packs _ _ _, _, rfl, a, _, _, nV (wordOf ((l.drop (32 * k)).take 32)), rfl, rfl, SqL.of ha, at_of ez (by rw [List.getElem?_map, words_at hk1]; rfl), ?_⟩
          refine ⟨_, rfl, _, rfl, _, _, rfl, rfl, .inr ⟨by decide, by decide⟩, _, _, rfl, rfl, _, _, rfl, rfl, ⟨?_, ?_, by decide⟩, _, _, rfl, rfl, _, _, rfl, rfl, ?_⟩
          · show (0 : Int) ≤ (i : Int) - ((i : Int) / 32) * 32
            omega
          · show (i : Int) - ((i : Int) / 32) * 32 ≤ 1000000
            omega
          refine ⟨_, "int", rfl, TyN.int _, ?_, fun m em hm => ⟨_, _, rfl, rfl, ?_⟩⟩
          · refine not_false ?_
            show amongV (V.int (Builtin.bitAnd (wordOf ((l.drop (32 * k)).take 32) : Int) (1 * 2 ^ (((i : Nat) : Int) - ((i : Int) / 32) * 32).toNat - 1))) 0 4294967295 = true
            have := Nat.mod_le (wordOf ((l.drop (32 * k)).take 32)) (2 ^ (i - 32 * k))
            rw [em0]
            exact among_in (by omega) (by omega)
          · have em : nV (wordOf ((l.drop (32 * k)).take 32) % 2 ^ (i - 32 * k)) = nV m := by
              rw [← em]
              unfold nV
              congr 1
              exact em0.symm
            have em := nV_inj em
            subst em
            have e5 := ones_of hi k hk2 hk3
            rw [← e5] at q0
            refine cast ?_ q0
            unfold nV
            congr 2
    · have c' : amongV v 0 (l.length : Int) = false := by simpa using c
      rw [c']
      refine iteT ?_
      exact kE c'
theorem mk_brow {K : PySem.W.Frag} {C X : Addr} {H1 : Hp} {a x dx : Addr} {l : List Bool} {Q : VK} (hS : SqL K H1 a (l.map bV)) (hl : l.length ≤ 4000) (nx : H1 x = none) (ndx : H1 dx = none)
    (k : ∀ (H' : Hp) (pa pb : Addr), Same H1 H' → H1 pa = none → H1 pb = none → BRowAt C H' x pa pb l → Q .non H') :
    spBInit K C X [.ref x, .ref a] (upd (upd H1 dx (.own x)) x (.ins C dx [])) Q E0 := by
  have s0 : Same H1 (upd (upd H1 dx (.own x)) x (.ins C dx [])) := fun b o e => by
    rw [upd_ne (ne_of_none e nx), upd_ne (ne_of_none e ndx)]
    exact e
  refine ⟨x, dx, .ref a, "list", rfl, upd_same, TyN.lst (s0.seq hS), fun z => absurd rfl z, fun _ => ⟨a, _, rfl, s0.seq hS, fun y hy => ?_, fun z => ?_, fun l' el hl' H' q b kp hq hb R => ?_⟩⟩
  · obtain ⟨b, _, rfl⟩ := List.mem_map.mp hy
    exact ⟨"int", TyN.int _⟩
  · exfalso
    rcases z with z | ⟨y, hy, z⟩
    · rw [List.length_map] at z
      omega
    · obtain ⟨b, _, rfl⟩ := List.mem_map.mp hy
      rw [bV_among] at z
      cases z
  · have el : l = l' := by
      have := congrArg (List.map (fun v : V => decide (v = bV true))) el
      rw [List.map_map, List.map_map] at this
      have e : ((fun v : V => decide (v = bV true)) ∘ bV) = id := by
        funext b
        cases b <;> decide
      rw [e, List.map_id, List.map_id] at this
      exact this
    subst el
    exact k H' q b (fun b' o e => kp b' o (s0 b' o e) (ne_of_none e nx)) (s0.free hq) (s0.free hb) R

/-! ### a row of bits: noughts, found, put -/
def spNoughts (K : PySem.W.Frag) (C X : Addr) : Sp := fun vs H Q E => ∃ (p : Addr) (l : List Bool) (v : V) (n : String), vs = [.ref p, v] ∧ BRow C H p l ∧ TyN K H v n ∧
  (amongV v 0 (l.length : Int) = false → E (.ref X) none H) ∧ (∀ i : Nat, v = nV i → i ≤ l.length → Q (nV (i - cnt (l.take i))) H)
theorem ok_B_noughts (T : Tx K mg A) : FnOk P w K mg base (L2.CX P w) 5 A.B_noughts A.B_noughts_d ["self", "place"] (spNoughts K A.cB A.xNoPlace) := by
  refine T.B_noughts.F.okX sc_B_noughts (fun vs H Q E h => ?_) (fun cdv Ar outer s H vs Q E hr h => ?_)
  · obtain ⟨p, l, v, n, rfl, _⟩ := h
    rfl
  · obtain ⟨p, l, v, n, rfl, R, hk, kE, kQ⟩ := h
    obtain ⟨a, b, ⟨dx, hp⟩, _⟩ := id R
    refine ⟨_, (pss_one (ps_ret (pe_op op_sub (pv 1) (pe_meth (pv 0) T.clB T.B_ones.m (ok_B_ones T) (hr.mono (by decide)) T.B_ones.b .nil (passes_call (takes_of rfl rfl rfl rfl) (fun _ _ _ _ h => h)) (pa_cons (pv 1) pa_nil))))), ?_⟩
    refine ⟨_, rfl, _, rfl, p, dx, _, rfl, hp, brf_no _ _ _ (by decide +kernel) (by decide +kernel) (by decide +kernel), _, rfl, p, l, v, n, rfl, R, hk, kE, fun i ei hi => ?_⟩
    refine ⟨_, _, ei, rfl, ?_⟩
    have q := kQ i ei hi
    refine cast ?_ q
    have hc : cnt (l.take i) ≤ i := by
      have := cnt_le (l.take i)
      rw [List.length_take] at this
      omega
    unfold nV
    congr 2
    omega
def spPlaceOf (K : PySem.W.Frag) (C X : Addr) : Sp := fun vs H Q E => ∃ (p : Addr) (l : List Bool) (u v : V) (m n : String), vs = [.ref p, u, v] ∧ BRow C H p l ∧ TyN K H u m ∧ TyN K H v n ∧
  ((amongV u 0 1 = false ∨ amongV v 0 ((l.length : Int) - 1) = false) → E (.ref X) none H) ∧
  (∀ (b : Bool) (t : Nat), u = bV b → v = nV t → t < l.length → (l.count b ≤ t → E (.ref X) none H) ∧ (∀ r : Nat, l[r]? = some b → cb b l r = t → Q (nV r) H))
theorem bV_of {v : V} (h : amongV v 0 1 = true) : ∃ b, v = bV b := by
  obtain ⟨i, rfl, h0, h1⟩ := among_yes h
  by_cases e0 : i = 0
  · exact ⟨false, by rw [e0]; rfl⟩
  · exact ⟨true, by rw [show i = 1 by omega]; rfl⟩
theorem cb_le_len (b : Bool) (l : List Bool) {p : Nat} (h : p ≤ l.length) : cb b l p ≤ p := by
  have := cb_sum l h
  cases b <;> omega
set_option maxHeartbeats 1000000 in
theorem ok_B_place_of (T : Tx K mg A) : FnOk P w K mg base (L2.CX P w) 5 A.B_place_of A.B_place_of_d ["self", "bit", "turn"] (spPlaceOf K A.cB A.xNoPlace) := by
  refine T.B_place_of.F.okX sc_B_place_of (fun vs H Q E h => ?_) (fun cdv Ar outer s H vs Q E hr h => ?_)
  · obtain ⟨p, l, u, v, m, n, rfl, _⟩ := h
    rfl
  · obtain ⟨p, l, u, v, m, n, rfl, R, hu, hv, kE, kQ⟩ := h
    obtain ⟨a0, b0, ⟨dx, hp⟩, _, _, _, hl⟩ := id R
    refine ⟨_, (pss_cons (ps_if (PW.pt (pw_or (pt_not (pt_val (pe_call (E := E0) (ok_is_among T) (hr.mono (by decide)) rfl T.is_among.g T.is_among.F.kp T.is_among.b .nil pass0 (pa_cons (pv 1) (pa_cons pe_int (pa_cons pe_int pa_nil)))))) (pw_or1 (pt_not (pt_val (pe_call (E := E0) (ok_is_among T) (hr.mono (by decide)) rfl T.is_among.g T.is_among.F.kp T.is_among.b .nil pass0 (pa_cons (pv 2) (pa_cons pe_int (pa_cons (pe_op op_sub (pe_fld (pv 0) rfl) pe_int) pa_nil))))))))) (pss_one (ps_raise rfl (takes_of rfl rfl rfl rfl) (pmk_own PySem.F.excBase_ValueError T.xNoPlace.x T.xNoPlace.g T.xNoPlace.k (raises_own T.xNoPlace.b T.xNoPlace.t) rfl))) pss_nil)
      (pss_cons (ps_set (i := 3) sc_B_place_of.nd rfl (by first | exact Or.inl rfl | exact Or.inr rfl) pe_int)
      (pss_cons (ps_set (i := 4) sc_B_place_of.nd rfl (by first | exact Or.inl rfl | exact Or.inr rfl) (pe_fld (pv 0) rfl))
      (pss_cons (ps_while (passes_of rfl) (pt_cmpR op_lt (pv 3) (pv 4) (nomark _)) (pss_cons (ps_set (i := 5) sc_B_place_of.nd rfl (by first | exact Or.inl rfl | exact Or.inr rfl) (pe_op op_fdiv (pe_op op_add (pv 3) (pv 4)) pe_int))
      (pss_cons (ps_set (i := 6) sc_B_place_of.nd rfl (by first | exact Or.inl rfl | exact Or.inr rfl) (pe_meth (E := E0) (pv 0) T.clB T.B_ones.m (ok_B_ones T) (hr.mono (by decide)) T.B_ones.b .nil passL (pa_cons (pe_op op_add (pv 5) pe_int) pa_nil)))
      (pss_cons (ps_if (pt_cmpR op_eq (pv 1) pe_int (nomark _)) (pss_one (ps_set (i := 6) sc_B_place_of.nd rfl (by first | exact Or.inl rfl | exact Or.inr rfl) (pe_op op_sub (pe_op op_add (pv 5) pe_int) (pv 6)))) pss_nil)
      (pss_one (ps_if (pt_cmpR op_gt (pv 6) (pv 2) (nomark _)) (pss_one (ps_set (i := 4) sc_B_place_of.nd rfl (by first | exact Or.inl rfl | exact Or.inr rfl) (pv 5))) (pss_one (ps_set (i := 3) sc_B_place_of.nd rfl (by first | exact Or.inl rfl | exact Or.inr rfl) (pe_op op_add (pv 5) pe_int)))))))))
      (pss_cons (ps_if (pt_cmpR op_eq (pv 3) (pe_fld (pv 0) rfl) (nomark _)) (pss_one (ps_raise rfl (takes_of rfl rfl rfl rfl) (pmk_own PySem.F.excBase_ValueError T.xNoPlace.x T.xNoPlace.g T.xNoPlace.k (raises_own T.xNoPlace.b T.xNoPlace.t) rfl))) pss_nil)
      (PSs.nox (pss_one (ps_ret (pv 3))))))))), ?_⟩
    refine ⟨_, rfl, u, m, 0, 1, rfl, hu, _, rfl, ?_⟩
    by_cases cu : amongV u 0 1 = true
    · rw [cu]
      refine iteF ?_
      refine ⟨_, rfl, _, rfl, p, A.cB, dx, _, _, rfl, hp, T.clB, T.nB_size, brf_size _ _ _, _, _, rfl, rfl, v, n, 0, _, rfl, hv, _, rfl, ?_⟩
      by_cases cv : amongV v 0 ((l.length : Int) - 1) = true
      · rw [cv]
        refine iteF ?_
        obtain ⟨b, rfl⟩ := bV_of cu
        obtain ⟨t, rfl, ht⟩ := among_lt cv
        obtain ⟨kF, kR⟩ := kQ b t rfl rfl ht
        -- least = 0; most = self.size
        refine ⟨_, rfl, p, A.cB, dx, _, _, rfl, hp, T.clB, T.nB_size, brf_size _ _ _, ?_⟩
        refine ⟨fun k σ H' => H' = H ∧ ∃ (x y : Nat) (h1 h2 : Option V), σ = [some (.ref p), some (bV b), some (nV t), some (nV x), some (nV y), h1, h2] ∧ k = y - x ∧ x ≤ y ∧ y ≤ l.length ∧ cb b l x ≤ t ∧ (y < l.length → t < cb b l (y + 1)),
          ⟨l.length, rfl, 0, l.length, none, none, rfl, by omega, Nat.zero_le _, Nat.le_refl _, by simp [cb], fun z => absurd z (Nat.lt_irrefl _)⟩, ?_⟩
        rintro k σ H' ⟨rfl, x, y, h1, h2, rfl, rfl, hxy, hyl, hx, hy⟩
        refine ⟨_, rfl, _, rfl, _, _, rfl, rfl, _, rfl, ?_⟩
        refine ite2 (fun c => ?_) (fun c => ?_)
        · have c : x < y := by
            have z : ((x : Int) < (y : Int)) := of_decide_eq_true c
            omega
          refine ⟨fun σ2 H2 => ∃ k', k' < y - x ∧ H2 = H' ∧ ∃ (x y : Nat) (h1 h2 : Option V), σ2 = [some (.ref p), some (bV b), some (nV t), some (nV x), some (nV y), h1, h2] ∧ k' = y - x ∧ x ≤ y ∧ y ≤ l.length ∧ cb b l x ≤ t ∧ (y < l.length → t < cb b l (y + 1)), fun _ _ z => z, ?_⟩
          obtain ⟨hh, ehh⟩ : ∃ hh, hh = (x + y) / 2 := ⟨_, rfl⟩
          have e1 : ((x : Int) + (y : Int)) / 2 = ((hh : Nat) : Int) := by omega
          have hcl : hh + 1 ≤ l.length := by omega
          refine ⟨_, rfl, _, rfl, _, _, rfl, rfl, _, _, rfl, rfl, ⟨by decide, by decide⟩, ?_⟩
          dsimp only
          rw [e1]
          refine ⟨_, rfl, p, dx, _, rfl, hp, brf_no _ _ _ (by decide +kernel) (by decide +kernel) (by decide +kernel), _, rfl, _, _, rfl, rfl, p, l, _, "int", rfl, R, TyN.int _, ?_, fun i ei hi => ?_⟩
          · refine not_false ?_
            show amongV (V.int ((hh : Int) + 1)) 0 (l.length : Int) = true
            exact among_in (by omega) (by omega)
          · have ei : i = hh + 1 := by
              have z : V.int ((hh : Int) + 1) = V.int (i : Int) := ei
              injection z with z
              omega
            subst ei
            have hc1 : cnt (l.take (hh + 1)) ≤ hh + 1 := cb_le_len true l hcl
            refine ⟨_, rfl, rfl, _, rfl, ?_⟩
            refine ite2 (fun c0 => ?_) (fun c0 => ?_)
            · have eb : b = false := by
                have z : bV b = V.int 0 := of_decide_eq_true c0
                exact bV_inj (j := false) z
              subst eb
              refine ⟨_, rfl, _, _, rfl, rfl, _, rfl, _, _, rfl, rfl, ?_⟩
              have MM : (hh : Int) + 1 - (cnt (l.take (hh + 1)) : Int) = ((cb false l (hh + 1) : Nat) : Int) := by
                rw [cb_false l hcl]
                omega
              refine ⟨_, rfl, _, rfl, _, _, rfl, rfl, _, rfl, ?_⟩
              refine ite2 (fun cm => ?_) (fun cm => ?_)
              · have cm : t < cb false l (hh + 1) := by
                  have z := of_decide_eq_true cm
                  rw [MM] at z
                  omega
                refine ⟨_, rfl, ?_⟩
                refine ⟨hh - x, by omega, rfl, x, hh, _, _, rfl, rfl, by omega, by omega, hx, fun _ => cm⟩
              · have cm : ¬ t < cb false l (hh + 1) := fun z => cm (decide_eq_true (by
                  rw [MM]
                  omega))
                refine ⟨_, rfl, _, _, rfl, rfl, ?_⟩
                refine ⟨y - (hh + 1), by omega, rfl, hh + 1, y, _, _, rfl, rfl, by omega, by omega, by omega, hy⟩
            · have eb : b = true := by
                cases b with
                | true => rfl
                | false => exact absurd (decide_eq_true (by rfl)) c0
              subst eb
              have MM : ((cnt (l.take (hh + 1)) : Nat) : Int) = ((cb true l (hh + 1) : Nat) : Int) := rfl
              refine ⟨_, rfl, _, rfl, _, _, rfl, rfl, _, rfl, ?_⟩
              refine ite2 (fun cm => ?_) (fun cm => ?_)
              · have cm : t < cb true l (hh + 1) := by
                  have z := of_decide_eq_true cm
                  rw [MM] at z
                  omega
                refine ⟨_, rfl, ?_⟩
                refine ⟨hh - x, by omega, rfl, x, hh, _, _, rfl, rfl, by omega, by omega, hx, fun _ => cm⟩
              · have cm : ¬ t < cb true l (hh + 1) := fun z => cm (decide_eq_true (by
                  rw [MM]
                  omega))
                refine ⟨_, rfl, _, _, rfl, rfl, ?_⟩
                refine ⟨y - (hh + 1), by omega, rfl, hh + 1, y, _, _, rfl, rfl, by omega, by omega, by omega, hy⟩
        · have c : x = y := by
            have z : ¬ ((x : Int) < (y : Int)) := fun z => c (decide_eq_true z)
            omega
          subst c
          refine ⟨_, rfl, _, rfl, p, A.cB, dx, _, _, rfl, hp, T.clB, T.nB_size, brf_size _ _ _, rfl, _, rfl, ?_⟩
          refine ite2 (fun c => ?_) (fun c => ?_)
          · have c : x = l.length := by
              have z : nV x = V.int (l.length : Int) := of_decide_eq_true c
              exact nV_inj z
            subst c
            exact kF (by rw [← cb_all]; exact hx)
          · have c : x < l.length := by
              have z : ¬ x = l.length := fun z => c (decide_eq_true (by rw [z]; rfl))
              omega
            obtain ⟨r1, r2⟩ := found_at c hx (hy c)
            exact ⟨_, rfl, kR x r1 r2⟩
      · have c' : amongV v 0 ((l.length : Int) - 1) = false := by simpa using cv
        rw [c']
        refine iteT ?_
        exact kE (.inr c')
    · have c' : amongV u 0 1 = false := by simpa using cu
      rw [c']
      refine iteT ?_
      exact kE (.inl c')
/-- a bit is put: C the refusal of what is no bit, D of what is no place -/
def spBPut (K : PySem.W.Frag) (C X Y : Addr) : Sp := fun vs H Q E => ∃ (p a b : Addr) (l : List Bool) (v u : V) (n m : String), vs = [.ref p, v, u] ∧ BRowAt C H p a b l ∧ TyN K H v n ∧ TyN K H u m ∧
  (amongV u 0 1 = false → E (.ref X) none H) ∧
  (∀ c : Bool, u = bV c → (amongV v 0 ((l.length : Int) - 1) = false → E (.ref Y) none H) ∧
    (∀ i : Nat, v = nV i →
      (l[i]? = some c → ∀ (q : Addr) (H' : Hp), Same H H' → H q = none → H' q = some (.lst []) → Q (.ref q) H') ∧
      (l[i]? = some (!c) → ∀ (q : Addr) (H' : Hp), (∀ b' o, H b' = some o → b' ≠ a → b' ≠ b → H' b' = some o) → H q = none → H' q = some (.lst [nV (i / 32)]) → BRowAt C H' p a b (l.set i c) → Q (.ref q) H')))
/-- the marks while they are put right: those below j are new -/
def mmix (l l' : List Bool) (j : Nat) : List Nat := (List.range (wn l.length)).map fun k => if k < j then cnt (l'.take (32 * k)) else cnt (l.take (32 * k))
theorem mmix_len (l l' : List Bool) (j : Nat) : (mmix l l' j).length = wn l.length := by simp [mmix]
theorem mmix_at {l l' : List Bool} {j k : Nat} (h : k < wn l.length) : (mmix l l' j)[k]? = some (if k < j then cnt (l'.take (32 * k)) else cnt (l.take (32 * k))) := by simp [mmix, h]
theorem mmix_set {l l' : List Bool} {j : Nat} (h : j < wn l.length) : (mmix l l' j).set j (cnt (l'.take (32 * j))) = mmix l l' (j + 1) := by
  apply List.ext_getElem?
  intro k
  rw [List.getElem?_set]
  by_cases hk : k < wn l.length
  · by_cases e : j = k
    · subst e
      rw [if_pos rfl, if_pos (by rw [mmix_len]; exact h), mmix_at hk, if_pos (by omega)]
    · rw [if_neg e, mmix_at hk, mmix_at hk]
      by_cases e2 : k < j
      · rw [if_pos e2, if_pos (by omega)]
      · rw [if_neg e2, if_neg (by omega)]
  · have e2 : (mmix l l' (j + 1))[k]? = none := List.getElem?_eq_none (by rw [mmix_len]; omega)
    rw [e2]
    by_cases e : j = k
    · omega
    · rw [if_neg e]
      exact List.getElem?_eq_none (by rw [mmix_len]; omega)
theorem mmix_old {l : List Bool} {i : Nat} {c : Bool} (h : l[i]? = some (!c)) : mmix l (l.set i c) (i / 32 + 1) = marks l := by
  unfold mmix marks
  apply List.map_congr_left
  intro k _
  by_cases e : k < i / 32 + 1
  · rw [if_pos e]
    have := cnt_set_take h (32 * k)
    rw [if_neg (by omega)] at this
    omega
  · rw [if_neg e]
theorem mmix_new {l l' : List Bool} (hl : l'.length = l.length) {j : Nat} (h : wn l.length ≤ j) : mmix l l' j = marks l' := by
  unfold mmix marks
  rw [hl]
  apply List.map_congr_left
  intro k hk
  have := List.mem_range.mp hk
  rw [if_pos (by omega)]
theorem ixN_nat {n j : Nat} (hj : j < n) : ixN n (j : Int) = some j := by
  unfold ixN
  rw [if_pos (by omega), if_pos (by omega)]
  simp
set_option maxHeartbeats 1000000 in
theorem ok_B_put (T : Tx K mg A) : FnOk P w K mg base (L2.CX P w) 4 A.B_put A.B_put_d ["self", "place", "bit"] (spBPut K A.cB A.xBadRow A.xNoPlace) := by
  refine T.B_put.F.okX sc_B_put (fun vs H Q E h => ?_) (fun cdv Ar outer s H vs Q E hr h => ?_)
  · obtain ⟨p, a, b, l, v, u, n, m, rfl, _⟩ := h
    rfl
  · obtain ⟨p, a, b, l, v, u, n, m, rfl, R, hv, hu, kE, kQ⟩ := h
    obtain ⟨⟨dx, hp⟩, ha, hb, nab, hl⟩ := id R
    refine ⟨_, (pss_cons (ps_if (pt_not (pt_val (pe_call (E := E0) (ok_is_among T) (hr.mono (by decide)) rfl T.is_among.g T.is_among.F.kp T.is_among.b .nil pass0 (pa_cons (pv 2) (pa_cons pe_int (pa_cons pe_int pa_nil)))))) (pss_one (ps_raise rfl (takes_of rfl rfl rfl rfl) (pmk_own PySem.F.excBase_ValueError T.xBadRow.x T.xBadRow.g T.xBadRow.k (raises_own T.xBadRow.b T.xBadRow.t) rfl))) pss_nil)
      (pss_cons (ps_if (pt_cmpR op_eq (pe_meth (pv 0) T.clB T.B_bit_at.m (ok_B_bit_at T) (hr.mono (by decide)) T.B_bit_at.b .nil (passes_call (takes_of rfl rfl rfl rfl) (fun _ _ _ _ h => h)) (pa_cons (pv 1) pa_nil)) (pv 2) (nomark _)) (pss_one (ps_ret (pe_lst pa_nil))) pss_nil)
      (PSs.nox (pss_cons (ps_set (i := 3) sc_B_put.nd rfl (by first | exact Or.inl rfl | exact Or.inr rfl) (pe_op op_fdiv (pv 1) (pe_glob (v := V.int 32) rfl T.kWORD.choose_spec ⟨_, rfl⟩)))
      (pss_cons (ps_asg (pe_op op_xor (pe_ix ix_list (pe_fld (pv 0) rfl) (pv 3) (fun _ _ => rfl)) (pe_op op_shl pe_int (pe_op op_mod (pv 1) (pe_glob (v := V.int 32) rfl T.kWORD.choose_spec ⟨_, rfl⟩)))) (pg_sub (pe_fld (pv 0) rfl) (pv 3) set_list))
      (pss_cons (ps_for PassesOwn.never rfl (pi_range2 (by rfl) T.b_range (pa_cons (pe_op op_add (pv 3) pe_int) (pa_cons (pe_callB call_len_seq (by rfl) T.b_len (by decide +kernel) (pa_cons (pe_fld (pv 0) rfl) pa_nil)) pa_nil))) (pg_name (i := 4) sc_B_put.nd rfl (by first | exact Or.inl rfl | exact Or.inr rfl)) (pss_one (ps_asg (pe_op op_sub (pe_op op_add (pe_ix ix_list (pe_fld (pv 0) rfl) (pv 4) (fun _ _ => rfl)) (pe_op op_mul pe_int (pv 2))) pe_int) (pg_sub (pe_fld (pv 0) rfl) (pv 4) set_list))))
      (pss_one (ps_ret (pe_lst (pa_cons (pv 3) pa_nil)))))))))), ?_⟩
    refine ⟨_, rfl, u, m, 0, 1, rfl, hu, _, rfl, ?_⟩
    by_cases cu : amongV u 0 1 = true
    · rw [cu]
      refine iteF ?_
      obtain ⟨c, rfl⟩ := bV_of cu
      obtain ⟨kY, kR⟩ := kQ c rfl
      refine ⟨_, rfl, p, dx, _, rfl, hp, brf_no _ _ _ (by decide +kernel) (by decide +kernel) (by decide +kernel), _, rfl, p, l, v, n, rfl, ⟨a, b, R⟩, hv, kY, fun i b1 ei hb1 => ?_⟩
      subst ei
      obtain ⟨k1, k2⟩ := kR i rfl
      have hi : i < l.length := (List.getElem?_eq_some_iff.mp hb1).1
      refine ⟨_, rfl, rfl, _, rfl, ?_⟩
      refine ite2 (fun e => ?_) (fun e => ?_)
      · have e : b1 = c := bV_inj (of_decide_eq_true e)
        subst e
        refine ⟨Nat.zero_le _, fun q hq => ?_⟩
        exact k1 hb1 q _ (same_new (Same.refl H) hq) hq upd_same
      · have e : b1 = !c := by
          have z : ¬ b1 = c := fun z => e (decide_eq_true (by rw [z]))
          cases b1 <;> cases c <;> first | rfl | (exact absurd rfl z)
        subst e
        have kk := k2 hb1
        have hw : i / 32 < wn l.length := by unfold wn; omega
        have e1 : ((i : Int) / 32) = ((i / 32 : Nat) : Int) := by omega
        have e2 : ((i : Int) % 32).toNat = i % 32 := by omega
        have npa : p ≠ a := ne_of hp ha (by intro z; cases z)
        have npb : p ≠ b := ne_of hp hb (by intro z; cases z)
        -- at = place // WORD
        refine ⟨_, rfl, _, _, rfl, rfl, ⟨by decide, by decide⟩, ?_⟩
        dsimp only
        rw [e1]
        -- self.packs[at] = self.packs[at] ^ 1 << place % WORD
        refine ⟨_, rfl, p, A.cB, dx, _, _, rfl, hp, T.clB, T.nB_packs, brf_packs _ _ _, _, rfl, a, _, _, nV (wordOf ((l.drop (32 * (i / 32))).take 32)), rfl, rfl, SqL.of ha, at_of rfl (by rw [List.getElem?_map, words_at hw]; rfl), ?_⟩
        refine ⟨_, rfl, _, _, rfl, rfl, (by show (0 : Int) < 32; decide), _, _, rfl, rfl, ⟨by omega, by omega, by decide⟩, _, _, rfl, rfl, ?_⟩
        refine ⟨_, rfl, p, A.cB, dx, _, _, rfl, hp, T.clB, T.nB_packs, brf_packs _ _ _, _, rfl, a, _, _, _, rfl, rfl, ha, ixN_nat (by rw [List.length_map, words_len]; exact hw), ?_⟩
        dsimp only
        obtain ⟨wd, ewd⟩ : ∃ wd, wd = wordOf ((l.drop (32 * (i / 32))).take 32) := ⟨_, rfl⟩
        have ex : (words l).set (i / 32) (wd + 2 ^ (i % 32) - 2 * (wd / 2 ^ (i % 32) % 2) * 2 ^ (i % 32)) = words (l.set i c) := by rw [ewd]; exact (words_set hb1).symm
        have ev : V.int (Builtin.bitXor (wordOf ((l.drop (32 * (i / 32))).take 32) : Int) (1 * 2 ^ ((i : Int) % 32).toNat)) = nV (wd + 2 ^ (i % 32) - 2 * (wd / 2 ^ (i % 32) % 2) * 2 ^ (i % 32)) := by
          rw [← ewd, e2, Int.one_mul, PyProof.Rows.bitXor_and, PySem.W.kbt_bit]
          unfold nV
          congr 1
          have hb2 : wd / 2 ^ (i % 32) % 2 * 2 ^ (i % 32) ≤ wd := by
            have h0 := Nat.mod_le (wd / 2 ^ (i % 32)) 2
            have h1 := Nat.div_mul_le_self wd (2 ^ (i % 32))
            have h2 := Nat.mul_le_mul_right (2 ^ (i % 32)) h0
            omega
          have hb3 : wd / 2 ^ (i % 32) % 2 * 2 ^ (i % 32) ≤ 2 ^ (i % 32) := by
            have h0 : wd / 2 ^ (i % 32) % 2 ≤ 1 := by omega
            have h2 := Nat.mul_le_mul_right (2 ^ (i % 32)) h0
            omega
          have e3 : ((wd : Int) / 2 ^ (i % 32) % 2) * 2 ^ (i % 32) = ((wd / 2 ^ (i % 32) % 2 * 2 ^ (i % 32) : Nat) : Int) := by
            rw [cast_pow]
            simp
          have e4 : 2 * (wd / 2 ^ (i % 32) % 2) * 2 ^ (i % 32) = 2 * (wd / 2 ^ (i % 32) % 2 * 2 ^ (i % 32)) := Nat.mul_assoc _ _ _
          rw [e3, e4, cast_pow]
          generalize wd / 2 ^ (i % 32) % 2 * 2 ^ (i % 32) = x at hb2 hb3
          generalize 2 ^ (i % 32) = y at hb3
          omega
        have ha1 : ((words l).map nV).set (i / 32) (V.int (Builtin.bitXor (wordOf ((l.drop (32 * (i / 32))).take 32) : Int) (1 * 2 ^ ((i : Int) % 32).toNat))) = (words (l.set i c)).map nV := by
          rw [ev, ← ex, List.map_set]
        have ha1' := congrArg HO.lst ha1
        rw [show (HO.lst (((words l).map nV).set (i / 32) (V.int (Builtin.bitXor (wordOf ((l.drop (32 * (i / 32))).take 32) : Int) (1 * 2 ^ ((i : Int) % 32).toNat))))) = HO.lst ((words (l.set i c)).map nV) from ha1']
        have hp1 : upd H a (.lst ((words (l.set i c)).map nV)) p = some (.ins A.cB dx (brf l.length a b)) := by rw [upd_ne npa]; exact hp
        have hb1' : upd H a (.lst ((words (l.set i c)).map nV)) b = some (.lst ((marks l).map nV)) := by rw [upd_ne nab.symm]; exact hb
        -- for later in range(at + 1, len(self.heads))
        refine ⟨_, rfl, _, _, rfl, rfl, _, rfl, p, A.cB, dx, _, _, rfl, hp1, T.clB, T.nB_heads, brf_heads _ _ _, b, _, rfl, .inl (SqL.of hb1'), _, _, rfl, ?_, ?_⟩
        · rw [List.length_map, marks_len]
          unfold wn
          omega
        refine for_range (lo := ((i / 32 : Nat) : Int) + 1) (fun j σ H' => ∃ u : Option V, σ = [some (.ref p), some (nV i), some (bV c), some (nV (i / 32)), u] ∧ (∀ b' o, H b' = some o → b' ≠ a → b' ≠ b → H' b' = some o) ∧
          H' a = some (.lst ((words (l.set i c)).map nV)) ∧ H' b = some (.lst ((mmix l (l.set i c) (i / 32 + 1 + j)).map nV)))
          ⟨none, rfl, fun b' o e n1 n2 => by rw [upd_ne n1]; exact e, upd_same, by rw [Nat.add_zero, mmix_old hb1]; exact hb1'⟩ ?_ ?_
        · rintro j σ H' hj ⟨z, rfl, s1, ha2, hb2⟩
          rw [List.length_map, marks_len] at hj
          have hk : i / 32 + 1 + j < wn l.length := by omega
          have hp2 := s1 _ _ hp npa npb
          have ek : ((i / 32 : Nat) : Int) + 1 + (j : Nat) = ((i / 32 + 1 + j : Nat) : Int) := by omega
          refine ⟨_, rfl, p, A.cB, dx, _, _, rfl, hp2, T.clB, T.nB_heads, brf_heads _ _ _, _, rfl, b, _, _, nV (cnt (l.take (32 * (i / 32 + 1 + j)))), rfl, rfl, SqL.of hb2, at_of ek ?_, ?_⟩
          · rw [List.getElem?_map, mmix_at hk, if_neg (Nat.lt_irrefl _)]
            rfl
          refine ⟨_, rfl, _, _, rfl, rfl, .inl ⟨by decide, by decide⟩, _, _, rfl, rfl, _, _, rfl, rfl, ?_⟩
          refine ⟨_, rfl, p, A.cB, dx, _, _, rfl, hp2, T.clB, T.nB_heads, brf_heads _ _ _, _, rfl, b, _, _, _, rfl, rfl, hb2, (by rw [ek]; exact ixN_nat (by rw [List.length_map, mmix_len]; exact hk)), ?_⟩
          refine ⟨_, rfl, fun b' o e n1 n2 => by rw [upd_ne n2]; exact s1 _ _ e n1 n2, by rw [upd_ne nab]; exact ha2, ?_⟩
          have ev : V.int ((cnt (l.take (32 * (i / 32 + 1 + j))) : Int) + 2 * (c.toNat : Int) - 1) = nV (cnt ((l.set i c).take (32 * (i / 32 + 1 + j)))) := by
            have := cnt_set_take hb1 (32 * (i / 32 + 1 + j))
            rw [if_pos (by omega)] at this
            unfold nV
            congr 1
            omega
          rw [upd_same, show i / 32 + 1 + (j + 1) = i / 32 + 1 + j + 1 from rfl, ← mmix_set hk, List.map_set, ← ev]
        · rintro σ H' ⟨z, rfl, s1, ha2, hb2⟩
          rw [List.length_map, marks_len] at hb2
          rw [mmix_new (by rw [List.length_set]) (by omega)] at hb2
          refine ⟨_, rfl, (by show 1 ≤ sizeLine; decide), fun q hq => ?_⟩
          have hp2 := s1 _ _ hp npa npb
          have nq : ∀ {x : Addr} {o : HO}, H' x = some o → x ≠ q := fun h => ne_of_none h hq
          have hq0 : H q = none := by
            cases e : H q with
            | none => rfl
            | some o =>
              by_cases e1 : q = a
              · rw [e1, ha2] at hq; cases hq
              · by_cases e2 : q = b
                · rw [e2, hb2] at hq; cases hq
                · rw [s1 _ _ e e1 e2] at hq; cases hq
          refine kk q _ (fun b' o e n1 n2 => ?_) hq0 upd_same ⟨⟨dx, by rw [List.length_set, upd_ne (nq hp2)]; exact hp2⟩, by rw [upd_ne (nq ha2)]; exact ha2, by rw [upd_ne (nq hb2)]; exact hb2, nab, by rw [List.length_set]; exact hl⟩
          rw [upd_ne (ne_of_none e hq0)]
          exact s1 _ _ e n1 n2
    · have c' : amongV u 0 1 = false := by simpa using cu
      rw [c']
      refine iteT ?_
      exact kE c'

/-! ### data compared -/
theorem dp_ints {K : PySem.W.Frag} {H : Hp} : ∀ ns : List Int, DpAll K H (ns.map V.int) (ns.map PyData.int)
  | [] => .nil
  | n :: ns => .cons (.int n) (dp_ints ns)
theorem lay_ints : ∀ ns : List Int, PyData.canLayAll0 (ns.map PyData.int) = true
  | [] => by simp [PyData.canLayAll0]
  | n :: ns => by
    rw [List.map_cons, PyData.canLayAll0, lay_ints ns]
    simp [PyData.canLay0]
theorem depth_ints : ∀ ns : List Int, PyData.depthAll (ns.map PyData.int) ≤ 1
  | [] => by simp [PyData.depthAll]
  | n :: ns => by
    have := depth_ints ns
    rw [List.map_cons, PyData.depthAll]
    simp only [PyData.depth]
    omega
theorem shaped_ints (ns : List Int) : SeqAt.shaped (.list (ns.map PyData.int)) = true := by
  unfold SeqAt.shaped
  rw [PyData.canLay0, lay_ints, PyData.depth]
  have := depth_ints ns
  simp only [Bool.true_and, decide_eq_true_eq]
  omega
theorem eqv_ints : ∀ ns ms : List Int, PyData.eqvAll (ns.map PyData.int) (ms.map PyData.int) = decide (ns = ms)
  | [], [] => by simp [PyData.eqvAll]
  | [], m :: ms => by simp [PyData.eqvAll]
  | n :: ns, [] => by simp [PyData.eqvAll]
  | n :: ns, m :: ms => by
    rw [List.map_cons, List.map_cons, PyData.eqvAll, eqv_ints ns ms, PyData.eqv]
    by_cases h : n = m
    · by_cases h2 : ns = ms <;> simp [h, h2]
    · simp [h]
theorem ne_ints {K : PySem.W.Frag} {H : Hp} {p q : Addr} {ns ms : List Int} {Q : VK} (h1 : SqL K H p (ns.map V.int)) (h2 : SqL K H q (ms.map V.int)) (k : Q (.bl (!decide (ns = ms))) H) : rNeD K (.ref p) (.ref q) H Q :=
  ⟨_, _, .lst h1 (dp_ints ns), .lst h2 (dp_ints ms), shaped_ints ns, shaped_ints ms, by rw [PyData.eqv, eqv_ints]; exact k⟩
theorem eq_ints {K : PySem.W.Frag} {H : Hp} {p q : Addr} {ns ms : List Int} {Q : VK} (h1 : SqL K H p (ns.map V.int)) (h2 : SqL K H q (ms.map V.int)) (k : Q (.bl (decide (ns = ms))) H) : rEqD K (.ref p) (.ref q) H Q :=
  ⟨_, _, .lst h1 (dp_ints ns), .lst h2 (dp_ints ms), shaped_ints ns, shaped_ints ms, by rw [PyData.eqv, eqv_ints]; exact k⟩
theorem ints_nV (l : List Nat) : l.map nV = (l.map fun (n : Nat) => ((n : Nat) : Int)).map V.int := by rw [List.map_map]; rfl
theorem ints_bV (l : List Bool) : l.map bV = (l.map fun b => (b.toNat : Int)).map V.int := by rw [List.map_map]; rfl
/-- two lists of naturals, the same -/
theorem ne_same {K : PySem.W.Frag} {H : Hp} {p q : Addr} {l : List Nat} {Q : VK} (h1 : SqL K H p (l.map nV)) (h2 : SqL K H q (l.map nV)) (k : Q (.bl false) H) : rNeD K (.ref p) (.ref q) H Q := by
  rw [ints_nV] at h1 h2
  exact ne_ints h1 h2 (by simpa using k)
theorem eq_same {K : PySem.W.Frag} {H : Hp} {p q : Addr} {l : List Nat} {Q : VK} (h1 : SqL K H p (l.map nV)) (h2 : SqL K H q (l.map nV)) (k : Q (.bl true) H) : rEqD K (.ref p) (.ref q) H Q := by
  rw [ints_nV] at h1 h2
  exact eq_ints h1 h2 (by simpa using k)
theorem ne_sameB {K : PySem.W.Frag} {H : Hp} {p q : Addr} {l : List Bool} {Q : VK} (h1 : SqL K H p (l.map bV)) (h2 : SqL K H q (l.map bV)) (k : Q (.bl false) H) : rNeD K (.ref p) (.ref q) H Q := by
  rw [ints_bV] at h1 h2
  exact ne_ints h1 h2 (by simpa using k)
theorem eq_sameB {K : PySem.W.Frag} {H : Hp} {p q : Addr} {l : List Bool} {Q : VK} (h1 : SqL K H p (l.map bV)) (h2 : SqL K H q (l.map bV)) (k : Q (.bl true) H) : rEqD K (.ref p) (.ref q) H Q := by
  rw [ints_bV] at h1 h2
  exact eq_ints h1 h2 (by simpa using k)

/-! ### the law's row of numbers: a dict with the script and a counter -/
def kAt : Key := Sum.inr ("at" : Str)
def kCe : Key := Sum.inr ("cells" : Str)
theorem k_ca : ¬ (kCe = kAt) := by
  intro h
  injection h with h
  exact absurd h (by decide +kernel)
def stD (a : Addr) (k : Nat) : List (Key × V) := [(kCe, .ref a), (kAt, nV k)]
theorem st_at (a : Addr) (k : Nat) : valV (stD a k) kAt = some (nV k) := by
  unfold stD
  rw [valV_neg k_ca, valV_pos rfl]
theorem st_cells (a : Addr) (k : Nat) : valV (stD a k) kCe = some (.ref a) := by
  unfold stD
  rw [valV_pos rfl]
theorem st_put (a : Addr) (k j : Nat) : putK (stD a k) kAt (nV j) = stD a j := by
  unfold putK stD
  rw [if_pos (by simp)]
  simp [k_ca]
theorem dget_at {H : Hp} {d a : Addr} {k : Nat} (h : H d = some (.dK (stD a k))) : DGet H d (.str "at") (some (nV k)) := by
  have := DGet.k (k := kAt) h
  rw [st_at] at this
  exact this
theorem dget_cells {H : Hp} {d a : Addr} {k : Nat} (h : H d = some (.dK (stD a k))) : DGet H d (.str "cells") (some (.ref a)) := by
  have := DGet.k (k := kCe) h
  rw [st_cells] at this
  exact this
theorem dput_at {H : Hp} {d a : Addr} {k j : Nat} {v : V} (h : H d = some (.dK (stD a k))) (hv : v = nV j) : DPut H d (.str "at") v (upd H d (.dK (stD a j))) := by
  have := DPut.k (k := kAt) (v := v) h (Nat.lt_of_le_of_lt (show (stD a k).length ≤ 2 from Nat.le_refl _) (by decide))
  rw [hv, st_put] at this
  rw [hv]
  exact this
structure St (K : PySem.W.Frag) (H : Hp) (d a : Addr) (ns : List Int) (k : Nat) : Prop where
  dict : H d = some (.dK (stD a k))
  cells : SqL K H a (ns.map V.int)
  len : ns.length ≤ 63
  few : k ≤ 1000000
theorem sql_keepD {K : PySem.W.Frag} {H H' : Hp} {d a : Addr} {kvs : List (Key × V)} {xs : List V} (k : Keep d H H') (hd : H d = some (.dK kvs)) (h : SqL K H a xs) : SqL K H' a xs := by
  rcases h with (h | ⟨o, h⟩) | h
  · exact .inl (.inl (k _ _ h (ne_of h hd (by intro z; cases z))))
  · exact .inl (.inr ⟨o, k _ _ h (ne_of h hd (by intro z; cases z))⟩)
  · exact .inr h
theorem St.same {K : PySem.W.Frag} {H H' : Hp} {d a : Addr} {ns : List Int} {k : Nat} (s : Same H H') (h : St K H d a ns k) : St K H' d a ns k := ⟨s _ _ h.dict, s.seq h.cells, h.len, h.few⟩
theorem Keep.free {p x : Addr} {H H' : Hp} {o : HO} (k : Keep p H H') (h : H' x = none) (hp : H' p = some o) : H x = none := by
  cases e : H x with
  | none => rfl
  | some u =>
    by_cases z : x = p
    · rw [z, hp] at h; cases h
    · rw [k _ _ e z] at h; cases h
theorem St.keep {K : PySem.W.Frag} {H H' : Hp} {d a : Addr} {ns : List Int} {k k' : Nat} (h : St K H d a ns k) (kp : Keep d H H') (hd : H' d = some (.dK (stD a k'))) (hk : k' ≤ 1000000) : St K H' d a ns k' :=
  ⟨hd, sql_keepD kp h.dict h.cells, h.len, hk⟩
/-- one more number drawn: some number below 306783379 -/
def spNext (K : PySem.W.Frag) : Sp := fun vs H Q _ => ∃ (d a : Addr) (ns : List Int) (k : Nat), vs = [.ref d] ∧ St K H d a ns k ∧ k < 900000 ∧
  ∀ (n : Nat) (H' : Hp), n < 306783379 → Keep d H H' → St K H' d a ns (k + 1) → Q (nV n) H'
theorem draw_nat {z : Int} : ∃ n : Nat, z % 2147483647 / 7 = (n : Int) ∧ n < 306783379 := by
  refine ⟨(z % 2147483647 / 7).toNat, ?_, ?_⟩ <;> omega
theorem emod_at {α : Type} {xs : List α} {k : Int} (h : 0 < xs.length) : ∃ j : Nat, k % (xs.length : Int) = (j : Int) ∧ j < xs.length := by
  have h1 := Int.emod_nonneg k (b := (xs.length : Int)) (by omega)
  have h2 := Int.emod_lt_of_pos k (b := (xs.length : Int)) (by omega)
  exact ⟨(k % (xs.length : Int)).toNat, by omega, by omega⟩
theorem if_t {c : Bool} {A B : Prop} (hc : c = true) (h : A) : if c = true then A else B := by
  rw [if_pos hc]
  exact h
theorem if_f {c : Bool} {A B : Prop} (hc : c = false) (h : B) : if c = true then A else B := by
  rw [hc, if_neg Bool.false_ne_true]
  exact h
theorem same_new_seq {K : PySem.W.Frag} {H : Hp} {a p : Addr} {xs : List V} {o : HO} (h : SqL K H a xs) (hp : H p = none) : SqL K (upd H p o) a xs := (same_new (Same.refl H) hp).seq h
set_option maxHeartbeats 1000000 in
theorem ok__law_next (T : Tx K mg A) : FnOk P w K mg base CX0 1 A._law_next A._law_next_d ["_law_state"] (spNext K) := by
  refine T._law_next.F.ok sc__law_next (fun vs H Q E h => ?_) (fun cdv Ar outer s H vs Q E hr h => ?_)
  · obtain ⟨d, a, ns, k, rfl, _⟩ := h
    rfl
  · obtain ⟨d, a, ns, k, rfl, S, hk, kQ⟩ := h
    have hu := hu_of hr
    refine ⟨_, (pss_cons (ps_dput hu (pv 0) pe_str (pe_op op_add (pe_dget hu (pv 0) pe_str (fun _ _ => rfl)) pe_int) rfl)
      (pss_cons (ps_set (i := 1) sc__law_next.nd rfl (by first | exact Or.inl rfl | exact Or.inr rfl) (pe_dget hu (pv 0) pe_str (fun _ _ => rfl)))
      (pss_cons (ps_set (i := 2) sc__law_next.nd rfl (by first | exact Or.inl rfl | exact Or.inr rfl) (pe_dget hu (pv 0) pe_str (fun _ _ => rfl)))
      (pss_cons (ps_set (i := 3) sc__law_next.nd rfl (by first | exact Or.inl rfl | exact Or.inr rfl) (pe_op op_add (pe_op op_mul (pe_op op_mul pe_int (pv 1)) (pv 1)) (pe_op op_mul pe_int (pv 1))))
      (pss_cons (ps_if (pt_cmpR (op_neD (hr.units)) (pv 2) (pe_lst pa_nil) (nomark _)) (pss_one (ps_set (i := 3) sc__law_next.nd rfl (by first | exact Or.inl rfl | exact Or.inr rfl) (pe_op op_add (pv 3) (pe_op op_mul (pe_op op_mod (pe_ix ix_list (pv 2) (pe_op op_mod (pv 1) (pe_callB call_len_seq (by rfl) T.b_len (by decide +kernel) (pa_cons (pv 2) pa_nil))) (fun _ _ => rfl)) pe_int) (pe_op op_add pe_int (pe_op op_fdiv (pv 1) (pe_callB call_len_seq (by rfl) T.b_len (by decide +kernel) (pa_cons (pv 2) pa_nil)))))))) pss_nil)
      (pss_one (ps_ret (pe_op op_fdiv (pe_op op_mod (pe_op op_mul (pv 3) pe_int) pe_int) pe_int)))))))), ?_⟩
    obtain ⟨hd, hc, hl, hf⟩ := id S
    -- _law_state["at"] = _law_state["at"] + 1
    refine ⟨_, rfl, d, _, rfl, dget_at hd, _, _, rfl, rfl, _, rfl, d, _, rfl, dput_at (j := k + 1) hd rfl, ?_⟩
    have kp : Keep d H (upd H d (.dK (stD a (k + 1)))) := (keep_of (Same.refl H)).upd _
    have hc1 := sql_keepD kp hd hc
    have S1' : St K (upd H d (.dK (stD a (k + 1)))) d a ns (k + 1) := ⟨upd_same, hc1, hl, by omega⟩
    refine ⟨_, rfl, d, _, rfl, dget_at upd_same, _, rfl, d, _, rfl, dget_cells upd_same, ?_⟩
    refine ⟨_, rfl, _, _, rfl, rfl, .inl ⟨by decide, by decide⟩, _, rfl, _, _, rfl, rfl, .inl ⟨?_, ?_⟩, _, rfl, _, _, rfl, rfl, .inl ⟨by decide, by decide⟩, _, _, rfl, rfl, ?_⟩
    · show -(2 ^ 64) < (31 : Int) * ((k + 1 : Nat) : Int)
      omega
    · show (31 : Int) * ((k + 1 : Nat) : Int) < 2 ^ 64
      omega
    -- if _law_cells != []
    refine ⟨_, rfl, Nat.zero_le _, fun e he => ne_ints (ns := ns) (ms := []) (same_new_seq hc1 he) (SqL.of upd_same) ⟨_, rfl, ?_⟩⟩
    have s0 := same_new (Same.refl (upd H d (.dK (stD a (k + 1))))) (o := .lst []) he
    have kp0 := kp.same s0
    have S1 := S1'.same s0
    by_cases hns : ns = []
    · refine if_f (by simp [hns]) ?_
      refine ⟨_, rfl, _, _, rfl, rfl, .inr ⟨by decide, by decide⟩, _, _, rfl, rfl, (by show (0 : Int) < 2147483647; decide), _, _, rfl, rfl, ⟨by decide, by decide⟩, ?_⟩
      obtain ⟨n, en, hn⟩ := draw_nat (z := (31 * ((k + 1 : Nat) : Int) * ((k + 1 : Nat) : Int) + 7919 * ((k + 1 : Nat) : Int)) * 48271)
      have q := kQ n _ hn kp0 S1
      refine cast ?_ q
      unfold nV
      congr 2
      exact en.symm
    · refine if_t (by simp [hns]) ?_
      have hlen : 0 < ns.length := List.length_pos_iff.mpr hns
      obtain ⟨j, ej, hj⟩ := emod_at (xs := ns) (k := ((k + 1 : Nat) : Int)) hlen
      have hlm : (ns.map V.int).length = ns.length := List.length_map ..
      refine ⟨_, rfl, _, rfl, _, rfl, _, rfl, a, _, rfl, .inl S1.cells, _, _, rfl, rfl, (by show (0 : Int) < ((ns.map V.int).length : Nat); omega), a, _, _, V.int ns[j], rfl, rfl, S1.cells, at_of (j := j) (by show ((k + 1 : Nat) : Int) % ((ns.map V.int).length : Nat) = _; rw [hlm]; exact ej) ?_, ?_⟩
      · rw [List.getElem?_map, List.getElem?_eq_getElem hj]
        rfl
      refine ⟨_, _, rfl, rfl, (by show (0 : Int) < 2147483647; decide), _, rfl, _, rfl, a, _, rfl, .inl S1.cells, _, _, rfl, rfl, ⟨by rw [hlm]; omega, by rw [hlm]; omega⟩, _, _, rfl, rfl, _, _, rfl, rfl, .inl ⟨?_, ?_⟩, _, _, rfl, rfl, ?_⟩
      · show -(2 ^ 64) < ns[j] % 2147483647
        omega
      · show ns[j] % 2147483647 < 2 ^ 64
        omega
      refine ⟨_, rfl, _, _, rfl, rfl, .inr ⟨by decide, by decide⟩, _, _, rfl, rfl, (by show (0 : Int) < 2147483647; decide), _, _, rfl, rfl, ⟨by decide, by decide⟩, ?_⟩
      obtain ⟨n, en, hn⟩ := draw_nat (z := (31 * ((k + 1 : Nat) : Int) * ((k + 1 : Nat) : Int) + 7919 * ((k + 1 : Nat) : Int) + ns[j] % 2147483647 * (1 + ((k + 1 : Nat) : Int) / (((ns.map V.int).length : Nat) : Int))) * 48271)
      have q := kQ n _ hn kp0 S1
      refine cast ?_ q
      unfold nV
      congr 2
      exact en.symm
theorem nn {z : Int} {m : Nat} (h0 : 0 ≤ z) (h1 : z < (m : Int)) : ∃ v : Nat, V.int z = nV v ∧ v < m := ⟨z.toNat, by unfold nV; congr 1; omega, by omega⟩
theorem pick {xs : List V} {z : Int} {R : Nat → Prop} (h0 : 0 ≤ z) (h1 : z < (xs.length : Int)) (hall : ∀ x ∈ xs, ∃ v : Nat, x = nV v ∧ R v) : ∃ v, atI xs z = some (nV v) ∧ R v := by
  have hj : z.toNat < xs.length := by omega
  obtain ⟨v, e, hv⟩ := hall xs[z.toNat] (List.getElem_mem hj)
  exact ⟨v, at_of (j := z.toNat) (by omega) (by rw [List.getElem?_eq_getElem hj, e]), hv⟩
/-- a number of so many bits -/
def spGreat (K : PySem.W.Frag) : Sp := fun vs H Q _ => ∃ (d a : Addr) (ns : List Int) (k wd : Nat), vs = [.ref d, nV wd] ∧ St K H d a ns k ∧ k < 890000 ∧ wd ≤ 64 ∧
  ∀ (v : Nat) (H' : Hp), v < 2 ^ wd → Keep d H H' → St K H' d a ns (k + 3) → Q (nV v) H'
set_option maxHeartbeats 1000000 in
theorem ok__law_great (T : Tx K mg A) : FnOk P w K mg base CX0 2 A._law_great A._law_great_d ["_law_state", "_law_wide"] (spGreat K) := by
  refine T._law_great.F.ok sc__law_great (fun vs H Q E h => ?_) (fun cdv Ar outer s H vs Q E hr h => ?_)
  · obtain ⟨d, a, ns, k, wd, rfl, _⟩ := h
    rfl
  · obtain ⟨d, a, ns, k, wd, rfl, S, hk, hw, kQ⟩ := h
    refine ⟨_, (pss_cons (ps_set (i := 2) sc__law_great.nd rfl (by first | exact Or.inl rfl | exact Or.inr rfl) (pe_call (E := E0) (ok__law_next T) (hr.mono (by decide)) rfl T._law_next.g T._law_next.F.kp T._law_next.b .nil pass0 (pa_cons (pv 0) pa_nil)))
      (pss_cons (ps_set (i := 3) sc__law_great.nd rfl (by first | exact Or.inl rfl | exact Or.inr rfl) (pe_op op_shl pe_int (pv 1)))
      (pss_cons (ps_set (i := 4) sc__law_great.nd rfl (by first | exact Or.inl rfl | exact Or.inr rfl) (pe_op op_mod (pe_op op_add (pe_op op_mul (pe_op op_add (pe_op op_mul (pv 2) pe_int) (pe_call (E := E0) (ok__law_next T) (hr.mono (by decide)) rfl T._law_next.g T._law_next.F.kp T._law_next.b .nil pass0 (pa_cons (pv 0) pa_nil))) pe_int) (pe_call (E := E0) (ok__law_next T) (hr.mono (by decide)) rfl T._law_next.g T._law_next.F.kp T._law_next.b .nil pass0 (pa_cons (pv 0) pa_nil))) (pv 3)))
      (pss_one (ps_ret (pe_ix ix_list (pe_lst (pa_cons (pv 4) (pa_cons (pe_op op_mod (pe_op op_mod (pe_op op_fdiv (pv 2) pe_int) pe_int) (pv 3)) (pa_cons (pe_op op_sub (pe_op op_sub (pv 3) pe_int) (pe_op op_mod (pe_op op_mod (pe_op op_fdiv (pv 2) pe_int) pe_int) (pv 3))) (pa_cons (pe_op op_shr (pv 4) (pe_op op_fdiv (pv 1) pe_int)) pa_nil))))) (pe_op op_mod (pv 2) pe_int) (fun _ _ => rfl))))))), ?_⟩
    refine ⟨_, rfl, d, a, ns, k, rfl, S, by omega, fun n1 H1 hn1 kp1 S1 => ?_⟩
    refine ⟨_, rfl, _, _, rfl, rfl, ⟨by omega, by omega, by decide⟩, ?_⟩
    obtain ⟨M, eM⟩ : ∃ M : Nat, M = 2 ^ wd := ⟨_, rfl⟩
    have hM : 0 < M := by rw [eM]; exact Nat.two_pow_pos wd
    have e1 : (1 : Int) * 2 ^ ((wd : Nat) : Int).toNat = ((M : Nat) : Int) := by rw [Int.one_mul, Int.toNat_natCast, eM, cast_pow]
    dsimp only
    rw [e1]
    rw [← eM] at kQ
    refine ⟨_, rfl, _, _, rfl, rfl, .inr ⟨by decide, by decide⟩, _, rfl, d, a, ns, k + 1, rfl, S1, by omega, fun n2 H2 hn2 kp2 S2 => ?_⟩
    refine ⟨_, _, rfl, rfl, _, _, rfl, rfl, .inr ⟨by decide, by decide⟩, _, rfl, d, a, ns, k + 2, rfl, S2, by omega, fun n3 H3 hn3 kp3 S3 => ?_⟩
    have hMi : (0 : Int) < ((M : Nat) : Int) := by omega
    refine ⟨_, _, rfl, rfl, _, rfl, _, _, rfl, rfl, hMi, ?_⟩
    dsimp only
    obtain ⟨X, eX⟩ : ∃ X : Int, X = (((n1 : Int) * 268435399 + (n2 : Int)) * 268435399 + (n3 : Int)) % ((M : Nat) : Int) := ⟨_, rfl⟩
    have hX0 : 0 ≤ X := by rw [eX]; exact Int.emod_nonneg _ (by omega)
    have hX1 : X < ((M : Nat) : Int) := by rw [eX]; exact Int.emod_lt_of_pos _ hMi
    rw [← eX]
    refine ⟨_, rfl, _, rfl, _, _, rfl, rfl, ⟨by decide, by decide⟩, _, _, rfl, rfl, (by show (0 : Int) < 5; decide), _, rfl, _, _, rfl, rfl, hMi, ?_⟩
    refine ⟨_, rfl, _, _, rfl, rfl, _, rfl, _, _, rfl, rfl, ⟨by decide, by decide⟩, _, _, rfl, rfl, (by show (0 : Int) < 3; decide), _, rfl, _, _, rfl, rfl, hMi, _, _, rfl, rfl, ?_⟩
    refine ⟨_, rfl, _, rfl, _, _, rfl, rfl, ⟨by decide, by decide⟩, _, _, rfl, rfl, (by show (0 : Int) ≤ ((wd : Nat) : Int) / 2; omega), (by show 4 ≤ sizeLine; decide), fun q hq => ?_⟩
    obtain ⟨v, ev, hv⟩ := pick (xs := [V.int X, V.int ((n1 : Int) / 7 % 5 % (M : Int)), V.int ((M : Int) - 1 - (n1 : Int) / 7 % 3 % (M : Int)), V.int (X / 2 ^ (((wd : Nat) : Int) / 2).toNat)])
      (z := (n1 : Int) % 4) (R := fun v => v < M) (by omega) (by show (n1 : Int) % 4 < 4; omega) (fun x hx => by
        have g1 := Int.emod_nonneg ((n1 : Int) / 7 % 5) (b := ((M : Nat) : Int)) (by omega)
        have g2 := Int.emod_lt_of_pos ((n1 : Int) / 7 % 5) hMi
        have g3 := Int.emod_nonneg ((n1 : Int) / 7 % 3) (b := ((M : Nat) : Int)) (by omega)
        have g4 := Int.emod_lt_of_pos ((n1 : Int) / 7 % 3) hMi
        have g5 : 0 ≤ X / 2 ^ (((wd : Nat) : Int) / 2).toNat := Int.ediv_nonneg hX0 (Int.le_of_lt (PySem.W.kbt_pos _))
        have g6 : X / 2 ^ (((wd : Nat) : Int) / 2).toNat ≤ X := Int.ediv_le_self _ hX0
        simp only [List.mem_cons, List.not_mem_nil, or_false] at hx
        rcases hx with rfl | rfl | rfl | rfl
        · exact nn hX0 hX1
        · exact nn g1 g2
        · exact nn (by omega) (by omega)
        · exact nn g5 (by omega))
    refine ⟨_, rfl, _, _, rfl, rfl, (by show (0 : Int) < 4; decide), q, _, _, _, rfl, rfl, SqL.of upd_same, ev, ?_⟩
    have s4 := same_new (Same.refl H3) (o := .lst [V.int X, V.int ((n1 : Int) / 7 % 5 % (M : Int)), V.int ((M : Int) - 1 - (n1 : Int) / 7 % 3 % (M : Int)), V.int (X / 2 ^ (((wd : Nat) : Int) / 2).toNat)]) hq
    exact kQ v _ hv (((kp1.trans kp2).trans kp3).same s4) (S3.same s4)
/-! ### what the laws about rows of bits hold -/
def spLaw (K : PySem.W.Frag) : Sp := fun vs H Q _ => ∃ (a : Addr) (ns : List Int), vs = [.ref a] ∧ SqL K H a (ns.map V.int) ∧ ns.length ≤ 63 ∧ ∀ H', Q (.bl true) H'
theorem st_merge (a : Addr) (k : Nat) : mergeK [] (stD a k) = stD a k := by
  unfold mergeK stD
  show putK (putK [] kCe (.ref a)) kAt (nV k) = _
  have e1 : putK ([] : List (Key × V)) kCe (.ref a) = [(kCe, .ref a)] := by simp [putK]
  rw [e1]
  simp [putK, k_ca]
theorem same_keep {d : Addr} {H0 H H' : Hp} (s : Same H0 H) (k : Keep d H H') (f : H0 d = none) : Same H0 H' := fun b o e => k _ _ (s _ _ e) (ne_of_none e f)

/-! ### data of lists and tuples -/
def Ly (n : Nat) (d : PyData) : Prop := d.canLay0 = true ∧ d.depth ≤ n
theorem Ly.int (i : Int) : Ly 0 (.int i) := ⟨rfl, Nat.le_refl _⟩
theorem ly_all {n : Nat} : ∀ {ds : List PyData}, (∀ d ∈ ds, Ly n d) → PyData.canLayAll0 ds = true ∧ PyData.depthAll ds ≤ n
  | [], _ => ⟨rfl, Nat.zero_le _⟩
  | d :: ds, h => by
    have h1 := h d List.mem_cons_self
    have h2 := ly_all (ds := ds) fun e he => h e (List.mem_cons_of_mem _ he)
    refine ⟨?_, ?_⟩
    · rw [PyData.canLayAll0, h1.1, h2.1]
      rfl
    · rw [PyData.depthAll]
      exact Nat.max_le.mpr ⟨h1.2, h2.2⟩
theorem Ly.list {n : Nat} {ds : List PyData} (h : ∀ d ∈ ds, Ly n d) : Ly (n + 1) (.list ds) := by
  obtain ⟨h1, h2⟩ := ly_all h
  refine ⟨?_, ?_⟩
  · rw [PyData.canLay0, h1]
  · rw [PyData.depth]
    omega
theorem Ly.tup {n : Nat} {ds : List PyData} (h : ∀ d ∈ ds, Ly n d) : Ly (n + 1) (.tuple ds) := by
  obtain ⟨h1, h2⟩ := ly_all h
  refine ⟨?_, ?_⟩
  · rw [PyData.canLay0, h1]
  · rw [PyData.depth]
    omega
theorem Ly.le {n m : Nat} {d : PyData} (h : Ly n d) (hm : n ≤ m) : Ly m d := ⟨h.1, Nat.le_trans h.2 hm⟩
theorem Ly.shaped {n : Nat} {d : PyData} (h : Ly n d) (hn : n ≤ 64) : SeqAt.shaped d = true := by
  unfold SeqAt.shaped
  rw [h.1, Bool.true_and, decide_eq_true_eq]
  exact Nat.le_trans h.2 hn
theorem ne_data {K : PySem.W.Frag} {H : Hp} {x y : V} {n : Nat} {d : PyData} {Q : VK} (l : Ly n d) (hn : n ≤ 64) (h1 : Dp K H x d) (h2 : Dp K H y d) (k : Q (.bl false) H) : rNeD K x y H Q :=
  ⟨d, d, h1, h2, l.shaped hn, l.shaped hn, by rw [SeqAt.eqv_refl d l.1]; exact k⟩
theorem eq_data {K : PySem.W.Frag} {H : Hp} {x y : V} {n : Nat} {d : PyData} {Q : VK} (l : Ly n d) (hn : n ≤ 64) (h1 : Dp K H x d) (h2 : Dp K H y d) (k : Q (.bl true) H) : rEqD K x y H Q :=
  ⟨d, d, h1, h2, l.shaped hn, l.shaped hn, by rw [SeqAt.eqv_refl d l.1]; exact k⟩
theorem dp_map {K : PySem.W.Frag} {H : Hp} {α : Type} (f : α → V) (g : α → PyData) : ∀ {l : List α}, (∀ a ∈ l, Dp K H (f a) (g a)) → DpAll K H (l.map f) (l.map g)
  | [], _ => .nil
  | a :: l, h => .cons (h a List.mem_cons_self) (dp_map f g fun b hb => h b (List.mem_cons_of_mem _ hb))
theorem dp_ix {K : PySem.W.Frag} {H : Hp} : ∀ {bs : List Addr} {g : Nat → PyData}, (∀ l b, bs[l]? = some b → Dp K H (.ref b) (g l)) → DpAll K H (bs.map V.ref) ((List.range bs.length).map g)
  | [], _, _ => .nil
  | b :: bs, g, h => by
    rw [List.length_cons, List.range_succ_eq_map, List.map_cons, List.map_cons, List.map_map]
    exact .cons (h 0 b rfl) (dp_ix (g := g ∘ Nat.succ) fun l c hc => h (l + 1) c hc)
def natsD (ns : List Nat) : PyData := .list (ns.map fun (n : Nat) => PyData.int (n : Int))
theorem natsD_ly (ns : List Nat) : Ly 1 (natsD ns) := Ly.list fun d hd => by
  obtain ⟨n, _, rfl⟩ := List.mem_map.mp hd
  exact Ly.int _
theorem natsD_dp {K : PySem.W.Frag} {H : Hp} {a : Addr} {ns : List Nat} (h : SqL K H a (ns.map nV)) : Dp K H (.ref a) (natsD ns) := .lst h (dp_map nV _ fun n _ => .int _)
def bitsD (bs : List Bool) : PyData := .list (bs.map fun (b : Bool) => PyData.int (b.toNat : Int))
theorem bitsD_ly (ns : List Bool) : Ly 1 (bitsD ns) := Ly.list fun d hd => by
  obtain ⟨n, _, rfl⟩ := List.mem_map.mp hd
  exact Ly.int _
theorem bitsD_dp {K : PySem.W.Frag} {H : Hp} {a : Addr} {bs : List Bool} (h : SqL K H a (bs.map bV)) : Dp K H (.ref a) (bitsD bs) := .lst h (dp_map bV _ fun n _ => .int _)
/-- an if whose ends are joined -/
def tJoin (t : TS) : TS := fun D σ H => ∃ R : L2.St → Hp → Prop, t { D with nx := R } σ H ∧ ∀ σ' H', R σ' H' → D.nx σ' H'
theorem ps_join {X : Cx} {st : Stmt} {t : TS} (h : PS X st t) : PS X st (tJoin t) := by
  refine ⟨fun pins s σ H D I hw => ?_⟩
  obtain ⟨R, h1, h2⟩ := hw
  refine thn (h.run pins s σ H _ I h1) fun f s1 q => ?_
  cases f with
  | next => obtain ⟨σ', H', I2, q⟩ := q; exact ⟨σ', H', I2, h2 _ _ q⟩
  | brk => exact q
  | cont => exact q
  | ret v => exact q
theorem cut_nat {xs : List V} {i j : Nat} (h : i ≤ j) : cutV xs (some (i : Int)) (some (j : Int)) = (xs.drop i).take (j - i) := by
  unfold cutV
  rw [HT.sIx_nat, HT.sIx_nat]
  by_cases hi : i ≤ xs.length
  · rw [Nat.min_eq_left hi]
    by_cases hj : j ≤ xs.length
    · rw [Nat.min_eq_left hj]
    · rw [Nat.min_eq_right (by omega), List.take_of_length_le (by rw [List.length_drop]; omega), List.take_of_length_le (by rw [List.length_drop]; omega)]
  · have e : min i xs.length = xs.length := by omega
    rw [e, List.drop_of_length_le (Nat.le_refl xs.length), List.drop_of_length_le (show xs.length ≤ i by omega)]
    simp
theorem cut_to {xs : List V} {j : Nat} : cutV xs none (some (j : Int)) = xs.take j := by
  unfold cutV
  rw [HT.sIx_nat, HT.sIx_none, List.drop_zero]
  show xs.take (min j xs.length - 0) = _
  by_cases hj : j ≤ xs.length
  · rw [Nat.min_eq_left hj, Nat.sub_zero]
  · rw [Nat.min_eq_right (by omega), List.take_of_length_le (by omega), List.take_of_length_le (by omega)]

/-! ### numbers parted -/
theorem bitval (n k : Nat) : Builtin.bitAnd ((n : Int) / 2 ^ ((k : Nat) : Int).toNat) 1 = ((tb n k).toNat : Int) := by
  rw [PyProof.Rows.bitAnd_m1, Int.toNat_natCast, cast_pow, tb_nat]
  rfl
def fb (k : Nat) (c : Int) (x : V) : Bool := match x with
  | .int i => decide (V.int (Builtin.bitAnd (i / 2 ^ ((k : Nat) : Int).toNat) 1) = V.int c)
  | _ => false
theorem fb0 (n k : Nat) : fb k 0 (nV n) = !tb n k := by
  show decide (V.int (Builtin.bitAnd ((n : Int) / 2 ^ ((k : Nat) : Int).toNat) 1) = V.int 0) = _
  rw [bitval]
  cases tb n k <;> decide
theorem fb1 (n k : Nat) : fb k 1 (nV n) = tb n k := by
  show decide (V.int (Builtin.bitAnd ((n : Int) / 2 ^ ((k : Nat) : Int).toNat) 1) = V.int 1) = _
  rw [bitval]
  cases tb n k <;> decide
theorem filter_map_nV {f : V → Bool} {g : Nat → Bool} (h : ∀ n, f (nV n) = g n) (ns : List Nat) : (ns.map nV).filter f = (ns.filter g).map nV := by
  rw [List.filter_map]
  congr 1
  apply List.filter_congr
  intro n _
  exact h n
theorem mem_nV {ns : List Nat} {i : Nat} {x : V} (h : (ns.map nV)[i]? = some x) : ∃ n, ns[i]? = some n ∧ x = nV n := by
  rw [List.getElem?_map] at h
  cases e : ns[i]? with
  | none => rw [e] at h; cases h
  | some n => rw [e] at h; exact ⟨n, rfl, (Option.some.inj h).symm⟩
def spParted (K : PySem.W.Frag) : Sp := fun vs H Q _ => ∃ (a : Addr) (ns : List Nat) (k : Nat), vs = [.ref a, nV k] ∧ SqL K H a (ns.map nV) ∧ ns.length ≤ 1000 ∧
  ∀ (p : Addr) (H' : Hp), Same H H' → H p = none → H' p = some (.lst ((part k ns).map nV)) → Q (.ref p) H'
set_option maxHeartbeats 1000000 in
theorem ok_parted (T : Tx K mg A) : FnOk P w K mg base CX0 1 A.parted A.parted_d ["numbers", "bit"] (spParted K) := by
  refine T.parted.F.ok sc_parted (fun vs H Q E h => ?_) (fun cdv Ar outer s H vs Q E hr h => ?_)
  · obtain ⟨a, ns, k, rfl, _⟩ := h
    rfl
  · obtain ⟨a, ns, k, rfl, hS, hl, kQ⟩ := h
    refine ⟨_, (pss_cons (ps_setLc (i := 2) (own := [("number", 3)]) (g := gName 3) rfl sc_parted.nd rfl rfl (sw_true rfl rfl rfl (by decide +kernel)) (pi_list (pv 0)) (blkOk_by (N := n_parted) (sc := defScope s_parted) (by decide +kernel)) (fun _ _ _ _ _ => (pg_name (i := 3) sc_parted.nd rfl (by first | exact Or.inl rfl | exact Or.inr rfl))) (fun _ _ _ _ _ => pts_one (pt_cmpR op_eq (pe_op op_and (pe_op op_shr (pv 3) (pv 1)) pe_int) pe_int (nomark _))) (fun _ _ _ _ _ => (pv 3)))
      (pss_one (ps_ret (pe_op op_cat (pv 2) (pe_lc (own := [("number", 3)]) (g := gName 3) rfl sc_parted.nd (pi_list (pv 0)) (blkOk_by (N := n_parted) (sc := defScope s_parted) (by decide +kernel)) (fun _ _ _ _ _ => (pg_name (i := 3) sc_parted.nd rfl (by first | exact Or.inl rfl | exact Or.inr rfl))) (fun _ _ _ _ _ => pts_one (pt_cmpR op_eq (pe_op op_and (pe_op op_shr (pv 3) (pv 1)) pe_int) pe_int (nomark _))) (fun _ _ _ _ _ => (pv 3))))))), ?_⟩
    have hlm : (ns.map nV).length ≤ 100000 := by rw [List.length_map]; omega
    refine ⟨_, rfl, a, rfl, ⟨_, hS⟩, fun D hD => ?_⟩
    refine lc_filt (xs := ns.map nV) (fb k 0) hS hlm hD (fun _ => rfl) (fun i x H' hx s1 Q' kq => ?_) (fun i x H' hx s1 Q' kq => ⟨_, rfl, kq⟩) (fun H1 s1 hD1 => ?_)
    · obtain ⟨n, _, rfl⟩ := mem_nV hx
      exact ⟨_, rfl, _, rfl, _, _, rfl, rfl, (by show (0 : Int) ≤ (k : Nat); omega), _, _, rfl, rfl, rfl, _, rfl, kq H' (Same.refl H')⟩
    · rw [filter_map_nV (fun n => fb0 n k)] at hD1
      have hS1 := s1.seq hS
      refine ⟨_, rfl, _, rfl, a, rfl, ⟨_, hS1⟩, fun D2 hD2 => ?_⟩
      refine lc_filt (xs := ns.map nV) (fb k 1) hS1 hlm hD2 (fun _ => rfl) (fun i x H' hx s2 Q' kq => ?_) (fun i x H' hx s2 Q' kq => ⟨_, rfl, kq⟩) (fun H2 s2 hD3 => ?_)
      · obtain ⟨n, _, rfl⟩ := mem_nV hx
        exact ⟨_, rfl, _, rfl, _, _, rfl, rfl, (by show (0 : Int) ≤ (k : Nat); omega), _, _, rfl, rfl, rfl, _, rfl, kq H' (Same.refl H')⟩
      · rw [filter_map_nV (fun n => fb1 n k)] at hD3
        have h1 := List.length_filter_le (fun n => !tb n k) ns
        have h2 := List.length_filter_le (fun n => tb n k) ns
        refine ⟨D, D2, _, _, rfl, rfl, s2 _ _ hD1, hD3, Nat.le_of_lt (line5 (by rw [List.length_map, List.length_map]; omega)), fun p hp => ?_⟩
        refine kQ p _ (same_new (s1.trans s2) hp) ((s1.trans s2).free hp) ?_
        rw [upd_same, ← List.map_append]
        rfl
/-- what of H' is new over H -/
def new (H H' : Hp) : Hp := fun b => if (H b).isNone = true then H' b else none
theorem new_of {H H' : Hp} {b : Addr} (h : H b = none) : new H H' b = H' b := by
  unfold new
  rw [h]
  rfl
theorem new_none {H H' : Hp} {b : Addr} {o : HO} (h : H b = some o) : new H H' b = none := by
  unfold new
  rw [h]
  rfl
theorem new_free {H H' : Hp} {b : Addr} {o : HO} (h : new H H' b = some o) : H b = none := by
  cases e : H b with
  | none => rfl
  | some u => rw [new_none e] at h; cases h
theorem new_same {H H' : Hp} : Same (new H H') H' := fun b o e => by
  rw [new_of (new_free e)] at e
  exact e
theorem new_mono {H H' H'' : Hp} (s : Same H' H'') : Same (new H H') (new H H'') := fun b o e => by
  have f := new_free e
  rw [new_of f] at e ⊢
  exact s _ _ e
theorem new_less {H0 H1 H' : Hp} (s : Same H0 H1) : Same (new H1 H') (new H0 H') := fun b o e => by
  have f := new_free e
  rw [new_of f] at e
  rw [new_of (s.free f)]
  exact e
/-- a list of rows of bits -/
def spBitRows (K : PySem.W.Frag) (C : Addr) : Sp := fun vs H Q _ => ∃ (a : Addr) (ns : List Nat) (w : Nat), vs = [.ref a, nV w] ∧ SqL K H a (ns.map nV) ∧ ns.length ≤ 200 ∧ w ≤ 64 ∧
  ∀ (q : Addr) (ps : List Addr) (H' : Hp), Same H H' → H q = none → H' q = some (.lst (ps.map V.ref)) → ps.length = w → (∀ l p, ps[l]? = some p → BRow C (new H H') p (row w ns l)) → Q (.ref q) H'
theorem bits_nV' (k : Nat) (ns : List Nat) : (ns.map nV).map (fun x => match x with | .int i => V.int (Builtin.bitAnd (i / 2 ^ ((k : Nat) : Int).toNat) 1) | _ => x) = (ns.map fun n => tb n k).map bV := by
  rw [List.map_map, List.map_map]
  apply List.map_congr_left
  intro n _
  show V.int (Builtin.bitAnd ((n : Int) / 2 ^ ((k : Nat) : Int).toNat) 1) = _
  rw [bitval]
  rfl
set_option maxHeartbeats 1000000 in
theorem ok_bit_rows (T : Tx K mg A) : FnOk P w K mg base CX0 6 A.bit_rows A.bit_rows_d ["numbers", "wide"] (spBitRows K A.cB) := by
  refine T.bit_rows.F.ok sc_bit_rows (fun vs H Q E h => ?_) (fun cdv Ar outer s H vs Q E hr h => ?_)
  · obtain ⟨a, ns, w, rfl, _⟩ := h
    rfl
  · obtain ⟨a, ns, w, rfl, hS, hl, hw, kQ⟩ := h
    refine ⟨_, (pss_cons (ps_set (i := 2) sc_bit_rows.nd rfl (by first | exact Or.inl rfl | exact Or.inr rfl) (pe_lst pa_nil))
      (pss_cons (ps_for PassesOwn.never rfl (pi_revR (by rfl) T.b_reversed (prg_1 (by rfl) T.b_range (pv 1))) (pg_name (i := 3) sc_bit_rows.nd rfl (by first | exact Or.inl rfl | exact Or.inr rfl)) (pss_cons (ps_expr (pe_bm PySem.F.plainAttrs_list PySem.F.slot_list_append PySem.F.type_list_append mt_append (pv 2) (pa_cons (pe_make (E := E0) T.mkB (ok_B_init T) (hr.mono (by decide)) rfl T.gB T.B_init.b .nil passL (pa_cons (pe_lc (own := [("number", 4)]) (g := gName 4) (tt := tYes) rfl sc_bit_rows.nd (pi_list (pv 0)) (blkOk_by (N := n_bit_rows) (sc := defScope s_bit_rows) (by decide +kernel)) (fun _ _ _ _ _ => (pg_name (i := 4) sc_bit_rows.nd rfl (by first | exact Or.inl rfl | exact Or.inr rfl))) (fun _ _ _ _ _ => pts_nil) (fun _ _ _ _ _ => (pe_op op_and (pe_op op_shr (pv 4) (pv 3)) pe_int))) pa_nil)) pa_nil)))
      (pss_one (ps_set (i := 0) sc_bit_rows.nd rfl (by first | exact Or.inl rfl | exact Or.inr rfl) (pe_call (E := E0) (ok_parted T) (hr.mono (by decide)) rfl T.parted.g T.parted.F.kp T.parted.b .nil pass0 (pa_cons (pv 0) (pa_cons (pv 3) pa_nil)))))))
      (pss_one (ps_ret (pv 2))))), ?_⟩
    refine ⟨Nat.zero_le _, fun q hq => ?_⟩
    refine ⟨_, rfl, _, rfl, ?_⟩
    refine ⟨by decide, by decide, by omega, by omega, ?_⟩
    refine for_rangeC (lo := 0 + (((((w : Nat) : Int) - 0).toNat : Nat) : Int) - 1) (c := -1) (n := (((w : Nat) : Int) - 0).toNat) (fun i σ H' => ∃ (B : Hp) (ai : Addr) (v3 : Option V) (ps : List Addr), σ = [some (.ref ai), some (nV w), some (.ref q), v3, none] ∧ Same H B ∧ Same B H' ∧ B q = none ∧
      SqL K B ai ((cur w ns i).map nV) ∧ H' q = some (.lst (ps.map V.ref)) ∧ ps.length = i ∧ ∀ l p, ps[l]? = some p → BRow A.cB (new H B) p (row w ns l))
      ⟨H, a, none, [], rfl, Same.refl H, same_new (Same.refl H) hq, hq, hS, upd_same, rfl, fun l p h => by simp at h⟩ (fun i σ H' hi h => ?_) (fun σ H' h => ?_)
    · obtain ⟨B, ai, v3, ps, rfl, sB, s1, bq, hA, hq1, hps, hrow⟩ := h
      have hi : i < w := by omega
      have hcl := cur_len w ns i
      have e0 : 0 + (((((w : Nat) : Int) - 0).toNat : Nat) : Int) - 1 + ((i : Nat) : Int) * (-1) = ((w - 1 - i : Nat) : Int) := by omega
      rw [e0]
      have hA1 := s1.seq hA
      -- found.append(BitRow([..]))
      refine ⟨_, rfl, .inl ⟨rfl, _, SqL.of hq1⟩, _, rfl, ai, rfl, ⟨_, hA1⟩, fun D hD => ?_⟩
      refine lc_map (xs := (cur w ns i).map nV) (fun x => match x with | .int i' => V.int (Builtin.bitAnd (i' / 2 ^ ((w - 1 - i : Nat) : Int).toNat) 1) | _ => x) hA1 (by rw [List.length_map, hcl]; omega) hD (fun _ => rfl) (fun j x H2 hx s2 Q' kq => ?_) (fun H2 s2 hD2 => ?_)
      · obtain ⟨n, _, rfl⟩ := mem_nV hx
        exact ⟨_, rfl, _, rfl, _, _, rfl, rfl, (by show (0 : Int) ≤ ((w - 1 - i : Nat) : Int); omega), _, _, rfl, rfl, kq H2 (Same.refl H2)⟩
      · rw [bits_nV'] at hD2
        refine fun x dx nx ndx _ => mk_brow (l := row w ns i) (SqL.of hD2) (by rw [row_len]; omega) nx ndx fun H3 pa pb s3 npa npb R => ⟨rfl, ?_⟩
        have s13 := s2.trans s3
        have hq3 := s13 _ _ hq1
        refine ⟨q, _, _, rfl, rfl, hq3, by rw [List.length_map]; exact line5 (by omega), ?_⟩
        -- numbers = parted(numbers, bit)
        have sB3 : Same B (upd H3 q (.lst (ps.map V.ref ++ [.ref x]))) := same_mut (s1.trans s13) bq
        refine ⟨_, rfl, _, rfl, ai, cur w ns i, w - 1 - i, rfl, sB3.seq hA, by omega, fun z H4 s4 hz hz4 => ?_⟩
        have hq4 := s4 _ _ upd_same
        have zq : z ≠ q := (ne_of_none upd_same hz).symm
        have hqx : q ≠ x := ne_of_none (s2 _ _ hq1) nx
        have hqa : q ≠ pa := ne_of_none (s2 _ _ hq1) npa
        have hqb : q ≠ pb := ne_of_none (s2 _ _ hq1) npb
        have sB4 : Same B (off q H4) := same_off (sB3.trans s4) bq
        have R4 : BRowAt A.cB (off q H4) x pa pb (row w ns i) :=
          ⟨R.ob.imp fun _ h => by rw [off_ne hqx.symm]; exact s4 _ _ (by rw [upd_ne hqx.symm]; exact h), by rw [off_ne hqa.symm]; exact s4 _ _ (by rw [upd_ne hqa.symm]; exact R.pk), by rw [off_ne hqb.symm]; exact s4 _ _ (by rw [upd_ne hqb.symm]; exact R.hd), R.ne, R.len⟩
        refine ⟨off q H4, z, _, ps ++ [x], rfl, sB.trans sB4, off_same, off_q, SqL.of (by rw [off_ne zq]; exact hz4), by rw [List.map_append]; exact hq4, by rw [List.length_append, hps]; rfl, fun l p h => ?_⟩
        rw [List.getElem?_append] at h
        by_cases g : l < ps.length
        · rw [if_pos g] at h
          exact (hrow l p h).same (new_mono sB4)
        · rw [if_neg g] at h
          have hl0 : l - ps.length = 0 := by
            have := (List.getElem?_eq_some_iff.mp h).1
            simp at this
            omega
          rw [hl0] at h
          have ep : x = p := Option.some.inj h
          subst ep
          have el : l = i := by omega
          subst el
          have sH : Same H H2 := (sB.trans s1).trans s2
          exact ⟨pa, pb, R4.ob.imp fun _ h => by rw [new_of (sH.free nx)]; exact h, by rw [new_of (sH.free npa)]; exact R4.pk, by rw [new_of (sH.free npb)]; exact R4.hd, R4.ne, R4.len⟩
    · obtain ⟨B, ai, v3, ps, rfl, sB, s1, bq, hA, hq1, hps, hrow⟩ := h
      exact ⟨_, rfl, kQ q ps H' (sB.trans s1) hq hq1 (by omega) fun l p h => (hrow l p h).same (new_mono s1)⟩

/-! ### a row of numbers: the object -/
theorem f_sw : ¬ (("size" : Str) = "wide") := by decide +kernel
theorem f_sv : ¬ (("size" : Str) = "halves") := by decide +kernel
theorem f_wv : ¬ (("wide" : Str) = "halves") := by decide +kernel
def hrf (n w : Nat) (q : Addr) : List (Str × V) := putF "halves" (.ref q) (putF "wide" (.int (w : Int)) (putF "size" (.int (n : Int)) []))
theorem hrf_size (n w : Nat) (q : Addr) : (hrf n w q).lookup ("size" : Str) = some (.int (n : Int)) := by
  unfold hrf
  rw [lookup_putF, if_neg f_sv, lookup_putF, if_neg f_sw, lookup_putF, if_pos rfl]
theorem hrf_wide (n w : Nat) (q : Addr) : (hrf n w q).lookup ("wide" : Str) = some (.int (w : Int)) := by
  unfold hrf
  rw [lookup_putF, if_neg f_wv, lookup_putF, if_pos rfl]
theorem hrf_halves (n w : Nat) (q : Addr) : (hrf n w q).lookup ("halves" : Str) = some (.ref q) := by
  unfold hrf
  rw [lookup_putF, if_pos rfl]
theorem hrf_no (n w : Nat) (q : Addr) {m : Str} (h1 : ¬ m = "halves") (h2 : ¬ m = "wide") (h3 : ¬ m = "size") : (hrf n w q).lookup m = none := by
  unfold hrf
  rw [lookup_putF, if_neg h1, lookup_putF, if_neg h2, lookup_putF, if_neg h3]
  rfl
/-- C the class of rows of bits, D that of rows of numbers -/
structure HRowAt (C D : Addr) (H : Hp) (p q : Addr) (w : Nat) (ns : List Nat) : Prop where
  ob : ∃ dx, H p = some (.ins D dx (hrf ns.length w q))
  ls : ∃ ps : List Addr, H q = some (.lst (ps.map V.ref)) ∧ ps.length = w ∧ ∀ l r, ps[l]? = some r → BRow C H r (row w ns l)
  len : ns.length ≤ 200
  w1 : 1 ≤ w
  w64 : w ≤ 64
  lt : ∀ n ∈ ns, n < 2 ^ w
def HRow (C D : Addr) (H : Hp) (p : Addr) (w : Nat) (ns : List Nat) : Prop := ∃ q, HRowAt C D H p q w ns
theorem HRowAt.same {C D : Addr} {H H' : Hp} {p q : Addr} {w : Nat} {ns : List Nat} (s : Same H H') (R : HRowAt C D H p q w ns) : HRowAt C D H' p q w ns :=
  ⟨R.ob.imp fun _ h => s _ _ h, R.ls.imp fun _ h => ⟨s _ _ h.1, h.2.1, fun l r e => (h.2.2 l r e).same s⟩, R.len, R.w1, R.w64, R.lt⟩
theorem HRow.same {C D : Addr} {H H' : Hp} {p : Addr} {w : Nat} {ns : List Nat} (s : Same H H') (R : HRow C D H p w ns) : HRow C D H' p w ns := R.imp fun _ h => h.same s
/-- the row of bits at a level -/
theorem HRowAt.at {C D : Addr} {H : Hp} {p q : Addr} {w : Nat} {ns : List Nat} (R : HRowAt C D H p q w ns) {l : Nat} (h : l < w) : ∃ (xs : List V) (r : Addr), H q = some (.lst xs) ∧ xs[l]? = some (.ref r) ∧ BRow C H r (row w ns l) := by
  obtain ⟨ps, h1, h2, h3⟩ := R.ls
  refine ⟨ps.map V.ref, ps[l], h1, by rw [List.getElem?_map, List.getElem?_eq_getElem (by omega)]; rfl, h3 l _ (List.getElem?_eq_getElem (by omega))⟩
/-- the greatest number of w bits, as it is reckoned -/
def topN (w : Nat) : Int := 1 * 2 ^ ((w : Nat) : Int).toNat - 1
theorem top_eq (w : Nat) : topN w = ((2 ^ w : Nat) : Int) - 1 := by
  unfold topN
  rw [Int.one_mul, Int.toNat_natCast, cast_pow]
theorem top_among {v w : Nat} (h : v < 2 ^ w) : amongV (nV v) 0 (topN w) = true := by
  rw [top_eq]
  exact lt_among h
theorem among_top {v : V} {w : Nat} (h : amongV v 0 (topN w) = true) : ∃ i : Nat, v = nV i ∧ i < 2 ^ w := by
  rw [top_eq] at h
  exact among_lt h
theorem bad_false {b : Bool} (h : ¬ b = true) : b = false := by simpa using h
theorem nums_of {w : Nat} : ∀ {xs : List V}, (∀ x ∈ xs, amongV x 0 (topN w) = true) → ∃ ns : List Nat, xs = ns.map nV ∧ ∀ n ∈ ns, n < 2 ^ w
  | [], _ => ⟨[], rfl, fun n h => by simp at h⟩
  | x :: xs, h => by
    obtain ⟨ns, e, hl⟩ := nums_of (xs := xs) fun y hy => h y (List.mem_cons_of_mem _ hy)
    obtain ⟨i, rfl, hi⟩ := among_top (h x List.mem_cons_self)
    refine ⟨i :: ns, by rw [e]; rfl, fun n hn => ?_⟩
    rcases List.mem_cons.mp hn with rfl | hn
    · exact hi
    · exact hl n hn
theorem map_nV_inj : ∀ {ns ms : List Nat}, ns.map nV = ms.map nV → ns = ms
  | [], [], _ => rfl
  | [], _ :: _, h => by cases h
  | _ :: _, [], h => by cases h
  | n :: ns, m :: ms, h => by
    rw [List.map_cons, List.map_cons, List.cons.injEq] at h
    rw [nV_inj h.1, map_nV_inj h.2]
def spHInit (K : PySem.W.Frag) (C D X : Addr) : Sp := fun vs H Q E => ∃ (p dx : Addr) (v u : V) (n m : String), vs = [.ref p, v, u] ∧ H p = some (.ins D dx []) ∧ TyN K H v n ∧ TyN K H u m ∧
  ((amongV u 1 64 = false ∨ n ≠ "list") → ∀ H', Same H H' → E (.ref X) none H') ∧
  (∀ w : Nat, u = nV w → 1 ≤ w → w ≤ 64 → n = "list" → ∃ (a : Addr) (xs : List V), v = .ref a ∧ SqL K H a xs ∧ (∀ x ∈ xs, ∃ m, TyN K H x m) ∧
    ((200 < xs.length ∨ ∃ x ∈ xs, amongV x 0 (topN w) = false) → ∀ H', Same H H' → E (.ref X) none H') ∧
    (∀ ns : List Nat, xs = ns.map nV → ns.length ≤ 200 → (∀ n ∈ ns, n < 2 ^ w) → ∀ (H' : Hp) (q : Addr), Keep p H H' → HRowAt C D (new (off p H) H') p q w ns → Q .non H'))
set_option maxHeartbeats 1000000 in
theorem ok_H_init (T : Tx K mg A) : FnOk P w K mg base (L2.CX P w) 7 A.H_init A.H_init_d ["self", "numbers", "wide"] (spHInit K A.cB A.cH A.xBadRow) := by
  refine T.H_init.F.okX sc_H_init (fun vs H Q E h => ?_) (fun cdv Ar outer s H vs Q E hr h => ?_)
  · obtain ⟨p, dx, v, u, n, m, rfl, _⟩ := h
    rfl
  · obtain ⟨p, dx, v, u, n, m, rfl, hp, hv, hu, kN, kL⟩ := h
    refine ⟨_, (pss_cons (ps_if (PW.pt (pw_or (pt_not (pt_val (pe_call (E := E0) (ok_is_among T) (hr.mono (by decide)) rfl T.is_among.g T.is_among.F.kp T.is_among.b .nil pass0 (pa_cons (pv 2) (pa_cons pe_int (pa_cons (pe_glob (v := V.int 64) rfl T.kMOST_WIDE.choose_spec ⟨_, rfl⟩) pa_nil)))))) (pw_or (pt_not (pt_val (pe_callB call_isi (by rfl) T.b_isinstance (by decide +kernel) (pa_cons (pv 1) (pa_cons (pe_bltn (u := .type "list") (v := .ty "list") (by rfl) T.b_list (by decide +kernel) rfl) pa_nil))))) (pw_or1 (pt_cmpR op_gt (pe_callB call_len_seq (by rfl) T.b_len (by decide +kernel) (pa_cons (pv 1) pa_nil)) (pe_glob (v := V.int 200) rfl T.kMOST_NUMBERS.choose_spec ⟨_, rfl⟩) (nomark _)))))) (pss_one (ps_raise rfl (takes_of rfl rfl rfl rfl) (pmk_own PySem.F.excBase_ValueError T.xBadRow.x T.xBadRow.g T.xBadRow.k (raises_own T.xBadRow.b T.xBadRow.t) rfl))) pss_nil)
      (pss_cons (ps_if (pt_not (pt_val (pe_callB (cr_all rfl) (by rfl) T.b_all (by decide +kernel) (pa_cons (pe_lc (own := [("number", 3)]) (g := gName 3) (tt := tYes) rfl sc_H_init.nd (pi_list (pv 1)) (blkOk_by (N := n_H_init) (sc := defScope s_H_init) (by decide +kernel)) (fun _ _ _ _ _ => (pg_name (i := 3) sc_H_init.nd rfl (by first | exact Or.inl rfl | exact Or.inr rfl))) (fun _ _ _ _ _ => pts_nil) (fun _ _ _ _ _ => (pe_call (E := E0) (ok_is_among T) (hr.mono (by decide)) rfl T.is_among.g T.is_among.F.kp T.is_among.b .nil pass0 (pa_cons (pv 3) (pa_cons pe_int (pa_cons (pe_op op_sub (pe_op op_shl pe_int (pv 2)) pe_int) pa_nil)))))) pa_nil)))) (pss_one (ps_raise rfl (takes_of rfl rfl rfl rfl) (pmk_own PySem.F.excBase_ValueError T.xBadRow.x T.xBadRow.g T.xBadRow.k (raises_own T.xBadRow.b T.xBadRow.t) rfl))) pss_nil)
      (PSs.nox (pss_cons (ps_fld (pv 0) (pe_callB call_len_seq (by rfl) T.b_len (by decide +kernel) (pa_cons (pv 1) pa_nil)) rfl)
      (pss_cons (ps_fld (pv 0) (pv 2) rfl)
      (pss_one (ps_fld (pv 0) (pe_call (E := E0) (ok_bit_rows T) (hr.mono (by decide)) rfl T.bit_rows.g T.bit_rows.F.kp T.bit_rows.b .nil pass0 (pa_cons (pv 1) (pa_cons (pv 2) pa_nil))) rfl))))))), ?_⟩
    refine ⟨_, rfl, u, m, 1, 64, rfl, hu, _, rfl, ?_⟩
    by_cases cu : amongV u 1 64 = true
    · rw [cu]
      refine iteF ?_
      refine ⟨_, rfl, _, _, _, _, _, rfl, .ty _, hv.1, kit_ty (kit_list hv.2), _, rfl, ?_⟩
      by_cases en : n = "list"
      · obtain ⟨i, rfl, i1, i2⟩ := among_yes cu
        obtain ⟨w, rfl⟩ := Int.eq_ofNat_of_zero_le (show 0 ≤ i by omega)
        have w1 : 1 ≤ w := by omega
        have w64 : w ≤ 64 := by omega
        obtain ⟨a, xs, rfl, hS, hty, kE, kQ⟩ := kL w rfl w1 w64 en
        have e1 : (n == "list") = true := by rw [en]; rfl
        rw [e1]
        refine iteF ?_
        refine ⟨_, rfl, a, xs, rfl, .inl hS, _, _, rfl, rfl, _, rfl, ?_⟩
        refine ite2 (fun c => ?_) (fun c => ?_)
        · exact kE (.inl (by have := of_decide_eq_true c; omega)) H (Same.refl H)
        · have hz : xs.length ≤ 200 := by
            have : ¬ ((200 : Int) < (xs.length : Nat)) := fun z => c (decide_eq_true z)
            omega
          refine ⟨_, rfl, a, rfl, ⟨_, hS⟩, fun D hD => lc_map (xs := xs) (fun x => V.bl (amongV x 0 (topN w))) hS (by omega) hD (fun _ => rfl) (fun i x H' hx s1 Q' kq => ?_) (fun H1 s1 hD1 => ?_)⟩
          · obtain ⟨m, hm⟩ := hty x (List.mem_of_getElem? hx)
            exact ⟨_, rfl, _, rfl, _, _, rfl, rfl, ⟨by omega, by omega, by decide⟩, _, _, rfl, rfl, x, m, 0, _, rfl, hm.same s1, kq H' (Same.refl H')⟩
          · have eD : xs.map (fun x => V.bl (amongV x 0 (topN w))) = (xs.map fun x => amongV x 0 (topN w)).map V.bl := by rw [List.map_map]; rfl
            rw [eD] at hD1
            refine ⟨D, _, rfl, SqL.of hD1, _, rfl, ?_⟩
            by_cases ca : ((xs.map fun x => amongV x 0 (topN w)).all id) = true
            · rw [ca]
              refine iteF ?_
              have hall : ∀ x ∈ xs, amongV x 0 (topN w) = true := fun x hx => by
                rw [List.all_map, List.all_eq_true] at ca
                exact ca x hx
              obtain ⟨ns, rfl, hlt⟩ := nums_of hall
              rw [List.length_map] at hz
              have hp1 := s1 _ _ hp
              have hS1 := s1.seq hS
              refine ⟨_, rfl, a, _, rfl, .inl hS1, _, rfl, p, A.cH, dx, [], rfl, hp1, T.clH, T.nH_size, (by show 0 < 1000; decide), ?_⟩
              refine ⟨_, rfl, _, rfl, p, A.cH, dx, _, rfl, upd_same, T.clH, T.nH_wide, (by show 1 < 1000; decide), ?_⟩
              have hS2 : SqL K (upd (upd H1 p (.ins A.cH dx (putF "size" (.int ((ns.map nV).length : Nat)) []))) p (.ins A.cH dx (putF "wide" (.int (w : Nat)) (putF "size" (.int ((ns.map nV).length : Nat)) [])))) a (ns.map nV) := sql_keep (((keep_of (Same.refl H1)).upd _).upd _) hp1 hS1
              refine ⟨_, rfl, _, rfl, a, ns, w, rfl, hS2, hz, w64, fun q ps H2 s2 hq hq2 hps hrow => ?_⟩
              have npq : p ≠ q := ne_of_none upd_same hq
              have hp2 := s2 _ _ upd_same
              refine ⟨_, rfl, p, A.cH, dx, _, rfl, hp2, T.clH, T.nH_halves, (by show 2 < 1000; decide), ?_⟩
              have hq0 : H q = none := by
                rw [upd_ne npq.symm, upd_ne npq.symm] at hq
                exact s1.free hq
              refine kQ ns rfl hz hlt _ q ((((keep_of s1).upd _).upd _).same s2 |>.upd _) ?_
              have qn : off p H q = none := by rw [off_ne npq.symm]; exact hq0
              have sH : Same (off p H) (upd (upd H1 p (.ins A.cH dx (putF "size" (.int ((ns.map nV).length : Nat)) []))) p (.ins A.cH dx (putF "wide" (.int (w : Nat)) (putF "size" (.int ((ns.map nV).length : Nat)) [])))) := same_mut (same_mut (off_same.trans s1) off_q) off_q
              refine ⟨⟨dx, ?_⟩, ⟨ps, by rw [new_of qn, upd_ne npq.symm]; exact hq2, hps, fun l r e => ?_⟩, hz, w1, w64, hlt⟩
              · rw [new_of off_q, upd_same, List.length_map]
                rfl
              · refine (hrow l r e).same (fun b o e => ?_)
                have f := new_free e
                rw [new_of f] at e
                have nb : b ≠ p := fun z => by rw [z, upd_same] at f; cases f
                rw [new_of (sH.free f), upd_ne nb]
                exact e
            · have cf : ((xs.map fun x => amongV x 0 (topN w)).all id) = false := by simpa using ca
              rw [cf]
              refine iteT ?_
              have hex : ∃ x ∈ xs, amongV x 0 (topN w) = false := by
                rw [List.all_map] at cf
                obtain ⟨x, hx, e⟩ := List.all_eq_false.mp cf
                exact ⟨x, hx, by simpa using e⟩
              exact kE (.inr hex) H1 s1
      · have e1 : (n == "list") = false := by simpa using en
        rw [e1]
        refine iteT ?_
        exact kN (.inr en) H (Same.refl H)
    · rw [bad_false cu]
      refine iteT ?_
      exact kN (.inl (bad_false cu)) H (Same.refl H)
theorem mk_hrow {K : PySem.W.Frag} {C D X : Addr} {H1 : Hp} {a x dx : Addr} {w : Nat} {ns : List Nat} {Q : VK} (hS : SqL K H1 a (ns.map nV)) (hl : ns.length ≤ 200) (w1 : 1 ≤ w) (w64 : w ≤ 64) (hlt : ∀ n ∈ ns, n < 2 ^ w) (nx : H1 x = none) (ndx : H1 dx = none)
    (k : ∀ (H' : Hp) (q : Addr), Same H1 H' → HRowAt C D (new H1 H') x q w ns → Q .non H') :
    spHInit K C D X [.ref x, .ref a, nV w] (upd (upd H1 dx (.own x)) x (.ins D dx [])) Q E0 := by
  have s0 : Same H1 (upd (upd H1 dx (.own x)) x (.ins D dx [])) := fun b o e => by
    rw [upd_ne (ne_of_none e nx), upd_ne (ne_of_none e ndx)]
    exact e
  refine ⟨x, dx, .ref a, nV w, "list", "int", rfl, upd_same, TyN.lst (s0.seq hS), TyN.int _, fun z => ?_, fun w' ew _ _ _ => ⟨a, _, rfl, s0.seq hS, fun y hy => ?_, fun z => ?_, fun ns' en _ _ H' q kp R => ?_⟩⟩
  · exfalso
    rcases z with z | z
    · rw [show amongV (nV w) 1 64 = true from among_in (by omega) (by omega)] at z
      cases z
    · exact z rfl
  · obtain ⟨b, _, rfl⟩ := List.mem_map.mp hy
    exact ⟨"int", TyN.int _⟩
  · exfalso
    have ew := nV_inj ew
    subst ew
    rcases z with z | ⟨y, hy, z⟩
    · rw [List.length_map] at z
      omega
    · obtain ⟨b, hb, rfl⟩ := List.mem_map.mp hy
      rw [top_among (hlt b hb)] at z
      cases z
  · have ew := nV_inj ew
    subst ew
    have en := map_nV_inj en
    subst en
    exact k H' q (fun b' o e => kp b' o (s0 b' o e) (ne_of_none e nx)) (R.same (new_less (same_off s0 nx)))
/-! ### asked by level -/
def spLed (C D : Addr) : Sp := fun vs H Q _ => ∃ (p : Addr) (w : Nat) (ns : List Nat) (l pl : Nat) (b : Bool), vs = [.ref p, nV l, nV pl, bV b] ∧ HRow C D H p w ns ∧ l < w ∧ pl ≤ ns.length ∧ Q (nV (led (row w ns l) pl b)) H
set_option maxHeartbeats 1000000 in
theorem ok_H_led (T : Tx K mg A) : FnOk P w K mg base CX0 6 A.H_led A.H_led_d ["self", "level", "place", "bit"] (spLed A.cB A.cH) := by
  refine T.H_led.F.ok sc_H_led (fun vs H Q E h => ?_) (fun cdv Ar outer s H vs Q E hr h => ?_)
  · obtain ⟨p, w, ns, l, pl, b, rfl, _⟩ := h
    rfl
  · obtain ⟨p, w, ns, l, pl, b, rfl, ⟨q, R⟩, hl, hpl, kQ⟩ := h
    obtain ⟨dx, hp⟩ := R.ob
    obtain ⟨xs, r, hq, hx, B⟩ := R.at hl
    obtain ⟨pa, pb, Rb⟩ := id B
    obtain ⟨dr, hr1⟩ := Rb.ob
    have hln : (row w ns l).length = ns.length := row_len w ns l
    refine ⟨_, (pss_cons (ps_set (i := 4) sc_H_led.nd rfl (by first | exact Or.inl rfl | exact Or.inr rfl) (pe_ix ix_list (pe_fld (pv 0) rfl) (pv 1) (fun _ _ => rfl)))
      (pss_cons (ps_if (pt_cmpR op_eq (pv 3) pe_int (nomark _)) (pss_one (ps_ret (pe_meth (E := E0) (pv 4) T.clB T.B_noughts.m (ok_B_noughts T) (hr.mono (by decide)) T.B_noughts.b .nil passL (pa_cons (pv 2) pa_nil)))) pss_nil)
      (pss_one (ps_ret (pe_op op_add (pe_meth (E := E0) (pv 4) T.clB T.B_noughts.m (ok_B_noughts T) (hr.mono (by decide)) T.B_noughts.b .nil passL (pa_cons (pe_fld (pv 0) rfl) pa_nil)) (pe_meth (E := E0) (pv 4) T.clB T.B_ones.m (ok_B_ones T) (hr.mono (by decide)) T.B_ones.b .nil passL (pa_cons (pv 2) pa_nil))))))), ?_⟩
    refine ⟨_, rfl, p, A.cH, dx, _, _, rfl, hp, T.clH, T.nH_halves, hrf_halves _ _ _, _, rfl, q, _, _, .ref r, rfl, rfl, SqL.of hq, at_of (j := l) rfl hx, ?_⟩
    refine ⟨_, rfl, rfl, _, rfl, ?_⟩
    cases b with
    | false =>
      refine if_t (by rfl) ?_
      refine ⟨_, rfl, r, dr, _, rfl, hr1, brf_no _ _ _ (by decide +kernel) (by decide +kernel) (by decide +kernel), _, rfl, r, _, _, "int", rfl, B, TyN.int _, not_false (nat_among (by omega)), fun i ei hi => ?_⟩
      have ei := nV_inj ei
      subst ei
      rw [led_false, cb_false _ (by omega)] at kQ
      exact kQ
    | true =>
      refine if_f (by rfl) ?_
      refine ⟨_, rfl, r, dr, _, rfl, hr1, brf_no _ _ _ (by decide +kernel) (by decide +kernel) (by decide +kernel), _, rfl, p, A.cH, dx, _, _, rfl, hp, T.clH, T.nH_size, hrf_size _ _ _, r, _, _, "int", rfl, B, TyN.int _, not_false (nat_among (by omega)), fun i ei hi => ?_⟩
      have ei := nV_inj (i := ns.length) ei
      subst ei
      refine ⟨_, rfl, r, dr, _, rfl, hr1, brf_no _ _ _ (by decide +kernel) (by decide +kernel) (by decide +kernel), _, rfl, r, _, _, "int", rfl, B, TyN.int _, not_false (nat_among (by omega)), fun i ei hi => ⟨_, _, rfl, rfl, ?_⟩⟩
      have ei := nV_inj ei
      subst ei
      have e1 : ns.length - cnt ((row w ns l).take ns.length) = (row w ns l).count false := by
        have h1 := cb_all false (row w ns l)
        rw [cb_false _ (Nat.le_refl _), hln] at h1
        exact h1
      have e2 : V.int (((ns.length - cnt ((row w ns l).take ns.length) : Nat) : Int) + ((cnt ((row w ns l).take pl) : Nat) : Int)) = nV (led (row w ns l) pl true) := by
        rw [e1, led_true, cb_true]
        unfold nV
        congr 1
      exact cast (congrArg (fun z => Q z H) e2.symm) kQ
def spNumAt (K : PySem.W.Frag) (C D X : Addr) : Sp := fun vs H Q E => ∃ (p : Addr) (w : Nat) (ns : List Nat) (v : V) (n : String), vs = [.ref p, v] ∧ HRow C D H p w ns ∧ TyN K H v n ∧
  (amongV v 0 ((ns.length : Int) - 1) = false → E (.ref X) none H) ∧ (∀ i n : Nat, v = nV i → ns[i]? = some n → Q (nV n) H)
theorem dbl_or {m : Nat} {b : Bool} : Builtin.bitOr ((m : Int) * 2 ^ (1 : Int).toNat) (b.toNat : Int) = ((2 * m + b.toNat : Nat) : Int) := by
  have h := toNat_lt2 b
  have e2 : (2 : Int) ^ (1 : Int).toNat = 2 := by decide
  rw [e2, PyProof.Rows.bitOr_comm]
  have := Bits.bitOr_join (a := (b.toNat : Int)) (b := (m : Int)) (k := 1) (by omega) (by show (b.toNat : Int) < 2; omega) (by omega)
  have e3 : ((m : Int) * 2 ^ 1) = (m : Int) * 2 := by rfl
  rw [e3] at this
  rw [this]
  omega
set_option maxHeartbeats 1000000 in
theorem ok_H_number_at (T : Tx K mg A) : FnOk P w K mg base (L2.CX P w) 7 A.H_number_at A.H_number_at_d ["self", "place"] (spNumAt K A.cB A.cH A.xNoPlace) := by
  refine T.H_number_at.F.okX sc_H_number_at (fun vs H Q E h => ?_) (fun cdv Ar outer s H vs Q E hr h => ?_)
  · obtain ⟨p, w, ns, v, n, rfl, _⟩ := h
    rfl
  · obtain ⟨p, w, ns, v, n, rfl, R0, hk, kE, kQ⟩ := h
    obtain ⟨q, R⟩ := id R0
    obtain ⟨dx, hp⟩ := R.ob
    have w64 := R.w64
    refine ⟨_, (pss_cons (ps_if (pt_not (pt_val (pe_call (E := E0) (ok_is_among T) (hr.mono (by decide)) rfl T.is_among.g T.is_among.F.kp T.is_among.b .nil pass0 (pa_cons (pv 1) (pa_cons pe_int (pa_cons (pe_op op_sub (pe_fld (pv 0) rfl) pe_int) pa_nil)))))) (pss_one (ps_raise rfl (takes_of rfl rfl rfl rfl) (pmk_own PySem.F.excBase_ValueError T.xNoPlace.x T.xNoPlace.g T.xNoPlace.k (raises_own T.xNoPlace.b T.xNoPlace.t) rfl))) pss_nil)
      (PSs.nox (pss_cons (ps_set (i := 2) sc_H_number_at.nd rfl (by first | exact Or.inl rfl | exact Or.inr rfl) pe_int)
      (pss_cons (ps_for PassesOwn.never rfl (pi_range1 (by rfl) T.b_range (pa_cons (pe_fld (pv 0) rfl) pa_nil)) (pg_name (i := 3) sc_H_number_at.nd rfl (by first | exact Or.inl rfl | exact Or.inr rfl)) (pss_cons (ps_set (i := 4) sc_H_number_at.nd rfl (by first | exact Or.inl rfl | exact Or.inr rfl) (pe_meth (E := E0) (pe_ix ix_list (pe_fld (pv 0) rfl) (pv 3) (fun _ _ => rfl)) T.clB T.B_bit_at.m (ok_B_bit_at T) (hr.mono (by decide)) T.B_bit_at.b .nil passL (pa_cons (pv 1) pa_nil)))
      (pss_cons (ps_set (i := 2) sc_H_number_at.nd rfl (by first | exact Or.inl rfl | exact Or.inr rfl) (pe_op op_or (pe_op op_shl (pv 2) pe_int) (pv 4)))
      (pss_one (ps_set (i := 1) sc_H_number_at.nd rfl (by first | exact Or.inl rfl | exact Or.inr rfl) (pe_meth (E := E0) (pv 0) T.clH T.H_led.m (ok_H_led T) (hr.mono (by decide)) T.H_led.b .nil pass0 (pa_cons (pv 3) (pa_cons (pv 1) (pa_cons (pv 4) pa_nil)))))))))
      (pss_one (ps_ret (pv 2))))))), ?_⟩
    refine ⟨_, rfl, _, rfl, p, A.cH, dx, _, _, rfl, hp, T.clH, T.nH_size, hrf_size _ _ _, _, _, rfl, rfl, v, n, 0, _, rfl, hk, _, rfl, ?_⟩
    by_cases c : amongV v 0 ((ns.length : Int) - 1) = true
    · rw [c]
      refine iteF ?_
      obtain ⟨i, rfl, hi⟩ := among_lt c
      have hn : ns[i]? = some ns[i] := List.getElem?_eq_getElem hi
      have hlt := R.lt _ (List.getElem_mem hi)
      generalize ns[i] = m at hn hlt
      have kk := kQ i m rfl hn
      refine ⟨_, rfl, p, A.cH, dx, _, _, rfl, hp, T.clH, T.nH_wide, hrf_wide _ _ _, _, rfl, by omega, by omega, ?_⟩
      refine for_range (lo := 0) (fun j σ H' => H' = H ∧ ∃ (pl : Nat) (u1 u2 : Option V), σ = [some (.ref p), some (nV pl), some (nV (m / 2 ^ (w - j))), u1, u2] ∧ (cur w ns j)[pl]? = some m)
        ⟨rfl, i, none, none, by rw [Nat.sub_zero, Nat.div_eq_of_lt hlt]; rfl, hn⟩ (fun j σ H' hj h => ?_) (fun σ H' h => ?_)
      · obtain ⟨rfl, pl, u1, u2, rfl, hpl⟩ := h
        have hj : j < w := by omega
        obtain ⟨xs, r, hq, hx, B⟩ := R.at hj
        obtain ⟨pa, pb, Rb⟩ := id B
        obtain ⟨dr, hr1⟩ := Rb.ob
        have hpn : pl < ns.length := by
          have := (List.getElem?_eq_some_iff.mp hpl).1
          rw [cur_len] at this
          exact this
        have e0 : (0 : Int) + (j : Nat) = ((j : Nat) : Int) := by omega
        rw [e0]
        refine ⟨_, rfl, p, A.cH, dx, _, _, rfl, hp, T.clH, T.nH_halves, hrf_halves _ _ _, _, rfl, q, _, _, .ref r, rfl, rfl, SqL.of hq, at_of (j := j) rfl hx, r, dr, _, rfl, hr1, brf_no _ _ _ (by decide +kernel) (by decide +kernel) (by decide +kernel), _, rfl, r, _, _, "int", rfl, B, TyN.int _, not_false (lt_among (by rw [row_len]; exact hpn)), fun i' b ei hb => ?_⟩
        have ei := nV_inj ei
        subst ei
        have eb : tb m (w - 1 - j) = b := by
          rw [row_at hpl] at hb
          exact Option.some.inj hb
        subst eb
        have hsm : m / 2 ^ (w - j) ≤ m := Nat.div_le_self _ _
        have h64 : m < 2 ^ 64 := Nat.lt_of_lt_of_le hlt (Nat.pow_le_pow_right (by decide) w64)
        refine ⟨_, rfl, _, _, rfl, rfl, ⟨by decide, by decide, (by show (((m / 2 ^ (w - j) : Nat) : Int)).natAbs < 2 ^ 64; rw [Int.natAbs_natCast]; omega)⟩, _, rfl, _, _, rfl, rfl, ?_⟩
        refine ⟨_, rfl, p, dx, _, rfl, hp, hrf_no _ _ _ (by decide +kernel) (by decide +kernel) (by decide +kernel), _, rfl, _, rfl, _, rfl, p, w, ns, j, pl, _, rfl, R0, hj, by omega, rfl, _, some (nV j), some (bV (tb m (w - 1 - j))), ?_, part_at hpl⟩
        have e1 : m / 2 ^ (w - (j + 1)) = 2 * (m / 2 ^ (w - j)) + (tb m (w - 1 - j)).toNat := by
          have := half_bit m (w - 1 - j)
          rw [show w - 1 - j + 1 = w - j by omega] at this
          rw [show w - (j + 1) = w - 1 - j by omega]
          exact this
        have e2 : V.int (Builtin.bitOr (((m / 2 ^ (w - j) : Nat) : Int) * 2 ^ (1 : Int).toNat) ((tb m (w - 1 - j)).toNat : Int)) = nV (m / 2 ^ (w - (j + 1))) := by
          rw [dbl_or, e1]
          rfl
        rw [← e2]
        rfl
      · obtain ⟨rfl, pl, u1, u2, rfl, hpl⟩ := h
        refine ⟨_, rfl, ?_⟩
        dsimp only
        rw [Int.toNat_natCast, Nat.sub_self, Nat.pow_zero, Nat.div_one]
        exact kk
    · rw [bad_false c]
      refine iteT ?_
      exact kE (bad_false c)
def spNums (C D : Addr) : Sp := fun vs H Q _ => ∃ (p : Addr) (w : Nat) (ns : List Nat), vs = [.ref p] ∧ HRow C D H p w ns ∧ ∀ (q : Addr) (H' : Hp), Same H H' → H q = none → H' q = some (.lst (ns.map nV)) → Q (.ref q) H'
theorem ok_H_numbers (T : Tx K mg A) : FnOk P w K mg base CX0 8 A.H_numbers A.H_numbers_d ["self"] (spNums A.cB A.cH) := by
  refine T.H_numbers.F.ok sc_H_numbers (fun vs H Q E h => ?_) (fun cdv Ar outer s H vs Q E hr h => ?_)
  · obtain ⟨p, w, ns, rfl, _⟩ := h
    rfl
  · obtain ⟨p, w, ns, rfl, R0, k⟩ := h
    obtain ⟨q, R⟩ := id R0
    obtain ⟨dx, hp⟩ := R.ob
    have hl := R.len
    refine ⟨_, (pss_one (ps_ret (pe_lc (own := [("place", 1)]) (g := gName 1) (tt := tYes) rfl sc_H_numbers.nd (pi_range1 (by rfl) T.b_range (pa_cons (pe_fld (pv 0) rfl) pa_nil)) (blkOk_by (N := n_H_numbers) (sc := defScope s_H_numbers) (by decide +kernel)) (fun _ _ _ _ _ => (pg_name (i := 1) sc_H_numbers.nd rfl (by first | exact Or.inl rfl | exact Or.inr rfl))) (fun _ _ _ _ _ => pts_nil) (fun _ _ _ _ _ => (pe_meth (E := E0) (pv 0) T.clH T.H_number_at.m (ok_H_number_at T) (hr.mono (by decide)) T.H_number_at.b .nil passL (pa_cons (pv 1) pa_nil)))))), ?_⟩
    refine ⟨_, rfl, p, A.cH, dx, _, _, rfl, hp, T.clH, T.nH_size, hrf_size _ _ _, _, rfl, by omega, by omega, fun D hD => ?_⟩
    refine lc_rng (n := ((ns.length : Nat) : Int).toNat) (fun i => nV (ns.getD i 0)) (by omega) hD (fun _ => rfl) (fun i H' hi s1 Q' kq => ?_) (fun H' s1 hD1 => ?_)
    · refine ⟨_, rfl, p, dx, _, rfl, s1 _ _ hp, hrf_no _ _ _ (by decide +kernel) (by decide +kernel) (by decide +kernel), _, rfl, p, w, ns, _, "int", rfl, R0.same s1, TyN.int _, not_false (lt_among (by omega)), fun j m ej hm => ?_⟩
      have ej := nV_inj (i := i) (j := j) ej
      subst ej
      have q := kq H' (Same.refl H')
      rw [List.getD_eq_getElem?_getD, hm] at q
      exact q
    · refine k D H' s1 hD ?_
      rw [hD1, Int.toNat_natCast, range_getD]
def spHWords (K : PySem.W.Frag) (C D X : Addr) : Sp := fun vs H Q E => ∃ (p : Addr) (w : Nat) (ns : List Nat) (v : V) (n : String), vs = [.ref p, v] ∧ HRow C D H p w ns ∧ TyN K H v n ∧
  (amongV v 0 ((w : Int) - 1) = false → E (.ref X) none H) ∧ (∀ l : Nat, v = nV l → l < w → ∀ (q : Addr) (H' : Hp), Same H H' → H q = none → H' q = some (.lst ((words (row w ns l)).map nV)) → Q (.ref q) H')
theorem ok_H_words (T : Tx K mg A) : FnOk P w K mg base (L2.CX P w) 3 A.H_words A.H_words_d ["self", "level"] (spHWords K A.cB A.cH A.xNoPlace) := by
  refine T.H_words.F.okX sc_H_words (fun vs H Q E h => ?_) (fun cdv Ar outer s H vs Q E hr h => ?_)
  · obtain ⟨p, w, ns, v, n, rfl, _⟩ := h
    rfl
  · obtain ⟨p, w, ns, v, n, rfl, R0, hk, kE, kQ⟩ := h
    obtain ⟨q, R⟩ := id R0
    obtain ⟨dx, hp⟩ := R.ob
    refine ⟨_, (pss_cons (ps_if (pt_not (pt_val (pe_call (E := E0) (ok_is_among T) (hr.mono (by decide)) rfl T.is_among.g T.is_among.F.kp T.is_among.b .nil pass0 (pa_cons (pv 1) (pa_cons pe_int (pa_cons (pe_op op_sub (pe_fld (pv 0) rfl) pe_int) pa_nil)))))) (pss_one (ps_raise rfl (takes_of rfl rfl rfl rfl) (pmk_own PySem.F.excBase_ValueError T.xNoPlace.x T.xNoPlace.g T.xNoPlace.k (raises_own T.xNoPlace.b T.xNoPlace.t) rfl))) pss_nil)
      (PSs.nox (pss_one (ps_ret (pe_meth0 (E := E0) (pe_ix ix_list (pe_fld (pv 0) rfl) (pv 1) (fun _ _ => rfl)) T.clB T.B_words.m (ok_B_words T) (hr.mono (by decide)) T.B_words.b .nil pass0))))), ?_⟩
    refine ⟨_, rfl, _, rfl, p, A.cH, dx, _, _, rfl, hp, T.clH, T.nH_wide, hrf_wide _ _ _, _, _, rfl, rfl, v, n, 0, _, rfl, hk, _, rfl, ?_⟩
    by_cases c : amongV v 0 ((w : Int) - 1) = true
    · rw [c]
      refine iteF ?_
      obtain ⟨l, rfl, hl⟩ := among_lt c
      obtain ⟨xs, r, hq, hx, B⟩ := R.at hl
      obtain ⟨pa, pb, Rb⟩ := id B
      obtain ⟨dr, hr1⟩ := Rb.ob
      exact ⟨_, rfl, p, A.cH, dx, _, _, rfl, hp, T.clH, T.nH_halves, hrf_halves _ _ _, _, rfl, q, _, _, .ref r, rfl, rfl, SqL.of hq, at_of (j := l) rfl hx, r, dr, _, rfl, hr1, brf_no _ _ _ (by decide +kernel) (by decide +kernel) (by decide +kernel), r, _, rfl, B, fun z H' s1 hz hz1 => kQ l rfl hl z H' s1 hz hz1⟩
    · rw [bad_false c]
      refine iteT ?_
      exact kE (bad_false c)
/-- new lists, each of a row's bits -/
def spRows (C D : Addr) : Sp := fun vs H Q _ => ∃ (p : Addr) (w : Nat) (ns : List Nat), vs = [.ref p] ∧ HRow C D H p w ns ∧ ∀ (q : Addr) (H' : Hp) (bs : List Addr), Same H H' → H q = none → H' q = some (.lst (bs.map V.ref)) → bs.length = w → bs.Nodup →
  (∀ l b, bs[l]? = some b → H b = none ∧ b ≠ q ∧ H' b = some (.lst ((row w ns l).map bV))) → Q (.ref q) H'
def rowsD (w : Nat) (ns : List Nat) : PyData := .list ((List.range w).map fun l => bitsD (row w ns l))
theorem rowsD_ly (w : Nat) (ns : List Nat) : Ly 2 (rowsD w ns) := Ly.list fun d hd => by
  obtain ⟨n, _, rfl⟩ := List.mem_map.mp hd
  exact bitsD_ly _
theorem rowsD_dp {K : PySem.W.Frag} {H : Hp} {a : Addr} {w : Nat} {ns : List Nat} {bs : List Addr} (h : H a = some (.lst (bs.map V.ref))) (hl : bs.length = w) (hb : ∀ l b, bs[l]? = some b → H b = some (.lst ((row w ns l).map bV))) : Dp K H (.ref a) (rowsD w ns) := by
  subst hl
  exact .lst (SqL.of h) (dp_ix fun l b e => bitsD_dp (SqL.of (hb l b e)))
def wordsD (w : Nat) (ns : List Nat) : PyData := .list ((List.range w).map fun l => natsD (words (row w ns l)))
theorem wordsD_ly (w : Nat) (ns : List Nat) : Ly 2 (wordsD w ns) := Ly.list fun d hd => by
  obtain ⟨n, _, rfl⟩ := List.mem_map.mp hd
  exact natsD_ly _
theorem wordsD_dp {K : PySem.W.Frag} {H : Hp} {a : Addr} {w : Nat} {ns : List Nat} {bs : List Addr} (h : H a = some (.lst (bs.map V.ref))) (hl : bs.length = w) (hb : ∀ l b, bs[l]? = some b → H b = some (.lst ((words (row w ns l)).map nV))) : Dp K H (.ref a) (wordsD w ns) := by
  subst hl
  exact .lst (SqL.of h) (dp_ix fun l b e => natsD_dp (SqL.of (hb l b e)))

/-! ### stretches asked -/
/-- where a place ends up at a level, on v's way -/
def pos (w : Nat) (ns : List Nat) (v : Nat) : Nat → Nat → Nat
  | 0, p => p
  | l + 1, p => led (row w ns l) (pos w ns v l p) (tb v (w - 1 - l))
theorem pos_le {w v p : Nat} {ns : List Nat} (h : p ≤ ns.length) : ∀ l, pos w ns v l p ≤ ns.length
  | 0 => h
  | l + 1 => by
    have h1 := pos_le (w := w) (v := v) h l
    have := led_le (r := row w ns l) (p := pos w ns v l p) (tb v (w - 1 - l)) (by rw [row_len]; exact h1)
    rw [row_len] at this
    exact this
theorem val_step {v w l : Nat} (h : l < w) : v / 2 ^ (w - (l + 1)) = 2 * (v / 2 ^ (w - l)) + (tb v (w - 1 - l)).toNat := by
  have := half_bit v (w - 1 - l)
  rw [show w - 1 - l + 1 = w - l by omega] at this
  rw [show w - (l + 1) = w - 1 - l by omega]
  exact this
theorem SL_pos {w v f q : Nat} {ns : List Nat} (hw : ∀ n ∈ ns, n < 2 ^ w) (hv : v < 2 ^ w) (h : f ≤ q) (h2 : q ≤ ns.length) : ∀ l, l ≤ w → SL w ns (slice ns f q) l (v / 2 ^ (w - l)) (pos w ns v l f) (pos w ns v l q)
  | 0, _ => by
    rw [Nat.sub_zero, Nat.div_eq_of_lt hv]
    exact SL.start hw h h2
  | l + 1, hl => by
    rw [val_step (by omega)]
    exact (SL_pos hw hv h h2 l (by omega)).step (by omega) (tb v (w - 1 - l))
theorem v64 {v w : Nat} (h : v < 2 ^ w) (h64 : w ≤ 64) : v < 2 ^ 64 := Nat.lt_of_lt_of_le h (Nat.pow_le_pow_right (by decide) h64)
def spNeedN (K : PySem.W.Frag) (C D X : Addr) : Sp := fun vs H Q E => ∃ (p : Addr) (w : Nat) (ns : List Nat) (v : V) (n : String), vs = [.ref p, v] ∧ HRow C D H p w ns ∧ TyN K H v n ∧
  (amongV v 0 (topN w) = false → E (.ref X) none H) ∧ (∀ i : Nat, v = nV i → i < 2 ^ w → Q .non H)
theorem ok_H_need_number (T : Tx K mg A) : FnOk P w K mg base (L2.CX P w) 3 A.H_need_number A.H_need_number_d ["self", "value"] (spNeedN K A.cB A.cH A.xNoNumber) := by
  refine T.H_need_number.F.okX sc_H_need_number (fun vs H Q E h => ?_) (fun cdv Ar outer s H vs Q E hr h => ?_)
  · obtain ⟨p, w, ns, v, n, rfl, _⟩ := h
    rfl
  · obtain ⟨p, w, ns, v, n, rfl, ⟨q, R⟩, hk, kE, kQ⟩ := h
    obtain ⟨dx, hp⟩ := R.ob
    have w64 := R.w64
    refine ⟨_, (pss_one (ps_if (pt_not (pt_val (pe_call (E := E0) (ok_is_among T) (hr.mono (by decide)) rfl T.is_among.g T.is_among.F.kp T.is_among.b .nil pass0 (pa_cons (pv 1) (pa_cons pe_int (pa_cons (pe_op op_sub (pe_op op_shl pe_int (pe_fld (pv 0) rfl)) pe_int) pa_nil)))))) (pss_one (ps_raise rfl (takes_of rfl rfl rfl rfl) (pmk_own PySem.F.excBase_ValueError T.xNoNumber.x T.xNoNumber.g T.xNoNumber.k (raises_own T.xNoNumber.b T.xNoNumber.t) rfl))) pss_nil)), ?_⟩
    refine ⟨_, rfl, _, rfl, p, A.cH, dx, _, _, rfl, hp, T.clH, T.nH_wide, hrf_wide _ _ _, _, _, rfl, rfl, ⟨by omega, by omega, by decide⟩, _, _, rfl, rfl, v, n, 0, _, rfl, hk, _, rfl, ?_⟩
    by_cases c : amongV v 0 (topN w) = true
    · refine if_f (by show (!amongV v 0 (topN w)) = false; rw [c]; rfl) ?_
      obtain ⟨i, rfl, hi⟩ := among_top c
      exact kQ i rfl hi
    · refine if_t (by show (!amongV v 0 (topN w)) = true; rw [bad_false c]; rfl) ?_
      exact kE (bad_false c)
def spNeedS (K : PySem.W.Frag) (C D X : Addr) : Sp := fun vs H Q E => ∃ (p : Addr) (w : Nat) (ns : List Nat) (f b : V) (n m : String), vs = [.ref p, f, b] ∧ HRow C D H p w ns ∧ TyN K H f n ∧ TyN K H b m ∧
  (amongV f 0 (ns.length : Int) = false → E (.ref X) none H) ∧
  (∀ i : Nat, f = nV i → i ≤ ns.length → (amongV b (i : Int) (ns.length : Int) = false → E (.ref X) none H) ∧ (∀ j : Nat, b = nV j → i ≤ j → j ≤ ns.length → Q .non H))
theorem ok_H_need_stretch (T : Tx K mg A) : FnOk P w K mg base (L2.CX P w) 3 A.H_need_stretch A.H_need_stretch_d ["self", "first", "behind"] (spNeedS K A.cB A.cH A.xNoPlace) := by
  refine T.H_need_stretch.F.okX sc_H_need_stretch (fun vs H Q E h => ?_) (fun cdv Ar outer s H vs Q E hr h => ?_)
  · obtain ⟨p, w, ns, f, b, n, m, rfl, _⟩ := h
    rfl
  · obtain ⟨p, w, ns, f, b, n, m, rfl, ⟨q, R⟩, hf, hb, kE, kQ⟩ := h
    obtain ⟨dx, hp⟩ := R.ob
    refine ⟨_, (pss_one (ps_if (PW.pt (pw_or (pt_not (pt_val (pe_call (E := E0) (ok_is_among T) (hr.mono (by decide)) rfl T.is_among.g T.is_among.F.kp T.is_among.b .nil pass0 (pa_cons (pv 1) (pa_cons pe_int (pa_cons (pe_fld (pv 0) rfl) pa_nil)))))) (pw_or1 (pt_not (pt_val (pe_call (E := E0) (ok_is_among T) (hr.mono (by decide)) rfl T.is_among.g T.is_among.F.kp T.is_among.b .nil pass0 (pa_cons (pv 2) (pa_cons (pv 1) (pa_cons (pe_fld (pv 0) rfl) pa_nil))))))))) (pss_one (ps_raise rfl (takes_of rfl rfl rfl rfl) (pmk_own PySem.F.excBase_ValueError T.xNoPlace.x T.xNoPlace.g T.xNoPlace.k (raises_own T.xNoPlace.b T.xNoPlace.t) rfl))) pss_nil)), ?_⟩
    refine ⟨_, rfl, _, rfl, p, A.cH, dx, _, _, rfl, hp, T.clH, T.nH_size, hrf_size _ _ _, f, n, 0, _, rfl, hf, _, rfl, ?_⟩
    by_cases c : amongV f 0 (ns.length : Int) = true
    · rw [c]
      refine iteF ?_
      obtain ⟨i, rfl, hi⟩ := among_nat c
      obtain ⟨k1, k2⟩ := kQ i rfl hi
      refine ⟨_, rfl, _, rfl, _, rfl, p, A.cH, dx, _, _, rfl, hp, T.clH, T.nH_size, hrf_size _ _ _, b, m, _, _, rfl, hb, _, rfl, ?_⟩
      by_cases c2 : amongV b (i : Int) (ns.length : Int) = true
      · refine if_f (by show (!amongV b (i : Int) (ns.length : Int)) = false; rw [c2]; rfl) ?_
        obtain ⟨z, rfl, h0, h1⟩ := among_yes c2
        obtain ⟨j, rfl⟩ := Int.eq_ofNat_of_zero_le (show 0 ≤ z by omega)
        exact k2 j rfl (by omega) (by omega)
      · refine if_t (by show (!amongV b (i : Int) (ns.length : Int)) = true; rw [bad_false c2]; rfl) ?_
        exact k1 (bad_false c2)
    · rw [bad_false c]
      refine iteT ?_
      exact kE (bad_false c)
def spBitOf (C D : Addr) : Sp := fun vs H Q _ => ∃ (p : Addr) (w : Nat) (ns : List Nat) (v l : Nat), vs = [.ref p, nV v, nV l] ∧ HRow C D H p w ns ∧ l < w ∧ Q (bV (tb v (w - 1 - l))) H
theorem ok_H_bit_of (T : Tx K mg A) : FnOk P w K mg base CX0 1 A.H_bit_of A.H_bit_of_d ["self", "value", "level"] (spBitOf A.cB A.cH) := by
  refine T.H_bit_of.F.ok sc_H_bit_of (fun vs H Q E h => ?_) (fun cdv Ar outer s H vs Q E hr h => ?_)
  · obtain ⟨p, w, ns, v, l, rfl, _⟩ := h
    rfl
  · obtain ⟨p, w, ns, v, l, rfl, ⟨q, R⟩, hl, kQ⟩ := h
    obtain ⟨dx, hp⟩ := R.ob
    refine ⟨_, (pss_one (ps_ret (pe_op op_and (pe_op op_shr (pv 1) (pe_op op_sub (pe_op op_sub (pe_fld (pv 0) rfl) pe_int) (pv 2))) pe_int))), ?_⟩
    refine ⟨_, rfl, _, rfl, p, A.cH, dx, _, _, rfl, hp, T.clH, T.nH_wide, hrf_wide _ _ _, _, _, rfl, rfl, _, rfl, _, _, rfl, rfl, _, _, rfl, rfl, (by show (0 : Int) ≤ (w : Int) - 1 - (l : Int); omega), _, _, rfl, rfl, ?_⟩
    have e : V.int (Builtin.bitAnd ((v : Int) / 2 ^ ((w : Int) - 1 - (l : Int)).toNat) 1) = bV (tb v (w - 1 - l)) := by
      rw [show (w : Int) - 1 - (l : Int) = ((w - 1 - l : Nat) : Int) by omega, bitval]
      rfl
    exact cast (congrArg (fun z => Q z H) e.symm) kQ
def spStrOf (C D : Addr) : Sp := fun vs H Q _ => ∃ (p : Addr) (w : Nat) (ns : List Nat) (v f q : Nat), vs = [.ref p, nV v, nV f, nV q] ∧ HRow C D H p w ns ∧ f ≤ ns.length ∧ q ≤ ns.length ∧
  ∀ (t : Addr) (H' : Hp), Same H H' → H t = none → H' t = some (.tup [nV (pos w ns v w f), nV (pos w ns v w q)]) → Q (.ref t) H'
set_option maxHeartbeats 1000000 in
theorem ok_H_stretch_of (T : Tx K mg A) : FnOk P w K mg base CX0 7 A.H_stretch_of A.H_stretch_of_d ["self", "value", "first", "behind"] (spStrOf A.cB A.cH) := by
  refine T.H_stretch_of.F.ok sc_H_stretch_of (fun vs H Q E h => ?_) (fun cdv Ar outer s H vs Q E hr h => ?_)
  · obtain ⟨p, w, ns, v, f, q, rfl, _⟩ := h
    rfl
  · obtain ⟨p, w, ns, v, f, q, rfl, R0, hf, hq, kQ⟩ := h
    obtain ⟨a, R⟩ := id R0
    obtain ⟨dx, hp⟩ := R.ob
    have w64 := R.w64
    refine ⟨_, (pss_cons (ps_for PassesOwn.never rfl (pi_range1 (by rfl) T.b_range (pa_cons (pe_fld (pv 0) rfl) pa_nil)) (pg_name (i := 4) sc_H_stretch_of.nd rfl (by first | exact Or.inl rfl | exact Or.inr rfl)) (pss_cons (ps_set (i := 5) sc_H_stretch_of.nd rfl (by first | exact Or.inl rfl | exact Or.inr rfl) (pe_meth (E := E0) (pv 0) T.clH T.H_bit_of.m (ok_H_bit_of T) (hr.mono (by decide)) T.H_bit_of.b .nil pass0 (pa_cons (pv 1) (pa_cons (pv 4) pa_nil))))
      (pss_cons (ps_set (i := 2) sc_H_stretch_of.nd rfl (by first | exact Or.inl rfl | exact Or.inr rfl) (pe_meth (E := E0) (pv 0) T.clH T.H_led.m (ok_H_led T) (hr.mono (by decide)) T.H_led.b .nil pass0 (pa_cons (pv 4) (pa_cons (pv 2) (pa_cons (pv 5) pa_nil)))))
      (pss_one (ps_set (i := 3) sc_H_stretch_of.nd rfl (by first | exact Or.inl rfl | exact Or.inr rfl) (pe_meth (E := E0) (pv 0) T.clH T.H_led.m (ok_H_led T) (hr.mono (by decide)) T.H_led.b .nil pass0 (pa_cons (pv 4) (pa_cons (pv 3) (pa_cons (pv 5) pa_nil)))))))))
      (pss_one (ps_ret (pe_tup (pa_cons (pv 2) (pa_cons (pv 3) pa_nil)))))), ?_⟩
    refine ⟨_, rfl, p, A.cH, dx, _, _, rfl, hp, T.clH, T.nH_wide, hrf_wide _ _ _, _, rfl, by omega, by omega, ?_⟩
    refine for_range (lo := 0) (fun j σ H' => H' = H ∧ ∃ (u1 u2 : Option V), σ = [some (.ref p), some (nV v), some (nV (pos w ns v j f)), some (nV (pos w ns v j q)), u1, u2]) ⟨rfl, none, none, rfl⟩ (fun j σ H' hj h => ?_) (fun σ H' h => ?_)
    · obtain ⟨rfl, u1, u2, rfl⟩ := h
      have hj : j < w := by omega
      have e0 : (0 : Int) + (j : Nat) = ((j : Nat) : Int) := by omega
      rw [e0]
      have h1 := pos_le (w := w) (v := v) hf j
      have h2 := pos_le (w := w) (v := v) hq j
      refine ⟨_, rfl, p, dx, _, rfl, hp, hrf_no _ _ _ (by decide +kernel) (by decide +kernel) (by decide +kernel), _, rfl, _, rfl, p, w, ns, v, j, rfl, R0, hj, ?_⟩
      refine ⟨_, rfl, p, dx, _, rfl, hp, hrf_no _ _ _ (by decide +kernel) (by decide +kernel) (by decide +kernel), _, rfl, _, rfl, _, rfl, p, w, ns, j, _, _, rfl, R0, hj, h1, ?_⟩
      refine ⟨_, rfl, p, dx, _, rfl, hp, hrf_no _ _ _ (by decide +kernel) (by decide +kernel) (by decide +kernel), _, rfl, _, rfl, _, rfl, p, w, ns, j, _, _, rfl, R0, hj, h2, ?_⟩
      exact ⟨rfl, some (nV j), some (bV (tb v (w - 1 - j))), rfl⟩
    · obtain ⟨rfl, u1, u2, rfl⟩ := h
      refine ⟨_, rfl, _, rfl, (by show 2 ≤ sizeLine; decide), fun t ht => kQ t _ (same_new (Same.refl H') ht) ht ?_⟩
      rw [upd_same]
      rfl
/-- of a stretch: refused, or answered -/
def strArgs (X : Addr) (ns : List Nat) (f b : V) (H : Hp) (E : XK) (k : Nat → Nat → Prop) : Prop :=
  (amongV f 0 (ns.length : Int) = false → E (.ref X) none H) ∧
  (∀ i : Nat, f = nV i → i ≤ ns.length → (amongV b (i : Int) (ns.length : Int) = false → E (.ref X) none H) ∧ (∀ j : Nat, b = nV j → i ≤ j → j ≤ ns.length → k i j))
def spCount (K : PySem.W.Frag) (C D X Y : Addr) : Sp := fun vs H Q E => ∃ (p : Addr) (w : Nat) (ns : List Nat) (v f b : V) (l n m : String), vs = [.ref p, v, f, b] ∧ HRow C D H p w ns ∧ TyN K H v l ∧ TyN K H f n ∧ TyN K H b m ∧
  (amongV v 0 (topN w) = false → E (.ref X) none H) ∧ (∀ u : Nat, v = nV u → u < 2 ^ w → strArgs Y ns f b H E fun i j => ∀ H', Same H H' → Q (nV ((slice ns i j).count u)) H')
set_option maxHeartbeats 1000000 in
theorem ok_H_count (T : Tx K mg A) : FnOk P w K mg base (L2.CX P w) 8 A.H_count A.H_count_d ["self", "value", "first", "behind"] (spCount K A.cB A.cH A.xNoNumber A.xNoPlace) := by
  refine T.H_count.F.okX sc_H_count (fun vs H Q E h => ?_) (fun cdv Ar outer s H vs Q E hr h => ?_)
  · obtain ⟨p, w, ns, v, f, b, l, n, m, rfl, _⟩ := h
    rfl
  · obtain ⟨p, w, ns, v, f, b, l, n, m, rfl, R0, hv, hf, hb, kE, kQ⟩ := h
    obtain ⟨a, R⟩ := id R0
    obtain ⟨dx, hp⟩ := R.ob
    refine ⟨_, (pss_cons (ps_expr (pe_meth (pv 0) T.clH T.H_need_number.m (ok_H_need_number T) (hr.mono (by decide)) T.H_need_number.b .nil (passes_call (takes_of rfl rfl rfl rfl) (fun _ _ _ _ h => h)) (pa_cons (pv 1) pa_nil)))
      (pss_cons (ps_expr (pe_meth (pv 0) T.clH T.H_need_stretch.m (ok_H_need_stretch T) (hr.mono (by decide)) T.H_need_stretch.b .nil (passes_call (takes_of rfl rfl rfl rfl) (fun _ _ _ _ h => h)) (pa_cons (pv 2) (pa_cons (pv 3) pa_nil))))
      (PSs.nox (pss_cons (ps_asg (pe_meth (E := E0) (pv 0) T.clH T.H_stretch_of.m (ok_H_stretch_of T) (hr.mono (by decide)) T.H_stretch_of.b .nil pass0 (pa_cons (pv 1) (pa_cons (pv 2) (pa_cons (pv 3) pa_nil)))) (pg_tup (by rfl) (pgs_cons (pg_name (i := 2) sc_H_count.nd rfl (by first | exact Or.inl rfl | exact Or.inr rfl)) (pgs_cons (pg_name (i := 3) sc_H_count.nd rfl (by first | exact Or.inl rfl | exact Or.inr rfl)) pgs_nil))))
      (pss_one (ps_ret (pe_op op_sub (pv 3) (pv 2)))))))), ?_⟩
    refine ⟨_, rfl, p, dx, _, rfl, hp, hrf_no _ _ _ (by decide +kernel) (by decide +kernel) (by decide +kernel), _, rfl, p, w, ns, v, l, rfl, R0, hv, kE, fun u eu hu => ?_⟩
    obtain ⟨kF, kS⟩ := kQ u eu hu
    subst eu
    refine ⟨_, rfl, p, dx, _, rfl, hp, hrf_no _ _ _ (by decide +kernel) (by decide +kernel) (by decide +kernel), _, rfl, _, rfl, p, w, ns, f, b, n, m, rfl, R0, hf, hb, kF, fun i ei hi => ?_⟩
    obtain ⟨k1, k2⟩ := kS i ei hi
    subst ei
    refine ⟨k1, fun j ej hij hj => ?_⟩
    have kk := k2 j ej hij hj
    subst ej
    refine ⟨_, rfl, p, dx, _, rfl, hp, hrf_no _ _ _ (by decide +kernel) (by decide +kernel) (by decide +kernel), _, rfl, _, rfl, _, rfl, p, w, ns, u, i, j, rfl, R0, hi, hj, fun t H1 s1 _ ht => ?_⟩
    refine ⟨t, _, rfl, SqT.of ht, rfl, _, _, rfl, _, _, rfl, rfl, ?_⟩
    refine ⟨_, rfl, _, rfl, _, _, rfl, rfl, ?_⟩
    have S := SL_pos R.lt hu hij hj w (Nat.le_refl _)
    rw [Nat.sub_self, Nat.pow_zero, Nat.div_one] at S
    have hl := S.last
    have hle := S.le
    have e : V.int (((pos w ns u w j : Nat) : Int) - ((pos w ns u w i : Nat) : Int)) = nV ((slice ns i j).count u) := by
      unfold nV
      congr 1
      omega
    exact cast (congrArg (fun z => Q z H1) e.symm) (kk H1 s1)
def spBelow (K : PySem.W.Frag) (C D X Y : Addr) : Sp := fun vs H Q E => ∃ (p : Addr) (w : Nat) (ns : List Nat) (v f b : V) (l n m : String), vs = [.ref p, v, f, b] ∧ HRow C D H p w ns ∧ TyN K H v l ∧ TyN K H f n ∧ TyN K H b m ∧
  (amongV v 0 (topN w) = false → E (.ref X) none H) ∧ (∀ u : Nat, v = nV u → u < 2 ^ w → strArgs Y ns f b H E fun i j => Q (nV ((slice ns i j).countP fun x => decide (x < u))) H)
set_option maxHeartbeats 2000000 in
theorem ok_H_below (T : Tx K mg A) : FnOk P w K mg base (L2.CX P w) 7 A.H_below A.H_below_d ["self", "value", "first", "behind"] (spBelow K A.cB A.cH A.xNoNumber A.xNoPlace) := by
  refine T.H_below.F.okX sc_H_below (fun vs H Q E h => ?_) (fun cdv Ar outer s H vs Q E hr h => ?_)
  · obtain ⟨p, w, ns, v, f, b, l, n, m, rfl, _⟩ := h
    rfl
  · obtain ⟨p, w, ns, v, f, b, l, n, m, rfl, R0, hv, hf, hb, kE, kQ⟩ := h
    obtain ⟨a, R⟩ := id R0
    obtain ⟨dx, hp⟩ := R.ob
    have w64 := R.w64
    refine ⟨_, (pss_cons (ps_expr (pe_meth (pv 0) T.clH T.H_need_number.m (ok_H_need_number T) (hr.mono (by decide)) T.H_need_number.b .nil (passes_call (takes_of rfl rfl rfl rfl) (fun _ _ _ _ h => h)) (pa_cons (pv 1) pa_nil)))
      (pss_cons (ps_expr (pe_meth (pv 0) T.clH T.H_need_stretch.m (ok_H_need_stretch T) (hr.mono (by decide)) T.H_need_stretch.b .nil (passes_call (takes_of rfl rfl rfl rfl) (fun _ _ _ _ h => h)) (pa_cons (pv 2) (pa_cons (pv 3) pa_nil))))
      (PSs.nox (pss_cons (ps_set (i := 4) sc_H_below.nd rfl (by first | exact Or.inl rfl | exact Or.inr rfl) pe_int)
      (pss_cons (ps_for PassesOwn.never rfl (pi_range1 (by rfl) T.b_range (pa_cons (pe_fld (pv 0) rfl) pa_nil)) (pg_name (i := 5) sc_H_below.nd rfl (by first | exact Or.inl rfl | exact Or.inr rfl)) (pss_cons (ps_set (i := 6) sc_H_below.nd rfl (by first | exact Or.inl rfl | exact Or.inr rfl) (pe_meth (E := E0) (pv 0) T.clH T.H_bit_of.m (ok_H_bit_of T) (hr.mono (by decide)) T.H_bit_of.b .nil pass0 (pa_cons (pv 1) (pa_cons (pv 5) pa_nil))))
      (pss_cons (ps_if (pt_cmpR op_eq (pv 6) pe_int (nomark _)) (pss_one (ps_set (i := 4) sc_H_below.nd rfl (by first | exact Or.inl rfl | exact Or.inr rfl) (pe_op op_sub (pe_op op_add (pv 4) (pe_meth (E := E0) (pv 0) T.clH T.H_led.m (ok_H_led T) (hr.mono (by decide)) T.H_led.b .nil pass0 (pa_cons (pv 5) (pa_cons (pv 3) (pa_cons pe_int pa_nil))))) (pe_meth (E := E0) (pv 0) T.clH T.H_led.m (ok_H_led T) (hr.mono (by decide)) T.H_led.b .nil pass0 (pa_cons (pv 5) (pa_cons (pv 2) (pa_cons pe_int pa_nil))))))) pss_nil)
      (pss_cons (ps_set (i := 2) sc_H_below.nd rfl (by first | exact Or.inl rfl | exact Or.inr rfl) (pe_meth (E := E0) (pv 0) T.clH T.H_led.m (ok_H_led T) (hr.mono (by decide)) T.H_led.b .nil pass0 (pa_cons (pv 5) (pa_cons (pv 2) (pa_cons (pv 6) pa_nil)))))
      (pss_one (ps_set (i := 3) sc_H_below.nd rfl (by first | exact Or.inl rfl | exact Or.inr rfl) (pe_meth (E := E0) (pv 0) T.clH T.H_led.m (ok_H_led T) (hr.mono (by decide)) T.H_led.b .nil pass0 (pa_cons (pv 5) (pa_cons (pv 3) (pa_cons (pv 6) pa_nil))))))))))
      (pss_one (ps_ret (pv 4)))))))), ?_⟩
    refine ⟨_, rfl, p, dx, _, rfl, hp, hrf_no _ _ _ (by decide +kernel) (by decide +kernel) (by decide +kernel), _, rfl, p, w, ns, v, l, rfl, R0, hv, kE, fun u eu hu => ?_⟩
    obtain ⟨kF, kS⟩ := kQ u eu hu
    subst eu
    refine ⟨_, rfl, p, dx, _, rfl, hp, hrf_no _ _ _ (by decide +kernel) (by decide +kernel) (by decide +kernel), _, rfl, _, rfl, p, w, ns, f, b, n, m, rfl, R0, hf, hb, kF, fun i ei hi => ?_⟩
    obtain ⟨k1, k2⟩ := kS i ei hi
    subst ei
    refine ⟨k1, fun j ej hij hj => ?_⟩
    have kk := k2 j ej hij hj
    subst ej
    have S := SL_pos R.lt hu hij hj
    refine ⟨_, rfl, p, A.cH, dx, _, _, rfl, hp, T.clH, T.nH_wide, hrf_wide _ _ _, _, rfl, by omega, by omega, ?_⟩
    refine for_range (lo := 0) (fun y σ H' => H' = H ∧ ∃ (u1 u2 : Option V), σ = [some (.ref p), some (nV u), some (nV (pos w ns u y i)), some (nV (pos w ns u y j)), some (nV ((slice ns i j).countP fun x => decide (x / 2 ^ (w - y) < u / 2 ^ (w - y)))), u1, u2])
      ⟨rfl, none, none, ?_⟩ (fun y σ H' hy h => ?_) (fun σ H' h => ?_)
    · have e : (slice ns i j).countP (fun x => decide (x / 2 ^ (w - 0) < u / 2 ^ (w - 0))) = 0 := by
        rw [List.countP_eq_zero]
        intro x _
        rw [Nat.sub_zero, Nat.div_eq_of_lt hu]
        simp
      rw [e]
      rfl
    · obtain ⟨rfl, u1, u2, rfl⟩ := h
      have hy : y < w := by omega
      have e0 : (0 : Int) + (y : Nat) = ((y : Nat) : Int) := by omega
      rw [e0]
      have h1 := pos_le (w := w) (v := u) hi y
      have h2 := pos_le (w := w) (v := u) hj y
      have Sy := S y (by omega)
      have hz := Sy.zeros hy
      have hm := led_mono (r := row w ns y) false Sy.le
      have bs := below_step (slice ns i j) (w - (y + 1)) (u / 2 ^ (w - y)) (tb u (w - 1 - y))
      rw [show w - (y + 1) + 1 = w - y by omega, ← val_step hy] at bs
      refine ⟨_, rfl, p, dx, _, rfl, hp, hrf_no _ _ _ (by decide +kernel) (by decide +kernel) (by decide +kernel), _, rfl, _, rfl, p, w, ns, u, y, rfl, R0, hy, ?_⟩
      obtain ⟨bt, ebt⟩ : ∃ bt, bt = tb u (w - 1 - y) := ⟨_, rfl⟩
      rw [← ebt] at bs ⊢
      refine ⟨_, rfl, rfl, _, rfl, ?_⟩
      cases bt with
      | true =>
        refine if_t (by rfl) ?_
        refine ⟨_, rfl, _, rfl, p, dx, _, rfl, hp, hrf_no _ _ _ (by decide +kernel) (by decide +kernel) (by decide +kernel), _, rfl, _, rfl, p, w, ns, y, _, false, rfl, R0, hy, h2, _, _, rfl, rfl, ?_⟩
        refine ⟨_, rfl, p, dx, _, rfl, hp, hrf_no _ _ _ (by decide +kernel) (by decide +kernel) (by decide +kernel), _, rfl, _, rfl, p, w, ns, y, _, false, rfl, R0, hy, h1, _, _, rfl, rfl, ?_⟩
        refine ⟨_, rfl, p, dx, _, rfl, hp, hrf_no _ _ _ (by decide +kernel) (by decide +kernel) (by decide +kernel), _, rfl, _, rfl, _, rfl, p, w, ns, y, _, true, rfl, R0, hy, h1, ?_⟩
        refine ⟨_, rfl, p, dx, _, rfl, hp, hrf_no _ _ _ (by decide +kernel) (by decide +kernel) (by decide +kernel), _, rfl, _, rfl, _, rfl, p, w, ns, y, _, true, rfl, R0, hy, h2, ?_⟩
        refine ⟨rfl, some (nV y), some (bV true), ?_⟩
        have e : V.int ((((slice ns i j).countP (fun x => decide (x / 2 ^ (w - y) < u / 2 ^ (w - y))) : Nat) : Int) + ((led (row w ns y) (pos w ns u y j) false : Nat) : Int) - ((led (row w ns y) (pos w ns u y i) false : Nat) : Int)) =
            nV ((slice ns i j).countP fun x => decide (x / 2 ^ (w - (y + 1)) < u / 2 ^ (w - (y + 1)))) := by
          rw [bs, if_pos rfl, ← hz]
          unfold nV
          congr 1
          omega
        rw [← e]
        show _ = [some (V.ref p), some (nV u), some (nV (led (row w ns y) (pos w ns u y i) (tb u (w - 1 - y)))), some (nV (led (row w ns y) (pos w ns u y j) (tb u (w - 1 - y)))), _, _, _]
        rw [← ebt]
        rfl
      | false =>
        refine if_f (by rfl) ?_
        refine ⟨_, rfl, p, dx, _, rfl, hp, hrf_no _ _ _ (by decide +kernel) (by decide +kernel) (by decide +kernel), _, rfl, _, rfl, _, rfl, p, w, ns, y, _, false, rfl, R0, hy, h1, ?_⟩
        refine ⟨_, rfl, p, dx, _, rfl, hp, hrf_no _ _ _ (by decide +kernel) (by decide +kernel) (by decide +kernel), _, rfl, _, rfl, _, rfl, p, w, ns, y, _, false, rfl, R0, hy, h2, ?_⟩
        refine ⟨rfl, some (nV y), some (bV false), ?_⟩
        rw [bs]
        show _ = [some (V.ref p), some (nV u), some (nV (led (row w ns y) (pos w ns u y i) (tb u (w - 1 - y)))), some (nV (led (row w ns y) (pos w ns u y j) (tb u (w - 1 - y)))), _, _, _]
        rw [← ebt]
        rfl
    · obtain ⟨rfl, u1, u2, rfl⟩ := h
      refine ⟨_, rfl, ?_⟩
      dsimp only
      rw [Int.toNat_natCast, Nat.sub_self, Nat.pow_zero]
      simp only [Nat.div_one]
      exact kk
theorem split_step (S : List Nat) (k c : Nat) : S.countP (fun n => n / 2 ^ (k + 1) == c) = S.countP (fun n => n / 2 ^ k == 2 * c) + S.countP (fun n => n / 2 ^ k == 2 * c + 1) := by
  induction S with
  | nil => rfl
  | cons n S ih =>
    rw [List.countP_cons, List.countP_cons, List.countP_cons, ih]
    have e3 := half_bit n k
    have e4 := toNat_lt2 (tb n k)
    rw [e3]
    generalize n / 2 ^ (k + 1) = x
    generalize (tb n k).toNat = y at e4
    simp only [beq_iff_eq]
    by_cases g : x = c
    · rw [if_pos g]
      by_cases g2 : y = 0
      · rw [if_pos (by omega), if_neg (by omega)]; omega
      · rw [if_neg (by omega), if_pos (by omega)]; omega
    · rw [if_neg g, if_neg (by omega), if_neg (by omega)]
      omega
theorem int_bit2 {b : Bool} : V.int (if b = true then 1 else 0) = bV b := by cases b <;> rfl
def spLeast (K : PySem.W.Frag) (C D Y : Addr) : Sp := fun vs H Q E => ∃ (p : Addr) (w : Nat) (ns : List Nat) (v f b : V) (l n m : String), vs = [.ref p, v, f, b] ∧ HRow C D H p w ns ∧ TyN K H v l ∧ TyN K H f n ∧ TyN K H b m ∧
  strArgs Y ns f b H E fun i j => (amongV v 0 ((j : Int) - (i : Int) - 1) = false → E (.ref Y) none H) ∧
    ∀ t u : Nat, v = nV t → t < j - i → u < 2 ^ w → (slice ns i j).countP (fun x => decide (x < u)) ≤ t → t < (slice ns i j).countP (fun x => decide (x < u)) + (slice ns i j).count u → Q (nV u) H
set_option maxHeartbeats 2000000 in
theorem ok_H_least (T : Tx K mg A) : FnOk P w K mg base (L2.CX P w) 7 A.H_least A.H_least_d ["self", "turn", "first", "behind"] (spLeast K A.cB A.cH A.xNoPlace) := by
  refine T.H_least.F.okX sc_H_least (fun vs H Q E h => ?_) (fun cdv Ar outer s H vs Q E hr h => ?_)
  · obtain ⟨p, w, ns, v, f, b, l, n, m, rfl, _⟩ := h
    rfl
  · obtain ⟨p, w, ns, v, f, b, l, n, m, rfl, R0, hv, hf, hb, kF, kS⟩ := h
    obtain ⟨a, R⟩ := id R0
    obtain ⟨dx, hp⟩ := R.ob
    have w64 := R.w64
    refine ⟨_, (pss_cons (ps_expr (pe_meth (pv 0) T.clH T.H_need_stretch.m (ok_H_need_stretch T) (hr.mono (by decide)) T.H_need_stretch.b .nil (passes_call (takes_of rfl rfl rfl rfl) (fun _ _ _ _ h => h)) (pa_cons (pv 2) (pa_cons (pv 3) pa_nil))))
      (pss_cons (ps_if (pt_not (pt_val (pe_call (E := E0) (ok_is_among T) (hr.mono (by decide)) rfl T.is_among.g T.is_among.F.kp T.is_among.b .nil pass0 (pa_cons (pv 1) (pa_cons pe_int (pa_cons (pe_op op_sub (pe_op op_sub (pv 3) (pv 2)) pe_int) pa_nil)))))) (pss_one (ps_raise rfl (takes_of rfl rfl rfl rfl) (pmk_own PySem.F.excBase_ValueError T.xNoPlace.x T.xNoPlace.g T.xNoPlace.k (raises_own T.xNoPlace.b T.xNoPlace.t) rfl))) pss_nil)
      (PSs.nox (pss_cons (ps_set (i := 4) sc_H_least.nd rfl (by first | exact Or.inl rfl | exact Or.inr rfl) pe_int)
      (pss_cons (ps_for PassesOwn.never rfl (pi_range1 (by rfl) T.b_range (pa_cons (pe_fld (pv 0) rfl) pa_nil)) (pg_name (i := 5) sc_H_least.nd rfl (by first | exact Or.inl rfl | exact Or.inr rfl)) (pss_cons (ps_set (i := 6) sc_H_least.nd rfl (by first | exact Or.inl rfl | exact Or.inr rfl) (pe_op op_sub (pe_meth (E := E0) (pv 0) T.clH T.H_led.m (ok_H_led T) (hr.mono (by decide)) T.H_led.b .nil pass0 (pa_cons (pv 5) (pa_cons (pv 3) (pa_cons pe_int pa_nil)))) (pe_meth (E := E0) (pv 0) T.clH T.H_led.m (ok_H_led T) (hr.mono (by decide)) T.H_led.b .nil pass0 (pa_cons (pv 5) (pa_cons (pv 2) (pa_cons pe_int pa_nil))))))
      (pss_cons (ps_set (i := 7) sc_H_least.nd rfl (by first | exact Or.inl rfl | exact Or.inr rfl) (pe_callTy call_int1 (by rfl) T.b_int (by decide +kernel) (pa_cons (pe_cmpR op_ge (pv 1) (pv 6) (nomark _)) pa_nil)))
      (pss_cons (ps_set (i := 1) sc_H_least.nd rfl (by first | exact Or.inl rfl | exact Or.inr rfl) (pe_op op_sub (pv 1) (pe_op op_mul (pv 6) (pv 7))))
      (pss_cons (ps_set (i := 4) sc_H_least.nd rfl (by first | exact Or.inl rfl | exact Or.inr rfl) (pe_op op_or (pe_op op_shl (pv 4) pe_int) (pv 7)))
      (pss_cons (ps_set (i := 2) sc_H_least.nd rfl (by first | exact Or.inl rfl | exact Or.inr rfl) (pe_meth (E := E0) (pv 0) T.clH T.H_led.m (ok_H_led T) (hr.mono (by decide)) T.H_led.b .nil pass0 (pa_cons (pv 5) (pa_cons (pv 2) (pa_cons (pv 7) pa_nil)))))
      (pss_one (ps_set (i := 3) sc_H_least.nd rfl (by first | exact Or.inl rfl | exact Or.inr rfl) (pe_meth (E := E0) (pv 0) T.clH T.H_led.m (ok_H_led T) (hr.mono (by decide)) T.H_led.b .nil pass0 (pa_cons (pv 5) (pa_cons (pv 3) (pa_cons (pv 7) pa_nil))))))))))))
      (pss_one (ps_ret (pv 4)))))))), ?_⟩
    refine ⟨_, rfl, p, dx, _, rfl, hp, hrf_no _ _ _ (by decide +kernel) (by decide +kernel) (by decide +kernel), _, rfl, _, rfl, p, w, ns, f, b, n, m, rfl, R0, hf, hb, kF, fun i ei hi => ?_⟩
    obtain ⟨k1, k2⟩ := kS i ei hi
    subst ei
    refine ⟨k1, fun j ej hij hj => ?_⟩
    obtain ⟨kT, kk⟩ := k2 j ej hij hj
    subst ej
    refine ⟨_, rfl, _, rfl, _, rfl, _, _, rfl, rfl, _, _, rfl, rfl, v, l, 0, _, rfl, hv, _, rfl, ?_⟩
    by_cases c : amongV v 0 ((j : Int) - (i : Int) - 1) = true
    · refine if_f (by show (!amongV v 0 ((j : Int) - (i : Int) - 1)) = false; rw [c]; rfl) ?_
      obtain ⟨z, rfl, h0, h1⟩ := among_yes c
      obtain ⟨t, rfl⟩ := Int.eq_ofNat_of_zero_le h0
      have ht : t < j - i := by omega
      refine ⟨_, rfl, p, A.cH, dx, _, _, rfl, hp, T.clH, T.nH_wide, hrf_wide _ _ _, _, rfl, by omega, by omega, ?_⟩
      refine for_range (lo := 0) (fun y σ H' => H' = H ∧ ∃ (tt cc ff qq : Nat) (u1 u2 u3 : Option V), σ = [some (.ref p), some (nV tt), some (nV ff), some (nV qq), some (nV cc), u1, u2, u3] ∧ SL w ns (slice ns i j) y cc ff qq ∧ cc < 2 ^ y ∧ tt < qq - ff ∧ (slice ns i j).countP (fun x => decide (x / 2 ^ (w - y) < cc)) + tt = t)
        ⟨rfl, t, 0, i, j, none, none, none, rfl, SL.start R.lt hij hj, by decide, ht, ?_⟩ (fun y σ H' hy h => ?_) (fun σ H' h => ?_)
      · have e : (slice ns i j).countP (fun x => decide (x / 2 ^ (w - 0) < 0)) = 0 := by
          rw [List.countP_eq_zero]
          intro x _
          simp
        omega
      · obtain ⟨rfl, tt, cc, ff, qq, u1, u2, u3, rfl, S, hcc, htt, hsum⟩ := h
        have hy : y < w := by omega
        have e0 : (0 : Int) + (y : Nat) = ((y : Nat) : Int) := by omega
        rw [e0]
        have h2 := S.in_
        have h1 : ff ≤ ns.length := Nat.le_trans S.le h2
        have hz := S.zeros hy
        have hsz := S.size
        have sp := split_step (slice ns i j) (w - (y + 1)) cc
        rw [show w - (y + 1) + 1 = w - y by omega] at sp
        have hm := led_mono (r := row w ns y) false S.le
        have c64 : cc < 2 ^ 64 := Nat.lt_of_lt_of_le hcc (Nat.pow_le_pow_right (by decide) (by omega))
        obtain ⟨Z, eZ⟩ : ∃ Z, Z = led (row w ns y) qq false - led (row w ns y) ff false := ⟨_, rfl⟩
        have eZi : ((led (row w ns y) qq false : Nat) : Int) - ((led (row w ns y) ff false : Nat) : Int) = ((Z : Nat) : Int) := by omega
        refine ⟨_, rfl, p, dx, _, rfl, hp, hrf_no _ _ _ (by decide +kernel) (by decide +kernel) (by decide +kernel), _, rfl, _, rfl, p, w, ns, y, _, false, rfl, R0, hy, h2, ?_⟩
        refine ⟨_, rfl, p, dx, _, rfl, hp, hrf_no _ _ _ (by decide +kernel) (by decide +kernel) (by decide +kernel), _, rfl, _, rfl, p, w, ns, y, _, false, rfl, R0, hy, h1, _, _, rfl, rfl, ?_⟩
        dsimp only
        rw [eZi]
        refine ⟨_, rfl, _, rfl, _, _, rfl, rfl, .inr ⟨_, rfl, ?_⟩⟩
        obtain ⟨bt, ebt⟩ : ∃ bt : Bool, bt = decide (((Z : Nat) : Int) ≤ (tt : Int)) := ⟨_, rfl⟩
        rw [← ebt, int_bit2]
        refine ⟨_, rfl, _, rfl, _, rfl, _, _, rfl, rfl, .inr (by cases bt <;> exact ⟨by decide, by decide⟩), _, _, rfl, rfl, ?_⟩
        refine ⟨_, rfl, _, _, rfl, rfl, ⟨by decide, by decide, (by show (((cc : Nat) : Int)).natAbs < 2 ^ 64; rw [Int.natAbs_natCast]; omega)⟩, _, rfl, _, _, rfl, rfl, ?_⟩
        refine ⟨_, rfl, p, dx, _, rfl, hp, hrf_no _ _ _ (by decide +kernel) (by decide +kernel) (by decide +kernel), _, rfl, _, rfl, _, rfl, p, w, ns, y, _, bt, rfl, R0, hy, h1, ?_⟩
        refine ⟨_, rfl, p, dx, _, rfl, hp, hrf_no _ _ _ (by decide +kernel) (by decide +kernel) (by decide +kernel), _, rfl, _, rfl, _, rfl, p, w, ns, y, _, bt, rfl, R0, hy, h2, ?_⟩
        have S' := S.step hy bt
        have hsz' := S'.size
        have bs := below_step (slice ns i j) (w - (y + 1)) cc bt
        rw [show w - (y + 1) + 1 = w - y by omega] at bs
        refine ⟨rfl, (if bt then tt - Z else tt), 2 * cc + bt.toNat, led (row w ns y) ff bt, led (row w ns y) qq bt, some (nV y), some (nV Z), some (bV bt), ?_, S', ?_, ?_, ?_⟩
        · have e1 : V.int (Builtin.bitOr ((cc : Int) * 2 ^ (1 : Int).toNat) (bt.toNat : Int)) = nV (2 * cc + bt.toNat) := by
            rw [dbl_or]
            rfl
          have e2 : V.int ((tt : Int) - ((Z : Nat) : Int) * (bt.toNat : Int)) = nV (if bt then tt - Z else tt) := by
            cases bt with
            | true =>
              have : Z ≤ tt := by
                have := of_decide_eq_true ebt.symm
                omega
              unfold nV
              congr 1
              simp
              try omega
            | false =>
              unfold nV
              congr 1
              try simp
          rw [← e1, ← e2]
          rfl
        · have := toNat_lt2 bt
          rw [Nat.pow_succ]
          omega
        · cases bt with
          | true =>
            have : Z ≤ tt := by
              have := of_decide_eq_true ebt.symm
              omega
            rw [hsz', if_pos rfl]
            rw [Bool.toNat_true]
            omega
          | false =>
            have : tt < Z := by
              have := of_decide_eq_false ebt.symm
              omega
            rw [if_neg (by decide), ← eZ]
            exact this
        · rw [bs]
          cases bt with
          | true =>
            have : Z ≤ tt := by
              have := of_decide_eq_true ebt.symm
              omega
            rw [if_pos rfl, if_pos rfl]
            omega
          | false =>
            rw [if_neg (by decide), if_neg (by decide)]
            omega
      · obtain ⟨rfl, tt, cc, ff, qq, u1, u2, u3, rfl, S, hcc, htt, hsum⟩ := h
        rw [Int.toNat_natCast] at S hcc hsum
        have hl := S.last
        rw [Nat.sub_self, Nat.pow_zero] at hsum
        simp only [Nat.div_one] at hsum
        exact ⟨_, rfl, kk t cc rfl ht hcc (by omega) (by omega)⟩
    · refine if_t (by show (!amongV v 0 ((j : Int) - (i : Int) - 1)) = true; rw [bad_false c]; rfl) ?_
      exact kT (bad_false c)
def spHPlace (K : PySem.W.Frag) (C D X Y : Addr) : Sp := fun vs H Q E => ∃ (p : Addr) (w : Nat) (ns : List Nat) (v u : V) (n m : String), vs = [.ref p, v, u] ∧ HRow C D H p w ns ∧ TyN K H v n ∧ TyN K H u m ∧
  (amongV v 0 (topN w) = false → E (.ref X) none H) ∧ (∀ k : Nat, v = nV k → k < 2 ^ w →
    (amongV u 0 ((ns.count k : Int) - 1) = false → ∀ H', Same H H' → E (.ref Y) none H') ∧
    (∀ t r : Nat, u = nV t → t < ns.count k → ns[r]? = some k → (ns.take r).count k = t → ∀ H', Same H H' → Q (nV r) H'))
set_option maxHeartbeats 2000000 in
theorem ok_H_place_of (T : Tx K mg A) : FnOk P w K mg base (L2.CX P w) 8 A.H_place_of A.H_place_of_d ["self", "value", "turn"] (spHPlace K A.cB A.cH A.xNoNumber A.xNoPlace) := by
  refine T.H_place_of.F.okX sc_H_place_of (fun vs H Q E h => ?_) (fun cdv Ar outer s H vs Q E hr h => ?_)
  · obtain ⟨p, w, ns, v, u, n, m, rfl, _⟩ := h
    rfl
  · obtain ⟨p, w, ns, v, u, n, m, rfl, R0, hv, hu, kE, kQ⟩ := h
    obtain ⟨a, R⟩ := id R0
    obtain ⟨dx, hp⟩ := R.ob
    have w64 := R.w64
    refine ⟨_, (pss_cons (ps_expr (pe_meth (pv 0) T.clH T.H_need_number.m (ok_H_need_number T) (hr.mono (by decide)) T.H_need_number.b .nil (passes_call (takes_of rfl rfl rfl rfl) (fun _ _ _ _ h => h)) (pa_cons (pv 1) pa_nil)))
      (pss_cons (ps_asg (pe_meth (E := E0) (pv 0) T.clH T.H_stretch_of.m (ok_H_stretch_of T) (hr.mono (by decide)) T.H_stretch_of.b .nil pass0 (pa_cons (pv 1) (pa_cons pe_int (pa_cons (pe_fld (pv 0) rfl) pa_nil)))) (pg_tup (by rfl) (pgs_cons (pg_name (i := 3) sc_H_place_of.nd rfl (by first | exact Or.inl rfl | exact Or.inr rfl)) (pgs_cons (pg_name (i := 4) sc_H_place_of.nd rfl (by first | exact Or.inl rfl | exact Or.inr rfl)) pgs_nil))))
      (pss_cons (ps_if (pt_not (pt_val (pe_call (E := E0) (ok_is_among T) (hr.mono (by decide)) rfl T.is_among.g T.is_among.F.kp T.is_among.b .nil pass0 (pa_cons (pv 2) (pa_cons pe_int (pa_cons (pe_op op_sub (pe_op op_sub (pv 4) (pv 3)) pe_int) pa_nil)))))) (pss_one (ps_raise rfl (takes_of rfl rfl rfl rfl) (pmk_own PySem.F.excBase_ValueError T.xNoPlace.x T.xNoPlace.g T.xNoPlace.k (raises_own T.xNoPlace.b T.xNoPlace.t) rfl))) pss_nil)
      (PSs.nox (pss_cons (ps_set (i := 5) sc_H_place_of.nd rfl (by first | exact Or.inl rfl | exact Or.inr rfl) (pe_op op_add (pv 3) (pv 2)))
      (pss_cons (ps_for PassesOwn.never rfl (pi_revR (by rfl) T.b_reversed (prg_1 (by rfl) T.b_range (pe_fld (pv 0) rfl))) (pg_name (i := 6) sc_H_place_of.nd rfl (by first | exact Or.inl rfl | exact Or.inr rfl)) (pss_cons (ps_set (i := 7) sc_H_place_of.nd rfl (by first | exact Or.inl rfl | exact Or.inr rfl) (pe_ix ix_list (pe_fld (pv 0) rfl) (pv 6) (fun _ _ => rfl)))
      (pss_cons (ps_set (i := 8) sc_H_place_of.nd rfl (by first | exact Or.inl rfl | exact Or.inr rfl) (pe_meth (E := E0) (pv 0) T.clH T.H_bit_of.m (ok_H_bit_of T) (hr.mono (by decide)) T.H_bit_of.b .nil pass0 (pa_cons (pv 1) (pa_cons (pv 6) pa_nil))))
      (pss_cons (ps_if (pt_cmpR op_eq (pv 8) pe_int (nomark _)) (pss_one (ps_set (i := 5) sc_H_place_of.nd rfl (by first | exact Or.inl rfl | exact Or.inr rfl) (pe_op op_sub (pv 5) (pe_meth (E := E0) (pv 7) T.clB T.B_noughts.m (ok_B_noughts T) (hr.mono (by decide)) T.B_noughts.b .nil passL (pa_cons (pe_fld (pv 0) rfl) pa_nil))))) pss_nil)
      (pss_one (ps_set (i := 5) sc_H_place_of.nd rfl (by first | exact Or.inl rfl | exact Or.inr rfl) (pe_meth (E := E0) (pv 7) T.clB T.B_place_of.m (ok_B_place_of T) (hr.mono (by decide)) T.B_place_of.b .nil passL (pa_cons (pv 8) (pa_cons (pv 5) pa_nil)))))))))
      (pss_one (ps_ret (pv 5))))))))), ?_⟩
    refine ⟨_, rfl, p, dx, _, rfl, hp, hrf_no _ _ _ (by decide +kernel) (by decide +kernel) (by decide +kernel), _, rfl, p, w, ns, v, n, rfl, R0, hv, kE, fun k ek hk => ?_⟩
    obtain ⟨kF, kS⟩ := kQ k ek hk
    subst ek
    refine ⟨_, rfl, p, dx, _, rfl, hp, hrf_no _ _ _ (by decide +kernel) (by decide +kernel) (by decide +kernel), _, rfl, _, rfl, p, A.cH, dx, _, _, rfl, hp, T.clH, T.nH_size, hrf_size _ _ _, p, w, ns, k, 0, ns.length, rfl, R0, Nat.zero_le _, Nat.le_refl _, fun t0 H1 s1 _ ht0 => ?_⟩
    refine ⟨t0, _, rfl, SqT.of ht0, rfl, _, _, rfl, _, _, rfl, rfl, ?_⟩
    have S := SL_pos (f := 0) (q := ns.length) R.lt hk (Nat.zero_le _) (Nat.le_refl _)
    have hsl : slice ns 0 ns.length = ns := by
      unfold slice
      rw [List.take_length, List.drop_zero]
    have Sw := S w (Nat.le_refl _)
    rw [Nat.sub_self, Nat.pow_zero, Nat.div_one] at Sw
    have hl := Sw.last
    have hle := Sw.le
    rw [hsl] at hl
    have ec : ((pos w ns k w ns.length : Nat) : Int) - ((pos w ns k w 0 : Nat) : Int) - 1 = (ns.count k : Int) - 1 := by omega
    have R1 := R0.same s1
    have hp1 := s1 _ _ hp
    refine ⟨_, rfl, _, rfl, _, rfl, _, _, rfl, rfl, _, _, rfl, rfl, u, m, 0, _, rfl, hu.same s1, _, rfl, ?_⟩
    dsimp only
    rw [ec]
    by_cases c : amongV u 0 ((ns.count k : Int) - 1) = true
    · refine if_f (by show (!amongV u 0 ((ns.count k : Int) - 1)) = false; rw [c]; rfl) ?_
      obtain ⟨t, rfl, ht⟩ := among_lt c
      refine ⟨_, rfl, _, rfl, _, _, rfl, rfl, ?_⟩
      refine ⟨_, rfl, p, A.cH, dx, _, _, rfl, hp1, T.clH, T.nH_wide, hrf_wide _ _ _, _, rfl, by decide, by decide, by omega, by omega, ?_⟩
      refine for_rangeC (lo := 0 + (((((w : Nat) : Int) - 0).toNat : Nat) : Int) - 1) (c := -1) (n := (((w : Nat) : Int) - 0).toNat) (fun y σ H' => H' = H1 ∧ ∃ (pl : Nat) (u3 u4 u6 u7 u8 : Option V), σ = [some (.ref p), some (nV k), some (nV t), u3, u4, some (nV pl), u6, u7, u8] ∧ At w ns k t (w - y) (pos w ns k (w - y) 0) (pos w ns k (w - y) ns.length) pl)
        ⟨rfl, pos w ns k w 0 + t, some (nV (pos w ns k w 0)), some (nV (pos w ns k w ns.length)), none, none, none, rfl, by rw [Nat.sub_zero]; exact At.last Sw (by omega)⟩ (fun y σ H' hy h => ?_) (fun σ H' h => ?_)
      · obtain ⟨rfl, pl, u3, u4, u6, u7, u8, rfl, hA⟩ := h
        have hy : y < w := by omega
        have e0 : 0 + (((((w : Nat) : Int) - 0).toNat : Nat) : Int) - 1 + ((y : Nat) : Int) * (-1) = ((w - (y + 1) : Nat) : Int) := by omega
        rw [e0]
        obtain ⟨l, el⟩ : ∃ l, l = w - (y + 1) := ⟨_, rfl⟩
        have hl1 : w - y = l + 1 := by omega
        have hlw : l < w := by omega
        rw [← el]
        rw [hl1] at hA
        have hA' : At w ns k t (l + 1) (led (row w ns l) (pos w ns k l 0) (tb k (w - 1 - l))) (led (row w ns l) (pos w ns k l ns.length) (tb k (w - 1 - l))) pl := hA
        obtain ⟨g1, g2, g3⟩ := At.up (S l (by omega)).le (S l (by omega)).in_ hA'
        obtain ⟨xs, r, hq, hx, B⟩ := (R.same s1).at hlw
        obtain ⟨pa, pb, Rb⟩ := id B
        obtain ⟨dr, hr1⟩ := Rb.ob
        have hrl : (row w ns l).length = ns.length := row_len w ns l
        have hcl := List.count_le_length (a := tb k (w - 1 - l)) (l := row w ns l)
        refine ⟨_, rfl, p, A.cH, dx, _, _, rfl, hp1, T.clH, T.nH_halves, hrf_halves _ _ _, _, rfl, a, _, _, .ref r, rfl, rfl, SqL.of hq, at_of (j := l) rfl hx, ?_⟩
        refine ⟨_, rfl, p, dx, _, rfl, hp1, hrf_no _ _ _ (by decide +kernel) (by decide +kernel) (by decide +kernel), _, rfl, _, rfl, p, w, ns, k, l, rfl, R1, hlw, ?_⟩
        obtain ⟨bt, ebt⟩ : ∃ bt, bt = tb k (w - 1 - l) := ⟨_, rfl⟩
        rw [← ebt] at g1 g2 g3 hcl ⊢
        refine ⟨_, rfl, rfl, _, rfl, ?_⟩
        cases bt with
        | true =>
          refine if_t (by rfl) ?_
          simp only [if_true] at g1 g2 g3
          refine ⟨_, rfl, _, rfl, r, dr, _, rfl, hr1, brf_no _ _ _ (by decide +kernel) (by decide +kernel) (by decide +kernel), _, rfl, p, A.cH, dx, _, _, rfl, hp1, T.clH, T.nH_size, hrf_size _ _ _, r, _, _, "int", rfl, B, TyN.int _, not_false (nat_among (by omega)), fun i ei hi => ⟨_, _, rfl, rfl, ?_⟩⟩
          have ei := nV_inj (i := ns.length) ei
          subst ei
          have e1 : ns.length - cnt ((row w ns l).take ns.length) = (row w ns l).count false := by
            have h1 := cb_all false (row w ns l)
            rw [cb_false _ (Nat.le_refl _), hrl] at h1
            exact h1
          have e2 : V.int ((pl : Int) - ((ns.length - cnt ((row w ns l).take ns.length) : Nat) : Int)) = nV (pl - (row w ns l).count false) := by
            rw [e1]
            unfold nV
            congr 1
            omega
          dsimp only
          rw [e2]
          refine ⟨_, rfl, r, dr, _, rfl, hr1, brf_no _ _ _ (by decide +kernel) (by decide +kernel) (by decide +kernel), _, rfl, _, rfl, r, _, _, _, "int", "int", rfl, B, TyN.int ((true.toNat : Nat) : Int), TyN.int _, ?_, fun b' t' eb et htl => ⟨fun z => ?_, fun r' z1 z2 => ?_⟩⟩
          · rintro (z | z)
            · exact absurd z (by decide)
            · rw [lt_among (by omega)] at z
              cases z
          · have eb : true = b' := bV_inj eb
            have et := nV_inj et
            subst eb et
            omega
          · have eb : true = b' := bV_inj eb
            have et := nV_inj et
            subst eb et
            exact ⟨rfl, r', _, _, _, _, _, rfl, g3 r' z1 z2⟩
        | false =>
          refine if_f (by rfl) ?_
          simp only [Bool.false_eq_true, if_false, Nat.sub_zero] at g1 g2 g3
          refine ⟨_, rfl, r, dr, _, rfl, hr1, brf_no _ _ _ (by decide +kernel) (by decide +kernel) (by decide +kernel), _, rfl, _, rfl, r, _, _, _, "int", "int", rfl, B, TyN.int ((false.toNat : Nat) : Int), TyN.int _, ?_, fun b' t' eb et htl => ⟨fun z => ?_, fun r' z1 z2 => ?_⟩⟩
          · rintro (z | z)
            · exact absurd z (by decide)
            · rw [lt_among (by omega)] at z
              cases z
          · have eb : false = b' := bV_inj eb
            have et := nV_inj et
            subst eb et
            omega
          · have eb : false = b' := bV_inj eb
            have et := nV_inj et
            subst eb et
            exact ⟨rfl, r', _, _, _, _, _, rfl, g3 r' z1 z2⟩
      · obtain ⟨rfl, pl, u3, u4, u6, u7, u8, rfl, hA⟩ := h
        have ey : w - (((w : Nat) : Int) - 0).toNat = 0 := by omega
        rw [ey] at hA
        obtain ⟨z1, z2⟩ := At.top hA
        exact ⟨_, rfl, kS t pl rfl ht z1 z2 H' s1⟩
    · refine if_t (by show (!amongV u 0 ((ns.count k : Int) - 1)) = true; rw [bad_false c]; rfl) ?_
      exact kF (bad_false c) H1 s1

/-! ### which stands most often -/
theorem ne_nil {K : PySem.W.Frag} {H : Hp} {x : V} {q : Addr} {n : Nat} {ds : List PyData} {Q : VK} (l : Ly n (.list ds)) (hn : n ≤ 64) (h1 : Dp K H x (.list ds)) (hq : SqL K H q []) (k : Q (.bl (!ds.isEmpty)) H) : rNeD K x (.ref q) H Q := by
  refine ⟨.list ds, .list [], h1, .lst hq .nil, l.shaped hn, (Ly.list (n := 0) (ds := []) (fun d h => by simp at h)).shaped (by decide), ?_⟩
  cases ds with
  | nil => exact k
  | cons d ds =>
    rw [PyData.eqv, PyData.eqvAll]
    exact k
theorem dp_app {K : PySem.W.Frag} {H : Hp} : ∀ {xs ys : List V} {ds es : List PyData}, DpAll K H xs ds → DpAll K H ys es → DpAll K H (xs ++ ys) (ds ++ es)
  | [], _, _, _, .nil, h => h
  | _ :: _, _, _, _, .cons a b, h => .cons a (dp_app b h)
abbrev Ent := Nat × Nat × Nat × Nat
def entV (e : Ent) : List V := [nV e.1, nV e.2.1, nV e.2.2.1, nV e.2.2.2]
def entD (e : Ent) : PyData := .tuple [.int (e.1 : Int), .int (e.2.1 : Int), .int (e.2.2.1 : Int), .int (e.2.2.2 : Int)]
theorem entD_ly (e : Ent) : Ly 1 (entD e) := Ly.tup fun d hd => by
  simp only [List.mem_cons, List.not_mem_nil, or_false] at hd
  rcases hd with rfl | rfl | rfl | rfl <;> exact Ly.int _
/-- what waits, the next one first -/
def Stk (H : Hp) : List Addr → List Ent → Prop
  | [], [] => True
  | t :: ts, e :: es => H t = some (.tup (entV e)) ∧ Stk H ts es
  | _, _ => False
theorem Stk.same {H H' : Hp} (s : ∀ t vs, H t = some (.tup vs) → H' t = some (.tup vs)) : ∀ {ts : List Addr} {es : List Ent}, Stk H ts es → Stk H' ts es
  | [], [], _ => trivial
  | _ :: _, _ :: _, h => ⟨s _ _ h.1, Stk.same s h.2⟩
  | [], _ :: _, h => h.elim
  | _ :: _, [], h => h.elim
theorem Stk.len {H : Hp} : ∀ {ts : List Addr} {es : List Ent}, Stk H ts es → ts.length = es.length
  | [], [], _ => rfl
  | _ :: _, _ :: _, h => by rw [List.length_cons, List.length_cons, Stk.len h.2]
  | [], _ :: _, h => h.elim
  | _ :: _, [], h => h.elim
theorem Stk.dp {K : PySem.W.Frag} {H : Hp} : ∀ {ts : List Addr} {es : List Ent}, Stk H ts es → DpAll K H (ts.map V.ref).reverse (es.map entD).reverse
  | [], [], _ => .nil
  | _ :: _, e :: _, h => by
    rw [List.map_cons, List.map_cons, List.reverse_cons, List.reverse_cons]
    exact dp_app (Stk.dp h.2) (.cons (.tup (SqT.of h.1) (.cons (.int _) (.cons (.int _) (.cons (.int _) (.cons (.int _) .nil))))) .nil)
  | [], _ :: _, h => h.elim
  | _ :: _, [], h => h.elim
def Chain (w : Nat) (ns S : List Nat) : List Ent → Nat → Prop
  | [], lo => lo = 2 ^ w
  | (c, l, f, q) :: es, lo => lo = c * 2 ^ (w - l) ∧ l ≤ w ∧ es.length ≤ l ∧ c < 2 ^ l ∧ SL w ns S l c f q ∧ Chain w ns S es ((c + 1) * 2 ^ (w - l))
def weight (w : Nat) : List Ent → Nat
  | [] => 0
  | (_, l, _, _) :: es => (2 ^ (w - l + 1) - 1) + weight w es
theorem tup_upd {H : Hp} {W : Addr} {xs ys : List V} (h : H W = some (.lst xs)) : ∀ t vs, H t = some (.tup vs) → upd H W (.lst ys) t = some (.tup vs) := fun t vs e => by
  rw [upd_ne (ne_of e h (by intro z; cases z))]
  exact e
def spOften (K : PySem.W.Frag) (C D Y : Addr) : Sp := fun vs H Q E => ∃ (p : Addr) (w : Nat) (ns : List Nat) (f b : V) (n m : String), vs = [.ref p, f, b] ∧ HRow C D H p w ns ∧ TyN K H f n ∧ TyN K H b m ∧
  strArgs Y ns f b H E fun i j => (i = j → E (.ref Y) none H) ∧ (i < j → ∀ (u m : Nat) (t : Addr) (H' : Hp), Often (slice ns i j) u m → Same H H' → H' t = some (.tup [nV u, nV m]) → Q (.ref t) H')
set_option maxHeartbeats 4000000 in
theorem ok_H_often (T : Tx K mg A) : FnOk P w K mg base (L2.CX P w) 7 A.H_often A.H_often_d ["self", "first", "behind"] (spOften K A.cB A.cH A.xNoPlace) := by
  refine T.H_often.F.okX sc_H_often (fun vs H Q E h => ?_) (fun cdv Ar outer s H vs Q E hr h => ?_)
  · obtain ⟨p, w, ns, f, b, n, m, rfl, _⟩ := h
    rfl
  · obtain ⟨p, w, ns, f, b, n, m, rfl, R0, hf, hb, kF, kS⟩ := h
    have hu := hu_of hr
    obtain ⟨a, R⟩ := id R0
    obtain ⟨dx, hp⟩ := R.ob
    have w64 := R.w64
    refine ⟨_, (pss_cons (ps_expr (pe_meth (pv 0) T.clH T.H_need_stretch.m (ok_H_need_stretch T) (hr.mono (by decide)) T.H_need_stretch.b .nil (passes_call (takes_of rfl rfl rfl rfl) (fun _ _ _ _ h => h)) (pa_cons (pv 1) (pa_cons (pv 2) pa_nil))))
      (pss_cons (ps_if (pt_cmpR op_eq (pv 1) (pv 2) (nomark _)) (pss_one (ps_raise rfl (takes_of rfl rfl rfl rfl) (pmk_own PySem.F.excBase_ValueError T.xNoPlace.x T.xNoPlace.g T.xNoPlace.k (raises_own T.xNoPlace.b T.xNoPlace.t) rfl))) pss_nil)
      (PSs.nox (pss_cons (ps_set (i := 3) sc_H_often.nd rfl (by first | exact Or.inl rfl | exact Or.inr rfl) (pe_tup (pa_cons pe_int (pa_cons pe_int pa_nil))))
      (pss_cons (ps_set (i := 4) sc_H_often.nd rfl (by first | exact Or.inl rfl | exact Or.inr rfl) (pe_lst (pa_cons (pe_tup (pa_cons pe_int (pa_cons pe_int (pa_cons (pv 1) (pa_cons (pv 2) pa_nil))))) pa_nil)))
      (pss_cons (ps_while PassesOwn.never (pt_cmpR (op_neD (hr.units)) (pv 4) (pe_lst pa_nil) (nomark _)) (pss_cons (ps_asg (pe_bm0 PySem.F.plainAttrs_list PySem.F.slot_list_pop PySem.F.type_list_pop mt_pop (pv 4)) (pg_tup (by rfl) (pgs_cons (pg_name (i := 5) sc_H_often.nd rfl (by first | exact Or.inl rfl | exact Or.inr rfl)) (pgs_cons (pg_name (i := 6) sc_H_often.nd rfl (by first | exact Or.inl rfl | exact Or.inr rfl)) (pgs_cons (pg_name (i := 1) sc_H_often.nd rfl (by first | exact Or.inl rfl | exact Or.inr rfl)) (pgs_cons (pg_name (i := 2) sc_H_often.nd rfl (by first | exact Or.inl rfl | exact Or.inr rfl)) pgs_nil))))))
      (pss_cons (ps_if (pt_cmpR op_le (pe_op op_sub (pv 2) (pv 1)) (pe_ix ix_tup (pv 3) pe_int (fun _ _ => rfl)) (nomark _)) (pss_one ps_continue) pss_nil)
      (pss_cons (ps_if (pt_cmpR op_eq (pv 6) (pe_fld (pv 0) rfl) (nomark _)) (pss_cons (ps_set (i := 3) sc_H_often.nd rfl (by first | exact Or.inl rfl | exact Or.inr rfl) (pe_tup (pa_cons (pv 5) (pa_cons (pe_op op_sub (pv 2) (pv 1)) pa_nil))))
      (pss_one ps_continue)) pss_nil)
      (pss_one (ps_for PassesOwn.never rfl (pi_tup (pe_tup (pa_cons pe_int (pa_cons pe_int pa_nil)))) (pg_name (i := 7) sc_H_often.nd rfl (by first | exact Or.inl rfl | exact Or.inr rfl)) (pss_cons (ps_set (i := 8) sc_H_often.nd rfl (by first | exact Or.inl rfl | exact Or.inr rfl) (pe_meth (E := E0) (pv 0) T.clH T.H_led.m (ok_H_led T) (hr.mono (by decide)) T.H_led.b .nil pass0 (pa_cons (pv 6) (pa_cons (pv 1) (pa_cons (pv 7) pa_nil)))))
      (pss_one (ps_expr (pe_bm PySem.F.plainAttrs_list PySem.F.slot_list_append PySem.F.type_list_append mt_append (pv 4) (pa_cons (pe_tup (pa_cons (pe_op op_or (pe_op op_shl (pv 5) pe_int) (pv 7)) (pa_cons (pe_op op_add (pv 6) pe_int) (pa_cons (pv 8) (pa_cons (pe_meth (E := E0) (pv 0) T.clH T.H_led.m (ok_H_led T) (hr.mono (by decide)) T.H_led.b .nil pass0 (pa_cons (pv 6) (pa_cons (pv 2) (pa_cons (pv 7) pa_nil)))) pa_nil))))) pa_nil)))))))))))
      (pss_one (ps_ret (pv 3))))))))), ?_⟩
    refine ⟨_, rfl, p, dx, _, rfl, hp, hrf_no _ _ _ (by decide +kernel) (by decide +kernel) (by decide +kernel), _, rfl, _, rfl, p, w, ns, f, b, n, m, rfl, R0, hf, hb, kF, fun i ei hi => ?_⟩
    obtain ⟨k1, k2⟩ := kS i ei hi
    subst ei
    refine ⟨k1, fun j ej hij hj => ?_⟩
    obtain ⟨kT, kk⟩ := k2 j ej hij hj
    subst ej
    refine ⟨_, rfl, _, rfl, rfl, _, rfl, ?_⟩
    refine ite2 (fun c => ?_) (fun c => ?_)
    · have c : i = j := nV_inj (of_decide_eq_true c)
      exact kT c
    · have hne : i < j := by
        have : ¬ i = j := fun z => c (decide_eq_true (by rw [z]))
        omega
      have kQ := kk hne
      clear c kk kT k1 k2
      obtain ⟨S, eS⟩ : ∃ S, S = slice ns i j := ⟨_, rfl⟩
      rw [← eS] at kQ
      have hSne : S ≠ [] := by
        intro z
        have := slice_len (L := ns) (f := i) (q := j) hj
        rw [← eS, z] at this
        simp at this
        omega
      have hSlt : ∀ n ∈ S, n < 2 ^ w := fun n hn => R.lt n (by
        rw [eS] at hn
        exact List.mem_of_mem_take (List.mem_of_mem_drop hn))
      have SL0 : SL w ns S 0 0 i j := by rw [eS]; exact SL.start R.lt hij hj
      -- best, waiting
      refine ⟨(by show 2 ≤ sizeLine; decide), fun b0 hb0 => ?_⟩
      refine ⟨_, rfl, _, rfl, (by show 4 ≤ sizeLine; decide), fun t0 ht0 => ⟨(by show 1 ≤ sizeLine; decide), fun W hW => ?_⟩⟩
      have sA := same_new (same_new (same_new (Same.refl H) (o := .tup [.int 0, .int 0]) hb0) (o := .tup [.int 0, .int 0, nV i, nV j]) ht0) (o := .lst [.ref t0]) hW
      have nbt : b0 ≠ t0 := ne_of_none upd_same ht0
      have nbW : b0 ≠ W := ne_of_none (show (upd (upd H b0 (.tup [.int 0, .int 0])) t0 (.tup [.int 0, .int 0, nV i, nV j])) b0 = some (.tup [.int 0, .int 0]) by rw [upd_ne nbt]; exact upd_same) hW
      have ntW : t0 ≠ W := ne_of_none upd_same hW
      have hW0 : H W = none := by rw [upd_ne ntW.symm, upd_ne nbW.symm] at hW; exact hW
      refine ⟨fun k σ H' => ∃ (ts : List Addr) (es : List Ent) (lo bv bc : Nat) (bt : Addr) (u1 u2 u5 u6 u7 u8 : Option V), σ = [some (.ref p), u1, u2, some (.ref bt), some (.ref W), u5, u6, u7, u8] ∧ k = weight w es ∧ Same H H' ∧ H' W = some (.lst (ts.map V.ref).reverse) ∧ Stk H' ts es ∧ Chain w ns S es lo ∧ Best S lo bv bc ∧ H' bt = some (.tup [nV bv, nV bc]),
        ⟨_, [t0], [(0, 0, i, j)], 0, 0, 0, b0, _, _, _, _, _, _, rfl, rfl, sA, upd_same, ⟨by rw [upd_ne ntW]; exact upd_same, trivial⟩, ⟨by simp, Nat.zero_le _, Nat.le_refl _, by decide, SL0, by show (0 + 1) * 2 ^ (w - 0) = 2 ^ w; simp⟩, Best.nil S, by rw [upd_ne nbW, upd_ne nbt]; exact upd_same⟩, ?_⟩
      rintro k σ H' ⟨ts, es, lo, bv, bc, bt, u1, u2, u5, u6, u7, u8, rfl, rfl, s1, hW1, hst, hch, hbest, hbt⟩
      refine ⟨_, rfl, Nat.zero_le _, fun e he => ?_⟩
      have s2 := same_new (Same.refl H') (o := .lst []) he
      have hW2 := s2 _ _ hW1
      have hst2 := hst.same (H' := upd H' e (.lst [])) fun t vs h => s2 _ _ h
      refine ne_nil (n := 2) (Ly.list fun d hd => by
        obtain ⟨x, _, rfl⟩ := List.mem_map.mp (List.mem_reverse.mp hd)
        exact entD_ly x) (by decide) (.lst (SqL.of hW2) hst2.dp) (SqL.of upd_same) ⟨_, rfl, ?_⟩
      have hbt2 := s2 _ _ hbt
      have s12 := s1.trans s2
      generalize upd H' e (.lst []) = H2 at s2 hW2 hst2 hbt2 s12 ⊢
      clear hst hW1 hbt s1 s2 he
      cases es with
      | nil =>
        refine if_f (by simp) ?_
        have elo : lo = 2 ^ w := hch
        subst elo
        exact ⟨_, rfl, kQ bv bc bt H2 (hbest.often hSlt hSne) s12 hbt2⟩
      | cons e0 es =>
        obtain ⟨c, l, ff, qq⟩ := e0
        cases ts with
        | nil => exact hst2.elim
        | cons t ts =>
        obtain ⟨ht, hst3⟩ := hst2
        obtain ⟨elo, hlw, hel, hcl, SLc, hch2⟩ := hch
        refine if_t (by simp) ?_
        refine ⟨fun σ2 H3 => ∃ k', k' < weight w ((c, l, ff, qq) :: es) ∧ ∃ (ts : List Addr) (es : List Ent) (lo bv bc : Nat) (bt : Addr) (u1 u2 u5 u6 u7 u8 : Option V), σ2 = [some (.ref p), u1, u2, some (.ref bt), some (.ref W), u5, u6, u7, u8] ∧ k' = weight w es ∧ Same H H3 ∧ H3 W = some (.lst (ts.map V.ref).reverse) ∧ Stk H3 ts es ∧ Chain w ns S es lo ∧ Best S lo bv bc ∧ H3 bt = some (.tup [nV bv, nV bc]), fun _ _ z => z, ?_⟩
        have erv : ((t :: ts).map V.ref).reverse = (ts.map V.ref).reverse ++ [.ref t] := by rw [List.map_cons, List.reverse_cons]
        -- value, level, first, behind = waiting.pop()
        refine ⟨_, rfl, .inl ⟨rfl, _, SqL.of hW2⟩, W, _, .ref t, rfl, rfl, hW2, by rw [erv, List.length_append, List.length_singleton, Nat.add_sub_cancel, List.getElem?_append_right (Nat.le_refl _), Nat.sub_self]; rfl, ?_⟩
        have edl : (((t :: ts).map V.ref).reverse).dropLast = (ts.map V.ref).reverse := by rw [erv, List.dropLast_concat]
        have ntW2 : t ≠ W := ne_of ht hW2 (by intro z; cases z)
        have hH3t : upd H2 W (.lst (((t :: ts).map V.ref).reverse).dropLast) t = some (.tup (entV (c, l, ff, qq))) := by rw [upd_ne ntW2]; exact ht
        have hH3W : upd H2 W (.lst (((t :: ts).map V.ref).reverse).dropLast) W = some (.lst (ts.map V.ref).reverse) := by rw [upd_same, edl]
        have hH3s := hst3.same (tup_upd (ys := (((t :: ts).map V.ref).reverse).dropLast) hW2)
        have hH3b := tup_upd (ys := (((t :: ts).map V.ref).reverse).dropLast) hW2 _ _ hbt2
        have s3 : Same H (upd H2 W (.lst (((t :: ts).map V.ref).reverse).dropLast)) := same_mut s12 hW0
        generalize upd H2 W (.lst (((t :: ts).map V.ref).reverse).dropLast) = H3 at hH3t hH3W hH3s hH3b s3 ⊢
        refine ⟨t, _, rfl, SqT.of hH3t, rfl, _, _, rfl, _, _, rfl, _, _, rfl, _, _, rfl, rfl, ?_⟩
        have hle := SLc.le
        have hsz := SLc.size
        have hw1 : weight w es < weight w ((c, l, ff, qq) :: es) := by
          have : 0 < 2 ^ (w - l) := Nat.two_pow_pos _
          show weight w es < (2 ^ (w - l + 1) - 1) + weight w es
          rw [Nat.pow_succ]
          omega
        -- if behind - first <= best[1]
        refine ⟨_, rfl, _, rfl, _, _, rfl, rfl, _, rfl, bt, _, _, nV bc, rfl, rfl, SqT.of hH3b, at_of (j := 1) rfl rfl, _, _, rfl, rfl, _, rfl, ?_⟩
        refine ite2 (fun c1 => ?_) (fun c1 => ?_)
        · have c1 : qq - ff ≤ bc := by
            have z : (qq : Int) - (ff : Int) ≤ (bc : Int) := of_decide_eq_true c1
            omega
          subst elo
          exact ⟨_, hw1, ts, es, _, bv, bc, bt, _, _, _, _, _, _, rfl, rfl, s3, hH3W, hH3s, hch2, hbest.skip (by omega), hH3b⟩
        · have c1 : bc < qq - ff := by
            have z : ¬ (qq : Int) - (ff : Int) ≤ (bc : Int) := fun z => c1 (decide_eq_true z)
            omega
          have hp3 := s3 _ _ hp
          -- if level == self.wide
          refine ⟨_, rfl, _, rfl, p, A.cH, dx, _, _, rfl, hp3, T.clH, T.nH_wide, hrf_wide _ _ _, rfl, _, rfl, ?_⟩
          refine ite2 (fun c2 => ?_) (fun c2 => ?_)
          · have c2 : l = w := nV_inj (j := w) (of_decide_eq_true c2)
            subst c2
            have hlast := SLc.last
            subst elo
            rw [Nat.sub_self, Nat.pow_zero, Nat.mul_one] at hbest hch2
            refine ⟨_, rfl, _, rfl, _, rfl, _, _, rfl, rfl, (by show 2 ≤ sizeLine; decide), fun b2 hb2 => ?_⟩
            have s4 := same_new (Same.refl H3) (o := .tup [nV c, .int ((qq : Int) - (ff : Int))]) hb2
            have hb := hbest.take (by omega)
            refine ⟨_, hw1, ts, es, _, c, S.count c, b2, _, _, _, _, _, _, rfl, rfl, s3.trans s4, s4 _ _ hH3W, hH3s.same fun t vs h => s4 _ _ h, hch2, hb, ?_⟩
            rw [upd_same]
            have e : V.int ((qq : Int) - (ff : Int)) = nV (S.count c) := by
              unfold nV
              congr 1
              omega
            exact congrArg (fun z => some (HO.tup [nV c, z])) e
          · have hlw2 : l < w := by
              have : ¬ l = w := fun z => c2 (decide_eq_true (by rw [z]; rfl))
              omega
            have hqin := SLc.in_
            have hfin : ff ≤ ns.length := Nat.le_trans hle hqin
            have c64 : c < 2 ^ 64 := Nat.lt_of_lt_of_le hcl (Nat.pow_le_pow_right (by decide) (by omega))
            -- for bit in (1, 0)
            refine ⟨(by show 2 ≤ sizeLine; decide), fun t4 ht4 => ?_⟩
            have s4 := same_new (Same.refl H3) (o := .tup [.int 1, .int 0]) ht4
            have tuE : Nat → List Ent := fun i => []
            refine ⟨t4, rfl, ⟨_, SqT.of upd_same⟩, for_tup (xs := [bV true, bV false]) (fun i σ H4 => ∃ (ts' : List Addr) (u7 u8 : Option V), σ = [some (.ref p), some (nV ff), some (nV qq), some (.ref bt), some (.ref W), some (nV c), some (nV l), u7, u8] ∧ Same H H4 ∧ H4 t4 = some (.tup [bV true, bV false]) ∧ H4 W = some (.lst (ts'.map V.ref).reverse) ∧
                Stk H4 ts' (match i with | 0 => es | 1 => (2 * c + true.toNat, l + 1, led (row w ns l) ff true, led (row w ns l) qq true) :: es | _ => (2 * c + false.toNat, l + 1, led (row w ns l) ff false, led (row w ns l) qq false) :: (2 * c + true.toNat, l + 1, led (row w ns l) ff true, led (row w ns l) qq true) :: es) ∧ H4 bt = some (.tup [nV bv, nV bc]))
              ⟨ts, _, _, rfl, s3.trans s4, upd_same, s4 _ _ hH3W, hH3s.same fun t vs h => s4 _ _ h, s4 _ _ hH3b⟩ (fun i σ H4 _ ⟨_, _, _, _, _, h, _⟩ => SqT.of h) (fun i x σ H4 hx h => ?_) (fun σ H4 h => ?_)⟩
            · obtain ⟨ts', u7, u8, rfl, s5, ht5, hW5, hst5, hbt5⟩ := h
              obtain ⟨bit, E0s, ex, ei, hlen0⟩ : ∃ (bit : Bool) (E0s : List Ent), x = bV bit ∧ (Stk H4 ts' E0s ∧ (∀ H5 tt, Stk H5 tt ((2 * c + bit.toNat, l + 1, led (row w ns l) ff bit, led (row w ns l) qq bit) :: E0s) → Stk H5 tt (match i + 1 with | 0 => es | 1 => (2 * c + true.toNat, l + 1, led (row w ns l) ff true, led (row w ns l) qq true) :: es | _ => (2 * c + false.toNat, l + 1, led (row w ns l) ff false, led (row w ns l) qq false) :: (2 * c + true.toNat, l + 1, led (row w ns l) ff true, led (row w ns l) qq true) :: es))) ∧ E0s.length ≤ 66 := by
                match i, hx, hst5 with
                | 0, hx, hst5 => exact ⟨true, es, (Option.some.inj hx).symm, ⟨hst5, fun H5 tt z => z⟩, by omega⟩
                | 1, hx, hst5 => exact ⟨false, _ :: es, (Option.some.inj hx).symm, ⟨hst5, fun H5 tt z => z⟩, by rw [List.length_cons]; omega⟩
                | i + 2, hx, _ => simp at hx
              obtain ⟨hst6, hnext⟩ := ei
              subst ex
              have hp5 := s5 _ _ hp
              have R5 := R0.same s5
              have hl5 := hst6.len
              -- low, append
              refine ⟨_, rfl, p, dx, _, rfl, hp5, hrf_no _ _ _ (by decide +kernel) (by decide +kernel) (by decide +kernel), _, rfl, _, rfl, _, rfl, p, w, ns, l, ff, bit, rfl, R5, hlw2, hfin, ?_⟩
              refine ⟨_, rfl, .inl ⟨rfl, _, SqL.of hW5⟩, _, rfl, _, _, rfl, rfl, ⟨by decide, by decide, (by show (((c : Nat) : Int)).natAbs < 2 ^ 64; rw [Int.natAbs_natCast]; omega)⟩, _, rfl, _, _, rfl, rfl, _, rfl, _, _, rfl, rfl, _, rfl, _, rfl, p, dx, _, rfl, hp5, hrf_no _ _ _ (by decide +kernel) (by decide +kernel) (by decide +kernel), _, rfl, _, rfl, _, rfl, p, w, ns, l, qq, bit, rfl, R5, hlw2, hqin, (by show 4 ≤ sizeLine; decide), fun t6 ht6 => ?_⟩
              have e1 : V.int (Builtin.bitOr ((c : Int) * 2 ^ (1 : Int).toNat) (bit.toNat : Int)) = nV (2 * c + bit.toNat) := by
                rw [dbl_or]
                rfl
              have s6 := same_new (Same.refl H4) (o := .tup [V.int (Builtin.bitOr ((c : Int) * 2 ^ (1 : Int).toNat) (bit.toNat : Int)), V.int ((l : Int) + 1), nV (led (row w ns l) ff bit), nV (led (row w ns l) qq bit)]) ht6
              have h6t : upd H4 t6 (.tup [V.int (Builtin.bitOr ((c : Int) * 2 ^ (1 : Int).toNat) (bit.toNat : Int)), V.int ((l : Int) + 1), nV (led (row w ns l) ff bit), nV (led (row w ns l) qq bit)]) t6 = some (.tup (entV (2 * c + bit.toNat, l + 1, led (row w ns l) ff bit, led (row w ns l) qq bit))) := by
                rw [upd_same, e1]
                rfl
              have hW6 := s6 _ _ hW5
              refine ⟨W, _, _, rfl, rfl, hW6, by rw [List.length_reverse, List.length_map]; exact line5 (by omega), ?_⟩
              have tu := tup_upd (ys := (ts'.map V.ref).reverse ++ [.ref t6]) hW6
              refine ⟨t6 :: ts', some (bV bit), some (nV (led (row w ns l) ff bit)), rfl, same_mut (s5.trans s6) hW0, tu _ _ (s6 _ _ ht5), by rw [upd_same, List.map_cons, List.reverse_cons], hnext _ _ ⟨tu _ _ h6t, hst6.same fun t vs h => tu _ _ (s6 _ _ h)⟩, tu _ _ (s6 _ _ hbt5)⟩
            · obtain ⟨ts', u7, u8, rfl, s5, ht5, hW5, hst5, hbt5⟩ := h
              have hpw : 2 ^ (w - l) = 2 * 2 ^ (w - (l + 1)) := by rw [show w - l = w - (l + 1) + 1 by omega, Nat.pow_succ]; omega
              refine ⟨_, ?_, ts', _, lo, bv, bc, bt, _, _, _, _, _, _, rfl, rfl, s5, hW5, hst5, ⟨?_, by omega, by rw [List.length_cons]; omega, ?_, SLc.step hlw2 false, ⟨?_, by omega, by omega, ?_, SLc.step hlw2 true, ?_⟩⟩, hbest, hbt5⟩
              · show (2 ^ (w - (l + 1) + 1) - 1) + ((2 ^ (w - (l + 1) + 1) - 1) + weight w es) < (2 ^ (w - l + 1) - 1) + weight w es
                have h1 : w - (l + 1) + 1 = w - l := by omega
                have : 0 < 2 ^ (w - l) := Nat.two_pow_pos _
                rw [h1, Nat.pow_succ]
                omega
              · rw [elo, hpw]
                show c * (2 * 2 ^ (w - (l + 1))) = 2 * c * 2 ^ (w - (l + 1))
                rw [Nat.mul_comm 2 c, Nat.mul_assoc]
              · rw [Nat.pow_succ, Bool.toNat_false]
                omega
              · rw [Bool.toNat_false, Bool.toNat_true, Nat.add_zero]
              · rw [Nat.pow_succ, Bool.toNat_true]
                omega
              · rw [Bool.toNat_true, show 2 * c + 1 + 1 = (c + 1) * 2 by omega, Nat.mul_assoc, ← hpw]
                exact hch2

/-! ### a number put -/
/-- the words of a row that are other ones -/
def difAt (w : Nat) (ns ms : List Nat) (l : Nat) (j : Nat) : List (Nat × Nat) := ((List.range j).filter fun a => !decide ((words (row w ms l)).getD a 0 = (words (row w ns l)).getD a 0)).map fun a => (l, a)
def dif (w : Nat) (ns ms : List Nat) (i : Nat) : List (Nat × Nat) := (List.range i).flatMap fun l => difAt w ns ms l (wn ns.length)
theorem dif_step (w : Nat) (ns ms : List Nat) (i : Nat) : dif w ns ms (i + 1) = dif w ns ms i ++ difAt w ns ms i (wn ns.length) := by
  unfold dif
  rw [List.range_succ, List.flatMap_append]
  simp
theorem difAt_step (w : Nat) (ns ms : List Nat) (l j : Nat) : difAt w ns ms l (j + 1) = difAt w ns ms l j ++ (if (words (row w ms l)).getD j 0 = (words (row w ns l)).getD j 0 then [] else [(l, j)]) := by
  unfold difAt
  rw [List.range_succ, List.filter_append, List.map_append]
  congr 1
  by_cases h : (words (row w ms l)).getD j 0 = (words (row w ns l)).getD j 0
  · rw [if_pos h, List.filter_cons_of_neg (by show ¬ (!decide ((words (row w ms l)).getD j 0 = (words (row w ns l)).getD j 0)) = true; rw [decide_eq_true h]; decide)]
    rfl
  · rw [if_neg h, List.filter_cons_of_pos (by show (!decide ((words (row w ms l)).getD j 0 = (words (row w ns l)).getD j 0)) = true; rw [decide_eq_false h]; decide)]
    rfl
theorem difAt_len (w : Nat) (ns ms : List Nat) (l j : Nat) : (difAt w ns ms l j).length ≤ j := by
  unfold difAt
  rw [List.length_map]
  have := List.length_filter_le (fun a => !decide ((words (row w ms l)).getD a 0 = (words (row w ns l)).getD a 0)) (List.range j)
  rw [List.length_range] at this
  exact this
theorem dif_len (w : Nat) (ns ms : List Nat) : ∀ i, (dif w ns ms i).length ≤ i * wn ns.length
  | 0 => Nat.zero_le _
  | i + 1 => by
    rw [dif_step, List.length_append, Nat.add_mul]
    have := dif_len w ns ms i
    have := difAt_len w ns ms i (wn ns.length)
    omega
/-- pairs told, each a tuple of its own -/
def Prs (H : Hp) : List Addr → List (Nat × Nat) → Prop
  | [], [] => True
  | t :: ts, d :: ds => H t = some (.tup [nV d.1, nV d.2]) ∧ Prs H ts ds
  | _, _ => False
theorem Prs.same {H H' : Hp} (s : ∀ t vs, H t = some (.tup vs) → H' t = some (.tup vs)) : ∀ {ts : List Addr} {es : List (Nat × Nat)}, Prs H ts es → Prs H' ts es
  | [], [], _ => trivial
  | _ :: _, _ :: _, h => ⟨s _ _ h.1, Prs.same s h.2⟩
  | [], _ :: _, h => h.elim
  | _ :: _, [], h => h.elim
theorem Prs.len {H : Hp} : ∀ {ts : List Addr} {es : List (Nat × Nat)}, Prs H ts es → ts.length = es.length
  | [], [], _ => rfl
  | _ :: _, _ :: _, h => by rw [List.length_cons, List.length_cons, Prs.len h.2]
  | [], _ :: _, h => h.elim
  | _ :: _, [], h => h.elim
theorem Prs.add {H : Hp} {t : Addr} {d : Nat × Nat} (ht : H t = some (.tup [nV d.1, nV d.2])) : ∀ {ts : List Addr} {es : List (Nat × Nat)}, Prs H ts es → Prs H (ts ++ [t]) (es ++ [d])
  | [], [], _ => ⟨ht, trivial⟩
  | _ :: _, _ :: _, h => ⟨h.1, Prs.add ht h.2⟩
  | [], _ :: _, h => h.elim
  | _ :: _, [], h => h.elim
def prD (d : Nat × Nat) : PyData := .tuple [.int (d.1 : Int), .int (d.2 : Int)]
theorem prD_ly (d : Nat × Nat) : Ly 1 (prD d) := Ly.tup fun d hd => by
  simp only [List.mem_cons, List.not_mem_nil, or_false] at hd
  rcases hd with rfl | rfl <;> exact Ly.int _
theorem Prs.dp {K : PySem.W.Frag} {H : Hp} : ∀ {ts : List Addr} {es : List (Nat × Nat)}, Prs H ts es → DpAll K H (ts.map V.ref) (es.map prD)
  | [], [], _ => .nil
  | _ :: _, _ :: _, h => .cons (.tup (SqT.of h.1) (.cons (.int _) (.cons (.int _) .nil))) (Prs.dp h.2)
  | [], _ :: _, h => h.elim
  | _ :: _, [], h => h.elim
theorem pair_upd {H : Hp} {W : Addr} {xs ys : List V} (h : H W = some (.lst xs)) : ∀ t vs, H t = some (.tup vs) → upd H W (.lst ys) t = some (.tup vs) := fun t vs e => by
  rw [upd_ne (ne_of e h (by intro z; cases z))]
  exact e
/-- a row of bits is none of the lists of rows -/
theorem BRow.keep_q {C q r : Addr} {H H' : Hp} {l : List Bool} {ps : List Addr} (R : BRow C H r l) (hq : H q = some (.lst (ps.map V.ref))) (hps : ps ≠ []) (k : Keep q H H') : BRow C H' r l := by
  obtain ⟨pa, pb, R⟩ := R
  have ne : ∀ {x : Addr} {ks : List Nat}, H x = some (.lst (ks.map nV)) → x ≠ q := by
    intro x ks h z
    rw [z, hq] at h
    injection h with h
    injection h with h
    cases ps with
    | nil => exact hps rfl
    | cons y ps =>
      cases ks with
      | nil => cases h
      | cons k ks =>
        rw [List.map_cons, List.map_cons, List.cons.injEq] at h
        cases h.1
  exact ⟨pa, pb, R.ob.imp fun _ h => k _ _ h (ne_of h hq (by intro z; cases z)), k _ _ R.pk (ne R.pk), k _ _ R.hd (ne R.hd), R.ne, R.len⟩
/-- another row stands while one is put -/
theorem HRowAt.keep_q {C D p p2 q q2 : Addr} {H H' : Hp} {w w2 : Nat} {ns ns2 : List Nat} (R2 : HRowAt C D H p2 q2 w2 ns2) (R : HRowAt C D H p q w ns) (hne : q2 ≠ q) (k : Keep q H H') : HRowAt C D H' p2 q2 w2 ns2 := by
  obtain ⟨ps, hq, hps, _⟩ := R.ls
  have hps0 : ps ≠ [] := fun z => by
    rw [z] at hps
    have := R.w1
    simp at hps
    omega
  refine ⟨R2.ob.imp fun _ h => k _ _ h (ne_of h hq (by intro z; cases z)), ?_, R2.len, R2.w1, R2.w64, R2.lt⟩
  obtain ⟨ps2, h1, h2, h3⟩ := R2.ls
  exact ⟨ps2, k _ _ h1 hne, h2, fun l r e => (h3 l r e).keep_q hq hps0 k⟩
/-- what of H' is the row's own: the object, its list of rows, and what is new -/
def own (p q : Addr) (H H' : Hp) : Hp := fun b => if b = p ∨ b = q then H' b else new H H' b
theorem own_same {p q : Addr} {H H' : Hp} : Same (own p q H H') H' := fun b o e => by
  unfold own at e
  split at e
  · exact e
  · exact new_same _ _ e
theorem own_not {p q b : Addr} {H H' : Hp} {o : HO} (h : H b = some o) (h1 : b ≠ p) (h2 : b ≠ q) : own p q H H' b = none := by
  unfold own
  rw [if_neg (by rintro (z | z) <;> contradiction)]
  exact new_none h
theorem own_p {p q : Addr} {H H' : Hp} : own p q H H' p = H' p := by
  unfold own
  rw [if_pos (.inl rfl)]
theorem own_q {p q : Addr} {H H' : Hp} : own p q H H' q = H' q := by
  unfold own
  rw [if_pos (.inr rfl)]
theorem own_new {p q b : Addr} {H H' : Hp} (h : H b = none) : own p q H H' b = H' b := by
  unfold own
  split
  · rfl
  · exact new_of h
def spHPut (K : PySem.W.Frag) (C D X Y : Addr) : Sp := fun vs H Q E => ∃ (p q : Addr) (w : Nat) (ns : List Nat) (v u : V) (n m : String), vs = [.ref p, v, u] ∧ HRowAt C D H p q w ns ∧ TyN K H v n ∧ TyN K H u m ∧
  (amongV v 0 ((ns.length : Int) - 1) = false → E (.ref Y) none H) ∧ (∀ i : Nat, v = nV i → i < ns.length →
    (amongV u 0 (topN w) = false → E (.ref X) none H) ∧
    (∀ x : Nat, u = nV x → x < 2 ^ w → ∀ (r : Addr) (H' : Hp) (ts : List Addr), Keep q H H' → H r = none → H' r = some (.lst (ts.map V.ref)) → Prs H' ts (dif w ns (ns.set i x) w) → HRowAt C D (off r (own p q H H')) p q w (ns.set i x) → Q (.ref r) H'))
set_option maxHeartbeats 4000000 in
theorem ok_H_put (T : Tx K mg A) : FnOk P w K mg base (L2.CX P w) 9 A.H_put A.H_put_d ["self", "place", "value"] (spHPut K A.cB A.cH A.xNoNumber A.xNoPlace) := by
  refine T.H_put.F.okX sc_H_put (fun vs H Q E h => ?_) (fun cdv Ar outer s H vs Q E hr h => ?_)
  · obtain ⟨p, q, w, ns, v, u, n, m, rfl, _⟩ := h
    rfl
  · obtain ⟨p, q, w, ns, v, u, n, m, rfl, R, hv, hu, kE, kQ⟩ := h
    have R0 : HRow A.cB A.cH H p w ns := ⟨q, R⟩
    obtain ⟨dx, hp⟩ := R.ob
    obtain ⟨ps, hq, hps, hrow⟩ := R.ls
    have w64 := R.w64
    have hlen := R.len
    refine ⟨_, (pss_cons (ps_if (pt_not (pt_val (pe_call (E := E0) (ok_is_among T) (hr.mono (by decide)) rfl T.is_among.g T.is_among.F.kp T.is_among.b .nil pass0 (pa_cons (pv 1) (pa_cons pe_int (pa_cons (pe_op op_sub (pe_fld (pv 0) rfl) pe_int) pa_nil)))))) (pss_one (ps_raise rfl (takes_of rfl rfl rfl rfl) (pmk_own PySem.F.excBase_ValueError T.xNoPlace.x T.xNoPlace.g T.xNoPlace.k (raises_own T.xNoPlace.b T.xNoPlace.t) rfl))) pss_nil)
      (pss_cons (ps_expr (pe_meth (pv 0) T.clH T.H_need_number.m (ok_H_need_number T) (hr.mono (by decide)) T.H_need_number.b .nil (passes_call (takes_of rfl rfl rfl rfl) (fun _ _ _ _ h => h)) (pa_cons (pv 2) pa_nil)))
      (PSs.nox (pss_cons (ps_set (i := 3) sc_H_put.nd rfl (by first | exact Or.inl rfl | exact Or.inr rfl) (pe_meth0 (E := E0) (pv 0) T.clH T.H_numbers.m (ok_H_numbers T) (hr.mono (by decide)) T.H_numbers.b .nil pass0))
      (pss_cons (ps_asg (pv 2) (pg_sub (pv 3) (pv 1) set_list))
      (pss_cons (ps_set (i := 4) sc_H_put.nd rfl (by first | exact Or.inl rfl | exact Or.inr rfl) (pe_lst pa_nil))
      (pss_cons (ps_for PassesOwn.never rfl (pi_enum (by rfl) T.b_enumerate (pa_cons (pe_call (E := E0) (ok_bit_rows T) (hr.mono (by decide)) rfl T.bit_rows.g T.bit_rows.F.kp T.bit_rows.b .nil pass0 (pa_cons (pv 3) (pa_cons (pe_fld (pv 0) rfl) pa_nil))) pa_nil)) (pg_tup (by rfl) (pgs_cons (pg_name (i := 5) sc_H_put.nd rfl (by first | exact Or.inl rfl | exact Or.inr rfl)) (pgs_cons (pg_name (i := 6) sc_H_put.nd rfl (by first | exact Or.inl rfl | exact Or.inr rfl)) pgs_nil))) (pss_cons (ps_for PassesOwn.never rfl (pi_enum (by rfl) T.b_enumerate (pa_cons (pe_meth0 (E := E0) (pv 6) T.clB T.B_words.m (ok_B_words T) (hr.mono (by decide)) T.B_words.b .nil pass0) pa_nil)) (pg_tup (by rfl) (pgs_cons (pg_name (i := 7) sc_H_put.nd rfl (by first | exact Or.inl rfl | exact Or.inr rfl)) (pgs_cons (pg_name (i := 8) sc_H_put.nd rfl (by first | exact Or.inl rfl | exact Or.inr rfl)) pgs_nil))) (pss_one (ps_if (pt_cmpR op_ne (pv 8) (pe_ix ix_list (pe_meth0 (E := E0) (pe_ix ix_list (pe_fld (pv 0) rfl) (pv 5) (fun _ _ => rfl)) T.clB T.B_words.m (ok_B_words T) (hr.mono (by decide)) T.B_words.b .nil pass0) (pv 7) (fun _ _ => rfl)) (nomark _)) (pss_one (ps_expr (pe_bm PySem.F.plainAttrs_list PySem.F.slot_list_append PySem.F.type_list_append mt_append (pv 4) (pa_cons (pe_tup (pa_cons (pv 5) (pa_cons (pv 7) pa_nil))) pa_nil)))) pss_nil)))
      (pss_one (ps_asg (pv 6) (pg_sub (pe_fld (pv 0) rfl) (pv 5) set_list)))))
      (pss_one (ps_ret (pv 4)))))))))), ?_⟩
    refine ⟨_, rfl, _, rfl, p, A.cH, dx, _, _, rfl, hp, T.clH, T.nH_size, hrf_size _ _ _, _, _, rfl, rfl, v, n, 0, _, rfl, hv, _, rfl, ?_⟩
    by_cases c : amongV v 0 ((ns.length : Int) - 1) = true
    · refine if_f (by show (!amongV v 0 ((ns.length : Int) - 1)) = false; rw [c]; rfl) ?_
      obtain ⟨i, rfl, hi⟩ := among_lt c
      obtain ⟨kN, kS⟩ := kQ i rfl hi
      refine ⟨_, rfl, p, dx, _, rfl, hp, hrf_no _ _ _ (by decide +kernel) (by decide +kernel) (by decide +kernel), _, rfl, p, w, ns, u, m, rfl, R0, hu, kN, fun x ex hx => ?_⟩
      have kk := kS x ex hx
      clear kS kQ
      subst ex
      obtain ⟨ms, ems⟩ : ∃ ms, ms = ns.set i x := ⟨_, rfl⟩
      rw [← ems] at kk
      have hml : ms.length = ns.length := by rw [ems, List.length_set]
      have hmlt : ∀ n ∈ ms, n < 2 ^ w := fun n hn => by
        rw [ems] at hn
        rcases List.mem_or_eq_of_mem_set hn with hn | rfl
        · exact R.lt n hn
        · exact hx
      -- numbers = self.numbers(); numbers[place] = value
      refine ⟨_, rfl, p, dx, _, rfl, hp, hrf_no _ _ _ (by decide +kernel) (by decide +kernel) (by decide +kernel), p, w, ns, rfl, R0, fun N H1 s1 hN0 hN => ?_⟩
      refine ⟨_, rfl, _, rfl, _, rfl, N, _, _, _, rfl, rfl, hN, ixN_nat (by rw [List.length_map]; exact hi), ?_⟩
      have s2 : Same H (upd H1 N (.lst ((ns.map nV).set i (nV x)))) := same_mut s1 hN0
      have hN2 : upd H1 N (.lst ((ns.map nV).set i (nV x))) N = some (.lst (ms.map nV)) := by rw [upd_same, ems, List.map_set]
      generalize upd H1 N (.lst ((ns.map nV).set i (nV x))) = H2 at s2 hN2 ⊢
      -- found = []
      refine ⟨Nat.zero_le _, fun F hF => ?_⟩
      have hF0 := s2.free hF
      have s3 := same_new s2 (o := .lst []) hF
      have hN3 : upd H2 F (.lst []) N = some (.lst (ms.map nV)) := by rw [upd_ne (ne_of_none hN2 hF)]; exact hN2
      have hF3 : upd H2 F (.lst []) F = some (.lst ([].map V.ref)) := upd_same
      generalize upd H2 F (.lst []) = H3 at s3 hN3 hF3 ⊢
      -- enumerate(bit_rows(numbers, self.wide))
      refine ⟨_, rfl, _, rfl, p, A.cH, dx, _, _, rfl, s3 _ _ hp, T.clH, T.nH_wide, hrf_wide _ _ _, N, ms, w, rfl, SqL.of hN3, by omega, w64, fun G gs H4 s4 hG0 hG hgl hgs => ?_⟩
      have s34 := s3.trans s4
      have hF4 := s4 _ _ hF3
      have hq4 := s34 _ _ hq
      have nFq : F ≠ q := fun z => by rw [z, hq] at hF0; cases hF0
      have nFG : F ≠ G := ne_of_none hF3 hG0
      have nqG : q ≠ G := ne_of_none (s3 _ _ hq) hG0
      -- base: all but found and the halves
      obtain ⟨B, eB⟩ : ∃ B, B = off F (off q H4) := ⟨_, rfl⟩
      have Bn : ∀ {b : Addr} {o : HO}, H4 b = some o → b ≠ F → b ≠ q → B b = some o := fun h h1 h2 => by rw [eB, off_ne h1, off_ne h2]; exact h
      have BF : B F = none := by rw [eB]; exact off_q
      have Bq : B q = none := by rw [eB, off_ne nFq.symm]; exact off_q
      have hps0 : ps ≠ [] := fun z => by
        rw [z] at hps
        have := R.w1
        simp at hps
        omega
      have kB : Keep q H B := fun b o e ne => Bn (s34 _ _ e) (ne_of_none e hF0) ne
      have hpB := kB _ _ hp (ne_of hp hq (by intro z; cases z))
      have hGB := Bn hG nFG.symm nqG.symm
      have hold : ∀ l r, ps[l]? = some r → BRow A.cB B r (row w ns l) := fun l r e => (hrow l r e).keep_q hq hps0 kB
      have hnew : ∀ l r, gs[l]? = some r → BRow A.cB B r (row w ms l) := fun l r e => (hgs l r e).same fun b o e => by
        have f := new_free e
        rw [new_of f] at e
        exact Bn e (ne_of_none hF3 f).symm (ne_of_none (s3 _ _ hq) f).symm
      have sB4 : Same B H4 := by rw [eB]; exact off_same.trans off_same
      have hwm : ∀ l, wn (row w ms l).length = wn ns.length := fun l => by rw [row_len, hml]
      have hwo : ∀ l, wn (row w ns l).length = wn ns.length := fun l => by rw [row_len]
      have hwn : wn ns.length ≤ 7 := by unfold wn; omega
      refine ⟨G, _, rfl, SqL.of hG, ?_⟩
      refine for_it (walk_enum (K := K) (a := G) (xs := gs.map V.ref)) (fun l σ H' => ∃ (ts : List Addr) (u5 u6 u7 u8 : Option V), σ = [some (.ref p), some (nV i), some (nV x), some (.ref N), some (.ref F), u5, u6, u7, u8] ∧ Same B H' ∧
          H' q = some (.lst ((gs.take l ++ ps.drop l).map V.ref)) ∧ H' F = some (.lst (ts.map V.ref)) ∧ Prs H' ts (dif w ns ms l))
        ⟨[], none, none, none, none, rfl, sB4, hq4, hF4, trivial⟩ (fun l σ H' _ ⟨_, _, _, _, _, _, s, _⟩ => SqL.of (s _ _ hGB)) (fun l y σ H5 H6 hl h hy => ?_) (fun σ H5 h => ?_)
      · obtain ⟨ts, u5, u6, u7, u8, rfl, s5, hq5, hF5, hts⟩ := h
        obtain ⟨t, x1, y1, rfl, ht, rfl, e1, e2⟩ := hy
        cases e1
        rw [List.length_map] at hl
        have hlw : l < w := by omega
        have hgl2 : gs[l]? = some gs[l] := List.getElem?_eq_getElem hl
        have e2 : V.ref gs[l] = y1 := by
          have e3 : (gs.map V.ref)[l]? = some y1 := e2
          rw [List.getElem?_map, hgl2] at e3
          exact Option.some.inj e3
        subst e2
        obtain ⟨g, eg⟩ : ∃ g, g = gs[l] := ⟨_, rfl⟩
        rw [← eg] at hgl2 ⊢
        have s6 := same_new (Same.refl H5) (o := .tup [.int (l : Nat), V.ref g]) ht
        have s56 := s5.trans s6
        have hq6 := s6 _ _ hq5
        have hF6 := s6 _ _ hF5
        have hts6 := hts.same fun t vs h => s6 _ _ h
        refine ⟨t, _, rfl, SqT.of upd_same, rfl, _, _, rfl, _, _, rfl, rfl, ?_⟩
        generalize upd H5 t (.tup [.int (l : Nat), V.ref g]) = H6 at s6 s56 hq6 hF6 hts6 ⊢
        have Bg := (hnew l g hgl2).same s56
        obtain ⟨ga, gb, Bg'⟩ := id Bg
        obtain ⟨dg, hg6⟩ := Bg'.ob
        -- enumerate(row.words())
        refine ⟨_, rfl, g, dg, _, rfl, hg6, brf_no _ _ _ (by decide +kernel) (by decide +kernel) (by decide +kernel), g, _, rfl, Bg, fun W H7 s7 hW0 hW => ?_⟩
        have s57 := s56.trans s7
        have BW : B W = none := s56.free hW0
        have nWq : W ≠ q := (ne_of_none hq6 hW0).symm
        have nWF : W ≠ F := (ne_of_none hF6 hW0).symm
        -- the base of the inner walk: W too
        obtain ⟨B2, eB2⟩ : ∃ B2, B2 = off F (off q H7) := ⟨_, rfl⟩
        have B2n : ∀ {b : Addr} {o : HO}, H7 b = some o → b ≠ F → b ≠ q → B2 b = some o := fun h h1 h2 => by rw [eB2, off_ne h1, off_ne h2]; exact h
        have B2F : B2 F = none := by rw [eB2]; exact off_q
        have B2q : B2 q = none := by rw [eB2, off_ne nFq.symm]; exact off_q
        have sBB : Same B B2 := fun b o e => B2n (s57 _ _ e) (ne_of_none e BF) (ne_of_none e Bq)
        have hWB := B2n hW nWF nWq
        refine ⟨W, _, rfl, SqL.of hW, ?_⟩
        have hgp : (gs.take l ++ ps.drop l)[l]? = ps[l]? := by
          rw [List.getElem?_append_right (by rw [List.length_take]; omega), List.length_take, Nat.min_eq_left (by omega), Nat.sub_self, List.getElem?_drop]
          rfl
        obtain ⟨o, ho⟩ : ∃ o, ps[l]? = some o := ⟨_, List.getElem?_eq_getElem (by omega)⟩
        refine for_it (walk_enum (K := K) (a := W) (xs := (words (row w ms l)).map nV)) (fun j σ H' => ∃ (ts : List Addr) (u7 u8 : Option V), σ = [some (.ref p), some (nV i), some (nV x), some (.ref N), some (.ref F), some (nV l), some (.ref g), u7, u8] ∧ Same B2 H' ∧
            H' q = some (.lst ((gs.take l ++ ps.drop l).map V.ref)) ∧ H' F = some (.lst (ts.map V.ref)) ∧ Prs H' ts (dif w ns ms l ++ difAt w ns ms l j))
          ⟨ts, _, _, rfl, by rw [eB2]; exact off_same.trans off_same, s7 _ _ hq6, s7 _ _ hF6, by
            show Prs H7 ts (dif w ns ms l ++ [])
            rw [List.append_nil]
            exact hts6.same fun t vs h => s7 _ _ h⟩ (fun j σ H' _ ⟨_, _, _, _, s, _⟩ => SqL.of (s _ _ hWB)) (fun j y σ H8 H9 hj h hy => ?_) (fun σ H8 h => ?_)
        · obtain ⟨ts, u7, u8, rfl, s8, hq8, hF8, hts8⟩ := h
          obtain ⟨t2, x1, y1, rfl, ht2, rfl, e1, e2⟩ := hy
          cases e1
          rw [List.length_map, words_len, hwm] at hj
          have hwj : (words (row w ms l))[j]? = some ((words (row w ms l)).getD j 0) := by
            have : j < (words (row w ms l)).length := by rw [words_len, hwm]; exact hj
            rw [List.getD_eq_getElem?_getD, List.getElem?_eq_getElem this]
            rfl
          have hoj : (words (row w ns l))[j]? = some ((words (row w ns l)).getD j 0) := by
            have : j < (words (row w ns l)).length := by rw [words_len, hwo]; exact hj
            rw [List.getD_eq_getElem?_getD, List.getElem?_eq_getElem this]
            rfl
          have e2 : nV ((words (row w ms l)).getD j 0) = y1 := by
            have e3 : ((words (row w ms l)).map nV)[j]? = some y1 := e2
            rw [List.getElem?_map, hwj] at e3
            exact Option.some.inj e3
          subst e2
          have hst := difAt_step w ns ms l j
          obtain ⟨a1, ea1⟩ : ∃ a1, a1 = (words (row w ms l)).getD j 0 := ⟨_, rfl⟩
          obtain ⟨a2, ea2⟩ : ∃ a2, a2 = (words (row w ns l)).getD j 0 := ⟨_, rfl⟩
          rw [← ea1, ← ea2] at hst
          rw [← ea1]
          rw [← ea2] at hoj
          have s9 := same_new (Same.refl H8) (o := .tup [.int (j : Nat), nV a1]) ht2
          have s89 := s8.trans s9
          have hq9 := s9 _ _ hq8
          have hF9 := s9 _ _ hF8
          have hts9 := hts8.same fun t vs h => s9 _ _ h
          refine ⟨t2, _, rfl, SqT.of upd_same, rfl, _, _, rfl, _, _, rfl, rfl, ?_⟩
          generalize upd H8 t2 (.tup [.int (j : Nat), nV a1]) = H9 at s9 s89 hq9 hF9 hts9 ⊢
          have Bo := (hold l o ho).same (sBB.trans s89)
          obtain ⟨oa, ob, Bo'⟩ := id Bo
          obtain ⟨do_, ho9⟩ := Bo'.ob
          -- word != self.halves[level].words()[at]
          refine ⟨_, rfl, _, rfl, p, A.cH, dx, _, _, rfl, (sBB.trans s89) _ _ hpB, T.clH, T.nH_halves, hrf_halves _ _ _, _, rfl, q, _, _, .ref o, rfl, rfl, SqL.of hq9, at_of (j := l) rfl (by rw [List.getElem?_map, hgp, ho]; rfl), o, do_, _, rfl, ho9, brf_no _ _ _ (by decide +kernel) (by decide +kernel) (by decide +kernel), o, _, rfl, Bo, fun Z H10 s10 hZ0 hZ => ?_⟩
          refine ⟨_, rfl, Z, _, _, nV a2, rfl, rfl, SqL.of hZ, at_of (j := j) rfl (by rw [List.getElem?_map, hoj]; rfl), rfl, _, rfl, ?_⟩
          have s810 := s89.trans s10
          have hq10 := s10 _ _ hq9
          have hF10 := s10 _ _ hF9
          have hts10 := hts9.same fun t vs h => s10 _ _ h
          refine ite2 (fun cc => ?_) (fun cc => ?_)
          · have cc : ¬ a1 = a2 := by
              intro z
              rw [z] at cc
              simp at cc
            rw [if_neg cc] at hst
            refine ⟨_, rfl, .inl ⟨rfl, _, SqL.of hF10⟩, _, rfl, _, rfl, (by show 2 ≤ sizeLine; decide), fun t3 ht3 => ?_⟩
            have s11 := same_new (Same.refl H10) (o := .tup [nV l, .int (j : Nat)]) ht3
            have hF11 := s11 _ _ hF10
            have hl3 := hts10.len
            have hdl := dif_len w ns ms l
            have hdl2 := difAt_len w ns ms l j
            have hmul : l * wn ns.length ≤ 64 * 7 := Nat.mul_le_mul (by omega) hwn
            rw [List.length_append] at hl3
            refine ⟨F, _, _, rfl, rfl, hF11, by rw [List.length_map]; exact line5 (by omega), ?_⟩
            have tu := pair_upd (ys := ts.map V.ref ++ [.ref t3]) hF11
            refine ⟨ts ++ [t3], _, _, rfl, same_mut (s810.trans s11) B2F, by rw [upd_ne nFq.symm]; exact s11 _ _ hq10, by rw [upd_same, List.map_append]; rfl, ?_⟩
            rw [hst, ← List.append_assoc]
            exact Prs.add (d := (l, j)) (tu _ _ upd_same) (hts10.same fun t vs h => tu _ _ (s11 _ _ h))
          · have cc : a1 = a2 := by
              have z : (!decide (nV a1 = nV a2)) = false := by simpa using cc
              exact nV_inj (by simpa using z)
            rw [if_pos cc, List.append_nil] at hst
            exact ⟨ts, _, _, rfl, s810, hq10, hF10, by rw [hst]; exact hts10⟩
        · obtain ⟨ts, u7, u8, rfl, s8, hq8, hF8, hts8⟩ := h
          rw [List.length_map, words_len, hwm] at hts8
          -- self.halves[level] = row
          refine ⟨_, rfl, _, rfl, p, A.cH, dx, _, _, rfl, (sBB.trans s8) _ _ hpB, T.clH, T.nH_halves, hrf_halves _ _ _, _, rfl, q, _, _, _, rfl, rfl, hq8, ixN_nat (by rw [List.length_map, List.length_append, List.length_take, List.length_drop]; omega), ?_⟩
          have eset : ((gs.take l ++ ps.drop l).map V.ref).set l (.ref g) = (gs.take (l + 1) ++ ps.drop (l + 1)).map V.ref := by
            rw [← List.map_set]
            congr 1
            rw [List.set_append_right _ _ (by rw [List.length_take]; omega), List.length_take, Nat.min_eq_left (by omega), Nat.sub_self, List.take_add_one, hgl2]
            have hpl : l < ps.length := by omega
            rw [List.drop_eq_getElem_cons hpl, List.set_cons_zero, List.append_assoc]
            rfl
          have tu := pair_upd (ys := ((gs.take l ++ ps.drop l).map V.ref).set l (.ref g)) hq8
          refine ⟨ts, _, _, _, _, rfl, same_mut (sBB.trans s8) Bq, by rw [upd_same, eset], by rw [upd_ne nFq]; exact hF8, ?_⟩
          rw [dif_step]
          exact hts8.same tu
      · obtain ⟨ts, u5, u6, u7, u8, rfl, s5, hq5, hF5, hts⟩ := h
        rw [List.length_map, hgl] at hq5 hts
        have eall : gs.take w ++ ps.drop w = gs := by
          rw [← hgl, List.take_length, List.drop_of_length_le (by omega), List.append_nil]
        rw [eall] at hq5
        refine ⟨_, rfl, kk F H5 ts (fun b o e ne => s5 _ _ (kB _ _ e ne)) hF0 hF5 hts ?_⟩
        have nFp : p ≠ F := fun z => by rw [z] at hp; rw [hp] at hF0; cases hF0
        refine ⟨⟨dx, by rw [off_ne nFp, own_p, hml]; exact s5 _ _ hpB⟩, ⟨gs, by rw [off_ne nFq.symm, own_q]; exact hq5, hgl, fun l r e => (hgs l r e).same fun b o e => ?_⟩, by omega, R.w1, R.w64, hmlt⟩
        have f := new_free e
        rw [new_of f] at e
        rw [off_ne (ne_of_none hF3 f).symm, own_new (s3.free f)]
        exact s5 _ _ (Bn e (ne_of_none hF3 f).symm (ne_of_none (s3 _ _ hq) f).symm)
    · refine if_t (by show (!amongV v 0 ((ns.length : Int) - 1)) = true; rw [bad_false c]; rfl) ?_
      exact kE (bad_false c)

/-! ### the law's row of numbers -/
def spLRow (K : PySem.W.Frag) : Sp := fun vs H Q _ => ∃ (d a : Addr) (ns : List Int) (k : Nat), vs = [.ref d] ∧ St K H d a ns k ∧ k < 880000 ∧
  ∀ (w : Nat) (ms : List Nat) (q t : Addr) (H' : Hp) (k' : Nat), 1 ≤ w → w ≤ 64 → ms.length ≤ 40 → (∀ n ∈ ms, n < 2 ^ w) → k' ≤ k + 170 → Keep d H H' → St K H' d a ns k' → H q = none → H' q = some (.lst (ms.map nV)) → H' t = some (.tup [.ref q, nV w]) → Q (.ref t) H'
set_option maxHeartbeats 1000000 in
theorem ok__law_row (T : Tx K mg A) : FnOk P w K mg base CX0 3 A._law_row A._law_row_d ["_law_state"] (spLRow K) := by
  refine T._law_row.F.ok sc__law_row (fun vs H Q E h => ?_) (fun cdv Ar outer s H vs Q E hr h => ?_)
  · obtain ⟨d, a, ns, k, rfl, _⟩ := h
    rfl
  · obtain ⟨d, a, ns, k, rfl, S, hk, kQ⟩ := h
    refine ⟨_, (pss_cons (ps_set (i := 1) sc__law_row.nd rfl (by first | exact Or.inl rfl | exact Or.inr rfl) (pe_call (E := E0) (ok__law_next T) (hr.mono (by decide)) rfl T._law_next.g T._law_next.F.kp T._law_next.b .nil pass0 (pa_cons (pv 0) pa_nil)))
      (pss_cons (ps_set (i := 2) sc__law_row.nd rfl (by first | exact Or.inl rfl | exact Or.inr rfl) (pe_ix ix_list (pe_lst (pa_cons (pe_op op_add pe_int (pe_op op_mod (pe_op op_fdiv (pv 1) pe_int) pe_int)) (pa_cons (pe_op op_add pe_int (pe_op op_mod (pe_op op_fdiv (pv 1) pe_int) pe_int)) (pa_cons pe_int (pa_cons (pe_op op_add pe_int (pe_op op_mod (pe_op op_fdiv (pv 1) pe_int) pe_int)) pa_nil))))) (pe_op op_mod (pv 1) pe_int) (fun _ _ => rfl)))
      (pss_cons (ps_set (i := 3) sc__law_row.nd rfl (by first | exact Or.inl rfl | exact Or.inr rfl) (pe_lst pa_nil))
      (pss_cons (ps_for PassesOwn.never rfl (pi_range1 (by rfl) T.b_range (pa_cons (pe_ix ix_list (pe_lst (pa_cons (pe_op op_mod (pe_op op_fdiv (pv 1) pe_int) pe_int) (pa_cons (pe_op op_mod (pe_op op_fdiv (pv 1) pe_int) pe_int) (pa_cons (pe_op op_add pe_int (pe_op op_mod (pe_op op_fdiv (pv 1) pe_int) pe_int)) pa_nil)))) (pe_op op_mod (pe_op op_fdiv (pv 1) pe_int) pe_int) (fun _ _ => rfl)) pa_nil)) (pg_name (i := 4) sc__law_row.nd rfl (by first | exact Or.inl rfl | exact Or.inr rfl)) (pss_cons (ps_set (i := 5) sc__law_row.nd rfl (by first | exact Or.inl rfl | exact Or.inr rfl) (pe_call (E := E0) (ok__law_next T) (hr.mono (by decide)) rfl T._law_next.g T._law_next.F.kp T._law_next.b .nil pass0 (pa_cons (pv 0) pa_nil)))
      (pss_one (ps_if (PW.pt (pw_and (pt_cmpR (op_neD (hr.units)) (pv 3) (pe_lst pa_nil) (nomark _)) (pw_and1 (pt_cmpR op_eq (pe_op op_mod (pv 5) pe_int) pe_int (nomark _))))) (pss_one (ps_expr (pe_bm PySem.F.plainAttrs_list PySem.F.slot_list_append PySem.F.type_list_append mt_append (pv 3) (pa_cons (pe_ix ix_list (pv 3) (pe_op op_mod (pe_op op_fdiv (pv 5) pe_int) (pe_callB call_len_seq (by rfl) T.b_len (by decide +kernel) (pa_cons (pv 3) pa_nil))) (fun _ _ => rfl)) pa_nil)))) (pss_one (ps_expr (pe_bm PySem.F.plainAttrs_list PySem.F.slot_list_append PySem.F.type_list_append mt_append (pv 3) (pa_cons (pe_call (E := E0) (ok__law_great T) (hr.mono (by decide)) rfl T._law_great.g T._law_great.F.kp T._law_great.b .nil pass0 (pa_cons (pv 0) (pa_cons (pv 2) pa_nil))) pa_nil))))))))
      (pss_one (ps_ret (pe_tup (pa_cons (pv 3) (pa_cons (pv 2) pa_nil))))))))), ?_⟩
    refine ⟨_, rfl, d, a, ns, k, rfl, S, by omega, fun n H1 hn kp1 S1 => ?_⟩
    -- _law_wide
    refine ⟨_, rfl, _, _, rfl, rfl, ⟨by decide, by decide⟩, _, _, rfl, rfl, (by show (0 : Int) < 64; decide), _, _, rfl, rfl, ?_⟩
    refine ⟨_, rfl, _, _, rfl, rfl, ⟨by decide, by decide⟩, _, _, rfl, rfl, (by show (0 : Int) < 4; decide), _, _, rfl, rfl, ?_⟩
    refine ⟨_, rfl, _, _, rfl, rfl, ⟨by decide, by decide⟩, _, _, rfl, rfl, (by show (0 : Int) < 10; decide), _, _, rfl, rfl, (by show 4 ≤ sizeLine; decide), fun q1 hq1 => ?_⟩
    obtain ⟨wd, ewd, hwd⟩ := pick (xs := [V.int (1 + (n : Int) / 5 % 64), V.int (1 + (n : Int) / 5 % 4), V.int 64, V.int (1 + (n : Int) / 5 % 10)])
      (z := (n : Int) % 4) (R := fun v => 1 ≤ v ∧ v ≤ 64) (by omega) (by show (n : Int) % 4 < 4; omega) (fun x hx => by
        simp only [List.mem_cons, List.not_mem_nil, or_false] at hx
        rcases hx with rfl | rfl | rfl | rfl
        · exact ⟨(1 + (n : Int) / 5 % 64).toNat, by unfold nV; congr 1; try omega, by omega, by omega⟩
        · exact ⟨(1 + (n : Int) / 5 % 4).toNat, by unfold nV; congr 1; try omega, by omega, by omega⟩
        · exact ⟨64, rfl, by omega, by omega⟩
        · exact ⟨(1 + (n : Int) / 5 % 10).toNat, by unfold nV; congr 1; try omega, by omega, by omega⟩)
    refine ⟨_, rfl, _, _, rfl, rfl, (by show (0 : Int) < 4; decide), q1, _, _, _, rfl, rfl, SqL.of upd_same, ewd, ?_⟩
    generalize hH2 : upd H1 q1 (.lst [V.int (1 + (n : Int) / 5 % 64), V.int (1 + (n : Int) / 5 % 4), V.int 64, V.int (1 + (n : Int) / 5 % 10)]) = H2
    have s2 : Same H1 H2 := by rw [← hH2]; exact same_new (Same.refl H1) hq1
    obtain ⟨wd1, wd64⟩ := hwd
    -- _law_numbers = []
    refine ⟨Nat.zero_le _, fun q hq => ?_⟩
    have s3 := same_new (Same.refl H2) (o := .lst []) hq
    have q0 : H q = none := kp1.free (s2.free hq) S1.dict
    have hdq : d ≠ q := ne_of_none (S1.same s2).dict hq
    -- range of
    refine ⟨_, rfl, _, _, rfl, rfl, ⟨by decide, by decide⟩, _, _, rfl, rfl, (by show (0 : Int) < 13; decide), ?_⟩
    refine ⟨_, rfl, _, _, rfl, rfl, ⟨by decide, by decide⟩, _, _, rfl, rfl, (by show (0 : Int) < 41; decide), ?_⟩
    refine ⟨_, rfl, _, _, rfl, rfl, ⟨by decide, by decide⟩, _, _, rfl, rfl, (by show (0 : Int) < 4; decide), _, _, rfl, rfl, (by show 3 ≤ sizeLine; decide), fun q2 hq2 => ?_⟩
    obtain ⟨sz, esz, hsz⟩ := pick (xs := [V.int ((n : Int) / 400 % 13), V.int ((n : Int) / 400 % 41), V.int (31 + (n : Int) / 400 % 4)])
      (z := (n : Int) / 16400 % 3) (R := fun v => v < 41) (by omega) (by show (n : Int) / 16400 % 3 < 3; omega) (fun x hx => by
        simp only [List.mem_cons, List.not_mem_nil, or_false] at hx
        rcases hx with rfl | rfl | rfl <;> exact nn (by omega) (by omega))
    refine ⟨_, rfl, _, _, rfl, rfl, ⟨by decide, by decide⟩, _, _, rfl, rfl, (by show (0 : Int) < 3; decide), q2, _, _, _, rfl, rfl, SqL.of upd_same, esz, ?_⟩
    generalize hH4 : upd (upd H2 q (.lst [])) q2 (.lst [V.int ((n : Int) / 400 % 13), V.int ((n : Int) / 400 % 41), V.int (31 + (n : Int) / 400 % 4)]) = H4
    have s4 : Same (upd H2 q (.lst [])) H4 := by rw [← hH4]; exact same_new (Same.refl _) hq2
    have kp4 : Keep d H H4 := ((kp1.same s2).same s3).same s4
    have S4 := ((S1.same s2).same s3).same s4
    have hq4 := s4 _ _ (upd_same (H := H2) (a := q) (o := .lst []))
    refine ⟨sz, rfl, by omega, by omega, ?_⟩
    refine for_range (lo := 0) (fun i σ H' => ∃ (ms : List Nat) (k' : Nat) (u4 u5 : Option V), σ = [some (.ref d), some (nV n), some (nV wd), some (.ref q), u4, u5] ∧ Keep d H H' ∧ St K H' d a ns k' ∧ k' ≤ k + 1 + 4 * i ∧ H' q = some (.lst (ms.map nV)) ∧ ms.length = i ∧ ∀ m ∈ ms, m < 2 ^ wd)
      ⟨[], k + 1, none, none, rfl, kp4, S4, by omega, hq4, rfl, fun m h => by simp at h⟩ (fun i σ H' hi h => ?_) (fun σ H' h => ?_)
    · obtain ⟨ms, k', u4, u5, rfl, kp5, S5, hk', hq5, hml, hall⟩ := h
      have hi : i < 41 := by omega
      refine ⟨_, rfl, d, a, ns, k', rfl, S5, by omega, fun m H6 hm kp6 S6 => ?_⟩
      have hq6 := kp6 _ _ hq5 hdq.symm
      have kp6' := kp5.trans kp6
      -- what is put to it
      have fin : ∀ (H7 : Hp) (v k7 : Nat) (g4 g5 : Option V), Keep d H H7 → St K H7 d a ns k7 → k7 ≤ k' + 4 → H7 q = some (.lst (ms.map nV)) → v < 2 ^ wd →
          ∃ (ms' : List Nat) (k'' : Nat) (u4 u5 : Option V), [some (V.ref d), some (nV n), some (nV wd), some (.ref q), g4, g5] = [some (.ref d), some (nV n), some (nV wd), some (.ref q), u4, u5] ∧ Keep d H (upd H7 q (.lst (ms.map nV ++ [nV v]))) ∧ St K (upd H7 q (.lst (ms.map nV ++ [nV v]))) d a ns k'' ∧ k'' ≤ k + 1 + 4 * (i + 1) ∧ (upd H7 q (.lst (ms.map nV ++ [nV v]))) q = some (.lst (ms'.map nV)) ∧ ms'.length = i + 1 ∧ ∀ m ∈ ms', m < 2 ^ wd := by
        intro H7 v k7 g4 g5 kp7 S7 hk7 hq7 hv
        have kp8 : Keep d H (upd H7 q (.lst (ms.map nV ++ [nV v]))) := fun b o e ne => by
          rw [upd_ne (ne_of_none e q0)]
          exact kp7 _ _ e ne
        refine ⟨ms ++ [v], k7, g4, g5, rfl, kp8, S.keep kp8 (by rw [upd_ne hdq]; exact S7.dict) S7.few, by omega, by rw [upd_same, List.map_append]; rfl, by rw [List.length_append, hml]; rfl, fun x hx => ?_⟩
        rcases List.mem_append.mp hx with hx | hx
        · exact hall x hx
        · rw [List.mem_singleton.mp hx]
          exact hv
      refine ⟨_, rfl, Nat.zero_le _, fun e he => ?_⟩
      have s6 := same_new (Same.refl H6) (o := .lst []) he
      have hq7 := s6 _ _ hq6
      refine ne_ints (ns := ms.map fun (x : Nat) => (x : Int)) (ms := []) (by rw [← ints_nV]; exact SqL.of hq7) (SqL.of upd_same) ⟨_, rfl, ?_⟩
      have other : ∀ (g : Option V), (∃ v, [some (V.ref d), some (nV n), some (nV wd), some (V.ref q), some (V.int (0 + (i : Nat))), some (nV m)][3]? = some v) := fun g => ⟨_, rfl⟩
      by_cases hns : ms = []
      · refine if_f (by simp [hns]) ?_
        refine ⟨_, rfl, .inl ⟨rfl, _, SqL.of hq7⟩, _, rfl, _, rfl, d, a, ns, k' + 1, wd, rfl, S6.same s6, by omega, wd64, fun v H8 hv kp8 S8 => ?_⟩
        have hq8 := kp8 _ _ hq7 hdq.symm
        refine ⟨q, _, _, rfl, rfl, hq8, by rw [List.length_map]; exact line5 (by omega), ?_⟩
        exact fin H8 v _ _ _ ((kp6'.same s6).trans kp8) S8 (by omega) hq8 hv
      · refine if_t (by simp [hns]) ?_
        have hl0 : 0 < ms.length := List.length_pos_iff.mpr hns
        refine ⟨_, rfl, _, _, rfl, rfl, (by show (0 : Int) < 3; decide), rfl, _, rfl, ?_⟩
        refine ite2 (fun c => ?_) (fun c => ?_)
        · obtain ⟨j, ej, hj⟩ := emod_at (xs := ms) (k := (m : Int) / 3) hl0
          have hlm : (ms.map nV).length = ms.length := List.length_map ..
          refine ⟨_, rfl, .inl ⟨rfl, _, SqL.of hq7⟩, _, rfl, _, rfl, _, _, rfl, rfl, ⟨by decide, by decide⟩, _, rfl, q, _, rfl, .inl (SqL.of hq7), _, _, rfl, rfl, (by show (0 : Int) < ((ms.map nV).length : Nat); omega), q, _, _, nV ms[j], rfl, rfl, SqL.of hq7, at_of (j := j) (by show (m : Int) / 3 % ((ms.map nV).length : Nat) = _; rw [hlm]; exact ej) (by rw [List.getElem?_map, List.getElem?_eq_getElem hj]; rfl), ?_⟩
          refine ⟨q, _, _, rfl, rfl, hq7, by rw [List.length_map]; exact line5 (by omega), ?_⟩
          exact fin _ _ _ _ _ (kp6'.same s6) (S6.same s6) (by omega) hq7 (hall _ (List.getElem_mem hj))
        · refine ⟨_, rfl, .inl ⟨rfl, _, SqL.of hq7⟩, _, rfl, _, rfl, d, a, ns, k' + 1, wd, rfl, S6.same s6, by omega, wd64, fun v H8 hv kp8 S8 => ?_⟩
          have hq8 := kp8 _ _ hq7 hdq.symm
          refine ⟨q, _, _, rfl, rfl, hq8, by rw [List.length_map]; exact line5 (by omega), ?_⟩
          exact fin H8 v _ _ _ ((kp6'.same s6).trans kp8) S8 (by omega) hq8 hv
    · obtain ⟨ms, k', u4, u5, rfl, kp5, S5, hk', hq5, hml, hall⟩ := h
      refine ⟨_, rfl, _, rfl, (by show 2 ≤ sizeLine; decide), fun t ht => ?_⟩
      have s6 := same_new (Same.refl H') (o := .tup [.ref q, nV wd]) ht
      exact kQ wd ms q t _ k' wd1 wd64 (by omega) hall (by omega) (kp5.same s6) (S5.same s6) q0 (s6 _ _ hq5) upd_same
/-- a stretch within so many -/
def spLStretch (K : PySem.W.Frag) : Sp := fun vs H Q _ => ∃ (d a : Addr) (ns : List Int) (k n : Nat), vs = [.ref d, nV n] ∧ St K H d a ns k ∧ k < 890000 ∧
  ∀ (f b : Nat) (t : Addr) (H' : Hp), f ≤ b → b ≤ n → Keep d H H' → St K H' d a ns (k + 2) → H t = none → H' t = some (.tup [nV f, nV b]) → Q (.ref t) H'
theorem ok__law_stretch (T : Tx K mg A) : FnOk P w K mg base CX0 2 A._law_stretch A._law_stretch_d ["_law_state", "_law_size"] (spLStretch K) := by
  refine T._law_stretch.F.ok sc__law_stretch (fun vs H Q E h => ?_) (fun cdv Ar outer s H vs Q E hr h => ?_)
  · obtain ⟨d, a, ns, k, n, rfl, _⟩ := h
    rfl
  · obtain ⟨d, a, ns, k, n, rfl, S, hk, kQ⟩ := h
    refine ⟨_, (pss_cons (ps_set (i := 2) sc__law_stretch.nd rfl (by first | exact Or.inl rfl | exact Or.inr rfl) (pe_op op_mod (pe_call (E := E0) (ok__law_next T) (hr.mono (by decide)) rfl T._law_next.g T._law_next.F.kp T._law_next.b .nil pass0 (pa_cons (pv 0) pa_nil)) (pe_op op_add (pv 1) pe_int)))
      (pss_cons (ps_set (i := 3) sc__law_stretch.nd rfl (by first | exact Or.inl rfl | exact Or.inr rfl) (pe_op op_mod (pe_call (E := E0) (ok__law_next T) (hr.mono (by decide)) rfl T._law_next.g T._law_next.F.kp T._law_next.b .nil pass0 (pa_cons (pv 0) pa_nil)) (pe_op op_add (pv 1) pe_int)))
      (pss_one (ps_ret (pe_tup (pa_cons (pe_callB (call_min2 rfl) (by rfl) T.b_min (by decide +kernel) (pa_cons (pv 2) (pa_cons (pv 3) pa_nil))) (pa_cons (pe_callB (call_max2 rfl) (by rfl) T.b_max (by decide +kernel) (pa_cons (pv 2) (pa_cons (pv 3) pa_nil))) pa_nil))))))), ?_⟩
    have hn1 : (0 : Int) < (n : Int) + 1 := by omega
    refine ⟨_, rfl, d, a, ns, k, rfl, S, by omega, fun n1 H1 hn1' kp1 S1 => ⟨_, rfl, _, _, rfl, rfl, _, _, rfl, rfl, hn1, ?_⟩⟩
    refine ⟨_, rfl, d, a, ns, k + 1, rfl, S1, by omega, fun n2 H2 hn2' kp2 S2 => ⟨_, rfl, _, _, rfl, rfl, _, _, rfl, rfl, hn1, ?_⟩⟩
    obtain ⟨x, ex, hx⟩ : ∃ x : Nat, (n1 : Int) % ((n : Int) + 1) = (x : Int) ∧ x ≤ n := by
      have h1 := Int.emod_nonneg (n1 : Int) (b := (n : Int) + 1) (by omega)
      have h2 := Int.emod_lt_of_pos (n1 : Int) hn1
      exact ⟨((n1 : Int) % ((n : Int) + 1)).toNat, by omega, by omega⟩
    obtain ⟨y, ey, hy⟩ : ∃ y : Nat, (n2 : Int) % ((n : Int) + 1) = (y : Int) ∧ y ≤ n := by
      have h1 := Int.emod_nonneg (n2 : Int) (b := (n : Int) + 1) (by omega)
      have h2 := Int.emod_lt_of_pos (n2 : Int) hn1
      exact ⟨((n2 : Int) % ((n : Int) + 1)).toNat, by omega, by omega⟩
    dsimp only
    rw [ex, ey]
    refine ⟨_, rfl, _, rfl, _, _, rfl, _, rfl, _, rfl, _, _, rfl, (by show 2 ≤ sizeLine; decide), fun t ht => ?_⟩
    have ht0 : H t = none := kp1.free (kp2.free ht S2.dict) S1.dict
    have e1 : V.int (if ((y : Nat) : Int) < ((x : Nat) : Int) then (y : Int) else (x : Int)) = nV (min x y) := by
      unfold nV
      congr 1
      split <;> omega
    have e2 : V.int (if ((y : Nat) : Int) > ((x : Nat) : Int) then (y : Int) else (x : Int)) = nV (max x y) := by
      unfold nV
      congr 1
      split <;> omega
    have s3 := same_new (Same.refl H2) (o := .tup [V.int (if ((y : Nat) : Int) < ((x : Nat) : Int) then (y : Int) else (x : Int)), V.int (if ((y : Nat) : Int) > ((x : Nat) : Int) then (y : Int) else (x : Int))]) ht
    exact kQ (min x y) (max x y) t _ (by omega) (by omega) ((kp1.trans kp2).same s3) (S2.same s3) ht0 (by rw [← e1, ← e2]; exact upd_same)

/-! ### a row asked, as the laws ask it -/
theorem count_cast (S : List Nat) (v : Nat) : (S.map fun (n : Nat) => ((n : Nat) : Int)).count (v : Int) = S.count v := by
  induction S with
  | nil => rfl
  | cons n S ih =>
    rw [List.map_cons, List.count_cons, List.count_cons, ih]
    congr 1
    by_cases h : n = v
    · rw [h]
      simp
    · rw [if_neg (by simp; omega), if_neg (by simp; exact h)]
theorem le_split (u : Nat) : ∀ L : List Nat, (∀ x ∈ L, x ≤ u) → L.countP (fun n => decide (n < u)) + L.count u = L.length
  | [], _ => rfl
  | x :: L, h => by
    have ih := le_split u L fun y hy => h y (List.mem_cons_of_mem _ hy)
    have hx := h x List.mem_cons_self
    rw [List.countP_cons, List.count_cons, List.length_cons]
    by_cases e : x = u
    · rw [if_neg (by simp; omega), if_pos (by simp [e])]
      omega
    · rw [if_pos (by simp; omega), if_neg (by simp [e])]
      omega
def sortT (S : List Nat) : List Nat := S.mergeSort
theorem sortT_perm (S : List Nat) : (sortT S).Perm S := List.mergeSort_perm _ _
theorem sortT_sorted (S : List Nat) : (sortT S).Pairwise (· ≤ ·) := by
  have h := List.pairwise_mergeSort (le := fun a b : Nat => decide (a ≤ b)) (by simp; omega) (by simp; omega) S
  exact h.imp fun h => of_decide_eq_true h
theorem sortT_len (S : List Nat) : (sortT S).length = S.length := (sortT_perm S).length_eq
theorem sortT_at {S : List Nat} {t u : Nat} (h1 : S.countP (fun n => decide (n < u)) ≤ t) (h2 : t < S.countP (fun n => decide (n < u)) + S.count u) : (sortT S)[t]? = some u := by
  have e1 := (sortT_perm S).countP_eq fun n => decide (n < u)
  have e2 := (sortT_perm S).count_eq u
  exact sorted_at (sortT_sorted S) (by omega) (by omega)
theorem sorted_is {S : List Nat} {ns' : List Int} (hp : ns'.Perm (S.map fun (n : Nat) => ((n : Nat) : Int))) (hs : ns'.Pairwise (· ≤ ·)) : ns' = (sortT S).map fun (n : Nat) => ((n : Nat) : Int) := by
  refine List.Perm.eq_of_pairwise (le := (· ≤ ·)) (fun x y _ _ h1 h2 => Int.le_antisymm h1 h2) hs ?_ (hp.trans ((sortT_perm S).symm.map _))
  rw [List.pairwise_map]
  exact (sortT_sorted S).imp fun h => by omega
theorem sorted_V {S : List Nat} {ns' : List Int} (hp : ns'.Perm (S.map fun (n : Nat) => ((n : Nat) : Int))) (hs : ns'.Pairwise (· ≤ ·)) : ns'.map V.int = (sortT S).map nV := by rw [sorted_is hp hs, ints_nV]
section
variable {K : PySem.W.Frag} {C D X Y : Addr} {H : Hp} {p : Addr} {w : Nat} {ns : List Nat} {Q : VK} {E : XK}
theorem ask_num {v : Nat} (R : HRow C D H p w ns) (hv : v < ns.length) (k : Q (nV (ns.getD v 0)) H) : spNumAt K C D X [.ref p, nV v] H Q E := by
  refine ⟨p, w, ns, nV v, "int", rfl, R, TyN.int _, not_false (lt_among hv), fun j m ej hm => ?_⟩
  have ej := nV_inj ej
  subst ej
  rw [List.getD_eq_getElem?_getD, hm] at k
  exact k
theorem ask_words {l : Nat} (R : HRow C D H p w ns) (hl : l < w) (k : ∀ (q : Addr) (H' : Hp), Same H H' → H q = none → H' q = some (.lst ((words (row w ns l)).map nV)) → Q (.ref q) H') : spHWords K C D X [.ref p, nV l] H Q E := by
  refine ⟨p, w, ns, nV l, "int", rfl, R, TyN.int _, not_false (lt_among hl), fun j ej _ => ?_⟩
  have ej := nV_inj ej
  subst ej
  exact k
theorem str_args {i j : Nat} {kk : Nat → Nat → Prop} (hij : i ≤ j) (hj : j ≤ ns.length) (k : kk i j) : strArgs Y ns (nV i) (nV j) H E kk := by
  refine ⟨not_false (nat_among (by omega)), fun i' ei _ => ?_⟩
  have ei := nV_inj ei
  subst ei
  refine ⟨not_false (among_in (by omega) (by omega)), fun j' ej _ _ => ?_⟩
  have ej := nV_inj ej
  subst ej
  exact k
theorem ask_count {v i j : Nat} (R : HRow C D H p w ns) (hv : v < 2 ^ w) (hij : i ≤ j) (hj : j ≤ ns.length) (k : ∀ H', Same H H' → Q (nV ((slice ns i j).count v)) H') : spCount K C D X Y [.ref p, nV v, nV i, nV j] H Q E := by
  refine ⟨p, w, ns, nV v, nV i, nV j, "int", "int", "int", rfl, R, TyN.int _, TyN.int _, TyN.int _, not_false (top_among hv), fun u eu _ => ?_⟩
  have eu := nV_inj eu
  subst eu
  exact str_args hij hj k
theorem ask_below {v i j : Nat} (R : HRow C D H p w ns) (hv : v < 2 ^ w) (hij : i ≤ j) (hj : j ≤ ns.length) (k : Q (nV ((slice ns i j).countP fun x => decide (x < v))) H) : spBelow K C D X Y [.ref p, nV v, nV i, nV j] H Q E := by
  refine ⟨p, w, ns, nV v, nV i, nV j, "int", "int", "int", rfl, R, TyN.int _, TyN.int _, TyN.int _, not_false (top_among hv), fun u eu _ => ?_⟩
  have eu := nV_inj eu
  subst eu
  exact str_args hij hj k
theorem ask_least {t i j : Nat} (R : HRow C D H p w ns) (ht : t < j - i) (hj : j ≤ ns.length) (k : Q (nV ((sortT (slice ns i j)).getD t 0)) H) : spLeast K C D Y [.ref p, nV t, nV i, nV j] H Q E := by
  refine ⟨p, w, ns, nV t, nV i, nV j, "int", "int", "int", rfl, R, TyN.int _, TyN.int _, TyN.int _, str_args (by omega) hj ⟨not_false (among_in (by omega) (by omega)), fun t' u et _ _ h1 h2 => ?_⟩⟩
  have et := nV_inj et
  subst et
  rw [List.getD_eq_getElem?_getD, sortT_at h1 h2] at k
  exact k
theorem ask_often {i j : Nat} (R : HRow C D H p w ns) (hij : i < j) (hj : j ≤ ns.length) (k : ∀ (u m : Nat) (t : Addr) (H' : Hp), Often (slice ns i j) u m → Same H H' → H' t = some (.tup [nV u, nV m]) → Q (.ref t) H') : spOften K C D Y [.ref p, nV i, nV j] H Q E :=
  ⟨p, w, ns, nV i, nV j, "int", "int", rfl, R, TyN.int _, TyN.int _, str_args (by omega) hj ⟨fun z => absurd z (by omega), fun _ => k⟩⟩
theorem take_count (v : Nat) (ns : List Nat) (r : Nat) : cb true (ns.map fun n => n == v) r = (ns.take r).count v := by
  unfold cb
  rw [← List.map_take, List.count, List.countP_map, List.count]
  apply List.countP_congr
  intro x _
  show ((x == v) == true) = true ↔ (x == v) = true
  cases (x == v) <;> decide
theorem same_place {v r q : Nat} {ns : List Nat} (h1 : ns[r]? = some v) (h2 : ns[q]? = some v) (h : (ns.take r).count v = (ns.take q).count v) : r = q := by
  have g : ∀ {x : Nat}, ns[x]? = some v → (ns.map fun n => n == v)[x]? = some true := fun e => by rw [List.getElem?_map, e]; simp
  exact found_one (g h1) (g h2) (by rw [take_count, take_count]; exact h)
theorem count_lt {v r : Nat} {ns : List Nat} (h : ns[r]? = some v) : (ns.take r).count v < ns.count v := by
  have hl := (List.getElem?_eq_some_iff.mp h).1
  have e : ns.count v = (ns.take r).count v + (ns.drop r).count v := by rw [← List.count_append, List.take_append_drop]
  have : 0 < (ns.drop r).count v := List.count_pos_iff.mpr (by
    rw [List.drop_eq_getElem_cons hl, (List.getElem?_eq_some_iff.mp h).2]
    exact List.mem_cons_self)
  omega
theorem ask_place {v t r : Nat} (R : HRow C D H p w ns) (hv : v < 2 ^ w) (hr : ns[r]? = some v) (ht : (ns.take r).count v = t) (k : ∀ H', Same H H' → Q (nV r) H') : spHPlace K C D X Y [.ref p, nV v, nV t] H Q E := by
  have hc := count_lt hr
  refine ⟨p, w, ns, nV v, nV t, "int", "int", rfl, R, TyN.int _, TyN.int _, not_false (top_among hv), fun v' ev _ => ?_⟩
  have ev := nV_inj ev
  subst ev
  refine ⟨not_false (lt_among (by omega)), fun t' r' et _ h1 h2 => ?_⟩
  have et := nV_inj et
  subst et
  have := same_place h1 hr (h2.trans ht.symm)
  subst this
  exact k
end
/-- the places where v stands -/
def placesOf (v : Nat) (ns : List Nat) : List Nat := (List.range ns.length).filter fun i => decide (ns[i]? = some v)
theorem placesOf_to (v : Nat) (ns : List Nat) : ∀ n, n ≤ ns.length → ((List.range n).filter fun i => decide (ns[i]? = some v)).length = (ns.take n).count v ∧
    ∀ t r, ((List.range n).filter fun i => decide (ns[i]? = some v))[t]? = some r → ns[r]? = some v ∧ (ns.take r).count v = t
  | 0, _ => ⟨by simp, fun t r h => by simp at h⟩
  | n + 1, hn => by
    obtain ⟨h1, h2⟩ := placesOf_to v ns n (by omega)
    have hc : (ns.take (n + 1)).count v = (ns.take n).count v + if ns[n]? = some v then 1 else 0 := by
      have hnl : n < ns.length := by omega
      rw [List.take_add_one, List.getElem?_eq_getElem hnl, List.count_append]
      show _ + [ns[n]].count v = _
      rw [List.count_singleton]
      by_cases e : ns[n] = v
      · rw [e]; simp
      · rw [if_neg (by simpa using e), if_neg (by intro z; exact e (Option.some.inj z))]
    rw [List.range_succ, List.filter_append]
    by_cases e : ns[n]? = some v
    · rw [if_pos e] at hc
      have ef : [n].filter (fun i => decide (ns[i]? = some v)) = [n] := by simp [e]
      rw [ef]
      refine ⟨by rw [List.length_append, h1, hc]; rfl, fun t r h => ?_⟩
      rw [List.getElem?_append] at h
      by_cases q : t < ((List.range n).filter fun i => decide (ns[i]? = some v)).length
      · rw [if_pos q] at h
        exact h2 t r h
      · rw [if_neg q] at h
        have hz : t - ((List.range n).filter fun i => decide (ns[i]? = some v)).length = 0 := by
          have := (List.getElem?_eq_some_iff.mp h).1
          simp at this
          omega
        rw [hz] at h
        have er : n = r := Option.some.inj h
        subst er
        exact ⟨e, by omega⟩
    · rw [if_neg e] at hc
      have ef : [n].filter (fun i => decide (ns[i]? = some v)) = [] := by simp [e]
      rw [ef, List.append_nil]
      exact ⟨by rw [h1, hc]; rfl, h2⟩
theorem placesOf_len (v : Nat) (ns : List Nat) : (placesOf v ns).length = ns.count v := by
  have := (placesOf_to v ns ns.length (Nat.le_refl _)).1
  rw [List.take_length] at this
  exact this
theorem placesOf_at {v : Nat} {ns : List Nat} {t r : Nat} (h : (placesOf v ns)[t]? = some r) : ns[r]? = some v ∧ (ns.take r).count v = t := (placesOf_to v ns ns.length (Nat.le_refl _)).2 t r h
theorem slice_drop (ns : List Nat) {f b : Nat} (_h : f ≤ b) : (ns.drop f).take (b - f) = slice ns f b := by
  unfold slice
  rw [List.drop_take]
theorem cut_slice {ns : List Nat} {f b : Nat} (h : f ≤ b) : cutV (ns.map nV) (some (f : Int)) (some (b : Int)) = (slice ns f b).map nV := by
  rw [cut_nat h, ← List.map_drop, ← List.map_take, slice_drop ns h]

/-! ### an exception that was caught and is kept by a name: what is known of it behind the suite -/
def ExK (cls : Value) (d : Option Addr) (a : Addr) : HO := .ext fun h => ∃ (oe : Obj) (vs : Array Value), h.get? a = some oe ∧ Zc cls d oe ∧ oe.data = .fields vs
section
variable {X : Cx} {pins : List (Addr × Obj)} {σ : L2.St} {H : Hp} {s : Shared}
theorem keep_exc {a : Addr} {oe : Obj} {vs : Array Value} {cls : Value} {d : Option Addr} (I : Inv X ((a, oe) :: pins) σ H s) (hz : Zc cls d oe) (hv : oe.data = .fields vs) (n0 : X.s_0.heap.get? a = none)
    (np : ∀ p ∈ X.pn ++ pins, p.1 ≠ a) : Inv X pins σ (upd H a (ExK cls d a)) s := by
  have hmem : (a, oe) ∈ X.pn ++ (a, oe) :: pins := List.mem_append_right _ List.mem_cons_self
  obtain ⟨ga, na, nl, _, _⟩ := I.pin _ hmem
  have old : ∀ {b : Addr} {o : Obj}, X.s_0.heap.get? b = some o → b ≠ a := fun e z => by
    rw [z, n0] at e
    cases e
  have trk : ∀ {b : Addr} {o : HO}, H b = some o → b ≠ a := fun e => ne_of_none e na
  have ncell : ∀ (x : Str) (c : Addr), X.env.cells.lookup x = some c → c ≠ a := fun x c e z => by
    obtain ⟨v, o, ho, hd⟩ := I.cell x c e
    rw [z] at ho
    rw [show s.heap.get? a = some oe from ga] at ho
    cases ho
    rw [hv] at hd
    cases hd
  refine ⟨I.ok, I.os, I.bare, ⟨I.base.keep, I.base.slot, fun b o e n x => ?_, I.base.there, fun b xs e => ?_, fun b o u e => ?_, fun b ps e => ?_⟩, I.loc, I.cell, ?_, fun x c e => ?_, fun p hp => ?_, fun b o e => ?_, I.len⟩
  · rw [upd_ne (old e)]
    exact I.base.free b o e n x
  · have q := I.base.tups b xs e
    rw [upd_ne (trk q)]
    exact q
  · have q := I.base.frzs b o u e
    rw [upd_ne (trk q)]
    exact q
  · obtain ⟨m, q⟩ := I.base.tbls b ps e
    exact ⟨m, by rw [upd_ne (trk q)]; exact q⟩
  · rw [upd_ne (Ne.symm nl)]
    exact I.free
  · rw [upd_ne (ncell x c e)]
    exact I.freeC x c e
  · have hp2 : p ∈ X.pn ++ (a, oe) :: pins := by
      rcases List.mem_append.mp hp with z | z
      · exact List.mem_append_left _ z
      · exact List.mem_append_right _ (List.mem_cons_of_mem _ z)
    obtain ⟨e1, e2, e3⟩ := I.pin p hp2
    exact ⟨e1, by rw [upd_ne (np p hp)]; exact e2, e3⟩
  · by_cases hb : b = a
    · subst hb
      rw [upd_same] at e
      cases e
      exact ⟨⟨oe, vs, ga, hz, hv⟩, ⟨oe, ga⟩, fun _ _ ⟨o1, v1, g1, z1, d1⟩ k => ⟨o1, v1, k o1 g1, z1, d1⟩⟩
    · rw [upd_ne hb] at e
      refine (I.hok b o e).stay (fun _ _ _ q => q) (fun c q => ?_) fun c xs q => ?_
      · rw [upd_ne (trk q)]
        exact q
      · rw [upd_ne (trk q)]
        exact q
end
/-- the wish of 'except c as n: suite' where the suite runs through: behind it the exception is known -/
def wHeld (K : PySem.W.Frag) (c : Value) (i : Nat) (ts : Addr → TS) (D : Ends) : WX := fun cls d σ H =>
  PySem.W.exmOne K cls c = some true ∧ ∀ a, H a = none → ts a { nx := fun σ' H' => H' a = none → D.nx (σ'.set i none) (upd H' a (ExK cls d a)), rt := fun _ _ => False } (σ.set i (some (.ref a))) H
section
variable {X : Cx} {x n : Str} {c : Value} {i : Nat} {body suite : List Stmt} {b₀ : Stmt} {np pos pos' : Pos} {tb : WX → TS} {ts : Addr → TS}
theorem ps_try_held (hs : X.stack = X.env :: X.outer) (hf : X.env.frame = some X.env.locals) (hex : X.ex = []) (hN : X.N.Nodup) (hi : X.N[i]? = some n) (hln : X.env.kindOf n = some .local) (hc : Names X x c)
    (hb : ∀ (W : WX) (pn : List (Addr × Obj)) (xe : Value → Shared → Prop), Takes (X.tr pn xe) W → PSs (X.tr pn xe) body (tb W))
    (hsu : ∀ (a : Addr) (oe : Obj) (pn : List (Addr × Obj)), PSs (X.suite a ((a, oe) :: pn)) (b₀ :: suite) (ts a)) :
    PS X (.Try body [.ExceptHandler (some (.Name x np)) (some n) (b₀ :: suite) pos'] [] [] pos) (fun D σ H => tb (wHeld X.K c i ts D) D σ H) := by
  refine ⟨fun pins s σ H D I h => wpAny_Try_except ?_⟩
  have ok := I.ok
  have frm : X.A.frames = some (X.env :: X.outer) := by rw [ok.frames, hs]
  have way : ∀ (xe : Value → Shared → Prop) (u : Value) (s' : Shared), XE (X.tr (X.pn ++ pins) xe) (wHeld X.K c i ts D) u s' →
      wpAny (model X.prog X.w) X.A (noteFrame u X.env) (fun _ s₂ => wpAny (model X.prog X.w) X.A (setFlight u none)
        (fun _ s₃ => wpAny (model X.prog X.w) X.A (handleBy u X.env [.ExceptHandler (some (.Name x np)) (some n) (b₀ :: suite) pos']) (SP X pins D) X.xe s₃) X.xe s₂) X.xe s' := by
    rintro xe u s' ⟨a, B, sI, pi2, σ1, H1, cls, d, rfl, J0, nb, up, sky, na, os, ag, hm, hsuite⟩
    have J : Inv X pins σ1 H1 sI := J0.ofTry ok
    have sk : Sky B (X.env :: X.outer) a (Zc cls d) X.env.locals s'.heap := by rw [← hs]; exact sky
    refine Sky.land Zc.steady frm hf sk fun h3 f3 u3 => ?_
    obtain ⟨o3, v3, g3, z3, d3⟩ := f3.there
    -- the exception is no frame, and new
    have nfr : a ∉ frs (X.env :: X.outer) := fun hm => by
      obtain ⟨_, o', e', hnf⟩ := f3.2.2.1.mem hm
      rw [g3] at e'
      cases e'
      exact hnf _ d3
    have nL : a ≠ X.env.locals := fun z => nfr (List.mem_filterMap.mpr ⟨X.env, List.mem_cons_self, by rw [hf, z]⟩)
    have nF : a ∉ X.fs := fun hm => by
      obtain ⟨e, he, q⟩ := List.mem_filterMap.mp hm
      exact nfr (List.mem_filterMap.mpr ⟨e, List.mem_cons_of_mem _ he, q⟩)
    have nI : sI.heap.get? a = none := by
      cases q : sI.heap.get? a with
      | none => rfl
      | some o =>
        have z := nb a o q (by show a ∉ frs X.stack; rw [hs]; exact nfr)
        rw [f3.2.1] at z
        cases z
    have n0 : X.s_0.heap.get? a = none := by
      cases q : X.s_0.heap.get? a with
      | none => rfl
      | some o =>
        obtain ⟨o', z⟩ := J.base.there a o q (by rw [hex]; simp)
        rw [nI] at z
        cases z
    have npin : ∀ p ∈ X.pn ++ pins, p.1 ≠ a := fun p hp z => by
      have q := (J.pin p hp).1
      rw [z, nI] at q
      cases q
    have S3 := (J.landed (s' := { s' with heap := h3 }) nb f3.1 (up.trans u3) os ag).suite g3 d3 na nL nF
    refine wpAny_handleBy_cons (codeAny_handlers_test ?_) (by intro q; cases q)
    have LT : PySem.W.Looks (model X.prog X.w) h3 (typeOf (.ref a)) cls := fun A Q E s k q => wpAny_typeOf_ref (k _ _ g3) (by rw [z3.1]; exact q)
    have LM := PySem.W.exm_one (M := model X.prog X.w) S3.kIn LT hm
    have named : ∀ {Q E : Value → Shared → Prop}, Q c { s' with heap := h3 } → wpAny (model X.prog X.w) (X.A.mark (some (.ref a))) (eval (.Name x np) X.env) Q E { s' with heap := h3 } := by
      intro Q E q
      obtain ⟨hg, hdbg, z | ⟨z, hv, hnn⟩⟩ := hc
      · exact ld_glob (X := X.suite a ((a, o3) :: (X.pn ++ pins))) S3 hg z q hdbg
      · exact ld_blt (X := X.suite a ((a, o3) :: (X.pn ++ pins))) S3 hg z hv q hnn hdbg
    refine named (LM.here (codeAny_handlers_suite_as (HandSPX.lands_againZ f3 fun h4 f4 u4 => ?_)))
    obtain ⟨o4, v4, g4, z4, d4⟩ := f4.there
    have S4 := (J.landed (s' := { s' with heap := h4 }) nb f4.1 ((up.trans u3).trans u4) os ag).suite g4 d4 na nL nF
    refine store_ok (X := X.suite a ((a, o4) :: (X.pn ++ pins))) (v := .ref a) S4 hN hi (.inl hln) rfl (fun s5 S5 => ?_) (.inr hln)
    refine wpAny_mono ((hsu a o4 (X.pn ++ pins)).run [] s5 _ H1 _ S5 (hsuite a na)) (fun f s6 hsp => ?_) fun _ _ z => False.elim z
    cases f with
    | next =>
      obtain ⟨σ6, H6, S6, q6⟩ := hsp
      have J6 : Inv X ((a, o4) :: pins) σ6 H6 s6 := ⟨ok, S6.os, S6.bare, S6.base, S6.loc, S6.cell, S6.free, S6.freeC, fun p hp => S6.pin p (by
        refine List.mem_append_left _ ?_
        rcases List.mem_append.mp hp with z | z
        · exact List.mem_cons_of_mem _ (List.mem_append_left _ z)
        · rcases List.mem_cons.mp z with z | z
          · rw [z]
            exact List.mem_cons_self
          · exact List.mem_cons_of_mem _ (List.mem_append_right _ z)), S6.hok, S6.len⟩
      exact gone_ok J6 hN hi hln fun s7 J7 => ⟨_, _, keep_exc J7 z4 d4 n0 npin, q6 (J6.pin (a, o4) (List.mem_append_right _ List.mem_cons_self)).2.1⟩
    | brk =>
      obtain ⟨_, _, _, z⟩ := hsp
      exact z.elim
    | cont =>
      obtain ⟨_, _, _, z⟩ := hsp
      exact z.elim
    | ret u =>
      obtain ⟨_, _, _, _, _, z⟩ := hsp
      exact z.elim
  refine wpAny_mono ((hb (wHeld X.K c i ts D) (X.pn ++ pins) (fun u s' => wpAny (model X.prog X.w) X.A (noteFrame u X.env) (fun _ s₂ => wpAny (model X.prog X.w) X.A (setFlight u none)
    (fun _ s₃ => wpAny (model X.prog X.w) X.A (handleBy u X.env [.ExceptHandler (some (.Name x np)) (some n) (b₀ :: suite) pos']) (SP X pins D) X.xe s₃) X.xe s₂) X.xe s')
    (way _)).run [] s σ H D (I.toTry _) h) (fun f s1 hsp => ?_) fun e s1 he => he
  cases f with
  | next =>
    obtain ⟨σ1, H1, J1, q⟩ := hsp
    exact wpAny_execs_nil ⟨σ1, H1, J1.ofTry ok, q⟩
  | brk =>
    obtain ⟨σ1, H1, J1, q⟩ := hsp
    exact ⟨σ1, H1, J1.ofTry ok, q⟩
  | cont =>
    obtain ⟨σ1, H1, J1, q⟩ := hsp
    exact ⟨σ1, H1, J1.ofTry ok, q⟩
  | ret u =>
    obtain ⟨v, σ1, H1, J1, r, q⟩ := hsp
    exact ⟨v, σ1, H1, J1.ofTry ok, r, q⟩
end

/-! ### isinstance of it; list.count of flat things -/
def rIsK (K : PySem.W.Frag) : List V → Hp → VK → Prop := fun xs H Q => ∃ (a D : Addr) (c : V) (cv : Value) (b : Bool), xs = [.ref a, c] ∧ H a = some (ExK (.ref D) none a) ∧ ExcC K D ∧ (∀ u, RelV c u → u = cv) ∧ PySem.W.kitOne K (.ref D) cv = some b ∧ Q (.bl b) H
def rCntF (K : PySem.W.Frag) : V → List V → Hp → VK → Prop := fun x xs H Q => ∃ (p : Addr) (ys : List V) (y : V), x = .ref p ∧ xs = [y] ∧ SqL K H p ys ∧ flatV y = true ∧ ys.all flatV = true ∧ Q (.int (ys.countP fun z => eqV z y : Nat)) H
theorem count_eqU {y : V} : ∀ {ys : List V} {us : List Value}, Vals ys us → ys.all flatV = true → us.countP (eqU y) = ys.countP fun z => eqV z y
  | _, _, .nil, _ => rfl
  | _, _, .cons r h, f => by
    rw [List.all_cons, Bool.and_eq_true] at f
    rw [List.countP_cons, List.countP_cons, count_eqU h f.2, eqU_of r f.1]
section
variable {X : Cx}
theorem call_isK : CallR X (.builtin "isinstance") (rIsK X.K) := by
  intro pins s σ H xs us Q I r h
  obtain ⟨a, D, c, cv, b, rfl, ha, C, hcv, e, q⟩ := h
  obtain ⟨u1, u2, rfl, r1, r2⟩ := vals2 r
  cases (show u1 = Value.ref a from r1)
  obtain rfl := hcv _ r2
  obtain ⟨⟨oe, vs, g, ⟨h1, h2⟩, h3⟩, _, _⟩ := I.hok a _ ha
  obtain ⟨oc, od, dt, sl⟩ := oe
  dsimp only at h1 h2 h3
  subst h1 h2 h3
  exact PySem.W.kia_one (PySem.W.handS_kitx_exc C.hg C.hk C.hs C.hd C.ha C.hn C.ht C.hm) I.kIn (show PySem.W.InstAt s.heap a _ D none from ⟨g, rfl, rfl, trivial⟩) e (fun z => nomatch z) fun tk => ⟨.bl b, H, I.tok tk, rfl, q⟩
theorem mt_lcountF : MtR X "list.count" (rCntF X.K) := by
  intro pins s σ H x xs v us Q I rx rxs h
  obtain ⟨p, ys, y, rfl, rfl, hs, fy, fys, q⟩ := h
  cases rx
  obtain ⟨u, rfl, ru⟩ := rxs.one
  obtain ⟨its, rv, ⟨⟨cls, dd, data, sl⟩, n, ho, hc, hdn, hd⟩, hlen⟩ := I.list hs
  dsimp only at hc hd
  subst hc hd
  refine call_meets PySem.F.slot_list_count ⟨_, ho, rfl⟩ PySem.F.entry_list_count (PySem.F.args_list_count_2 _ _)
    (SeqAt.list_countAt p its.toArray n dd sl u (eqU y)) ⟨ho, fun z hz => mem_eqAt ru fy rv fys z (by simpa using hz), ?_⟩
  refine ⟨.int (ys.countP fun z => eqV z y : Nat), H, I.tok _, ⟨s.toks, ?_⟩, q⟩
  show Value.int ((its.toArray.toList.countP (eqU y) : Nat) : Int) s.toks = _
  rw [show its.toArray.toList = its from by simp, count_eqU rv fys]
end

/-! ### _law_said: the worker refuses, its class's word is told -/
def wordOf3 (j : Nat) : Str := if j = 0 then "row" else if j = 1 then "number" else "place"
/-- what is told where the worker refuses by C -/
def TSaid (C : Addr) (ret : Str) : (XK → Hp → VK → Prop) → Hp → VK → Prop := fun tl H Q =>
  ∀ Q' : VK, tl (fun cls d H1 => cls = .ref C ∧ d = none ∧ ∀ (p : Addr) (H2 : Hp), Same H1 H2 → H1 p = none → H2 p = some (.lst [.str ret]) → Q (.ref p) H2) H Q'
theorem takes_len {X : Cx} {W : WX} (t : Takes X W) : Takes X (fun cls d σ H => σ.length = X.N.length → W cls d σ H) :=
  fun u s' ⟨a, B, sI, pins, σ, H, cls, d, e, I, nb, up, sky, na, os, ag, w⟩ => t u s' ⟨a, B, sI, pins, σ, H, cls, d, e, I, nb, up, sky, na, os, ag, w I.len⟩
theorem pss_ex {X : Cx} {ss : List Stmt} {α : Type} {R : α → Prop} {t : α → TS} (h : ∀ e, R e → PSs X ss (t e)) : PSs X ss (fun D σ H => ∃ e, R e ∧ t e D σ H) :=
  ⟨fun pins s σ H D I ⟨e, he, ht⟩ => (h e he).run pins s σ H D I ht⟩
theorem ex_cls {C : Addr} : ∀ u : Value, RelV (V.ref C) u → u = .ref C := fun _ r => r
theorem ex_ty {n : String} : ∀ u : Value, RelV (V.ty n) u → u = .type n := fun _ r => r
set_option maxHeartbeats 1000000 in
theorem said_gives {X : Cx} {A : Adr} (T : Tx X.K X.mg A) {C : Addr} {j : Nat} (hj : j < 3) (cc : Caught X.K C A.xHalfError A.xBadRow A.xNoNumber A.xNoPlace j) {cdv : Value} {q : Str} :
    LamX.GivesTo X n__law_said "_law_said" (defScope s__law_said) A._law_said cdv (defBody s__law_said) "_law_worker" q (TSaid C (wordOf3 j)) := by
  intro f c' s H Q tl act hc h
  refine ⟨_, pss_cons (ps_set (i := 1) sc__law_said.nd rfl (by first | exact Or.inl rfl | exact Or.inr rfl) pe_non)
    (pss_cons (ps_set (i := 2) sc__law_said.nd rfl (by first | exact Or.inl rfl | exact Or.inr rfl) pe_non)
    (pss_cons (ps_try_held (X := (cxOf C8.CX0 X.prog X.w X.K X.mg X.base n__law_said "_law_said" (defScope s__law_said) A._law_said cdv X.A X.stack s H C8.E0).nox) (i := 3) (c := .ref A.xHalfError)
      (tb := fun W D σ H => ∃ Ech : XK, (∀ cls d σ' H', Ech cls d H' → σ'.length = 5 → W cls d σ' H') ∧ σ[0]? = some (some (.ref f)) ∧ H c' = some (LamX.CodeO c' q) ∧ tl Ech H fun v H1 => D.nx (σ.set 2 (some v)) H1)
      rfl rfl rfl sc__law_said.nd rfl rfl ⟨rfl, by decide, .inl T.gHE⟩ (fun W pn xe tk => ?_)
      (fun a oe pn => pss_one (ps_set (i := 1) sc__law_said.nd rfl (by first | exact Or.inl rfl | exact Or.inr rfl) (pv 3))))
    (pss_cons (ps_if (pt_cmpR op_isN (pv 1) pe_non (nomark _)) (pss_one (ps_ret (pe_lst (pa_cons pe_str (pa_cons (pv 2) pa_nil))))) pss_nil)
      (pss_cons (ps_set (i := 4) sc__law_said.nd rfl (by first | exact Or.inl rfl | exact Or.inr rfl) (pe_lst (pa_cons (pe_callB call_isK (by rfl) T.b_isinstance (by decide +kernel) (pa_cons (pv 1) (pa_cons (pe_glob (v := V.ref A.xBadRow) rfl T.xBadRow.g rfl) pa_nil))) (pa_cons (pe_callB call_isK (by rfl) T.b_isinstance (by decide +kernel) (pa_cons (pv 1) (pa_cons (pe_glob (v := V.ref A.xNoNumber) rfl T.xNoNumber.g rfl) pa_nil))) (pa_cons (pe_callB call_isK (by rfl) T.b_isinstance (by decide +kernel) (pa_cons (pv 1) (pa_cons (pe_glob (v := V.ref A.xNoPlace) rfl T.xNoPlace.g rfl) pa_nil))) pa_nil)))))
      (pss_cons (ps_if (PW.pt (pw_or (pt_cmpR op_ne (pe_bm PySem.F.plainAttrs_list PySem.F.slot_list_count PySem.F.type_list_count mt_lcountF (pv 4) (pa_cons pe_bl pa_nil)) pe_int (nomark _)) (pw_or1 (pt_not (pt_val (pe_callB call_isK (by rfl) T.b_isinstance (by decide +kernel) (pa_cons (pv 1) (pa_cons (pe_bltn (u := .type "ValueError") (v := .ty "ValueError") (by rfl) T.b_ValueError (by decide +kernel) rfl) pa_nil)))))))) (pss_one (ps_ret (pe_lst (pa_cons pe_str pa_nil)))) pss_nil)
      (pss_one (ps_ret (pe_lst (pa_cons (pe_ix ix_list (pe_lst (pa_cons pe_str (pa_cons pe_str (pa_cons pe_str pa_nil)))) (pe_bm PySem.F.plainAttrs_list PySem.F.slot_list_index PySem.F.type_list_index mt_index (pv 4) (pa_cons pe_bl pa_nil)) (fun _ _ => rfl)) pa_nil))))))))), ?_⟩
  · exact pss_ex fun Ech hW => pss_one (ps_set (i := 2) sc__law_said.nd rfl (by first | exact Or.inl rfl | exact Or.inr rfl) (act (fun cls d σ H => σ.length = 5 → W cls d σ H) pn xe Ech _ _ (takes_len tk) hW))
  · refine ⟨_, ?_, rfl, hc, h _⟩
    rintro cls d σ' H1 ⟨rfl, rfl, hQ⟩ hl
    obtain ⟨x0, x1, x2, x3, x4, rfl⟩ : ∃ x0 x1 x2 x3 x4, σ' = [x0, x1, x2, x3, x4] := by
      match σ', hl with
      | [x0, x1, x2, x3, x4], _ => exact ⟨x0, x1, x2, x3, x4, rfl⟩
    refine ⟨cc.h, fun a ha => ⟨_, rfl, fun ha2 => ?_⟩⟩
    have s1 : Same H1 (upd H1 a (ExK (.ref C) none a)) := same_new (Same.refl H1) ha
    have hx : upd H1 a (ExK (.ref C) none a) a = some (ExK (.ref C) none a) := upd_same
    -- if _law_caught is None
    refine ⟨_, rfl, rfl, _, rfl, if_f rfl ?_⟩
    -- _law_some
    refine ⟨_, rfl, a, C, _, _, _, rfl, hx, cc.c, ex_cls, cc.br, _, rfl, a, C, _, _, _, rfl, hx, cc.c, ex_cls, cc.nn, _, rfl, a, C, _, _, _, rfl, hx, cc.c, ex_cls, cc.np, (by show 3 ≤ sizeLine; decide), fun l hl => ?_⟩
    have s2 := s1.trans (same_new (Same.refl _) (o := .lst [V.bl (decide (j = 0)), V.bl (decide (j = 1)), V.bl (decide (j = 2))]) hl)
    have hl2 : upd (upd H1 a (ExK (.ref C) none a)) l (.lst [V.bl (decide (j = 0)), V.bl (decide (j = 1)), V.bl (decide (j = 2))]) l = some (.lst [V.bl (decide (j = 0)), V.bl (decide (j = 1)), V.bl (decide (j = 2))]) := upd_same
    have hx2 : upd (upd H1 a (ExK (.ref C) none a)) l (.lst [V.bl (decide (j = 0)), V.bl (decide (j = 1)), V.bl (decide (j = 2))]) a = some (ExK (.ref C) none a) := by
      rw [upd_ne (ne_of_none hx hl)]
      exact hx
    generalize upd (upd H1 a (ExK (.ref C) none a)) l (.lst [V.bl (decide (j = 0)), V.bl (decide (j = 1)), V.bl (decide (j = 2))]) = H2 at s2 hl2 hx2
    -- if _law_some.count(True) != 1 or not isinstance(..)
    refine ⟨_, rfl, .inl ⟨rfl, _, SqL.of hl2⟩, l, _, _, rfl, rfl, SqL.of hl2, rfl, rfl, rfl, _, rfl, ?_⟩
    have hcnt : (!decide (V.int ((List.countP (fun z => eqV z (V.bl true)) [V.bl (decide (j = 0)), V.bl (decide (j = 1)), V.bl (decide (j = 2))] : Nat) : Int) = V.int 1)) = false := by
      rcases (show j = 0 ∨ j = 1 ∨ j = 2 by omega) with rfl | rfl | rfl <;> rfl
    refine if_f hcnt ?_
    refine ⟨_, rfl, a, C, _, _, _, rfl, hx2, cc.c, ex_ty, cc.ve, _, rfl, if_f rfl ?_⟩
    -- return [[..][_law_some.index(True)]]
    refine ⟨(by show 3 ≤ sizeLine; decide), fun e he => ?_⟩
    have s3 := s2.trans (same_new (Same.refl _) (o := .lst [V.str "row", V.str "number", V.str "place"]) he)
    have hl3 : upd H2 e (.lst [V.str "row", V.str "number", V.str "place"]) l = some (.lst [V.bl (decide (j = 0)), V.bl (decide (j = 1)), V.bl (decide (j = 2))]) := by
      rw [upd_ne (ne_of_none hl2 he)]
      exact hl2
    refine ⟨_, rfl, .inl ⟨rfl, _, SqL.of hl3⟩, l, _, V.bl true, j, V.bl true, rfl, rfl, SqL.of hl3, rfl, rfl, ?_, rfl, ?_, ?_⟩
    · rcases (show j = 0 ∨ j = 1 ∨ j = 2 by omega) with rfl | rfl | rfl <;> rfl
    · intro m z' hm hz
      rcases (show j = 0 ∨ j = 1 ∨ j = 2 by omega) with rfl | rfl | rfl
      · omega
      · obtain rfl : m = 0 := by omega
        cases hz
        rfl
      · rcases (show m = 0 ∨ m = 1 by omega) with rfl | rfl <;> (cases hz; rfl)
    · refine ⟨e, _, _, V.str (wordOf3 j), rfl, rfl, SqL.of upd_same, at_of (j := j) rfl ?_, (by show 1 ≤ sizeLine; decide), fun g hg => ?_⟩
      · rcases (show j = 0 ∨ j = 1 ∨ j = 2 by omega) with rfl | rfl | rfl <;> rfl
      · exact hQ g _ (s3.trans (same_new (Same.refl _) hg)) (s3.free hg) upd_same
/-! ### a lambda handed to _law_said -/
theorem okC {x qual : Str} {st : Stmt} {f : Addr} {fd : FuncData} {N ps : List Str} {k : Nat} {sp : Sp} (F : Fun K x qual st f fd) (S : FnScope N ps (defScope st)) (len : ∀ vs H Q E, sp vs H Q E → vs.length = ps.length)
    (hb : ∀ (Ar : Around) (outer : List Env) (s : Shared) (H : Hp) (vs : List V) (Q : VK) (E : XK), Room k (Ar.deeper (PyProof.Rows.envOfC qual (defScope st) s.heap.objs.size f fd.code)) → sp vs H Q E →
      ∃ t, PSs (cxOf CX0 P w K mg base N qual (defScope st) f fd.code Ar outer s H E).nox (defBody st) t ∧ t { nx := fun _ H' => Q .non H', rt := Q } (L2.start N vs) H) : FnOk P w K mg base CX0 (k + 1) f fd ps sp := by
  obtain ⟨oc, od, kV, doc, pm, an, cdv, ct, osl, e, lk, hcd⟩ := F.ex
  subst e
  refine fn_of lk hcd S len fun Ar outer s H vs Q E hr hs => ?_
  obtain ⟨t, h, q⟩ := hb Ar outer s H vs Q E hr hs
  exact ⟨t, h.nox, q⟩
theorem pe_said {X : Cx} {A : Adr} (T : Tx X.K X.mg A) {c P : Addr} {Tl : List (Addr × Str)} {k j : Nat} {C : Addr} {params : Arguments} {body : Expr} {scope : Scope} {t : XK → TE} {p lpos pos : Pos} (TB : LamX.TabB X.base X.mg c P) (hcode : X.env.code = .ref c)
    (hmT : (P, X.env.qual ++ "<lambda>") ∈ Tl) (hu : ∀ p ∈ Tl, p.1 = P → p.2 = X.env.qual ++ "<lambda>") (hr : Room (k + 2) X.A) (cc : Caught X.K C A.xHalfError A.xBadRow A.xNoNumber A.xNoPlace j) (hg : Gl X "_law_said")
    (L : LamX.LamS X.env.scope scope) (hdef : defaultsOf params X.env = ([], []))
    (hbind : ∀ (q : Str) (cl : List (Str × Addr)) (pm cv ctv : Value), bindArgs (PySem.W.kla_fn "<lambda>" q params body scope cl pm cv ctv) ⟨[], []⟩ = pure [])
    (hbody : ∀ (Ar : Around) (outer : List Env) (s : Shared) (H : Hp) (E : XK) (f c' : Addr), Room k (Ar.deeper (LamX.lamEnv X scope s.heap.objs.size f c')) → PE (LamX.lamCx X Ar outer s H E scope f c') body (t E)) (hj : j < 3 := by decide) :
    PE X (.Call (.Name "_law_said" p) [.Lambda params body scope lpos] [] pos) (LamX.tLam Tl (TSaid C (wordOf3 j)) t) := by
  obtain ⟨oc, od, kV, doc, pm, an, cdv, ct, osl, e, lk, hcd⟩ := T._law_said.F.ex
  have b := T._law_said.b
  rw [e] at lk b
  exact LamX.pe_lamcall hg T._law_said.g T._law_said.F.kp lk hcd b sc__law_said rfl (.inl rfl) (said_gives T hj cc) TB hcode hmT hu hr L hdef hbind hbody
/-! ### the ground B under a heap with tables -/
structure Gn (Tl : List (Addr × Str)) (B H : Hp) : Prop where
  s : Same B H
  n : ∀ b o, B b = some o → ∀ ps, o ≠ .tbl ps
  t : LamX.Tabs Tl H
section
variable {Tl : List (Addr × Str)} {B H H' : Hp}
theorem Gn.to (g : Gn Tl B H) (s : Same H H') : Gn Tl B H' := ⟨g.s.trans s, g.n, g.t.ext s⟩
theorem Gn.ext (g : Gn Tl B H) (e : LamX.ExtN H H') (t : LamX.Tabs Tl H') : Gn Tl B H' := ⟨fun b o q => e b o (g.s b o q) (g.n b o q), g.n, t⟩
def noT (H : Hp) : Hp := fun b => match H b with
  | some (.tbl _) => none
  | o => o
theorem noT_of {b : Addr} {o : HO} (h : H b = some o) (n : ∀ ps, o ≠ .tbl ps) : noT H b = some o := by
  unfold noT
  rw [h]
  cases o <;> first | rfl | exact absurd rfl (n _)
theorem noT_at {b : Addr} {o : HO} (h : noT H b = some o) : H b = some o ∧ ∀ ps, o ≠ .tbl ps := by
  unfold noT at h
  split at h
  · cases h
  · rename_i hn
    exact ⟨h, fun ps z => hn ps (by rw [h, z])⟩
theorem Gn.start (t : LamX.Tabs Tl H) : Gn Tl (noT H) H := ⟨fun b o e => (noT_at e).1, fun b o e => (noT_at e).2, t⟩
end
def spLawT (K : PySem.W.Frag) (A : Adr) : Sp := fun vs H Q _ => ∃ (a : Addr) (ns : List Int), vs = [.ref a] ∧ SqL K H a (ns.map V.int) ∧ ns.length ≤ 63 ∧ LamX.Tabs (Tb A) H ∧ ∀ H', Q (.bl true) H'
/-! ### readings of 'if _law_said(lambda: ..) != [word]' -/
section
variable {Tl : List (Addr × Str)} {B H : Hp} {C : Addr} {wd wd' : Str} {t : XK → TE} {σ : L2.St}
theorem said_core {Q : VK} {r : R2} (g : Gn Tl B H) (hw : wd' = wd) (ht : ∀ (E : XK) (H1 : Hp) (Q' : VK), Gn Tl B H1 → (∀ H2, Same H1 H2 → E (.ref C) none H2) → t E σ H1 Q')
    (k : ∀ (p q : Addr) (H2 : Hp), Gn Tl B H2 → H2 p = some (.lst [.str wd]) → H2 q = some (.lst [.str wd]) → r (.ref p) (.ref q) H2 Q) :
    tOp r (LamX.tLam Tl (TSaid C wd') t) (tLst (tCons (tC (.str wd)) tNil)) σ H Q := by
  subst hw
  refine ⟨g.t, fun H1 e1 t1 Q' => ht _ H1 Q' (g.ext e1 t1) fun H2 s2 => ⟨rfl, rfl, fun p H3 s3 hp hp3 => ⟨(by show 1 ≤ sizeLine; decide), fun q hq => ?_⟩⟩⟩
  exact k p q _ ((((g.ext e1 t1).to s2).to s3).to (same_new (Same.refl H3) hq)) (by rw [upd_ne (ne_of_none hp3 hq)]; exact hp3) upd_same
theorem str_data {H : Hp} {p : Addr} (h : H p = some (.lst [.str wd])) : Dp K H (.ref p) (.list [.str wd]) := .lst (SqL.of h) (.cons (.str _) .nil)
theorem str_lay (hk : PyData.strOk wd = true) : (PyData.list [.str wd]).canLay0 = true := by simp [PyData.canLay0, PyData.canLayAll0, hk]
theorem str_shaped (hk : PyData.strOk wd = true) : SeqAt.shaped (.list [.str wd]) = true := by
  unfold SeqAt.shaped
  rw [str_lay hk]
  simp [PyData.depth, PyData.depthAll]
theorem said_ne {Q : Bool → Hp → Prop} (g : Gn Tl B H) (hw : wd' = wd) (ht : ∀ (E : XK) (H1 : Hp) (Q' : VK), Gn Tl B H1 → (∀ H2, Same H1 H2 → E (.ref C) none H2) → t E σ H1 Q') (k : ∀ H2, Gn Tl B H2 → Q false H2) (hk : PyData.strOk wd = true := by decide +kernel) :
    tTest (tOp (rNeD K) (LamX.tLam Tl (TSaid C wd') t) (tLst (tCons (tC (.str wd)) tNil))) σ H Q :=
  said_core g hw ht fun p q H2 g2 hp hq => ⟨_, _, str_data hp, str_data hq, str_shaped hk, str_shaped hk, _, by rw [SeqAt.eqv_refl _ (str_lay hk)]; rfl, k H2 g2⟩
theorem said_eq {Q : VK} (g : Gn Tl B H) (hw : wd' = wd) (ht : ∀ (E : XK) (H1 : Hp) (Q' : VK), Gn Tl B H1 → (∀ H2, Same H1 H2 → E (.ref C) none H2) → t E σ H1 Q') (k : ∀ H2, Gn Tl B H2 → Q (.bl true) H2) (hk : PyData.strOk wd = true := by decide +kernel) :
    tOp (rEqD K) (LamX.tLam Tl (TSaid C wd') t) (tLst (tCons (tC (.str wd)) tNil)) σ H Q :=
  said_core g hw ht fun p q H2 g2 hp hq => ⟨_, _, str_data hp, str_data hq, str_shaped hk, str_shaped hk, by rw [SeqAt.eqv_refl _ (str_lay hk)]; exact k H2 g2⟩
end
section
variable {Tl : List (Addr × Str)} {B B' H H' : Hp}
theorem Gn.hold (g : Gn Tl B H) {z : Addr} {o : HO} (hz : H z = none) (no : ∀ ps, o ≠ .tbl ps) : Gn Tl (upd B z o) (upd H z o) := by
  refine ⟨fun b u e => ?_, fun b u e => ?_, g.t.ext (same_new (Same.refl H) hz)⟩
  · by_cases q : b = z
    · subst q
      rw [upd_same] at e ⊢
      exact e
    · rw [upd_ne q] at e ⊢
      exact g.s _ _ e
  · by_cases q : b = z
    · subst q
      rw [upd_same] at e
      cases e
      exact no
    · rw [upd_ne q] at e
      exact g.n _ _ e
theorem Gn.back (g : Gn Tl B' H) (s : Same B B') : Gn Tl B H := ⟨s.trans g.s, fun b o e => g.n b o (s _ _ e), g.t⟩
theorem Gn.free (g : Gn Tl B H) {z : Addr} (hz : H z = none) : B z = none := g.s.free hz
/-- the dict at d is written, which is not of the ground -/
theorem Gn.keep (g : Gn Tl B H) {d : Addr} {kvs : List (Key × V)} (hd : H d = some (.dK kvs)) (kp : Keep d H H') (fd : B d = none) : Gn Tl B H' := by
  refine ⟨fun b o e => kp _ _ (g.s _ _ e) (ne_of_none e fd), g.n, fun p hp => ?_⟩
  obtain ⟨ps, h1, h2, h3⟩ := g.t p hp
  refine ⟨ps, kp _ _ h1 (ne_of h1 hd (by intro z; cases z)), h2, fun pos cv hc => ?_⟩
  obtain ⟨c, e1, e2⟩ := h3 pos cv hc
  exact ⟨c, e1, kp _ _ e2 (ne_of e2 hd (by intro z; unfold LamX.CodeO at z; cases z))⟩
end
theorem BRow.noT {C : Addr} {H : Hp} {p : Addr} {l : List Bool} (R : BRow C H p l) : BRow C (noT H) p l := by
  obtain ⟨a, b, ⟨dx, hp⟩, ha, hb, r1, r2⟩ := R
  exact ⟨a, b, ⟨dx, noT_of hp (by intro ps z; cases z)⟩, noT_of ha (by intro ps z; cases z), noT_of hb (by intro ps z; cases z), r1, r2⟩
/-! ### things that are no numbers from nought on -/
def Odd (H : Hp) (v : V) : Prop := v = .non ∨ (∃ b, v = .bl b) ∨ (∃ z, v = .str z) ∨ (∃ a xs, v = .ref a ∧ H a = some (.lst xs)) ∨ (∃ a xs, v = .ref a ∧ H a = some (.tup xs)) ∨ (∃ a kvs, v = .ref a ∧ H a = some (.dK kvs)) ∨ ∃ i : Int, v = .int i ∧ i < 0
theorem Odd.same {H H' : Hp} {v : V} (s : Same H H') (h : Odd H v) : Odd H' v := by
  rcases h with h | h | h | ⟨a, xs, e, h⟩ | ⟨a, xs, e, h⟩ | ⟨a, xs, e, h⟩ | h
  · exact .inl h
  · exact .inr (.inl h)
  · exact .inr (.inr (.inl h))
  · exact .inr (.inr (.inr (.inl ⟨a, xs, e, s _ _ h⟩)))
  · exact .inr (.inr (.inr (.inr (.inl ⟨a, xs, e, s _ _ h⟩))))
  · exact .inr (.inr (.inr (.inr (.inr (.inl ⟨a, xs, e, s _ _ h⟩)))))
  · exact .inr (.inr (.inr (.inr (.inr (.inr h)))))
theorem Odd.noT {H : Hp} {v : V} (h : Odd H v) : Odd (noT H) v := by
  rcases h with h | h | h | ⟨a, xs, e, h⟩ | ⟨a, xs, e, h⟩ | ⟨a, xs, e, h⟩ | h
  · exact .inl h
  · exact .inr (.inl h)
  · exact .inr (.inr (.inl h))
  · exact .inr (.inr (.inr (.inl ⟨a, xs, e, noT_of h (by intro ps z; cases z)⟩)))
  · exact .inr (.inr (.inr (.inr (.inl ⟨a, xs, e, noT_of h (by intro ps z; cases z)⟩))))
  · exact .inr (.inr (.inr (.inr (.inr (.inl ⟨a, xs, e, noT_of h (by intro ps z; cases z)⟩)))))
  · exact .inr (.inr (.inr (.inr (.inr (.inr h)))))
theorem Odd.ty {H : Hp} {v : V} (h : Odd H v) : ∃ n, TyN K H v n := by
  rcases h with rfl | ⟨b, rfl⟩ | ⟨z, rfl⟩ | ⟨a, xs, rfl, h⟩ | ⟨a, xs, rfl, h⟩ | ⟨a, xs, rfl, h⟩ | ⟨i, rfl, _⟩
  · exact ⟨_, .non⟩
  · exact ⟨_, .bl b⟩
  · exact ⟨_, .str z⟩
  · exact ⟨_, .lst (SqL.of h)⟩
  · exact ⟨_, .tup (SqT.of h)⟩
  · exact ⟨_, .dct h⟩
  · exact ⟨_, .int i⟩
theorem int_no {i lo hi : Int} (h : i < lo ∨ hi < i) : amongV (.int i) lo hi = false := by
  show (decide (lo ≤ i) && decide (i ≤ hi)) = false
  rcases h with h | h
  · rw [decide_eq_false (show ¬ lo ≤ i by omega), Bool.false_and]
  · rw [decide_eq_false (show ¬ i ≤ hi by omega), Bool.and_false]
theorem Odd.no {H : Hp} {v : V} (h : Odd H v) {lo hi : Int} (h0 : 0 ≤ lo) : amongV v lo hi = false := by
  rcases h with rfl | ⟨b, rfl⟩ | ⟨z, rfl⟩ | ⟨a, xs, rfl, h⟩ | ⟨a, xs, rfl, h⟩ | ⟨a, xs, rfl, h⟩ | ⟨i, rfl, h⟩ <;> first | rfl | exact int_no (.inl (by omega))
/-- a thing that is no number from lo to hi -/
def Bad (K : PySem.W.Frag) (H : Hp) (v : V) (lo hi : Int) : Prop := (∃ n, TyN K H v n) ∧ amongV v lo hi = false
theorem Bad.same {H H' : Hp} {v : V} {lo hi : Int} (s : Same H H') (h : Bad K H v lo hi) : Bad K H' v lo hi := ⟨h.1.imp fun _ z => z.same s, h.2⟩
theorem Odd.bad {H : Hp} {v : V} {lo hi : Int} (h : Odd H v) (h0 : 0 ≤ lo) : Bad K H v lo hi := ⟨h.ty, h.no h0⟩
theorem Bad.int {H : Hp} {i lo hi : Int} (h : i < lo ∨ hi < i) : Bad K H (.int i) lo hi := ⟨⟨_, .int i⟩, int_no h⟩
def spKinds : Sp := fun vs H Q _ => ∃ n : Nat, vs = [nV n] ∧ ∀ (v : V) (H' : Hp), Same H H' → Odd H' v → (∀ a, v = .ref a → H a = none) → Q v H'
theorem odd_int {H : Hp} {m : Nat} {e : Int} (he : e = (10 : Int) ^ ((20 : Int).toNat)) : Odd H (.int (-1 - (m : Int) % 3 * e)) := by
  refine .inr (.inr (.inr (.inr (.inr (.inr ⟨_, rfl, ?_⟩)))))
  have h1 : 0 ≤ (m : Int) % 3 * e := Int.mul_nonneg (by omega) (by rw [he]; decide)
  omega
set_option maxHeartbeats 1000000 in
theorem ok__law_odd (T : Tx K mg A) : FnOk P w K mg base CX0 1 A._law_odd A._law_odd_d ["_law_n"] spKinds := by
  refine T._law_odd.F.ok sc__law_odd (fun vs H Q E h => ?_) (fun cdv Ar outer s H vs Q E hr h => ?_)
  · obtain ⟨n, rfl, _⟩ := h
    rfl
  · obtain ⟨n, rfl, kQ⟩ := h
    refine ⟨_, (pss_one (ps_ret (pe_ix ix_list (pe_lst (pa_cons pe_non (pa_cons pe_bl (pa_cons pe_bl (pa_cons pe_str (pa_cons (pe_lst (pa_cons pe_int pa_nil)) (pa_cons (pe_tup (pa_cons pe_int pa_nil)) (pa_cons pe_dnewK (pa_cons (pe_op op_sub (pe_un un_neg pe_int) (pe_op op_mul (pe_op op_mod (pe_op op_fdiv (pv 0) pe_int) pe_int) (pe_op op_pow pe_int pe_int))) pa_nil))))))))) (pe_op op_mod (pv 0) pe_int) (fun _ _ => rfl)))), ?_⟩
    refine ⟨(by show 1 ≤ sizeLine; decide), fun q hq => ⟨(by show 1 ≤ sizeLine; decide), fun t ht => fun dd hd => ?_⟩⟩
    refine ⟨_, rfl, _, rfl, _, _, rfl, rfl, ⟨by decide, by decide⟩, _, _, rfl, rfl, (by show (0 : Int) < 3; decide), _, _, rfl, rfl, ⟨by decide, by decide, by decide⟩, _, _, rfl, rfl, .inl ⟨?_, ?_⟩, _, _, rfl, rfl, ?_⟩
    · show -(2 ^ 64) < (n : Int) / 8 % 3
      omega
    · show (n : Int) / 8 % 3 < 2 ^ 64
      omega
    refine ⟨(by show 8 ≤ sizeLine; decide), fun l hl => ?_⟩
    refine ⟨_, rfl, _, _, rfl, rfl, (by show (0 : Int) < 8; decide), ?_⟩
    obtain ⟨j, hj, hj8⟩ : ∃ j : Nat, (n : Int) % 8 = (j : Int) ∧ j < 8 := ⟨((n : Int) % 8).toNat, by omega, by omega⟩
    have s1 := same_new (Same.refl H) (o := .lst [V.int 0]) hq
    have s2 := same_new (Same.refl _) (o := .tup [V.int 0]) ht
    have s3 := same_new (Same.refl _) (o := .dK []) hd
    have s4 := same_new (Same.refl _) (o := .lst [V.non, V.bl true, V.bl false, V.str "0", V.ref q, V.ref t, V.ref dd, V.int (-1 - (n : Int) / 8 % 3 * 10 ^ (20 : Int).toNat)]) hl
    have sA := ((s1.trans s2).trans s3).trans s4
    have hq4 := s4 _ _ (s3 _ _ (s2 q _ upd_same))
    have ht4 := s4 _ _ (s3 t _ upd_same)
    have hd4 := s4 dd _ upd_same
    obtain ⟨m, hm⟩ : ∃ m : Nat, (n : Int) / 8 = (m : Int) := ⟨n / 8, by omega⟩
    obtain ⟨v, e, o, fr⟩ : ∃ v : V, [V.non, V.bl true, V.bl false, V.str "0", V.ref q, V.ref t, V.ref dd, V.int (-1 - (n : Int) / 8 % 3 * 10 ^ (20 : Int).toNat)][j]? = some v ∧ Odd (upd (upd (upd (upd H q (.lst [V.int 0])) t (.tup [V.int 0])) dd (.dK [])) l
        (.lst [V.non, V.bl true, V.bl false, V.str "0", V.ref q, V.ref t, V.ref dd, V.int (-1 - (n : Int) / 8 % 3 * 10 ^ (20 : Int).toNat)])) v ∧ ∀ a, v = .ref a → H a = none := by
      rcases (show j = 0 ∨ j = 1 ∨ j = 2 ∨ j = 3 ∨ j = 4 ∨ j = 5 ∨ j = 6 ∨ j = 7 by omega) with rfl | rfl | rfl | rfl | rfl | rfl | rfl | rfl
      · exact ⟨_, rfl, .inl rfl, fun a z => by cases z⟩
      · exact ⟨_, rfl, .inr (.inl ⟨_, rfl⟩), fun a z => by cases z⟩
      · exact ⟨_, rfl, .inr (.inl ⟨_, rfl⟩), fun a z => by cases z⟩
      · exact ⟨_, rfl, .inr (.inr (.inl ⟨_, rfl⟩)), fun a z => by cases z⟩
      · exact ⟨_, rfl, .inr (.inr (.inr (.inl ⟨_, _, rfl, hq4⟩))), fun a z => by cases z; exact hq⟩
      · exact ⟨_, rfl, .inr (.inr (.inr (.inr (.inl ⟨_, _, rfl, ht4⟩)))), fun a z => by cases z; exact s1.free ht⟩
      · exact ⟨_, rfl, .inr (.inr (.inr (.inr (.inr (.inl ⟨_, _, rfl, hd4⟩))))), fun a z => by cases z; exact (s1.trans s2).free hd⟩
      · refine ⟨_, rfl, ?_, fun a z => by cases z⟩
        rw [hm]
        exact odd_int rfl
    exact ⟨l, _, _, v, rfl, rfl, SqL.of upd_same, at_of hj e, kQ v _ sA o fr⟩
theorem pickP {xs : List V} {z : Int} {R : V → Prop} (h0 : 0 ≤ z) (h1 : z < (xs.length : Int)) (hall : ∀ x ∈ xs, R x) : ∃ v, atI xs z = some v ∧ R v := by
  have hj : z.toNat < xs.length := by omega
  exact ⟨xs[z.toNat], at_of (j := z.toNat) (by omega) (List.getElem?_eq_getElem hj), hall _ (List.getElem_mem hj)⟩
theorem Gn.re {Tl : List (Addr × Str)} {B H : Hp} (g : Gn Tl B H) : Gn Tl (noT H) H ∧ Same B (noT H) := ⟨Gn.start g.t, fun b o e => noT_of (g.s b o e) (g.n b o e)⟩
theorem far_of {m : Nat} {n : Int} {e : Int} (he : 0 ≤ e) : ∃ far : Int, V.int ((m : Int) + n % 3 * e) = .int far ∧ (m : Int) ≤ far := by
  refine ⟨_, rfl, ?_⟩
  have h1 : 0 ≤ n % 3 * e := Int.mul_nonneg (by omega) he
  omega

/-! ### what a row of numbers refuses -/
/-- first and behind are no stretch of n places -/
def NoStr (K : PySem.W.Frag) (H : Hp) (f b : V) (n : Nat) : Prop := (∃ m, TyN K H f m) ∧ (∃ m, TyN K H b m) ∧ (amongV f 0 (n : Int) = false ∨ ∃ i : Nat, f = nV i ∧ i ≤ n ∧ amongV b (i : Int) (n : Int) = false)
theorem NoStr.same {H H' : Hp} {f b : V} {n : Nat} (s : Same H H') (h : NoStr K H f b n) : NoStr K H' f b n := ⟨h.1.imp fun _ z => z.same s, h.2.1.imp fun _ z => z.same s, h.2.2⟩
section
variable {C D X Y : Addr} {H : Hp} {p : Addr} {w : Nat} {ns : List Nat} {v u f b : V} {Q : VK} {E : XK}
theorem no_str {kk : Nat → Nat → Prop} (h : NoStr K H f b ns.length) (k : E (.ref Y) none H) : strArgs Y ns f b H E kk := by
  obtain ⟨_, _, h⟩ := h
  refine ⟨fun _ => k, fun i ei hi => ⟨fun _ => k, fun j ej hij hj => ?_⟩⟩
  exfalso
  rcases h with h | ⟨i', ei', _, h⟩
  · rw [ei, nat_among hi] at h
    cases h
  · rw [ei] at ei'
    have := nV_inj ei'
    subst this
    rw [ej, show amongV (nV j) (i : Int) (ns.length : Int) = true from among_in (by omega) (by omega)] at h
    cases h
theorem bad_top {x : Nat} (h : amongV (nV x) 0 (topN w) = false) (hx : x < 2 ^ w) : False := by
  rw [top_among hx] at h
  cases h
theorem bad_at {i m : Nat} (h : amongV (nV i) 0 ((m : Int) - 1) = false) (hi : i < m) : False := by
  rw [lt_among hi] at h
  cases h
theorem no_countN (R : HRow C D H p w ns) (hv : Bad K H v 0 (topN w)) (hf : ∃ n, TyN K H f n) (hb : ∃ n, TyN K H b n) (k : E (.ref X) none H) : spCount K C D X Y [.ref p, v, f, b] H Q E := by
  obtain ⟨⟨n, hn⟩, hv⟩ := hv
  obtain ⟨m1, hf⟩ := hf
  obtain ⟨m2, hb⟩ := hb
  refine ⟨p, w, ns, v, f, b, n, m1, m2, rfl, R, hn, hf, hb, fun _ => k, fun x ex hx => ?_⟩
  rw [ex] at hv
  exact (bad_top hv hx).elim
theorem no_belowN (R : HRow C D H p w ns) (hv : Bad K H v 0 (topN w)) (hf : ∃ n, TyN K H f n) (hb : ∃ n, TyN K H b n) (k : E (.ref X) none H) : spBelow K C D X Y [.ref p, v, f, b] H Q E := by
  obtain ⟨⟨n, hn⟩, hv⟩ := hv
  obtain ⟨m1, hf⟩ := hf
  obtain ⟨m2, hb⟩ := hb
  refine ⟨p, w, ns, v, f, b, n, m1, m2, rfl, R, hn, hf, hb, fun _ => k, fun x ex hx => ?_⟩
  rw [ex] at hv
  exact (bad_top hv hx).elim
theorem no_placeN (R : HRow C D H p w ns) (hv : Bad K H v 0 (topN w)) (hu : ∃ n, TyN K H u n) (k : E (.ref X) none H) : spHPlace K C D X Y [.ref p, v, u] H Q E := by
  obtain ⟨⟨n, hn⟩, hv⟩ := hv
  obtain ⟨m1, hu⟩ := hu
  refine ⟨p, w, ns, v, u, n, m1, rfl, R, hn, hu, fun _ => k, fun x ex hx => ?_⟩
  rw [ex] at hv
  exact (bad_top hv hx).elim
theorem no_putP (R : HRow C D H p w ns) (hv : Bad K H v 0 ((ns.length : Int) - 1)) (hu : ∃ n, TyN K H u n) (k : E (.ref Y) none H) : spHPut K C D X Y [.ref p, v, u] H Q E := by
  obtain ⟨⟨n, hn⟩, hv⟩ := hv
  obtain ⟨m1, hu⟩ := hu
  obtain ⟨q, R⟩ := R
  refine ⟨p, q, w, ns, v, u, n, m1, rfl, R, hn, hu, fun _ => k, fun i ei hi => ?_⟩
  rw [ei] at hv
  exact (bad_at hv hi).elim
theorem no_putN {i : Nat} (R : HRow C D H p w ns) (hi : i < ns.length) (hu : Bad K H u 0 (topN w)) (k : E (.ref X) none H) : spHPut K C D X Y [.ref p, nV i, u] H Q E := by
  obtain ⟨⟨n, hn⟩, hu⟩ := hu
  obtain ⟨q, R⟩ := R
  refine ⟨p, q, w, ns, _, u, "int", n, rfl, R, TyN.int _, hn, fun z => (bad_at z hi).elim, fun j _ _ => ⟨fun _ => k, fun x ex hx => ?_⟩⟩
  rw [ex] at hu
  exact (bad_top hu hx).elim
theorem nought_lt (w : Nat) : 0 < 2 ^ w := Nat.two_pow_pos w
theorem no_countS (R : HRow C D H p w ns) (h : NoStr K H f b ns.length) (k : E (.ref Y) none H) : spCount K C D X Y [.ref p, nV 0, f, b] H Q E := by
  obtain ⟨⟨m1, hf⟩, ⟨m2, hb⟩, _⟩ := id h
  refine ⟨p, w, ns, _, f, b, "int", m1, m2, rfl, R, TyN.int _, hf, hb, fun z => (bad_top z (nought_lt w)).elim, fun x _ _ => no_str h k⟩
theorem no_belowS (R : HRow C D H p w ns) (h : NoStr K H f b ns.length) (k : E (.ref Y) none H) : spBelow K C D X Y [.ref p, nV 0, f, b] H Q E := by
  obtain ⟨⟨m1, hf⟩, ⟨m2, hb⟩, _⟩ := id h
  refine ⟨p, w, ns, _, f, b, "int", m1, m2, rfl, R, TyN.int _, hf, hb, fun z => (bad_top z (nought_lt w)).elim, fun x _ _ => no_str h k⟩
theorem no_leastS (R : HRow C D H p w ns) (h : NoStr K H f b ns.length) (k : E (.ref Y) none H) : spLeast K C D Y [.ref p, nV 0, f, b] H Q E := by
  obtain ⟨⟨m1, hf⟩, ⟨m2, hb⟩, _⟩ := id h
  exact ⟨p, w, ns, _, f, b, "int", m1, m2, rfl, R, TyN.int _, hf, hb, no_str h k⟩
theorem no_oftenS (R : HRow C D H p w ns) (h : NoStr K H f b ns.length) (k : E (.ref Y) none H) : spOften K C D Y [.ref p, f, b] H Q E := by
  obtain ⟨⟨m1, hf⟩, ⟨m2, hb⟩, _⟩ := id h
  exact ⟨p, w, ns, f, b, m1, m2, rfl, R, hf, hb, no_str h k⟩
theorem no_leastT {i j : Nat} (R : HRow C D H p w ns) (hij : i ≤ j) (hj : j ≤ ns.length) (hv : Bad K H v 0 ((j : Int) - (i : Int) - 1)) (k : E (.ref Y) none H) : spLeast K C D Y [.ref p, v, nV i, nV j] H Q E := by
  obtain ⟨⟨n, hn⟩, hv⟩ := hv
  refine ⟨p, w, ns, v, _, _, n, "int", "int", rfl, R, hn, TyN.int _, TyN.int _, str_args hij hj ⟨fun _ => k, fun t u et ht => ?_⟩⟩
  exfalso
  rw [et, show amongV (nV t) 0 ((j : Int) - (i : Int) - 1) = true from among_in (by omega) (by omega)] at hv
  cases hv
theorem no_placeT {x : Nat} (R : HRow C D H p w ns) (hx : x < 2 ^ w) (hu : Bad K H u 0 ((ns.count x : Int) - 1)) (k : ∀ H', Same H H' → E (.ref Y) none H') : spHPlace K C D X Y [.ref p, nV x, u] H Q E := by
  obtain ⟨⟨n, hn⟩, hu⟩ := hu
  refine ⟨p, w, ns, _, u, "int", n, rfl, R, TyN.int _, hn, fun z => (bad_top z hx).elim, fun y ey hy => ?_⟩
  have := nV_inj ey
  subst this
  refine ⟨fun _ => k, fun t r et ht => ?_⟩
  rw [et] at hu
  exact (bad_at hu ht).elim
theorem no_oftenE {i : Nat} (R : HRow C D H p w ns) (hi : i ≤ ns.length) (k : E (.ref Y) none H) : spOften K C D Y [.ref p, nV i, nV i] H Q E :=
  ⟨p, w, ns, _, _, "int", "int", rfl, R, TyN.int _, TyN.int _, str_args (Nat.le_refl _) hi ⟨fun _ => k, fun z => absurd z (Nat.lt_irrefl _)⟩⟩
theorem no_num (R : HRow C D H p w ns) (hv : Bad K H v 0 ((ns.length : Int) - 1)) (k : E (.ref X) none H) : spNumAt K C D X [.ref p, v] H Q E := by
  obtain ⟨⟨n, hn⟩, hv⟩ := hv
  refine ⟨p, w, ns, v, n, rfl, R, hn, fun _ => k, fun i m ei hi => ?_⟩
  rw [ei] at hv
  exact (bad_at hv (List.getElem?_eq_some_iff.mp hi).1).elim
theorem no_words (R : HRow C D H p w ns) (hv : Bad K H v 0 ((w : Int) - 1)) (k : E (.ref X) none H) : spHWords K C D X [.ref p, v] H Q E := by
  obtain ⟨⟨n, hn⟩, hv⟩ := hv
  refine ⟨p, w, ns, v, n, rfl, R, hn, fun _ => k, fun l el hl => ?_⟩
  rw [el] at hv
  exact (bad_at hv hl).elim
end
/-- v, u are no numbers and no width -/
def NoRow (K : PySem.W.Frag) (H : Hp) (v u : V) : Prop := ∃ n m, TyN K H v n ∧ TyN K H u m ∧ ((amongV u 1 64 = false ∨ n ≠ "list") ∨
  ∃ (w : Nat) (a : Addr) (xs : List V), u = nV w ∧ v = .ref a ∧ H a = some (.lst xs) ∧ (∀ x ∈ xs, ∃ m, TyN K H x m) ∧ (200 < xs.length ∨ ∃ x ∈ xs, amongV x 0 (topN w) = false))
theorem NoRow.same {H H' : Hp} {v u : V} (s : Same H H') (h : NoRow K H v u) : NoRow K H' v u := by
  obtain ⟨n, m, hv, hu, h⟩ := h
  refine ⟨n, m, hv.same s, hu.same s, h.imp id ?_⟩
  rintro ⟨w, a, xs, e1, e2, h1, h2, h3⟩
  exact ⟨w, a, xs, e1, e2, s _ _ h1, fun x hx => (h2 x hx).imp fun _ z => z.same s, h3⟩
theorem no_hrow {C D X x dx : Addr} {H1 : Hp} {v u : V} {Q : VK} {E : XK} (h : NoRow K H1 v u) (nx : H1 x = none) (ndx : H1 dx = none) (k : ∀ H', Same H1 H' → E (.ref X) none H') :
    spHInit K C D X [.ref x, v, u] (upd (upd H1 dx (.own x)) x (.ins D dx [])) Q E := by
  have s0 : Same H1 (upd (upd H1 dx (.own x)) x (.ins D dx [])) := fun b o e => by
    rw [upd_ne (ne_of_none e nx), upd_ne (ne_of_none e ndx)]
    exact e
  obtain ⟨n, m, hv, hu, h⟩ := h
  refine ⟨x, dx, v, u, n, m, rfl, upd_same, hv.same s0, hu.same s0, fun _ H' s => k H' (s0.trans s), fun w eu w1 w64 en => ?_⟩
  rcases h with (h | h) | ⟨w', a, xs, e1, e2, h1, h2, h3⟩
  · rw [eu, show amongV (nV w) 1 64 = true from among_in (by omega) (by omega)] at h
    cases h
  · exact absurd en h
  · rw [eu] at e1
    have := nV_inj e1
    subst this
    refine ⟨a, xs, e2, SqL.of (s0 _ _ h1), fun y hy => (h2 y hy).imp fun _ z => z.same s0, fun _ H' s => k H' (s0.trans s), fun ms em hml hlt => ?_⟩
    exfalso
    subst em
    rcases h3 with z | ⟨y, hy, z⟩
    · rw [List.length_map] at z
      omega
    · obtain ⟨c, hc, rfl⟩ := List.mem_map.mp hy
      exact bad_top z (hlt c hc)
/-! ### values refused -/
def spValues (K : PySem.W.Frag) (A : Adr) : Sp := fun vs H Q _ => ∃ (p : Addr) (w : Nat) (ns : List Nat) (B : Hp) (bad : V), vs = [.ref p, nV ns.length, bad] ∧ Gn (Tb A) B H ∧ HRow A.cB A.cH B p w ns ∧ Bad K B bad 0 (topN w) ∧ ∀ H', Gn (Tb A) B H' → Q (.bl true) H'
set_option maxHeartbeats 2000000 in
theorem ok__law_values_refused (T : Tx K mg A) (TB : TbB mg base A) : FnOk P w K mg base CX0 16 A._law_values_refused A._law_values_refused_d ["_law_row_here", "_law_size", "_law_bad"] (spValues K A) := by
  refine okC T._law_values_refused.F sc__law_values_refused (fun vs H Q E h => ?_) (fun Ar outer s H vs Q E hr h => ?_)
  · obtain ⟨p, w, ns, B, bad, rfl, _⟩ := h
    rfl
  · obtain ⟨p, w, ns, B, bad, rfl, g, R, hb, kQ⟩ := h
    obtain ⟨q0, Rq⟩ := id R
    obtain ⟨dx, hp⟩ := Rq.ob
    have noh : ∀ {m : Str}, ¬ m = "halves" → ¬ m = "wide" → ¬ m = "size" → (hrf ns.length w q0).lookup m = none := fun h1 h2 h3 => hrf_no _ _ _ h1 h2 h3
    refine ⟨_, (pss_cons (ps_for PassesOwn.never rfl (pi_tup (pe_tup (pa_cons (pe_tup (pa_cons pe_int (pa_cons (pv 1) pa_nil))) (pa_cons (pe_tup (pa_cons pe_int (pa_cons pe_int pa_nil))) (pa_cons (pe_tup (pa_cons pe_int (pa_cons (pe_op op_add (pv 1) pe_int) pa_nil))) pa_nil))))) (pg_tup (by rfl) (pgs_cons (pg_name (i := 3) sc__law_values_refused.nd rfl (by first | exact Or.inl rfl | exact Or.inr rfl)) (pgs_cons (pg_name (i := 4) sc__law_values_refused.nd rfl (by first | exact Or.inl rfl | exact Or.inr rfl)) pgs_nil))) (pss_cons (ps_if (pt_cmpR (op_neD (hr.units)) (pe_said T TB._law_values_refused T._law_values_refused_cd (Tl := Tb A) tbm__law_values_refused (tbu__law_values_refused T) (hr.mono (by decide) : Room 14 _) T.cNoNumber rfl (show LamX.LamS (defScope s__law_values_refused) _ from LamX.lamS_by (by decide +kernel)) rfl (fun _ _ _ _ _ => rfl) (fun _ _ _ _ _ _ _ hr => (pe_meth (pv 0) T.clH T.H_count.m (ok_H_count T) (hr.mono (by decide)) T.H_count.b .nil (passes_call (takes_of rfl rfl rfl rfl) (fun _ _ _ _ h => h)) (pa_cons (pv 2) (pa_cons (pv 3) (pa_cons (pv 4) pa_nil)))))) (pe_lst (pa_cons pe_str pa_nil)) (nomark _)) (pss_one (ps_ret pe_bl)) pss_nil)
      (pss_one (ps_if (pt_cmpR (op_neD (hr.units)) (pe_said T TB._law_values_refused T._law_values_refused_cd (Tl := Tb A) tbm__law_values_refused (tbu__law_values_refused T) (hr.mono (by decide) : Room 14 _) T.cNoNumber rfl (show LamX.LamS (defScope s__law_values_refused) _ from LamX.lamS_by (by decide +kernel)) rfl (fun _ _ _ _ _ => rfl) (fun _ _ _ _ _ _ _ hr => (pe_meth (pv 0) T.clH T.H_below.m (ok_H_below T) (hr.mono (by decide)) T.H_below.b .nil (passes_call (takes_of rfl rfl rfl rfl) (fun _ _ _ _ h => h)) (pa_cons (pv 2) (pa_cons (pv 3) (pa_cons (pv 4) pa_nil)))))) (pe_lst (pa_cons pe_str pa_nil)) (nomark _)) (pss_one (ps_ret pe_bl)) pss_nil))))
      (pss_cons (ps_for PassesOwn.never rfl (pi_tup (pe_tup (pa_cons pe_int (pa_cons (pe_un un_neg pe_int) pa_nil)))) (pg_name (i := 5) sc__law_values_refused.nd rfl (by first | exact Or.inl rfl | exact Or.inr rfl)) (pss_one (ps_if (pt_cmpR (op_neD (hr.units)) (pe_said T TB._law_values_refused T._law_values_refused_cd (Tl := Tb A) tbm__law_values_refused (tbu__law_values_refused T) (hr.mono (by decide) : Room 14 _) T.cNoNumber rfl (show LamX.LamS (defScope s__law_values_refused) _ from LamX.lamS_by (by decide +kernel)) rfl (fun _ _ _ _ _ => rfl) (fun _ _ _ _ _ _ _ hr => (pe_meth (pv 0) T.clH T.H_place_of.m (ok_H_place_of T) (hr.mono (by decide)) T.H_place_of.b .nil (passes_call (takes_of rfl rfl rfl rfl) (fun _ _ _ _ h => h)) (pa_cons (pv 2) (pa_cons (pv 5) pa_nil))))) (pe_lst (pa_cons pe_str pa_nil)) (nomark _)) (pss_one (ps_ret pe_bl)) pss_nil)))
      (pss_cons (ps_if (pt_cmpR (op_neD (hr.units)) (pe_said T TB._law_values_refused T._law_values_refused_cd (Tl := Tb A) tbm__law_values_refused (tbu__law_values_refused T) (hr.mono (by decide) : Room 14 _) T.cNoPlace rfl (show LamX.LamS (defScope s__law_values_refused) _ from LamX.lamS_by (by decide +kernel)) rfl (fun _ _ _ _ _ => rfl) (fun _ _ _ _ _ _ _ hr => (pe_meth (pv 0) T.clH T.H_put.m (ok_H_put T) (hr.mono (by decide)) T.H_put.b .nil (passes_call (takes_of rfl rfl rfl rfl) (fun _ _ _ _ h => h)) (pa_cons (pv 1) (pa_cons (pv 2) pa_nil))))) (pe_lst (pa_cons pe_str pa_nil)) (nomark _)) (pss_one (ps_ret pe_bl)) pss_nil)
      (pss_one (ps_ret (pe_or (pe_cmpR op_eq (pv 1) pe_int (nomark _)) (pe_one (pe_cmpR (op_eqD (hr.units)) (pe_said T TB._law_values_refused T._law_values_refused_cd (Tl := Tb A) tbm__law_values_refused (tbu__law_values_refused T) (hr.mono (by decide) : Room 14 _) T.cNoNumber rfl (show LamX.LamS (defScope s__law_values_refused) _ from LamX.lamS_by (by decide +kernel)) rfl (fun _ _ _ _ _ => rfl) (fun _ _ _ _ _ _ _ hr => (pe_meth (pv 0) T.clH T.H_put.m (ok_H_put T) (hr.mono (by decide)) T.H_put.b .nil (passes_call (takes_of rfl rfl rfl rfl) (fun _ _ _ _ h => h)) (pa_cons (pe_op op_sub (pv 1) pe_int) (pa_cons (pv 2) pa_nil))))) (pe_lst (pa_cons pe_str pa_nil)) (nomark _))))))))), ?_⟩
    refine ⟨_, rfl, (by show 2 ≤ sizeLine; decide), fun t1 ht1 => ⟨(by show 2 ≤ sizeLine; decide), fun t2 ht2 => ⟨_, rfl, _, _, rfl, rfl, (by show 2 ≤ sizeLine; decide), fun t3 ht3 => ⟨(by show 3 ≤ sizeLine; decide), fun tt htt => ?_⟩⟩⟩⟩
    have s1 := same_new (Same.refl H) (o := .tup [V.int 0, nV ns.length]) ht1
    have s2 := same_new (Same.refl _) (o := .tup [V.int 1, V.int 0]) ht2
    have s3 := same_new (Same.refl _) (o := .tup [V.int 0, V.int ((ns.length : Int) + 1)]) ht3
    have s4 := same_new (Same.refl _) (o := .tup [V.ref t1, V.ref t2, V.ref t3]) htt
    have f1 := s4 _ _ (s3 _ _ (s2 t1 _ upd_same))
    have f2 := s4 _ _ (s3 t2 _ upd_same)
    have f3 := s4 t3 _ upd_same
    have ft := upd_same (H := upd (upd (upd H t1 (.tup [V.int 0, nV ns.length])) t2 (.tup [V.int 1, V.int 0])) t3 (.tup [V.int 0, V.int ((ns.length : Int) + 1)])) (a := tt) (o := .tup [V.ref t1, V.ref t2, V.ref t3])
    obtain ⟨g1, sB⟩ := (g.to (((s1.trans s2).trans s3).trans s4)).re
    clear s1 s2 s3 s4
    have f1 := noT_of f1 (by intro ps z; cases z)
    have f2 := noT_of f2 (by intro ps z; cases z)
    have f3 := noT_of f3 (by intro ps z; cases z)
    have ft := noT_of ft (by intro ps z; cases z)
    generalize noT _ = B1 at g1 sB f1 f2 f3 ft
    refine ⟨tt, rfl, ⟨_, SqT.of (g1.s _ _ ft)⟩, for_tup (K := K) (xs := [V.ref t1, V.ref t2, V.ref t3]) (fun _ σ H' => ∃ v3 v4, σ = [some (.ref p), some (nV ns.length), some bad, v3, v4, none] ∧ Gn (Tb A) B1 H')
      ⟨none, none, rfl, g1⟩ (fun i σ H' _ ⟨_, _, _, g1⟩ => SqT.of (g1.s _ _ ft)) (fun i x σ H' hi h => ?_) fun σ H' h => ?_⟩
    · obtain ⟨v3, v4, rfl, g2⟩ := h
      obtain ⟨ti, f, b, rfl, hti⟩ : ∃ (ti : Addr) (f b : Int), x = V.ref ti ∧ B1 ti = some (.tup [V.int f, V.int b]) := by
        have hx := List.mem_of_getElem? hi
        simp only [List.mem_cons, List.not_mem_nil, or_false] at hx
        rcases hx with rfl | rfl | rfl
        · exact ⟨_, _, _, rfl, f1⟩
        · exact ⟨_, _, _, rfl, f2⟩
        · exact ⟨_, _, _, rfl, f3⟩
      refine ⟨ti, _, rfl, SqT.of (g2.s _ _ hti), rfl, _, _, rfl, _, _, rfl, rfl, ?_⟩
      refine said_ne g2 rfl (fun E1 H1 Q' g3 kE => ?_) fun H3 g3 => if_f rfl ?_
      · exact ⟨_, rfl, p, dx, _, rfl, g3.s _ _ (sB _ _ hp), noh (by decide +kernel) (by decide +kernel) (by decide +kernel), _, rfl, _, rfl, _, rfl, no_countN ((R.same sB).same g3.s) (hb.same (sB.trans g3.s)) ⟨_, TyN.int _⟩ ⟨_, TyN.int _⟩ (kE _ (Same.refl _))⟩
      refine said_ne g3 rfl (fun E1 H1 Q' g4 kE => ?_) fun H4 g4 => if_f rfl ?_
      · exact ⟨_, rfl, p, dx, _, rfl, g4.s _ _ (sB _ _ hp), noh (by decide +kernel) (by decide +kernel) (by decide +kernel), _, rfl, _, rfl, _, rfl, no_belowN ((R.same sB).same g4.s) (hb.same (sB.trans g4.s)) ⟨_, TyN.int _⟩ ⟨_, TyN.int _⟩ (kE _ (Same.refl _))⟩
      exact ⟨_, _, rfl, g4⟩
    · obtain ⟨v3, v4, rfl, g2⟩ := h
      have g5 := g2.back sB
      -- for _law_turn in (0, -1)
      refine ⟨_, rfl, (by show 2 ≤ sizeLine; decide), fun t ht => ?_⟩
      have sT := same_new (Same.refl B) (o := .tup [V.int 0, V.int (-1)]) (g5.free ht)
      have gT := g5.hold (o := .tup [V.int 0, V.int (-1)]) ht (by intro ps z; cases z)
      have tB : upd B t (.tup [V.int 0, V.int (-1)]) t = some (.tup [V.int 0, V.int (-1)]) := upd_same
      refine ⟨t, rfl, ⟨_, SqT.of upd_same⟩, for_tup (K := K) (xs := [V.int 0, V.int (-1)]) (fun _ σ H' => ∃ v5, σ = [some (.ref p), some (nV ns.length), some bad, v3, v4, v5] ∧ Gn (Tb A) (upd B t (.tup [V.int 0, V.int (-1)])) H')
        ⟨none, rfl, gT⟩ (fun i σ H' _ ⟨_, _, g1⟩ => SqT.of (g1.s _ _ tB)) (fun i x σ H' hi h => ?_) fun σ H' h => ?_⟩
      · obtain ⟨v5, rfl, g6⟩ := h
        obtain ⟨i2, rfl⟩ : ∃ i2, x = V.int i2 := by
          have hx := List.mem_of_getElem? hi
          simp only [List.mem_cons, List.not_mem_nil, or_false] at hx
          rcases hx with rfl | rfl <;> exact ⟨_, rfl⟩
        refine said_ne g6 rfl (fun E1 H1 Q' g7 kE => ?_) fun H7 g7 => if_f rfl ?_
        · exact ⟨_, rfl, p, dx, _, rfl, g7.s _ _ (sT _ _ hp), noh (by decide +kernel) (by decide +kernel) (by decide +kernel), _, rfl, _, rfl, no_placeN (R.same (sT.trans g7.s)) (hb.same (sT.trans g7.s)) ⟨_, TyN.int _⟩ (kE _ (Same.refl _))⟩
        exact ⟨_, rfl, g7⟩
      · obtain ⟨v5, rfl, g6⟩ := h
        have g7 := g6.back sT
        refine said_ne g7 rfl (fun E1 H1 Q' g8 kE => ?_) fun H8 g8 => if_f rfl ?_
        · exact ⟨_, rfl, p, dx, _, rfl, g8.s _ _ hp, noh (by decide +kernel) (by decide +kernel) (by decide +kernel), _, rfl, _, rfl, no_putP (R.same g8.s) (.int (.inr (by omega))) (hb.same g8.s).1 (kE _ (Same.refl _))⟩
        -- return _law_size == 0 or ..
        refine ⟨_, rfl, rfl, _, rfl, ?_⟩
        by_cases e0 : ns.length = 0
        · refine if_t (by rw [e0]; rfl) ?_
          exact kQ _ g8
        · refine if_f (decide_eq_false fun z => e0 (by unfold nV at z; injection z with z; omega)) ?_
          have ep : V.int ((ns.length : Int) - 1) = nV (ns.length - 1) := by
            unfold nV
            congr 1
            omega
          refine said_eq g8 rfl (fun E1 H1 Q' g9 kE => ?_) fun H9 g9 => kQ _ g9
          refine ⟨_, rfl, p, dx, _, rfl, g9.s _ _ hp, noh (by decide +kernel) (by decide +kernel) (by decide +kernel), _, rfl, _, _, rfl, rfl, _, rfl, ?_⟩
          dsimp only
          rw [ep]
          exact no_putN (R.same g9.s) (by omega) (hb.same g9.s) (kE _ (Same.refl _))
/-! ### stretches refused -/
def spStrs (K : PySem.W.Frag) (A : Adr) : Sp := fun vs H Q _ => ∃ (p : Addr) (w : Nat) (ns : List Nat) (B : Hp) (odd : V) (far : Int), vs = [.ref p, nV ns.length, odd, .int far] ∧ Gn (Tb A) B H ∧ HRow A.cB A.cH B p w ns ∧ Odd B odd ∧ (ns.length : Int) < far ∧
  ∀ H', Gn (Tb A) B H' → Q (.bl true) H'
set_option maxHeartbeats 2000000 in
theorem ok__law_stretches_refused (T : Tx K mg A) (TB : TbB mg base A) : FnOk P w K mg base CX0 16 A._law_stretches_refused A._law_stretches_refused_d ["_law_row_here", "_law_size", "_law_odd_here", "_law_far"] (spStrs K A) := by
  refine okC T._law_stretches_refused.F sc__law_stretches_refused (fun vs H Q E h => ?_) (fun Ar outer s H vs Q E hr h => ?_)
  · obtain ⟨p, w, ns, B, odd, far, rfl, _⟩ := h
    rfl
  · obtain ⟨p, w, ns, B, odd, far, rfl, g, R, hO, hf, kQ⟩ := h
    obtain ⟨q0, Rq⟩ := id R
    obtain ⟨dx, hp⟩ := Rq.ob
    have noh : ∀ {m : Str}, ¬ m = "halves" → ¬ m = "wide" → ¬ m = "size" → (hrf ns.length w q0).lookup m = none := fun h1 h2 h3 => hrf_no _ _ _ h1 h2 h3
    refine ⟨_, (pss_cons (ps_for PassesOwn.never rfl (pi_tup (pe_tup (pa_cons (pe_tup (pa_cons (pv 2) (pa_cons (pv 1) pa_nil))) (pa_cons (pe_tup (pa_cons pe_int (pa_cons (pv 2) pa_nil))) (pa_cons (pe_tup (pa_cons pe_int (pa_cons (pv 3) pa_nil))) (pa_cons (pe_tup (pa_cons (pv 3) (pa_cons (pv 3) pa_nil))) (pa_cons (pe_tup (pa_cons (pv 1) (pa_cons (pe_op op_sub (pv 1) pe_int) pa_nil))) (pa_cons (pe_tup (pa_cons (pe_un un_neg pe_int) (pa_cons (pv 1) pa_nil))) pa_nil)))))))) (pg_tup (by rfl) (pgs_cons (pg_name (i := 4) sc__law_stretches_refused.nd rfl (by first | exact Or.inl rfl | exact Or.inr rfl)) (pgs_cons (pg_name (i := 5) sc__law_stretches_refused.nd rfl (by first | exact Or.inl rfl | exact Or.inr rfl)) pgs_nil))) (pss_cons (ps_if (pt_cmpR (op_neD (hr.units)) (pe_said T TB._law_stretches_refused T._law_stretches_refused_cd (Tl := Tb A) tbm__law_stretches_refused (tbu__law_stretches_refused T) (hr.mono (by decide) : Room 14 _) T.cNoPlace rfl (show LamX.LamS (defScope s__law_stretches_refused) _ from LamX.lamS_by (by decide +kernel)) rfl (fun _ _ _ _ _ => rfl) (fun _ _ _ _ _ _ _ hr => (pe_meth (pv 0) T.clH T.H_count.m (ok_H_count T) (hr.mono (by decide)) T.H_count.b .nil (passes_call (takes_of rfl rfl rfl rfl) (fun _ _ _ _ h => h)) (pa_cons pe_int (pa_cons (pv 4) (pa_cons (pv 5) pa_nil)))))) (pe_lst (pa_cons pe_str pa_nil)) (nomark _)) (pss_one (ps_ret pe_bl)) pss_nil)
      (pss_cons (ps_if (pt_cmpR (op_neD (hr.units)) (pe_said T TB._law_stretches_refused T._law_stretches_refused_cd (Tl := Tb A) tbm__law_stretches_refused (tbu__law_stretches_refused T) (hr.mono (by decide) : Room 14 _) T.cNoPlace rfl (show LamX.LamS (defScope s__law_stretches_refused) _ from LamX.lamS_by (by decide +kernel)) rfl (fun _ _ _ _ _ => rfl) (fun _ _ _ _ _ _ _ hr => (pe_meth (pv 0) T.clH T.H_below.m (ok_H_below T) (hr.mono (by decide)) T.H_below.b .nil (passes_call (takes_of rfl rfl rfl rfl) (fun _ _ _ _ h => h)) (pa_cons pe_int (pa_cons (pv 4) (pa_cons (pv 5) pa_nil)))))) (pe_lst (pa_cons pe_str pa_nil)) (nomark _)) (pss_one (ps_ret pe_bl)) pss_nil)
      (pss_cons (ps_if (pt_cmpR (op_neD (hr.units)) (pe_said T TB._law_stretches_refused T._law_stretches_refused_cd (Tl := Tb A) tbm__law_stretches_refused (tbu__law_stretches_refused T) (hr.mono (by decide) : Room 14 _) T.cNoPlace rfl (show LamX.LamS (defScope s__law_stretches_refused) _ from LamX.lamS_by (by decide +kernel)) rfl (fun _ _ _ _ _ => rfl) (fun _ _ _ _ _ _ _ hr => (pe_meth (pv 0) T.clH T.H_least.m (ok_H_least T) (hr.mono (by decide)) T.H_least.b .nil (passes_call (takes_of rfl rfl rfl rfl) (fun _ _ _ _ h => h)) (pa_cons pe_int (pa_cons (pv 4) (pa_cons (pv 5) pa_nil)))))) (pe_lst (pa_cons pe_str pa_nil)) (nomark _)) (pss_one (ps_ret pe_bl)) pss_nil)
      (pss_one (ps_if (pt_cmpR (op_neD (hr.units)) (pe_said T TB._law_stretches_refused T._law_stretches_refused_cd (Tl := Tb A) tbm__law_stretches_refused (tbu__law_stretches_refused T) (hr.mono (by decide) : Room 14 _) T.cNoPlace rfl (show LamX.LamS (defScope s__law_stretches_refused) _ from LamX.lamS_by (by decide +kernel)) rfl (fun _ _ _ _ _ => rfl) (fun _ _ _ _ _ _ _ hr => (pe_meth (pv 0) T.clH T.H_often.m (ok_H_often T) (hr.mono (by decide)) T.H_often.b .nil (passes_call (takes_of rfl rfl rfl rfl) (fun _ _ _ _ h => h)) (pa_cons (pv 4) (pa_cons (pv 5) pa_nil))))) (pe_lst (pa_cons pe_str pa_nil)) (nomark _)) (pss_one (ps_ret pe_bl)) pss_nil))))))
      (pss_one (ps_ret pe_bl))), ?_⟩
    refine ⟨_, rfl, _, rfl, (by show 2 ≤ sizeLine; decide), fun t1 ht1 => ⟨_, rfl, (by show 2 ≤ sizeLine; decide), fun t2 ht2 => ⟨_, rfl, (by show 2 ≤ sizeLine; decide), fun t3 ht3 => ⟨_, rfl, _, rfl, (by show 2 ≤ sizeLine; decide), fun t4 ht4 =>
      ⟨_, rfl, _, rfl, _, _, rfl, rfl, (by show 2 ≤ sizeLine; decide), fun t5 ht5 => ⟨_, rfl, _, rfl, (by show 2 ≤ sizeLine; decide), fun t6 ht6 => ⟨(by show 6 ≤ sizeLine; decide), fun tt htt => ?_⟩⟩⟩⟩⟩⟩⟩
    have s1 := same_new (Same.refl H) (o := .tup [odd, nV ns.length]) ht1
    have s2 := same_new (Same.refl _) (o := .tup [V.int 0, odd]) ht2
    have s3 := same_new (Same.refl _) (o := .tup [V.int 0, V.int far]) ht3
    have s4 := same_new (Same.refl _) (o := .tup [V.int far, V.int far]) ht4
    have s5 := same_new (Same.refl _) (o := .tup [nV ns.length, V.int ((ns.length : Int) - 1)]) ht5
    have s6 := same_new (Same.refl _) (o := .tup [V.int (-1), nV ns.length]) ht6
    have s7 := same_new (Same.refl _) (o := .tup [V.ref t1, V.ref t2, V.ref t3, V.ref t4, V.ref t5, V.ref t6]) htt
    have f6 := s7 t6 _ upd_same
    have f5 := s7 _ _ (s6 t5 _ upd_same)
    have f4 := s7 _ _ (s6 _ _ (s5 t4 _ upd_same))
    have f3 := s7 _ _ (s6 _ _ (s5 _ _ (s4 t3 _ upd_same)))
    have f2 := s7 _ _ (s6 _ _ (s5 _ _ (s4 _ _ (s3 t2 _ upd_same))))
    have f1 := s7 _ _ (s6 _ _ (s5 _ _ (s4 _ _ (s3 _ _ (s2 t1 _ upd_same)))))
    have ft := upd_same (H := upd (upd (upd (upd (upd (upd H t1 (.tup [odd, nV ns.length])) t2 (.tup [V.int 0, odd])) t3 (.tup [V.int 0, V.int far])) t4 (.tup [V.int far, V.int far])) t5 (.tup [nV ns.length, V.int ((ns.length : Int) - 1)])) t6 (.tup [V.int (-1), nV ns.length]))
      (a := tt) (o := .tup [V.ref t1, V.ref t2, V.ref t3, V.ref t4, V.ref t5, V.ref t6])
    obtain ⟨g1, sB⟩ := (g.to ((((((s1.trans s2).trans s3).trans s4).trans s5).trans s6).trans s7)).re
    clear s1 s2 s3 s4 s5 s6 s7
    have f1 := noT_of f1 (by intro ps z; cases z)
    have f2 := noT_of f2 (by intro ps z; cases z)
    have f3 := noT_of f3 (by intro ps z; cases z)
    have f4 := noT_of f4 (by intro ps z; cases z)
    have f5 := noT_of f5 (by intro ps z; cases z)
    have f6 := noT_of f6 (by intro ps z; cases z)
    have ft := noT_of ft (by intro ps z; cases z)
    generalize noT _ = B1 at g1 sB f1 f2 f3 f4 f5 f6 ft
    have hO1 := hO.same sB
    refine ⟨tt, rfl, ⟨_, SqT.of (g1.s _ _ ft)⟩, for_tup (K := K) (xs := [V.ref t1, V.ref t2, V.ref t3, V.ref t4, V.ref t5, V.ref t6]) (fun _ σ H' => ∃ v4 v5, σ = [some (.ref p), some (nV ns.length), some odd, some (.int far), v4, v5] ∧ Gn (Tb A) B1 H')
      ⟨none, none, rfl, g1⟩ (fun i σ H' _ ⟨_, _, _, g1⟩ => SqT.of (g1.s _ _ ft)) (fun i x σ H' hi h => ?_) fun σ H' h => ?_⟩
    · obtain ⟨v4, v5, rfl, g2⟩ := h
      obtain ⟨ti, f, b, rfl, hti, hno⟩ : ∃ (ti : Addr) (f b : V), x = V.ref ti ∧ B1 ti = some (.tup [f, b]) ∧ NoStr K B1 f b ns.length := by
        have hx := List.mem_of_getElem? hi
        simp only [List.mem_cons, List.not_mem_nil, or_false] at hx
        rcases hx with rfl | rfl | rfl | rfl | rfl | rfl
        · exact ⟨_, _, _, rfl, f1, hO1.ty, ⟨_, TyN.int _⟩, .inl (hO1.no (by decide))⟩
        · exact ⟨_, _, _, rfl, f2, ⟨_, TyN.int _⟩, hO1.ty, .inr ⟨0, rfl, Nat.zero_le _, hO1.no (by decide)⟩⟩
        · exact ⟨_, _, _, rfl, f3, ⟨_, TyN.int _⟩, ⟨_, TyN.int _⟩, .inr ⟨0, rfl, Nat.zero_le _, int_no (.inr hf)⟩⟩
        · exact ⟨_, _, _, rfl, f4, ⟨_, TyN.int _⟩, ⟨_, TyN.int _⟩, .inl (int_no (.inr hf))⟩
        · exact ⟨_, _, _, rfl, f5, ⟨_, TyN.int _⟩, ⟨_, TyN.int _⟩, .inr ⟨_, rfl, Nat.le_refl _, int_no (.inl (by omega))⟩⟩
        · exact ⟨_, _, _, rfl, f6, ⟨_, TyN.int _⟩, ⟨_, TyN.int _⟩, .inl (int_no (.inl (by decide)))⟩
      refine ⟨ti, _, rfl, SqT.of (g2.s _ _ hti), rfl, _, _, rfl, _, _, rfl, rfl, ?_⟩
      refine said_ne g2 rfl (fun E1 H1 Q' g3 kE => ?_) fun H3 g3 => if_f rfl ?_
      · exact ⟨_, rfl, p, dx, _, rfl, g3.s _ _ (sB _ _ hp), noh (by decide +kernel) (by decide +kernel) (by decide +kernel), _, rfl, _, rfl, no_countS ((R.same sB).same g3.s) (hno.same g3.s) (kE _ (Same.refl _))⟩
      refine said_ne g3 rfl (fun E1 H1 Q' g4 kE => ?_) fun H4 g4 => if_f rfl ?_
      · exact ⟨_, rfl, p, dx, _, rfl, g4.s _ _ (sB _ _ hp), noh (by decide +kernel) (by decide +kernel) (by decide +kernel), _, rfl, _, rfl, no_belowS ((R.same sB).same g4.s) (hno.same g4.s) (kE _ (Same.refl _))⟩
      refine said_ne g4 rfl (fun E1 H1 Q' g5 kE => ?_) fun H5 g5 => if_f rfl ?_
      · exact ⟨_, rfl, p, dx, _, rfl, g5.s _ _ (sB _ _ hp), noh (by decide +kernel) (by decide +kernel) (by decide +kernel), _, rfl, _, rfl, no_leastS ((R.same sB).same g5.s) (hno.same g5.s) (kE _ (Same.refl _))⟩
      refine said_ne g5 rfl (fun E1 H1 Q' g6 kE => ?_) fun H6 g6 => if_f rfl ?_
      · exact ⟨_, rfl, p, dx, _, rfl, g6.s _ _ (sB _ _ hp), noh (by decide +kernel) (by decide +kernel) (by decide +kernel), _, rfl, _, rfl, no_oftenS ((R.same sB).same g6.s) (hno.same g6.s) (kE _ (Same.refl _))⟩
      exact ⟨_, _, rfl, g6⟩
    · obtain ⟨v4, v5, rfl, g2⟩ := h
      exact kQ _ (g2.back sB)
/-! ### the ground with the law's own dict in it, and without -/
theorem BRow.sub {C r : Addr} {H H' : Hp} {l : List Bool} (s : ∀ b o, H b = some o → (∀ ps, o ≠ .tbl ps) → H' b = some o) (R : BRow C H r l) : BRow C H' r l := by
  obtain ⟨a, b, ⟨dx, hp⟩, ha, hb, r1, r2⟩ := R
  exact ⟨a, b, ⟨dx, s _ _ hp (by intro ps z; cases z)⟩, s _ _ ha (by intro ps z; cases z), s _ _ hb (by intro ps z; cases z), r1, r2⟩
theorem HRowAt.sub {C D p q : Addr} {H H' : Hp} {w : Nat} {ns : List Nat} (s : ∀ b o, H b = some o → (∀ ps, o ≠ .tbl ps) → H' b = some o) (R : HRowAt C D H p q w ns) : HRowAt C D H' p q w ns :=
  ⟨R.ob.imp fun _ h => s _ _ h (by intro ps z; cases z), R.ls.imp fun _ h => ⟨s _ _ h.1 (by intro ps z; cases z), h.2.1, fun l r e => (h.2.2 l r e).sub s⟩, R.len, R.w1, R.w64, R.lt⟩
theorem sql_noT {H : Hp} {a : Addr} {xs : List V} (h : SqL K H a xs) : SqL K (noT H) a xs := by
  rcases h with (h | ⟨o, h⟩) | h
  · exact .inl (.inl (noT_of h (by intro ps z; cases z)))
  · exact .inl (.inr ⟨o, noT_of h (by intro ps z; cases z)⟩)
  · exact .inr h
theorem St.noT {H : Hp} {d a : Addr} {ns : List Int} {k : Nat} (S : St K H d a ns k) : St K (noT H) d a ns k := ⟨noT_of S.dict (by intro ps z; cases z), sql_noT S.cells, S.len, S.few⟩
/-- F: what stays, the dict at d not in it; B: all, and the dict as it is now -/
structure GF (K : PySem.W.Frag) (Tl : List (Addr × Str)) (F B H : Hp) (d a : Addr) (ns : List Int) (k : Nat) : Prop where
  g : Gn Tl B H
  s : Same F B
  nd : F d = none
  st : St K B d a ns k
section
variable {Tl : List (Addr × Str)} {F B H H' : Hp} {d a : Addr} {ns : List Int} {k k' : Nat}
theorem GF.now (G : GF K Tl F B H d a ns k) : St K H d a ns k := G.st.same G.g.s
theorem GF.to (G : GF K Tl F B H d a ns k) (s : Same H H') : GF K Tl F B H' d a ns k := ⟨G.g.to s, G.s, G.nd, G.st⟩
theorem GF.on (G : GF K Tl F B H d a ns k) (g : Gn Tl B H') : GF K Tl F B H' d a ns k := ⟨g, G.s, G.nd, G.st⟩
/-- a number is drawn -/
theorem GF.drawn (G : GF K Tl F B H d a ns k) (kp : Keep d H H') (S : St K H' d a ns k') : ∃ B', GF K Tl F B' H' d a ns k' := by
  have g := (G.g.back G.s).keep G.now.dict kp G.nd
  obtain ⟨g2, s2⟩ := g.re
  exact ⟨_, g2, s2, G.nd, S.noT⟩
/-- what is new is held -/
theorem GF.add (G : GF K Tl F B H d a ns k) {z : Addr} {o : HO} (hz : H z = none) (no : ∀ ps, o ≠ .tbl ps) : ∃ F' B', GF K Tl F' B' (upd H z o) d a ns k ∧ Same F F' ∧ F' z = some o := by
  have nzd : d ≠ z := ne_of_none G.now.dict hz
  have hF : F z = none := G.s.free (G.g.free hz)
  refine ⟨upd F z o, upd B z o, ⟨G.g.hold hz no, fun b u e => ?_, by rw [upd_ne nzd]; exact G.nd, ?_⟩, same_new (Same.refl F) hF, upd_same⟩
  · by_cases q : b = z
    · subst q
      rw [upd_same] at e ⊢
      exact e
    · rw [upd_ne q] at e ⊢
      exact G.s _ _ e
  · exact G.st.same (same_new (Same.refl B) (G.g.free hz))
end
/-- two things that are no row, as a pair -/
def Item (K : PySem.W.Frag) (B : Hp) (x : V) : Prop := ∃ (t : Addr) (u v : V), x = .ref t ∧ B t = some (.tup [u, v]) ∧ NoRow K B u v
theorem Item.same {B B' : Hp} {x : V} (s : Same B B') (h : Item K B x) : Item K B' x := by
  obtain ⟨t, u, v, e, ht, hn⟩ := h
  exact ⟨t, u, v, e, s _ _ ht, hn.same s⟩
theorem cut_nV {l : List Nat} {lo hi : Option Int} {x : V} (h : x ∈ cutV (l.map nV) lo hi) : ∃ b, x = nV b := by
  unfold cutV at h
  obtain ⟨b, _, e⟩ := List.mem_map.mp (List.mem_of_mem_drop (List.mem_of_mem_take h))
  exact ⟨b, e.symm⟩
theorem far_int {m n e : Int} (he : 0 ≤ e) : ∃ far : Int, V.int (m + n % 3 * e) = .int far ∧ m ≤ far := by
  refine ⟨_, rfl, ?_⟩
  have h1 : 0 ≤ n % 3 * e := Int.mul_nonneg (by omega) he
  omega
set_option maxHeartbeats 8000000 in
theorem ok_law (T : Tx K mg A) (TB : TbB mg base A) : FnOk P w K mg base CX0 20 A.law A.law_d ["_law_script"] (spLawT K A) := by
  refine okC T.law.F sc_law (fun vs H Q E h => ?_) (fun Ar outer s H vs Q E hr h => ?_)
  · obtain ⟨a, ns, rfl, _⟩ := h
    rfl
  · obtain ⟨a, ns, rfl, hS, hlen, hT, kQ⟩ := h
    have hu := hu_of hr
    refine ⟨_, (pss_cons (ps_set (i := 1) sc_law.nd rfl (by first | exact Or.inl rfl | exact Or.inr rfl) (pe_disp (pps_cons pe_str (pv 0) (pps_cons pe_str pe_int pps_nil)) (by rfl) (by rfl) (fun z => by cases z) (by decide)))
      (pss_cons (ps_asg (pe_call (E := E0) (ok__law_row T) (hr.mono (by decide)) rfl T._law_row.g T._law_row.F.kp T._law_row.b .nil pass0 (pa_cons (pv 1) pa_nil)) (pg_tup (by rfl) (pgs_cons (pg_name (i := 2) sc_law.nd rfl (by first | exact Or.inl rfl | exact Or.inr rfl)) (pgs_cons (pg_name (i := 3) sc_law.nd rfl (by first | exact Or.inl rfl | exact Or.inr rfl)) pgs_nil))))
      (pss_cons (ps_set (i := 4) sc_law.nd rfl (by first | exact Or.inl rfl | exact Or.inr rfl) (pe_callB call_len_seq (by rfl) T.b_len (by decide +kernel) (pa_cons (pv 2) pa_nil)))
      (pss_cons (ps_set (i := 5) sc_law.nd rfl (by first | exact Or.inl rfl | exact Or.inr rfl) (pe_make (E := E0) T.mkH (ok_H_init T) (hr.mono (by decide)) rfl T.gH T.H_init.b .nil passL (pa_cons (pe_callTy call_list_of (by rfl) T.b_list (by decide +kernel) (pa_cons (pv 2) pa_nil)) (pa_cons (pv 3) pa_nil))))
      (pss_cons (ps_set (i := 6) sc_law.nd rfl (by first | exact Or.inl rfl | exact Or.inr rfl) (pe_call (E := E0) (ok__law_next T) (hr.mono (by decide)) rfl T._law_next.g T._law_next.F.kp T._law_next.b .nil pass0 (pa_cons (pv 1) pa_nil)))
      (pss_cons (ps_set (i := 7) sc_law.nd rfl (by first | exact Or.inl rfl | exact Or.inr rfl) (pe_call (E := E0) (ok__law_odd T) (hr.mono (by decide)) rfl T._law_odd.g T._law_odd.F.kp T._law_odd.b .nil pass0 (pa_cons (pv 6) pa_nil)))
      (pss_cons (ps_set (i := 8) sc_law.nd rfl (by first | exact Or.inl rfl | exact Or.inr rfl) (pe_op op_add (pe_op op_add (pv 4) pe_int) (pe_op op_mul (pe_op op_mod (pe_op op_fdiv (pv 6) pe_int) pe_int) (pe_op op_pow pe_int pe_int))))
      (pss_cons (ps_set (i := 9) sc_law.nd rfl (by first | exact Or.inl rfl | exact Or.inr rfl) (pe_ix ix_list (pe_lst (pa_cons (pv 7) (pa_cons (pe_op op_shl pe_int (pv 3)) (pa_cons (pe_un un_neg pe_int) (pa_cons (pe_op op_add (pe_op op_shl pe_int (pv 3)) (pv 6)) pa_nil))))) (pe_op op_mod (pe_op op_fdiv (pv 6) pe_int) pe_int) (fun _ _ => rfl)))
      (pss_cons (ps_if (PW.pt (pw_or (pt_not (pt_val (pe_call (E := E0) (ok__law_values_refused T TB) (hr.mono (by decide)) rfl T._law_values_refused.g T._law_values_refused.F.kp T._law_values_refused.b .nil pass0 (pa_cons (pv 5) (pa_cons (pv 4) (pa_cons (pv 9) pa_nil)))))) (pw_or1 (pt_not (pt_val (pe_call (E := E0) (ok__law_stretches_refused T TB) (hr.mono (by decide)) rfl T._law_stretches_refused.g T._law_stretches_refused.F.kp T._law_stretches_refused.b .nil pass0 (pa_cons (pv 5) (pa_cons (pv 4) (pa_cons (pv 7) (pa_cons (pv 8) pa_nil)))))))))) (pss_one (ps_ret pe_bl)) pss_nil)
      (pss_cons (ps_asg (pe_call (E := E0) (ok__law_stretch T) (hr.mono (by decide)) rfl T._law_stretch.g T._law_stretch.F.kp T._law_stretch.b .nil pass0 (pa_cons (pv 1) (pa_cons (pv 4) pa_nil))) (pg_tup (by rfl) (pgs_cons (pg_name (i := 10) sc_law.nd rfl (by first | exact Or.inl rfl | exact Or.inr rfl)) (pgs_cons (pg_name (i := 11) sc_law.nd rfl (by first | exact Or.inl rfl | exact Or.inr rfl)) pgs_nil))))
      (pss_cons (ps_for PassesOwn.never rfl (pi_tup (pe_tup (pa_cons (pv 7) (pa_cons (pe_op op_sub (pv 11) (pv 10)) (pa_cons (pv 8) pa_nil))))) (pg_name (i := 12) sc_law.nd rfl (by first | exact Or.inl rfl | exact Or.inr rfl)) (pss_one (ps_if (pt_cmpR (op_neD (hr.units)) (pe_said T TB.law T.law_cd (Tl := Tb A) tbm_law (tbu_law T) (hr.mono (by decide) : Room 14 _) T.cNoPlace rfl (show LamX.LamS (defScope s_law) _ from LamX.lamS_by (by decide +kernel)) rfl (fun _ _ _ _ _ => rfl) (fun _ _ _ _ _ _ _ hr => (pe_meth (pv 5) T.clH T.H_least.m (ok_H_least T) (hr.mono (by decide)) T.H_least.b .nil (passes_call (takes_of rfl rfl rfl rfl) (fun _ _ _ _ h => h)) (pa_cons (pv 12) (pa_cons (pv 10) (pa_cons (pv 11) pa_nil)))))) (pe_lst (pa_cons pe_str pa_nil)) (nomark _)) (pss_one (ps_ret pe_bl)) pss_nil)))
      (pss_cons (ps_set (i := 13) sc_law.nd rfl (by first | exact Or.inl rfl | exact Or.inr rfl) (pe_call (E := E0) (ok__law_great T) (hr.mono (by decide)) rfl T._law_great.g T._law_great.F.kp T._law_great.b .nil pass0 (pa_cons (pv 1) (pa_cons (pv 3) pa_nil))))
      (pss_cons (ps_for PassesOwn.never rfl (pi_tup (pe_tup (pa_cons (pv 7) (pa_cons (pe_bm PySem.F.plainAttrs_list PySem.F.slot_list_count PySem.F.type_list_count mt_lcount (pv 2) (pa_cons (pv 13) pa_nil)) (pa_cons (pv 8) pa_nil))))) (pg_name (i := 12) sc_law.nd rfl (by first | exact Or.inl rfl | exact Or.inr rfl)) (pss_one (ps_if (pt_cmpR (op_neD (hr.units)) (pe_said T TB.law T.law_cd (Tl := Tb A) tbm_law (tbu_law T) (hr.mono (by decide) : Room 14 _) T.cNoPlace rfl (show LamX.LamS (defScope s_law) _ from LamX.lamS_by (by decide +kernel)) rfl (fun _ _ _ _ _ => rfl) (fun _ _ _ _ _ _ _ hr => (pe_meth (pv 5) T.clH T.H_place_of.m (ok_H_place_of T) (hr.mono (by decide)) T.H_place_of.b .nil (passes_call (takes_of rfl rfl rfl rfl) (fun _ _ _ _ h => h)) (pa_cons (pv 13) (pa_cons (pv 12) pa_nil))))) (pe_lst (pa_cons pe_str pa_nil)) (nomark _)) (pss_one (ps_ret pe_bl)) pss_nil)))
      (pss_cons (ps_if (pt_cmpR (op_neD (hr.units)) (pe_said T TB.law T.law_cd (Tl := Tb A) tbm_law (tbu_law T) (hr.mono (by decide) : Room 14 _) T.cNoPlace rfl (show LamX.LamS (defScope s_law) _ from LamX.lamS_by (by decide +kernel)) rfl (fun _ _ _ _ _ => rfl) (fun _ _ _ _ _ _ _ hr => (pe_meth (pv 5) T.clH T.H_often.m (ok_H_often T) (hr.mono (by decide)) T.H_often.b .nil (passes_call (takes_of rfl rfl rfl rfl) (fun _ _ _ _ h => h)) (pa_cons (pv 10) (pa_cons (pv 10) pa_nil))))) (pe_lst (pa_cons pe_str pa_nil)) (nomark _)) (pss_one (ps_ret pe_bl)) pss_nil)
      (pss_cons (ps_for PassesOwn.never rfl (pi_tup (pe_tup (pa_cons (pv 7) (pa_cons (pv 4) (pa_cons (pv 8) pa_nil))))) (pg_name (i := 14) sc_law.nd rfl (by first | exact Or.inl rfl | exact Or.inr rfl)) (pss_cons (ps_if (pt_cmpR (op_neD (hr.units)) (pe_said T TB.law T.law_cd (Tl := Tb A) tbm_law (tbu_law T) (hr.mono (by decide) : Room 14 _) T.cNoPlace rfl (show LamX.LamS (defScope s_law) _ from LamX.lamS_by (by decide +kernel)) rfl (fun _ _ _ _ _ => rfl) (fun _ _ _ _ _ _ _ hr => (pe_meth (pv 5) T.clH T.H_number_at.m (ok_H_number_at T) (hr.mono (by decide)) T.H_number_at.b .nil (passes_call (takes_of rfl rfl rfl rfl) (fun _ _ _ _ h => h)) (pa_cons (pv 14) pa_nil)))) (pe_lst (pa_cons pe_str pa_nil)) (nomark _)) (pss_one (ps_ret pe_bl)) pss_nil)
      (pss_one (ps_if (pt_cmpR (op_neD (hr.units)) (pe_said T TB.law T.law_cd (Tl := Tb A) tbm_law (tbu_law T) (hr.mono (by decide) : Room 14 _) T.cNoPlace rfl (show LamX.LamS (defScope s_law) _ from LamX.lamS_by (by decide +kernel)) rfl (fun _ _ _ _ _ => rfl) (fun _ _ _ _ _ _ _ hr => (pe_meth (pv 5) T.clH T.H_put.m (ok_H_put T) (hr.mono (by decide)) T.H_put.b .nil (passes_call (takes_of rfl rfl rfl rfl) (fun _ _ _ _ h => h)) (pa_cons (pv 14) (pa_cons pe_int pa_nil))))) (pe_lst (pa_cons pe_str pa_nil)) (nomark _)) (pss_one (ps_ret pe_bl)) pss_nil))))
      (pss_cons (ps_for PassesOwn.never rfl (pi_tup (pe_tup (pa_cons (pv 7) (pa_cons (pv 3) (pa_cons (pe_op op_add (pv 8) pe_int) pa_nil))))) (pg_name (i := 15) sc_law.nd rfl (by first | exact Or.inl rfl | exact Or.inr rfl)) (pss_one (ps_if (pt_cmpR (op_neD (hr.units)) (pe_said T TB.law T.law_cd (Tl := Tb A) tbm_law (tbu_law T) (hr.mono (by decide) : Room 14 _) T.cNoPlace rfl (show LamX.LamS (defScope s_law) _ from LamX.lamS_by (by decide +kernel)) rfl (fun _ _ _ _ _ => rfl) (fun _ _ _ _ _ _ _ hr => (pe_meth (pv 5) T.clH T.H_words.m (ok_H_words T) (hr.mono (by decide)) T.H_words.b .nil (passes_call (takes_of rfl rfl rfl rfl) (fun _ _ _ _ h => h)) (pa_cons (pv 15) pa_nil)))) (pe_lst (pa_cons pe_str pa_nil)) (nomark _)) (pss_one (ps_ret pe_bl)) pss_nil)))
      (pss_cons (ps_set (i := 16) sc_law.nd rfl (by first | exact Or.inl rfl | exact Or.inr rfl) (pe_op op_mod (pe_op op_fdiv (pv 6) pe_int) (pe_op op_add (pv 4) pe_int)))
      (pss_cons (ps_set (i := 17) sc_law.nd rfl (by first | exact Or.inl rfl | exact Or.inr rfl) (pe_lst (pa_cons (pe_tup (pa_cons (pe_op op_cat (pe_op op_cat (pe_slice sl_list (pv 2) po_none (po_some (pv 16))) (pe_lst (pa_cons (pv 9) pa_nil))) (pe_slice sl_list (pv 2) (po_some (pv 16)) po_none)) (pa_cons (pv 3) pa_nil))) (pa_cons (pe_tup (pa_cons (pe_callTy call_tuple_of (by rfl) T.b_tuple (by decide +kernel) (pa_cons (pv 2) pa_nil)) (pa_cons (pv 3) pa_nil))) (pa_cons (pe_tup (pa_cons pe_non (pa_cons (pv 3) pa_nil))) (pa_cons (pe_tup (pa_cons pe_dnewK (pa_cons (pv 3) pa_nil))) pa_nil))))))
      (pss_cons (ps_set (i := 17) sc_law.nd rfl (by first | exact Or.inl rfl | exact Or.inr rfl) (pe_op op_cat (pv 17) (pe_lst (pa_cons (pe_tup (pa_cons (pv 2) (pa_cons pe_int pa_nil))) (pa_cons (pe_tup (pa_cons (pv 2) (pa_cons pe_int pa_nil))) (pa_cons (pe_tup (pa_cons (pv 2) (pa_cons (pv 7) pa_nil))) (pa_cons (pe_tup (pa_cons (pe_op op_rep (pe_lst (pa_cons pe_int pa_nil)) pe_int) (pa_cons (pv 3) pa_nil))) (pa_cons (pe_tup (pa_cons pe_str (pa_cons (pv 3) pa_nil))) pa_nil))))))))
      (pss_cons (ps_for PassesOwn.never rfl (pi_list (pv 17)) (pg_tup (by rfl) (pgs_cons (pg_name (i := 18) sc_law.nd rfl (by first | exact Or.inl rfl | exact Or.inr rfl)) (pgs_cons (pg_name (i := 19) sc_law.nd rfl (by first | exact Or.inl rfl | exact Or.inr rfl)) pgs_nil))) (pss_one (ps_if (pt_cmpR (op_neD (hr.units)) (pe_said T TB.law T.law_cd (Tl := Tb A) tbm_law (tbu_law T) (hr.mono (by decide) : Room 14 _) T.cBadRow rfl (show LamX.LamS (defScope s_law) _ from LamX.lamS_by (by decide +kernel)) rfl (fun _ _ _ _ _ => rfl) (fun _ _ _ _ _ _ _ hr => (pe_make T.mkH (ok_H_init T) (hr.mono (by decide)) rfl T.gH T.H_init.b .nil (passes_call (takes_of rfl rfl rfl rfl) (fun _ _ _ _ h => h)) (pa_cons (pv 18) (pa_cons (pv 19) pa_nil))))) (pe_lst (pa_cons pe_str pa_nil)) (nomark _)) (pss_one (ps_ret pe_bl)) pss_nil)))
      (pss_one (ps_ret (pe_and (pe_cmpR (op_eqD (hr.units)) (pe_meth0 (E := E0) (pv 5) T.clH T.H_numbers.m (ok_H_numbers T) (hr.mono (by decide)) T.H_numbers.b .nil pass0) (pv 2) (nomark _)) (pe_one (pe_cmpR op_eq (pe_meth (E := E0) (pe_make (E := E0) T.mkH (ok_H_init T) (hr.mono (by decide)) rfl T.gH T.H_init.b .nil passL (pa_cons (pe_op op_rep (pe_lst (pa_cons pe_int pa_nil)) pe_int) (pa_cons pe_int pa_nil))) T.clH T.H_count.m (ok_H_count T) (hr.mono (by decide)) T.H_count.b .nil passL (pa_cons pe_int (pa_cons pe_int (pa_cons pe_int pa_nil)))) pe_int (nomark _)))))))))))))))))))))))))), ?_⟩
    -- _law_state
    refine fun d hd => ⟨_, rfl, upd_same, stD a 0, rfl, (by show 2 ≤ 15; decide), ?_⟩
    rw [st_merge]
    have s1 : Same H (upd (upd H d (.dK [])) d (.dK (stD a 0))) := by rw [upd_upd]; exact same_new (Same.refl H) hd
    have g0 := (Gn.start hT).to s1
    have fd : noT H d = none := by
      unfold noT
      rw [hd]
    -- _law_numbers, _law_wide
    refine ⟨_, rfl, d, a, ns, 0, rfl, ⟨upd_same, s1.seq hS, hlen, by omega⟩, by omega, fun wd ms L t0 H1 k1 w1 w64 hml hlt hk1 kp1 S1 hL hL1 ht0 => ?_⟩
    have g1 := g0.keep upd_same kp1 fd
    refine ⟨t0, _, rfl, SqT.of ht0, rfl, _, _, rfl, _, _, rfl, rfl, ?_⟩
    -- _law_size, _law_row_here
    refine ⟨_, rfl, L, _, rfl, .inl (SqL.of hL1), ?_⟩
    rw [List.length_map]
    refine ⟨_, rfl, L, _, rfl, .inl (SqL.of hL1), fun z hz => ⟨_, rfl, fun p dx np ndx _ => mk_hrow (SqL.of upd_same) (by omega) w1 w64 hlt np ndx fun H2 qh s2 R => ⟨rfl, ?_⟩⟩⟩
    have s12 := (same_new (Same.refl H1) (o := .lst (ms.map nV)) hz).trans s2
    have hdn : new (upd H1 z (.lst (ms.map nV))) H2 d = none := new_none (same_new (Same.refl H1) (o := .lst (ms.map nV)) hz _ _ S1.dict)
    have S2 := S1.same s12
    have hL2 := s12 _ _ hL1
    have G2 : GF K (Tb A) (off d (noT H2)) (noT H2) H2 d a ns k1 := ⟨Gn.start (g1.to s12).t, off_same, off_q, S2.noT⟩
    have RF : HRow A.cB A.cH (off d (noT H2)) p wd ms := ⟨qh, R.sub fun b o e n => by
      rw [off_ne (ne_of_none e hdn)]
      exact noT_of (new_same _ _ e) n⟩
    have LF : off d (noT H2) L = some (.lst (ms.map nV)) := by
      rw [off_ne (ne_of hL2 S2.dict (by intro z; cases z))]
      exact noT_of hL2 (by intro ps z; cases z)
    generalize off d (noT H2) = F2 at G2 RF LF
    generalize noT H2 = B2 at G2
    clear g0 g1 s1 s2 s12 R hdn S1 S2 hL1 hL2 kp1 hT hS
    obtain ⟨q0, Rq⟩ := id RF
    obtain ⟨dx, hp⟩ := Rq.ob
    have noh : ∀ {m : Str}, ¬ m = "halves" → ¬ m = "wide" → ¬ m = "size" → (hrf ms.length wd q0).lookup m = none := fun h1 h2 h3 => hrf_no _ _ _ h1 h2 h3
    -- _law_n
    refine ⟨_, rfl, d, a, ns, _, rfl, G2.now, by omega, fun n H3 hn kp3 S3 => ?_⟩
    obtain ⟨B3, G3⟩ := G2.drawn kp3 S3
    clear G2
    -- _law_odd_here
    refine ⟨_, rfl, n, rfl, fun odd H4 s4 hO hfr => ?_⟩
    obtain ⟨F, B, G4, sF, hOF⟩ : ∃ F B, GF K (Tb A) F B H4 d a ns (k1 + 1) ∧ Same F2 F ∧ Odd F odd := by
      obtain ⟨g, s⟩ := (G3.to s4).g.re
      refine ⟨off d (noT H4), noT H4, ⟨g, off_same, off_q, (G3.to s4).now.noT⟩, fun b o e => ?_, ?_⟩
      · rw [off_ne (ne_of_none e G3.nd)]
        exact s _ _ (G3.s _ _ e)
      · have nd : ∀ x, odd = .ref x → x ≠ d := fun x e z => by
          have := hfr x e
          rw [z, G3.now.dict] at this
          cases this
        rcases hO.noT with h | h | h | ⟨x, xs, e, h⟩ | ⟨x, xs, e, h⟩ | ⟨x, xs, e, h⟩ | h
        · exact .inl h
        · exact .inr (.inl h)
        · exact .inr (.inr (.inl h))
        · exact .inr (.inr (.inr (.inl ⟨x, xs, e, by rw [off_ne (nd x e)]; exact h⟩)))
        · exact .inr (.inr (.inr (.inr (.inl ⟨x, xs, e, by rw [off_ne (nd x e)]; exact h⟩))))
        · exact .inr (.inr (.inr (.inr (.inr (.inl ⟨x, xs, e, by rw [off_ne (nd x e)]; exact h⟩)))))
        · exact .inr (.inr (.inr (.inr (.inr (.inr h)))))
    clear G3 hO hfr s4
    have RF := RF.same sF
    have LF := sF _ _ LF
    have hp := sF _ _ hp
    -- _law_far
    refine ⟨_, rfl, _, _, rfl, rfl, _, rfl, _, _, rfl, rfl, ⟨by decide, by decide⟩, _, _, rfl, rfl, (by show (0 : Int) < 3; decide), _, _, rfl, rfl, ⟨by decide, by decide, by decide⟩, _, _, rfl, rfl, .inl ⟨?_, ?_⟩, _, _, rfl, rfl, ?_⟩
    · show -(2 ^ 64) < (n : Int) / 30 % 3
      omega
    · show (n : Int) / 30 % 3 < 2 ^ 64
      omega
    dsimp only
    obtain ⟨far, efar, hfar⟩ := far_int (m := (ms.length : Int) + 1) (n := (n : Int) / 30) (e := 10 ^ (25 : Int).toNat) (by decide)
    rw [efar]
    -- _law_bad
    have hsh : CPow 1 ((wd : Nat) : Int) := ⟨by omega, by omega, by decide⟩
    refine ⟨_, rfl, _, rfl, _, _, rfl, rfl, hsh, _, rfl, _, rfl, _, _, rfl, rfl, hsh, _, rfl, _, _, rfl, rfl, (by show 4 ≤ sizeLine; decide), fun q hq => ?_⟩
    refine ⟨_, rfl, _, _, rfl, rfl, ⟨by decide, by decide⟩, _, _, rfl, rfl, (by show (0 : Int) < 4; decide), ?_⟩
    have G5 := G4.to (same_new (Same.refl H4) (o := .lst [odd, V.int (1 * 2 ^ ((wd : Nat) : Int).toNat), V.int (-1), V.int (1 * 2 ^ ((wd : Nat) : Int).toNat + (n : Int))]) hq)
    obtain ⟨bad, ebad, hbad⟩ := pickP (xs := [odd, V.int (1 * 2 ^ ((wd : Nat) : Int).toNat), V.int (-1), V.int (1 * 2 ^ ((wd : Nat) : Int).toNat + (n : Int))]) (z := (n : Int) / 100 % 4) (R := fun v => Bad K F v 0 (topN wd)) (by omega) (by show (n : Int) / 100 % 4 < 4; omega) (fun x hx => by
      simp only [List.mem_cons, List.not_mem_nil, or_false] at hx
      rcases hx with rfl | rfl | rfl | rfl
      · exact hOF.bad (by decide)
      · exact .int (.inr (by unfold topN; omega))
      · exact .int (.inl (by decide))
      · exact .int (.inr (by unfold topN; omega)))
    refine ⟨q, _, _, bad, rfl, rfl, SqL.of upd_same, ebad, ?_⟩
    -- values and stretches refused
    refine ⟨_, rfl, _, rfl, _, rfl, p, wd, ms, B, bad, rfl, G5.g, RF.same G5.s, hbad.same G5.s, fun H6 g6 => ⟨_, rfl, if_f rfl ?_⟩⟩
    refine ⟨_, rfl, _, rfl, _, rfl, _, rfl, p, wd, ms, B, odd, far, rfl, g6, RF.same G5.s, hOF.same G5.s, by omega, fun H7 g7 => ⟨_, rfl, if_f rfl ?_⟩⟩
    have G7 := G5.on g7
    clear G5 G4 g6 g7
    -- _law_first, _law_behind
    refine ⟨_, rfl, _, rfl, d, a, ns, _, ms.length, rfl, G7.now, by omega, fun f b t1 H8 hfb hb kp8 S8 _ ht1 => ⟨t1, _, rfl, SqT.of ht1, rfl, _, _, rfl, _, _, rfl, rfl, ?_⟩⟩
    obtain ⟨B8, G8⟩ := G7.drawn kp8 S8
    clear G7
    -- for _law_turn in (odd, behind - first, far): least
    refine ⟨_, rfl, _, rfl, _, rfl, _, _, rfl, rfl, _, rfl, (by show 3 ≤ sizeLine; decide), fun tt htt => ?_⟩
    obtain ⟨F9, B9, G9, s9, f9⟩ := G8.add (o := .tup [odd, V.int ((b : Int) - (f : Int)), V.int far]) htt (by intro ps z; cases z)
    refine ⟨tt, rfl, ⟨_, SqT.of upd_same⟩, for_tup (K := K) (xs := [odd, V.int ((b : Int) - (f : Int)), V.int far]) (fun _ σ H' => ∃ v12, σ = [some (.ref a), some (.ref d), some (.ref L), some (nV wd), some (nV ms.length), some (.ref p), some (nV n), some odd, some (.int far), some bad, some (nV f), some (nV b), v12, none, none, none, none, none, none, none] ∧ Gn (Tb A) B9 H')
      ⟨none, rfl, G9.g⟩ (fun i σ H' _ ⟨_, _, g1⟩ => SqT.of (g1.s _ _ (G9.s _ _ f9))) (fun i x σ H' hi h => ?_) fun σ H' h => ?_⟩
    · obtain ⟨v12, rfl, g1⟩ := h
      have hb2 : Bad K F9 x 0 ((b : Int) - (f : Int) - 1) := by
        have hx := List.mem_of_getElem? hi
        simp only [List.mem_cons, List.not_mem_nil, or_false] at hx
        rcases hx with rfl | rfl | rfl
        · exact (hOF.same s9).bad (by decide)
        · exact .int (.inr (by omega))
        · exact .int (.inr (by omega))
      refine said_ne g1 rfl (fun E1 H1 Q' g2 kE => ?_) fun H3 g3 => if_f rfl ?_
      · have sE := (s9.trans G9.s).trans g2.s
        exact ⟨_, rfl, p, dx, _, rfl, sE _ _ hp, noh (by decide +kernel) (by decide +kernel) (by decide +kernel), _, rfl, _, rfl, _, rfl, no_leastT (RF.same sE) hfb hb (hb2.same (G9.s.trans g2.s)) (kE _ (Same.refl _))⟩
      exact ⟨_, rfl, g3⟩
    obtain ⟨v12, rfl, g10⟩ := h
    have G10 := G9.on g10
    clear G8 G9 g10
    have RF := RF.same s9
    have LF := s9 _ _ LF
    have hp := s9 _ _ hp
    have hOF := hOF.same s9
    have hbad := hbad.same s9
    clear s9 f9
    -- _law_value
    refine ⟨_, rfl, _, rfl, d, a, ns, _, wd, rfl, G10.now, by omega, w64, fun v H11 hv kp11 S11 => ?_⟩
    obtain ⟨B11, G11⟩ := G10.drawn kp11 S11
    clear G10
    -- for _law_turn in (odd, count, far): place_of
    refine ⟨_, rfl, _, rfl, .inl ⟨rfl, _, SqL.of (G11.g.s _ _ (G11.s _ _ LF))⟩, _, rfl, L, _, _, rfl, rfl, (by rw [← ints_nV]; exact SqL.of (G11.g.s _ _ (G11.s _ _ LF))), _, rfl, (by show 3 ≤ sizeLine; decide), fun t2 ht2 => ?_⟩
    obtain ⟨F12, B12, G12, s12, f12⟩ := G11.add (o := .tup [odd, V.int (((ms.map fun (n : Nat) => ((n : Nat) : Int)).count (v : Int) : Nat) : Int), V.int far]) ht2 (by intro ps z; cases z)
    refine ⟨t2, rfl, ⟨_, SqT.of upd_same⟩, for_tup (K := K) (xs := [odd, V.int (((ms.map fun (n : Nat) => ((n : Nat) : Int)).count (v : Int) : Nat) : Int), V.int far]) (fun _ σ H' => ∃ v12, σ = [some (.ref a), some (.ref d), some (.ref L), some (nV wd), some (nV ms.length), some (.ref p), some (nV n), some odd, some (.int far), some bad, some (nV f), some (nV b), v12, some (nV v), none, none, none, none, none, none] ∧ Gn (Tb A) B12 H')
      ⟨_, rfl, G12.g⟩ (fun i σ H' _ ⟨_, _, g1⟩ => SqT.of (g1.s _ _ (G12.s _ _ f12))) (fun i x σ H' hi h => ?_) fun σ H' h => ?_⟩
    · obtain ⟨v12, rfl, g1⟩ := h
      have hb2 : Bad K F12 x 0 ((ms.count v : Int) - 1) := by
        have hx := List.mem_of_getElem? hi
        have hcl := List.count_le_length (a := v) (l := ms)
        rw [count_cast] at hx
        simp only [List.mem_cons, List.not_mem_nil, or_false] at hx
        rcases hx with rfl | rfl | rfl
        · exact (hOF.same s12).bad (by decide)
        · exact .int (.inr (by omega))
        · exact .int (.inr (by omega))
      refine said_ne g1 rfl (fun E1 H1 Q' g2 kE => ?_) fun H3 g3 => if_f rfl ?_
      · have sE := (s12.trans G12.s).trans g2.s
        exact ⟨_, rfl, p, dx, _, rfl, sE _ _ hp, noh (by decide +kernel) (by decide +kernel) (by decide +kernel), _, rfl, _, rfl, no_placeT (RF.same sE) hv (hb2.same (G12.s.trans g2.s)) kE⟩
      exact ⟨_, rfl, g3⟩
    obtain ⟨v12', rfl, g13⟩ := h
    have G13 := G12.on g13
    clear G11 G12 g13
    have RF := RF.same s12
    have LF := s12 _ _ LF
    have hp := s12 _ _ hp
    have hOF := hOF.same s12
    have hbad := hbad.same s12
    clear s12 f12
    -- often of a stretch of none
    refine said_ne G13.g rfl (fun E1 H1 Q' g2 kE => ?_) fun H14 g14 => if_f rfl ?_
    · have sE := G13.s.trans g2.s
      exact ⟨_, rfl, p, dx, _, rfl, sE _ _ hp, noh (by decide +kernel) (by decide +kernel) (by decide +kernel), _, rfl, _, rfl, no_oftenE (RF.same sE) (by omega) (kE _ (Same.refl _))⟩
    have G14 := G13.on g14
    clear G13 g14
    -- for _law_place in (odd, size, far): number_at, put
    refine ⟨_, rfl, _, rfl, _, rfl, (by show 3 ≤ sizeLine; decide), fun t3 ht3 => ?_⟩
    obtain ⟨F15, B15, G15, s15, f15⟩ := G14.add (o := .tup [odd, nV ms.length, V.int far]) ht3 (by intro ps z; cases z)
    refine ⟨t3, rfl, ⟨_, SqT.of upd_same⟩, for_tup (K := K) (xs := [odd, nV ms.length, V.int far]) (fun _ σ H' => ∃ v14, σ = [some (.ref a), some (.ref d), some (.ref L), some (nV wd), some (nV ms.length), some (.ref p), some (nV n), some odd, some (.int far), some bad, some (nV f), some (nV b), v12', some (nV v), v14, none, none, none, none, none] ∧ Gn (Tb A) B15 H')
      ⟨none, rfl, G15.g⟩ (fun i σ H' _ ⟨_, _, g1⟩ => SqT.of (g1.s _ _ (G15.s _ _ f15))) (fun i x σ H' hi h => ?_) fun σ H' h => ?_⟩
    · obtain ⟨v14, rfl, g1⟩ := h
      have hb2 : Bad K F15 x 0 ((ms.length : Int) - 1) := by
        have hx := List.mem_of_getElem? hi
        simp only [List.mem_cons, List.not_mem_nil, or_false] at hx
        rcases hx with rfl | rfl | rfl
        · exact (hOF.same s15).bad (by decide)
        · exact .int (.inr (by omega))
        · exact .int (.inr (by omega))
      refine said_ne g1 rfl (fun E1 H1 Q' g2 kE => ?_) fun H3 g3 => if_f rfl ?_
      · have sE := (s15.trans G15.s).trans g2.s
        exact ⟨_, rfl, p, dx, _, rfl, sE _ _ hp, noh (by decide +kernel) (by decide +kernel) (by decide +kernel), _, rfl, no_num (RF.same sE) (hb2.same (G15.s.trans g2.s)) (kE _ (Same.refl _))⟩
      refine said_ne g3 rfl (fun E1 H1 Q' g2 kE => ?_) fun H4 g4 => if_f rfl ?_
      · have sE := (s15.trans G15.s).trans g2.s
        exact ⟨_, rfl, p, dx, _, rfl, sE _ _ hp, noh (by decide +kernel) (by decide +kernel) (by decide +kernel), _, rfl, no_putP (RF.same sE) (hb2.same (G15.s.trans g2.s)) ⟨_, TyN.int _⟩ (kE _ (Same.refl _))⟩
      exact ⟨_, rfl, g4⟩
    obtain ⟨v14, rfl, g16⟩ := h
    have G16 := G15.on g16
    clear G14 G15 g16
    have RF := RF.same s15
    have LF := s15 _ _ LF
    have hp := s15 _ _ hp
    have hOF := hOF.same s15
    have hbad := hbad.same s15
    clear s15 f15
    -- for _law_level in (odd, wide, far + 64): words
    refine ⟨_, rfl, _, rfl, _, rfl, _, _, rfl, rfl, (by show 3 ≤ sizeLine; decide), fun t4 ht4 => ?_⟩
    obtain ⟨F17, B17, G17, s17, f17⟩ := G16.add (o := .tup [odd, nV wd, V.int (far + 64)]) ht4 (by intro ps z; cases z)
    refine ⟨t4, rfl, ⟨_, SqT.of upd_same⟩, for_tup (K := K) (xs := [odd, nV wd, V.int (far + 64)]) (fun _ σ H' => ∃ v15, σ = [some (.ref a), some (.ref d), some (.ref L), some (nV wd), some (nV ms.length), some (.ref p), some (nV n), some odd, some (.int far), some bad, some (nV f), some (nV b), v12', some (nV v), v14, v15, none, none, none, none] ∧ Gn (Tb A) B17 H')
      ⟨none, rfl, G17.g⟩ (fun i σ H' _ ⟨_, _, g1⟩ => SqT.of (g1.s _ _ (G17.s _ _ f17))) (fun i x σ H' hi h => ?_) fun σ H' h => ?_⟩
    · obtain ⟨v15, rfl, g1⟩ := h
      have hb2 : Bad K F17 x 0 ((wd : Int) - 1) := by
        have hx := List.mem_of_getElem? hi
        simp only [List.mem_cons, List.not_mem_nil, or_false] at hx
        rcases hx with rfl | rfl | rfl
        · exact (hOF.same s17).bad (by decide)
        · exact .int (.inr (by omega))
        · exact .int (.inr (by omega))
      refine said_ne g1 rfl (fun E1 H1 Q' g2 kE => ?_) fun H3 g3 => if_f rfl ?_
      · have sE := (s17.trans G17.s).trans g2.s
        exact ⟨_, rfl, p, dx, _, rfl, sE _ _ hp, noh (by decide +kernel) (by decide +kernel) (by decide +kernel), _, rfl, no_words (RF.same sE) (hb2.same (G17.s.trans g2.s)) (kE _ (Same.refl _))⟩
      exact ⟨_, rfl, g3⟩
    obtain ⟨v15, rfl, g18⟩ := h
    have G18 := G17.on g18
    clear G16 G17 g18
    have RF := RF.same s17
    have LF := s17 _ _ LF
    have hp := s17 _ _ hp
    have hOF := hOF.same s17
    have hbad := hbad.same s17
    clear s17 f17
    -- _law_at
    refine ⟨_, rfl, _, _, rfl, rfl, ⟨by decide, by decide⟩, _, rfl, _, _, rfl, rfl, _, _, rfl, rfl, (by show (0 : Int) < (ms.length : Int) + 1; omega), ?_⟩
    obtain ⟨at_, eat⟩ : ∃ at_ : Int, V.int ((n : Int) / 400 % ((ms.length : Int) + 1)) = V.int at_ := ⟨_, rfl⟩
    dsimp only
    rw [eat]
    clear eat
    -- _law_bads: a list with something else in it
    refine ⟨_, rfl, _, rfl, _, rfl, L, _, rfl, SqL.of (G18.g.s _ _ (G18.s _ _ LF)), fun z1 hz1 => ?_⟩
    refine ⟨_, rfl, (by show 1 ≤ sizeLine; decide), fun z2 hz2 => ?_⟩
    have hlm : (ms.map nV).length = ms.length := List.length_map ..
    have c1 := cutV_length (ms.map nV) none (some at_)
    have c2 := cutV_length (ms.map nV) (some at_) none
    refine ⟨z1, z2, _, _, rfl, rfl, (same_new (Same.refl _) hz2) _ _ upd_same, upd_same, ?_, fun z3 hz3 => ?_⟩
    · exact Nat.le_of_lt (line5 (by rw [List.length_singleton]; omega))
    have G19 := ((G18.to (same_new (Same.refl _) (o := .lst (cutV (ms.map nV) none (some at_))) hz1)).to (same_new (Same.refl _) (o := .lst [bad]) hz2)).to (same_new (Same.refl _) (o := .lst (cutV (ms.map nV) none (some at_) ++ [bad])) hz3)
    refine ⟨_, rfl, _, rfl, _, rfl, L, _, rfl, SqL.of (G19.g.s _ _ (G19.s _ _ LF)), fun z4 hz4 => ?_⟩
    refine ⟨z3, z4, _, _, rfl, rfl, (same_new (Same.refl _) hz4) _ _ upd_same, upd_same, ?_, fun z5 hz5 => ?_⟩
    · exact Nat.le_of_lt (line5 (by rw [List.length_append, List.length_singleton]; omega))
    have G20 := G19.to (same_new (Same.refl _) (o := .lst (cutV (ms.map nV) (some at_) none)) hz4)
    obtain ⟨F1, B1, G21, e1, fz5⟩ := G20.add (o := .lst (cutV (ms.map nV) none (some at_) ++ [bad] ++ cutV (ms.map nV) (some at_) none)) hz5 (by intro ps z; cases z)
    refine ⟨_, rfl, (by show 2 ≤ sizeLine; decide), fun T1 hT1 => ?_⟩
    obtain ⟨F2, B2, G22, e2, fT1⟩ := G21.add (o := .tup [V.ref z5, nV wd]) hT1 (by intro ps z; cases z)
    have i1 : Item K F2 (V.ref T1) := ⟨T1, _, _, rfl, fT1, "list", "int", TyN.lst (SqL.of (e2 _ _ fz5)), TyN.int _, .inr ⟨wd, z5, _, rfl, rfl, e2 _ _ fz5, fun y hy => by
      rw [List.append_assoc] at hy
      rcases List.mem_append.mp hy with hy | hy
      · obtain ⟨b, rfl⟩ := cut_nV hy
        exact ⟨_, TyN.int _⟩
      · rcases List.mem_cons.mp hy with rfl | hy
        · exact hbad.1.imp fun _ h => (h.same e1).same e2
        · obtain ⟨b, rfl⟩ := cut_nV hy
          exact ⟨_, TyN.int _⟩, .inr ⟨bad, by simp, hbad.2⟩⟩⟩
    have e12 := e1.trans e2
    clear G18 G19 G20 G21 fz5 fT1
    -- (tuple(numbers), wide)
    refine ⟨_, rfl, L, _, rfl, .inl ⟨SqL.of (G22.g.s _ _ (G22.s _ _ (e12 _ _ LF))), fun y2 hy2 => ?_⟩⟩
    obtain ⟨F3, B3, G23, e3, fy2⟩ := G22.add (o := .tup (ms.map nV)) hy2 (by intro ps z; cases z)
    refine ⟨_, rfl, (by show 2 ≤ sizeLine; decide), fun T2 hT2 => ?_⟩
    obtain ⟨F4, B4, G24, e4, fT2⟩ := G23.add (o := .tup [V.ref y2, nV wd]) hT2 (by intro ps z; cases z)
    have i2 : Item K F4 (V.ref T2) := ⟨T2, _, _, rfl, fT2, "tuple", "int", TyN.tup (SqT.of (e4 _ _ fy2)), TyN.int _, .inl (.inr (by decide))⟩
    -- (None, wide), ({}, wide)
    refine ⟨_, rfl, (by show 2 ≤ sizeLine; decide), fun T3 hT3 => ?_⟩
    obtain ⟨F5, B5, G25, e5, fT3⟩ := G24.add (o := .tup [V.non, nV wd]) hT3 (by intro ps z; cases z)
    have i3 : Item K F5 (V.ref T3) := ⟨T3, _, _, rfl, fT3, "NoneType", "int", TyN.non, TyN.int _, .inl (.inr (by decide))⟩
    refine fun dd hdd => ?_
    obtain ⟨F6, B6, G26, e6, fdd⟩ := G25.add (o := .dK []) hdd (by intro ps z; cases z)
    refine ⟨_, rfl, (by show 2 ≤ sizeLine; decide), fun T4 hT4 => ?_⟩
    obtain ⟨F7, B7, G27, e7, fT4⟩ := G26.add (o := .tup [V.ref dd, nV wd]) hT4 (by intro ps z; cases z)
    have i4 : Item K F7 (V.ref T4) := ⟨T4, _, _, rfl, fT4, "dict", "int", TyN.dct (e7 _ _ fdd), TyN.int _, .inl (.inr (by decide))⟩
    refine ⟨(by show 4 ≤ sizeLine; decide), fun W1 hW1 => ?_⟩
    obtain ⟨F8, B8, G28, e8, fW1⟩ := G27.add (o := .lst [V.ref T1, V.ref T2, V.ref T3, V.ref T4]) hW1 (by intro ps z; cases z)
    have d47 := (e3.trans e4).trans ((e5.trans (e6.trans e7)).trans e8)
    have i1 := i1.same d47
    have i2 := i2.same (((e5.trans e6).trans e7).trans e8)
    have i3 := i3.same ((e6.trans e7).trans e8)
    have i4 := i4.same e8
    have e18 := e12.trans d47
    clear G22 G23 G24 G25 G26 G27 fT2 fT3 fT4 fy2 fdd d47 e1 e2 e3 e4 e5 e6 e7 e8 e12
    have LF8 := e18 _ _ LF
    -- (numbers, 0), (numbers, 65), (numbers, odd)
    refine ⟨_, rfl, _, rfl, (by show 2 ≤ sizeLine; decide), fun T5 hT5 => ?_⟩
    obtain ⟨F9, B9, G29, e1, fT5⟩ := G28.add (o := .tup [V.ref L, V.int 0]) hT5 (by intro ps z; cases z)
    have i5 : Item K F9 (V.ref T5) := ⟨T5, _, _, rfl, fT5, "list", "int", TyN.lst (SqL.of (e1 _ _ LF8)), TyN.int _, .inl (.inl (int_no (.inl (by decide))))⟩
    refine ⟨_, rfl, (by show 2 ≤ sizeLine; decide), fun T6 hT6 => ?_⟩
    obtain ⟨F10, B10, G30, e2, fT6⟩ := G29.add (o := .tup [V.ref L, V.int 65]) hT6 (by intro ps z; cases z)
    have i6 : Item K F10 (V.ref T6) := ⟨T6, _, _, rfl, fT6, "list", "int", TyN.lst (SqL.of (e2 _ _ (e1 _ _ LF8))), TyN.int _, .inl (.inl (int_no (.inr (by decide))))⟩
    refine ⟨_, rfl, _, rfl, (by show 2 ≤ sizeLine; decide), fun T7 hT7 => ?_⟩
    obtain ⟨F11, B11, G31, e3, fT7⟩ := G30.add (o := .tup [V.ref L, odd]) hT7 (by intro ps z; cases z)
    have hO11 := hOF.same (e18.trans ((e1.trans e2).trans e3))
    have i7 : Item K F11 (V.ref T7) := by
      obtain ⟨m, hm⟩ := hO11.ty
      exact ⟨T7, _, _, rfl, fT7, "list", m, TyN.lst (SqL.of (e3 _ _ (e2 _ _ (e1 _ _ LF8)))), hm, .inl (.inl (hO11.no (by decide)))⟩
    -- ([0] * 201, wide), ("", wide)
    refine ⟨(by show 1 ≤ sizeLine; decide), fun z0 hz0 => ⟨z0, _, _, rfl, rfl, upd_same, by decide, by decide, (by show 1 * 201 ≤ sizeLine; decide), fun z9 hz9 => ?_⟩⟩
    obtain ⟨F12, B12, G32, e4, fz9⟩ := (G31.to (same_new (Same.refl _) (o := .lst [V.int 0]) hz0)).add (o := .lst (List.replicate (201 : Int).toNat [V.int 0]).flatten) hz9 (by intro ps z; cases z)
    refine ⟨_, rfl, (by show 2 ≤ sizeLine; decide), fun T8 hT8 => ?_⟩
    obtain ⟨F13, B13, G33, e5, fT8⟩ := G32.add (o := .tup [V.ref z9, nV wd]) hT8 (by intro ps z; cases z)
    have er9 : (List.replicate (201 : Int).toNat [V.int 0]).flatten = List.replicate 201 (V.int 0) := List.flatten_replicate_singleton
    have i8 : Item K F13 (V.ref T8) := ⟨T8, _, _, rfl, fT8, "list", "int", TyN.lst (SqL.of (e5 _ _ fz9)), TyN.int _, .inr ⟨wd, z9, _, rfl, rfl, e5 _ _ fz9, fun y hy => by
      rw [er9] at hy
      rw [List.eq_of_mem_replicate hy]
      exact ⟨_, TyN.int _⟩, .inl (by rw [er9, List.length_replicate]; decide)⟩⟩
    refine ⟨_, rfl, (by show 2 ≤ sizeLine; decide), fun T9 hT9 => ?_⟩
    obtain ⟨F14, B14, G34, e6, fT9⟩ := G33.add (o := .tup [V.str "", nV wd]) hT9 (by intro ps z; cases z)
    have i9 : Item K F14 (V.ref T9) := ⟨T9, _, _, rfl, fT9, "str", "int", TyN.str _, TyN.int _, .inl (.inr (by decide))⟩
    refine ⟨(by show 5 ≤ sizeLine; decide), fun W2 hW2 => ?_⟩
    obtain ⟨F15, B15, G35, e7, fW2⟩ := G34.add (o := .lst [V.ref T5, V.ref T6, V.ref T7, V.ref T8, V.ref T9]) hW2 (by intro ps z; cases z)
    have d4 := (e4.trans e5).trans (e6.trans e7)
    have fW1 := d4 _ _ (e3 _ _ (e2 _ _ (e1 _ _ fW1)))
    refine ⟨W1, W2, _, _, rfl, rfl, G35.g.s _ _ (G35.s _ _ fW1), G35.g.s _ _ (G35.s _ _ fW2), (by show 4 + 5 ≤ sizeLine; decide), fun W3 hW3 => ?_⟩
    obtain ⟨F16, B16, G36, e8, fW3⟩ := G35.add (o := .lst ([V.ref T1, V.ref T2, V.ref T3, V.ref T4] ++ [V.ref T5, V.ref T6, V.ref T7, V.ref T8, V.ref T9])) hW3 (by intro ps z; cases z)
    have d48 := d4.trans e8
    have sE16 := (e18.trans ((e1.trans e2).trans e3)).trans d48
    have items : ∀ x ∈ [V.ref T1, V.ref T2, V.ref T3, V.ref T4] ++ [V.ref T5, V.ref T6, V.ref T7, V.ref T8, V.ref T9], Item K F16 x := by
      intro x hx
      have d14 := ((e1.trans e2).trans e3).trans d48
      simp only [List.cons_append, List.nil_append, List.mem_cons, List.not_mem_nil, or_false] at hx
      rcases hx with rfl | rfl | rfl | rfl | rfl | rfl | rfl | rfl | rfl
      · exact i1.same d14
      · exact i2.same d14
      · exact i3.same d14
      · exact i4.same d14
      · exact i5.same ((e2.trans e3).trans d48)
      · exact i6.same (e3.trans d48)
      · exact i7.same d48
      · exact i8.same ((e6.trans e7).trans e8)
      · exact i9.same (e7.trans e8)
    have RF := RF.same sE16
    have LF := sE16 _ _ LF
    have hp := sE16 _ _ hp
    clear G28 G29 G30 G31 G32 G33 G34 G35 i1 i2 i3 i4 i5 i6 i7 i8 i9 e1 e2 e3 e4 e5 e6 e7 e8 d4 d48 sE16 e18 hO11 fT5 fT6 fT7 fT8 fT9 fz9 fW1 fW2 hOF hbad LF8
    -- for _law_some, _law_size_of in _law_bads
    refine ⟨_, rfl, W3, rfl, ⟨_, SqL.of upd_same⟩, for_list (K := K) (xs := [V.ref T1, V.ref T2, V.ref T3, V.ref T4] ++ [V.ref T5, V.ref T6, V.ref T7, V.ref T8, V.ref T9]) (fun _ σ H' => ∃ v18 v19, σ = [some (.ref a), some (.ref d), some (.ref L), some (nV wd), some (nV ms.length), some (.ref p), some (nV n), some odd, some (.int far), some bad, some (nV f), some (nV b), v12', some (nV v), v14, v15, some (.int at_), some (.ref W3), v18, v19] ∧ Gn (Tb A) B16 H')
      ⟨none, none, rfl, G36.g⟩ (fun i σ H' _ ⟨_, _, _, g1⟩ => SqL.of (g1.s _ _ (G36.s _ _ fW3))) (fun i x σ H' hi h => ?_) fun σ H' h => ?_⟩
    · obtain ⟨v18, v19, rfl, g1⟩ := h
      obtain ⟨ti, u, y, rfl, hti, hno⟩ := items x (List.mem_of_getElem? hi)
      refine ⟨ti, _, rfl, SqT.of (g1.s _ _ (G36.s _ _ hti)), rfl, _, _, rfl, _, _, rfl, rfl, ?_⟩
      refine said_ne g1 rfl (fun E1 H1 Q' g2 kE => ?_) fun H3 g3 => if_f rfl ?_
      · exact ⟨_, rfl, _, rfl, fun x2 dy nx ndy _ => no_hrow (hno.same (G36.s.trans g2.s)) nx ndy kE⟩
      exact ⟨_, _, rfl, g3⟩
    obtain ⟨v18, v19, rfl, g37⟩ := h
    -- the row as it was
    have sK := G36.s.trans g37.s
    refine ⟨_, rfl, p, dx, _, rfl, sK _ _ hp, noh (by decide +kernel) (by decide +kernel) (by decide +kernel), p, wd, ms, rfl, RF.same sK, fun u1 H38 s38 _ hu1 => ⟨_, rfl, ?_⟩⟩
    refine eq_same (SqL.of hu1) (SqL.of (s38 _ _ (sK _ _ LF))) ⟨_, rfl, if_t rfl ?_⟩
    refine ⟨(by show 1 ≤ sizeLine; decide), fun y0 hy0 => ⟨y0, _, _, rfl, rfl, upd_same, by decide, by decide, (by show 1 * 200 ≤ sizeLine; decide), fun y1 hy1 => fun x dy nx ndy _ => ?_⟩⟩
    have er : (List.replicate (200 : Int).toNat [V.int 1]).flatten = (List.replicate 200 1).map nV := by
      rw [show (List.replicate (200 : Int).toNat [V.int 1]).flatten = List.replicate 200 (V.int 1) from List.flatten_replicate_singleton, List.map_replicate]
      rfl
    refine mk_hrow (w := 1) (ns := List.replicate 200 1) (by rw [← er]; exact SqL.of upd_same) (by rw [List.length_replicate]; decide) (by decide) (by decide) (fun m hm => by rw [List.eq_of_mem_replicate hm]; decide) nx ndy fun H39 qx s39 R39 => ⟨rfl, ?_⟩
    have R40 := R39.same new_same
    obtain ⟨dz, hpz⟩ := R40.ob
    refine ⟨x, dz, _, rfl, hpz, hrf_no _ _ _ (by decide +kernel) (by decide +kernel) (by decide +kernel), ?_⟩
    dsimp only [tCons, tC, tNil, List.append_nil]
    refine ask_count (v := 1) (i := 0) (j := 200) ⟨qx, R40⟩ (by decide) (by decide) (by rw [List.length_replicate]; decide) fun H41 _ => ⟨rfl, ?_⟩
    have ec : (slice (List.replicate 200 1) 0 200).count 1 = 200 := by decide +kernel
    rw [ec]
    exact kQ _

end
set_option maxHeartbeats 4000000 in
theorem all_mk {l : PySem.W.OpenLaw} {w : World} {K : PySem.W.Frag} {h : Heap} {mg : Str → Option Value} {fa : Addr} {ts : List Addr} (hts : ∀ P ∈ ts, h.get? P = some (PySem.W.tabObj #[])) (X : K.In h) (G : h.Ns mainGlobals mg) (hfa : mg "law" = some (.ref fa))
    {f_is_whole : Addr} {od_is_whole an_is_whole : Option Addr} {sl_is_whole : Array (Option Value)} {oc_is_whole kV_is_whole dc_is_whole pm_is_whole cd_is_whole ct_is_whole : Value}
    {f_is_among : Addr} {od_is_among an_is_among : Option Addr} {sl_is_among : Array (Option Value)} {oc_is_among kV_is_among dc_is_among pm_is_among cd_is_among ct_is_among : Value}
    {f_ones_in : Addr} {od_ones_in an_ones_in : Option Addr} {sl_ones_in : Array (Option Value)} {oc_ones_in kV_ones_in dc_ones_in pm_ones_in cd_ones_in ct_ones_in : Value}
    {f_packed : Addr} {od_packed an_packed : Option Addr} {sl_packed : Array (Option Value)} {oc_packed kV_packed dc_packed pm_packed cd_packed ct_packed : Value}
    {f_B_init : Addr} {od_B_init an_B_init : Option Addr} {sl_B_init : Array (Option Value)} {oc_B_init kV_B_init dc_B_init pm_B_init cd_B_init ct_B_init : Value}
    {f_B_words : Addr} {od_B_words an_B_words : Option Addr} {sl_B_words : Array (Option Value)} {oc_B_words kV_B_words dc_B_words pm_B_words cd_B_words ct_B_words : Value}
    {f_B_bit_at : Addr} {od_B_bit_at an_B_bit_at : Option Addr} {sl_B_bit_at : Array (Option Value)} {oc_B_bit_at kV_B_bit_at dc_B_bit_at pm_B_bit_at cd_B_bit_at ct_B_bit_at : Value}
    {f_B_ones : Addr} {od_B_ones an_B_ones : Option Addr} {sl_B_ones : Array (Option Value)} {oc_B_ones kV_B_ones dc_B_ones pm_B_ones cd_B_ones ct_B_ones : Value}
    {f_B_noughts : Addr} {od_B_noughts an_B_noughts : Option Addr} {sl_B_noughts : Array (Option Value)} {oc_B_noughts kV_B_noughts dc_B_noughts pm_B_noughts cd_B_noughts ct_B_noughts : Value}
    {f_B_place_of : Addr} {od_B_place_of an_B_place_of : Option Addr} {sl_B_place_of : Array (Option Value)} {oc_B_place_of kV_B_place_of dc_B_place_of pm_B_place_of cd_B_place_of ct_B_place_of : Value}
    {f_B_put : Addr} {od_B_put an_B_put : Option Addr} {sl_B_put : Array (Option Value)} {oc_B_put kV_B_put dc_B_put pm_B_put cd_B_put ct_B_put : Value}
    {f_parted : Addr} {od_parted an_parted : Option Addr} {sl_parted : Array (Option Value)} {oc_parted kV_parted dc_parted pm_parted cd_parted ct_parted : Value}
    {f_bit_rows : Addr} {od_bit_rows an_bit_rows : Option Addr} {sl_bit_rows : Array (Option Value)} {oc_bit_rows kV_bit_rows dc_bit_rows pm_bit_rows cd_bit_rows ct_bit_rows : Value}
    {f_H_init : Addr} {od_H_init an_H_init : Option Addr} {sl_H_init : Array (Option Value)} {oc_H_init kV_H_init dc_H_init pm_H_init cd_H_init ct_H_init : Value}
    {f_H_need_number : Addr} {od_H_need_number an_H_need_number : Option Addr} {sl_H_need_number : Array (Option Value)} {oc_H_need_number kV_H_need_number dc_H_need_number pm_H_need_number cd_H_need_number ct_H_need_number : Value}
    {f_H_need_stretch : Addr} {od_H_need_stretch an_H_need_stretch : Option Addr} {sl_H_need_stretch : Array (Option Value)} {oc_H_need_stretch kV_H_need_stretch dc_H_need_stretch pm_H_need_stretch cd_H_need_stretch ct_H_need_stretch : Value}
    {f_H_led : Addr} {od_H_led an_H_led : Option Addr} {sl_H_led : Array (Option Value)} {oc_H_led kV_H_led dc_H_led pm_H_led cd_H_led ct_H_led : Value}
    {f_H_number_at : Addr} {od_H_number_at an_H_number_at : Option Addr} {sl_H_number_at : Array (Option Value)} {oc_H_number_at kV_H_number_at dc_H_number_at pm_H_number_at cd_H_number_at ct_H_number_at : Value}
    {f_H_numbers : Addr} {od_H_numbers an_H_numbers : Option Addr} {sl_H_numbers : Array (Option Value)} {oc_H_numbers kV_H_numbers dc_H_numbers pm_H_numbers cd_H_numbers ct_H_numbers : Value}
    {f_H_bit_of : Addr} {od_H_bit_of an_H_bit_of : Option Addr} {sl_H_bit_of : Array (Option Value)} {oc_H_bit_of kV_H_bit_of dc_H_bit_of pm_H_bit_of cd_H_bit_of ct_H_bit_of : Value}
    {f_H_stretch_of : Addr} {od_H_stretch_of an_H_stretch_of : Option Addr} {sl_H_stretch_of : Array (Option Value)} {oc_H_stretch_of kV_H_stretch_of dc_H_stretch_of pm_H_stretch_of cd_H_stretch_of ct_H_stretch_of : Value}
    {f_H_count : Addr} {od_H_count an_H_count : Option Addr} {sl_H_count : Array (Option Value)} {oc_H_count kV_H_count dc_H_count pm_H_count cd_H_count ct_H_count : Value}
    {f_H_below : Addr} {od_H_below an_H_below : Option Addr} {sl_H_below : Array (Option Value)} {oc_H_below kV_H_below dc_H_below pm_H_below cd_H_below ct_H_below : Value}
    {f_H_least : Addr} {od_H_least an_H_least : Option Addr} {sl_H_least : Array (Option Value)} {oc_H_least kV_H_least dc_H_least pm_H_least cd_H_least ct_H_least : Value}
    {f_H_often : Addr} {od_H_often an_H_often : Option Addr} {sl_H_often : Array (Option Value)} {oc_H_often kV_H_often dc_H_often pm_H_often cd_H_often ct_H_often : Value}
    {f_H_place_of : Addr} {od_H_place_of an_H_place_of : Option Addr} {sl_H_place_of : Array (Option Value)} {oc_H_place_of kV_H_place_of dc_H_place_of pm_H_place_of cd_H_place_of ct_H_place_of : Value}
    {f_H_put : Addr} {od_H_put an_H_put : Option Addr} {sl_H_put : Array (Option Value)} {oc_H_put kV_H_put dc_H_put pm_H_put cd_H_put ct_H_put : Value}
    {f_H_words : Addr} {od_H_words an_H_words : Option Addr} {sl_H_words : Array (Option Value)} {oc_H_words kV_H_words dc_H_words pm_H_words cd_H_words ct_H_words : Value}
    {f__law_next : Addr} {od__law_next an__law_next : Option Addr} {sl__law_next : Array (Option Value)} {oc__law_next kV__law_next dc__law_next pm__law_next cd__law_next ct__law_next : Value}
    {f__law_great : Addr} {od__law_great an__law_great : Option Addr} {sl__law_great : Array (Option Value)} {oc__law_great kV__law_great dc__law_great pm__law_great cd__law_great ct__law_great : Value}
    {f__law_row : Addr} {od__law_row an__law_row : Option Addr} {sl__law_row : Array (Option Value)} {oc__law_row kV__law_row dc__law_row pm__law_row cd__law_row ct__law_row : Value}
    {f__law_stretch : Addr} {od__law_stretch an__law_stretch : Option Addr} {sl__law_stretch : Array (Option Value)} {oc__law_stretch kV__law_stretch dc__law_stretch pm__law_stretch cd__law_stretch ct__law_stretch : Value}
    {f__law_said : Addr} {od__law_said an__law_said : Option Addr} {sl__law_said : Array (Option Value)} {oc__law_said kV__law_said dc__law_said pm__law_said cd__law_said ct__law_said : Value}
    {f__law_odd : Addr} {od__law_odd an__law_odd : Option Addr} {sl__law_odd : Array (Option Value)} {oc__law_odd kV__law_odd dc__law_odd pm__law_odd cd__law_odd ct__law_odd : Value}
    {f__law_values_refused : Addr} {od__law_values_refused an__law_values_refused oo__law_values_refused : Option Addr} {sl__law_values_refused sk__law_values_refused : Array (Option Value)} {oc__law_values_refused kV__law_values_refused dc__law_values_refused pm__law_values_refused ct__law_values_refused ck__law_values_refused : Value} {c__law_values_refused P__law_values_refused : Addr} {vs__law_values_refused : Array Value}
    {f__law_stretches_refused : Addr} {od__law_stretches_refused an__law_stretches_refused oo__law_stretches_refused : Option Addr} {sl__law_stretches_refused sk__law_stretches_refused : Array (Option Value)} {oc__law_stretches_refused kV__law_stretches_refused dc__law_stretches_refused pm__law_stretches_refused ct__law_stretches_refused ck__law_stretches_refused : Value} {c__law_stretches_refused P__law_stretches_refused : Addr} {vs__law_stretches_refused : Array Value}
    {f_law : Addr} {od_law an_law oo_law : Option Addr} {sl_law sk_law : Array (Option Value)} {oc_law kV_law dc_law pm_law ct_law ck_law : Value} {c_law P_law : Addr} {vs_law : Array Value}
    {cB : Addr}
    {cH : Addr}
    {xBadRow : Addr}
    {xNoNumber : Addr}
    {xNoPlace : Addr}
    {xHalfError : Addr}
    {tWORD : Tok}
    {tMOST_BITS : Tok}
    {tMOST_NUMBERS : Tok}
    {tMOST_WIDE : Tok}
    (aB : PySem.W.nsIn K mainGlobals "BitRow" = some (some (.ref cB)))
    (aH : PySem.W.nsIn K mainGlobals "HalfRow" = some (some (.ref cH)))
    (a_is_whole : PySem.W.nsIn K mainGlobals "is_whole" = some (some (.ref f_is_whole)))
    (l_is_whole : K.lookup f_is_whole = some ⟨oc_is_whole, od_is_whole, .func (PySem.W.fnOf "is_whole" "is_whole" (defArgs s_is_whole) (defBody s_is_whole) (defScope s_is_whole) .none kV_is_whole dc_is_whole pm_is_whole an_is_whole cd_is_whole ct_is_whole), sl_is_whole⟩) (k0_is_whole : PySem.W.codeIn K cd_is_whole "is_whole" = true) (kk_is_whole : PySem.W.keepIn K (.ref f_is_whole) = true)
    (a_is_among : PySem.W.nsIn K mainGlobals "is_among" = some (some (.ref f_is_among)))
    (l_is_among : K.lookup f_is_among = some ⟨oc_is_among, od_is_among, .func (PySem.W.fnOf "is_among" "is_among" (defArgs s_is_among) (defBody s_is_among) (defScope s_is_among) .none kV_is_among dc_is_among pm_is_among an_is_among cd_is_among ct_is_among), sl_is_among⟩) (k0_is_among : PySem.W.codeIn K cd_is_among "is_among" = true) (kk_is_among : PySem.W.keepIn K (.ref f_is_among) = true)
    (a_ones_in : PySem.W.nsIn K mainGlobals "ones_in" = some (some (.ref f_ones_in)))
    (l_ones_in : K.lookup f_ones_in = some ⟨oc_ones_in, od_ones_in, .func (PySem.W.fnOf "ones_in" "ones_in" (defArgs s_ones_in) (defBody s_ones_in) (defScope s_ones_in) .none kV_ones_in dc_ones_in pm_ones_in an_ones_in cd_ones_in ct_ones_in), sl_ones_in⟩) (k0_ones_in : PySem.W.codeIn K cd_ones_in "ones_in" = true) (kk_ones_in : PySem.W.keepIn K (.ref f_ones_in) = true)
    (a_packed : PySem.W.nsIn K mainGlobals "packed" = some (some (.ref f_packed)))
    (l_packed : K.lookup f_packed = some ⟨oc_packed, od_packed, .func (PySem.W.fnOf "packed" "packed" (defArgs s_packed) (defBody s_packed) (defScope s_packed) .none kV_packed dc_packed pm_packed an_packed cd_packed ct_packed), sl_packed⟩) (k0_packed : PySem.W.codeIn K cd_packed "packed" = true) (kk_packed : PySem.W.keepIn K (.ref f_packed) = true)
    (a_B_init : PySem.W.findIn K (.ref cB) "__init__" = some (some (.ref f_B_init))) (i_B_init : PySem.W.isFn K (.ref f_B_init) = true)
    (l_B_init : K.lookup f_B_init = some ⟨oc_B_init, od_B_init, .func (PySem.W.fnOf "__init__" "BitRow.__init__" (defArgs s_B_init) (defBody s_B_init) (defScope s_B_init) .none kV_B_init dc_B_init pm_B_init an_B_init cd_B_init ct_B_init), sl_B_init⟩) (k0_B_init : PySem.W.codeIn K cd_B_init "BitRow.__init__" = true) (kk_B_init : PySem.W.keepIn K (.ref f_B_init) = true)
    (a_B_words : PySem.W.findIn K (.ref cB) "words" = some (some (.ref f_B_words))) (i_B_words : PySem.W.isFn K (.ref f_B_words) = true)
    (l_B_words : K.lookup f_B_words = some ⟨oc_B_words, od_B_words, .func (PySem.W.fnOf "words" "BitRow.words" (defArgs s_B_words) (defBody s_B_words) (defScope s_B_words) .none kV_B_words dc_B_words pm_B_words an_B_words cd_B_words ct_B_words), sl_B_words⟩) (k0_B_words : PySem.W.codeIn K cd_B_words "BitRow.words" = true) (kk_B_words : PySem.W.keepIn K (.ref f_B_words) = true)
    (a_B_bit_at : PySem.W.findIn K (.ref cB) "bit_at" = some (some (.ref f_B_bit_at))) (i_B_bit_at : PySem.W.isFn K (.ref f_B_bit_at) = true)
    (l_B_bit_at : K.lookup f_B_bit_at = some ⟨oc_B_bit_at, od_B_bit_at, .func (PySem.W.fnOf "bit_at" "BitRow.bit_at" (defArgs s_B_bit_at) (defBody s_B_bit_at) (defScope s_B_bit_at) .none kV_B_bit_at dc_B_bit_at pm_B_bit_at an_B_bit_at cd_B_bit_at ct_B_bit_at), sl_B_bit_at⟩) (k0_B_bit_at : PySem.W.codeIn K cd_B_bit_at "BitRow.bit_at" = true) (kk_B_bit_at : PySem.W.keepIn K (.ref f_B_bit_at) = true)
    (a_B_ones : PySem.W.findIn K (.ref cB) "ones" = some (some (.ref f_B_ones))) (i_B_ones : PySem.W.isFn K (.ref f_B_ones) = true)
    (l_B_ones : K.lookup f_B_ones = some ⟨oc_B_ones, od_B_ones, .func (PySem.W.fnOf "ones" "BitRow.ones" (defArgs s_B_ones) (defBody s_B_ones) (defScope s_B_ones) .none kV_B_ones dc_B_ones pm_B_ones an_B_ones cd_B_ones ct_B_ones), sl_B_ones⟩) (k0_B_ones : PySem.W.codeIn K cd_B_ones "BitRow.ones" = true) (kk_B_ones : PySem.W.keepIn K (.ref f_B_ones) = true)
    (a_B_noughts : PySem.W.findIn K (.ref cB) "noughts" = some (some (.ref f_B_noughts))) (i_B_noughts : PySem.W.isFn K (.ref f_B_noughts) = true)
    (l_B_noughts : K.lookup f_B_noughts = some ⟨oc_B_noughts, od_B_noughts, .func (PySem.W.fnOf "noughts" "BitRow.noughts" (defArgs s_B_noughts) (defBody s_B_noughts) (defScope s_B_noughts) .none kV_B_noughts dc_B_noughts pm_B_noughts an_B_noughts cd_B_noughts ct_B_noughts), sl_B_noughts⟩) (k0_B_noughts : PySem.W.codeIn K cd_B_noughts "BitRow.noughts" = true) (kk_B_noughts : PySem.W.keepIn K (.ref f_B_noughts) = true)
    (a_B_place_of : PySem.W.findIn K (.ref cB) "place_of" = some (some (.ref f_B_place_of))) (i_B_place_of : PySem.W.isFn K (.ref f_B_place_of) = true)
    (l_B_place_of : K.lookup f_B_place_of = some ⟨oc_B_place_of, od_B_place_of, .func (PySem.W.fnOf "place_of" "BitRow.place_of" (defArgs s_B_place_of) (defBody s_B_place_of) (defScope s_B_place_of) .none kV_B_place_of dc_B_place_of pm_B_place_of an_B_place_of cd_B_place_of ct_B_place_of), sl_B_place_of⟩) (k0_B_place_of : PySem.W.codeIn K cd_B_place_of "BitRow.place_of" = true) (kk_B_place_of : PySem.W.keepIn K (.ref f_B_place_of) = true)
    (a_B_put : PySem.W.findIn K (.ref cB) "put" = some (some (.ref f_B_put))) (i_B_put : PySem.W.isFn K (.ref f_B_put) = true)
    (l_B_put : K.lookup f_B_put = some ⟨oc_B_put, od_B_put, .func (PySem.W.fnOf "put" "BitRow.put" (defArgs s_B_put) (defBody s_B_put) (defScope s_B_put) .none kV_B_put dc_B_put pm_B_put an_B_put cd_B_put ct_B_put), sl_B_put⟩) (k0_B_put : PySem.W.codeIn K cd_B_put "BitRow.put" = true) (kk_B_put : PySem.W.keepIn K (.ref f_B_put) = true)
    (a_parted : PySem.W.nsIn K mainGlobals "parted" = some (some (.ref f_parted)))
    (l_parted : K.lookup f_parted = some ⟨oc_parted, od_parted, .func (PySem.W.fnOf "parted" "parted" (defArgs s_parted) (defBody s_parted) (defScope s_parted) .none kV_parted dc_parted pm_parted an_parted cd_parted ct_parted), sl_parted⟩) (k0_parted : PySem.W.codeIn K cd_parted "parted" = true) (kk_parted : PySem.W.keepIn K (.ref f_parted) = true)
    (a_bit_rows : PySem.W.nsIn K mainGlobals "bit_rows" = some (some (.ref f_bit_rows)))
    (l_bit_rows : K.lookup f_bit_rows = some ⟨oc_bit_rows, od_bit_rows, .func (PySem.W.fnOf "bit_rows" "bit_rows" (defArgs s_bit_rows) (defBody s_bit_rows) (defScope s_bit_rows) .none kV_bit_rows dc_bit_rows pm_bit_rows an_bit_rows cd_bit_rows ct_bit_rows), sl_bit_rows⟩) (k0_bit_rows : PySem.W.codeIn K cd_bit_rows "bit_rows" = true) (kk_bit_rows : PySem.W.keepIn K (.ref f_bit_rows) = true)
    (a_H_init : PySem.W.findIn K (.ref cH) "__init__" = some (some (.ref f_H_init))) (i_H_init : PySem.W.isFn K (.ref f_H_init) = true)
    (l_H_init : K.lookup f_H_init = some ⟨oc_H_init, od_H_init, .func (PySem.W.fnOf "__init__" "HalfRow.__init__" (defArgs s_H_init) (defBody s_H_init) (defScope s_H_init) .none kV_H_init dc_H_init pm_H_init an_H_init cd_H_init ct_H_init), sl_H_init⟩) (k0_H_init : PySem.W.codeIn K cd_H_init "HalfRow.__init__" = true) (kk_H_init : PySem.W.keepIn K (.ref f_H_init) = true)
    (a_H_need_number : PySem.W.findIn K (.ref cH) "need_number" = some (some (.ref f_H_need_number))) (i_H_need_number : PySem.W.isFn K (.ref f_H_need_number) = true)
    (l_H_need_number : K.lookup f_H_need_number = some ⟨oc_H_need_number, od_H_need_number, .func (PySem.W.fnOf "need_number" "HalfRow.need_number" (defArgs s_H_need_number) (defBody s_H_need_number) (defScope s_H_need_number) .none kV_H_need_number dc_H_need_number pm_H_need_number an_H_need_number cd_H_need_number ct_H_need_number), sl_H_need_number⟩) (k0_H_need_number : PySem.W.codeIn K cd_H_need_number "HalfRow.need_number" = true) (kk_H_need_number : PySem.W.keepIn K (.ref f_H_need_number) = true)
    (a_H_need_stretch : PySem.W.findIn K (.ref cH) "need_stretch" = some (some (.ref f_H_need_stretch))) (i_H_need_stretch : PySem.W.isFn K (.ref f_H_need_stretch) = true)
    (l_H_need_stretch : K.lookup f_H_need_stretch = some ⟨oc_H_need_stretch, od_H_need_stretch, .func (PySem.W.fnOf "need_stretch" "HalfRow.need_stretch" (defArgs s_H_need_stretch) (defBody s_H_need_stretch) (defScope s_H_need_stretch) .none kV_H_need_stretch dc_H_need_stretch pm_H_need_stretch an_H_need_stretch cd_H_need_stretch ct_H_need_stretch), sl_H_need_stretch⟩) (k0_H_need_stretch : PySem.W.codeIn K cd_H_need_stretch "HalfRow.need_stretch" = true) (kk_H_need_stretch : PySem.W.keepIn K (.ref f_H_need_stretch) = true)
    (a_H_led : PySem.W.findIn K (.ref cH) "led" = some (some (.ref f_H_led))) (i_H_led : PySem.W.isFn K (.ref f_H_led) = true)
    (l_H_led : K.lookup f_H_led = some ⟨oc_H_led, od_H_led, .func (PySem.W.fnOf "led" "HalfRow.led" (defArgs s_H_led) (defBody s_H_led) (defScope s_H_led) .none kV_H_led dc_H_led pm_H_led an_H_led cd_H_led ct_H_led), sl_H_led⟩) (k0_H_led : PySem.W.codeIn K cd_H_led "HalfRow.led" = true) (kk_H_led : PySem.W.keepIn K (.ref f_H_led) = true)
    (a_H_number_at : PySem.W.findIn K (.ref cH) "number_at" = some (some (.ref f_H_number_at))) (i_H_number_at : PySem.W.isFn K (.ref f_H_number_at) = true)
    (l_H_number_at : K.lookup f_H_number_at = some ⟨oc_H_number_at, od_H_number_at, .func (PySem.W.fnOf "number_at" "HalfRow.number_at" (defArgs s_H_number_at) (defBody s_H_number_at) (defScope s_H_number_at) .none kV_H_number_at dc_H_number_at pm_H_number_at an_H_number_at cd_H_number_at ct_H_number_at), sl_H_number_at⟩) (k0_H_number_at : PySem.W.codeIn K cd_H_number_at "HalfRow.number_at" = true) (kk_H_number_at : PySem.W.keepIn K (.ref f_H_number_at) = true)
    (a_H_numbers : PySem.W.findIn K (.ref cH) "numbers" = some (some (.ref f_H_numbers))) (i_H_numbers : PySem.W.isFn K (.ref f_H_numbers) = true)
    (l_H_numbers : K.lookup f_H_numbers = some ⟨oc_H_numbers, od_H_numbers, .func (PySem.W.fnOf "numbers" "HalfRow.numbers" (defArgs s_H_numbers) (defBody s_H_numbers) (defScope s_H_numbers) .none kV_H_numbers dc_H_numbers pm_H_numbers an_H_numbers cd_H_numbers ct_H_numbers), sl_H_numbers⟩) (k0_H_numbers : PySem.W.codeIn K cd_H_numbers "HalfRow.numbers" = true) (kk_H_numbers : PySem.W.keepIn K (.ref f_H_numbers) = true)
    (a_H_bit_of : PySem.W.findIn K (.ref cH) "bit_of" = some (some (.ref f_H_bit_of))) (i_H_bit_of : PySem.W.isFn K (.ref f_H_bit_of) = true)
    (l_H_bit_of : K.lookup f_H_bit_of = some ⟨oc_H_bit_of, od_H_bit_of, .func (PySem.W.fnOf "bit_of" "HalfRow.bit_of" (defArgs s_H_bit_of) (defBody s_H_bit_of) (defScope s_H_bit_of) .none kV_H_bit_of dc_H_bit_of pm_H_bit_of an_H_bit_of cd_H_bit_of ct_H_bit_of), sl_H_bit_of⟩) (k0_H_bit_of : PySem.W.codeIn K cd_H_bit_of "HalfRow.bit_of" = true) (kk_H_bit_of : PySem.W.keepIn K (.ref f_H_bit_of) = true)
    (a_H_stretch_of : PySem.W.findIn K (.ref cH) "stretch_of" = some (some (.ref f_H_stretch_of))) (i_H_stretch_of : PySem.W.isFn K (.ref f_H_stretch_of) = true)
    (l_H_stretch_of : K.lookup f_H_stretch_of = some ⟨oc_H_stretch_of, od_H_stretch_of, .func (PySem.W.fnOf "stretch_of" "HalfRow.stretch_of" (defArgs s_H_stretch_of) (defBody s_H_stretch_of) (defScope s_H_stretch_of) .none kV_H_stretch_of dc_H_stretch_of pm_H_stretch_of an_H_stretch_of cd_H_stretch_of ct_H_stretch_of), sl_H_stretch_of⟩) (k0_H_stretch_of : PySem.W.codeIn K cd_H_stretch_of "HalfRow.stretch_of" = true) (kk_H_stretch_of : PySem.W.keepIn K (.ref f_H_stretch_of) = true)
    (a_H_count : PySem.W.findIn K (.ref cH) "count" = some (some (.ref f_H_count))) (i_H_count : PySem.W.isFn K (.ref f_H_count) = true)
    (l_H_count : K.lookup f_H_count = some ⟨oc_H_count, od_H_count, .func (PySem.W.fnOf "count" "HalfRow.count" (defArgs s_H_count) (defBody s_H_count) (defScope s_H_count) .none kV_H_count dc_H_count pm_H_count an_H_count cd_H_count ct_H_count), sl_H_count⟩) (k0_H_count : PySem.W.codeIn K cd_H_count "HalfRow.count" = true) (kk_H_count : PySem.W.keepIn K (.ref f_H_count) = true)
    (a_H_below : PySem.W.findIn K (.ref cH) "below" = some (some (.ref f_H_below))) (i_H_below : PySem.W.isFn K (.ref f_H_below) = true)
    (l_H_below : K.lookup f_H_below = some ⟨oc_H_below, od_H_below, .func (PySem.W.fnOf "below" "HalfRow.below" (defArgs s_H_below) (defBody s_H_below) (defScope s_H_below) .none kV_H_below dc_H_below pm_H_below an_H_below cd_H_below ct_H_below), sl_H_below⟩) (k0_H_below : PySem.W.codeIn K cd_H_below "HalfRow.below" = true) (kk_H_below : PySem.W.keepIn K (.ref f_H_below) = true)
    (a_H_least : PySem.W.findIn K (.ref cH) "least" = some (some (.ref f_H_least))) (i_H_least : PySem.W.isFn K (.ref f_H_least) = true)
    (l_H_least : K.lookup f_H_least = some ⟨oc_H_least, od_H_least, .func (PySem.W.fnOf "least" "HalfRow.least" (defArgs s_H_least) (defBody s_H_least) (defScope s_H_least) .none kV_H_least dc_H_least pm_H_least an_H_least cd_H_least ct_H_least), sl_H_least⟩) (k0_H_least : PySem.W.codeIn K cd_H_least "HalfRow.least" = true) (kk_H_least : PySem.W.keepIn K (.ref f_H_least) = true)
    (a_H_often : PySem.W.findIn K (.ref cH) "often" = some (some (.ref f_H_often))) (i_H_often : PySem.W.isFn K (.ref f_H_often) = true)
    (l_H_often : K.lookup f_H_often = some ⟨oc_H_often, od_H_often, .func (PySem.W.fnOf "often" "HalfRow.often" (defArgs s_H_often) (defBody s_H_often) (defScope s_H_often) .none kV_H_often dc_H_often pm_H_often an_H_often cd_H_often ct_H_often), sl_H_often⟩) (k0_H_often : PySem.W.codeIn K cd_H_often "HalfRow.often" = true) (kk_H_often : PySem.W.keepIn K (.ref f_H_often) = true)
    (a_H_place_of : PySem.W.findIn K (.ref cH) "place_of" = some (some (.ref f_H_place_of))) (i_H_place_of : PySem.W.isFn K (.ref f_H_place_of) = true)
    (l_H_place_of : K.lookup f_H_place_of = some ⟨oc_H_place_of, od_H_place_of, .func (PySem.W.fnOf "place_of" "HalfRow.place_of" (defArgs s_H_place_of) (defBody s_H_place_of) (defScope s_H_place_of) .none kV_H_place_of dc_H_place_of pm_H_place_of an_H_place_of cd_H_place_of ct_H_place_of), sl_H_place_of⟩) (k0_H_place_of : PySem.W.codeIn K cd_H_place_of "HalfRow.place_of" = true) (kk_H_place_of : PySem.W.keepIn K (.ref f_H_place_of) = true)
    (a_H_put : PySem.W.findIn K (.ref cH) "put" = some (some (.ref f_H_put))) (i_H_put : PySem.W.isFn K (.ref f_H_put) = true)
    (l_H_put : K.lookup f_H_put = some ⟨oc_H_put, od_H_put, .func (PySem.W.fnOf "put" "HalfRow.put" (defArgs s_H_put) (defBody s_H_put) (defScope s_H_put) .none kV_H_put dc_H_put pm_H_put an_H_put cd_H_put ct_H_put), sl_H_put⟩) (k0_H_put : PySem.W.codeIn K cd_H_put "HalfRow.put" = true) (kk_H_put : PySem.W.keepIn K (.ref f_H_put) = true)
    (a_H_words : PySem.W.findIn K (.ref cH) "words" = some (some (.ref f_H_words))) (i_H_words : PySem.W.isFn K (.ref f_H_words) = true)
    (l_H_words : K.lookup f_H_words = some ⟨oc_H_words, od_H_words, .func (PySem.W.fnOf "words" "HalfRow.words" (defArgs s_H_words) (defBody s_H_words) (defScope s_H_words) .none kV_H_words dc_H_words pm_H_words an_H_words cd_H_words ct_H_words), sl_H_words⟩) (k0_H_words : PySem.W.codeIn K cd_H_words "HalfRow.words" = true) (kk_H_words : PySem.W.keepIn K (.ref f_H_words) = true)
    (a__law_next : PySem.W.nsIn K mainGlobals "_law_next" = some (some (.ref f__law_next)))
    (l__law_next : K.lookup f__law_next = some ⟨oc__law_next, od__law_next, .func (PySem.W.fnOf "_law_next" "_law_next" (defArgs s__law_next) (defBody s__law_next) (defScope s__law_next) .none kV__law_next dc__law_next pm__law_next an__law_next cd__law_next ct__law_next), sl__law_next⟩) (k0__law_next : PySem.W.codeIn K cd__law_next "_law_next" = true) (kk__law_next : PySem.W.keepIn K (.ref f__law_next) = true)
    (a__law_great : PySem.W.nsIn K mainGlobals "_law_great" = some (some (.ref f__law_great)))
    (l__law_great : K.lookup f__law_great = some ⟨oc__law_great, od__law_great, .func (PySem.W.fnOf "_law_great" "_law_great" (defArgs s__law_great) (defBody s__law_great) (defScope s__law_great) .none kV__law_great dc__law_great pm__law_great an__law_great cd__law_great ct__law_great), sl__law_great⟩) (k0__law_great : PySem.W.codeIn K cd__law_great "_law_great" = true) (kk__law_great : PySem.W.keepIn K (.ref f__law_great) = true)
    (a__law_row : PySem.W.nsIn K mainGlobals "_law_row" = some (some (.ref f__law_row)))
    (l__law_row : K.lookup f__law_row = some ⟨oc__law_row, od__law_row, .func (PySem.W.fnOf "_law_row" "_law_row" (defArgs s__law_row) (defBody s__law_row) (defScope s__law_row) .none kV__law_row dc__law_row pm__law_row an__law_row cd__law_row ct__law_row), sl__law_row⟩) (k0__law_row : PySem.W.codeIn K cd__law_row "_law_row" = true) (kk__law_row : PySem.W.keepIn K (.ref f__law_row) = true)
    (a__law_stretch : PySem.W.nsIn K mainGlobals "_law_stretch" = some (some (.ref f__law_stretch)))
    (l__law_stretch : K.lookup f__law_stretch = some ⟨oc__law_stretch, od__law_stretch, .func (PySem.W.fnOf "_law_stretch" "_law_stretch" (defArgs s__law_stretch) (defBody s__law_stretch) (defScope s__law_stretch) .none kV__law_stretch dc__law_stretch pm__law_stretch an__law_stretch cd__law_stretch ct__law_stretch), sl__law_stretch⟩) (k0__law_stretch : PySem.W.codeIn K cd__law_stretch "_law_stretch" = true) (kk__law_stretch : PySem.W.keepIn K (.ref f__law_stretch) = true)
    (a__law_said : PySem.W.nsIn K mainGlobals "_law_said" = some (some (.ref f__law_said)))
    (l__law_said : K.lookup f__law_said = some ⟨oc__law_said, od__law_said, .func (PySem.W.fnOf "_law_said" "_law_said" (defArgs s__law_said) (defBody s__law_said) (defScope s__law_said) .none kV__law_said dc__law_said pm__law_said an__law_said cd__law_said ct__law_said), sl__law_said⟩) (k0__law_said : PySem.W.codeIn K cd__law_said "_law_said" = true) (kk__law_said : PySem.W.keepIn K (.ref f__law_said) = true)
    (a__law_odd : PySem.W.nsIn K mainGlobals "_law_odd" = some (some (.ref f__law_odd)))
    (l__law_odd : K.lookup f__law_odd = some ⟨oc__law_odd, od__law_odd, .func (PySem.W.fnOf "_law_odd" "_law_odd" (defArgs s__law_odd) (defBody s__law_odd) (defScope s__law_odd) .none kV__law_odd dc__law_odd pm__law_odd an__law_odd cd__law_odd ct__law_odd), sl__law_odd⟩) (k0__law_odd : PySem.W.codeIn K cd__law_odd "_law_odd" = true) (kk__law_odd : PySem.W.keepIn K (.ref f__law_odd) = true)
    (a__law_values_refused : PySem.W.nsIn K mainGlobals "_law_values_refused" = some (some (.ref f__law_values_refused)))
    (l__law_values_refused : K.lookup f__law_values_refused = some ⟨oc__law_values_refused, od__law_values_refused, .func (PySem.W.fnOf "_law_values_refused" "_law_values_refused" (defArgs s__law_values_refused) (defBody s__law_values_refused) (defScope s__law_values_refused) .none kV__law_values_refused dc__law_values_refused pm__law_values_refused an__law_values_refused (.ref c__law_values_refused) ct__law_values_refused), sl__law_values_refused⟩) (k0__law_values_refused : PySem.W.codeIn K (.ref c__law_values_refused) "_law_values_refused" = true) (kk__law_values_refused : PySem.W.keepIn K (.ref f__law_values_refused) = true)
    (a__law_stretches_refused : PySem.W.nsIn K mainGlobals "_law_stretches_refused" = some (some (.ref f__law_stretches_refused)))
    (l__law_stretches_refused : K.lookup f__law_stretches_refused = some ⟨oc__law_stretches_refused, od__law_stretches_refused, .func (PySem.W.fnOf "_law_stretches_refused" "_law_stretches_refused" (defArgs s__law_stretches_refused) (defBody s__law_stretches_refused) (defScope s__law_stretches_refused) .none kV__law_stretches_refused dc__law_stretches_refused pm__law_stretches_refused an__law_stretches_refused (.ref c__law_stretches_refused) ct__law_stretches_refused), sl__law_stretches_refused⟩) (k0__law_stretches_refused : PySem.W.codeIn K (.ref c__law_stretches_refused) "_law_stretches_refused" = true) (kk__law_stretches_refused : PySem.W.keepIn K (.ref f__law_stretches_refused) = true)
    (a_law : PySem.W.nsIn K mainGlobals "law" = some (some (.ref f_law)))
    (l_law : K.lookup f_law = some ⟨oc_law, od_law, .func (PySem.W.fnOf "law" "law" (defArgs s_law) (defBody s_law) (defScope s_law) .none kV_law dc_law pm_law an_law (.ref c_law) ct_law), sl_law⟩) (k0_law : PySem.W.codeIn K (.ref c_law) "law" = true) (kk_law : PySem.W.keepIn K (.ref f_law) = true)
    (pgB : PySem.W.plainGet K cB Str.empty = true) (hdB : PySem.W.hasDictIn K cB = true) (poB : PySem.W.plainOver K cB = true) (saB : PySem.W.findIn K (.ref cB) "__setattr__" = some (some (.builtin "object.__setattr__"))) (mkB : PySem.W.makesIn K cB = true) (kcB : PySem.W.keepIn K (.ref cB) = true)
    (nB_size : PySem.W.findIn K (.ref cB) "size" = some none)
    (nB_packs : PySem.W.findIn K (.ref cB) "packs" = some none)
    (nB_heads : PySem.W.findIn K (.ref cB) "heads" = some none)
    (pgH : PySem.W.plainGet K cH Str.empty = true) (hdH : PySem.W.hasDictIn K cH = true) (poH : PySem.W.plainOver K cH = true) (saH : PySem.W.findIn K (.ref cH) "__setattr__" = some (some (.builtin "object.__setattr__"))) (mkH : PySem.W.makesIn K cH = true) (kcH : PySem.W.keepIn K (.ref cH) = true)
    (nH_size : PySem.W.findIn K (.ref cH) "size" = some none)
    (nH_wide : PySem.W.findIn K (.ref cH) "wide" = some none)
    (nH_halves : PySem.W.findIn K (.ref cH) "halves" = some none)
    (aeBadRow : PySem.W.nsIn K mainGlobals "BadRow" = some (some (.ref xBadRow))) (xeBadRow : PySem.W.excIn K xBadRow [.type "ValueError", .type "Exception", .type "BaseException", .type "object"] "ValueError.__new__" = true) (keBadRow : PySem.W.keepIn K (.ref xBadRow) = true) (beBadRow : PySem.W.subIn K (.ref xBadRow) (.type "BaseException") = some true) (teBadRow : PySem.W.typeIn K (.ref xBadRow) = some (.type "type"))
    (aeNoNumber : PySem.W.nsIn K mainGlobals "NoNumber" = some (some (.ref xNoNumber))) (xeNoNumber : PySem.W.excIn K xNoNumber [.type "ValueError", .type "Exception", .type "BaseException", .type "object"] "ValueError.__new__" = true) (keNoNumber : PySem.W.keepIn K (.ref xNoNumber) = true) (beNoNumber : PySem.W.subIn K (.ref xNoNumber) (.type "BaseException") = some true) (teNoNumber : PySem.W.typeIn K (.ref xNoNumber) = some (.type "type"))
    (aeNoPlace : PySem.W.nsIn K mainGlobals "NoPlace" = some (some (.ref xNoPlace))) (xeNoPlace : PySem.W.excIn K xNoPlace [.type "ValueError", .type "Exception", .type "BaseException", .type "object"] "ValueError.__new__" = true) (keNoPlace : PySem.W.keepIn K (.ref xNoPlace) = true) (beNoPlace : PySem.W.subIn K (.ref xNoPlace) (.type "BaseException") = some true) (teNoPlace : PySem.W.typeIn K (.ref xNoPlace) = some (.type "type"))
    (vWORD : PySem.W.nsIn K mainGlobals "WORD" = some (some (.int 32 tWORD)))
    (vMOST_BITS : PySem.W.nsIn K mainGlobals "MOST_BITS" = some (some (.int 4000 tMOST_BITS)))
    (vMOST_NUMBERS : PySem.W.nsIn K mainGlobals "MOST_NUMBERS" = some (some (.int 200 tMOST_NUMBERS)))
    (vMOST_WIDE : PySem.W.nsIn K mainGlobals "MOST_WIDE" = some (some (.int 64 tMOST_WIDE)))
    (aHE : PySem.W.nsIn K mainGlobals "HalfError" = some (some (.ref xHalfError)))
    (qgBadRow : PySem.W.findIn K (.ref xBadRow) "__getattribute__" = some (some (.builtin "BaseException.__getattribute__")))
    (qkBadRow : PySem.W.findIn K (.ref xBadRow) "__getattr__" = some none)
    (qsBadRow : PySem.W.subIn K (.ref xBadRow) (.type "BaseException") = some true)
    (qdBadRow : PySem.W.hasDictIn K xBadRow = true)
    (qaBadRow : PySem.W.findIn K (.ref xBadRow) "__class__" = some (some (.builtin "object.__class__")))
    (qnBadRow : PySem.W.specialIn K (.builtin "object.__class__") "__get__" = some (some (.builtin "getset_descriptor.__get__")))
    (qtBadRow : PySem.W.takesIn K (.builtin "object.__class__") = some true)
    (qmBadRow : PySem.W.mroIn K xBadRow (.type "object") = some true)
    (kh_BadRow : PySem.W.exmOne K (.ref xBadRow) (.ref xHalfError) = some true)
    (kv_BadRow : PySem.W.kitOne K (.ref xBadRow) (.type "ValueError") = some true)
    (ki0_BadRow : PySem.W.kitOne K (.ref xBadRow) (.ref xBadRow) = some true)
    (ki1_BadRow : PySem.W.kitOne K (.ref xBadRow) (.ref xNoNumber) = some false)
    (ki2_BadRow : PySem.W.kitOne K (.ref xBadRow) (.ref xNoPlace) = some false)
    (qgNoNumber : PySem.W.findIn K (.ref xNoNumber) "__getattribute__" = some (some (.builtin "BaseException.__getattribute__")))
    (qkNoNumber : PySem.W.findIn K (.ref xNoNumber) "__getattr__" = some none)
    (qsNoNumber : PySem.W.subIn K (.ref xNoNumber) (.type "BaseException") = some true)
    (qdNoNumber : PySem.W.hasDictIn K xNoNumber = true)
    (qaNoNumber : PySem.W.findIn K (.ref xNoNumber) "__class__" = some (some (.builtin "object.__class__")))
    (qnNoNumber : PySem.W.specialIn K (.builtin "object.__class__") "__get__" = some (some (.builtin "getset_descriptor.__get__")))
    (qtNoNumber : PySem.W.takesIn K (.builtin "object.__class__") = some true)
    (qmNoNumber : PySem.W.mroIn K xNoNumber (.type "object") = some true)
    (kh_NoNumber : PySem.W.exmOne K (.ref xNoNumber) (.ref xHalfError) = some true)
    (kv_NoNumber : PySem.W.kitOne K (.ref xNoNumber) (.type "ValueError") = some true)
    (ki0_NoNumber : PySem.W.kitOne K (.ref xNoNumber) (.ref xBadRow) = some false)
    (ki1_NoNumber : PySem.W.kitOne K (.ref xNoNumber) (.ref xNoNumber) = some true)
    (ki2_NoNumber : PySem.W.kitOne K (.ref xNoNumber) (.ref xNoPlace) = some false)
    (qgNoPlace : PySem.W.findIn K (.ref xNoPlace) "__getattribute__" = some (some (.builtin "BaseException.__getattribute__")))
    (qkNoPlace : PySem.W.findIn K (.ref xNoPlace) "__getattr__" = some none)
    (qsNoPlace : PySem.W.subIn K (.ref xNoPlace) (.type "BaseException") = some true)
    (qdNoPlace : PySem.W.hasDictIn K xNoPlace = true)
    (qaNoPlace : PySem.W.findIn K (.ref xNoPlace) "__class__" = some (some (.builtin "object.__class__")))
    (qnNoPlace : PySem.W.specialIn K (.builtin "object.__class__") "__get__" = some (some (.builtin "getset_descriptor.__get__")))
    (qtNoPlace : PySem.W.takesIn K (.builtin "object.__class__") = some true)
    (qmNoPlace : PySem.W.mroIn K xNoPlace (.type "object") = some true)
    (kh_NoPlace : PySem.W.exmOne K (.ref xNoPlace) (.ref xHalfError) = some true)
    (kv_NoPlace : PySem.W.kitOne K (.ref xNoPlace) (.type "ValueError") = some true)
    (ki0_NoPlace : PySem.W.kitOne K (.ref xNoPlace) (.ref xBadRow) = some false)
    (ki1_NoPlace : PySem.W.kitOne K (.ref xNoPlace) (.ref xNoNumber) = some false)
    (ki2_NoPlace : PySem.W.kitOne K (.ref xNoPlace) (.ref xNoPlace) = some true)
    (t__law_values_refused : K.lookup c__law_values_refused = some ⟨ck__law_values_refused, oo__law_values_refused, .fields vs__law_values_refused, sk__law_values_refused⟩)
    (v__law_values_refused : vs__law_values_refused[11]? = some (.ref P__law_values_refused))
    (h__law_values_refused : PySem.W.codeHdIn K c__law_values_refused P__law_values_refused = true) (p__law_values_refused : P__law_values_refused ∈ ts) (e__law_values_refused : K.lookup P__law_values_refused = none)
    (t__law_stretches_refused : K.lookup c__law_stretches_refused = some ⟨ck__law_stretches_refused, oo__law_stretches_refused, .fields vs__law_stretches_refused, sk__law_stretches_refused⟩)
    (v__law_stretches_refused : vs__law_stretches_refused[11]? = some (.ref P__law_stretches_refused))
    (h__law_stretches_refused : PySem.W.codeHdIn K c__law_stretches_refused P__law_stretches_refused = true) (p__law_stretches_refused : P__law_stretches_refused ∈ ts) (e__law_stretches_refused : K.lookup P__law_stretches_refused = none)
    (t_law : K.lookup c_law = some ⟨ck_law, oo_law, .fields vs_law, sk_law⟩)
    (v_law : vs_law[11]? = some (.ref P_law))
    (h_law : PySem.W.codeHdIn K c_law P_law = true) (p_law : P_law ∈ ts) (e_law : K.lookup P_law = none)
    (n_0_1 : P__law_values_refused ≠ P__law_stretches_refused)
    (n_0_2 : P__law_values_refused ≠ P_law)
    (n_1_2 : P__law_stretches_refused ≠ P_law)
    (z_isinstance : PySem.W.nsIn K mainGlobals "isinstance" = some none)
    (z_int : PySem.W.nsIn K mainGlobals "int" = some none)
    (z_bool : PySem.W.nsIn K mainGlobals "bool" = some none)
    (z_list : PySem.W.nsIn K mainGlobals "list" = some none)
    (z_tuple : PySem.W.nsIn K mainGlobals "tuple" = some none)
    (z_len : PySem.W.nsIn K mainGlobals "len" = some none)
    (z_enumerate : PySem.W.nsIn K mainGlobals "enumerate" = some none)
    (z_range : PySem.W.nsIn K mainGlobals "range" = some none)
    (z_all : PySem.W.nsIn K mainGlobals "all" = some none)
    (z_reversed : PySem.W.nsIn K mainGlobals "reversed" = some none)
    (z_min : PySem.W.nsIn K mainGlobals "min" = some none)
    (z_max : PySem.W.nsIn K mainGlobals "max" = some none)
    (z_ValueError : PySem.W.nsIn K mainGlobals "ValueError" = some none)
    : LamX.LawAtS l w K CX0 20 63 "_law_script" mg fa h := by
  have e := hfa.symm.trans (PySem.W.mg_of X G a_law)
  cases e
  have F_is_whole := fun_mk (st := s_is_whole) l_is_whole k0_is_whole kk_is_whole
  have F_is_among := fun_mk (st := s_is_among) l_is_among k0_is_among kk_is_among
  have F_ones_in := fun_mk (st := s_ones_in) l_ones_in k0_ones_in kk_ones_in
  have F_packed := fun_mk (st := s_packed) l_packed k0_packed kk_packed
  have F_B_init := fun_mk (st := s_B_init) l_B_init k0_B_init kk_B_init
  have F_B_words := fun_mk (st := s_B_words) l_B_words k0_B_words kk_B_words
  have F_B_bit_at := fun_mk (st := s_B_bit_at) l_B_bit_at k0_B_bit_at kk_B_bit_at
  have F_B_ones := fun_mk (st := s_B_ones) l_B_ones k0_B_ones kk_B_ones
  have F_B_noughts := fun_mk (st := s_B_noughts) l_B_noughts k0_B_noughts kk_B_noughts
  have F_B_place_of := fun_mk (st := s_B_place_of) l_B_place_of k0_B_place_of kk_B_place_of
  have F_B_put := fun_mk (st := s_B_put) l_B_put k0_B_put kk_B_put
  have F_parted := fun_mk (st := s_parted) l_parted k0_parted kk_parted
  have F_bit_rows := fun_mk (st := s_bit_rows) l_bit_rows k0_bit_rows kk_bit_rows
  have F_H_init := fun_mk (st := s_H_init) l_H_init k0_H_init kk_H_init
  have F_H_need_number := fun_mk (st := s_H_need_number) l_H_need_number k0_H_need_number kk_H_need_number
  have F_H_need_stretch := fun_mk (st := s_H_need_stretch) l_H_need_stretch k0_H_need_stretch kk_H_need_stretch
  have F_H_led := fun_mk (st := s_H_led) l_H_led k0_H_led kk_H_led
  have F_H_number_at := fun_mk (st := s_H_number_at) l_H_number_at k0_H_number_at kk_H_number_at
  have F_H_numbers := fun_mk (st := s_H_numbers) l_H_numbers k0_H_numbers kk_H_numbers
  have F_H_bit_of := fun_mk (st := s_H_bit_of) l_H_bit_of k0_H_bit_of kk_H_bit_of
  have F_H_stretch_of := fun_mk (st := s_H_stretch_of) l_H_stretch_of k0_H_stretch_of kk_H_stretch_of
  have F_H_count := fun_mk (st := s_H_count) l_H_count k0_H_count kk_H_count
  have F_H_below := fun_mk (st := s_H_below) l_H_below k0_H_below kk_H_below
  have F_H_least := fun_mk (st := s_H_least) l_H_least k0_H_least kk_H_least
  have F_H_often := fun_mk (st := s_H_often) l_H_often k0_H_often kk_H_often
  have F_H_place_of := fun_mk (st := s_H_place_of) l_H_place_of k0_H_place_of kk_H_place_of
  have F_H_put := fun_mk (st := s_H_put) l_H_put k0_H_put kk_H_put
  have F_H_words := fun_mk (st := s_H_words) l_H_words k0_H_words kk_H_words
  have F__law_next := fun_mk (st := s__law_next) l__law_next k0__law_next kk__law_next
  have F__law_great := fun_mk (st := s__law_great) l__law_great k0__law_great kk__law_great
  have F__law_row := fun_mk (st := s__law_row) l__law_row k0__law_row kk__law_row
  have F__law_stretch := fun_mk (st := s__law_stretch) l__law_stretch k0__law_stretch kk__law_stretch
  have F__law_said := fun_mk (st := s__law_said) l__law_said k0__law_said kk__law_said
  have F__law_odd := fun_mk (st := s__law_odd) l__law_odd k0__law_odd kk__law_odd
  have F__law_values_refused := fun_mk (st := s__law_values_refused) l__law_values_refused k0__law_values_refused kk__law_values_refused
  have F__law_stretches_refused := fun_mk (st := s__law_stretches_refused) l__law_stretches_refused k0__law_stretches_refused kk__law_stretches_refused
  have F_law := fun_mk (st := s_law) l_law k0_law kk_law
  have T : Tx K mg ⟨f_is_whole, _, f_is_among, _, f_ones_in, _, f_packed, _, f_B_init, _, f_B_words, _, f_B_bit_at, _, f_B_ones, _, f_B_noughts, _, f_B_place_of, _, f_B_put, _, f_parted, _, f_bit_rows, _, f_H_init, _, f_H_need_number, _, f_H_need_stretch, _, f_H_led, _, f_H_number_at, _, f_H_numbers, _, f_H_bit_of, _, f_H_stretch_of, _, f_H_count, _, f_H_below, _, f_H_least, _, f_H_often, _, f_H_place_of, _, f_H_put, _, f_H_words, _, f__law_next, _, f__law_great, _, f__law_row, _, f__law_stretch, _, f__law_said, _, f__law_odd, _, f__law_values_refused, _, f__law_stretches_refused, _, fa, _, cB, cH, xBadRow, xNoNumber, xNoPlace, xHalfError, c__law_values_refused, P__law_values_refused, c__law_stretches_refused, P__law_stretches_refused, c_law, P_law⟩ := ⟨⟨F_is_whole, F_is_whole.binds (ps := ["thing"]) fun _ _ _ _ _ _ us hl => match us, hl with | [_], _ => rfl, PySem.W.mg_of X G a_is_whole⟩,
    ⟨F_is_among, F_is_among.binds (ps := ["thing", "least", "most"]) fun _ _ _ _ _ _ us hl => match us, hl with | [_, _, _], _ => rfl, PySem.W.mg_of X G a_is_among⟩,
    ⟨F_ones_in, F_ones_in.binds (ps := ["word"]) fun _ _ _ _ _ _ us hl => match us, hl with | [_], _ => rfl, PySem.W.mg_of X G a_ones_in⟩,
    ⟨F_packed, F_packed.binds (ps := ["bits"]) fun _ _ _ _ _ _ us hl => match us, hl with | [_], _ => rfl, PySem.W.mg_of X G a_packed⟩,
    ⟨F_B_init, F_B_init.binds (ps := ["self", "bits"]) fun _ _ _ _ _ _ us hl => match us, hl with | [_, _], _ => rfl, ⟨a_B_init, i_B_init, kk_B_init⟩⟩,
    ⟨F_B_words, F_B_words.binds (ps := ["self"]) fun _ _ _ _ _ _ us hl => match us, hl with | [_], _ => rfl, ⟨a_B_words, i_B_words, kk_B_words⟩⟩,
    ⟨F_B_bit_at, F_B_bit_at.binds (ps := ["self", "place"]) fun _ _ _ _ _ _ us hl => match us, hl with | [_, _], _ => rfl, ⟨a_B_bit_at, i_B_bit_at, kk_B_bit_at⟩⟩,
    ⟨F_B_ones, F_B_ones.binds (ps := ["self", "place"]) fun _ _ _ _ _ _ us hl => match us, hl with | [_, _], _ => rfl, ⟨a_B_ones, i_B_ones, kk_B_ones⟩⟩,
    ⟨F_B_noughts, F_B_noughts.binds (ps := ["self", "place"]) fun _ _ _ _ _ _ us hl => match us, hl with | [_, _], _ => rfl, ⟨a_B_noughts, i_B_noughts, kk_B_noughts⟩⟩,
    ⟨F_B_place_of, F_B_place_of.binds (ps := ["self", "bit", "turn"]) fun _ _ _ _ _ _ us hl => match us, hl with | [_, _, _], _ => rfl, ⟨a_B_place_of, i_B_place_of, kk_B_place_of⟩⟩,
    ⟨F_B_put, F_B_put.binds (ps := ["self", "place", "bit"]) fun _ _ _ _ _ _ us hl => match us, hl with | [_, _, _], _ => rfl, ⟨a_B_put, i_B_put, kk_B_put⟩⟩,
    ⟨F_parted, F_parted.binds (ps := ["numbers", "bit"]) fun _ _ _ _ _ _ us hl => match us, hl with | [_, _], _ => rfl, PySem.W.mg_of X G a_parted⟩,
    ⟨F_bit_rows, F_bit_rows.binds (ps := ["numbers", "wide"]) fun _ _ _ _ _ _ us hl => match us, hl with | [_, _], _ => rfl, PySem.W.mg_of X G a_bit_rows⟩,
    ⟨F_H_init, F_H_init.binds (ps := ["self", "numbers", "wide"]) fun _ _ _ _ _ _ us hl => match us, hl with | [_, _, _], _ => rfl, ⟨a_H_init, i_H_init, kk_H_init⟩⟩,
    ⟨F_H_need_number, F_H_need_number.binds (ps := ["self", "value"]) fun _ _ _ _ _ _ us hl => match us, hl with | [_, _], _ => rfl, ⟨a_H_need_number, i_H_need_number, kk_H_need_number⟩⟩,
    ⟨F_H_need_stretch, F_H_need_stretch.binds (ps := ["self", "first", "behind"]) fun _ _ _ _ _ _ us hl => match us, hl with | [_, _, _], _ => rfl, ⟨a_H_need_stretch, i_H_need_stretch, kk_H_need_stretch⟩⟩,
    ⟨F_H_led, F_H_led.binds (ps := ["self", "level", "place", "bit"]) fun _ _ _ _ _ _ us hl => match us, hl with | [_, _, _, _], _ => rfl, ⟨a_H_led, i_H_led, kk_H_led⟩⟩,
    ⟨F_H_number_at, F_H_number_at.binds (ps := ["self", "place"]) fun _ _ _ _ _ _ us hl => match us, hl with | [_, _], _ => rfl, ⟨a_H_number_at, i_H_number_at, kk_H_number_at⟩⟩,
    ⟨F_H_numbers, F_H_numbers.binds (ps := ["self"]) fun _ _ _ _ _ _ us hl => match us, hl with | [_], _ => rfl, ⟨a_H_numbers, i_H_numbers, kk_H_numbers⟩⟩,
    ⟨F_H_bit_of, F_H_bit_of.binds (ps := ["self", "value", "level"]) fun _ _ _ _ _ _ us hl => match us, hl with | [_, _, _], _ => rfl, ⟨a_H_bit_of, i_H_bit_of, kk_H_bit_of⟩⟩,
    ⟨F_H_stretch_of, F_H_stretch_of.binds (ps := ["self", "value", "first", "behind"]) fun _ _ _ _ _ _ us hl => match us, hl with | [_, _, _, _], _ => rfl, ⟨a_H_stretch_of, i_H_stretch_of, kk_H_stretch_of⟩⟩,
    ⟨F_H_count, F_H_count.binds (ps := ["self", "value", "first", "behind"]) fun _ _ _ _ _ _ us hl => match us, hl with | [_, _, _, _], _ => rfl, ⟨a_H_count, i_H_count, kk_H_count⟩⟩,
    ⟨F_H_below, F_H_below.binds (ps := ["self", "value", "first", "behind"]) fun _ _ _ _ _ _ us hl => match us, hl with | [_, _, _, _], _ => rfl, ⟨a_H_below, i_H_below, kk_H_below⟩⟩,
    ⟨F_H_least, F_H_least.binds (ps := ["self", "turn", "first", "behind"]) fun _ _ _ _ _ _ us hl => match us, hl with | [_, _, _, _], _ => rfl, ⟨a_H_least, i_H_least, kk_H_least⟩⟩,
    ⟨F_H_often, F_H_often.binds (ps := ["self", "first", "behind"]) fun _ _ _ _ _ _ us hl => match us, hl with | [_, _, _], _ => rfl, ⟨a_H_often, i_H_often, kk_H_often⟩⟩,
    ⟨F_H_place_of, F_H_place_of.binds (ps := ["self", "value", "turn"]) fun _ _ _ _ _ _ us hl => match us, hl with | [_, _, _], _ => rfl, ⟨a_H_place_of, i_H_place_of, kk_H_place_of⟩⟩,
    ⟨F_H_put, F_H_put.binds (ps := ["self", "place", "value"]) fun _ _ _ _ _ _ us hl => match us, hl with | [_, _, _], _ => rfl, ⟨a_H_put, i_H_put, kk_H_put⟩⟩,
    ⟨F_H_words, F_H_words.binds (ps := ["self", "level"]) fun _ _ _ _ _ _ us hl => match us, hl with | [_, _], _ => rfl, ⟨a_H_words, i_H_words, kk_H_words⟩⟩,
    ⟨F__law_next, F__law_next.binds (ps := ["_law_state"]) fun _ _ _ _ _ _ us hl => match us, hl with | [_], _ => rfl, PySem.W.mg_of X G a__law_next⟩,
    ⟨F__law_great, F__law_great.binds (ps := ["_law_state", "_law_wide"]) fun _ _ _ _ _ _ us hl => match us, hl with | [_, _], _ => rfl, PySem.W.mg_of X G a__law_great⟩,
    ⟨F__law_row, F__law_row.binds (ps := ["_law_state"]) fun _ _ _ _ _ _ us hl => match us, hl with | [_], _ => rfl, PySem.W.mg_of X G a__law_row⟩,
    ⟨F__law_stretch, F__law_stretch.binds (ps := ["_law_state", "_law_size"]) fun _ _ _ _ _ _ us hl => match us, hl with | [_, _], _ => rfl, PySem.W.mg_of X G a__law_stretch⟩,
    ⟨F__law_said, F__law_said.binds (ps := ["_law_worker"]) fun _ _ _ _ _ _ us hl => match us, hl with | [_], _ => rfl, PySem.W.mg_of X G a__law_said⟩,
    ⟨F__law_odd, F__law_odd.binds (ps := ["_law_n"]) fun _ _ _ _ _ _ us hl => match us, hl with | [_], _ => rfl, PySem.W.mg_of X G a__law_odd⟩,
    ⟨F__law_values_refused, F__law_values_refused.binds (ps := ["_law_row_here", "_law_size", "_law_bad"]) fun _ _ _ _ _ _ us hl => match us, hl with | [_, _, _], _ => rfl, PySem.W.mg_of X G a__law_values_refused⟩,
    ⟨F__law_stretches_refused, F__law_stretches_refused.binds (ps := ["_law_row_here", "_law_size", "_law_odd_here", "_law_far"]) fun _ _ _ _ _ _ us hl => match us, hl with | [_, _, _, _], _ => rfl, PySem.W.mg_of X G a__law_stretches_refused⟩,
    ⟨F_law, F_law.binds (ps := ["_law_script"]) fun _ _ _ _ _ _ us hl => match us, hl with | [_], _ => rfl, PySem.W.mg_of X G a_law⟩,
    ⟨pgB, hdB, poB, saB⟩,
    ⟨mkB, a_B_init, i_B_init, kcB⟩,
    PySem.W.mg_of X G aB,
    nB_size,
    nB_packs,
    nB_heads,
    ⟨pgH, hdH, poH, saH⟩,
    ⟨mkH, a_H_init, i_H_init, kcH⟩,
    PySem.W.mg_of X G aH,
    nH_size,
    nH_wide,
    nH_halves,
    ⟨PySem.W.mg_of X G aeBadRow, xeBadRow, keBadRow, beBadRow, teBadRow⟩,
    ⟨PySem.W.mg_of X G aeNoNumber, xeNoNumber, keNoNumber, beNoNumber, teNoNumber⟩,
    ⟨PySem.W.mg_of X G aeNoPlace, xeNoPlace, keNoPlace, beNoPlace, teNoPlace⟩,
    ⟨_, PySem.W.mg_of X G vWORD⟩,
    ⟨_, PySem.W.mg_of X G vMOST_BITS⟩,
    ⟨_, PySem.W.mg_of X G vMOST_NUMBERS⟩,
    ⟨_, PySem.W.mg_of X G vMOST_WIDE⟩,
    PySem.W.mg_none_of X G z_isinstance,
    PySem.W.mg_none_of X G z_int,
    PySem.W.mg_none_of X G z_bool,
    PySem.W.mg_none_of X G z_list,
    PySem.W.mg_none_of X G z_tuple,
    PySem.W.mg_none_of X G z_len,
    PySem.W.mg_none_of X G z_enumerate,
    PySem.W.mg_none_of X G z_range,
    PySem.W.mg_none_of X G z_all,
    PySem.W.mg_none_of X G z_reversed,
    PySem.W.mg_none_of X G z_min,
    PySem.W.mg_none_of X G z_max,
    PySem.W.mg_none_of X G z_ValueError,
    PySem.W.mg_of X G aHE,
    ⟨⟨qgBadRow, qkBadRow, qsBadRow, qdBadRow, qaBadRow, qnBadRow, qtBadRow, qmBadRow⟩, kh_BadRow, ki0_BadRow, ki1_BadRow, ki2_BadRow, kv_BadRow⟩,
    ⟨⟨qgNoNumber, qkNoNumber, qsNoNumber, qdNoNumber, qaNoNumber, qnNoNumber, qtNoNumber, qmNoNumber⟩, kh_NoNumber, ki0_NoNumber, ki1_NoNumber, ki2_NoNumber, kv_NoNumber⟩,
    ⟨⟨qgNoPlace, qkNoPlace, qsNoPlace, qdNoPlace, qaNoPlace, qnNoPlace, qtNoPlace, qmNoPlace⟩, kh_NoPlace, ki0_NoPlace, ki1_NoPlace, ki2_NoPlace, kv_NoPlace⟩,
    rfl,
    rfl,
    rfl,
    n_0_1,
    n_0_2,
    n_1_2⟩
  refine ⟨_, [(c__law_values_refused, P__law_values_refused), (c__law_stretches_refused, P__law_stretches_refused), (c_law, P_law)], spLawT K _, ?_, ?_, ?_, fun s v => .of_eq rfl, ?_, fun base _ _ hB => ok_law T ⟨hB (c__law_values_refused, P__law_values_refused) (by simp), hB (c__law_stretches_refused, P__law_stretches_refused) (by simp), hB (c_law, P_law) (by simp)⟩⟩
  · intro p hp
    simp only [List.mem_cons, List.not_mem_nil, or_false] at hp
    rcases hp with rfl | rfl | rfl
    · exact hts _ p__law_values_refused
    · exact hts _ p__law_stretches_refused
    · exact hts _ p_law
  · intro p hp
    simp only [List.mem_cons, List.not_mem_nil, or_false] at hp
    rcases hp with rfl | rfl | rfl
    · exact e__law_values_refused
    · exact e__law_stretches_refused
    · exact e_law
  · intro p hp
    simp only [List.mem_cons, List.not_mem_nil, or_false] at hp
    rcases hp with rfl | rfl | rfl
    · exact PySem.W.codeHd_of_K X h__law_values_refused
    · exact PySem.W.codeHd_of_K X h__law_stretches_refused
    · exact PySem.W.codeHd_of_K X h_law
  · intro H a ns hl _ hH hS
    refine ⟨a, ns, rfl, hS, hl, fun p hp => ?_, fun _ => rfl⟩
    unfold Tb at hp
    simp only [List.mem_cons, List.not_mem_nil, or_false] at hp
    rcases hp with rfl | rfl | rfl
    · exact LamX.TabS.nil (hH (c__law_values_refused, P__law_values_refused) (by simp))
    · exact LamX.TabS.nil (hH (c__law_stretches_refused, P__law_stretches_refused) (by simp))
    · exact LamX.TabS.nil (hH (c_law, P_law) (by simp))
end Hf
open PySem PySem.W PyProof.Rows
set_option maxRecDepth 100000 in
set_option maxHeartbeats 0 in
theorem PySem.Challenge.cw_halfrows_k07_rows_refused_holds : PySem.Challenge.rw_halfrows_k07_rows_refused.Holds := by
  w_on; o_law; k_head; (case hw => w_witness2)
  k_fill
  refine LamX.walk_ofTs (l := PySem.Challenge.rw_halfrows_k07_rows_refused) (n := 63) (k := 20) (x := "_law_script") (CX := fun _ => L2.CX0) rfl (by decide) rfl ⟨rfl, by decide, by decide⟩ (fun w h Y => PySem.W.km_in_of Y) ?F (fun _ _ _ _ _ z => z)
  case F =>
    intro w mg fa h Y KX G hmg
    refine' Hf.all_mk (PySem.W.km_tabs_of Y) KX G hmg ?aB ?aH ?a_is_whole ?l_is_whole ?k0_is_whole ?kk_is_whole ?a_is_among ?l_is_among ?k0_is_among ?kk_is_among ?a_ones_in ?l_ones_in ?k0_ones_in ?kk_ones_in ?a_packed ?l_packed ?k0_packed ?kk_packed ?a_B_init ?i_B_init ?l_B_init ?k0_B_init ?kk_B_init ?a_B_words ?i_B_words ?l_B_words ?k0_B_words ?kk_B_words ?a_B_bit_at ?i_B_bit_at ?l_B_bit_at ?k0_B_bit_at ?kk_B_bit_at ?a_B_ones ?i_B_ones ?l_B_ones ?k0_B_ones ?kk_B_ones ?a_B_noughts ?i_B_noughts ?l_B_noughts ?k0_B_noughts ?kk_B_noughts ?a_B_place_of ?i_B_place_of ?l_B_place_of ?k0_B_place_of ?kk_B_place_of ?a_B_put ?i_B_put ?l_B_put ?k0_B_put ?kk_B_put ?a_parted ?l_parted ?k0_parted ?kk_parted ?a_bit_rows ?l_bit_rows ?k0_bit_rows ?kk_bit_rows ?a_H_init ?i_H_init ?l_H_init ?k0_H_init ?kk_H_init ?a_H_need_number ?i_H_need_number ?l_H_need_number ?k0_H_need_number ?kk_H_need_number ?a_H_need_stretch ?i_H_need_stretch ?l_H_need_stretch ?k0_H_need_stretch ?kk_H_need_stretch ?a_H_led ?i_H_led ?l_H_led ?k0_H_led ?kk_H_led ?a_H_number_at ?i_H_number_at ?l_H_number_at ?k0_H_number_at ?kk_H_number_at ?a_H_numbers ?i_H_numbers ?l_H_numbers ?k0_H_numbers ?kk_H_numbers ?a_H_bit_of ?i_H_bit_of ?l_H_bit_of ?k0_H_bit_of ?kk_H_bit_of ?a_H_stretch_of ?i_H_stretch_of ?l_H_stretch_of ?k0_H_stretch_of ?kk_H_stretch_of ?a_H_count ?i_H_count ?l_H_count ?k0_H_count ?kk_H_count ?a_H_below ?i_H_below ?l_H_below ?k0_H_below ?kk_H_below ?a_H_least ?i_H_least ?l_H_least ?k0_H_least ?kk_H_least ?a_H_often ?i_H_often ?l_H_often ?k0_H_often ?kk_H_often ?a_H_place_of ?i_H_place_of ?l_H_place_of ?k0_H_place_of ?kk_H_place_of ?a_H_put ?i_H_put ?l_H_put ?k0_H_put ?kk_H_put ?a_H_words ?i_H_words ?l_H_words ?k0_H_words ?kk_H_words ?a__law_next ?l__law_next ?k0__law_next ?kk__law_next ?a__law_great ?l__law_great ?k0__law_great ?kk__law_great ?a__law_row ?l__law_row ?k0__law_row ?kk__law_row ?a__law_stretch ?l__law_stretch ?k0__law_stretch ?kk__law_stretch ?a__law_said ?l__law_said ?k0__law_said ?kk__law_said ?a__law_odd ?l__law_odd ?k0__law_odd ?kk__law_odd ?a__law_values_refused ?l__law_values_refused ?k0__law_values_refused ?kk__law_values_refused ?a__law_stretches_refused ?l__law_stretches_refused ?k0__law_stretches_refused ?kk__law_stretches_refused ?a_law ?l_law ?k0_law ?kk_law ?pgB ?hdB ?poB ?saB ?mkB ?kcB ?nB_size ?nB_packs ?nB_heads ?pgH ?hdH ?poH ?saH ?mkH ?kcH ?nH_size ?nH_wide ?nH_halves ?aeBadRow ?xeBadRow ?keBadRow ?beBadRow ?teBadRow ?aeNoNumber ?xeNoNumber ?keNoNumber ?beNoNumber ?teNoNumber ?aeNoPlace ?xeNoPlace ?keNoPlace ?beNoPlace ?teNoPlace ?vWORD ?vMOST_BITS ?vMOST_NUMBERS ?vMOST_WIDE ?aHE ?qgBadRow ?qkBadRow ?qsBadRow ?qdBadRow ?qaBadRow ?qnBadRow ?qtBadRow ?qmBadRow ?kh_BadRow ?kv_BadRow ?ki0_BadRow ?ki1_BadRow ?ki2_BadRow ?qgNoNumber ?qkNoNumber ?qsNoNumber ?qdNoNumber ?qaNoNumber ?qnNoNumber ?qtNoNumber ?qmNoNumber ?kh_NoNumber ?kv_NoNumber ?ki0_NoNumber ?ki1_NoNumber ?ki2_NoNumber ?qgNoPlace ?qkNoPlace ?qsNoPlace ?qdNoPlace ?qaNoPlace ?qnNoPlace ?qtNoPlace ?qmNoPlace ?kh_NoPlace ?kv_NoPlace ?ki0_NoPlace ?ki1_NoPlace ?ki2_NoPlace ?t__law_values_refused ?v__law_values_refused ?h__law_values_refused ?p__law_values_refused ?e__law_values_refused ?t__law_stretches_refused ?v__law_stretches_refused ?h__law_stretches_refused ?p__law_stretches_refused ?e__law_stretches_refused ?t_law ?v_law ?h_law ?p_law ?e_law ?n_0_1 ?n_0_2 ?n_1_2 ?z_isinstance ?z_int ?z_bool ?z_list ?z_tuple ?z_len ?z_enumerate ?z_range ?z_all ?z_reversed ?z_min ?z_max ?z_ValueError
    (case aB => k_is)
    (case aH => k_is)
    (case a_is_whole => k_is)
    (case l_is_whole => k_is)
    (case k0_is_whole => k_is)
    (case kk_is_whole => k_is)
    (case a_is_among => k_is)
    (case l_is_among => k_is)
    (case k0_is_among => k_is)
    (case kk_is_among => k_is)
    (case a_ones_in => k_is)
    (case l_ones_in => k_is)
    (case k0_ones_in => k_is)
    (case kk_ones_in => k_is)
    (case a_packed => k_is)
    (case l_packed => k_is)
    (case k0_packed => k_is)
    (case kk_packed => k_is)
    (case a_B_init => k_is)
    (case i_B_init => k_is)
    (case l_B_init => k_is)
    (case k0_B_init => k_is)
    (case kk_B_init => k_is)
    (case a_B_words => k_is)
    (case i_B_words => k_is)
    (case l_B_words => k_is)
    (case k0_B_words => k_is)
    (case kk_B_words => k_is)
    (case a_B_bit_at => k_is)
    (case i_B_bit_at => k_is)
    (case l_B_bit_at => k_is)
    (case k0_B_bit_at => k_is)
    (case kk_B_bit_at => k_is)
    (case a_B_ones => k_is)
    (case i_B_ones => k_is)
    (case l_B_ones => k_is)
    (case k0_B_ones => k_is)
    (case kk_B_ones => k_is)
    (case a_B_noughts => k_is)
    (case i_B_noughts => k_is)
    (case l_B_noughts => k_is)
    (case k0_B_noughts => k_is)
    (case kk_B_noughts => k_is)
    (case a_B_place_of => k_is)
    (case i_B_place_of => k_is)
    (case l_B_place_of => k_is)
    (case k0_B_place_of => k_is)
    (case kk_B_place_of => k_is)
    (case a_B_put => k_is)
    (case i_B_put => k_is)
    (case l_B_put => k_is)
    (case k0_B_put => k_is)
    (case kk_B_put => k_is)
    (case a_parted => k_is)
    (case l_parted => k_is)
    (case k0_parted => k_is)
    (case kk_parted => k_is)
    (case a_bit_rows => k_is)
    (case l_bit_rows => k_is)
    (case k0_bit_rows => k_is)
    (case kk_bit_rows => k_is)
    (case a_H_init => k_is)
    (case i_H_init => k_is)
    (case l_H_init => k_is)
    (case k0_H_init => k_is)
    (case kk_H_init => k_is)
    (case a_H_need_number => k_is)
    (case i_H_need_number => k_is)
    (case l_H_need_number => k_is)
    (case k0_H_need_number => k_is)
    (case kk_H_need_number => k_is)
    (case a_H_need_stretch => k_is)
    (case i_H_need_stretch => k_is)
    (case l_H_need_stretch => k_is)
    (case k0_H_need_stretch => k_is)
    (case kk_H_need_stretch => k_is)
    (case a_H_led => k_is)
    (case i_H_led => k_is)
    (case l_H_led => k_is)
    (case k0_H_led => k_is)
    (case kk_H_led => k_is)
    (case a_H_number_at => k_is)
    (case i_H_number_at => k_is)
    (case l_H_number_at => k_is)
    (case k0_H_number_at => k_is)
    (case kk_H_number_at => k_is)
    (case a_H_numbers => k_is)
    (case i_H_numbers => k_is)
    (case l_H_numbers => k_is)
    (case k0_H_numbers => k_is)
    (case kk_H_numbers => k_is)
    (case a_H_bit_of => k_is)
    (case i_H_bit_of => k_is)
    (case l_H_bit_of => k_is)
    (case k0_H_bit_of => k_is)
    (case kk_H_bit_of => k_is)
    (case a_H_stretch_of => k_is)
    (case i_H_stretch_of => k_is)
    (case l_H_stretch_of => k_is)
    (case k0_H_stretch_of => k_is)
    (case kk_H_stretch_of => k_is)
    (case a_H_count => k_is)
    (case i_H_count => k_is)
    (case l_H_count => k_is)
    (case k0_H_count => k_is)
    (case kk_H_count => k_is)
    (case a_H_below => k_is)
    (case i_H_below => k_is)
    (case l_H_below => k_is)
    (case k0_H_below => k_is)
    (case kk_H_below => k_is)
    (case a_H_least => k_is)
    (case i_H_least => k_is)
    (case l_H_least => k_is)
    (case k0_H_least => k_is)
    (case kk_H_least => k_is)
    (case a_H_often => k_is)
    (case i_H_often => k_is)
    (case l_H_often => k_is)
    (case k0_H_often => k_is)
    (case kk_H_often => k_is)
    (case a_H_place_of => k_is)
    (case i_H_place_of => k_is)
    (case l_H_place_of => k_is)
    (case k0_H_place_of => k_is)
    (case kk_H_place_of => k_is)
    (case a_H_put => k_is)
    (case i_H_put => k_is)
    (case l_H_put => k_is)
    (case k0_H_put => k_is)
    (case kk_H_put => k_is)
    (case a_H_words => k_is)
    (case i_H_words => k_is)
    (case l_H_words => k_is)
    (case k0_H_words => k_is)
    (case kk_H_words => k_is)
    (case a__law_next => k_is)
    (case l__law_next => k_is)
    (case k0__law_next => k_is)
    (case kk__law_next => k_is)
    (case a__law_great => k_is)
    (case l__law_great => k_is)
    (case k0__law_great => k_is)
    (case kk__law_great => k_is)
    (case a__law_row => k_is)
    (case l__law_row => k_is)
    (case k0__law_row => k_is)
    (case kk__law_row => k_is)
    (case a__law_stretch => k_is)
    (case l__law_stretch => k_is)
    (case k0__law_stretch => k_is)
    (case kk__law_stretch => k_is)
    (case a__law_said => k_is)
    (case l__law_said => k_is)
    (case k0__law_said => k_is)
    (case kk__law_said => k_is)
    (case a__law_odd => k_is)
    (case l__law_odd => k_is)
    (case k0__law_odd => k_is)
    (case kk__law_odd => k_is)
    (case a__law_values_refused => k_is)
    (case l__law_values_refused => k_is)
    (case k0__law_values_refused => k_is)
    (case kk__law_values_refused => k_is)
    (case a__law_stretches_refused => k_is)
    (case l__law_stretches_refused => k_is)
    (case k0__law_stretches_refused => k_is)
    (case kk__law_stretches_refused => k_is)
    (case a_law => k_is)
    (case l_law => k_is)
    (case k0_law => k_is)
    (case kk_law => k_is)
    (case pgB => k_is)
    (case hdB => k_is)
    (case poB => k_is)
    (case saB => k_is)
    (case mkB => k_is)
    (case kcB => k_is)
    (case nB_size => k_is)
    (case nB_packs => k_is)
    (case nB_heads => k_is)
    (case pgH => k_is)
    (case hdH => k_is)
    (case poH => k_is)
    (case saH => k_is)
    (case mkH => k_is)
    (case kcH => k_is)
    (case nH_size => k_is)
    (case nH_wide => k_is)
    (case nH_halves => k_is)
    (case aeBadRow => k_is)
    (case xeBadRow => k_exc)
    (case keBadRow => k_is)
    (case beBadRow => k_is)
    (case teBadRow => k_is)
    (case aeNoNumber => k_is)
    (case xeNoNumber => k_exc)
    (case keNoNumber => k_is)
    (case beNoNumber => k_is)
    (case teNoNumber => k_is)
    (case aeNoPlace => k_is)
    (case xeNoPlace => k_exc)
    (case keNoPlace => k_is)
    (case beNoPlace => k_is)
    (case teNoPlace => k_is)
    (case vWORD => k_is)
    (case vMOST_BITS => k_is)
    (case vMOST_NUMBERS => k_is)
    (case vMOST_WIDE => k_is)
    (case aHE => k_is)
    (case qgBadRow => k_is)
    (case qkBadRow => k_is)
    (case qsBadRow => k_is)
    (case qdBadRow => k_is)
    (case qaBadRow => k_is)
    (case qnBadRow => k_is)
    (case qtBadRow => k_is)
    (case qmBadRow => k_is)
    (case kh_BadRow => kernel_rfl)
    (case kv_BadRow => kernel_rfl)
    (case ki0_BadRow => kernel_rfl)
    (case ki1_BadRow => kernel_rfl)
    (case ki2_BadRow => kernel_rfl)
    (case qgNoNumber => k_is)
    (case qkNoNumber => k_is)
    (case qsNoNumber => k_is)
    (case qdNoNumber => k_is)
    (case qaNoNumber => k_is)
    (case qnNoNumber => k_is)
    (case qtNoNumber => k_is)
    (case qmNoNumber => k_is)
    (case kh_NoNumber => kernel_rfl)
    (case kv_NoNumber => kernel_rfl)
    (case ki0_NoNumber => kernel_rfl)
    (case ki1_NoNumber => kernel_rfl)
    (case ki2_NoNumber => kernel_rfl)
    (case qgNoPlace => k_is)
    (case qkNoPlace => k_is)
    (case qsNoPlace => k_is)
    (case qdNoPlace => k_is)
    (case qaNoPlace => k_is)
    (case qnNoPlace => k_is)
    (case qtNoPlace => k_is)
    (case qmNoPlace => k_is)
    (case kh_NoPlace => kernel_rfl)
    (case kv_NoPlace => kernel_rfl)
    (case ki0_NoPlace => kernel_rfl)
    (case ki1_NoPlace => kernel_rfl)
    (case ki2_NoPlace => kernel_rfl)
    (case t__law_values_refused => k_is)
    (case v__law_values_refused => rfl)
    (case h__law_values_refused => kernel_rfl)
    (case p__law_values_refused => k_mem)
    (case e__law_values_refused => kernel_rfl)
    (case t__law_stretches_refused => k_is)
    (case v__law_stretches_refused => rfl)
    (case h__law_stretches_refused => kernel_rfl)
    (case p__law_stretches_refused => k_mem)
    (case e__law_stretches_refused => kernel_rfl)
    (case t_law => k_is)
    (case v_law => rfl)
    (case h_law => kernel_rfl)
    (case p_law => k_mem)
    (case e_law => kernel_rfl)
    (case n_0_1 => decide)
    (case n_0_2 => decide)
    (case n_1_2 => decide)
    (case z_isinstance => k_is)
    (case z_int => k_is)
    (case z_bool => k_is)
    (case z_list => k_is)
    (case z_tuple => k_is)
    (case z_len => k_is)
    (case z_enumerate => k_is)
    (case z_range => k_is)
    (case z_all => k_is)
    (case z_reversed => k_is)
    (case z_min => k_is)
    (case z_max => k_is)
    (case z_ValueError => k_is)
