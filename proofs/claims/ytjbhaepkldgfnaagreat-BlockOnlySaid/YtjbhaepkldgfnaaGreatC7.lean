/- A part of the proof of BlockOnly (the last text says what is proved, and of what): contracts of Go functions, made by a program of this work over the kit's print, the print's words that they use, and plain laws. No condition. -/
import Derived.Test.YtjbhaepkldgfnaaGreatC3
import Derived.Test.YtjbhaepkldgfnaaGreatC4
import Derived.Test.YtjbhaepkldgfnaaGreatC2
import Derived.Lib.ItoaNum
import Derived.Test.YtjbhaepkldgfnaaGreatC5
import Derived.Test.YtjbhaepkldgfnaaGreatC6
namespace Go.Proofs.YtjbhaepkldgfnaaGreat.L
open Go Go.RowKit Go.Proofs.YtjbhaepkldgfnaaGreat.S Go.Proofs.YtjbhaepkldgfnaaGreatW.PrintWords Go.Proofs.YtjbhaepkldgfnaaGreatW.PrintLast Go.Proofs.YtjbhaepkldgfnaaGreatW.PrintMore
set_option linter.unusedVariables false
set_option linter.unusedSimpArgs false
def ints (us : List Nat) : List Int := us.map Int.ofNat
theorem w64n (n : Nat) (h : n < 9223372036854775808) : wrap64 (n : Int) = n := w64 (by omega) (by omega)
theorem w64a (a b : Nat) (h : a + b < 9223372036854775808) : wrap64 ((a : Int) + (b : Int)) = ((a + b : Nat) : Int) := by rw [w64 (by omega) (by omega)]; omega
theorem w64i (a : Nat) (h : a < 9223372036854775807) : wrap64 ((a : Int) + 1) = ((a + 1 : Nat) : Int) := by rw [w64 (by omega) (by omega)]; omega
theorem w64s (a b : Nat) (h : b ≤ a) (ha : a < 9223372036854775808) : wrap64 ((a : Int) - (b : Int)) = ((a - b : Nat) : Int) := by rw [w64 (by omega) (by omega)]; omega
theorem u64n (n : Nat) (h : n < 18446744073709551616) : IntKind.u64.wrap (n : Int) = n := u64 (by omega) (by omega)
theorem ints_len (us : List Nat) : (ints us).length = us.length := by simp [ints]
theorem ints_rd (us : List Nat) (i : Nat) : rd (ints us) (i : Int) = ((us.getD i 0 : Nat) : Int) := by
 simp only [rd, ints, Int.toNat_natCast, List.getD_eq_getElem?_getD, List.getElem?_map]
 cases us[i]? <;> rfl
theorem getD_mem {us : List Nat} {i : Nat} (h : i < us.length) : us.getD i 0 ∈ us := by
 rw [List.getD_eq_getElem?_getD, List.getElem?_eq_getElem h]; exact List.getElem_mem h
theorem take_succ_getD (us : List Nat) (i : Nat) (h : i < us.length) : us.take (i + 1) = us.take i ++ [us.getD i 0] := by
 rw [List.take_add_one, List.getD_eq_getElem?_getD, List.getElem?_eq_getElem h]; rfl
theorem or_add (k : IntKind) (j : Nat) (hj : j ≤ k.bits) (hk : ∀ n : Int, 0 ≤ n → n < 2 ^ j → k.wrap n = n) {a b i : Nat} (ha : a < 2 ^ i) (hb : a + b * 2 ^ i < 2 ^ j) :
 Go.bits .or k (a : Int) ((b * 2 ^ i : Nat) : Int) = ((a + b * 2 ^ i : Nat) : Int) := by
 rw [(bits_nat k j hj hk a (b * 2 ^ i) (by omega) (by omega)).2]
 have h3 := Nat.two_pow_add_eq_or_of_lt ha b
 rw [Nat.or_comm, Nat.mul_comm b, ← h3]
 congr 1
 omega
theorem wraps_i64 (n : Int) (h₀ : 0 ≤ n) (h₁ : n < 2 ^ 63) : IntKind.i64.wrap n = n := by rw [IntKind.wrap_i64]; omega
theorem and7 (a : Nat) (h : a < 2 ^ 63) : Go.bits .and .i64 (a : Int) 7 = ((a % 8 : Nat) : Int) := by
 have := bits_mask .i64 63 (by decide) wraps_i64 3 (by decide) (a : Int) (by omega) (by exact_mod_cast h)
 rw [show ((2 : Int) ^ 3 - 1) = 7 from rfl, show ((2 : Int) ^ 3) = 8 from rfl] at this
 rw [this]
 omega
theorem mask_u64 (t : Nat) (ht : t ≤ 8) : IntKind.u64.wrap ((shl .u64 1 (t : Int)) - 1) = (2 : Int) ^ t - 1 := by
 have : ∀ t : Fin 9, IntKind.u64.wrap ((shl .u64 1 (t.val : Int)) - 1) = (2 : Int) ^ t.val - 1 := by decide
 exact this ⟨t, by omega⟩
theorem and_mask (v t : Nat) (hv : v < 2 ^ 64) (ht : t ≤ 8) : Go.bits .and .u64 (v : Int) (IntKind.u64.wrap ((shl .u64 1 (t : Int)) - 1)) = ((v % 2 ^ t : Nat) : Int) := by
 rw [mask_u64 t ht, bits_mask .u64 64 (by decide) wraps_u64 t (by omega) (v : Int) (by omega) (by exact_mod_cast hv)]
 simp
theorem pow8 {t : Nat} (ht : t ≤ 8) : 2 ^ t ≤ 256 := Nat.pow_le_pow_right (by omega) ht
theorem mn_nat (a b : Nat) : mn (a : Int) (b : Int) = ((min a b : Nat) : Int) := by unfold mn; split <;> omega
theorem shl_nat (k : IntKind) (j : Nat) (hj : j ≤ k.bits) (hk : ∀ n : Int, 0 ≤ n → n < 2 ^ j → k.wrap n = n) (x r : Nat) (hr : r ≤ k.bits) (h : x * 2 ^ r < 2 ^ j) : shl k (x : Int) (r : Int) = ((x * 2 ^ r : Nat) : Int) := by
 unfold shl
 rw [Int.toNat_natCast, Nat.min_eq_left hr]
 rw [show (x : Int) * 2 ^ r = ((x * 2 ^ r : Nat) : Int) from by simp]
 exact hk _ (by omega) (by exact_mod_cast h)
theorem shr_nat (k : IntKind) (x r : Nat) (hr : r ≤ k.bits) : shr k (x : Int) (r : Int) = ((x / 2 ^ r : Nat) : Int) := by
 unfold shr
 rw [Int.toNat_natCast, Nat.min_eq_left hr]
 simp
theorem pow256 (j : Nat) : 256 ^ j = 2 ^ (8 * j) := by rw [show (256 : Nat) = 2 ^ 8 from rfl, ← Nat.pow_mul]
theorem Pack_l1 (x0 : Int) (x29 : List Int) (x30 x31 : Int) (r : List Int × Int) : ∀ (left v at_ N m : Nat), v < 2 ^ left → left ≤ 64 → N < 2 ^ at_ → at_ + left ≤ 8 * m → m ≤ 281474976710656 →
 Ev (fun k => bits_Pack.l0 k x0 (digs m (N + v * 2 ^ at_)) ((at_ + left : Nat) : Int) x29 x30 (wrap64 (x31 + 1))) r → Ev (fun k => bits_Pack.l1 k x0 (digs m N) (at_ : Int) (v : Int) (left : Int) x29 x30 x31) r := by
 intro left
 induction left using Nat.strongRecOn with
 | ind left ih =>
  intro v at_ N m hv hleft hN hm hmm hr
  refine Ev.succ ?_
  by_cases h0 : left = 0
  ·subst h0
   have : v = 0 := by simpa using hv
   subst this
   simp only [bits_Pack.l1, if_neg (show ¬ (((0 : Nat) : Int) > 0) by decide)]
   simpa using hr
  ·have htl : ∃ t, t = min (8 - at_ % 8) left := ⟨_, rfl⟩
   obtain ⟨t, ht⟩ := htl
   have ht1 : 1 ≤ t := by omega
   have ht8 : at_ % 8 + t ≤ 8 := by omega
   have htl : t ≤ left := by omega
   have hv64 : v < 2 ^ 64 := Nat.lt_of_lt_of_le hv (Nat.pow_le_pow_right (by omega) hleft)
   have hm8 : at_ % 8 ≤ 8 := by omega
   have hat63 : at_ + t < 9223372036854775808 := by omega
   have hjm : at_ / 8 < m := by omega
   have hj : (at_ : Int) / 8 = ((at_ / 8 : Nat) : Int) := by omega
   have c1 : (left : Int) > 0 := by omega
   have c2 : (0 : Int) ≤ ((at_ / 8 : Nat) : Int) := by omega
   have c3 : ((at_ / 8 : Nat) : Int) < (m : Int) := by omega
   have c4 : (0 : Int) ≤ (t : Int) := by omega
   have c5 : (0 : Int) ≤ ((at_ % 8 : Nat) : Int) := by omega
   have ht64 : t ≤ IntKind.u64.bits := by simp [IntKind.bits]; omega
   have hr8 : at_ % 8 ≤ IntKind.u8.bits := by simp [IntKind.bits]; omega
   have ht9 : t ≤ 8 := by omega
   have hlt64 : left < 9223372036854775808 := by omega
   have hat2 : at_ < 2 ^ 63 := by omega
   have htu : t < 18446744073709551616 := by omega
   have hru : at_ % 8 < 18446744073709551616 := by omega
   have hsub : left - t ≤ 64 ∧ at_ + t + (left - t) = at_ + left ∧ at_ + t + (left - t) ≤ 8 * m ∧ left - t < left := by omega
   have e1 : Go.bits .and .i64 (at_ : Int) 7 = ((at_ % 8 : Nat) : Int) := and7 _ hat2
   have e2 : mn (wrap64 (8 - ((at_ % 8 : Nat) : Int))) (left : Int) = (t : Int) := by
    rw [show (8 : Int) = ((8 : Nat) : Int) from rfl, w64s 8 (at_ % 8) hm8 (by decide), mn_nat, ht]
   have hmod : v % 2 ^ t < 2 ^ t := Nat.mod_lt _ (Nat.two_pow_pos t)
   have hp := pow8 (t := t) ht9
   have e4 : ((v % 2 ^ t : Nat) : Int) % 256 = ((v % 2 ^ t : Nat) : Int) := by omega
   have hprod : v % 2 ^ t * 2 ^ (at_ % 8) + 2 ^ (at_ % 8) ≤ 256 := by
    have h1 : (v % 2 ^ t + 1) * 2 ^ (at_ % 8) ≤ 2 ^ t * 2 ^ (at_ % 8) := Nat.mul_le_mul_right _ hmod
    rw [← Nat.pow_add] at h1
    have h2 := pow8 (t := t + at_ % 8) (by omega)
    rw [Nat.add_mul, Nat.one_mul] at h1
    omega
   have hpos : 0 < 2 ^ (at_ % 8) := Nat.two_pow_pos _
   have hprod2 : v % 2 ^ t * 2 ^ (at_ % 8) < 2 ^ 8 := by omega
   have hat : 256 ^ (at_ / 8) * 2 ^ (at_ % 8) = 2 ^ at_ := by
    rw [pow256, ← Nat.pow_add]
    congr 1
    omega
   obtain ⟨hset, hlow⟩ := digs_set (v % 2 ^ t) (at_ % 8) t hmod ht8 (at_ / 8) m N hjm (by rw [hat]; exact hN)
   have hlow256 : N / 256 ^ (at_ / 8) % 256 = N / 256 ^ (at_ / 8) := Nat.mod_eq_of_lt (Nat.lt_of_lt_of_le hlow (pow8 (by omega)))
   have hsum8 : N / 256 ^ (at_ / 8) + v % 2 ^ t * 2 ^ (at_ % 8) < 2 ^ 8 := by omega
   have hN2 : N + v % 2 ^ t * 2 ^ at_ < 2 ^ (at_ + t) := by
    have h1 : (v % 2 ^ t + 1) * 2 ^ at_ ≤ 2 ^ t * 2 ^ at_ := Nat.mul_le_mul_right _ hmod
    rw [← Nat.pow_add, Nat.add_mul, Nat.one_mul, Nat.add_comm t] at h1
    omega
   have hv2 : v / 2 ^ t < 2 ^ (left - t) := by
    rw [Nat.div_lt_iff_lt_mul (Nat.two_pow_pos t), ← Nat.pow_add, show left - t + t = left by omega]
    exact hv
   have e3 := and_mask v t hv64 ht9
   have e5 : shl .u8 ((v % 2 ^ t : Nat) : Int) ((at_ % 8 : Nat) : Int) = ((v % 2 ^ t * 2 ^ (at_ % 8) : Nat) : Int) := shl_nat .u8 8 (by decide) wraps_u8 _ _ hr8 hprod2
   have e6 : Go.bits .or .u8 (rd (digs m N) ((at_ / 8 : Nat) : Int)) ((v % 2 ^ t * 2 ^ (at_ % 8) : Nat) : Int) = ((N / 256 ^ (at_ / 8) % 256 + v % 2 ^ t * 2 ^ (at_ % 8) : Nat) : Int) := by
    rw [digs_rd m N _ hjm, hlow256]
    exact or_add .u8 8 (by decide) wraps_u8 hlow hsum8
   have e7 : IntKind.u64.wrap (t : Int) = (t : Int) := u64n t htu
   have e8 : shr .u64 (v : Int) (t : Int) = ((v / 2 ^ t : Nat) : Int) := shr_nat _ _ _ ht64
   have e9 : IntKind.u64.wrap ((at_ % 8 : Nat) : Int) = ((at_ % 8 : Nat) : Int) := u64n _ hru
   have e10 : wrap64 ((at_ : Int) + (t : Int)) = ((at_ + t : Nat) : Int) := w64a _ _ hat63
   have e11 : wrap64 ((left : Int) - (t : Int)) = ((left - t : Nat) : Int) := w64s _ _ htl hlt64
   have hfin : N + v % 2 ^ t * 2 ^ at_ + v / 2 ^ t * 2 ^ (at_ + t) = N + v * 2 ^ at_ := by
    have h1 := Nat.mod_add_div v (2 ^ t)
    have h2 : v * 2 ^ at_ = (v % 2 ^ t + 2 ^ t * (v / 2 ^ t)) * 2 ^ at_ := by rw [h1]
    rw [h2, Nat.add_mul, Nat.add_assoc, Nat.pow_add, Nat.mul_comm (2 ^ t) (v / 2 ^ t), Nat.mul_assoc (v / 2 ^ t), Nat.mul_comm (2 ^ t) (2 ^ at_)]
   have := ih (left - t) hsub.2.2.2 (v / 2 ^ t) (at_ + t) (N + v % 2 ^ t * 2 ^ at_) m hv2 hsub.1 hN2 hsub.2.2.1 hmm (by
    rw [hfin, hsub.2.1]
    exact hr)
   simp only [bits_Pack.l1, if_pos c1, e1, e2, e3, e4, e7, e9, e5, hj, e6, e8, e10, e11, digs_len]
   rw [Int.toNat_natCast, hset, hat]
   simp only [if_pos c2, if_pos c3, if_pos c4, if_pos c5]
   exact this
theorem Pack_l0 (w : Nat) (hw : w ≤ 64) (us : List Nat) (hu : ∀ u ∈ us, u < 2 ^ w) (hn : us.length ≤ 4096) (m : Nat) (hm : w * us.length ≤ 8 * m) (hmm : m ≤ 281474976710656) : ∀ (d i : Nat), d + i = us.length →
 Ev (fun k => bits_Pack.l0 k (w : Int) (digs m (cat w (us.take i))) ((w * i : Nat) : Int) (ints us) (us.length : Int) (i : Int)) (digs m (cat w us), 0) := by
 intro d
 induction d with
 | zero =>
  intro i hi
  refine Ev.succ ?_
  simp only [bits_Pack.l0, if_neg (show ¬ ((i : Int) < (us.length : Int)) by omega)]
  rw [show us.take i = us from List.take_of_length_le (by omega)]
  exact Ev.some_ _
 | succ d ih =>
  intro i hi
  have hlt : i < us.length := by omega
  refine Ev.succ ?_
  simp only [bits_Pack.l0, if_pos (show ((i : Int) < (us.length : Int)) by omega), if_pos (show (0 : Int) ≤ (i : Int) by omega), ints_len, ints_rd]
  have hmem := hu _ (getD_mem hlt)
  have hle : w * (i + 1) ≤ w * us.length := Nat.mul_le_mul_left _ hlt
  have hlen : (us.take i).length = i := by rw [List.length_take]; omega
  have hpre : cat w (us.take i) < 2 ^ (w * i) := by
   have := cat_lt w (us := us.take i) (fun u hx => hu u (List.mem_of_mem_take hx))
   rwa [hlen] at this
  refine Pack_l1 _ _ _ _ _ w (us.getD i 0) (w * i) _ m hmem hw hpre (by rw [Nat.mul_add, Nat.mul_one] at hle; omega) hmm ?_
  have e1 : wrap64 ((i : Int) + 1) = ((i + 1 : Nat) : Int) := by rw [w64 (by omega) (by omega)]; omega
  have := ih (i + 1) (by omega)
  rw [take_succ_getD us i hlt, cat_snoc, hlen] at this
  rw [e1, show w * i + w = w * (i + 1) by rw [Nat.mul_add, Nat.mul_one]]
  exact this
def orAll (us : List Nat) : Nat := us.foldl (fun a u => a ||| u) 0
def widthS (us : List Nat) : Nat := Lib.bitLen (orAll us)
theorem orAll_lt_go {w : Nat} : ∀ (us : List Nat) (a : Nat), a < 2 ^ w → (∀ u ∈ us, u < 2 ^ w) → us.foldl (fun a u => a ||| u) a < 2 ^ w := by
 intro us
 induction us with
 | nil => intro a ha _; exact ha
 | cons u us ih => intro a ha h; exact ih _ (Nat.or_lt_two_pow ha (h u (by simp))) (fun x hx => h x (by simp [hx]))
theorem orAll_lt {w : Nat} {us : List Nat} (h : ∀ u ∈ us, u < 2 ^ w) : orAll us < 2 ^ w := orAll_lt_go us 0 (Nat.two_pow_pos w) h
theorem orAll_le_go : ∀ (us : List Nat) (a : Nat), a ≤ us.foldl (fun a u => a ||| u) a ∧ ∀ u ∈ us, u ≤ us.foldl (fun a u => a ||| u) a := by
 intro us
 induction us with
 | nil => intro a; exact ⟨Nat.le_refl _, fun u hu => by simp at hu⟩
 | cons v us ih =>
  intro a
  obtain ⟨h1, h2⟩ := ih (a ||| v)
  refine ⟨Nat.le_trans Nat.left_le_or h1, fun u hu => ?_⟩
  rcases List.mem_cons.1 hu with rfl | hu
  ·exact Nat.le_trans Nat.right_le_or h1
  ·exact h2 u hu
theorem orAll_le {us : List Nat} {u : Nat} (h : u ∈ us) : u ≤ orAll us := (orAll_le_go us 0).2 u h
theorem widthS_le {us : List Nat} {w : Nat} (hw : w ≤ 64) (h : ∀ u ∈ us, u < 2 ^ w) : widthS us ≤ w := Lib.bitLen_le _ w hw (orAll_lt h)
theorem widthS_lt {us : List Nat} (h : ∀ u ∈ us, u < 2 ^ 64) : ∀ u ∈ us, u < 2 ^ widthS us := by
 intro u hu
 have h1 := orAll_le hu
 have h2 : orAll us < 2 ^ 64 := orAll_lt h
 by_cases h0 : orAll us = 0
 ·have : 0 < 2 ^ widthS us := Nat.two_pow_pos _
  omega
 ·have := (Lib.bitLenAux_bounds 64 (orAll us) h2 h0).2.2
  exact Nat.lt_of_le_of_lt h1 this
theorem Width_l0 (us : List Nat) (hu : ∀ u ∈ us, u < 2 ^ 64) (hn : us.length ≤ 140737488355328) : ∀ (d i a : Nat), d + i = us.length → a < 2 ^ 64 → (us.drop i).foldl (fun a u => a ||| u) a = orAll us →
 Ev (fun k => bits_Width.l0 k (a : Int) (ints us) (us.length : Int) (i : Int)) (widthS us : Int) := by
 intro d
 induction d with
 | zero =>
  intro i a hi ha h
  refine Ev.succ ?_
  simp only [bits_Width.l0, if_neg (show ¬ ((i : Int) < (us.length : Int)) by omega)]
  rw [List.drop_of_length_le (by omega)] at h
  simp only [List.foldl_nil] at h
  unfold bits_Len64.f
  rw [if_pos ⟨by omega, by omega⟩, Int.toNat_natCast, h]
  exact Ev.some_ _
 | succ d ih =>
  intro i a hi ha h
  have hlt : i < us.length := by omega
  refine Ev.succ ?_
  simp only [bits_Width.l0, if_pos (show ((i : Int) < (us.length : Int)) by omega), if_pos (show (0 : Int) ≤ (i : Int) by omega), ints_len, ints_rd]
  have hm := hu _ (getD_mem hlt)
  have e1 : wrap64 ((i : Int) + 1) = ((i + 1 : Nat) : Int) := by rw [w64 (by omega) (by omega)]; omega
  rw [e1, (bits_nat .u64 64 (by decide) wraps_u64 a _ ha hm).2]
  refine ih (i + 1) _ (by omega) (Nat.or_lt_two_pow ha hm) ?_
  rw [← h, List.drop_eq_getElem_cons hlt, List.foldl_cons]
  rw [List.getD_eq_getElem?_getD, List.getElem?_eq_getElem hlt]
  rfl
theorem Width (us : List Nat) (hu : ∀ u ∈ us, u < 2 ^ 64) (hn : us.length ≤ 140737488355328) : Ev (fun k => bits_Width.f k (ints us)) (widthS us : Int) := by
 have := Width_l0 us hu hn us.length 0 0 rfl (by decide) rfl
 simpa [bits_Width.f, ints_len] using this
theorem need (w n : Nat) (hw : w ≤ 64) (hn : n ≤ 4096) : bits_need.f (w : Int) (n : Int) = some (((w * n + 7) / 8 : Nat) : Int) := by
 have hle : w * n ≤ 64 * 4096 := Nat.mul_le_mul hw hn
 have e : (w : Int) * (n : Int) = ((w * n : Nat) : Int) := by simp
 unfold bits_need.f
 rw [e, w64n _ (by omega), show (7 : Int) = ((7 : Nat) : Int) from rfl, w64a (w * n) 7 (by omega)]
 rw [Int.tdiv_eq_ediv_of_nonneg (by omega), show ((w * n + 7 : Nat) : Int) / 8 = (((w * n + 7) / 8 : Nat) : Int) by omega, w64n _ (by omega)]
theorem Pack (w : Nat) (hw : w ≤ 64) (us : List Nat) (hu : ∀ u ∈ us, u < 2 ^ w) (hn : us.length ≤ 4096) :
 Ev (fun k => bits_Pack.f k (w : Int) (ints us)) (digs ((w * us.length + 7) / 8) (cat w us), 0) := by
 have h64 : ∀ u ∈ us, u < 2 ^ 64 := fun u h => Nat.lt_of_lt_of_le (hu u h) (Nat.pow_le_pow_right (by omega) hw)
 have hle : w * us.length ≤ 64 * 4096 := Nat.mul_le_mul hw hn
 unfold bits_Pack.f bits_badWidth.f
 simp only [if_neg (show ¬ ((w : Int) < 0) by omega), decide_eq_false (show ¬ ((w : Int) > 64) by omega), Option.bind_some, ints_len, if_neg (show ¬ ((us.length : Int) > 4096) by omega)]
 refine Ev.bind (Width us h64 (by omega)) ?_
 have hwl := widthS_le hw hu
 simp only [if_neg (show ¬ ((widthS us : Int) > (w : Int)) by omega), need w us.length hw hn, Option.bind_some]
 simp only [if_pos (show (0 : Int) ≤ (((w * us.length + 7) / 8 : Nat) : Int) by omega), Int.toNat_natCast, if_pos (show ((w * us.length + 7) / 8) ≤ 281474976710656 by omega)]
 have := Pack_l0 w hw us hu hn ((w * us.length + 7) / 8) (by omega) (by omega) us.length 0 rfl
 simpa [cat, digs_zero] using this
theorem read_l0 (b : List Int) (hb : Bytes b) (w at0 : Nat) (hw : w ≤ 64) (hlen : at0 + w ≤ 8 * b.length) (hbl : b.length ≤ 140737488355328) : ∀ (d got : Nat), d + got = w →
 Ev (fun k => bits_read.l0 k b ((at0 + got : Nat) : Int) (w : Int) ((num b / 2 ^ at0 % 2 ^ got : Nat) : Int) (got : Int)) ((num b / 2 ^ at0 % 2 ^ w : Nat) : Int) := by
 intro d
 induction d using Nat.strongRecOn with
 | ind d ih =>
  intro got hg
  refine Ev.succ ?_
  by_cases h0 : d = 0
  ·subst h0
   have : got = w := by omega
   subst this
   simp only [bits_read.l0, if_neg (show ¬ ((got : Int) < (got : Int)) by omega)]
   exact Ev.some_ _
  ·obtain ⟨t, ht⟩ : ∃ t, t = min (8 - (at0 + got) % 8) (w - got) := ⟨_, rfl⟩
   have ht1 : 1 ≤ t := by omega
   have ht8 : (at0 + got) % 8 + t ≤ 8 := by omega
   have hm8 : (at0 + got) % 8 ≤ 8 := by omega
   have hat2 : at0 + got < 2 ^ 63 := by omega
   have hgw : got ≤ w := by omega
   have hw63 : w < 9223372036854775808 := by omega
   have hj : ((at0 + got : Nat) : Int) / 8 = (((at0 + got) / 8 : Nat) : Int) := by omega
   have hjm : (at0 + got) / 8 < b.length := by omega
   have c1 : (got : Int) < (w : Int) := by omega
   have c2 : (0 : Int) ≤ (((at0 + got) / 8 : Nat) : Int) := by omega
   have c3 : (((at0 + got) / 8 : Nat) : Int) < (b.length : Int) := by omega
   have c4 : (0 : Int) ≤ (t : Int) := by omega
   have c5 : (0 : Int) ≤ (((at0 + got) % 8 : Nat) : Int) := by omega
   have c6 : (0 : Int) ≤ (got : Int) := by omega
   have ht9 : t ≤ 8 := by omega
   have hru : (at0 + got) % 8 < 18446744073709551616 := by omega
   have hgu : got < 18446744073709551616 := by omega
   have htu : t < 18446744073709551616 := by omega
   have hr8 : (at0 + got) % 8 ≤ IntKind.u8.bits := by simp [IntKind.bits]; omega
   have hg64 : got ≤ IntKind.u64.bits := by simp [IntKind.bits]; omega
   have hgt : got + t ≤ 64 := by omega
   have hat3 : at0 + got + t < 9223372036854775808 := by omega
   have hgt63 : got + t < 9223372036854775808 := by omega
   have hih : d - t < d ∧ d - t + (got + t) = w := by omega
   have hx : num b / 256 ^ ((at0 + got) / 8) % 256 / 2 ^ ((at0 + got) % 8) < 256 := Nat.lt_of_le_of_lt (Nat.div_le_self _ _) (Nat.mod_lt _ (by decide))
   have hxu : num b / 256 ^ ((at0 + got) / 8) % 256 / 2 ^ ((at0 + got) % 8) < 18446744073709551616 := Nat.lt_trans hx (by decide)
   have hbits : num b / 256 ^ ((at0 + got) / 8) % 256 / 2 ^ ((at0 + got) % 8) % 2 ^ t = num b / 2 ^ (at0 + got) % 2 ^ t := by
    obtain ⟨q, hq⟩ : ∃ q, q = num b / 256 ^ ((at0 + got) / 8) := ⟨_, rfl⟩
    have h1 : num b / 2 ^ (at0 + got) = q / 2 ^ ((at0 + got) % 8) := by
     rw [hq, Nat.div_div_eq_div_mul, pow256, ← Nat.pow_add]
     congr 2
     omega
    rw [h1, ← hq]
    have h2 : (2 : Nat) ^ 8 = 2 ^ ((at0 + got) % 8) * 2 ^ (8 - (at0 + got) % 8) := by rw [← Nat.pow_add]; congr 1; omega
    rw [show (256 : Nat) = 2 ^ 8 from rfl, h2, Nat.mod_mul_right_div_self]
    rw [Nat.mod_mod_of_dvd]
    exact Nat.pow_dvd_pow 2 (by omega)
   have hsum : num b / 2 ^ at0 % 2 ^ (got + t) = num b / 2 ^ at0 % 2 ^ got + (num b / 2 ^ (at0 + got) % 2 ^ t) * 2 ^ got := by
    rw [Nat.pow_add, Nat.mod_mul, Nat.div_div_eq_div_mul, ← Nat.pow_add, Nat.mul_comm (2 ^ got)]
   have hlt : num b / 2 ^ at0 % 2 ^ (got + t) < 2 ^ 64 := Nat.lt_of_lt_of_le (Nat.mod_lt _ (Nat.two_pow_pos _)) (Nat.pow_le_pow_right (by decide) hgt)
   have hlt2 : num b / 2 ^ (at0 + got) % 2 ^ t * 2 ^ got < 2 ^ 64 := by rw [hsum] at hlt; exact Nat.lt_of_le_of_lt (Nat.le_add_left _ _) hlt
   have e1 : Go.bits .and .i64 ((at0 + got : Nat) : Int) 7 = (((at0 + got) % 8 : Nat) : Int) := and7 _ hat2
   have e2 : mn (wrap64 (8 - (((at0 + got) % 8 : Nat) : Int))) (wrap64 ((w : Int) - (got : Int))) = (t : Int) := by
    rw [show (8 : Int) = ((8 : Nat) : Int) from rfl, w64s 8 _ hm8 (by decide), w64s _ _ hgw hw63, mn_nat, ht]
   have e3 : rd b (((at0 + got) / 8 : Nat) : Int) = ((num b / 256 ^ ((at0 + got) / 8) % 256 : Nat) : Int) := by
    have := digs_rd b.length (num b) ((at0 + got) / 8) hjm
    rwa [digs_num hb] at this
   have e4 : IntKind.u64.wrap (((at0 + got) % 8 : Nat) : Int) = (((at0 + got) % 8 : Nat) : Int) := u64n _ hru
   have e5 := shr_nat .u8 (num b / 256 ^ ((at0 + got) / 8) % 256) ((at0 + got) % 8) hr8
   have e6 := u64n _ hxu
   have e7 := and_mask (num b / 256 ^ ((at0 + got) / 8) % 256 / 2 ^ ((at0 + got) % 8)) t (Nat.lt_trans hx (by decide)) ht9
   have e8 : IntKind.u64.wrap (got : Int) = (got : Int) := u64n _ hgu
   have e9 : IntKind.u64.wrap (t : Int) = (t : Int) := u64n _ htu
   have e10 : shl .u64 ((num b / 2 ^ (at0 + got) % 2 ^ t : Nat) : Int) (got : Int) = (((num b / 2 ^ (at0 + got) % 2 ^ t) * 2 ^ got : Nat) : Int) := shl_nat .u64 64 (by decide) wraps_u64 _ _ hg64 hlt2
   have e11 : Go.bits .or .u64 ((num b / 2 ^ at0 % 2 ^ got : Nat) : Int) (((num b / 2 ^ (at0 + got) % 2 ^ t) * 2 ^ got : Nat) : Int) = ((num b / 2 ^ at0 % 2 ^ (got + t) : Nat) : Int) := by
    rw [hsum] at hlt ⊢
    exact or_add .u64 64 (by decide) wraps_u64 (Nat.mod_lt _ (Nat.two_pow_pos _)) hlt
   have e12 : wrap64 (((at0 + got : Nat) : Int) + (t : Int)) = ((at0 + (got + t) : Nat) : Int) := by rw [w64a _ _ hat3, Nat.add_assoc]
   have e13 : wrap64 ((got : Int) + (t : Int)) = ((got + t : Nat) : Int) := w64a _ _ hgt63
   have := ih (d - t) hih.1 (got + t) hih.2
   simp only [bits_read.l0, if_pos c1, e1, e2, hj, e3, e4, e5, e6, e7, hbits, e8, e9, e10, e11, e12, e13]
   simp only [if_pos c2, if_pos c3, if_pos c4, if_pos c5, if_pos c6]
   exact this
theorem read (b : List Int) (hb : Bytes b) (w at0 : Nat) (hw : w ≤ 64) (hlen : at0 + w ≤ 8 * b.length) (hbl : b.length ≤ 140737488355328) :
 Ev (fun k => bits_read.f k b (at0 : Int) (w : Int)) ((num b / 2 ^ at0 % 2 ^ w : Nat) : Int) := by
 have := read_l0 b hb w at0 hw hlen hbl w 0 rfl
 simpa [bits_read.f, Nat.mod_one] using this
theorem set_ints (us : List Nat) (d : Nat) (u : Nat) : (ints us ++ List.replicate (d + 1) 0).set us.length (u : Int) = ints (us ++ [u]) ++ List.replicate d 0 := by
 have : us.length = (ints us).length := (ints_len us).symm
 rw [this, List.set_append_right _ _ (Nat.le_refl _)]
 simp [ints, List.replicate_succ, List.map_append]
theorem Unpack_l0 (b : List Int) (hb : Bytes b) (w n : Nat) (hw : w ≤ 64) (hn : n ≤ 4096) (hlen : w * n ≤ 8 * b.length) (hbl : b.length ≤ 140737488355328) : ∀ (d i : Nat), d + i = n →
 Ev (fun k => bits_Unpack.l0 k b (w : Int) (ints (cuts w i (num b)) ++ List.replicate d 0) (n : Int) (i : Int)) (ints (cuts w n (num b)), 0) := by
 intro d
 induction d with
 | zero =>
  intro i hi
  refine Ev.succ ?_
  have : i = n := by omega
  subst this
  simp only [bits_Unpack.l0, if_neg (show ¬ ((i : Int) < (i : Int)) by omega), List.replicate_zero, List.append_nil]
  exact Ev.some_ _
 | succ d ih =>
  intro i hi
  have hle : w * (i + 1) ≤ w * n := Nat.mul_le_mul_left _ (by omega)
  rw [Nat.mul_add, Nat.mul_one] at hle
  have hle2 : w * n ≤ 64 * 4096 := Nat.mul_le_mul hw hn
  have e1 : wrap64 ((i : Int) * (w : Int)) = ((i * w : Nat) : Int) := by
   rw [show (i : Int) * (w : Int) = ((i * w : Nat) : Int) by simp, w64 (by omega) (by rw [Nat.mul_comm] at hle; omega)]
  have e2 : wrap64 ((i : Int) + 1) = ((i + 1 : Nat) : Int) := by rw [w64 (by omega) (by omega)]; omega
  refine Ev.succ ?_
  simp only [bits_Unpack.l0, if_pos (show (i : Int) < (n : Int) by omega), e1]
  refine Ev.bind (read b hb w (i * w) hw (by rw [Nat.mul_comm] at hle; omega) hbl) ?_
  have hl : (ints (cuts w i (num b))).length = i := by rw [ints_len, cuts_len]
  simp only [if_pos (show (0 : Int) ≤ (i : Int) by omega), List.length_append, hl, List.length_replicate, if_pos (show (i : Int) < ((i + (d + 1) : Nat) : Int) by omega), e2, Int.toNat_natCast]
  have := set_ints (cuts w i (num b)) d (num b / 2 ^ (i * w) % 2 ^ w)
  rw [cuts_len, ← cuts_snoc] at this
  rw [this]
  exact ih (i + 1) (by omega)
theorem Unpack (b : List Int) (hb : Bytes b) (hbl : b.length ≤ 140737488355328) (w n : Nat) (hw : w ≤ 64) (hn : n ≤ 4096) :
 Ev (fun k => bits_Unpack.f k b (w : Int) (n : Int)) (if b.length < (w * n + 7) / 8 then ([], 2) else if b.length > (w * n + 7) / 8 then ([], 3) else if num b < 2 ^ (w * n) then (ints (cuts w n (num b)), 0) else ([], 5)) := by
 have hle2 : w * n ≤ 64 * 4096 := Nat.mul_le_mul hw hn
 unfold bits_Unpack.f bits_badWidth.f
 simp only [if_neg (show ¬ ((w : Int) < 0) by omega), decide_eq_false (show ¬ ((w : Int) > 64) by omega), Option.bind_some, if_neg (show ¬ ((n : Int) < 0) by omega), decide_eq_false (show ¬ ((n : Int) > 4096) by omega), if_neg (show ¬ (false = true) by decide)]
 refine Ev.succ ?_
 simp only [bits_Unpack.j0, if_neg (show ¬ (false = true) by decide), need w n hw hn, Option.bind_some]
 by_cases h1 : b.length < (w * n + 7) / 8
 ·simp only [if_pos h1, if_pos (show (b.length : Int) < (((w * n + 7) / 8 : Nat) : Int) by omega)]
  exact Ev.some_ _
 simp only [if_neg h1, if_neg (show ¬ (b.length : Int) < (((w * n + 7) / 8 : Nat) : Int) by omega)]
 by_cases h2 : b.length > (w * n + 7) / 8
 ·simp only [if_pos h2, if_pos (show (b.length : Int) > (((w * n + 7) / 8 : Nat) : Int) by omega)]
  exact Ev.some_ _
 simp only [if_neg h2, if_neg (show ¬ (b.length : Int) > (((w * n + 7) / 8 : Nat) : Int) by omega)]
 have hlen : b.length = (w * n + 7) / 8 := by omega
 have e1 : wrap64 ((b.length : Int) * 8) = ((b.length * 8 : Nat) : Int) := by rw [w64 (by omega) (by omega)]; omega
 have e2 : wrap64 ((w : Int) * (n : Int)) = ((w * n : Nat) : Int) := by rw [show (w : Int) * (n : Int) = ((w * n : Nat) : Int) by simp, w64 (by omega) (by omega)]
 have e3 : wrap64 (((b.length * 8 : Nat) : Int) - ((w * n : Nat) : Int)) = ((b.length * 8 - w * n : Nat) : Int) := by rw [w64 (by omega) (by omega)]; omega
 have e4 : wrap64 ((b.length : Int) - 1) = (b.length : Int) - 1 := by rw [w64 (by omega) (by omega)]
 simp only [e1, e2, e3, e4]
 have hmain : ∀ bad : Bool, bad = !decide (num b < 2 ^ (w * n)) → Ev (fun k => bits_Unpack.j1 k b (w : Int) (n : Int) bad) (if num b < 2 ^ (w * n) then (ints (cuts w n (num b)), 0) else ([], 5)) := by
  intro bad hbad
  refine Ev.succ ?_
  by_cases hN : num b < 2 ^ (w * n)
  ·simp only [hN, decide_true, Bool.not_true] at hbad
   subst hbad
   simp only [bits_Unpack.j1, if_neg (show ¬ (false = true) by decide), if_pos (show (0 : Int) ≤ (n : Int) by omega), Int.toNat_natCast, if_pos (show n ≤ 35184372088832 by omega), if_pos hN]
   have := Unpack_l0 b hb w n hw hn (by omega) hbl n 0 rfl
   simpa [cuts, ints] using this
  ·simp only [hN, decide_false, Bool.not_false] at hbad
   subst hbad
   simp only [bits_Unpack.j1, if_pos, if_neg hN]
   exact Ev.some_ _
 by_cases h3 : b.length * 8 - w * n > 0
 ·have hpos : 0 < b.length := by omega
  have hlast : (b.length : Int) - 1 = ((b.length - 1 : Nat) : Int) := by omega
  have e5 : rd b ((b.length : Int) - 1) = ((num b / 256 ^ (b.length - 1) % 256 : Nat) : Int) := by
   have := digs_rd b.length (num b) (b.length - 1) (by omega)
   rw [digs_num hb] at this
   rw [hlast, this]
  have e6 : wrap64 (8 - ((b.length * 8 - w * n : Nat) : Int)) = ((8 - (b.length * 8 - w * n) : Nat) : Int) := by rw [w64 (by omega) (by omega)]; omega
  have e7 : IntKind.u64.wrap ((8 - (b.length * 8 - w * n) : Nat) : Int) = ((8 - (b.length * 8 - w * n) : Nat) : Int) := u64 (by omega) (by omega)
  have e8 := shr_nat .u8 (num b / 256 ^ (b.length - 1) % 256) (8 - (b.length * 8 - w * n)) (by simp [IntKind.bits])
  simp only [if_pos (show ((b.length * 8 - w * n : Nat) : Int) > 0 by omega), e5, e6, e7, e8, if_pos (show (0 : Int) ≤ (b.length : Int) - 1 by omega), if_pos (show (b.length : Int) - 1 < (b.length : Int) by omega), if_pos (show (0 : Int) ≤ ((8 - (b.length * 8 - w * n) : Nat) : Int) by omega)]
  refine hmain _ ?_
  have hnl := num_lt hb
  have h4 : num b / 256 ^ (b.length - 1) < 256 := by
   rw [Nat.div_lt_iff_lt_mul (Nat.pow_pos (by omega)), Nat.mul_comm, ← Nat.pow_succ, show (b.length - 1).succ = b.length by omega]
   exact hnl
  rw [Nat.mod_eq_of_lt h4, Nat.div_div_eq_div_mul, pow256, ← Nat.pow_add, show 8 * (b.length - 1) + (8 - (b.length * 8 - w * n)) = w * n by omega]
  by_cases hN : num b < 2 ^ (w * n)
  ·rw [Nat.div_eq_of_lt hN]
   simp [hN]
  ·have : num b / 2 ^ (w * n) ≠ 0 := by
    intro h
    rcases Nat.div_eq_zero_iff.1 h with h | h
    ·have := Nat.two_pow_pos (w * n); omega
    ·exact hN h
   simp only [hN, decide_false, Bool.not_false, bne_iff_ne, ne_eq]
   exact_mod_cast this
 ·simp only [if_neg (show ¬ ((b.length * 8 - w * n : Nat) : Int) > 0 by omega)]
  refine hmain _ ?_
  have hnl := num_lt hb
  have : 256 ^ b.length = 2 ^ (w * n) := by
   rw [pow256]
   congr 1
   omega
  rw [this] at hnl
  simp [hnl]
theorem Unpack_got (b : List Int) (hb : Bytes b) (hbl : b.length ≤ 140737488355328) (w n : Nat) (hw : w ≤ 64) (hn : n ≤ 4096) :
 ∃ r, Ev (fun k => bits_Unpack.f k b (w : Int) (n : Int)) r ∧ ((∃ e, e ≠ 0 ∧ r = ([], e)) ∨ ∃ us : List Nat, us.length = n ∧ (∀ u ∈ us, u < 2 ^ w) ∧ b = digs ((w * n + 7) / 8) (cat w us) ∧ r = (ints us, 0)) := by
 refine ⟨_, Unpack b hb hbl w n hw hn, ?_⟩
 split
 ·exact .inl ⟨2, by decide, rfl⟩
 split
 ·exact .inl ⟨3, by decide, rfl⟩
 split
 ·rename_i h1 h2 h3
  refine .inr ⟨cuts w n (num b), cuts_len _ _ _, cuts_lt _ _ _, ?_, rfl⟩
  rw [cat_cuts w n _ h3, ← show b.length = (w * n + 7) / 8 by omega, digs_num hb]
 ·exact .inl ⟨5, by decide, rfl⟩
def I64 (v : Int) : Prop := -9223372036854775808 ≤ v ∧ v < 9223372036854775808
def foldS (v : Int) : Nat := if 0 ≤ v then (2 * v).toNat else (-2 * v - 1).toNat
def unfoldS (u : Nat) : Int := if u % 2 = 0 then ((u / 2 : Nat) : Int) else -((u / 2 : Nat) : Int) - 1
theorem fold_unfold (u : Nat) : foldS (unfoldS u) = u := by unfold foldS unfoldS; split <;> split <;> omega
theorem foldS_lt {v : Int} (h : I64 v) : foldS v < 18446744073709551616 := by unfold I64 at h; unfold foldS; split <;> omega
theorem unfoldS_in {u : Nat} (h : u < 18446744073709551616) : I64 (unfoldS u) := by unfold I64 unfoldS; split <;> omega
theorem u64_wrap (x : Int) : IntKind.u64.wrap x = x % 18446744073709551616 := by simp [IntKind.wrap, IntKind.bits, IntKind.signed]
theorem xor_zero (x : Nat) (h : x < 18446744073709551616) : Go.bits .xor .u64 (x : Int) 0 = (x : Int) := by
 unfold Go.bits
 simp only [show (0 : Int) = ((0 : Nat) : Int) from rfl, BitVec.ofInt_natCast, BitVec.toNat_xor, BitVec.toNat_ofNat]
 rw [show IntKind.u64.bits = 64 from rfl, Nat.zero_mod, Nat.xor_zero, Nat.mod_eq_of_lt (by omega)]
 exact u64n x h
theorem xor_ones (x : Nat) (h : x < 18446744073709551616) : Go.bits .xor .u64 (x : Int) 18446744073709551615 = ((18446744073709551615 - x : Nat) : Int) := by
 show IntKind.u64.wrap ((BitVec.ofInt 64 (x : Int) ^^^ BitVec.ofInt 64 18446744073709551615).toNat : Int) = _
 have e : BitVec.ofInt 64 18446744073709551615 = BitVec.allOnes 64 := by decide
 rw [e, BitVec.ofInt_natCast, BitVec.xor_allOnes, BitVec.toNat_not, BitVec.toNat_ofNat, Nat.mod_eq_of_lt (show x < 2 ^ 64 by omega)]
 exact u64n _ (by omega)
theorem xor_zero_i (x : Nat) (h : x < 9223372036854775808) : Go.bits .xor .i64 (x : Int) 0 = (x : Int) := by
 unfold Go.bits
 simp only [show (0 : Int) = ((0 : Nat) : Int) from rfl, BitVec.ofInt_natCast, BitVec.toNat_xor, BitVec.toNat_ofNat]
 rw [show IntKind.i64.bits = 64 from rfl, Nat.zero_mod, Nat.xor_zero, Nat.mod_eq_of_lt (by omega)]
 rw [IntKind.wrap_i64]
 omega
theorem xor_ones_i (x : Nat) (h : x < 9223372036854775808) : Go.bits .xor .i64 (x : Int) (-1) = -(x : Int) - 1 := by
 show IntKind.i64.wrap ((BitVec.ofInt 64 (x : Int) ^^^ BitVec.ofInt 64 (-1)).toNat : Int) = _
 have e : BitVec.ofInt 64 (-1) = BitVec.allOnes 64 := by decide
 rw [e, BitVec.ofInt_natCast, BitVec.xor_allOnes, BitVec.toNat_not, BitVec.toNat_ofNat, Nat.mod_eq_of_lt (show x < 2 ^ 64 by omega)]
 rw [IntKind.wrap_i64]
 omega
theorem Fold {v : Int} (h : I64 v) : bits_Fold.f v = some (foldS v : Int) := by
 obtain ⟨h0, h1⟩ := h
 unfold bits_Fold.f
 by_cases hv : 0 ≤ v
 ·have e1 : IntKind.u64.wrap (wrap64 (v * 2)) = ((2 * v).toNat : Int) := by rw [u64_wrap]; unfold wrap64; omega
  have e2 : IntKind.u64.wrap (v / 9223372036854775808) = 0 := by rw [u64_wrap]; omega
  rw [e1, e2, xor_zero _ (by omega)]
  unfold foldS
  rw [if_pos hv]
 ·have e1 : IntKind.u64.wrap (wrap64 (v * 2)) = ((2 * v + 18446744073709551616).toNat : Int) := by rw [u64_wrap]; unfold wrap64; omega
  have e2 : IntKind.u64.wrap (v / 9223372036854775808) = 18446744073709551615 := by rw [u64_wrap]; omega
  rw [e1, e2, xor_ones _ (by omega)]
  unfold foldS
  rw [if_neg hv]
  congr 1
  omega
theorem and1 (u : Nat) (h : u < 18446744073709551616) : Go.bits .and .u64 (u : Int) 1 = ((u % 2 : Nat) : Int) := by
 have := bits_mask .u64 64 (by decide) wraps_u64 1 (by decide) (u : Int) (by omega) (by exact_mod_cast (show u < 2 ^ 64 by omega))
 rw [show ((2 : Int) ^ 1 - 1) = 1 from rfl, show ((2 : Int) ^ 1) = 2 from rfl] at this
 rw [this]
 omega
theorem Unfold {u : Nat} (h : u < 18446744073709551616) : bits_Unfold.f (u : Int) = some (unfoldS u) := by
 unfold bits_Unfold.f
 rw [and1 u h, w64n (u % 2) (by omega), show (u : Int) / 2 = ((u / 2 : Nat) : Int) by omega, w64n (u / 2) (by omega)]
 unfold unfoldS
 by_cases h2 : u % 2 = 0
 ·rw [if_pos h2, h2, show wrap64 (-((0 : Nat) : Int)) = 0 from by unfold wrap64; omega, xor_zero_i _ (by omega)]
 ·rw [if_neg h2, show u % 2 = 1 by omega, show wrap64 (-((1 : Nat) : Int)) = -1 from by unfold wrap64; omega, xor_ones_i _ (by omega)]
theorem take_succ_rd (l : List Int) (i : Nat) (h : i < l.length) : l.take (i + 1) = l.take i ++ [rd l (i : Int)] := by
 rw [List.take_add_one, rd_nat, List.getD_eq_getElem?_getD, List.getElem?_eq_getElem h]; rfl
theorem Copy_l0 (l : List Int) (hl : l.length ≤ 140737488355328) : ∀ (d i : Nat), d + i = l.length → Ev (fun k => stoaref01_Copy.l0 k l (l.take i) (i : Int)) l := by
 intro d
 induction d with
 | zero =>
  intro i hi
  refine Ev.succ ?_
  simp only [stoaref01_Copy.l0, if_neg (show ¬ (i : Int) < (l.length : Int) by omega)]
  rw [List.take_of_length_le (by omega)]
  exact Ev.some_ _
 | succ d ih =>
  intro i hi
  refine Ev.succ ?_
  have hlen : (l.take i).length < 140737488355328 := by rw [List.length_take]; omega
  simp only [stoaref01_Copy.l0, if_pos (show (i : Int) < (l.length : Int) by omega), if_pos (show (0 : Int) ≤ (i : Int) by omega), if_pos hlen, ← take_succ_rd l i (by omega), w64i i (by omega)]
  exact ih (i + 1) (by omega)
theorem Copy (l : List Int) (hl : l.length ≤ 140737488355328) : Ev (fun k => stoaref01_Copy.f k l) l := Copy_l0 l hl l.length 0 rfl
theorem Same_l0 (a b : List Int) (hl : a.length ≤ 140737488355328) (he : a.length = b.length) : ∀ (d i : Nat), d + i = a.length → a.take i = b.take i →
 Ev (fun k => stoaref01_Same.l0 k a b (i : Int)) (decide (a = b)) := by
 intro d
 induction d with
 | zero =>
  intro i hi h
  refine Ev.succ ?_
  rw [List.take_of_length_le (by omega), List.take_of_length_le (by omega)] at h
  simp only [stoaref01_Same.l0, if_neg (show ¬ (i : Int) < (a.length : Int) by omega), decide_eq_true h]
  exact Ev.some_ _
 | succ d ih =>
  intro i hi h
  refine Ev.succ ?_
  simp only [stoaref01_Same.l0, if_pos (show (i : Int) < (a.length : Int) by omega), if_pos (show (0 : Int) ≤ (i : Int) by omega), if_pos (show (i : Int) < (b.length : Int) by omega), w64i i (by omega)]
  by_cases hx : rd a (i : Int) = rd b (i : Int)
  ·simp only [if_pos hx]
   exact ih (i + 1) (by omega) (by rw [take_succ_rd a i (by omega), take_succ_rd b i (by omega), h, hx])
  ·simp only [if_neg hx, decide_eq_false (show ¬ a = b from fun e => hx (by rw [e]))]
   exact Ev.some_ _
theorem Same (a b : List Int) (hl : a.length ≤ 140737488355328) : Ev (fun k => stoaref01_Same.f k a b) (decide (a = b)) := by
 unfold stoaref01_Same.f
 by_cases he : a.length = b.length
 ·simp only [if_pos (show (a.length : Int) = (b.length : Int) by omega)]
  exact Same_l0 a b hl he a.length 0 rfl rfl
 ·simp only [if_neg (show ¬ (a.length : Int) = (b.length : Int) by omega), decide_eq_false (show ¬ a = b from fun e => he (by rw [e]))]
  exact Ev.some_ _
def cN (v : Int) : S62 := ⟨false, v, []⟩
def cT (s : List Int) : S62 := ⟨false, 0, s⟩
theorem fromNumbers_l0 (vs : List Int) (e : Int) (hl : vs.length ≤ 4096) : ∀ (d i : Nat), d + i = vs.length → Ev (fun k => block_fromNumbers.l0 k e ((vs.take i).map cN) vs (vs.length : Int) (i : Int)) (vs.map cN, e) := by
 intro d
 induction d with
 | zero =>
  intro i hi
  refine Ev.succ ?_
  simp only [block_fromNumbers.l0, if_neg (show ¬ (i : Int) < (vs.length : Int) by omega)]
  rw [List.take_of_length_le (by omega)]
  exact Ev.some_ _
 | succ d ih =>
  intro i hi
  refine Ev.succ ?_
  have hlen : ((vs.take i).map cN).length < 3518437208883 := by rw [List.length_map, List.length_take]; omega
  have h2 : (vs.take i).map cN ++ [(⟨false, rd vs (i : Int), ([] : List Int)⟩ : S62)] = (vs.take (i + 1)).map cN := by rw [take_succ_rd vs i (by omega), List.map_append]; rfl
  simp only [block_fromNumbers.l0, if_pos (show (i : Int) < (vs.length : Int) by omega), if_pos (show (0 : Int) ≤ (i : Int) by omega), if_pos hlen, h2, w64i i (by omega)]
  exact ih (i + 1) (by omega)
theorem fromNumbers (vs : List Int) (e : Int) (hl : vs.length ≤ 4096) : Ev (fun k => block_fromNumbers.f k vs e) (vs.map cN, e) := fromNumbers_l0 vs e hl vs.length 0 rfl
theorem rdL1_nat (l : List (List Int)) (j : Nat) : rd_L1 l (j : Int) = l.getD j [] := by simp [rd_L1]
theorem take_succ_L1 (l : List (List Int)) (i : Nat) (h : i < l.length) : l.take (i + 1) = l.take i ++ [rd_L1 l (i : Int)] := by
 rw [List.take_add_one, rdL1_nat, List.getD_eq_getElem?_getD, List.getElem?_eq_getElem h]; rfl
theorem fromTexts_l0 (vs : List (List Int)) (e : Int) (hl : vs.length ≤ 4096) : ∀ (d i : Nat), d + i = vs.length → Ev (fun k => block_fromTexts.l0 k e ((vs.take i).map cT) vs (vs.length : Int) (i : Int)) (vs.map cT, e) := by
 intro d
 induction d with
 | zero =>
  intro i hi
  refine Ev.succ ?_
  simp only [block_fromTexts.l0, if_neg (show ¬ (i : Int) < (vs.length : Int) by omega)]
  rw [List.take_of_length_le (by omega)]
  exact Ev.some_ _
 | succ d ih =>
  intro i hi
  refine Ev.succ ?_
  have hlen : ((vs.take i).map cT).length < 3518437208883 := by rw [List.length_map, List.length_take]; omega
  have h2 : (vs.take i).map cT ++ [(⟨false, 0, rd_L1 vs (i : Int)⟩ : S62)] = (vs.take (i + 1)).map cT := by rw [take_succ_L1 vs i (by omega), List.map_append]; rfl
  simp only [block_fromTexts.l0, if_pos (show (i : Int) < (vs.length : Int) by omega), if_pos (show (0 : Int) ≤ (i : Int) by omega), if_pos hlen, h2, w64i i (by omega)]
  exact ih (i + 1) (by omega)
theorem fromTexts (vs : List (List Int)) (e : Int) (hl : vs.length ≤ 4096) : Ev (fun k => block_fromTexts.f k vs e) (vs.map cT, e) := fromTexts_l0 vs e hl vs.length 0 rfl
theorem rdT62_nat (l : List S62) (j : Nat) : rd_T62 l (j : Int) = l.getD j z62 := by simp [rd_T62]
theorem take_succ_T62 (l : List S62) (i : Nat) (h : i < l.length) : l.take (i + 1) = l.take i ++ [rd_T62 l (i : Int)] := by
 rw [List.take_add_one, rdT62_nat, List.getD_eq_getElem?_getD, List.getElem?_eq_getElem h]; rfl
def there (cs : List S62) : List S62 := cs.filter fun c => !c.f0
theorem there_snoc (cs : List S62) (c : S62) : there (cs ++ [c]) = there cs ++ (if c.f0 = true then [] else [c]) := by
 simp only [there, List.filter_append]
 cases h : c.f0 <;> simp [List.filter, h]
theorem numbers_l0 (cs : List S62) (hl : cs.length ≤ 4096) : ∀ (d i : Nat), d + i = cs.length → Ev (fun k => block_numbers.l0 k ((there (cs.take i)).map (·.f1)) cs (cs.length : Int) (i : Int)) ((there cs).map (·.f1)) := by
 intro d
 induction d with
 | zero =>
  intro i hi
  refine Ev.succ ?_
  simp only [block_numbers.l0, if_neg (show ¬ (i : Int) < (cs.length : Int) by omega)]
  rw [List.take_of_length_le (by omega)]
  exact Ev.some_ _
 | succ d ih =>
  intro i hi
  refine Ev.succ ?_
  have hlen : ((there (cs.take i)).map (·.f1)).length < 17592186044416 := by
   rw [List.length_map]
   have := List.length_filter_le (fun c : S62 => !c.f0) (cs.take i)
   rw [List.length_take] at this
   unfold there
   omega
  have hih := ih (i + 1) (by omega)
  rw [take_succ_T62 cs i (by omega), there_snoc] at hih
  simp only [block_numbers.l0, if_pos (show (i : Int) < (cs.length : Int) by omega), if_pos (show (0 : Int) ≤ (i : Int) by omega), if_pos hlen, w64i i (by omega)]
  by_cases hf : (rd_T62 cs (i : Int)).f0 = true
  ·simp only [if_pos hf, List.append_nil] at hih ⊢
   exact hih
  ·simp only [if_neg hf, List.map_append, List.map_cons, List.map_nil] at hih ⊢
   exact hih
theorem numbers (cs : List S62) (hl : cs.length ≤ 4096) : Ev (fun k => block_numbers.f k cs) ((there cs).map (·.f1)) := numbers_l0 cs hl cs.length 0 rfl
theorem texts_l0 (cs : List S62) (hl : cs.length ≤ 4096) : ∀ (d i : Nat), d + i = cs.length → Ev (fun k => block_texts.l0 k ((there (cs.take i)).map (·.f2)) cs (cs.length : Int) (i : Int)) ((there cs).map (·.f2)) := by
 intro d
 induction d with
 | zero =>
  intro i hi
  refine Ev.succ ?_
  simp only [block_texts.l0, if_neg (show ¬ (i : Int) < (cs.length : Int) by omega)]
  rw [List.take_of_length_le (by omega)]
  exact Ev.some_ _
 | succ d ih =>
  intro i hi
  refine Ev.succ ?_
  have hlen : ((there (cs.take i)).map (·.f2)).length < 5864062014805 := by
   rw [List.length_map]
   have := List.length_filter_le (fun c : S62 => !c.f0) (cs.take i)
   rw [List.length_take] at this
   unfold there
   omega
  have hih := ih (i + 1) (by omega)
  rw [take_succ_T62 cs i (by omega), there_snoc] at hih
  simp only [block_texts.l0, if_pos (show (i : Int) < (cs.length : Int) by omega), if_pos (show (0 : Int) ≤ (i : Int) by omega), if_pos hlen, w64i i (by omega)]
  by_cases hf : (rd_T62 cs (i : Int)).f0 = true
  ·simp only [if_pos hf, List.append_nil] at hih ⊢
   exact hih
  ·simp only [if_neg hf, List.map_append, List.map_cons, List.map_nil] at hih ⊢
   exact hih
theorem texts (cs : List S62) (hl : cs.length ≤ 4096) : Ev (fun k => block_texts.f k cs) ((there cs).map (·.f2)) := texts_l0 cs hl cs.length 0 rfl
theorem Index_l0 (l : List Int) (x : Int) (hl : l.length ≤ 140737488355328) : ∀ (d i : Nat), d + i = l.length → x ∉ l.take i →
 ∃ r, Ev (fun k => slices_Index_uint64_uint64.l0 k l x (l.length : Int) (i : Int)) r ∧ (r ≥ 0 ↔ x ∈ l) := by
 intro d
 induction d with
 | zero =>
  intro i hi h
  rw [List.take_of_length_le (by omega)] at h
  refine ⟨-1, Ev.succ ?_, by simp [h]⟩
  simp only [slices_Index_uint64_uint64.l0, if_neg (show ¬ (i : Int) < (l.length : Int) by omega)]
  exact Ev.some_ _
 | succ d ih =>
  intro i hi h
  by_cases hx : x = rd l (i : Int)
  ·have hm : x ∈ l := by rw [hx, rd_nat]; rw [List.getD_eq_getElem?_getD, List.getElem?_eq_getElem (show i < l.length by omega)]; exact List.getElem_mem _
   refine ⟨(i : Int), Ev.succ ?_, by simp [hm]⟩
   simp only [slices_Index_uint64_uint64.l0, if_pos (show (i : Int) < (l.length : Int) by omega), if_pos (show (0 : Int) ≤ (i : Int) by omega), if_pos hx]
   exact Ev.some_ _
  ·obtain ⟨r, hr, h2⟩ := ih (i + 1) (by omega) (by rw [take_succ_rd l i (by omega)]; simp [h, hx])
   refine ⟨r, Ev.succ ?_, h2⟩
   simp only [slices_Index_uint64_uint64.l0, if_pos (show (i : Int) < (l.length : Int) by omega), if_pos (show (0 : Int) ≤ (i : Int) by omega), if_neg hx, w64i i (by omega)]
   exact hr
theorem Contains (l : List Int) (x : Int) (hl : l.length ≤ 140737488355328) : Ev (fun k => slices_Contains_uint64_uint64.f k l x) (decide (x ∈ l)) := by
 obtain ⟨r, hr, h⟩ := Index_l0 l x hl l.length 0 rfl (by simp)
 unfold slices_Contains_uint64_uint64.f slices_Index_uint64_uint64.f
 refine Ev.bind hr ?_
 simp only [h]
 exact Ev.some_ _
theorem IndexB_l0 (l : List Bool) (x : Bool) (hl : l.length ≤ 140737488355328) : ∀ (d i : Nat), d + i = l.length → x ∉ l.take i →
 ∃ r, Ev (fun k => slices_Index_bool_bool.l0 k l x (l.length : Int) (i : Int)) r ∧ (r ≥ 0 ↔ x ∈ l) := by
 intro d
 induction d with
 | zero =>
  intro i hi h
  rw [List.take_of_length_le (by omega)] at h
  refine ⟨-1, Ev.succ ?_, by simp [h]⟩
  simp only [slices_Index_bool_bool.l0, if_neg (show ¬ (i : Int) < (l.length : Int) by omega)]
  exact Ev.some_ _
 | succ d ih =>
  intro i hi h
  have hlt : i < l.length := by omega
  have hr : rdOf false l (i : Int) = l[i] := by simp [rdOf, List.getD_eq_getElem?_getD, List.getElem?_eq_getElem hlt]
  by_cases hx : x = l[i]
  ·have hm : x ∈ l := by rw [hx]; exact List.getElem_mem _
   refine ⟨(i : Int), Ev.succ ?_, by simp [hm]⟩
   simp only [slices_Index_bool_bool.l0, if_pos (show (i : Int) < (l.length : Int) by omega), if_pos (show (0 : Int) ≤ (i : Int) by omega), hr, hx, beq_self_eq_true, if_true]
   exact Ev.some_ _
  ·obtain ⟨r, hr2, h2⟩ := ih (i + 1) (by omega) (by
    rw [List.take_add_one, List.getElem?_eq_getElem hlt]
    intro hm
    rcases List.mem_append.1 hm with hm | hm
    ·exact h hm
    ·exact hx (List.mem_singleton.1 hm))
   refine ⟨r, Ev.succ ?_, h2⟩
   have hb : (x == l[i]) = false := by simpa using hx
   simp only [slices_Index_bool_bool.l0, if_pos (show (i : Int) < (l.length : Int) by omega), if_pos (show (0 : Int) ≤ (i : Int) by omega), hr, hb, Bool.false_eq_true, if_false, w64i i (by omega)]
   exact hr2
theorem ContainsB (l : List Bool) (x : Bool) (hl : l.length ≤ 140737488355328) : Ev (fun k => slices_Contains_bool_bool.f k l x) (decide (x ∈ l)) := by
 obtain ⟨r, hr, h⟩ := IndexB_l0 l x hl l.length 0 rfl (by simp)
 unfold slices_Contains_bool_bool.f slices_Index_bool_bool.f
 refine Ev.bind hr ?_
 simp only [h]
 exact Ev.some_ _
def leastS (l : List Int) : Int := l.foldl min (l.headD 0)
theorem foldl_min_le : ∀ (l : List Int) (a : Int), l.foldl min a ≤ a ∧ (∀ x ∈ l, l.foldl min a ≤ x) ∧ (l.foldl min a = a ∨ l.foldl min a ∈ l) := by
 intro l
 induction l with
 | nil => intro a; exact ⟨Int.le_refl _, fun x hx => by simp at hx, .inl rfl⟩
 | cons y l ih =>
  intro a
  obtain ⟨h1, h2, h3⟩ := ih (min a y)
  simp only [List.foldl_cons]
  refine ⟨by omega, fun x hx => ?_, ?_⟩
  ·rcases List.mem_cons.1 hx with rfl | hx
   ·omega
   ·exact h2 x hx
  ·rcases h3 with h3 | h3
   ·by_cases h : a ≤ y
    ·left; omega
    ·right; rw [h3, Int.min_eq_right (by omega)]; exact List.mem_cons_self
   ·right; exact List.mem_cons_of_mem _ h3
theorem leastS_le {l : List Int} {x : Int} (h : x ∈ l) : leastS l ≤ x := (foldl_min_le l _).2.1 x h
theorem leastS_mem {l : List Int} (h : l ≠ []) : leastS l ∈ l := by
 cases l with
 | nil => exact absurd rfl h
 | cons y l =>
  rcases (foldl_min_le (y :: l) y).2.2 with h | h
  ·unfold leastS; simp only [List.headD_cons]; rw [h]; exact List.mem_cons_self
  ·exact h
theorem leastS_eq {l : List Int} {x : Int} (h : x ∈ l) (hx : ∀ y ∈ l, x ≤ y) : leastS l = x := by
 have h1 := leastS_le h
 have h2 := hx _ (leastS_mem (l := l) (fun e => by rw [e] at h; simp at h))
 omega
theorem mn_min (a b : Int) : mn a b = min a b := by unfold mn; split <;> omega
theorem Min_l0 (l : List Int) (hl : l.length ≤ 140737488355328) (a0 : Int) : ∀ (d i : Nat), d + i = l.length → Ev (fun k => slices_Min_int64_int64.l0 k l ((l.take i).foldl min a0) (i : Int)) (l.foldl min a0) := by
 intro d
 induction d with
 | zero =>
  intro i hi
  refine Ev.succ ?_
  simp only [slices_Min_int64_int64.l0, if_neg (show ¬ (i : Int) < (l.length : Int) by omega)]
  rw [List.take_of_length_le (by omega)]
  exact Ev.some_ _
 | succ d ih =>
  intro i hi
  refine Ev.succ ?_
  have hih := ih (i + 1) (by omega)
  rw [take_succ_rd l i (by omega), List.foldl_append] at hih
  simp only [slices_Min_int64_int64.l0, if_pos (show (i : Int) < (l.length : Int) by omega), if_pos (show (0 : Int) ≤ (i : Int) by omega), mn_min, w64i i (by omega)]
  exact hih
theorem Min (l : List Int) (hl : l.length ≤ 140737488355328) (h0 : l ≠ []) : Ev (fun k => slices_Min_int64_int64.f k l) (leastS l) := by
 cases l with
 | nil => exact absurd rfl h0
 | cons y l =>
  unfold slices_Min_int64_int64.f
  simp only [if_neg (show ¬ (((y :: l).length : Nat) : Int) < 1 by simp only [List.length_cons]; omega), if_pos (show (0 : Int) < (((y :: l).length : Nat) : Int) by simp only [List.length_cons]; omega), rd_cons_zero]
  have := Min_l0 (y :: l) hl y l.length 1 (by simp)
  simp only [List.take_succ_cons, List.take_zero, List.foldl_cons, List.foldl_nil, Int.min_self] at this
  exact Ev.eq this (by simp [leastS])
def gstep (acc : List (Int × Nat)) (v : Int) : List (Int × Nat) :=
 match acc.getLast? with
 | some (x, c) => if x = v then acc.dropLast ++ [(x, c + 1)] else acc ++ [(v, 1)]
 | none => [(v, 1)]
def grp (l : List Int) : List (Int × Nat) := l.foldl gstep []
def ungrp (ps : List (Int × Nat)) : List Int := ps.flatMap fun p => List.replicate p.2 p.1
def encR (ps : List (Int × Nat)) : List Int := ps.flatMap fun p => putS (foldS p.1) ++ putS p.2
def runsS (vs : List Int) : List Int := putS (grp vs).length ++ encR (grp vs)
theorem gstep_nil (v : Int) : gstep [] v = [(v, 1)] := rfl
theorem gstep_snoc (ps : List (Int × Nat)) (x : Int) (c : Nat) (v : Int) : gstep (ps ++ [(x, c)]) v = if x = v then ps ++ [(x, c + 1)] else ps ++ [(x, c)] ++ [(v, 1)] := by
 simp [gstep]
theorem grp_snoc (l : List Int) (v : Int) : grp (l ++ [v]) = gstep (grp l) v := by simp [grp, List.foldl_append]
theorem snoc_cases {α : Type} (l : List α) : l = [] ∨ ∃ ps x, l = ps ++ [x] := by
 rcases List.eq_nil_or_concat l with h | ⟨ps, x, h⟩
 ·exact .inl h
 ·exact .inr ⟨ps, x, by rw [h, List.concat_eq_append]⟩
theorem gstep_last (acc : List (Int × Nat)) (v : Int) : ∃ ps c, gstep acc v = ps ++ [(v, c)] := by
 rcases snoc_cases acc with rfl | ⟨ps, ⟨x, c⟩, rfl⟩
 ·exact ⟨[], 1, rfl⟩
 ·rw [gstep_snoc]
  split
  ·rename_i h; subst h; exact ⟨ps, c + 1, rfl⟩
  ·exact ⟨_, 1, rfl⟩
theorem grp_last (l : List Int) (v : Int) : ∃ ps c, grp (l ++ [v]) = ps ++ [(v, c)] := by rw [grp_snoc]; exact gstep_last _ _
theorem grp_nonempty {l : List Int} (h : l ≠ []) : ∃ ps x c l', grp l = ps ++ [(x, c)] ∧ l = l' ++ [x] := by
 rcases snoc_cases l with rfl | ⟨l', x, rfl⟩
 ·exact absurd rfl h
 ·obtain ⟨ps, c, e⟩ := grp_last l' x
  exact ⟨ps, x, c, l', e, rfl⟩
theorem ungrp_snoc (ps : List (Int × Nat)) (p : Int × Nat) : ungrp (ps ++ [p]) = ungrp ps ++ List.replicate p.2 p.1 := by simp [ungrp, List.flatMap_append]
theorem encR_snoc (ps : List (Int × Nat)) (p : Int × Nat) : encR (ps ++ [p]) = encR ps ++ (putS (foldS p.1) ++ putS p.2) := by simp [encR, List.flatMap_append]
theorem ungrp_gstep (acc : List (Int × Nat)) (v : Int) : ungrp (gstep acc v) = ungrp acc ++ [v] := by
 rcases snoc_cases acc with rfl | ⟨ps, ⟨x, c⟩, rfl⟩
 ·rfl
 ·rw [gstep_snoc]
  split
  ·rename_i h; subst h; rw [ungrp_snoc, ungrp_snoc, List.replicate_succ', List.append_assoc]
  ·rw [ungrp_snoc]; rfl
theorem ungrp_grp_go : ∀ (l : List Int) (acc : List (Int × Nat)), ungrp (l.foldl gstep acc) = ungrp acc ++ l := by
 intro l
 induction l with
 | nil => intro acc; simp
 | cons v l ih => intro acc; rw [List.foldl_cons, ih, ungrp_gstep]; simp
theorem ungrp_grp (l : List Int) : ungrp (grp l) = l := by
 have := ungrp_grp_go l []
 simpa [ungrp, grp] using this
theorem count_le {ps : List (Int × Nat)} {p : Int × Nat} (h : p ∈ ps) : p.2 ≤ (ungrp ps).length := by
 induction ps with
 | nil => simp at h
 | cons q ps ih =>
  simp only [ungrp, List.flatMap_cons, List.length_append, List.length_replicate] at ih ⊢
  rcases List.mem_cons.1 h with rfl | h
  ·omega
  ·have := ih h; omega
theorem grp_count {l : List Int} {p : Int × Nat} (h : p ∈ grp l) : p.2 ≤ l.length := by
 have := count_le h
 rwa [ungrp_grp] at this
theorem gstep_fst {acc : List (Int × Nat)} {v : Int} {p : Int × Nat} (h : p ∈ gstep acc v) : p.1 = v ∨ ∃ q ∈ acc, q.1 = p.1 := by
 rcases snoc_cases acc with rfl | ⟨ps, ⟨x, c⟩, rfl⟩
 ·rw [gstep_nil] at h; rw [List.mem_singleton.1 h]; exact .inl rfl
 ·rw [gstep_snoc] at h
  split at h
  ·rename_i e
   rcases List.mem_append.1 h with h | h
   ·exact .inr ⟨p, by simp [h], rfl⟩
   ·rw [List.mem_singleton.1 h]; exact .inl e
  ·rcases List.mem_append.1 h with h | h
   ·exact .inr ⟨p, h, rfl⟩
   ·rw [List.mem_singleton.1 h]; exact .inl rfl
theorem grp_fst_go : ∀ (l : List Int) (acc : List (Int × Nat)) (p : Int × Nat), p ∈ l.foldl gstep acc → p.1 ∈ l ∨ ∃ q ∈ acc, q.1 = p.1 := by
 intro l
 induction l with
 | nil => intro acc p h; exact .inr ⟨p, h, rfl⟩
 | cons v l ih =>
  intro acc p h
  rcases ih _ _ h with h | ⟨q, hq, e⟩
  ·exact .inl (List.mem_cons_of_mem _ h)
  ·rcases gstep_fst hq with h | ⟨r, hr, e2⟩
   ·exact .inl (by rw [← e, h]; exact List.mem_cons_self)
   ·exact .inr ⟨r, hr, e2.trans e⟩
theorem grp_fst {l : List Int} {p : Int × Nat} (h : p ∈ grp l) : p.1 ∈ l := by
 rcases grp_fst_go l [] p h with h | ⟨q, hq, _⟩
 ·exact h
 ·simp at hq
theorem grp_len (l : List Int) : (grp l).length ≤ l.length := by
 have : ∀ (l : List Int) (acc : List (Int × Nat)), (l.foldl gstep acc).length ≤ acc.length + l.length := by
  intro l
  induction l with
  | nil => intro acc; simp
  | cons v l ih =>
   intro acc
   have h1 := ih (gstep acc v)
   have h2 : (gstep acc v).length ≤ acc.length + 1 := by
    rcases snoc_cases acc with rfl | ⟨ps, ⟨x, c⟩, rfl⟩
    ·simp [gstep_nil]
    ·rw [gstep_snoc]; split <;> simp
   simp only [List.foldl_cons, List.length_cons]
   omega
 have := this l []
 simpa [grp] using this
theorem grp_rep (l : List Int) (x : Int) (h : ∀ l', l ≠ l' ++ [x]) : ∀ c : Nat, grp (l ++ List.replicate (c + 1) x) = grp l ++ [(x, c + 1)] := by
 intro c
 induction c with
 | zero =>
  rw [show List.replicate (0 + 1) x = [x] from rfl, grp_snoc]
  by_cases h0 : l = []
  ·subst h0; rfl
  ·obtain ⟨ps, y, c, l', e, e2⟩ := grp_nonempty h0
   rw [e, gstep_snoc, if_neg]
   rintro rfl
   exact h l' e2
 | succ c ih =>
  rw [List.replicate_succ', ← List.append_assoc, grp_snoc, ih, gstep_snoc, if_pos rfl]
def toS (p : Int × Nat) : S165 := ⟨p.1, (p.2 : Int)⟩
theorem bump {β : Type} (F : List S165 → Option β) (ps : List (Int × Nat)) (p : Int × Nat) (y : List S165) (hy : y = (ps ++ [p]).map toS) (h : ps.length ≤ 4096) (hc : p.2 ≤ 4096) :
 (if 0 ≤ wrap64 ((y.length : Int) - 1) then (if wrap64 ((y.length : Int) - 1) < (y.length : Int) then F (y.set (wrap64 ((y.length : Int) - 1)).toNat (⟨(rd_T165 y (wrap64 ((y.length : Int) - 1))).f0, wrap64 ((rd_T165 y (wrap64 ((y.length : Int) - 1))).f1 + 1)⟩ : S165)) else none) else none) =
  F ((ps ++ [(p.1, p.2 + 1)]).map toS) := by
 have hl : y.length = ps.length + 1 := by rw [hy]; simp
 have e0 : wrap64 ((y.length : Int) - 1) = (ps.length : Int) := by rw [hl, w64 (by omega) (by omega)]; omega
 have e1 : rd_T165 y (ps.length : Int) = toS p := by rw [hy, rd_T165]; simp [List.getD_eq_getElem?_getD]
 rw [e0, e1, if_pos (by omega), if_pos (by omega), Int.toNat_natCast]
 congr 1
 have e2 : wrap64 ((toS p).f1 + 1) = ((p.2 + 1 : Nat) : Int) := w64i p.2 (by omega)
 rw [e2, hy]
 simp [toS, List.set_append_right]
theorem Ev.congr {α : Type} {g g' : Nat → Option α} {v : α} (h : ∀ k, g k = g' k) (hg : Ev g' v) : Ev g v := by
 obtain ⟨a, ha⟩ := hg
 exact ⟨a, fun k hk => by rw [h k]; exact ha k hk⟩
theorem Split_l0 (vs : List Int) (hl : vs.length ≤ 4096) : ∀ (d i : Nat), d + i = vs.length → Ev (fun k => runs_Split.l0 k vs ((grp (vs.take i)).map toS) vs (vs.length : Int) (i : Int)) ((grp vs).map toS, 0) := by
 intro d
 induction d with
 | zero =>
  intro i hi
  refine Ev.succ ?_
  simp only [runs_Split.l0, if_neg (show ¬ (i : Int) < (vs.length : Int) by omega)]
  rw [List.take_of_length_le (by omega)]
  exact Ev.some_ _
 | succ d ih =>
  intro i hi
  have hlt : i < vs.length := by omega
  refine Ev.succ ?_
  have hih := ih (i + 1) (by omega)
  have hgl : (grp (vs.take i)).length ≤ 4096 := by have := grp_len (vs.take i); rw [List.length_take] at this; omega
  have hlen : ((grp (vs.take i)).map toS).length < 8796093022208 := by rw [List.length_map]; omega
  have c1 : (i : Int) < (vs.length : Int) := by omega
  have c2 : (0 : Int) ≤ (i : Int) := by omega
  have hw := w64i i (by omega)
  rw [take_succ_rd vs i hlt, grp_snoc] at hih
  by_cases h0 : i = 0
  ·subst h0
   simp only [List.take_zero, show grp [] = [] from rfl, gstep_nil, List.map_nil] at hih hlen ⊢
   simp only [runs_Split.l0, if_pos c1, if_pos c2, if_pos (show ((0 : Nat) : Int) = 0 from rfl), if_pos hlen, Option.bind_some, List.nil_append, hw]
   exact Ev.congr (fun k => bump (fun z => runs_Split.l0 k vs z vs (vs.length : Int) ((0 + 1 : Nat) : Int)) [] (rd vs ((0 : Nat) : Int), 0) _ rfl (by simp) (by simp)) hih
  ·have hlt2 : i - 1 < vs.length := by omega
   have hprev : wrap64 ((i : Int) - 1) = ((i - 1 : Nat) : Int) := w64s i 1 (by omega) (by omega)
   have htk : vs.take i = vs.take (i - 1) ++ [rd vs ((i - 1 : Nat) : Int)] := by
    have := take_succ_rd vs (i - 1) hlt2
    rwa [show i - 1 + 1 = i by omega] at this
   obtain ⟨ps, c, hg⟩ := grp_last (vs.take (i - 1)) (rd vs ((i - 1 : Nat) : Int))
   rw [← htk] at hg
   have hcc : c ≤ 4096 := by
    have := grp_count (l := vs.take i) (p := (rd vs ((i - 1 : Nat) : Int), c)) (by rw [hg]; simp)
    rw [List.length_take] at this
    simp only at this
    omega
   have hpl : ps.length ≤ 4096 := by rw [hg, List.length_append] at hgl; omega
   rw [hg, gstep_snoc] at hih
   have c3 : ¬ (i : Int) = 0 := by omega
   have c4 : (0 : Int) ≤ ((i - 1 : Nat) : Int) := by omega
   have c5 : ((i - 1 : Nat) : Int) < (vs.length : Int) := by omega
   rw [hg] at hlen hgl ⊢
   simp only [runs_Split.l0, if_pos c1, if_pos c2, if_neg c3, hprev, if_pos c4, if_pos c5, hw, if_pos hlen, Option.bind_some]
   by_cases hv : rd vs (i : Int) = rd vs ((i - 1 : Nat) : Int)
   ·simp only [if_pos hv]
    rw [if_pos hv.symm] at hih
    exact Ev.congr (fun k => bump (fun z => runs_Split.l0 k vs z vs (vs.length : Int) ((i + 1 : Nat) : Int)) ps (rd vs ((i - 1 : Nat) : Int), c) _ rfl hpl hcc) hih
   ·simp only [if_neg hv]
    rw [if_neg (fun e => hv e.symm)] at hih
    exact Ev.congr (fun k => bump (fun z => runs_Split.l0 k vs z vs (vs.length : Int) ((i + 1 : Nat) : Int)) (ps ++ [(rd vs ((i - 1 : Nat) : Int), c)]) (rd vs (i : Int), 0) _ (by rw [List.map_append (l₂ := [(rd vs (i : Int), 0)])]; rfl) hgl (by simp)) hih
theorem Split (vs : List Int) (hl : vs.length ≤ 4096) : Ev (fun k => runs_Split.f k vs) ((grp vs).map toS, 0) := by
 unfold runs_Split.f
 simp only [if_neg (show ¬ (vs.length : Int) > 4096 by omega)]
 exact Split_l0 vs hl vs.length 0 rfl
theorem encR_len {ps : List (Int × Nat)} (h : ∀ p ∈ ps, I64 p.1 ∧ p.2 < 18446744073709551616) : (encR ps).length ≤ 20 * ps.length := by
 induction ps with
 | nil => simp [encR]
 | cons p ps ih =>
  have h1 := h p (by simp)
  have h2 := ih (fun q hq => h q (by simp [hq]))
  have h3 := putS_len10 (foldS_lt h1.1)
  have h4 := putS_len10 h1.2
  simp only [encR, List.flatMap_cons, List.length_append, List.length_cons] at h2 ⊢
  omega
theorem rdT165_map (ps : List (Int × Nat)) (i : Nat) (h : i < ps.length) : rd_T165 (ps.map toS) (i : Int) = toS ps[i] := by
 simp [rd_T165, List.getD_eq_getElem?_getD, List.getElem?_eq_getElem h]
theorem runsEnc_l0 (ps : List (Int × Nat)) (hp : ∀ p ∈ ps, I64 p.1 ∧ p.2 < 18446744073709551616) (hl : ps.length ≤ 4096) (pre : List Int) (hpre : pre.length ≤ 10) : ∀ (d i : Nat), d + i = ps.length →
 Ev (fun k => runs_Encode.l0 k (pre ++ encR (ps.take i)) (ps.map toS) (ps.length : Int) (i : Int)) (pre ++ encR ps, 0) := by
 intro d
 induction d with
 | zero =>
  intro i hi
  refine Ev.succ ?_
  simp only [runs_Encode.l0, if_neg (show ¬ (i : Int) < (ps.length : Int) by omega)]
  rw [List.take_of_length_le (by omega)]
  exact Ev.some_ _
 | succ d ih =>
  intro i hi
  have hlt : i < ps.length := by omega
  have hm := hp _ (List.getElem_mem hlt)
  have hL := encR_len (ps := ps.take i) (fun p hx => hp p (List.mem_of_mem_take hx))
  rw [List.length_take] at hL
  have hih := ih (i + 1) (by omega)
  rw [List.take_add_one, List.getElem?_eq_getElem hlt, Option.toList_some, encR_snoc] at hih
  have h3 := putS_len10 (foldS_lt hm.1)
  have h4 := putS_len10 hm.2
  have c1 : (i : Int) < (ps.length : Int) := by omega
  have c2 : (0 : Int) ≤ (i : Int) := by omega
  have c3 : (pre ++ encR (ps.take i)).length + (putS (foldS ps[i].1)).length < 140737488355328 := by rw [List.length_append]; omega
  have c4 : (pre ++ encR (ps.take i) ++ putS (foldS ps[i].1)).length + (putS ps[i].2).length < 140737488355328 := by rw [List.length_append, List.length_append]; omega
  have hw := w64i i (by omega)
  have hu := u64n ps[i].2 hm.2
  refine Ev.succ ?_
  simp only [runs_Encode.l0, if_pos c1, if_pos c2, List.length_map, rdT165_map ps i hlt, toS, Fold hm.1, Option.bind_some, hu, hw]
  refine Ev.bind (Put _ (foldS_lt hm.1)) ?_
  simp only [if_pos c3]
  refine Ev.bind (Put _ hm.2) ?_
  simp only [if_pos c4]
  simpa [List.append_assoc] using hih
theorem runsEncode (vs : List Int) (hv : ∀ v ∈ vs, I64 v) (hl : vs.length ≤ 4096) : Ev (fun k => runs_Encode.f k vs) (runsS vs, 0) := by
 have hg := grp_len vs
 unfold runs_Encode.f
 refine Ev.bind (Split vs hl) ?_
 simp only [List.length_map, if_pos]
 have hu := u64n (grp vs).length (by omega)
 simp only [hu]
 refine Ev.bind (Put _ (by omega)) ?_
 have := runsEnc_l0 (grp vs) (fun p hp => ⟨hv _ (grp_fst hp), by have := grp_count hp; omega⟩) (by omega) (putS (grp vs).length) (putS_len10 (by omega)) (grp vs).length 0 rfl
 simpa [encR, runsS] using this
def Told {α : Type} (r : List α × Int) (Q : List α → Prop) : Prop := (∃ e, e ≠ 0 ∧ r = ([], e)) ∨ ∃ xs, r = (xs, 0) ∧ Q xs
theorem drop_put {l : List Int} {a : Nat} {p s : List Int} (h : l.drop a = p ++ s) : l.drop (a + p.length) = s := by
 rw [← List.drop_drop, h, List.drop_append_of_le_length (Nat.le_refl _), List.drop_length, List.nil_append]
theorem drop_le {l : List Int} {a : Nat} {p s : List Int} (h : l.drop a = p ++ s) (hp : 0 < p.length) : a + p.length ≤ l.length := by
 have h1 : (l.drop a).length = p.length + s.length := by rw [h, List.length_append]
 rw [List.length_drop] at h1
 omega
theorem last_snoc {out : List Int} {u : Int} : (out ≠ [] ∧ rd out ((out.length : Int) - 1) = u) ↔ ∃ l', out = l' ++ [u] := by
 constructor
 ·rintro ⟨h, e⟩
  rcases snoc_cases out with rfl | ⟨l', x, rfl⟩
  ·exact absurd rfl h
  ·refine ⟨l', ?_⟩
   rw [← e]
   congr 2
   simp [rd]
 ·rintro ⟨l', rfl⟩
  simp [rd]
theorem runsDec_l0 (l : List Int) (hb : Bytes l) (hl : l.length ≤ 140737488355328) (n a0 : Nat) : ∀ (d i a : Nat) (out : List Int), d + i = n → a ≤ l.length → a0 ≤ a → out.length ≤ 4096 → (∀ v ∈ out, I64 v) → (grp out).length = i → l.drop a0 = encR (grp out) ++ l.drop a →
 ∃ r, Ev (fun k => runs_Decode.l0 k l out (n : Int) (a : Int) (i : Int)) r ∧ Told r fun vs => vs.length ≤ 4096 ∧ (∀ v ∈ vs, I64 v) ∧ (grp vs).length = n ∧ l.drop a0 = encR (grp vs) := by
 intro d
 induction d with
 | zero =>
  intro i a out hi ha ha0 hol ho hg hd
  by_cases hlt : a < l.length
  ·refine ⟨([], 3), Ev.succ ?_, .inl ⟨3, by decide, rfl⟩⟩
   simp only [runs_Decode.l0, if_neg (show ¬ (i : Int) < (n : Int) by omega), if_pos (show (a : Int) < (l.length : Int) by omega)]
   exact Ev.some_ _
  ·refine ⟨(out, 0), Ev.succ ?_, .inr ⟨out, rfl, hol, ho, by omega, by rw [hd, List.drop_of_length_le (l := l) (i := a) (by omega), List.append_nil]⟩⟩
   simp only [runs_Decode.l0, if_neg (show ¬ (i : Int) < (n : Int) by omega), if_neg (show ¬ (a : Int) < (l.length : Int) by omega)]
   exact Ev.some_ _
 | succ d ih =>
  intro i a out hi ha ha0 hol ho hg hd
  have c1 : (i : Int) < (n : Int) := by omega
  obtain ⟨r1, hr1, hg1⟩ := Get l hb hl a ha
  rcases hg1 with ⟨e, he, rfl⟩ | ⟨v, s, hv, hdv, rfl⟩
  ·refine ⟨([], e), Ev.succ ?_, .inl ⟨e, he, rfl⟩⟩
   simp only [runs_Decode.l0, if_pos c1]
   refine Ev.bind hr1 ?_
   simp only [if_neg he]
   exact Ev.some_ _
  ·have hle := drop_le hdv (putS_pos v)
   have hds := drop_put hdv
   obtain ⟨r2, hr2, hg2⟩ := Get l hb hl (a + (putS v).length) hle
   have step : ∀ r, Ev (fun k => if r2.2.2 = 0 then (if r2.1 = 0 then some ([], 5) else (bits_Unfold.f (v : Int)).bind fun u => if out ≠ [] ∧ rd out ((out.length : Int) - 1) = u then some ([], 5) else if r2.1 > 4096 - (out.length : Int) then some ([], 4) else runs_Decode.l0 k l (out ++ List.replicate r2.1.toNat u) (n : Int) r2.2.1 ((i : Int) + 1)) else some ([], r2.2.2)) r → Ev (fun k => runs_Decode.l0 k l out (n : Int) (a : Int) (i : Int)) r := by
    intro r hr
    refine Ev.succ ?_
    simp only [runs_Decode.l0, if_pos c1]
    refine Ev.bind hr1 ?_
    simp only [if_pos]
    exact Ev.bind hr2 hr
   rcases hg2 with ⟨e, he, rfl⟩ | ⟨c, s2, hc, hdc, rfl⟩
   ·refine ⟨([], e), step _ ?_, .inl ⟨e, he, rfl⟩⟩
    simp only [if_neg he]
    exact Ev.some_ _
   ·simp only [if_pos] at step
    by_cases hc0 : c = 0
    ·subst hc0
     refine ⟨([], 5), step _ ?_, .inl ⟨5, by decide, rfl⟩⟩
     simp only [if_pos (show ((0 : Nat) : Int) = 0 from rfl)]
     exact Ev.some_ _
    ·simp only [if_neg (show ¬ (c : Int) = 0 by omega), Unfold hv, Option.bind_some] at step
     by_cases hlast : out ≠ [] ∧ rd out ((out.length : Int) - 1) = unfoldS v
     ·refine ⟨([], 5), step _ ?_, .inl ⟨5, by decide, rfl⟩⟩
      simp only [if_pos hlast]
      exact Ev.some_ _
     ·simp only [if_neg hlast] at step
      by_cases hmany : (c : Int) > 4096 - (out.length : Int)
      ·refine ⟨([], 4), step _ ?_, .inl ⟨4, by decide, rfl⟩⟩
       simp only [if_pos hmany]
       exact Ev.some_ _
      ·simp only [if_neg hmany, Int.toNat_natCast] at step
       have hnl : ∀ l', out ≠ l' ++ [unfoldS v] := fun l' e => hlast (last_snoc.2 ⟨l', e⟩)
       obtain ⟨c', rfl⟩ : ∃ c', c = c' + 1 := ⟨c - 1, by omega⟩
       have hgrp := grp_rep out (unfoldS v) hnl c'
       have hle2 := drop_le hdc (putS_pos (c' + 1))
       have hds2 := drop_put hdc
       obtain ⟨r, hr, ht⟩ := ih (i + 1) (a + (putS v).length + (putS (c' + 1)).length) (out ++ List.replicate (c' + 1) (unfoldS v)) (by omega) hle2 (by omega) (by rw [List.length_append, List.length_replicate]; omega)
        (fun x hx => by
         rcases List.mem_append.1 hx with hx | hx
         ·exact ho x hx
         ·rw [(List.mem_replicate.1 hx).2]; exact unfoldS_in hv) (by rw [hgrp, List.length_append, hg]; rfl) (by
         rw [hgrp, encR_snoc, hd, hdv, ← hds, hdc, ← hds2]
         simp only [fold_unfold, List.append_assoc])
       refine ⟨r, step _ ?_, ht⟩
       rw [show (i : Int) + 1 = ((i + 1 : Nat) : Int) by omega]
       exact hr
theorem runsDecode (l : List Int) (hb : Bytes l) (hl : l.length ≤ 140737488355328) :
 ∃ r, Ev (fun k => runs_Decode.f k l) r ∧ Told r fun vs => vs.length ≤ 4096 ∧ (∀ v ∈ vs, I64 v) ∧ l = runsS vs := by
 obtain ⟨r1, hr1, hg1⟩ := Get l hb hl 0 (by omega)
 rcases hg1 with ⟨e, he, rfl⟩ | ⟨n, s, hn, hdn, rfl⟩
 ·refine ⟨([], e), Ev.bind hr1 ?_, .inl ⟨e, he, rfl⟩⟩
  simp only [if_neg he]
  exact Ev.some_ _
 ·by_cases hm : (n : Int) > 4096
  ·refine ⟨([], 4), Ev.bind hr1 ?_, .inl ⟨4, by decide, rfl⟩⟩
   simp only [if_pos hm, if_true]
   exact Ev.some_ _
  ·have hle := drop_le hdn (putS_pos n)
   have hds := drop_put hdn
   obtain ⟨r, hr, ht⟩ := runsDec_l0 l hb hl n (0 + (putS n).length) n 0 (0 + (putS n).length) [] (by omega) hle (Nat.le_refl _) (by simp) (by simp) rfl (by simp [grp, encR])
   refine ⟨r, Ev.bind hr1 ?_, ?_⟩
   ·simp only [if_neg hm, if_true]
    exact hr
   ·rcases ht with ht | ⟨vs, e, h1, h2, h3, h4⟩
    ·exact .inl ht
    ·refine .inr ⟨vs, e, h1, h2, ?_⟩
     rw [hds] at h4
     simp only [List.drop_zero] at hdn
     rw [hdn, h4, ← h3]
     rfl
def farS (m : Int) (vs : List Int) : List Nat := vs.map fun v => (v - m).toNat
def packS (vs : List Int) : List Int :=
 if vs = [] then putS 0 else
  putS vs.length ++ (putS (foldS (leastS vs)) ++ ((widthS (farS (leastS vs) vs) : Int) :: digs ((widthS (farS (leastS vs) vs) * vs.length + 7) / 8) (cat (widthS (farS (leastS vs) vs)) (farS (leastS vs) vs))))
theorem far_one {v m : Int} (hv : I64 v) (hm : I64 m) (h : m ≤ v) : IntKind.u64.wrap (IntKind.u64.wrap v - IntKind.u64.wrap m) = ((v - m).toNat : Int) := by
 obtain ⟨h1, h2⟩ := hv
 obtain ⟨h3, h4⟩ := hm
 rw [u64_wrap, u64_wrap, u64_wrap]
 omega
theorem farS_len (m : Int) (vs : List Int) : (farS m vs).length = vs.length := by simp [farS]
theorem farS_lt {m : Int} {vs : List Int} (hv : ∀ v ∈ vs, I64 v) (hm : I64 m) : ∀ u ∈ farS m vs, u < 2 ^ 64 := by
 intro u hu
 obtain ⟨v, hvm, rfl⟩ := List.mem_map.1 hu
 obtain ⟨h1, h2⟩ := hv v hvm
 obtain ⟨h3, h4⟩ := hm
 omega
theorem packEnc_l0 (vs : List Int) (hv : ∀ v ∈ vs, I64 v) (hl : vs.length ≤ 4096) (m : Int) (hm : I64 m) (hle : ∀ v ∈ vs, m ≤ v) (pre : List Int) (hpre : pre.length ≤ 10) : ∀ (d i : Nat), d + i = vs.length →
 Ev (fun k => packed_Encode.l0 k pre m (ints (farS m (vs.take i)) ++ List.replicate d 0) vs (vs.length : Int) (i : Int))
  (pre ++ putS (foldS m) ++ [(widthS (farS m vs) : Int)] ++ digs ((widthS (farS m vs) * vs.length + 7) / 8) (cat (widthS (farS m vs)) (farS m vs)), 0) := by
 intro d
 induction d with
 | zero =>
  intro i hi
  refine Ev.succ ?_
  have hfl := farS_lt hv hm
  have hw := widthS_le (Nat.le_refl 64) hfl
  have hlen := farS_len m vs
  have hwn : widthS (farS m vs) * vs.length ≤ 64 * 4096 := Nat.mul_le_mul hw hl
  have h10 := putS_len10 (foldS_lt hm)
  have c1 : pre.length + (putS (foldS m)).length < 140737488355328 := by omega
  have c2 : (pre ++ putS (foldS m)).length < 140737488355328 := by rw [List.length_append]; omega
  have c3 : (pre ++ putS (foldS m) ++ [(widthS (farS m vs) : Int)]).length + (digs ((widthS (farS m vs) * vs.length + 7) / 8) (cat (widthS (farS m vs)) (farS m vs))).length < 140737488355328 := by
   rw [List.length_append, List.length_append, digs_len, List.length_singleton]; omega
  have c4 : ((widthS (farS m vs) : Int)) % 256 = (widthS (farS m vs) : Int) := by omega
  simp only [packed_Encode.l0, if_neg (show ¬ (i : Int) < (vs.length : Int) by omega), List.replicate_zero, List.append_nil]
  rw [List.take_of_length_le (by omega)]
  refine Ev.bind (Width _ hfl (by omega)) ?_
  have hp := Pack (widthS (farS m vs)) hw (farS m vs) (widthS_lt hfl) (by omega)
  rw [hlen] at hp
  refine Ev.bind hp ?_
  simp only [Fold hm, Option.bind_some]
  refine Ev.bind (Put _ (foldS_lt hm)) ?_
  simp only [if_pos c1, if_pos c2, c4, if_pos c3]
  exact Ev.some_ _
 | succ d ih =>
  intro i hi
  have hlt : i < vs.length := by omega
  have hmem : rd vs (i : Int) ∈ vs := by rw [rd_nat, List.getD_eq_getElem?_getD, List.getElem?_eq_getElem hlt]; exact List.getElem_mem hlt
  have hih := ih (i + 1) (by omega)
  have hfl : (farS m (vs.take i)).length = i := by rw [farS_len, List.length_take]; omega
  have c1 : (i : Int) < (vs.length : Int) := by omega
  have c2 : (0 : Int) ≤ (i : Int) := by omega
  have c3 : (i : Int) < (((ints (farS m (vs.take i)) ++ List.replicate (d + 1) 0).length : Nat) : Int) := by rw [List.length_append, ints_len, hfl, List.length_replicate]; omega
  have hset := set_ints (farS m (vs.take i)) d (rd vs (i : Int) - m).toNat
  rw [hfl] at hset
  have hfar := far_one (hv _ hmem) hm (hle _ hmem)
  have hw := w64i i (by omega)
  refine Ev.succ ?_
  simp only [packed_Encode.l0, if_pos c1, if_pos c2, if_pos c3, hfar, hw, Int.toNat_natCast, hset]
  rw [take_succ_rd vs i hlt] at hih
  simpa [farS, List.map_append] using hih
theorem packEncode (vs : List Int) (hv : ∀ v ∈ vs, I64 v) (hl : vs.length ≤ 4096) : Ev (fun k => packed_Encode.f k vs) (packS vs, 0) := by
 unfold packed_Encode.f
 have c1 : ¬ (vs.length : Int) > 4096 := by omega
 have hu := u64n vs.length (by omega)
 simp only [if_neg c1, hu]
 refine Ev.bind (Put _ (by omega)) ?_
 by_cases h0 : vs = []
 ·subst h0
  simp only [List.length_nil, if_pos (show ((0 : Nat) : Int) = 0 from rfl)]
  exact Ev.some_ _
 ·have hpos : 0 < vs.length := List.length_pos_iff.2 h0
  have hm := hv _ (leastS_mem h0)
  have h10 := putS_len10 (n := vs.length) (by omega)
  simp only [if_neg (show ¬ (vs.length : Int) = 0 by omega), Int.toNat_natCast, if_pos (show (0 : Int) ≤ (vs.length : Int) by omega), if_pos (show vs.length ≤ 35184372088832 by omega)]
  refine Ev.bind (Min vs (by omega) h0) ?_
  have := packEnc_l0 vs hv hl (leastS vs) hm (fun v h => leastS_le h) (putS vs.length) h10 vs.length 0 rfl
  unfold packS
  rw [if_neg h0]
  simpa [farS, ints, List.append_assoc] using this
theorem distances (b : List Int) (hb : Bytes b) (hbl : b.length ≤ 140737488355328) (n : Nat) (hn : n ≤ 4096) :
 ∃ r, Ev (fun k => packed_distances.f k b (n : Int)) r ∧ ((∃ e, e ≠ 0 ∧ r = ([], e)) ∨ ∃ us : List Nat, r = (ints us, 0) ∧ us.length = n ∧ (∀ u ∈ us, u < 2 ^ widthS us) ∧ widthS us ≤ 64 ∧ 0 ∈ us ∧
  b = (widthS us : Int) :: digs ((widthS us * n + 7) / 8) (cat (widthS us) us)) := by
 cases b with
 | nil =>
  refine ⟨([], 2), ?_, .inl ⟨2, by decide, rfl⟩⟩
  unfold packed_distances.f
  simp only [List.length_nil, if_pos (show ((0 : Nat) : Int) = 0 from rfl)]
  exact Ev.some_ _
 | cons x b =>
  obtain ⟨hx0, hx1⟩ := hb x (by simp)
  obtain ⟨w, rfl⟩ := Int.eq_ofNat_of_zero_le hx0
  have hb' : Bytes b := fun y hy => hb y (by simp [hy])
  simp only [List.length_cons] at hbl
  have c1 : ¬ (((b.length + 1 : Nat) : Int) = 0) := by omega
  have c2 : (0 : Int) < ((b.length + 1 : Nat) : Int) := by omega
  have c3 : (1 : Int) ≤ ((b.length + 1 : Nat) : Int) := by omega
  have hw := w64n w (by omega)
  by_cases h64 : (w : Int) > 64
  ·refine ⟨([], 5), ?_, .inl ⟨5, by decide, rfl⟩⟩
   unfold packed_distances.f
   simp only [List.length_cons, if_neg c1, if_pos c2, rd_cons_zero, if_pos h64]
   exact Ev.some_ _
  ·obtain ⟨r, hr, hg⟩ := Unpack_got b hb' (by omega) w n (by omega) hn
   have step : ∀ q, Ev (fun k => if r.2 = 0 then ((bits_Width.f k r.1).bind fun t484 => (if t484 = (w : Int) then ((slices_Contains_uint64_uint64.f k r.1 0).bind fun t486 => (if t486 = true then (some (r.1, r.2)) else (some (([] : List Int), 5)))) else (some (([] : List Int), 5)))) else (some (r.1, r.2))) q → Ev (fun k => packed_distances.f k (((w : Nat) : Int) :: b) (n : Int)) q := by
    intro q hq
    unfold packed_distances.f
    simp only [List.length_cons, if_neg c1, if_pos c2, rd_cons_zero, if_neg h64, if_pos c3, List.drop_succ_cons, List.drop_zero, hw]
    exact Ev.bind hr hq
   rcases hg with ⟨e, he, rfl⟩ | ⟨us, hlen, hlt, hbe, rfl⟩
   ·refine ⟨([], e), step _ ?_, .inl ⟨e, he, rfl⟩⟩
    simp only [if_neg he]
    exact Ev.some_ _
   ·simp only [if_pos] at step
    have hu64 : ∀ u ∈ us, u < 2 ^ 64 := fun u hu => Nat.lt_of_lt_of_le (hlt u hu) (Nat.pow_le_pow_right (by decide) (by omega))
    have hW := Width us hu64 (by omega)
    by_cases hww : widthS us = w
    ·have hC := Contains (ints us) 0 (by rw [ints_len]; omega)
     by_cases h0 : (0 : Int) ∈ ints us
     ·have h0' : 0 ∈ us := by
       obtain ⟨u, hu, e⟩ := List.mem_map.1 h0
       have : u = 0 := by simpa using e
       rwa [this] at hu
      refine ⟨(ints us, 0), step _ (Ev.bind hW ?_), .inr ⟨us, rfl, hlen, ?_, by omega, h0', ?_⟩⟩
      ·simp only [if_pos (show (widthS us : Int) = (w : Int) by omega)]
       refine Ev.bind hC ?_
       simp only [decide_eq_true h0, if_pos]
       exact Ev.some_ _
      ·rw [hww]; exact hlt
      ·rw [hww, hbe]
     ·refine ⟨([], 5), step _ (Ev.bind hW ?_), .inl ⟨5, by decide, rfl⟩⟩
      simp only [if_pos (show (widthS us : Int) = (w : Int) by omega)]
      refine Ev.bind hC ?_
      simp only [decide_eq_false h0, if_neg Bool.false_ne_true]
      exact Ev.some_ _
    ·refine ⟨([], 5), step _ (Ev.bind hW ?_), .inl ⟨5, by decide, rfl⟩⟩
     simp only [if_neg (show ¬ (widthS us : Int) = (w : Int) by omega)]
     exact Ev.some_ _
theorem room {m : Int} (hm : I64 m) : IntKind.u64.wrap (9223372036854775807 - IntKind.u64.wrap m) = 9223372036854775807 - m := by
 obtain ⟨h1, h2⟩ := hm
 rw [u64_wrap, u64_wrap]
 omega
theorem back_one {m : Int} (hm : I64 m) (u : Nat) (h : (u : Int) ≤ 9223372036854775807 - m) : wrap64 (IntKind.u64.wrap (IntKind.u64.wrap m + (u : Int))) = m + (u : Int) := by
 obtain ⟨h1, h2⟩ := hm
 rw [u64_wrap, u64_wrap]
 unfold wrap64
 omega
def backS (m : Int) (us : List Nat) : List Int := us.map fun (u : Nat) => m + (u : Int)
theorem packDec_l0 (m : Int) (hm : I64 m) (us : List Nat) (hl : us.length ≤ 4096) : ∀ (d i : Nat), d + i = us.length → (∀ v ∈ backS m (us.take i), I64 v) →
 ∃ r, Ev (fun k => packed_Decode.l0 k m (backS m (us.take i) ++ List.replicate d 0) (ints us) (us.length : Int) (i : Int)) r ∧ (r = ([], 5) ∨ r = (backS m us, 0) ∧ ∀ v ∈ backS m us, I64 v) := by
 intro d
 induction d with
 | zero =>
  intro i hi hv
  rw [List.take_of_length_le (by omega)] at hv ⊢
  refine ⟨(backS m us, 0), Ev.succ ?_, .inr ⟨rfl, hv⟩⟩
  simp only [packed_Decode.l0, if_neg (show ¬ (i : Int) < (us.length : Int) by omega), List.replicate_zero, List.append_nil]
  exact Ev.some_ _
 | succ d ih =>
  intro i hi hv
  have hlt : i < us.length := by omega
  have c1 : (i : Int) < (us.length : Int) := by omega
  have c2 : (0 : Int) ≤ (i : Int) := by omega
  have hbl : (backS m (us.take i)).length = i := by simp [backS]; omega
  by_cases hbig : ((us.getD i 0 : Nat) : Int) > 9223372036854775807 - m
  ·refine ⟨([], 5), Ev.succ ?_, .inl rfl⟩
   simp only [packed_Decode.l0, if_pos c1, if_pos c2, ints_len, ints_rd, room hm, if_pos hbig]
   exact Ev.some_ _
  ·have c3 : (i : Int) < (((backS m (us.take i) ++ List.replicate (d + 1) 0).length : Nat) : Int) := by rw [List.length_append, hbl, List.length_replicate]; omega
   have hw := w64i i (by omega)
   have hone := back_one hm (us.getD i 0) (by omega)
   have hset : (backS m (us.take i) ++ List.replicate (d + 1) 0).set i (m + ((us.getD i 0 : Nat) : Int)) = backS m (us.take (i + 1)) ++ List.replicate d 0 := by
    rw [List.set_append_right _ _ (by omega), hbl, Nat.sub_self, List.replicate_succ, List.set_cons_zero, take_succ_getD us i hlt]
    simp [backS, List.map_append]
   obtain ⟨r, hr, hg⟩ := ih (i + 1) (by omega) (by
    intro v hv'
    rw [take_succ_getD us i hlt] at hv'
    simp only [backS, List.map_append, List.mem_append, List.map_cons, List.map_nil, List.mem_singleton] at hv'
    rcases hv' with hv' | rfl
    ·exact hv v hv'
    ·obtain ⟨h1, h2⟩ := hm
     exact ⟨by omega, by omega⟩)
   refine ⟨r, Ev.succ ?_, hg⟩
   simp only [packed_Decode.l0, if_pos c1, if_pos c2, ints_len, ints_rd, room hm, if_neg hbig, if_pos c3, hone, hw, Int.toNat_natCast, hset]
   exact hr
theorem packS_back {m : Int} (us : List Nat) (h0 : 0 ∈ us) : leastS (backS m us) = m ∧ farS m (backS m us) = us := by
 refine ⟨leastS_eq ?_ ?_, ?_⟩
 ·exact List.mem_map.2 ⟨0, h0, by simp⟩
 ·intro y hy
  obtain ⟨u, _, rfl⟩ := List.mem_map.1 hy
  omega
 ·unfold farS backS
  rw [List.map_map]
  have : ((fun v : Int => (v - m).toNat) ∘ fun u : Nat => m + (u : Int)) = id := by
   funext u
   simp only [Function.comp_apply, id_eq]
   omega
  rw [this, List.map_id]
theorem packDecode (l : List Int) (hb : Bytes l) (hl : l.length ≤ 140737488355328) :
 ∃ r, Ev (fun k => packed_Decode.f k l) r ∧ Told r fun vs => vs.length ≤ 4096 ∧ (∀ v ∈ vs, I64 v) ∧ l = packS vs := by
 obtain ⟨r1, hr1, hg1⟩ := Get l hb hl 0 (by omega)
 rcases hg1 with ⟨e, he, rfl⟩ | ⟨n, s, hn, hdn, rfl⟩
 ·refine ⟨([], e), Ev.bind hr1 ?_, .inl ⟨e, he, rfl⟩⟩
  simp only [if_neg he]
  exact Ev.some_ _
 ·have hle := drop_le hdn (putS_pos n)
  have hds := drop_put hdn
  simp only [Nat.zero_add] at hle hds
  by_cases hm : (n : Int) > 4096
  ·refine ⟨([], 4), Ev.bind hr1 ?_, .inl ⟨4, by decide, rfl⟩⟩
   simp only [if_pos hm, if_true]
   exact Ev.some_ _
  by_cases h0 : n = 0
  ·subst h0
   by_cases hlt : (putS 0).length < l.length
   ·refine ⟨([], 3), Ev.bind hr1 ?_, .inl ⟨3, by decide, rfl⟩⟩
    simp only [if_true, if_neg hm, if_pos (show ((0 : Nat) : Int) = 0 from rfl), decide_eq_true (show ((0 + (putS 0).length : Nat) : Int) < (l.length : Int) by omega)]
    refine Ev.succ ?_
    simp only [packed_Decode.j0, if_true]
    exact Ev.some_ _
   ·refine ⟨([], 0), Ev.bind hr1 ?_, .inr ⟨[], rfl, by simp, by simp, ?_⟩⟩
    ·simp only [if_true, if_neg hm, if_pos (show ((0 : Nat) : Int) = 0 from rfl), decide_eq_false (show ¬ ((0 + (putS 0).length : Nat) : Int) < (l.length : Int) by omega)]
     refine Ev.succ ?_
     simp only [packed_Decode.j0, if_neg Bool.false_ne_true, if_pos (show ((0 : Nat) : Int) = 0 from rfl)]
     exact Ev.some_ _
    ·simp only [List.drop_zero] at hdn
     rw [List.drop_of_length_le (by omega)] at hds
     rw [hdn, ← hds, packS, if_pos rfl, List.append_nil]
  ·have hnz : ¬ (n : Int) = 0 := by omega
   obtain ⟨r2, hr2, hg2⟩ := Get l hb hl (putS n).length hle
   have step : ∀ q, Ev (fun k => if r2.2.2 = 0 then (if 0 ≤ r2.2.1 then (if r2.2.1 ≤ (l.length : Int) then ((packed_distances.f k (l.drop (r2.2.1 : Int).toNat) (n : Int)).bind fun bt494 => (if bt494.2 = 0 then ((bits_Unfold.f r2.1).bind fun t498 => (if 0 ≤ (n : Int) then (if n ≤ 35184372088832 then (packed_Decode.l0 k t498 (List.replicate n 0) bt494.1 (bt494.1.length : Int) 0) else (none)) else (none))) else (some (([] : List Int), bt494.2)))) else (none)) else (none)) else (some (([] : List Int), r2.2.2))) q → Ev (fun k => packed_Decode.f k l) q := by
    intro q hq
    have hwn := w64n n (by omega)
    refine Ev.bind hr1 ?_
    simp only [if_true, if_neg hm, if_neg hnz]
    refine Ev.succ ?_
    simp only [packed_Decode.j0, if_neg Bool.false_ne_true, if_neg hnz, Nat.zero_add, hwn, Int.toNat_natCast]
    exact Ev.bind hr2 hq
   rcases hg2 with ⟨e, he, rfl⟩ | ⟨u, s2, hu, hdu, rfl⟩
   ·refine ⟨([], e), step _ ?_, .inl ⟨e, he, rfl⟩⟩
    simp only [if_neg he]
    exact Ev.some_ _
   ·have hle2 := drop_le hdu (putS_pos u)
    have hds2 := drop_put hdu
    obtain ⟨r3, hr3, hg3⟩ := distances (l.drop ((putS n).length + (putS u).length)) (hb.drop _) (by rw [List.length_drop]; omega) n (by omega)
    simp only [if_true, Int.toNat_natCast, if_pos (show (0 : Int) ≤ (((putS n).length + (putS u).length : Nat) : Int) by omega), if_pos (show (((putS n).length + (putS u).length : Nat) : Int) ≤ (l.length : Int) by omega), if_pos (show (0 : Int) ≤ (n : Int) by omega), if_pos (show n ≤ 35184372088832 by omega), Unfold hu, Option.bind_some] at step
    rcases hg3 with ⟨e, he, rfl⟩ | ⟨us, rfl, hlen, hlt, hw64, hz, hbe⟩
    ·refine ⟨([], e), step _ (Ev.bind hr3 ?_), .inl ⟨e, he, rfl⟩⟩
     simp only [if_neg he]
     exact Ev.some_ _
    ·obtain ⟨r, hr, hg⟩ := packDec_l0 (unfoldS u) (unfoldS_in hu) us (by omega) us.length 0 rfl (by simp [backS])
     refine ⟨r, step _ (Ev.bind hr3 ?_), ?_⟩
     ·simp only [if_true, ints_len, ← hlen]
      simpa [backS] using hr
     ·rcases hg with rfl | ⟨rfl, hv⟩
      ·exact .inl ⟨5, by decide, rfl⟩
      ·refine .inr ⟨_, rfl, by simp [backS]; omega, hv, ?_⟩
       obtain ⟨h1, h2⟩ := packS_back (m := unfoldS u) us hz
       have hne : backS (unfoldS u) us ≠ [] := by
        intro e
        have : (backS (unfoldS u) us).length = 0 := by rw [e]; rfl
        simp [backS] at this
        rw [this] at hz
        simp at hz
       have hbl : (backS (unfoldS u) us).length = n := by simp [backS, hlen]
       unfold packS
       rw [if_neg hne, h1, h2, hbl, fold_unfold]
       simp only [List.drop_zero] at hdn
       rw [hdn, ← hds, hdu, ← hds2, hbe]
def sharedS : List Int → List Int → Nat
 | x :: a, y :: b => if x = y then sharedS a b + 1 else 0
 | _, _ => 0
theorem sharedS_le : ∀ a b : List Int, sharedS a b ≤ a.length ∧ sharedS a b ≤ b.length := by
 intro a
 induction a with
 | nil => intro b; cases b <;> simp [sharedS]
 | cons x a ih =>
  intro b
  cases b with
  | nil => simp [sharedS]
  | cons y b =>
   have := ih b
   simp only [sharedS]
   split <;> simp <;> omega
theorem sharedS_drop (a b : List Int) (i : Nat) (ha : i < a.length) (hb : i < b.length) : sharedS (a.drop i) (b.drop i) = if rd a (i : Int) = rd b (i : Int) then sharedS (a.drop (i + 1)) (b.drop (i + 1)) + 1 else 0 := by
 rw [List.drop_eq_getElem_cons ha, List.drop_eq_getElem_cons hb, rd_nat, rd_nat, List.getD_eq_getElem?_getD, List.getD_eq_getElem?_getD, List.getElem?_eq_getElem ha, List.getElem?_eq_getElem hb]
 rfl
theorem sharedS_nil_left (b : List Int) : sharedS [] b = 0 := by cases b <;> rfl
theorem sharedS_nil_right (a : List Int) : sharedS a [] = 0 := by cases a <;> rfl
theorem shared_l0 (a b : List Int) (ha : a.length ≤ 140737488355328) (hb : b.length ≤ 140737488355328) : ∀ (d i : Nat), d + i = min a.length b.length → sharedS a b = i + sharedS (a.drop i) (b.drop i) →
 Ev (fun k => prefix_shared.l0 k a b (i : Int)) (sharedS a b : Int) := by
 intro d
 induction d with
 | zero =>
  intro i hi h
  refine Ev.succ ?_
  simp only [prefix_shared.l0, mn_nat, if_neg (show ¬ (i : Int) < ((min a.length b.length : Nat) : Int) by omega)]
  have h0 : sharedS (a.drop i) (b.drop i) = 0 := by
   rcases Nat.le_total a.length b.length with hl | hl
   ·rw [List.drop_of_length_le (l := a) (by omega)]; exact sharedS_nil_left _
   ·rw [List.drop_of_length_le (l := b) (by omega)]; exact sharedS_nil_right _
  rw [h, h0, Nat.add_zero]
  exact Ev.some_ _
 | succ d ih =>
  intro i hi h
  have c1 : (i : Int) < ((min a.length b.length : Nat) : Int) := by omega
  have c2 : (i : Int) < (a.length : Int) := by omega
  have c3 : (i : Int) < (b.length : Int) := by omega
  have hdrop := sharedS_drop a b i (by omega) (by omega)
  refine Ev.succ ?_
  simp only [prefix_shared.l0, mn_nat, if_pos c1, if_pos (show (0 : Int) ≤ (i : Int) by omega), if_pos c2, if_pos c3, w64i i (by omega)]
  by_cases hx : rd a (i : Int) = rd b (i : Int)
  ·simp only [if_pos hx]
   rw [if_pos hx] at hdrop
   exact ih (i + 1) (by omega) (by omega)
  ·simp only [if_neg hx]
   rw [if_neg hx] at hdrop
   rw [h, hdrop, Nat.add_zero]
   exact Ev.some_ _
theorem shared (a b : List Int) (ha : a.length ≤ 140737488355328) (hb : b.length ≤ 140737488355328) : Ev (fun k => prefix_shared.f k a b) (sharedS a b : Int) :=
 shared_l0 a b ha hb (min a.length b.length) 0 rfl (by simp)
def sameS (i : Nat) (last s : List Int) : Nat := if i % 16 = 0 then 0 else sharedS last s
def prefOne (i : Nat) (last s : List Int) : List Int := putS (sameS i last s) ++ (putS (s.length - sameS i last s) ++ s.drop (sameS i last s))
def prefB : Nat → List Int → List (List Int) → List Int
 | _, _, [] => []
 | i, last, s :: ss => prefOne i last s ++ prefB (i + 1) s ss
def prefS (ss : List (List Int)) : List Int := putS ss.length ++ prefB 0 [] ss
theorem prefB_snoc : ∀ (ss : List (List Int)) (i : Nat) (last s : List Int), prefB i last (ss ++ [s]) = prefB i last ss ++ prefOne (i + ss.length) (ss.getLastD last) s := by
 intro ss
 induction ss with
 | nil => intro i last s; simp [prefB]
 | cons t ss ih =>
  intro i last s
  simp only [List.cons_append, prefB, ih, List.length_cons, List.append_assoc, List.getLastD_cons]
  rw [show i + (ss.length + 1) = i + 1 + ss.length by omega]
theorem sameS_le (i : Nat) (last s : List Int) : sameS i last s ≤ s.length := by
 unfold sameS
 split
 ·omega
 ·exact (sharedS_le last s).2
theorem prefOne_len (i : Nat) (last s : List Int) (h : s.length ≤ 200) : (prefOne i last s).length ≤ 220 := by
 have h1 := sameS_le i last s
 have h2 := putS_len10 (n := sameS i last s) (by omega)
 have h3 := putS_len10 (n := s.length - sameS i last s) (by omega)
 simp only [prefOne, List.length_append, List.length_drop]
 omega
theorem prefB_len : ∀ (ss : List (List Int)) (i : Nat) (last : List Int), (∀ s ∈ ss, s.length ≤ 200) → (prefB i last ss).length ≤ 220 * ss.length := by
 intro ss
 induction ss with
 | nil => intro i last _; simp [prefB]
 | cons s ss ih =>
  intro i last h
  have h1 := ih (i + 1) s (fun t ht => h t (by simp [ht]))
  have h2 := prefOne_len i last s (h s (by simp))
  simp only [prefB, List.length_append, List.length_cons]
  omega
theorem PutList2 (x y : Nat) (hx : x < 18446744073709551616) (hy : y < 18446744073709551616) : Ev (fun k => vint_PutList.f k [(x : Int), (y : Int)]) (2 :: (putS x ++ putS y)) := by
 have h1 := putS_len10 hx
 have h2 := putS_len10 hy
 unfold vint_PutList.f
 have hu := u64n 2 (by omega)
 simp only [List.length_cons, List.length_nil]
 have e2 : IntKind.u64.wrap ((0 + 1 + 1 : Nat) : Int) = ((2 : Nat) : Int) := hu
 simp only [e2]
 refine Ev.bind (Put 2 (by omega)) ?_
 rw [putS_small (n := 2) (by omega)]
 have r0 : rd [(x : Int), (y : Int)] 0 = (x : Int) := by simp [rd]
 have r1 : rd [(x : Int), (y : Int)] 1 = (y : Int) := by simp [rd]
 have w0 : wrap64 ((0 : Int) + 1) = 1 := w64i 0 (by omega)
 have w1 : wrap64 ((1 : Int) + 1) = 2 := w64i 1 (by omega)
 have c0 : ([((2 : Nat) : Int)] : List Int).length + (putS x).length < 140737488355328 := by simp; omega
 have c1 : ([((2 : Nat) : Int)] ++ putS x : List Int).length + (putS y).length < 140737488355328 := by simp; omega
 refine Ev.succ ?_
 simp only [vint_PutList.l0, List.length_cons, List.length_nil, if_pos (show (0 : Int) < ((0 + 1 + 1 : Nat) : Int) by omega), if_pos (show (0 : Int) ≤ 0 from Int.le_refl 0), r0, w0]
 refine Ev.bind (Put x hx) ?_
 simp only [if_pos (show 0 + 1 + (putS x).length < 140737488355328 by omega)]
 refine Ev.succ ?_
 simp only [vint_PutList.l0, List.length_cons, List.length_nil, if_pos (show (1 : Int) < ((0 + 1 + 1 : Nat) : Int) by omega), if_pos (show (0 : Int) ≤ 1 by omega), r1, w1]
 refine Ev.bind (Put y hy) ?_
 simp only [if_pos c1]
 refine Ev.succ ?_
 simp only [vint_PutList.l0, if_neg (show ¬ (2 : Int) < ((0 + 1 + 1 : Nat) : Int) by omega)]
 exact Ev.of_eq (by simp)
theorem getLastD_take (ss : List (List Int)) (i : Nat) (h : i < ss.length) : (ss.take (i + 1)).getLastD [] = rd_L1 ss (i : Int) := by
 rw [take_succ_L1 ss i h]
 simp
theorem prefEnc_l0 (ss : List (List Int)) (hs : ∀ s ∈ ss, s.length ≤ 200) (hl : ss.length ≤ 4096) (pre : List Int) (hpre : pre.length ≤ 10) : ∀ (d i : Nat), d + i = ss.length →
 Ev (fun k => prefix_Encode.l0 k ss (pre ++ prefB 0 [] (ss.take i)) ss (ss.length : Int) (i : Int)) (pre ++ prefB 0 [] ss, 0) := by
 intro d
 induction d with
 | zero =>
  intro i hi
  refine Ev.succ ?_
  simp only [prefix_Encode.l0, if_neg (show ¬ (i : Int) < (ss.length : Int) by omega)]
  rw [List.take_of_length_le (by omega)]
  exact Ev.some_ _
 | succ d ih =>
  intro i hi
  have hlt : i < ss.length := by omega
  have hmem : rd_L1 ss (i : Int) ∈ ss := by rw [rdL1_nat, List.getD_eq_getElem?_getD, List.getElem?_eq_getElem hlt]; exact List.getElem_mem hlt
  have hs1 := hs _ hmem
  have hL := prefB_len (ss.take i) 0 [] (fun s h => hs s (List.mem_of_mem_take h))
  have htl : (ss.take i).length = i := by rw [List.length_take]; omega
  rw [htl] at hL
  have hih := ih (i + 1) (by omega)
  rw [take_succ_L1 ss i hlt, prefB_snoc, htl, Nat.zero_add] at hih
  have c1 : (i : Int) < (ss.length : Int) := by omega
  have c2 : (0 : Int) ≤ (i : Int) := by omega
  have c3 : ¬ ((rd_L1 ss (i : Int)).length : Int) > 200 := by omega
  have htm : Int.tmod (i : Int) 16 = ((i % 16 : Nat) : Int) := by rw [Int.tmod_eq_emod_of_nonneg (by omega)]; omega
  have hw := w64i i (by omega)
  refine Ev.succ ?_
  have main : ∀ same : Nat, same = sameS i ((ss.take i).getLastD []) (rd_L1 ss (i : Int)) → Ev (fun k => (vint_PutList.f k (([(same : Int), (((rd_L1 ss (i : Int)).length - same : Nat) : Int)] : List Int))).bind fun t292 => (if 1 ≤ (t292.length : Int) then ((some (t292.drop 1 : List Int)).bind fun y295 => (if (pre ++ prefB 0 [] (ss.take i)).length + y295.length < 140737488355328 then ((some (pre ++ prefB 0 [] (ss.take i) ++ y295 : List Int)).bind fun y299 => (if 0 ≤ (same : Int) then (if (same : Int) ≤ ((rd_L1 ss (i : Int)).length : Int) then (if y299.length + ((rd_L1 ss (i : Int)).drop same).length < 140737488355328 then (prefix_Encode.l0 k ss (y299 ++ ((rd_L1 ss (i : Int)).drop same)) ss (ss.length : Int) ((i + 1 : Nat) : Int)) else (none)) else (none)) else (none))) else (none))) else (none))) (pre ++ prefB 0 [] ss, 0) := by
   intro same hsame
   have hsle : same ≤ (rd_L1 ss (i : Int)).length := by rw [hsame]; exact sameS_le _ _ _
   have p1 := putS_len10 (n := same) (by omega)
   have p2 := putS_len10 (n := (rd_L1 ss (i : Int)).length - same) (by omega)
   refine Ev.bind (PutList2 same ((rd_L1 ss (i : Int)).length - same) (by omega) (by omega)) ?_
   have d1 : (1 : Int) ≤ ((((2 : Int) :: (putS same ++ putS ((rd_L1 ss (i : Int)).length - same))).length : Nat) : Int) := by simp only [List.length_cons]; omega
   have d2 : (pre ++ prefB 0 [] (ss.take i)).length + (putS same ++ putS ((rd_L1 ss (i : Int)).length - same)).length < 140737488355328 := by simp only [List.length_append]; omega
   have d3 : (pre ++ prefB 0 [] (ss.take i) ++ (putS same ++ putS ((rd_L1 ss (i : Int)).length - same))).length + ((rd_L1 ss (i : Int)).drop same).length < 140737488355328 := by simp only [List.length_append, List.length_drop]; omega
   simp only [if_pos d1, List.drop_succ_cons, List.drop_zero, Option.bind_some, if_pos d2, if_pos (show (0 : Int) ≤ (same : Int) by omega), if_pos (show (same : Int) ≤ ((rd_L1 ss (i : Int)).length : Int) by omega), if_pos d3]
   unfold prefOne at hih
   rw [← hsame] at hih
   simpa [List.append_assoc] using hih
  by_cases h16 : i % 16 = 0
  ·have := main 0 (by unfold sameS; rw [if_pos h16])
   have e0 : wrap64 (((rd_L1 ss (i : Int)).length : Int) - 0) = (((rd_L1 ss (i : Int)).length - 0 : Nat) : Int) := w64s _ 0 (by omega) (by omega)
   have e1 := u64n ((rd_L1 ss (i : Int)).length - 0) (by omega)
   simp only [prefix_Encode.l0, if_pos c1, if_pos c2, if_neg c3, htm, if_neg (show ¬ ((i % 16 : Nat) : Int) > 0 by omega), e0, e1, hw]
   refine Ev.congr (fun k => ?_) this
   simp only [show ((0 : Nat) : Int) = 0 from rfl, if_pos (show (0 : Int) ≤ 0 from Int.le_refl 0)]
  ·have hprev : wrap64 ((i : Int) - 1) = ((i - 1 : Nat) : Int) := w64s i 1 (by omega) (by omega)
   have hlast : (ss.take i).getLastD [] = rd_L1 ss ((i - 1 : Nat) : Int) := by
    have := getLastD_take ss (i - 1) (by omega)
    rwa [show i - 1 + 1 = i by omega] at this
   have hmem2 : rd_L1 ss ((i - 1 : Nat) : Int) ∈ ss := by rw [rdL1_nat, List.getD_eq_getElem?_getD, List.getElem?_eq_getElem (show i - 1 < ss.length by omega)]; exact List.getElem_mem _
   have hs2 := hs _ hmem2
   have hsh := shared (rd_L1 ss ((i - 1 : Nat) : Int)) (rd_L1 ss (i : Int)) (by omega) (by omega)
   have hle := (sharedS_le (rd_L1 ss ((i - 1 : Nat) : Int)) (rd_L1 ss (i : Int))).2
   have := main (sharedS (rd_L1 ss ((i - 1 : Nat) : Int)) (rd_L1 ss (i : Int))) (by unfold sameS; rw [if_neg h16, hlast])
   have c4 : ((i % 16 : Nat) : Int) > 0 := by omega
   have c5 : (0 : Int) ≤ ((i - 1 : Nat) : Int) := by omega
   have c6 : ((i - 1 : Nat) : Int) < (ss.length : Int) := by omega
   have e0 := w64s (rd_L1 ss (i : Int)).length (sharedS (rd_L1 ss ((i - 1 : Nat) : Int)) (rd_L1 ss (i : Int))) hle (by omega)
   have e1 := u64n (sharedS (rd_L1 ss ((i - 1 : Nat) : Int)) (rd_L1 ss (i : Int))) (by omega)
   have e2 := u64n ((rd_L1 ss (i : Int)).length - sharedS (rd_L1 ss ((i - 1 : Nat) : Int)) (rd_L1 ss (i : Int))) (by omega)
   simp only [prefix_Encode.l0, if_pos c1, if_pos c2, if_neg c3, htm, if_pos c4, hprev, if_pos c5, if_pos c6, hw]
   refine Ev.bind hsh ?_
   simp only [e0, e1, e2, Int.toNat_natCast]
   exact this
theorem prefEncode (ss : List (List Int)) (hs : ∀ s ∈ ss, s.length ≤ 200) (hl : ss.length ≤ 4096) : Ev (fun k => prefix_Encode.f k ss) (prefS ss, 0) := by
 unfold prefix_Encode.f
 have hu := u64n ss.length (by omega)
 simp only [if_neg (show ¬ (ss.length : Int) > 4096 by omega), hu]
 refine Ev.bind (Put _ (by omega)) ?_
 have := prefEnc_l0 ss hs hl (putS ss.length) (putS_len10 (by omega)) ss.length 0 rfl
 simpa [prefB, prefS] using this
theorem piece (l : List Int) (a n : Nat) : (l.take (a + n)).drop a = (l.drop a).take n := by rw [List.drop_take]; congr 1; omega
theorem piece_split (l : List Int) (a n : Nat) : l.drop a = (l.drop a).take n ++ l.drop (a + n) := by rw [← List.drop_drop, List.take_append_drop]
theorem room200 (same : Nat) (h : same ≤ 200) : IntKind.u64.wrap (200 - (same : Int)) = ((200 - same : Nat) : Int) := by rw [show (200 : Int) - (same : Int) = ((200 - same : Nat) : Int) by omega]; exact u64n _ (by omega)
theorem text_j0 (l : List Int) (hl : l.length ≤ 140737488355328) (a same more : Nat) (last : List Int) (whole : Bool) (ha : a ≤ l.length) (hsame : same ≤ last.length) (hlast : last.length ≤ 200) (hmore : more < 18446744073709551616) (hw : whole = true → same = 0) :
 ∃ r, Ev (fun k => prefix_text.j0 k l (a : Int) last whole (same : Int) (more : Int) false) r ∧ ((∃ e, e ≠ 0 ∧ r = ([], 0, e)) ∨ ∃ s, r = (s, ((a + more : Nat) : Int), 0) ∧ s = last.take same ++ (l.drop a).take more ∧ same + more ≤ 200 ∧ a + more ≤ l.length ∧ (whole = false → sharedS last s = same)) := by
 by_cases h1 : more > 200 - same
 ·have c1 : (more : Int) > ((200 - same : Nat) : Int) := by omega
  have e1 := room200 same (by omega)
  refine ⟨([], 0, 4), Ev.succ ?_, .inl ⟨4, by decide, rfl⟩⟩
  simp only [prefix_text.j0, if_neg Bool.false_ne_true, e1, if_pos c1]
  exact Ev.some_ _
 ·by_cases h2 : more > l.length - a
  ·have c1 : ¬ (more : Int) > ((200 - same : Nat) : Int) := by omega
   have c2 : (more : Int) > ((l.length - a : Nat) : Int) := by omega
   have h3 : same ≤ 200 := by omega
   have h4 : more < 9223372036854775808 := by omega
   have h5 : l.length < 9223372036854775808 := by omega
   refine ⟨([], 0, 2), Ev.succ ?_, .inl ⟨2, by decide, rfl⟩⟩
   simp only [prefix_text.j0, if_neg Bool.false_ne_true, room200 same h3, if_neg c1, w64n more h4, w64s l.length a ha h5, if_pos c2]
   exact Ev.some_ _
  ·obtain ⟨s, hs⟩ : ∃ s, s = last.take same ++ (l.drop a).take more := ⟨_, rfl⟩
   have hsl : s.length = same + more := by rw [hs, List.length_append, List.length_take, List.length_take, List.length_drop]; omega
   have hcl : bytes_Clone.f (last.take same) = some (last.take same) := by unfold bytes_Clone.f; rw [if_pos (by rw [List.length_take]; omega)]
   have c1 : ¬ (more : Int) > ((200 - same : Nat) : Int) := by omega
   have c2 : ¬ (more : Int) > ((l.length - a : Nat) : Int) := by omega
   have c3 : (0 : Int) ≤ (same : Int) := by omega
   have c4 : (same : Int) ≤ (last.length : Int) := by omega
   have c5 : (0 : Int) ≤ (a : Int) := by omega
   have c6 : (a : Int) ≤ ((a + more : Nat) : Int) := by omega
   have c7 : ((a + more : Nat) : Int) ≤ (l.length : Int) := by omega
   have c8 : (last.take same).length + ((l.drop a).take more).length < 140737488355328 := by rw [List.length_take, List.length_take]; omega
   have c9 : (0 : Int) ≤ (s.length : Int) := by omega
   have h3 : same ≤ 200 := by omega
   have h4 : more < 9223372036854775808 := by omega
   have h5 : l.length < 9223372036854775808 := by omega
   have h6 : a + more < 9223372036854775808 := by omega
   have h7 : same < 9223372036854775808 := by omega
   have e1 := room200 same h3
   have e2 := w64n more h4
   have e3 := w64s l.length a ha h5
   have e4 := w64a a more h6
   have e5 := w64n same h7
   have step : ∀ r, Ev (fun k => if whole = true then (some (s, ((a + more : Nat) : Int), 0)) else ((prefix_shared.f k last s).bind fun t580 => (if t580 = (same : Int) then (some (s, ((a + more : Nat) : Int), 0)) else (some (([] : List Int), 0, 5))))) r → Ev (fun k => prefix_text.j0 k l (a : Int) last whole (same : Int) (more : Int) false) r := by
    intro r hr
    refine Ev.succ ?_
    simp only [prefix_text.j0, if_neg Bool.false_ne_true, e1, if_neg c1, e2, e3, if_neg c2, if_pos c3, if_pos c4, Int.toNat_natCast, hcl, Option.bind_some, if_pos c5, e4, if_pos c6, if_pos c7, piece, if_pos c8, ← hs, if_pos c9, if_pos (Int.le_refl (s.length : Int)), e5, List.take_length]
    exact hr
   clear e1 e2 e3 e4 e5
   cases whole with
   | true =>
    refine ⟨(s, ((a + more : Nat) : Int), 0), step _ ?_, .inr ⟨s, rfl, hs, by omega, by omega, by simp⟩⟩
    simp only [if_true]
    exact Ev.some_ _
   | false =>
    have hsh := shared last s (by omega) (by omega)
    simp only [if_neg Bool.false_ne_true] at step
    by_cases hsm : sharedS last s = same
    ·refine ⟨(s, ((a + more : Nat) : Int), 0), step _ (Ev.bind hsh ?_), .inr ⟨s, rfl, hs, by omega, by omega, fun _ => hsm⟩⟩
     simp only [if_pos (show (sharedS last s : Int) = (same : Int) by omega)]
     exact Ev.some_ _
    ·refine ⟨([], 0, 5), step _ (Ev.bind hsh ?_), .inl ⟨5, by decide, rfl⟩⟩
     simp only [if_neg (show ¬ (sharedS last s : Int) = (same : Int) by omega)]
     exact Ev.some_ _
theorem text (l : List Int) (hb : Bytes l) (hl : l.length ≤ 140737488355328) (a : Nat) (ha : a ≤ l.length) (last : List Int) (hlast : last.length ≤ 200) (hlb : Bytes last) (i : Nat) :
 ∃ r, Ev (fun k => prefix_text.f k l (a : Int) last (decide (i % 16 = 0))) r ∧ ((∃ e, e ≠ 0 ∧ r = ([], 0, e)) ∨ ∃ (s : List Int) (a' : Nat), r = (s, (a' : Int), 0) ∧ a' ≤ l.length ∧ s.length ≤ 200 ∧ Bytes s ∧ l.drop a = prefOne i last s ++ l.drop a') := by
 obtain ⟨r1, hr1, hg1⟩ := Get l hb hl a ha
 rcases hg1 with ⟨e, he, rfl⟩ | ⟨same, s1, hsame, hd1, rfl⟩
 ·refine ⟨([], 0, e), Ev.bind hr1 ?_, .inl ⟨e, he, rfl⟩⟩
  simp only [if_neg he]
  exact Ev.some_ _
 ·have hle1 := drop_le hd1 (putS_pos same)
  have hds1 := drop_put hd1
  obtain ⟨r2, hr2, hg2⟩ := Get l hb hl (a + (putS same).length) hle1
  have hlu := u64n last.length (by omega)
  have step : ∀ q, Ev (fun k => if r2.2.2 = 0 then (if (same : Int) > (last.length : Int) then (prefix_text.j0 k l r2.2.1 last (decide (i % 16 = 0)) (same : Int) r2.1 true) else (if decide (i % 16 = 0) = true then (prefix_text.j0 k l r2.2.1 last (decide (i % 16 = 0)) (same : Int) r2.1 (decide ((same : Int) > 0))) else (prefix_text.j0 k l r2.2.1 last (decide (i % 16 = 0)) (same : Int) r2.1 false))) else (some (([] : List Int), 0, r2.2.2))) q → Ev (fun k => prefix_text.f k l (a : Int) last (decide (i % 16 = 0))) q := by
   intro q hq
   refine Ev.bind hr1 ?_
   simp only [if_true, hlu]
   exact Ev.bind hr2 hq
  rcases hg2 with ⟨e, he, rfl⟩ | ⟨more, s2, hmore, hd2, rfl⟩
  ·refine ⟨([], 0, e), step _ ?_, .inl ⟨e, he, rfl⟩⟩
   simp only [if_neg he]
   exact Ev.some_ _
  ·simp only [if_true] at step
   have hle2 := drop_le hd2 (putS_pos more)
   have hds2 := drop_put hd2
   have bad : Ev (fun k => prefix_text.j0 k l ((a + (putS same).length + (putS more).length : Nat) : Int) last (decide (i % 16 = 0)) (same : Int) (more : Int) true) ([], 0, 5) := by
    refine Ev.succ ?_
    simp only [prefix_text.j0, if_true]
    exact Ev.some_ _
   by_cases hbig : (same : Int) > (last.length : Int)
   ·refine ⟨([], 0, 5), step _ ?_, .inl ⟨5, by decide, rfl⟩⟩
    simp only [if_pos hbig]
    exact bad
   ·simp only [if_neg hbig] at step
    by_cases hbad : i % 16 = 0 ∧ same > 0
    ·refine ⟨([], 0, 5), step _ ?_, .inl ⟨5, by decide, rfl⟩⟩
     simp only [decide_eq_true hbad.1, if_true, decide_eq_true (show (same : Int) > 0 by omega)]
     have := bad
     rwa [decide_eq_true hbad.1] at this
    ·obtain ⟨r, hr, hg⟩ := text_j0 l hl (a + (putS same).length + (putS more).length) same more last (decide (i % 16 = 0)) hle2 (by omega) hlast hmore (by
      intro h
      have := of_decide_eq_true h
      omega)
     refine ⟨r, step _ ?_, ?_⟩
     ·by_cases h16 : i % 16 = 0
      ·simp only [decide_eq_true h16, if_true, decide_eq_false (show ¬ (same : Int) > 0 by omega)]
       rwa [decide_eq_true h16] at hr
      ·simp only [decide_eq_false h16, if_neg Bool.false_ne_true]
       rwa [decide_eq_false h16] at hr
     ·rcases hg with hg | ⟨s, rfl, hs, h200, hle3, hsh⟩
      ·exact .inl hg
      ·have htl : (last.take same).length = same := by rw [List.length_take]; omega
       have hpl : ((l.drop (a + (putS same).length + (putS more).length)).take more).length = more := by rw [List.length_take, List.length_drop]; omega
       have hsl : s.length = same + more := by rw [hs, List.length_append, htl, hpl]
       have hsm : sameS i last s = same := by
        unfold sameS
        by_cases h16 : i % 16 = 0
        ·rw [if_pos h16]; omega
        ·rw [if_neg h16]; exact hsh (decide_eq_false h16)
       refine .inr ⟨s, _, rfl, hle3, by omega, ?_, ?_⟩
       ·rw [hs]; exact (hlb.take _).append ((hb.drop _).take _)
       ·unfold prefOne
        rw [hsm, hsl, show same + more - same = more by omega, hd1, ← hds1, hd2, ← hds2]
        rw [show s.drop same = (l.drop (a + (putS same).length + (putS more).length)).take more by rw [hs, List.drop_append_of_le_length (by omega), List.drop_of_length_le (by omega), List.nil_append]]
        rw [List.append_assoc, List.append_assoc, ← piece_split]
theorem prefDec_l0 (l : List Int) (hb : Bytes l) (hl : l.length ≤ 140737488355328) (n a0 : Nat) (hn : n ≤ 4096) : ∀ (d i a : Nat) (out : List (List Int)), d + i = n → a ≤ l.length → out.length = i → (∀ s ∈ out, s.length ≤ 200 ∧ Bytes s) → l.drop a0 = prefB 0 [] out ++ l.drop a →
 ∃ r, Ev (fun k => prefix_Decode.l0 k l (a : Int) out (out.getLastD []) (n : Int) (i : Int)) r ∧ Told r fun ss => ss.length = n ∧ (∀ s ∈ ss, s.length ≤ 200 ∧ Bytes s) ∧ l.drop a0 = prefB 0 [] ss := by
 intro d
 induction d with
 | zero =>
  intro i a out hi ha hol ho hd
  by_cases hlt : a < l.length
  ·refine ⟨([], 3), Ev.succ ?_, .inl ⟨3, by decide, rfl⟩⟩
   simp only [prefix_Decode.l0, if_neg (show ¬ (i : Int) < (n : Int) by omega), if_pos (show (a : Int) < (l.length : Int) by omega)]
   exact Ev.some_ _
  ·refine ⟨(out, 0), Ev.succ ?_, .inr ⟨out, rfl, by omega, ho, by rw [hd, List.drop_of_length_le (l := l) (i := a) (by omega), List.append_nil]⟩⟩
   simp only [prefix_Decode.l0, if_neg (show ¬ (i : Int) < (n : Int) by omega), if_neg (show ¬ (a : Int) < (l.length : Int) by omega)]
   exact Ev.some_ _
 | succ d ih =>
  intro i a out hi ha hol ho hd
  have hlast : (out.getLastD []).length ≤ 200 ∧ Bytes (out.getLastD []) := by
   rcases snoc_cases out with rfl | ⟨o, s, rfl⟩
   ·exact ⟨by simp, Bytes.nil⟩
   ·rw [List.getLastD_concat]; exact ho s (by simp)
  obtain ⟨r1, hr1, hg1⟩ := text l hb hl a ha (out.getLastD []) hlast.1 hlast.2 i
  have c1 : (i : Int) < (n : Int) := by omega
  have htm : (Int.tmod (i : Int) 16 == 0) = decide (i % 16 = 0) := by
   rw [Int.tmod_eq_emod_of_nonneg (by omega), show (i : Int) % 16 = ((i % 16 : Nat) : Int) by omega]
   by_cases h : i % 16 = 0
   ·simp [h]
   ·rw [decide_eq_false h]; simp; omega
  have c2 : out.length < 5864062014805 := by omega
  have hu : IntKind.u64.wrap ((i : Int) + 1) = ((i + 1 : Nat) : Int) := by rw [show (i : Int) + 1 = ((i + 1 : Nat) : Int) by omega]; exact u64n _ (by omega)
  rcases hg1 with ⟨e, he, rfl⟩ | ⟨s, a', rfl, ha', hsl, hsb, hda⟩
  ·refine ⟨([], e), Ev.succ ?_, .inl ⟨e, he, rfl⟩⟩
   simp only [prefix_Decode.l0, if_pos c1, htm]
   refine Ev.bind hr1 ?_
   simp only [if_neg he]
   exact Ev.some_ _
  ·obtain ⟨r, hr, ht⟩ := ih (i + 1) a' (out ++ [s]) (by omega) ha' (by rw [List.length_append]; simp [hol]) (fun t ht => by
    rcases List.mem_append.1 ht with ht | ht
    ·exact ho t ht
    ·rw [List.mem_singleton.1 ht]; exact ⟨hsl, hsb⟩) (by rw [prefB_snoc, hd, hda, hol, Nat.zero_add, List.append_assoc])
   refine ⟨r, Ev.succ ?_, ht⟩
   simp only [prefix_Decode.l0, if_pos c1, htm]
   refine Ev.bind hr1 ?_
   simp only [if_true, if_pos c2, hu]
   rw [List.getLastD_concat] at hr
   exact hr
theorem prefDecode (l : List Int) (hb : Bytes l) (hl : l.length ≤ 140737488355328) :
 ∃ r, Ev (fun k => prefix_Decode.f k l) r ∧ Told r fun ss => ss.length ≤ 4096 ∧ (∀ s ∈ ss, s.length ≤ 200 ∧ Bytes s) ∧ l = prefS ss := by
 obtain ⟨r1, hr1, hg1⟩ := Get l hb hl 0 (by omega)
 rcases hg1 with ⟨e, he, rfl⟩ | ⟨n, s, hn, hdn, rfl⟩
 ·refine ⟨([], e), Ev.bind hr1 ?_, .inl ⟨e, he, rfl⟩⟩
  simp only [if_neg he]
  exact Ev.some_ _
 ·by_cases hm : (n : Int) > 4096
  ·refine ⟨([], 4), Ev.bind hr1 ?_, .inl ⟨4, by decide, rfl⟩⟩
   simp only [if_pos hm, if_true]
   exact Ev.some_ _
  ·have hle := drop_le hdn (putS_pos n)
   have hds := drop_put hdn
   obtain ⟨r, hr, ht⟩ := prefDec_l0 l hb hl n (0 + (putS n).length) (by omega) n 0 (0 + (putS n).length) [] (by omega) hle rfl (by simp) (by simp [prefB])
   refine ⟨r, Ev.bind hr1 ?_, ?_⟩
   ·simp only [if_neg hm, if_true]
    exact hr
   ·rcases ht with ht | ⟨vs, e, h1, h2, h3⟩
    ·exact .inl ht
    ·refine .inr ⟨vs, e, by omega, h2, ?_⟩
     rw [hds] at h3
     simp only [List.drop_zero] at hdn
     rw [hdn, h3, ← h1]
     rfl
end Go.Proofs.YtjbhaepkldgfnaaGreat.L
