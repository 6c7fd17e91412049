/- A part of the proof of BlockOnly (the last text says what is proved, and of what): contracts of Go functions, made by a program of this work over the kit's print, the print's words that they use, and plain laws. No condition. -/
import Derived.Test.YtjbhaepkldgfnaaGreatC2
namespace Go.Proofs.YtjbhaepkldgfnaaGreat.S
open Go.RowKit Go.Proofs.YtjbhaepkldgfnaaGreatW.PrintWords Go.Proofs.YtjbhaepkldgfnaaGreatW.PrintLast Go.Proofs.YtjbhaepkldgfnaaGreatW.PrintMore
attribute [local go_sem] max2_int min2_int max_two min_two max_three min_three max_four min_four
set_option linter.unusedVariables false
set_option linter.unusedSimpArgs false
mutual
def bits_Unpack.j0 : Nat → List Int → Int → Int → Bool → Option (List Int × Int)
 | 0, _, _, _, _ => none
 | k + 1, x0, x1, x2, x11 => if x11 = true then (some (([] : List Int), 1)) else ((bits_need.f x1 x2).bind fun t413 => (if (x0.length : Int) < t413 then (some (([] : List Int), 2)) else ((bits_need.f x1 x2).bind fun t414 => (if (x0.length : Int) > t414 then (some (([] : List Int), 3)) else (if (wrap64 ((wrap64 ((x0.length : Int) * 8)) - (wrap64 (x1 * x2)))) > 0 then (if 0 ≤ (wrap64 ((x0.length : Int) - 1)) then (if (wrap64 ((x0.length : Int) - 1)) < (x0.length : Int) then (if 0 ≤ (IntKind.u64.wrap (wrap64 (8 - (wrap64 ((wrap64 ((x0.length : Int) * 8)) - (wrap64 (x1 * x2))))))) then (bits_Unpack.j1 k x0 x1 x2 ((shr .u8 (rd x0 (wrap64 ((x0.length : Int) - 1))) (IntKind.u64.wrap (wrap64 (8 - (wrap64 ((wrap64 ((x0.length : Int) * 8)) - (wrap64 (x1 * x2)))))))) != 0)) else (none)) else (none)) else (none)) else (bits_Unpack.j1 k x0 x1 x2 false))))))
def bits_Unpack.j1 : Nat → List Int → Int → Int → Bool → Option (List Int × Int)
 | 0, _, _, _, _ => none
 | k + 1, x0, x1, x2, x57 => if x57 = true then (some (([] : List Int), 5)) else (if 0 ≤ x2 then (if (x2 : Int).toNat ≤ 35184372088832 then (bits_Unpack.l0 k x0 x1 (List.replicate (x2 : Int).toNat 0) x2 0) else (none)) else (none))
def bits_Unpack.l0 : Nat → List Int → Int → List Int → Int → Int → Option (List Int × Int)
 | 0, _, _, _, _, _ => none
 | k + 1, x0, x1, x9, x60, x61 => if x61 < x60 then ((bits_read.f k x0 (wrap64 (x61 * x1)) x1).bind fun t419 => (if 0 ≤ x61 then (if x61 < (x9.length : Int) then (bits_Unpack.l0 k x0 x1 (x9.set (x61 : Int).toNat t419) x60 (wrap64 (x61 + 1))) else (none)) else (none))) else (some (x9, 0))
end
def bits_Unpack.f (k : Nat) (l0 : List Int) (a1 : Int) (a2 : Int) : Option (List Int × Int) := (bits_badWidth.f a1).bind fun t412 => (if t412 = true then (bits_Unpack.j0 k l0 a1 a2 true) else (if a2 < 0 then (bits_Unpack.j0 k l0 a1 a2 true) else (bits_Unpack.j0 k l0 a1 a2 (decide (a2 > 4096)))))
set_option maxHeartbeats 8000000 in
set_option maxRecDepth 100000 in
theorem bits_Unpack.calls (k : Nat) (A0 : Option Addr) (c0 : Nat) (l0 : List Int) (a1 : Int) (a2 : Int) (r1 : List Int) (r2 : Int) (w : World) (hr0 : Kd.C (Kd.int .u8) w A0 l0.length l0) (hc0 : l0.length ≤ c0) (h : bits_Unpack.f k l0 a1 a2 = some (r1, r2)) :
 Calls Tryz.prog 82 #[.slice A0 l0.length c0, .int .i64 a1, .int .i64 a2] w fun e w' => ∃ v0_ : Value, e = .returned (.tuple #[v0_, .int .i64 r2]) ∧ Kd.R (Kd.int .u64) 69 w' w.heap.size (fun _ => True) v0_ r1 ∧ Below w.heap.size w w' := by
 have HR0 := Aside0.mk hr0
 have HC0 := Aside0.mk hc0
 clear hr0 hc0
 have HB := Aside0.mk (Below.refl w.heap.size w)
 unfold bits_Unpack.f at h
 have H := h
 clear h
 have HC4 := Aside0.mk H
 clear H
 go_enter Tryz.func82, Tryz.ntmps82
 go_upto_region 1 with (fail)
 go_cut [11] (fun v11 wc => ∃ (kq : Nat) (x11_3 : Bool), v11 = .bool x11_3 ∧ Aside0 (bits_Unpack.j0 kq l0 a1 a2 x11_3 = some (r1, r2)) ∧ Aside0 (kq ≤ k) ∧ Aside0 (Below w.heap.size w wc))
 case first =>
  have H := HC4.out
  clear HC4
  replace H := Option.bind_eq_some_iff.mp H
  obtain ⟨t412, A50, H⟩ := H
  (try dsimp only at H)
  have A5 := Aside0.mk A50
  clear A50
  by_cases c6 : t412 = true
  ·subst c6
   have H1 : (bits_Unpack.j0 k l0 a1 a2 true) = some (r1, r2) := by rw [if_pos rfl] at H; exact H
   clear H
   have H := H1
   clear H1
   have H' := Aside0.mk H
   clear H
   go_wp2_with ((refine goesL_ (some 13) rfl rfl Tryz.func121 (by kernel_rfl) rfl #[.int .i64 a1] rfl (by (try simp only [List.map_toArray, List.map_cons, List.map_nil]); rfl) ?_; (with_reducible refine (bits_badWidth.calls a1 true _ A5.out).mono ?_); rintro e w' ⟨rfl, ⟨nd, rfl⟩⟩; refine ⟨_, rfl, ?_⟩))
   go_meet
   case rel => exact ⟨_, (true), (by rfl), H', ⟨by omega⟩, ⟨by repeat ((with_reducible first | exact HB.out | apply pw_below_drewN))⟩⟩
  replace c6 := Bool.eq_false_iff.mpr c6
  subst c6
  have H1 : (if a2 < 0 then (bits_Unpack.j0 k l0 a1 a2 true) else (bits_Unpack.j0 k l0 a1 a2 (decide (a2 > 4096)))) = some (r1, r2) := by rw [if_neg (show ¬ (false = true) by decide)] at H; exact H
  clear H
  have H := H1
  clear H1
  by_cases c7 : a2 < 0
  ·rw [if_pos c7] at H
   have c7b0 : decide (a2 < 0) = true := decide_eq_true c7
   clear c7
   have H' := Aside0.mk H
   clear H
   go_wp2_with ((refine goesL_ (some 13) rfl rfl Tryz.func121 (by kernel_rfl) rfl #[.int .i64 a1] rfl (by (try simp only [List.map_toArray, List.map_cons, List.map_nil]); rfl) ?_; (with_reducible refine (bits_badWidth.calls a1 false _ A5.out).mono ?_); rintro e w' ⟨rfl, ⟨nd, rfl⟩⟩; refine ⟨_, rfl, ?_⟩))
   go_meet
   case rel => exact ⟨_, (true), (by rfl), H', ⟨by omega⟩, ⟨by repeat ((with_reducible first | exact HB.out | apply pw_below_drewN))⟩⟩
  rw [if_neg c7] at H
  have c7b0 : decide (a2 < 0) = false := decide_eq_false c7
  clear c7
  have H' := Aside0.mk H
  clear H
  go_wp2_with ((refine goesL_ (some 13) rfl rfl Tryz.func121 (by kernel_rfl) rfl #[.int .i64 a1] rfl (by (try simp only [List.map_toArray, List.map_cons, List.map_nil]); rfl) ?_; (with_reducible refine (bits_badWidth.calls a1 false _ A5.out).mono ?_); rintro e w' ⟨rfl, ⟨nd, rfl⟩⟩; refine ⟨_, rfl, ?_⟩))
  go_meet
  case rel => exact ⟨_, (decide (a2 > 4096)), (by rfl), H', ⟨by omega⟩, ⟨by repeat ((with_reducible first | exact HB.out | apply pw_below_drewN))⟩⟩
 case rest =>
  clear HC4
  obtain ⟨kq, x11_3, rfl, HA, HJ3, HB⟩ := hcut
  cases kq with
  | zero => exact absurd HA.out (by simp [bits_Unpack.j0])
  | succ kj3 =>
   have H := HA.out
   clear HA
   simp only [bits_Unpack.j0] at H
   by_cases c8 : x11_3 = true
   ·subst c8
    have H1 : (some (([] : List Int), 1)) = some (r1, r2) := by rw [if_pos rfl] at H; exact H
    clear H
    have H := H1
    clear H1
    simp only [Option.some.injEq, Prod.mk.injEq] at H
    obtain ⟨rfl, rfl⟩ := H
    go_wp2
    go_ret2
    exact ⟨_, by rfl, by exact Kd.R_nil _ _ _ _ _, by exact HB.out⟩
   replace c8 := Bool.eq_false_iff.mpr c8
   subst c8
   have H1 : ((bits_need.f a1 a2).bind fun t413 => (if (l0.length : Int) < t413 then (some (([] : List Int), 2)) else ((bits_need.f a1 a2).bind fun t414 => (if (l0.length : Int) > t414 then (some (([] : List Int), 3)) else (if (wrap64 ((wrap64 ((l0.length : Int) * 8)) - (wrap64 (a1 * a2)))) > 0 then (if 0 ≤ (wrap64 ((l0.length : Int) - 1)) then (if (wrap64 ((l0.length : Int) - 1)) < (l0.length : Int) then (if 0 ≤ (IntKind.u64.wrap (wrap64 (8 - (wrap64 ((wrap64 ((l0.length : Int) * 8)) - (wrap64 (a1 * a2))))))) then (bits_Unpack.j1 kj3 l0 a1 a2 ((shr .u8 (rd l0 (wrap64 ((l0.length : Int) - 1))) (IntKind.u64.wrap (wrap64 (8 - (wrap64 ((wrap64 ((l0.length : Int) * 8)) - (wrap64 (a1 * a2)))))))) != 0)) else (none)) else (none)) else (none)) else (bits_Unpack.j1 kj3 l0 a1 a2 false)))))) = some (r1, r2) := by rw [if_neg (show ¬ (false = true) by decide)] at H; exact H
   clear H
   have H := H1
   clear H1
   replace H := Option.bind_eq_some_iff.mp H
   obtain ⟨t413, A90, H⟩ := H
   (try dsimp only at H)
   have A9 := Aside0.mk A90
   clear A90
   by_cases c10 : (l0.length : Int) < t413
   ·rw [if_pos c10] at H
    have c10b0 : decide ((l0.length : Int) < t413) = true := decide_eq_true c10
    clear c10
    simp only [Option.some.injEq, Prod.mk.injEq] at H
    obtain ⟨rfl, rfl⟩ := H
    go_wp2_with ((refine goesL_ (some 27) rfl rfl Tryz.func122 (by kernel_rfl) rfl #[.int .i64 a1, .int .i64 a2] rfl (by (try simp only [List.map_toArray, List.map_cons, List.map_nil]); rfl) ?_; (with_reducible refine (bits_need.calls a1 a2 t413 _ A9.out).mono ?_); rintro e w' ⟨rfl, ⟨nd, rfl⟩⟩; refine ⟨_, rfl, ?_⟩))
    go_ret2
    exact ⟨_, by rfl, by exact Kd.R_nil _ _ _ _ _, by repeat ((with_reducible first | exact HB.out | apply pw_below_drewN))⟩
   rw [if_neg c10] at H
   have c10b0 : decide ((l0.length : Int) < t413) = false := decide_eq_false c10
   clear c10
   replace H := Option.bind_eq_some_iff.mp H
   obtain ⟨t414, A110, H⟩ := H
   (try dsimp only at H)
   have A11 := Aside0.mk A110
   clear A110
   by_cases c12 : (l0.length : Int) > t414
   ·rw [if_pos c12] at H
    have c12b0 : decide (t414 < (l0.length : Int)) = true := decide_eq_true c12
    clear c12
    simp only [Option.some.injEq, Prod.mk.injEq] at H
    obtain ⟨rfl, rfl⟩ := H
    go_wp2_with (first | ((with_reducible refine gate_callee (f := 122) rfl ?_); refine goesL_ (some 27) rfl rfl Tryz.func122 (by kernel_rfl) rfl #[.int .i64 a1, .int .i64 a2] rfl (by (try simp only [List.map_toArray, List.map_cons, List.map_nil]); rfl) ?_; (with_reducible refine (bits_need.calls a1 a2 t413 _ A9.out).mono ?_); rintro e w' ⟨rfl, ⟨nd, rfl⟩⟩; refine ⟨_, rfl, ?_⟩) | ((with_reducible refine gate_callee (f := 122) rfl ?_); refine goesL_ (some 34) rfl rfl Tryz.func122 (by kernel_rfl) rfl #[.int .i64 a1, .int .i64 a2] rfl (by (try simp only [List.map_toArray, List.map_cons, List.map_nil]); rfl) ?_; (with_reducible refine (bits_need.calls a1 a2 t414 _ A11.out).mono ?_); rintro e w' ⟨rfl, ⟨nd, rfl⟩⟩; refine ⟨_, rfl, ?_⟩))
    go_ret2
    exact ⟨_, by rfl, by exact Kd.R_nil _ _ _ _ _, by repeat ((with_reducible first | exact HB.out | apply pw_below_drewN))⟩
   rw [if_neg c12] at H
   have c12b0 : decide (t414 < (l0.length : Int)) = false := decide_eq_false c12
   clear c12
   have HC13 := Aside0.mk H
   clear H
   go_upto_region 8 with (first | ((with_reducible refine gate_callee (f := 122) rfl ?_); refine goesL_ (some 27) rfl rfl Tryz.func122 (by kernel_rfl) rfl #[.int .i64 a1, .int .i64 a2] rfl (by (try simp only [List.map_toArray, List.map_cons, List.map_nil]); rfl) ?_; (with_reducible refine (bits_need.calls a1 a2 t413 _ A9.out).mono ?_); rintro e w' ⟨rfl, ⟨nd, rfl⟩⟩; refine ⟨_, rfl, ?_⟩) | ((with_reducible refine gate_callee (f := 122) rfl ?_); refine goesL_ (some 34) rfl rfl Tryz.func122 (by kernel_rfl) rfl #[.int .i64 a1, .int .i64 a2] rfl (by (try simp only [List.map_toArray, List.map_cons, List.map_nil]); rfl) ?_; (with_reducible refine (bits_need.calls a1 a2 t414 _ A11.out).mono ?_); rintro e w' ⟨rfl, ⟨nd, rfl⟩⟩; refine ⟨_, rfl, ?_⟩))
   go_cut [57] (fun v57 wc => ∃ (kq : Nat) (x57_12 : Bool), v57 = .bool x57_12 ∧ Aside0 (bits_Unpack.j1 kq l0 a1 a2 x57_12 = some (r1, r2)) ∧ Aside0 (kq ≤ kj3) ∧ Aside0 (Below w.heap.size w wc))
   case first =>
    have H := HC13.out
    clear HC13
    by_cases c14 : (wrap64 ((wrap64 ((l0.length : Int) * 8)) - (wrap64 (a1 * a2)))) > 0
    ·rw [if_pos c14] at H
     have c14b0 : decide (0 < (wrap64 ((wrap64 ((l0.length : Int) * 8)) - (wrap64 (a1 * a2))))) = true := decide_eq_true c14
     clear c14
     obtain ⟨ji15, hji15⟩ : ∃ j_ : Int, (wrap64 ((l0.length : Int) - 1)) = j_ := ⟨_, rfl⟩
     replace H : (if 0 ≤ (ji15) then (if (ji15) < (l0.length : Int) then (if 0 ≤ (IntKind.u64.wrap (wrap64 (8 - (wrap64 ((wrap64 ((l0.length : Int) * 8)) - (wrap64 (a1 * a2))))))) then (bits_Unpack.j1 kj3 l0 a1 a2 ((shr .u8 (rd l0 (ji15)) (IntKind.u64.wrap (wrap64 (8 - (wrap64 ((wrap64 ((l0.length : Int) * 8)) - (wrap64 (a1 * a2)))))))) != 0)) else (none)) else (none)) else (none)) = some (r1, r2) := by (rw [hji15] at H; exact H)
     have hji15w : (IntKind.i64.wrap ((l0.length : Int) - 1)) = ji15 := (i64_w _).trans hji15
     by_cases c16 : 0 ≤ (ji15)
     ·rw [if_pos c16] at H
      have c16b0 : decide (0 ≤ (ji15)) = true := decide_eq_true c16
      clear c16
      by_cases c17 : (ji15) < (l0.length : Int)
      ·rw [if_pos c17] at H
       have c17b0 : decide ((ji15) < (l0.length : Int)) = true := decide_eq_true c17
       clear c17
       obtain ⟨ji18, hji18⟩ : ∃ j_ : Int, (IntKind.u64.wrap (wrap64 (8 - (wrap64 ((wrap64 ((l0.length : Int) * 8)) - (wrap64 (a1 * a2))))))) = j_ := ⟨_, rfl⟩
       replace H : (if 0 ≤ (ji18) then (bits_Unpack.j1 kj3 l0 a1 a2 ((shr .u8 (rd l0 (ji15)) (ji18)) != 0)) else (none)) = some (r1, r2) := by (rw [hji18] at H; exact H)
       by_cases c19 : 0 ≤ (ji18)
       ·rw [if_pos c19] at H
        have c19b0 := eq_true c19
        have c19b1 : decide (0 ≤ (ji18)) = true := decide_eq_true c19
        clear c19
        obtain ⟨ji20, hji20⟩ : ∃ j_ : Int, (shr .u8 (rd l0 (ji15)) (ji18)) = j_ := ⟨_, rfl⟩
        replace H : (bits_Unpack.j1 kj3 l0 a1 a2 ((ji20) != 0)) = some (r1, r2) := by (rw [hji20] at H; exact H)
        have hji20_ : ((rd l0 (ji15)) / 2 ^ min (ji18).toNat 8) = ji20 := hji20
        have hji20z : (ji18) ≤ 8 → ((rd l0 (ji15)) / 2 ^ (ji18).toNat) = ji20 := shr_small hji20
        have H' := Aside0.mk H
        clear H
        have p415 : 0 ≤ ((ji15) : Int) := of_decide_eq_true ‹_›
        have q415 : (ji15) < (l0.length : Int) := of_decide_eq_true ‹_›
        obtain ⟨ad415, e415, hx415_0⟩ := Kd.at_int HR0.out (ji15) p415 q415
        cases e415
        replace hx415_0 := (HB.out.cell (World.block_lt_of_cell? w _ hx415_0)).trans hx415_0
        replace p415 := eq_true p415
        replace q415 := eq_true q415
        go_wp2
        go_meet
        case rel => exact ⟨_, (((ji20) != 0)), (by rfl), H', ⟨by have := HJ3.out; omega⟩, ⟨by repeat ((with_reducible first | exact HB.out | apply pw_below_drewN))⟩⟩
       rw [if_neg c19] at H
       exact absurd H (by simp)
      rw [if_neg c17] at H
      exact absurd H (by simp)
     rw [if_neg c16] at H
     exact absurd H (by simp)
    rw [if_neg c14] at H
    have c14b0 : decide (0 < (wrap64 ((wrap64 ((l0.length : Int) * 8)) - (wrap64 (a1 * a2))))) = false := decide_eq_false c14
    clear c14
    have H' := Aside0.mk H
    clear H
    go_wp2
    go_meet
    case rel => exact ⟨_, (false), (by rfl), H', ⟨by have := HJ3.out; omega⟩, ⟨by repeat ((with_reducible first | exact HB.out | apply pw_below_drewN))⟩⟩
   case rest =>
    clear HC13
    try clear c10b0
    try clear c12b0
    obtain ⟨kq, x57_12, rfl, HA, HJ12, HB⟩ := hcut
    cases kq with
    | zero => exact absurd HA.out (by simp [bits_Unpack.j1])
    | succ kj12 =>
     have H := HA.out
     clear HA
     simp only [bits_Unpack.j1] at H
     by_cases c21 : x57_12 = true
     ·subst c21
      have H1 : (some (([] : List Int), 5)) = some (r1, r2) := by rw [if_pos rfl] at H; exact H
      clear H
      have H := H1
      clear H1
      simp only [Option.some.injEq, Prod.mk.injEq] at H
      obtain ⟨rfl, rfl⟩ := H
      go_wp2
      go_ret2
      exact ⟨_, by rfl, by exact Kd.R_nil _ _ _ _ _, by exact HB.out⟩
     replace c21 := Bool.eq_false_iff.mpr c21
     subst c21
     have H1 : (if 0 ≤ a2 then (if (a2 : Int).toNat ≤ 35184372088832 then (bits_Unpack.l0 kj12 l0 a1 (List.replicate (a2 : Int).toNat 0) a2 0) else (none)) else (none)) = some (r1, r2) := by rw [if_neg (show ¬ (false = true) by decide)] at H; exact H
     clear H
     have H := H1
     clear H1
     by_cases c22 : 0 ≤ a2
     ·rw [if_pos c22] at H
      have c22b0 := eq_true c22
      have c22b1 : decide (0 ≤ a2) = true := decide_eq_true c22
      clear c22
      by_cases c23 : (a2 : Int).toNat ≤ 35184372088832
      ·rw [if_pos c23] at H
       have c23b0 := eq_true c23
       have c23b1 : decide ((a2 : Int).toNat ≤ 35184372088832) = true := decide_eq_true c23
       clear c23
       obtain ⟨y416, hy416⟩ : ∃ y_ : List Int, y_ = (List.replicate (a2 : Int).toNat 0) := ⟨_, rfl⟩
       replace H : (bits_Unpack.l0 kj12 l0 a1 y416 a2 0) = some (r1, r2) := by (rw [hy416]; with_reducible exact H)
       have Ny416 := Aside0.mk hy416
       clear hy416
       have H' := Aside0.mk H
       clear H
       go_wp2_with (((try (refine gate_guard (by rfl) ?_; dsimp only)); refine Kd.R_make (Kd.int .u64) _ 69 rfl (N := 59) rfl 72 _ _ rfl a2 rfl rfl Tryz.underlying72 (.int .u64 0) 8 info69 rfl (by decide) (by omega) 0 (ok := fun _ => True) (okp := fun _ => True) rfl (fun _ hk => hk) trivial (of_decide_eq_true ‹_›) (Nat.le_trans (Nat.mul_le_mul_right _ (of_decide_eq_true ‹_› : a2.toNat ≤ 35184372088832)) (by omega)) (Below.refl _ _) (Nat.le_refl _) ?_; intro v417 w24 ho25 hb hg_ hnew_; clear hg_ hnew_; (rw [← Ny416.out] at ho25); have n0_ := Aside0.mk (Kd.R_lower ho25 (below_size HB.out)); have n1_ := Aside0.mk (below_step HB.out hb); revert n0_ n1_; clear HB; intro HO418 HB; clear hb ho25))
       go_loopg [61] kj12 (fun kq v61 w' => ∃ (x9_3 : List Int) (x61_3 : Int), v61 = .int .i64 x61_3 ∧ Aside0 (bits_Unpack.l0 kq l0 a1 x9_3 a2 x61_3 = some (r1, r2)) ∧ Aside0 (kq ≤ kj12) ∧ Aside0 (Kd.R (Kd.int .u64) 69 w' w.heap.size (fun _ => True) v417 x9_3) ∧ Aside0 (Below w.heap.size w w'))
       case atStart => exact ⟨(y416), (0), (by rfl), H', ⟨Nat.le_refl _⟩, ⟨by (with_reducible repeat (apply Kd.R_alloc)); exact HO418.out⟩, ⟨by exact HB.out⟩⟩
       case round =>
        clear H'
        try clear c22b0
        try clear c22b1
        try clear c23b0
        try clear c23b1
        obtain ⟨x9_3, x61_3, rfl, HA, HK3, HO_9, HB⟩ := hrel
        cases gk with
        | zero => exact absurd HA.out (by simp [bits_Unpack.l0])
        | succ k3 =>
         have H := HA.out
         clear HA
         simp only [bits_Unpack.l0] at H
         by_cases c26 : x61_3 < a2
         ·rw [if_pos c26] at H
          have c26b0 : decide (x61_3 < a2) = true := decide_eq_true c26
          clear c26
          replace H := Option.bind_eq_some_iff.mp H
          obtain ⟨t419, A270, H⟩ := H
          (try dsimp only at H)
          have A27 := Aside0.mk A270
          clear A270
          by_cases c28 : 0 ≤ x61_3
          ·rw [if_pos c28] at H
           have c28b0 : decide (0 ≤ x61_3) = true := decide_eq_true c28
           clear c28
           by_cases c29 : x61_3 < (x9_3.length : Int)
           ·rw [if_pos c29] at H
            have c29b0 : decide (x61_3 < (x9_3.length : Int)) = true := decide_eq_true c29
            clear c29
            obtain ⟨y420, hy420⟩ : ∃ y_ : List Int, y_ = (x9_3.set (x61_3 : Int).toNat t419) := ⟨_, rfl⟩
            replace H : (bits_Unpack.l0 k3 l0 a1 y420 a2 (wrap64 (x61_3 + 1))) = some (r1, r2) := by (rw [hy420]; with_reducible exact H)
            have Ny420 := Aside0.mk hy420
            clear hy420
            have H' := Aside0.mk H
            clear H
            go_wp2_with (first | ((with_reducible refine gate_callee (f := 123) rfl ?_); refine goesL_ (some 71) rfl rfl Tryz.func123 (by kernel_rfl) rfl #[.slice A0 l0.length c0, .int .i64 (wrap64 (x61_3 * a1)), .int .i64 a1] rfl (by (try simp only [List.map_toArray, List.map_cons, List.map_nil]); rfl) ?_; (with_reducible refine (bits_read.calls k3 _ _ l0 (wrap64 (x61_3 * a1)) a1 t419 _ (Kd.C_below HR0.out HB.out) (HC0.out) A27.out).mono ?_); rintro e w31 ⟨rfl, hb⟩; refine ⟨_, rfl, ?_⟩; have n0_ := Aside0.mk (Kd.R_below HO_9.out hb); have n1_ := Aside0.mk (below_step HB.out hb); revert n0_ n1_; clear HO_9 HB; intro HO_9 HB; (try clear hb); have p30 : 0 ≤ (x61_3 : Int) := of_decide_eq_true ‹_›; have q30 : (x61_3 : Int) < ((x9_3.length : Int) : Int) := of_decide_eq_true ‹_›; obtain ⟨go30, co30, eo30, gb30, gl30, cl30, HG30⟩ := Kd.R_form HO_9.out (by omega); (cases eo30); have GB30 := Aside0.mk gb30; have GG30 := Aside0.mk HG30; clear gb30 gl30 HG30; obtain ⟨hx30_0, hf30_0⟩ := Kd.R_celln 0 HO_9.out (x61_3 : Int) p30 q30; replace p30 := eq_true p30; replace q30 := eq_true q30; obtain ⟨hy32_, hz32_⟩ := Kd.R_celln 0 HO_9.out (x61_3 : Int) (of_decide_eq_true ‹_›) (of_decide_eq_true ‹_›); have HP32 := Kd.R_putg HO_9.out (x61_3 : Int) t419) | ((with_reducible refine gate_store (t := 69) (p := 72) rfl ?_); refine store_event (t := 69) (p := 72) (v := ?vo_w33) (w1 := (w31.setCell ⟨go30, (x61_3 : Int).toNat, none⟩ (.int .u64 t419))) ?hg ?ho ?hn ?hr ?_; (case ho => rfl); (case hg => rfl); (case hn => rfl); (case hr => (go_simp; done)); intro w33 hw; have hg : w31.grownBy w33 (some go30) := (by rw [hw]; exact HP32.2); have hp_ : Kd.R (Kd.int .u64) 69 w33 w.heap.size (fun _ => True) (.slice (some ⟨go30, 0, none⟩) x9_3.length co30) y420 := (by rw [hw, Ny420.out]; exact HP32.1); clear HP32; have n0_ := Aside0.mk (hp_); have n1_ := Aside0.mk ((by rw [hw]; exact below_set (HB.out) GB30.out : Below w.heap.size w w33)); revert n0_ n1_; clear HO_9 HB; intro HO_9 HB; clear hg hw hp_))
            go_roundg k3
            case measure => have := HJ3.out; have := HJ12.out; have := HK3.out; omega
            case rel => exact ⟨(y420), (wrap64 (x61_3 + 1)), (by rfl), H', ⟨by have := HJ3.out; have := HJ12.out; have := HK3.out; omega⟩, ⟨by (with_reducible repeat (apply Kd.R_alloc)); exact HO_9.out⟩, ⟨by exact HB.out⟩⟩
           rw [if_neg c29] at H
           exact absurd H (by simp)
          rw [if_neg c28] at H
          exact absurd H (by simp)
         rw [if_neg c26] at H
         have c26b0 : decide (x61_3 < a2) = false := decide_eq_false c26
         clear c26
         simp only [Option.some.injEq, Prod.mk.injEq] at H
         obtain ⟨rfl, rfl⟩ := H
         go_wp2
         go_ret2
         exact ⟨_, by rfl, by (with_reducible repeat (apply Kd.R_alloc)); exact HO_9.out, by exact HB.out⟩
      rw [if_neg c23] at H
      exact absurd H (by simp)
     rw [if_neg c22] at H
     exact absurd H (by simp)
def bits_Unfold.f (a0 : Int) : Option (Int) := some (Go.bits .xor .i64 (wrap64 (a0 / 2)) (wrap64 (-(wrap64 (Go.bits .and .u64 a0 1)))))
set_option maxHeartbeats 8000000 in
set_option maxRecDepth 100000 in
theorem bits_Unfold.calls (a0 : Int) (r : Int) (w : World) (h : bits_Unfold.f a0 = some r) :
 Calls Tryz.prog 125 #[.int .u64 a0] w fun e w' => e = .returned (.int .i64 r) ∧ Drawn0 w w' := by
 unfold bits_Unfold.f at h
 have H := h
 clear h
 obtain rfl := Option.some.inj H
 go_enter Tryz.func125, Tryz.ntmps125
 go_wp2
 go_ret
 exact ⟨by rfl, by repeat (exact Drawn0.refl _)⟩
def block_fromNumbers.l0 : Nat → Int → List (S62) → List Int → Int → Int → Option ((List (S62)) × Int)
 | 0, _, _, _, _, _ => none
 | k + 1, x1, x6, x9, x10, x11 => if x11 < x10 then (if 0 ≤ x11 then (if x11 < (x9.length : Int) then (if x6.length < 3518437208883 then (block_fromNumbers.l0 k x1 (x6 ++ [(⟨false, rd x9 x11, ([] : List Int)⟩ : S62)]) x9 x10 (wrap64 (x11 + 1))) else (none)) else (none)) else (none)) else (some (x6, x1))
def block_fromNumbers.f (k : Nat) (l0 : List Int) (a1 : Int) : Option ((List (S62)) × Int) := block_fromNumbers.l0 k a1 ([] : List (S62)) l0 (l0.length : Int) 0
set_option maxHeartbeats 8000000 in
set_option maxRecDepth 100000 in
theorem block_fromNumbers.calls (k : Nat) (A0 : Option Addr) (c0 : Nat) (l0 : List Int) (a1 : Int) (r1 : List (S62)) (r2 : Int) (w : World) (hr0 : Kd.C (Kd.int .i64) w A0 l0.length l0) (hc0 : l0.length ≤ c0) (h : block_fromNumbers.f k l0 a1 = some (r1, r2)) :
 Calls Tryz.prog 85 #[.slice A0 l0.length c0, .int .i64 a1] w fun e w' => ∃ v0_ : Value, e = .returned (.tuple #[v0_, .int .i64 r2]) ∧ Kd.S k62 62 w' w.heap.size (fun _ => True) v0_ r1 ∧ Below w.heap.size w w' := by
 have hu62 := Tryz.underlying62
 have HR0 := Aside0.mk hr0
 have HC0 := Aside0.mk hc0
 clear hr0 hc0
 have HB := Aside0.mk (Below.refl w.heap.size w)
 unfold block_fromNumbers.f at h
 have H := h
 clear h
 have H' := Aside0.mk H
 clear H
 go_enter Tryz.func85, Tryz.ntmps85
 go_wp2
 go_loopg [6, 11] k (fun kq v6 v11 w' => ∃ (x6_1 : List (S62)) (x11_1 : Int), v11 = .int .i64 x11_1 ∧ Aside0 (block_fromNumbers.l0 kq a1 x6_1 l0 (l0.length : Int) x11_1 = some (r1, r2)) ∧ Aside0 (kq ≤ k) ∧ Aside0 (Kd.S k62 62 w' w.heap.size (fun _ => True) v6 x6_1) ∧ Aside0 (Below w.heap.size w w'))
 case atStart => exact ⟨(([] : List (S62))), (0), (by rfl), H', ⟨Nat.le_refl _⟩, ⟨by exact Kd.S_nil _ _ _ _ _⟩, ⟨by exact HB.out⟩⟩
 case round =>
  clear H'
  obtain ⟨x6_1, x11_1, rfl, HA, HK1, HO_6, HB⟩ := hrel
  cases gk with
  | zero => exact absurd HA.out (by simp [block_fromNumbers.l0])
  | succ k1 =>
   have H := HA.out
   clear HA
   simp only [block_fromNumbers.l0] at H
   by_cases c3 : x11_1 < (l0.length : Int)
   ·rw [if_pos c3] at H
    have c3b0 : decide (x11_1 < (l0.length : Int)) = true := decide_eq_true c3
    clear c3
    by_cases c4 : 0 ≤ x11_1
    ·rw [if_pos c4] at H
     have c4b0 : decide (0 ≤ x11_1) = true := decide_eq_true c4
     clear c4
     by_cases c5 : x11_1 < (l0.length : Int)
     ·rw [if_pos c5] at H
      have c5b0 : decide (x11_1 < (l0.length : Int)) = true := decide_eq_true c5
      clear c5
      by_cases c6 : x6_1.length < 3518437208883
      ·rw [if_pos c6] at H
       have LMc6 := Aside0.mk c6
       clear c6
       obtain ⟨y472, hy472⟩ : ∃ y_ : List (S62), y_ = (x6_1 ++ [(⟨false, rd l0 x11_1, ([] : List Int)⟩ : S62)]) := ⟨_, rfl⟩
       replace H : (block_fromNumbers.l0 k1 a1 y472 l0 (l0.length : Int) (wrap64 (x11_1 + 1))) = some (r1, r2) := by (rw [hy472]; with_reducible exact H)
       have Ny472 := Aside0.mk hy472
       clear hy472
       have H' := Aside0.mk H
       clear H
       have p471 : 0 ≤ (x11_1 : Int) := of_decide_eq_true ‹_›
       have q471 : x11_1 < (l0.length : Int) := of_decide_eq_true ‹_›
       obtain ⟨ad471, e471, hx471_0⟩ := Kd.at_int HR0.out x11_1 p471 q471
       cases e471
       replace hx471_0 := (HB.out.cell (World.block_lt_of_cell? w _ hx471_0)).trans hx471_0
       replace p471 := eq_true p471
       replace q471 := eq_true q471
       go_wp2_with ((at_builtin; refine Kd.S_append k62 (w0 := w) w.heap.size rfl (.tmp 15) (.tmp 18) 22 62 (.agg #[(.bool false), (.int .i64 0), (.slice none 0 0)]) 40 rfl Tryz.underlying22 info62 rfl (by decide) (by omega) u6 x6_1 (⟨false, rd l0 x11_1, ([] : List Int)⟩ : S62) [.bool false, .int .i64 (rd l0 x11_1), .slice none 0 0] (fun _ => True) (fun _ => False) rfl rfl ?aP (fun k_ hk_ => hk_.elim) ?aF ?aO ?aB ?aS ?aL ?_; (case aP => exact k62_mkM _ _ _ (⟨false, rd l0 x11_1, ([] : List Int)⟩ : S62) (Kd.R_nil _ _ _ _ _)); (case aB => exact HB.out); (case aF => exact (fun _ _ => trivial)); (case aO => exact (by (with_reducible repeat (apply Kd.S_alloc)); exact Kd.S_mono HO_6.out (fun k_ hk => ⟨trivial, fun e_ => e_⟩))); (case aS => exact (below_size HB.out)); (case aL => have := LMc6.out; omega); intro v473 w7 ho hb hg hat; rw [← Ny472.out] at ho; have n0_ := Aside0.mk (hb); have n1_ := Aside0.mk (ho); revert n0_ n1_; clear HB HO_6; intro HB HO474; clear ho hb hg hat))
       go_roundg k1
       case measure => have := HK1.out; omega
       case rel => exact ⟨(y472), (wrap64 (x11_1 + 1)), (by rfl), H', ⟨by have := HK1.out; omega⟩, ⟨by (with_reducible repeat (apply Kd.S_alloc)); exact HO474.out⟩, ⟨by exact HB.out⟩⟩
      rw [if_neg c6] at H
      exact absurd H (by simp)
     rw [if_neg c5] at H
     exact absurd H (by simp)
    rw [if_neg c4] at H
    exact absurd H (by simp)
   rw [if_neg c3] at H
   have c3b0 : decide (x11_1 < (l0.length : Int)) = false := decide_eq_false c3
   clear c3
   simp only [Option.some.injEq, Prod.mk.injEq] at H
   obtain ⟨rfl, rfl⟩ := H
   go_wp2
   go_ret2
   exact ⟨_, by rfl, by (with_reducible repeat (apply Kd.S_alloc)); exact HO_6.out, by exact HB.out⟩
def slices_Index_uint64_uint64.l0 : Nat → List Int → Int → Int → Int → Option (Int)
 | 0, _, _, _, _ => none
 | k + 1, x0, x1, x7, x8 => if x8 < x7 then (if 0 ≤ x8 then (if x8 < (x0.length : Int) then (if x1 = (rd x0 x8) then (some x8) else (slices_Index_uint64_uint64.l0 k x0 x1 x7 (wrap64 (x8 + 1)))) else (none)) else (none)) else (some (-1))
def slices_Index_uint64_uint64.f (k : Nat) (l0 : List Int) (a1 : Int) : Option (Int) := slices_Index_uint64_uint64.l0 k l0 a1 (l0.length : Int) 0
set_option maxHeartbeats 8000000 in
set_option maxRecDepth 100000 in
theorem slices_Index_uint64_uint64.calls (k : Nat) (A0 : Option Addr) (c0 : Nat) (l0 : List Int) (a1 : Int) (r : Int) (w : World) (hr0 : Kd.C (Kd.int .u64) w A0 l0.length l0) (hc0 : l0.length ≤ c0) (h : slices_Index_uint64_uint64.f k l0 a1 = some r) :
 Calls Tryz.prog 155 #[.slice A0 l0.length c0, .int .u64 a1] w fun e w' => e = .returned (.int .i64 r) ∧ Drawn0 w w' := by
 have HR0 := Aside0.mk hr0
 have HC0 := Aside0.mk hc0
 clear hr0 hc0
 unfold slices_Index_uint64_uint64.f at h
 have H := h
 clear h
 have H' := Aside0.mk H
 clear H
 go_enter Tryz.func155, Tryz.ntmps155
 go_wp2
 go_loopg [8] k (fun kq v8 w' => ∃ (x8_1 : Int), v8 = .int .i64 x8_1 ∧ Aside0 (slices_Index_uint64_uint64.l0 kq l0 a1 (l0.length : Int) x8_1 = some r) ∧ Aside0 (kq ≤ k) ∧ Drawn0 w w')
 case atStart => exact ⟨(0), (by rfl), H', ⟨Nat.le_refl _⟩, by repeat (exact Drawn0.refl _)⟩
 case round =>
  clear H'
  obtain ⟨x8_1, rfl, HA, HK1, ⟨m1, rfl⟩⟩ := hrel
  cases gk with
  | zero => exact absurd HA.out (by simp [slices_Index_uint64_uint64.l0])
  | succ k1 =>
   have H := HA.out
   clear HA
   simp only [slices_Index_uint64_uint64.l0] at H
   by_cases c3 : x8_1 < (l0.length : Int)
   ·rw [if_pos c3] at H
    have c3b0 : decide (x8_1 < (l0.length : Int)) = true := decide_eq_true c3
    clear c3
    by_cases c4 : 0 ≤ x8_1
    ·rw [if_pos c4] at H
     have c4b0 : decide (0 ≤ x8_1) = true := decide_eq_true c4
     clear c4
     by_cases c5 : x8_1 < (l0.length : Int)
     ·rw [if_pos c5] at H
      have c5b0 : decide (x8_1 < (l0.length : Int)) = true := decide_eq_true c5
      clear c5
      by_cases c6 : a1 = (rd l0 x8_1)
      ·rw [if_pos c6] at H
       have c6b0 : (a1 == (rd l0 x8_1)) = true := beq_iff_eq.mpr c6
       have c6b1 : (a1 != (rd l0 x8_1)) = false := bne_eq_false_iff_eq.mpr c6
       clear c6
       obtain rfl := Option.some.inj H
       have p475 : 0 ≤ (x8_1 : Int) := of_decide_eq_true ‹_›
       have q475 : x8_1 < (l0.length : Int) := of_decide_eq_true ‹_›
       obtain ⟨ad475, e475, hx475_0⟩ := Kd.at_int HR0.out x8_1 p475 q475
       cases e475
       replace p475 := eq_true p475
       replace q475 := eq_true q475
       go_wp2
       go_ret
       exact ⟨by rfl, by repeat (first | exact Drawn0.refl _ | apply Drawn0.step)⟩
      rw [if_neg c6] at H
      have c6b0 : (a1 == (rd l0 x8_1)) = false := beq_eq_false_iff_ne.mpr c6
      have c6b1 : (a1 != (rd l0 x8_1)) = true := bne_iff_ne.mpr c6
      have H' := Aside0.mk H
      clear H
      have p475 : 0 ≤ (x8_1 : Int) := of_decide_eq_true ‹_›
      have q475 : x8_1 < (l0.length : Int) := of_decide_eq_true ‹_›
      obtain ⟨ad475, e475, hx475_0⟩ := Kd.at_int HR0.out x8_1 p475 q475
      cases e475
      replace p475 := eq_true p475
      replace q475 := eq_true q475
      go_wp2
      go_roundg k1
      case measure => have := HK1.out; omega
      case rel => exact ⟨(wrap64 (x8_1 + 1)), (by rfl), H', ⟨by have := HK1.out; omega⟩, by repeat (first | exact Drawn0.refl _ | apply Drawn0.step)⟩
     rw [if_neg c5] at H
     exact absurd H (by simp)
    rw [if_neg c4] at H
    exact absurd H (by simp)
   rw [if_neg c3] at H
   have c3b0 : decide (x8_1 < (l0.length : Int)) = false := decide_eq_false c3
   clear c3
   obtain rfl := Option.some.inj H
   go_wp2
   go_ret
   exact ⟨by rfl, by repeat (first | exact Drawn0.refl _ | apply Drawn0.step)⟩
def slices_Contains_uint64_uint64.f (k : Nat) (l0 : List Int) (a1 : Int) : Option (Bool) := (slices_Index_uint64_uint64.f k l0 a1).bind fun t476 => (some (decide (t476 ≥ 0)))
set_option maxHeartbeats 8000000 in
set_option maxRecDepth 100000 in
theorem slices_Contains_uint64_uint64.calls (k : Nat) (A0 : Option Addr) (c0 : Nat) (l0 : List Int) (a1 : Int) (r : Bool) (w : World) (hr0 : Kd.C (Kd.int .u64) w A0 l0.length l0) (hc0 : l0.length ≤ c0) (h : slices_Contains_uint64_uint64.f k l0 a1 = some r) :
 Calls Tryz.prog 147 #[.slice A0 l0.length c0, .int .u64 a1] w fun e w' => e = .returned (.bool r) ∧ Drawn0 w w' := by
 have HR0 := Aside0.mk hr0
 have HC0 := Aside0.mk hc0
 clear hr0 hc0
 unfold slices_Contains_uint64_uint64.f at h
 have H := h
 clear h
 replace H := Option.bind_eq_some_iff.mp H
 obtain ⟨t476, A30, H⟩ := H
 (try dsimp only at H)
 have A3 := Aside0.mk A30
 clear A30
 obtain rfl := Option.some.inj H
 go_enter Tryz.func147, Tryz.ntmps147
 go_wp2_with ((refine goL_ Tryz.func155 #[.slice A0 l0.length c0, .int .u64 a1] ?_; (with_reducible refine (slices_Index_uint64_uint64.calls k _ _ l0 a1 t476 _ (HR0.out) (HC0.out) A3.out).mono ?_); rintro e w' ⟨rfl, ⟨nd, rfl⟩⟩; refine ⟨_, rfl, ?_⟩))
 go_ret
 exact ⟨by rfl, by repeat (first | exact Drawn0.refl _ | apply Drawn0.step)⟩
def block_fromTexts.l0 : Nat → Int → List (S62) → List (List Int) → Int → Int → Option ((List (S62)) × Int)
 | 0, _, _, _, _, _ => none
 | k + 1, x1, x6, x9, x10, x11 => if x11 < x10 then (if 0 ≤ x11 then (if x11 < (x9.length : Int) then (if x6.length < 3518437208883 then (block_fromTexts.l0 k x1 (x6 ++ [(⟨false, 0, rd_L1 x9 x11⟩ : S62)]) x9 x10 (wrap64 (x11 + 1))) else (none)) else (none)) else (none)) else (some (x6, x1))
def block_fromTexts.f (k : Nat) (l0 : List (List Int)) (a1 : Int) : Option ((List (S62)) × Int) := block_fromTexts.l0 k a1 ([] : List (S62)) l0 (l0.length : Int) 0
set_option maxHeartbeats 8000000 in
set_option maxRecDepth 100000 in
theorem block_fromTexts.calls (k : Nat) (P0_ : Nat → Prop) (A0 : Option Addr) (c0 : Nat) (l0 : List (List Int)) (a1 : Int) (r1 : List (S62)) (r2 : Int) (w : World) (hs0 : Kd.V (Kd.slice 5 (Kd.int .u8)) 24 w w.heap.size (fun k_ => P0_ k_) (.slice A0 l0.length c0) l0) (h : block_fromTexts.f k l0 a1 = some (r1, r2)) :
 Calls Tryz.prog 88 #[.slice A0 l0.length c0, .int .i64 a1] w fun e w' => ∃ v0_ : Value, e = .returned (.tuple #[v0_, .int .i64 r2]) ∧ Kd.N k62 62 w' w.heap.size (fun k_ => (P0_ k_ ∨ w.heap.size ≤ k_)) v0_ r1 ∧ Below w.heap.size w w' := by
 have hu62 := Tryz.underlying62
 have HO0 := Aside0.mk (show Kd.V (Kd.slice 5 (Kd.int .u8)) 24 w w.heap.size (fun k_ => (P0_ k_ ∨ w.heap.size ≤ k_)) (.slice A0 l0.length c0) l0 from Kd.V_mono hs0 (fun k_ hk => .inl hk))
 have HB := Aside0.mk (Below.refl w.heap.size w)
 unfold block_fromTexts.f at h
 have H := h
 clear h
 have H' := Aside0.mk H
 clear H
 go_enter Tryz.func88, Tryz.ntmps88
 go_wp2
 go_loopg [6, 11] k (fun kq v6 v11 w' => ∃ (x6_1 : List (S62)) (x11_1 : Int), v11 = .int .i64 x11_1 ∧ Aside0 (block_fromTexts.l0 kq a1 x6_1 l0 (l0.length : Int) x11_1 = some (r1, r2)) ∧ Aside0 (kq ≤ k) ∧ Aside0 (Kd.N k62 62 w' w.heap.size (fun k_ => (P0_ k_ ∨ w.heap.size ≤ k_)) v6 x6_1) ∧ Aside0 (Kd.V (Kd.slice 5 (Kd.int .u8)) 24 w' w.heap.size (fun k_ => (P0_ k_ ∨ w.heap.size ≤ k_) ∧ some k_ ≠ (v6 : Value).ownBlock) (.slice A0 l0.length c0) l0) ∧ Aside0 (Below w.heap.size w w'))
 case atStart => exact ⟨(([] : List (S62))), (0), (by rfl), H', ⟨Nat.le_refl _⟩, ⟨by exact Kd.N_nil _ _ _ _ _⟩, ⟨by (with_reducible repeat (apply Kd.V_alloc)); exact Kd.V_mono HO0.out (fun _ hk => ⟨hk, (by simp [Value.ownBlock])⟩)⟩, ⟨by exact HB.out⟩⟩
 case round =>
  clear H'
  obtain ⟨x6_1, x11_1, rfl, HA, HK1, HO_6, HO_9, HB⟩ := hrel
  cases gk with
  | zero => exact absurd HA.out (by simp [block_fromTexts.l0])
  | succ k1 =>
   have H := HA.out
   clear HA
   simp only [block_fromTexts.l0] at H
   by_cases c3 : x11_1 < (l0.length : Int)
   ·rw [if_pos c3] at H
    have c3b0 : decide (x11_1 < (l0.length : Int)) = true := decide_eq_true c3
    clear c3
    by_cases c4 : 0 ≤ x11_1
    ·rw [if_pos c4] at H
     have c4b0 : decide (0 ≤ x11_1) = true := decide_eq_true c4
     clear c4
     by_cases c5 : x11_1 < (l0.length : Int)
     ·rw [if_pos c5] at H
      have c5b0 : decide (x11_1 < (l0.length : Int)) = true := decide_eq_true c5
      clear c5
      by_cases c6 : x6_1.length < 3518437208883
      ·rw [if_pos c6] at H
       have LMc6 := Aside0.mk c6
       clear c6
       obtain ⟨y505, hy505⟩ : ∃ y_ : List (S62), y_ = (x6_1 ++ [(⟨false, 0, rd_L1 l0 x11_1⟩ : S62)]) := ⟨_, rfl⟩
       replace H : (block_fromTexts.l0 k1 a1 y505 l0 (l0.length : Int) (wrap64 (x11_1 + 1))) = some (r1, r2) := by (rw [hy505]; with_reducible exact H)
       have Ny505 := Aside0.mk hy505
       clear hy505
       have H' := Aside0.mk H
       clear H
       have p504 : 0 ≤ (x11_1 : Int) := of_decide_eq_true ‹_›
       have q504 : x11_1 < (l0.length : Int) := of_decide_eq_true ‹_›
       obtain ⟨ad504, A504_0, c504_0, e504, hx504_0, hl504_0, hi504_0⟩ := at_L1 (Kd.V_reads' HO_9.out).2.2 x11_1 p504 q504
       cases e504
       obtain ⟨ce504, hce504, hMe504, hcc504⟩ := Kd.V_get HO_9.out [] x11_1 p504 q504
       obtain ⟨ua504_0, uc504_0, rfl, ul504_0, ge504_0⟩ := Kd.FK_slice_open hMe504
       have hv504_0 := hcc504 0 _ rfl
       rw [Nat.add_zero, show ((Kd.slice 5 (Kd.int .u8))).sz = 1 from rfl, Nat.mul_one] at hv504_0
       replace hv504_0 := Option.some.inj (hv504_0.symm.trans hx504_0)
       injection hv504_0 with hva_ hvn_ hvc_
       rw [hva_] at ge504_0
       rw [hvc_] at ul504_0
       have HL504_0 := Aside0.mk (show Kd.V (Kd.int .u8) 5 _ w.heap.size _ _ (rd_L1 l0 x11_1) from Kd.V_mk ul504_0 ge504_0)
       clear hva_ hvn_ hvc_ ge504_0 ul504_0
       clear hcc504 hce504
       have HR504_0 := Aside0.mk hi504_0
       have HC504_0 := Aside0.mk hl504_0
       clear hi504_0 hl504_0
       replace p504 := eq_true p504
       replace q504 := eq_true q504
       go_wp2_with ((at_builtin; refine Kd.N_append k62 (w0 := w) w.heap.size rfl (.tmp 15) (.tmp 18) 22 62 (.agg #[(.bool false), (.int .i64 0), (.slice none 0 0)]) 40 rfl Tryz.underlying22 info62 rfl (by decide) (by omega) u6 x6_1 (⟨false, 0, rd_L1 l0 x11_1⟩ : S62) [.bool false, .int .i64 0, .slice A504_0 (rd_L1 l0 x11_1).length c504_0] (fun k_ => (P0_ k_ ∨ w.heap.size ≤ k_)) (fun k_ => ((fun k_ => (P0_ k_ ∨ w.heap.size ≤ k_))) k_ ∧ some k_ ≠ (u6 : Value).ownBlock) rfl rfl ?aP (fun _ hk => hk) ?aF ?aO ?aB ?aS ?aL ?_; (case aP => exact (k62_mkF _ _ (⟨false, 0, rd_L1 l0 x11_1⟩ : S62) (Kd.V_reads' (Kd.V_mono (ok' := (fun k_ => ((fun k_ => (P0_ k_ ∨ w.heap.size ≤ k_))) k_ ∧ some k_ ≠ (u6 : Value).ownBlock)) (HL504_0.out) (fun k_ hk => ⟨hk.1, hk.2⟩))).2.1 (Kd.V_F (Kd.V_mono (ok' := (fun k_ => ((fun k_ => (P0_ k_ ∨ w.heap.size ≤ k_))) k_ ∧ some k_ ≠ (u6 : Value).ownBlock)) (HL504_0.out) (fun k_ hk => ⟨hk.1, hk.2⟩))))); (case aB => exact HB.out); (case aF => exact (fun k_ hk => (.inr (Nat.le_trans (below_size HB.out) hk)))); (case aO => exact HO_6.out); (case aS => exact (below_size HB.out)); (case aL => have := LMc6.out; omega); intro v506 w7 ho hb hg hat; rw [← Ny505.out] at ho; have n0_ := Aside0.mk (Kd.V_afterv (ok := (fun k_ => (P0_ k_ ∨ w.heap.size ≤ k_))) HO_9.out hg hat); have n1_ := Aside0.mk (Kd.V_afterv (ok := (fun k_ => (P0_ k_ ∨ w.heap.size ≤ k_))) HL504_0.out hg hat); have n2_ := Aside0.mk (hb); have n3_ := Aside0.mk (ho); revert n0_ n1_ n2_ n3_; clear HO_9 HL504_0 HB HO_6; intro HO_9 HL504_0 HB HO507; clear ho hb hg hat))
       go_roundg k1
       case measure => have := HK1.out; omega
       case rel => exact ⟨(y505), (wrap64 (x11_1 + 1)), (by rfl), H', ⟨by have := HK1.out; omega⟩, ⟨by (with_reducible repeat (apply Kd.N_alloc)); exact HO507.out⟩, ⟨by (with_reducible repeat (apply Kd.V_alloc)); exact HO_9.out⟩, ⟨by exact HB.out⟩⟩
      rw [if_neg c6] at H
      exact absurd H (by simp)
     rw [if_neg c5] at H
     exact absurd H (by simp)
    rw [if_neg c4] at H
    exact absurd H (by simp)
   rw [if_neg c3] at H
   have c3b0 : decide (x11_1 < (l0.length : Int)) = false := decide_eq_false c3
   clear c3
   simp only [Option.some.injEq, Prod.mk.injEq] at H
   obtain ⟨rfl, rfl⟩ := H
   go_wp2
   go_ret2
   exact ⟨_, by rfl, by (with_reducible repeat (apply Kd.N_alloc)); exact HO_6.out, by exact HB.out⟩
def slices_Index_bool_bool.l0 : Nat → List Bool → Bool → Int → Int → Option (Int)
 | 0, _, _, _, _ => none
 | k + 1, x0, x1, x7, x8 => if x8 < x7 then (if 0 ≤ x8 then (if x8 < (x0.length : Int) then (if (x1 == (rdOf false x0 x8)) = true then (some x8) else (slices_Index_bool_bool.l0 k x0 x1 x7 (wrap64 (x8 + 1)))) else (none)) else (none)) else (some (-1))
def slices_Index_bool_bool.f (k : Nat) (l0 : List Bool) (a1 : Bool) : Option (Int) := slices_Index_bool_bool.l0 k l0 a1 (l0.length : Int) 0
set_option maxHeartbeats 8000000 in
set_option maxRecDepth 100000 in
theorem slices_Index_bool_bool.calls (k : Nat) (A0 : Option Addr) (c0 : Nat) (l0 : List Bool) (a1 : Bool) (r : Int) (w : World) (hr0 : Kd.C Kd.bool w A0 l0.length l0) (hc0 : l0.length ≤ c0) (h : slices_Index_bool_bool.f k l0 a1 = some r) :
 Calls Tryz.prog 156 #[.slice A0 l0.length c0, .bool a1] w fun e w' => e = .returned (.int .i64 r) ∧ Drawn0 w w' := by
 have HR0 := Aside0.mk hr0
 have HC0 := Aside0.mk hc0
 clear hr0 hc0
 unfold slices_Index_bool_bool.f at h
 have H := h
 clear h
 have H' := Aside0.mk H
 clear H
 go_enter Tryz.func156, Tryz.ntmps156
 go_wp2
 go_loopg [8] k (fun kq v8 w' => ∃ (x8_1 : Int), v8 = .int .i64 x8_1 ∧ Aside0 (slices_Index_bool_bool.l0 kq l0 a1 (l0.length : Int) x8_1 = some r) ∧ Aside0 (kq ≤ k) ∧ Drawn0 w w')
 case atStart => exact ⟨(0), (by rfl), H', ⟨Nat.le_refl _⟩, by repeat (exact Drawn0.refl _)⟩
 case round =>
  clear H'
  obtain ⟨x8_1, rfl, HA, HK1, ⟨m1, rfl⟩⟩ := hrel
  cases gk with
  | zero => exact absurd HA.out (by simp [slices_Index_bool_bool.l0])
  | succ k1 =>
   have H := HA.out
   clear HA
   simp only [slices_Index_bool_bool.l0] at H
   by_cases c3 : x8_1 < (l0.length : Int)
   ·rw [if_pos c3] at H
    have c3b0 : decide (x8_1 < (l0.length : Int)) = true := decide_eq_true c3
    clear c3
    by_cases c4 : 0 ≤ x8_1
    ·rw [if_pos c4] at H
     have c4b0 : decide (0 ≤ x8_1) = true := decide_eq_true c4
     clear c4
     by_cases c5 : x8_1 < (l0.length : Int)
     ·rw [if_pos c5] at H
      have c5b0 : decide (x8_1 < (l0.length : Int)) = true := decide_eq_true c5
      clear c5
      by_cases c6 : (a1 == (rdOf false l0 x8_1)) = true
      ·rw [if_pos c6] at H
       have c6b0 : (a1 == (rdOf false l0 x8_1)) = true := c6
       (try (have c6b1 : decide (a1 = (rdOf false l0 x8_1)) = true := by simpa using c6))
       (try (have c6b2 : (a1 == (rdOf false l0 x8_1)) = true := by simpa using c6))
       clear c6
       obtain rfl := Option.some.inj H
       have p517 : 0 ≤ (x8_1 : Int) := of_decide_eq_true ‹_›
       have q517 : x8_1 < (l0.length : Int) := of_decide_eq_true ‹_›
       obtain ⟨ad517, e517, hx517_0⟩ := Kd.at_bool HR0.out x8_1 p517 q517
       cases e517
       replace p517 := eq_true p517
       replace q517 := eq_true q517
       go_wp2
       go_ret
       exact ⟨by rfl, by repeat (first | exact Drawn0.refl _ | apply Drawn0.step)⟩
      rw [if_neg c6] at H
      have c6b0 : (a1 == (rdOf false l0 x8_1)) = false := by simpa using c6
      (try (have c6b1 : decide (a1 = (rdOf false l0 x8_1)) = false := by simpa using c6))
      (try (have c6b2 : (a1 == (rdOf false l0 x8_1)) = false := by simpa using c6))
      (try (have c6b3 : ¬ (a1 = (rdOf false l0 x8_1)) := by simpa using c6))
      clear c6
      have H' := Aside0.mk H
      clear H
      have p517 : 0 ≤ (x8_1 : Int) := of_decide_eq_true ‹_›
      have q517 : x8_1 < (l0.length : Int) := of_decide_eq_true ‹_›
      obtain ⟨ad517, e517, hx517_0⟩ := Kd.at_bool HR0.out x8_1 p517 q517
      cases e517
      replace p517 := eq_true p517
      replace q517 := eq_true q517
      go_wp2
      go_roundg k1
      case measure => have := HK1.out; omega
      case rel => exact ⟨(wrap64 (x8_1 + 1)), (by rfl), H', ⟨by have := HK1.out; omega⟩, by repeat (first | exact Drawn0.refl _ | apply Drawn0.step)⟩
     rw [if_neg c5] at H
     exact absurd H (by simp)
    rw [if_neg c4] at H
    exact absurd H (by simp)
   rw [if_neg c3] at H
   have c3b0 : decide (x8_1 < (l0.length : Int)) = false := decide_eq_false c3
   clear c3
   obtain rfl := Option.some.inj H
   go_wp2
   go_ret
   exact ⟨by rfl, by repeat (first | exact Drawn0.refl _ | apply Drawn0.step)⟩
def slices_Contains_bool_bool.f (k : Nat) (l0 : List Bool) (a1 : Bool) : Option (Bool) := (slices_Index_bool_bool.f k l0 a1).bind fun t518 => (some (decide (t518 ≥ 0)))
set_option maxHeartbeats 8000000 in
set_option maxRecDepth 100000 in
theorem slices_Contains_bool_bool.calls (k : Nat) (A0 : Option Addr) (c0 : Nat) (l0 : List Bool) (a1 : Bool) (r : Bool) (w : World) (hr0 : Kd.C Kd.bool w A0 l0.length l0) (hc0 : l0.length ≤ c0) (h : slices_Contains_bool_bool.f k l0 a1 = some r) :
 Calls Tryz.prog 148 #[.slice A0 l0.length c0, .bool a1] w fun e w' => e = .returned (.bool r) ∧ Drawn0 w w' := by
 have HR0 := Aside0.mk hr0
 have HC0 := Aside0.mk hc0
 clear hr0 hc0
 unfold slices_Contains_bool_bool.f at h
 have H := h
 clear h
 replace H := Option.bind_eq_some_iff.mp H
 obtain ⟨t518, A30, H⟩ := H
 (try dsimp only at H)
 have A3 := Aside0.mk A30
 clear A30
 obtain rfl := Option.some.inj H
 go_enter Tryz.func148, Tryz.ntmps148
 go_wp2_with ((refine goL_ Tryz.func156 #[.slice A0 l0.length c0, .bool a1] ?_; (with_reducible refine (slices_Index_bool_bool.calls k _ _ l0 a1 t518 _ (HR0.out) (HC0.out) A3.out).mono ?_); rintro e w' ⟨rfl, ⟨nd, rfl⟩⟩; refine ⟨_, rfl, ?_⟩))
 go_ret
 exact ⟨by rfl, by repeat (first | exact Drawn0.refl _ | apply Drawn0.step)⟩
end Go.Proofs.YtjbhaepkldgfnaaGreat.S
namespace Go.Proofs.YtjbhaepkldgfnaaGreat.S
open Go.RowKit Go.Proofs.YtjbhaepkldgfnaaGreatW.PrintWords Go.Proofs.YtjbhaepkldgfnaaGreatW.PrintLast Go.Proofs.YtjbhaepkldgfnaaGreatW.PrintMore
set_option linter.unusedVariables false
set_option linter.unusedSimpArgs false
theorem cell_of_blk {w : World} {g t : Nat} {v : Value} (h : w.heap[g]? = some (.cells #[v] t (0, 0))) : w.cell? ⟨g, 0, none⟩ = some v := by simp [World.cell?, h]
theorem frozen_of_blk {w : World} {g t : Nat} {v : Value} (h : w.heap[g]? = some (.cells #[v] t (0, 0))) : w.frozen? ⟨g, 0, none⟩ = false := by simp [World.frozen?, h]
theorem fresh_ne {w : World} {g k : Nat} {o : Obj} (h : w.heap[g]? = some o) (hk : w.heap.size ≤ k) : k ≠ g := fun e => by have := blk_lt h; omega
def joiner_add.T8 : Bool × List (List Nat × List Nat) := (true, [([], []), ([], []), ([1], [1]), ([2], [2]), ([3], [3]), ([], []), ([5], [5]), ([4, 6], [4, 6]), ([0, 0, 1, 2, 3, 4, 5, 6, 7], [0]), ([8, 0, 1, 2, 3, 4, 5, 6, 7], [8]), ([9, 7, 7, 0, 1, 2, 3, 4, 5, 6, 7], [7, 9])])
def joiner_add.B8 : List Nat := [0, 0, 2, 6, 14, 0, 32, 126, 255, 511, 1023]
theorem joiner_add.tab8 : rtab .any (opsOf Tryz.f126 8) = joiner_add.T8 := by kernel_rfl
theorem joiner_add.bits8 : waitsOk joiner_add.T8.2 joiner_add.B8 = true := by kernel_rfl
def joiner_add.f (x : Int) (l : List Int) (n : Int) : List Int × Int := if l ≠ [] ∧ rd l ((l.length : Int) - 1) = x then ([], 5) else if n > 4096 - (l.length : Int) then ([], 4) else (l ++ List.replicate n.toNat x, 0)
set_option maxHeartbeats 4000000 in
set_option maxRecDepth 100000 in
theorem joiner_add.calls5 (base g : Nat) (A0 : Option Addr) (c0 : Nat) (x : Int) (l : List Int) (n : Int) (w : World) (hg : w.heap[g]? = some (.cells #[.slice A0 l.length c0] 151 (0, 0))) (hb : base ≤ g) (hO : Kd.R (Kd.int .i64) 2 w base (fun k => k ≠ g) (.slice A0 l.length c0) l) (hlen : l.length ≤ 4096) (hl : (0 : Int) < l.length) (hlast : rd l ((l.length : Int) - 1) = x) :
 Calls Tryz.prog 126 #[.pointer (some ⟨g, 0, none⟩), .int .i64 x, .int .u64 n] w fun e w' => e = .returned (.int .i64 5) ∧ Below base w w' := by
 have HO := Aside0.mk hO
 have HG := Aside0.mk hg
 have HBG := Aside0.mk hb
 have hc := cell_of_blk hg
 clear hO hg hb
 have cz : decide ((0 : Int) < (l.length : Int)) = true := decide_eq_true hl
 have cz' : decide (0 < l.length) = true := decide_eq_true (by omega)
 obtain ⟨ji, hji⟩ : ∃ ji : Int, ji = (l.length : Int) - 1 := ⟨_, rfl⟩
 have hjw : IntKind.i64.wrap ((l.length : Int) - 1) = ji := by rw [i64_w, hji]; unfold wrap64; omega
 have hjv : wrap64 ((l.length : Int) - 1) = ji := by rw [hji]; unfold wrap64; omega
 obtain ⟨ad, had, hx⟩ := Kd.at_int (Kd.R_reads' HO.out).2.2 ji (by omega) (by omega)
 subst had
 have p0 : (0 ≤ ji) = True := eq_true (by omega)
 have q0 : (ji < (l.length : Int)) = True := eq_true (by omega)
 rw [← hji] at hlast
 clear hji
 have e1 : (rd l ji == x) = true := beq_iff_eq.mpr hlast
 clear hlast
 clear hlen hl
 go_enter Tryz.func126, Tryz.ntmps126
 go_wp2
 go_ret
 exact ⟨rfl, by repeat (exact Below.refl _ _)⟩
theorem wrap_u64_of {m : Int} (h0 : 0 ≤ m) (h1 : m < 18446744073709551616) : IntKind.u64.wrap m = m := by
 simp [IntKind.wrap, IntKind.bits, IntKind.signed]
 omega
set_option maxHeartbeats 4000000 in
set_option maxRecDepth 100000 in
theorem joiner_add.calls4n (base g : Nat) (A0 : Option Addr) (c0 : Nat) (x : Int) (l : List Int) (n : Int) (w : World) (hg : w.heap[g]? = some (.cells #[.slice A0 l.length c0] 151 (0, 0))) (hb : base ≤ g) (hO : Kd.R (Kd.int .i64) 2 w base (fun k => k ≠ g) (.slice A0 l.length c0) l) (hlen : l.length ≤ 4096) (hl : (0 : Int) < l.length) (hlast : ¬ rd l ((l.length : Int) - 1) = x) (hov0 : n > 4096 - (l.length : Int)) :
 Calls Tryz.prog 126 #[.pointer (some ⟨g, 0, none⟩), .int .i64 x, .int .u64 n] w fun e w' => e = .returned (.int .i64 4) ∧ Below base w w' := by
 have HO := Aside0.mk hO
 have HG := Aside0.mk hg
 have HBG := Aside0.mk hb
 have hc := cell_of_blk hg
 clear hO hg hb
 have cz : decide ((0 : Int) < (l.length : Int)) = true := decide_eq_true hl
 have cz' : decide (0 < l.length) = true := decide_eq_true (by omega)
 obtain ⟨ji, hji⟩ : ∃ ji : Int, ji = (l.length : Int) - 1 := ⟨_, rfl⟩
 have hjw : IntKind.i64.wrap ((l.length : Int) - 1) = ji := by rw [i64_w, hji]; unfold wrap64; omega
 have hjv : wrap64 ((l.length : Int) - 1) = ji := by rw [hji]; unfold wrap64; omega
 obtain ⟨ad, had, hx⟩ := Kd.at_int (Kd.R_reads' HO.out).2.2 ji (by omega) (by omega)
 subst had
 have p0 : (0 ≤ ji) = True := eq_true (by omega)
 have q0 : (ji < (l.length : Int)) = True := eq_true (by omega)
 rw [← hji] at hlast
 clear hji
 have e1 : (rd l ji == x) = false := beq_eq_false_iff_ne.mpr hlast
 clear hlast
 obtain ⟨m, hmm⟩ : ∃ m : Int, m = 4096 - (l.length : Int) := ⟨_, rfl⟩
 have hm1 : IntKind.i64.wrap (4096 - (l.length : Int)) = m := by rw [i64_w, hmm]; unfold wrap64; omega
 have hm2 : IntKind.u64.wrap m = m := wrap_u64_of (by omega) (by omega)
 have hov : decide (m < n) = true := decide_eq_true (by omega)
 clear hmm hov0
 clear hlen hl
 go_enter Tryz.func126, Tryz.ntmps126
 go_wp2
 go_ret
 exact ⟨rfl, by repeat (exact Below.refl _ _)⟩
set_option maxHeartbeats 4000000 in
set_option maxRecDepth 100000 in
theorem joiner_add.calls4e (base g : Nat) (A0 : Option Addr) (c0 : Nat) (x : Int) (l : List Int) (n : Int) (w : World) (hg : w.heap[g]? = some (.cells #[.slice A0 l.length c0] 151 (0, 0))) (hb : base ≤ g) (hO : Kd.R (Kd.int .i64) 2 w base (fun k => k ≠ g) (.slice A0 l.length c0) l) (hlen : l.length ≤ 4096) (hl : (l.length : Int) = 0) (hov0 : n > 4096 - (l.length : Int)) :
 Calls Tryz.prog 126 #[.pointer (some ⟨g, 0, none⟩), .int .i64 x, .int .u64 n] w fun e w' => e = .returned (.int .i64 4) ∧ Below base w w' := by
 have HO := Aside0.mk hO
 have HG := Aside0.mk hg
 have HBG := Aside0.mk hb
 have hc := cell_of_blk hg
 clear hO hg hb
 have cz : decide ((0 : Int) < (l.length : Int)) = false := by rw [hl]; rfl
 have cz' : decide (0 < l.length) = false := decide_eq_false (by omega)
 obtain ⟨m, hmm⟩ : ∃ m : Int, m = 4096 - (l.length : Int) := ⟨_, rfl⟩
 have hm1 : IntKind.i64.wrap (4096 - (l.length : Int)) = m := by rw [i64_w, hmm]; unfold wrap64; omega
 have hm2 : IntKind.u64.wrap m = m := wrap_u64_of (by omega) (by omega)
 have hov : decide (m < n) = true := decide_eq_true (by omega)
 clear hmm hov0
 clear hlen hl
 go_enter Tryz.func126, Tryz.ntmps126
 go_wp2
 go_ret
 exact ⟨rfl, by repeat (exact Below.refl _ _)⟩
set_option maxHeartbeats 4000000 in
set_option maxRecDepth 100000 in
theorem joiner_add.calls0n (base g : Nat) (A0 : Option Addr) (c0 : Nat) (x : Int) (l : List Int) (n : Int) (w : World) (hg : w.heap[g]? = some (.cells #[.slice A0 l.length c0] 151 (0, 0))) (hb : base ≤ g) (hO : Kd.R (Kd.int .i64) 2 w base (fun k => k ≠ g) (.slice A0 l.length c0) l) (hlen : l.length ≤ 4096) (hl : (0 : Int) < l.length) (hlast : ¬ rd l ((l.length : Int) - 1) = x) (hov0 : ¬ n > 4096 - (l.length : Int)) :
 Calls Tryz.prog 126 #[.pointer (some ⟨g, 0, none⟩), .int .i64 x, .int .u64 n] w fun e w' => e = .returned (.int .i64 0) ∧ Below base w w' ∧ ∃ v', w'.heap[g]? = some (.cells #[v'] 151 (0, 0)) ∧ Kd.R (Kd.int .i64) 2 w' base (fun k => k ≠ g) v' (l ++ List.replicate n.toNat x) := by
 have HO := Aside0.mk hO
 have HG := Aside0.mk hg
 have HBG := Aside0.mk hb
 have hc := cell_of_blk hg
 clear hO hg hb
 have HN4 := Aside0.mk (show (l.length : Int) + n.toNat ≤ 4096 by omega)
 have cz : decide ((0 : Int) < (l.length : Int)) = true := decide_eq_true hl
 have cz' : decide (0 < l.length) = true := decide_eq_true (by omega)
 obtain ⟨ji, hji⟩ : ∃ ji : Int, ji = (l.length : Int) - 1 := ⟨_, rfl⟩
 have hjw : IntKind.i64.wrap ((l.length : Int) - 1) = ji := by rw [i64_w, hji]; unfold wrap64; omega
 have hjv : wrap64 ((l.length : Int) - 1) = ji := by rw [hji]; unfold wrap64; omega
 obtain ⟨ad, had, hx⟩ := Kd.at_int (Kd.R_reads' HO.out).2.2 ji (by omega) (by omega)
 subst had
 have p0 : (0 ≤ ji) = True := eq_true (by omega)
 have q0 : (ji < (l.length : Int)) = True := eq_true (by omega)
 rw [← hji] at hlast
 clear hji
 have e1 : (rd l ji == x) = false := beq_eq_false_iff_ne.mpr hlast
 clear hlast
 obtain ⟨m, hmm⟩ : ∃ m : Int, m = 4096 - (l.length : Int) := ⟨_, rfl⟩
 have hm1 : IntKind.i64.wrap (4096 - (l.length : Int)) = m := by rw [i64_w, hmm]; unfold wrap64; omega
 have hm2 : IntKind.u64.wrap m = m := wrap_u64_of (by omega) (by omega)
 have hov : decide (m < n) = false := decide_eq_false (by omega)
 clear hmm hov0
 clear hlen hl
 go_enter Tryz.func126, Tryz.ntmps126
 go_wp2
 have HB := Aside0.mk (Below.refl base w)
 have HN := Aside0.mk hov
 clear hov hc
 obtain ⟨K, hK⟩ : ∃ K : Nat, K = n.toNat := ⟨_, rfl⟩
 have HKn := Aside0.mk (show (K : Int) = (n.toNat : Int) by omega)
 clear hK
 go_loopg [35] K (fun kq v35 w' => ∃ (i : Int) (A1 : Option Addr) (c1 : Nat) (ys : List Int), v35 = .int .u64 i ∧ Aside0 (0 ≤ i) ∧ Aside0 (i + kq = (n.toNat : Int)) ∧ Aside0 (ys = l ++ List.replicate i.toNat x) ∧ Aside0 (w'.heap[g]? = some (.cells #[.slice A1 ys.length c1] 151 (0, 0))) ∧ Aside0 (Kd.R (Kd.int .i64) 2 w' base (fun k => k ≠ g) (.slice A1 ys.length c1) ys) ∧ Aside0 (Below base w w'))
 case atStart => exact ⟨0, _, _, l, (by rfl), ⟨Int.le_refl _⟩, ⟨by have := HKn.out; omega⟩, ⟨by simp⟩, ⟨HG.out⟩, ⟨by repeat (exact HO.out)⟩, ⟨by repeat (exact HB.out)⟩⟩
 case round =>
  clear HG HO HB HKn
  try clear hm1
  try clear hm2
  try clear cz'
  try clear hjw
  try clear hjv
  try clear hx
  try clear p0
  try clear q0
  try clear e1
  obtain ⟨i, A1, c1, ys, rfl, H0, H1, HY, HG, HO, HB⟩ := hrel
  cases gk with
  | zero =>
   have hi : decide (i < n) = false := decide_eq_false (by have := H1.out; simp at this; omega)
   go_wp2
   go_ret
   have hin : i.toNat = n.toNat := by have := H1.out; simp at this; omega
   refine ⟨rfl, HB.out, _, HG.out, ?_⟩
   have hy := HY.out
   rw [hin] at hy
   rw [← hy]
   exact HO.out
  | succ k1 =>
   have hlt : i < n := by have := H1.out; have := H0.out; push_cast at *; omega
   have hi : decide (i < n) = true := decide_eq_true hlt
   have hsz : ys.length + 1 ≤ 4096 := by
    have h0 := H0.out
    have h9 := HN4.out
    rw [HY.out]
    simp
    omega
   have HSZ := Aside0.mk hsz
   have HLT := Aside0.mk hlt
   clear hsz hlt
   have hce := cell_of_blk HG.out
   go_wp2_with ((at_builtin; refine Kd.R_append (Kd.int .i64) (w0 := w) base rfl (.tmp 41) (.tmp 43) 114 2 (.int .i64 0) 8 rfl Tryz.underlying114 info2 rfl (by decide) (by omega) (.slice A1 ys.length c1) ys x [.int .i64 x] (fun k => k ≠ g) (fun _ => False) rfl rfl ?aP (fun _ hk => hk.elim) ?aF ?aO ?aB ?aS ?aL ?_; (case aP => rfl); (case aB => exact (by repeat (exact HB.out))); (case aF => exact (fun k hk => fresh_ne (by repeat (exact HG.out)) hk)); (case aO => exact (by repeat (exact HO.out))); (case aS => exact (Nat.le_trans (Nat.le_of_lt (Nat.lt_of_le_of_lt HBG.out (blk_lt HG.out))) (by exact Nat.le_refl _))); (case aL => have := HSZ.out; omega); intro v1 w6 ho hb hgr hat; have HG6 := Aside0.mk (blk_grown (w1 := w6) (by repeat (exact HG.out)) hgr (fun e => HO.out.1 g e.symm rfl)); have hfr6 := frozen_of_blk HG6.out; have hce6 := cell_of_blk HG6.out; have HO6 := Aside0.mk ho; have HB6 := Aside0.mk hb; clear ho hb hgr hat; obtain ⟨A2, c2, eo2⟩ := Kd.R_slice HO6.out; subst eo2))
   go_roundg k1
   case measure => omega
   case rel =>
    refine ⟨i + 1, A2, c2, ys ++ [x], ?_, ⟨by have := H0.out; omega⟩, ⟨by have := H1.out; push_cast at *; omega⟩, ⟨?_⟩, ⟨by rw [List.length_append]; exact blk_set HG6.out 0 _⟩, ⟨Kd.R_far HO6.out (fun _ hk => hk) _⟩, ⟨Below.setCell HB6.out HBG.out _⟩⟩
    ·rw [wrap_u64_of (by have := H0.out; omega) (by have := HLT.out; have := HN4.out; omega)]
    rw [HY.out, List.append_assoc, ← List.replicate_succ']
    congr 2
    have := H0.out
    omega
set_option maxHeartbeats 4000000 in
set_option maxRecDepth 100000 in
theorem joiner_add.calls0e (base g : Nat) (A0 : Option Addr) (c0 : Nat) (x : Int) (l : List Int) (n : Int) (w : World) (hg : w.heap[g]? = some (.cells #[.slice A0 l.length c0] 151 (0, 0))) (hb : base ≤ g) (hO : Kd.R (Kd.int .i64) 2 w base (fun k => k ≠ g) (.slice A0 l.length c0) l) (hlen : l.length ≤ 4096) (hl : (l.length : Int) = 0) (hov0 : ¬ n > 4096 - (l.length : Int)) :
 Calls Tryz.prog 126 #[.pointer (some ⟨g, 0, none⟩), .int .i64 x, .int .u64 n] w fun e w' => e = .returned (.int .i64 0) ∧ Below base w w' ∧ ∃ v', w'.heap[g]? = some (.cells #[v'] 151 (0, 0)) ∧ Kd.R (Kd.int .i64) 2 w' base (fun k => k ≠ g) v' (l ++ List.replicate n.toNat x) := by
 have HO := Aside0.mk hO
 have HG := Aside0.mk hg
 have HBG := Aside0.mk hb
 have hc := cell_of_blk hg
 clear hO hg hb
 have HN4 := Aside0.mk (show (l.length : Int) + n.toNat ≤ 4096 by omega)
 have cz : decide ((0 : Int) < (l.length : Int)) = false := by rw [hl]; rfl
 have cz' : decide (0 < l.length) = false := decide_eq_false (by omega)
 obtain ⟨m, hmm⟩ : ∃ m : Int, m = 4096 - (l.length : Int) := ⟨_, rfl⟩
 have hm1 : IntKind.i64.wrap (4096 - (l.length : Int)) = m := by rw [i64_w, hmm]; unfold wrap64; omega
 have hm2 : IntKind.u64.wrap m = m := wrap_u64_of (by omega) (by omega)
 have hov : decide (m < n) = false := decide_eq_false (by omega)
 clear hmm hov0
 clear hlen hl
 go_enter Tryz.func126, Tryz.ntmps126
 go_wp2
 have HB := Aside0.mk (Below.refl base w)
 have HN := Aside0.mk hov
 clear hov hc
 obtain ⟨K, hK⟩ : ∃ K : Nat, K = n.toNat := ⟨_, rfl⟩
 have HKn := Aside0.mk (show (K : Int) = (n.toNat : Int) by omega)
 clear hK
 go_loopg [35] K (fun kq v35 w' => ∃ (i : Int) (A1 : Option Addr) (c1 : Nat) (ys : List Int), v35 = .int .u64 i ∧ Aside0 (0 ≤ i) ∧ Aside0 (i + kq = (n.toNat : Int)) ∧ Aside0 (ys = l ++ List.replicate i.toNat x) ∧ Aside0 (w'.heap[g]? = some (.cells #[.slice A1 ys.length c1] 151 (0, 0))) ∧ Aside0 (Kd.R (Kd.int .i64) 2 w' base (fun k => k ≠ g) (.slice A1 ys.length c1) ys) ∧ Aside0 (Below base w w'))
 case atStart => exact ⟨0, _, _, l, (by rfl), ⟨Int.le_refl _⟩, ⟨by have := HKn.out; omega⟩, ⟨by simp⟩, ⟨HG.out⟩, ⟨by repeat (exact HO.out)⟩, ⟨by repeat (exact HB.out)⟩⟩
 case round =>
  clear HG HO HB HKn
  try clear hm1
  try clear hm2
  try clear cz'
  obtain ⟨i, A1, c1, ys, rfl, H0, H1, HY, HG, HO, HB⟩ := hrel
  cases gk with
  | zero =>
   have hi : decide (i < n) = false := decide_eq_false (by have := H1.out; simp at this; omega)
   go_wp2
   go_ret
   have hin : i.toNat = n.toNat := by have := H1.out; simp at this; omega
   refine ⟨rfl, HB.out, _, HG.out, ?_⟩
   have hy := HY.out
   rw [hin] at hy
   rw [← hy]
   exact HO.out
  | succ k1 =>
   have hlt : i < n := by have := H1.out; have := H0.out; push_cast at *; omega
   have hi : decide (i < n) = true := decide_eq_true hlt
   have hsz : ys.length + 1 ≤ 4096 := by
    have h0 := H0.out
    have h9 := HN4.out
    rw [HY.out]
    simp
    omega
   have HSZ := Aside0.mk hsz
   have HLT := Aside0.mk hlt
   clear hsz hlt
   have hce := cell_of_blk HG.out
   go_wp2_with ((at_builtin; refine Kd.R_append (Kd.int .i64) (w0 := w) base rfl (.tmp 41) (.tmp 43) 114 2 (.int .i64 0) 8 rfl Tryz.underlying114 info2 rfl (by decide) (by omega) (.slice A1 ys.length c1) ys x [.int .i64 x] (fun k => k ≠ g) (fun _ => False) rfl rfl ?aP (fun _ hk => hk.elim) ?aF ?aO ?aB ?aS ?aL ?_; (case aP => rfl); (case aB => exact (by repeat (exact HB.out))); (case aF => exact (fun k hk => fresh_ne (by repeat (exact HG.out)) hk)); (case aO => exact (by repeat (exact HO.out))); (case aS => exact (Nat.le_trans (Nat.le_of_lt (Nat.lt_of_le_of_lt HBG.out (blk_lt HG.out))) (by exact Nat.le_refl _))); (case aL => have := HSZ.out; omega); intro v1 w6 ho hb hgr hat; have HG6 := Aside0.mk (blk_grown (w1 := w6) (by repeat (exact HG.out)) hgr (fun e => HO.out.1 g e.symm rfl)); have hfr6 := frozen_of_blk HG6.out; have hce6 := cell_of_blk HG6.out; have HO6 := Aside0.mk ho; have HB6 := Aside0.mk hb; clear ho hb hgr hat; obtain ⟨A2, c2, eo2⟩ := Kd.R_slice HO6.out; subst eo2))
   go_roundg k1
   case measure => omega
   case rel =>
    refine ⟨i + 1, A2, c2, ys ++ [x], ?_, ⟨by have := H0.out; omega⟩, ⟨by have := H1.out; push_cast at *; omega⟩, ⟨?_⟩, ⟨by rw [List.length_append]; exact blk_set HG6.out 0 _⟩, ⟨Kd.R_far HO6.out (fun _ hk => hk) _⟩, ⟨Below.setCell HB6.out HBG.out _⟩⟩
    ·rw [wrap_u64_of (by have := H0.out; omega) (by have := HLT.out; have := HN4.out; omega)]
    rw [HY.out, List.append_assoc, ← List.replicate_succ']
    congr 2
    have := H0.out
    omega
theorem joiner_add.calls4 (base g : Nat) (A0 : Option Addr) (c0 : Nat) (x : Int) (l : List Int) (n : Int) (w : World) (hg : w.heap[g]? = some (.cells #[.slice A0 l.length c0] 151 (0, 0))) (hb : base ≤ g) (hO : Kd.R (Kd.int .i64) 2 w base (fun k => k ≠ g) (.slice A0 l.length c0) l) (hlen : l.length ≤ 4096) (hl : ¬ (l ≠ [] ∧ rd l ((l.length : Int) - 1) = x)) (hov : n > 4096 - (l.length : Int)) :
 Calls Tryz.prog 126 #[.pointer (some ⟨g, 0, none⟩), .int .i64 x, .int .u64 n] w fun e w' => e = .returned (.int .i64 4) ∧ Below base w w' := by
 rcases Nat.eq_zero_or_pos l.length with h | h
 ·exact joiner_add.calls4e base g A0 c0 x l n w hg hb hO hlen (by omega) hov
 exact joiner_add.calls4n base g A0 c0 x l n w hg hb hO hlen (by omega) (fun e => hl ⟨fun e2 => by rw [e2] at h; simp at h, e⟩) hov
theorem joiner_add.calls0 (base g : Nat) (A0 : Option Addr) (c0 : Nat) (x : Int) (l : List Int) (n : Int) (w : World) (hg : w.heap[g]? = some (.cells #[.slice A0 l.length c0] 151 (0, 0))) (hb : base ≤ g) (hO : Kd.R (Kd.int .i64) 2 w base (fun k => k ≠ g) (.slice A0 l.length c0) l) (hlen : l.length ≤ 4096) (hl : ¬ (l ≠ [] ∧ rd l ((l.length : Int) - 1) = x)) (hov : ¬ n > 4096 - (l.length : Int)) :
 Calls Tryz.prog 126 #[.pointer (some ⟨g, 0, none⟩), .int .i64 x, .int .u64 n] w fun e w' => e = .returned (.int .i64 0) ∧ Below base w w' ∧ ∃ v', w'.heap[g]? = some (.cells #[v'] 151 (0, 0)) ∧ Kd.R (Kd.int .i64) 2 w' base (fun k => k ≠ g) v' (l ++ List.replicate n.toNat x) := by
 rcases Nat.eq_zero_or_pos l.length with h | h
 ·exact joiner_add.calls0e base g A0 c0 x l n w hg hb hO hlen (by omega) hov
 exact joiner_add.calls0n base g A0 c0 x l n w hg hb hO hlen (by omega) (fun e => hl ⟨fun e2 => by rw [e2] at h; simp at h, e⟩) hov
def runs_Decode.l0 : Nat → List Int → List Int → Int → Int → Int → Option (List Int × Int)
 | 0, _, _, _, _, _ => none
 | k + 1, l, out, n, at_, i =>
  if i < n then
   (vint_Get.f k l at_).bind fun v =>
    if v.2.2 = 0 then
     (vint_Get.f k l v.2.1).bind fun c =>
      if c.2.2 = 0 then
       if c.1 = 0 then some ([], 5) else
        (bits_Unfold.f v.1).bind fun u =>
         if out ≠ [] ∧ rd out ((out.length : Int) - 1) = u then some ([], 5)
         else if c.1 > 4096 - (out.length : Int) then some ([], 4)
         else runs_Decode.l0 k l (out ++ List.replicate c.1.toNat u) n c.2.1 (i + 1)
      else some ([], c.2.2)
    else some ([], v.2.2)
  else if at_ < (l.length : Int) then some ([], 3) else some (out, 0)
def runs_Decode.f (k : Nat) (l0 : List Int) : Option (List Int × Int) :=
 (vint_Get.f k l0 0).bind fun b => if b.2.2 = 0 then (if b.1 > 4096 then some ([], 4) else runs_Decode.l0 k l0 [] b.1 b.2.1 0) else some ([], b.2.2)
set_option maxHeartbeats 8000000 in
set_option maxRecDepth 100000 in
theorem runs_Decode.calls (k : Nat) (A0 : Option Addr) (c0 : Nat) (l0 : List Int) (r1 : List Int) (r2 : Int) (w : World) (hr0 : Kd.C (Kd.int .u8) w A0 l0.length l0) (hc0 : l0.length ≤ c0) (h : runs_Decode.f k l0 = some (r1, r2)) :
 Calls Tryz.prog 86 #[.slice A0 l0.length c0] w fun e w' => ∃ v0_ : Value, e = .returned (.tuple #[v0_, .int .i64 r2]) ∧ Kd.R (Kd.int .i64) 2 w' w.heap.size (fun _ => True) v0_ r1 ∧ Below w.heap.size w w' := by
 have HR0 := Aside0.mk hr0
 have HC0 := Aside0.mk hc0
 clear hr0 hc0
 have HB := Aside0.mk (Below.refl w.heap.size w)
 unfold runs_Decode.f at h
 obtain ⟨⟨t1, t2, t3⟩, A10, H⟩ := Option.bind_eq_some_iff.mp h
 clear h
 have A1 := Aside0.mk A10
 clear A10
 dsimp only at H
 by_cases c3 : t3 = 0
 ·rw [if_pos c3] at H
  have c3a : (t3 == 0) = true := beq_iff_eq.mpr c3
  have c3b : (t3 != 0) = false := bne_eq_false_iff_eq.mpr c3
  by_cases c2 : t1 > 4096
  ·rw [if_pos c2] at H
   have c2a : decide (4096 < t1) = true := decide_eq_true c2
   clear c2
   simp only [Option.some.injEq, Prod.mk.injEq] at H
   obtain ⟨rfl, rfl⟩ := H
   go_enter Tryz.func86, Tryz.ntmps86
   go_wp2_with ((refine goL_ Tryz.func45 #[.slice A0 l0.length c0, .int .i64 0] ?_; (with_reducible refine (vint_Get.calls k _ _ l0 0 t1 t2 t3 _ (HR0.out) (HC0.out) A1.out).mono ?_); rintro e w' ⟨rfl, ⟨nd, rfl⟩⟩; refine ⟨_, rfl, ?_⟩))
   go_ret2
   exact ⟨_, rfl, Kd.R_nil _ _ _ _ _, by repeat (first | exact HB.out | apply pw_below_drewN)⟩
  rw [if_neg c2] at H
  have c2a : decide (4096 < t1) = false := decide_eq_false c2
  have HLT := Aside0.mk (show t1 ≤ 4096 by omega)
  clear c2
  have H' := Aside0.mk H
  clear H
  go_enter Tryz.func86, Tryz.ntmps86
  go_wp2_with ((refine goL_ Tryz.func45 #[.slice A0 l0.length c0, .int .i64 0] ?_; (with_reducible refine (vint_Get.calls k _ _ l0 0 t1 t2 t3 _ (HR0.out) (HC0.out) A1.out).mono ?_); rintro e w' ⟨rfl, ⟨nd, rfl⟩⟩; refine ⟨_, rfl, ?_⟩))
  go_loopg [5, 24] k (fun kq v5 v24 w' => ∃ (a i : Int) (A1 : Option Addr) (c1 : Nat) (out : List Int), v5 = .int .i64 a ∧ v24 = .int .u64 i ∧ Aside0 (0 ≤ i) ∧ Aside0 (runs_Decode.l0 kq l0 out t1 a i = some (r1, r2)) ∧ Aside0 (kq ≤ k) ∧ Aside0 (out.length ≤ 4096) ∧ Aside0 (w'.heap[w.heap.size]? = some (.cells #[.slice A1 out.length c1] 151 (0, 0))) ∧ Aside0 (Kd.R (Kd.int .i64) 2 w' w.heap.size (fun k => k ≠ w.heap.size) (.slice A1 out.length c1) out) ∧ Aside0 (Below w.heap.size w w'))
  case atStart => exact ⟨t2, 0, none, 0, [], rfl, rfl, ⟨Int.le_refl _⟩, H', ⟨Nat.le_refl _⟩, ⟨by simp⟩, ⟨heap_alloc_new _ _⟩, ⟨Kd.R_nil _ _ _ _ _⟩, ⟨by repeat (first | exact HB.out | apply below_alloc | apply pw_below_drewN)⟩⟩
  case round =>
   clear H'
   try clear c3
   try clear c3a
   try clear c3b
   try clear c2a
   clear HB A1
   obtain ⟨a, i, A1, c1, out, rfl, rfl, H0, HA, HK1, HLE, HG, HO, HB⟩ := hrel
   cases gk with
   | zero => exact absurd HA.out (by simp [runs_Decode.l0])
   | succ k1 =>
    have H := HA.out
    clear HA
    simp only [runs_Decode.l0] at H
    by_cases ci : i < t1
    ·rw [if_pos ci] at H
     have cia : decide (i < t1) = true := decide_eq_true ci
     have HI := Aside0.mk ci
     clear ci
     obtain ⟨⟨t4, t5, t6⟩, A40, H⟩ := Option.bind_eq_some_iff.mp H
     have A4 := Aside0.mk A40
     clear A40
     dsimp only at H
     by_cases c6 : t6 = 0
     ·rw [if_pos c6] at H
      have c6a : (t6 == 0) = true := beq_iff_eq.mpr c6
      have c6b : (t6 != 0) = false := bne_eq_false_iff_eq.mpr c6
      obtain ⟨⟨t7, t8, t9⟩, A70, H⟩ := Option.bind_eq_some_iff.mp H
      have A7 := Aside0.mk A70
      clear A70
      dsimp only at H
      by_cases c9 : t9 = 0
      ·rw [if_pos c9] at H
       have c9a : (t9 == 0) = true := beq_iff_eq.mpr c9
       have c9b : (t9 != 0) = false := bne_eq_false_iff_eq.mpr c9
       by_cases c7 : t7 = 0
       ·rw [if_pos c7] at H
        have c7a : (t7 == 0) = true := beq_iff_eq.mpr c7
        have c7b : (t7 != 0) = false := bne_eq_false_iff_eq.mpr c7
        simp only [Option.some.injEq, Prod.mk.injEq] at H
        obtain ⟨rfl, rfl⟩ := H
        go_wp2_with (first | ((with_reducible refine gate_callee (f := 45) rfl ?_); refine goL_ Tryz.func45 #[.slice A0 l0.length c0, .int .i64 a] ?_; (with_reducible refine (vint_Get.calls k1 _ _ l0 a t4 t5 t6 _ (Kd.C_below HR0.out HB.out) (HC0.out) A4.out).mono ?_); rintro e w' ⟨rfl, ⟨nd, rfl⟩⟩; refine ⟨_, rfl, ?_⟩) | ((with_reducible refine gate_callee (f := 45) rfl ?_); refine goL_ Tryz.func45 #[.slice A0 l0.length c0, .int .i64 t5] ?_; (with_reducible refine (vint_Get.calls k1 _ _ l0 t5 t7 t8 t9 _ ?side1 ?side2 A7.out).mono ?_); (case side1 => repeat (first | exact (Kd.C_below HR0.out HB.out) | (with_reducible refine Kd.C_drewN ?_ _))); (case side2 => exact HC0.out); rintro e w' ⟨rfl, ⟨nd, rfl⟩⟩; refine ⟨_, rfl, ?_⟩))
        go_ret2
        exact ⟨_, rfl, Kd.R_nil _ _ _ _ _, by repeat (first | exact HB.out | apply pw_below_drewN)⟩
       rw [if_neg c7] at H
       have c7a : (t7 == 0) = false := beq_eq_false_iff_ne.mpr c7
       have c7b : (t7 != 0) = true := bne_iff_ne.mpr c7
       obtain ⟨u, AU0, H⟩ := Option.bind_eq_some_iff.mp H
       have AU := Aside0.mk AU0
       clear AU0
       clear c6 c7 c9
       by_cases cl : out ≠ [] ∧ rd out ((out.length : Int) - 1) = u
       ·rw [if_pos cl] at H
        simp only [Option.some.injEq, Prod.mk.injEq] at H
        obtain ⟨rfl, rfl⟩ := H
        have hlp := Aside0.mk (List.length_pos_iff.mpr cl.1)
        have hla := Aside0.mk cl.2
        clear cl
        go_wp2_with (first | ((with_reducible refine gate_callee (f := 45) rfl ?_); refine goL_ Tryz.func45 #[.slice A0 l0.length c0, .int .i64 a] ?_; (with_reducible refine (vint_Get.calls k1 _ _ l0 a t4 t5 t6 _ (Kd.C_below HR0.out HB.out) (HC0.out) A4.out).mono ?_); rintro e w' ⟨rfl, ⟨nd, rfl⟩⟩; refine ⟨_, rfl, ?_⟩) | ((with_reducible refine gate_callee (f := 45) rfl ?_); refine goL_ Tryz.func45 #[.slice A0 l0.length c0, .int .i64 t5] ?_; (with_reducible refine (vint_Get.calls k1 _ _ l0 t5 t7 t8 t9 _ ?side1 ?side2 A7.out).mono ?_); (case side1 => repeat (first | exact (Kd.C_below HR0.out HB.out) | (with_reducible refine Kd.C_drewN ?_ _))); (case side2 => exact HC0.out); rintro e w' ⟨rfl, ⟨nd, rfl⟩⟩; refine ⟨_, rfl, ?_⟩) | ((with_reducible refine gate_callee (f := 125) rfl ?_); refine goL_ Tryz.func125 #[.int .u64 t4] ?_; (with_reducible refine (bits_Unfold.calls t4 u _ AU.out).mono ?_); rintro e w' ⟨rfl, ⟨nd, rfl⟩⟩; refine ⟨_, rfl, ?_⟩) | ((with_reducible refine gate_callee (f := 126) rfl ?_); refine goL_ Tryz.func126 #[.pointer (some ⟨w.heap.size, 0, none⟩), .int .i64 u, .int .u64 t7] ?_; (refine (joiner_add.calls5 w.heap.size w.heap.size A1 c1 u out t7 _ ?sg (Nat.le_refl _) ?so HLE.out (by have := hlp.out; omega) hla.out).mono ?_); (case sg => exact (by repeat (exact HG.out))); (case so => exact (by repeat (exact HO.out))); rintro e w' ⟨rfl, hb⟩; have HB9 := Aside0.mk (Below.trans (by repeat (first | exact HB.out | apply pw_below_drewN)) hb); clear hb; refine ⟨_, rfl, ?_⟩))
        go_ret2
        exact ⟨_, rfl, Kd.R_nil _ _ _ _ _, by repeat (exact HB9.out)⟩
       rw [if_neg cl] at H
       by_cases co : t7 > 4096 - (out.length : Int)
       ·rw [if_pos co] at H
        simp only [Option.some.injEq, Prod.mk.injEq] at H
        obtain ⟨rfl, rfl⟩ := H
        have hla := Aside0.mk cl
        have hov := Aside0.mk co
        clear cl co
        go_wp2_with (first | ((with_reducible refine gate_callee (f := 45) rfl ?_); refine goL_ Tryz.func45 #[.slice A0 l0.length c0, .int .i64 a] ?_; (with_reducible refine (vint_Get.calls k1 _ _ l0 a t4 t5 t6 _ (Kd.C_below HR0.out HB.out) (HC0.out) A4.out).mono ?_); rintro e w' ⟨rfl, ⟨nd, rfl⟩⟩; refine ⟨_, rfl, ?_⟩) | ((with_reducible refine gate_callee (f := 45) rfl ?_); refine goL_ Tryz.func45 #[.slice A0 l0.length c0, .int .i64 t5] ?_; (with_reducible refine (vint_Get.calls k1 _ _ l0 t5 t7 t8 t9 _ ?side1 ?side2 A7.out).mono ?_); (case side1 => repeat (first | exact (Kd.C_below HR0.out HB.out) | (with_reducible refine Kd.C_drewN ?_ _))); (case side2 => exact HC0.out); rintro e w' ⟨rfl, ⟨nd, rfl⟩⟩; refine ⟨_, rfl, ?_⟩) | ((with_reducible refine gate_callee (f := 125) rfl ?_); refine goL_ Tryz.func125 #[.int .u64 t4] ?_; (with_reducible refine (bits_Unfold.calls t4 u _ AU.out).mono ?_); rintro e w' ⟨rfl, ⟨nd, rfl⟩⟩; refine ⟨_, rfl, ?_⟩) | ((with_reducible refine gate_callee (f := 126) rfl ?_); refine goL_ Tryz.func126 #[.pointer (some ⟨w.heap.size, 0, none⟩), .int .i64 u, .int .u64 t7] ?_; (refine (joiner_add.calls4 w.heap.size w.heap.size A1 c1 u out t7 _ ?sg (Nat.le_refl _) ?so HLE.out hla.out hov.out).mono ?_); (case sg => exact (by repeat (exact HG.out))); (case so => exact (by repeat (exact HO.out))); rintro e w' ⟨rfl, hb⟩; have HB9 := Aside0.mk (Below.trans (by repeat (first | exact HB.out | apply pw_below_drewN)) hb); clear hb; refine ⟨_, rfl, ?_⟩))
        go_ret2
        exact ⟨_, rfl, Kd.R_nil _ _ _ _ _, by repeat (exact HB9.out)⟩
       rw [if_neg co] at H
       have H' := Aside0.mk H
       clear H
       have hla := Aside0.mk cl
       have hov := Aside0.mk co
       clear cl co
       go_wp2_with (first | ((with_reducible refine gate_callee (f := 45) rfl ?_); refine goL_ Tryz.func45 #[.slice A0 l0.length c0, .int .i64 a] ?_; (with_reducible refine (vint_Get.calls k1 _ _ l0 a t4 t5 t6 _ (Kd.C_below HR0.out HB.out) (HC0.out) A4.out).mono ?_); rintro e w' ⟨rfl, ⟨nd, rfl⟩⟩; refine ⟨_, rfl, ?_⟩) | ((with_reducible refine gate_callee (f := 45) rfl ?_); refine goL_ Tryz.func45 #[.slice A0 l0.length c0, .int .i64 t5] ?_; (with_reducible refine (vint_Get.calls k1 _ _ l0 t5 t7 t8 t9 _ ?side1 ?side2 A7.out).mono ?_); (case side1 => repeat (first | exact (Kd.C_below HR0.out HB.out) | (with_reducible refine Kd.C_drewN ?_ _))); (case side2 => exact HC0.out); rintro e w' ⟨rfl, ⟨nd, rfl⟩⟩; refine ⟨_, rfl, ?_⟩) | ((with_reducible refine gate_callee (f := 125) rfl ?_); refine goL_ Tryz.func125 #[.int .u64 t4] ?_; (with_reducible refine (bits_Unfold.calls t4 u _ AU.out).mono ?_); rintro e w' ⟨rfl, ⟨nd, rfl⟩⟩; refine ⟨_, rfl, ?_⟩) | ((with_reducible refine gate_callee (f := 126) rfl ?_); refine goL_ Tryz.func126 #[.pointer (some ⟨w.heap.size, 0, none⟩), .int .i64 u, .int .u64 t7] ?_; (refine (joiner_add.calls0 w.heap.size w.heap.size A1 c1 u out t7 _ ?sg (Nat.le_refl _) ?so HLE.out hla.out hov.out).mono ?_); (case sg => exact (by repeat (exact HG.out))); (case so => exact (by repeat (exact HO.out))); rintro e w9 ⟨rfl, hb, v9, hg9, ho9⟩; have HB9 := Aside0.mk (Below.trans (by repeat (first | exact HB.out | apply pw_below_drewN)) hb); have HG9 := Aside0.mk hg9; have HO9 := Aside0.mk ho9; clear hb hg9 ho9; obtain ⟨A9, c9x, eo9⟩ := Kd.R_slice HO9.out; subst eo9; refine ⟨_, rfl, ?_⟩))
       go_roundg k1
       case measure => omega
       case rel => exact ⟨t8, i + 1, A9, c9x, out ++ List.replicate t7.toNat u, rfl, (by rw [wrap_u64_of (by have := H0.out; omega) (by have := HI.out; have := HLT.out; omega)]), ⟨by have := H0.out; omega⟩, ⟨H'.out⟩, ⟨by have := HK1.out; omega⟩, ⟨by have := hov.out; have := HLE.out; rw [List.length_append, List.length_replicate]; omega⟩, ⟨HG9.out⟩, ⟨HO9.out⟩, ⟨HB9.out⟩⟩
      rw [if_neg c9] at H
      have c9a : (t9 == 0) = false := beq_eq_false_iff_ne.mpr c9
      have c9b : (t9 != 0) = true := bne_iff_ne.mpr c9
      simp only [Option.some.injEq, Prod.mk.injEq] at H
      obtain ⟨rfl, rfl⟩ := H
      go_wp2_with (first | ((with_reducible refine gate_callee (f := 45) rfl ?_); refine goL_ Tryz.func45 #[.slice A0 l0.length c0, .int .i64 a] ?_; (with_reducible refine (vint_Get.calls k1 _ _ l0 a t4 t5 t6 _ (Kd.C_below HR0.out HB.out) (HC0.out) A4.out).mono ?_); rintro e w' ⟨rfl, ⟨nd, rfl⟩⟩; refine ⟨_, rfl, ?_⟩) | ((with_reducible refine gate_callee (f := 45) rfl ?_); refine goL_ Tryz.func45 #[.slice A0 l0.length c0, .int .i64 t5] ?_; (with_reducible refine (vint_Get.calls k1 _ _ l0 t5 t7 t8 t9 _ ?side1 ?side2 A7.out).mono ?_); (case side1 => repeat (first | exact (Kd.C_below HR0.out HB.out) | (with_reducible refine Kd.C_drewN ?_ _))); (case side2 => exact HC0.out); rintro e w' ⟨rfl, ⟨nd, rfl⟩⟩; refine ⟨_, rfl, ?_⟩))
      go_ret2
      exact ⟨_, rfl, Kd.R_nil _ _ _ _ _, by repeat (first | exact HB.out | apply pw_below_drewN)⟩
     rw [if_neg c6] at H
     have c6a : (t6 == 0) = false := beq_eq_false_iff_ne.mpr c6
     have c6b : (t6 != 0) = true := bne_iff_ne.mpr c6
     simp only [Option.some.injEq, Prod.mk.injEq] at H
     obtain ⟨rfl, rfl⟩ := H
     go_wp2_with ((refine goL_ Tryz.func45 #[.slice A0 l0.length c0, .int .i64 a] ?_; (with_reducible refine (vint_Get.calls k1 _ _ l0 a t4 t5 t6 _ (Kd.C_below HR0.out HB.out) (HC0.out) A4.out).mono ?_); rintro e w' ⟨rfl, ⟨nd, rfl⟩⟩; refine ⟨_, rfl, ?_⟩))
     go_ret2
     exact ⟨_, rfl, Kd.R_nil _ _ _ _ _, by repeat (first | exact HB.out | apply pw_below_drewN)⟩
    rw [if_neg ci] at H
    have cia : decide (i < t1) = false := decide_eq_false ci
    clear ci
    by_cases ca : a < (l0.length : Int)
    ·rw [if_pos ca] at H
     have caa : decide (a < (l0.length : Int)) = true := decide_eq_true ca
     clear ca
     simp only [Option.some.injEq, Prod.mk.injEq] at H
     obtain ⟨rfl, rfl⟩ := H
     go_wp2
     go_ret2
     exact ⟨_, rfl, Kd.R_nil _ _ _ _ _, by repeat (exact HB.out)⟩
    rw [if_neg ca] at H
    have caa : decide (a < (l0.length : Int)) = false := decide_eq_false ca
    clear ca
    simp only [Option.some.injEq, Prod.mk.injEq] at H
    obtain ⟨rfl, rfl⟩ := H
    have hce := cell_of_blk HG.out
    go_wp2
    go_ret2
    exact ⟨_, rfl, Kd.R_mono HO.out (fun _ _ => trivial), by repeat (exact HB.out)⟩
 rw [if_neg c3] at H
 have c3a : (t3 == 0) = false := beq_eq_false_iff_ne.mpr c3
 have c3b : (t3 != 0) = true := bne_iff_ne.mpr c3
 simp only [Option.some.injEq, Prod.mk.injEq] at H
 obtain ⟨rfl, rfl⟩ := H
 go_enter Tryz.func86, Tryz.ntmps86
 go_wp2_with ((refine goL_ Tryz.func45 #[.slice A0 l0.length c0, .int .i64 0] ?_; (with_reducible refine (vint_Get.calls k _ _ l0 0 t1 t2 t3 _ (HR0.out) (HC0.out) A1.out).mono ?_); rintro e w' ⟨rfl, ⟨nd, rfl⟩⟩; refine ⟨_, rfl, ?_⟩))
 go_ret2
 exact ⟨_, rfl, Kd.R_nil _ _ _ _ _, by repeat (first | exact HB.out | apply pw_below_drewN)⟩
end Go.Proofs.YtjbhaepkldgfnaaGreat.S
namespace Go.Proofs.YtjbhaepkldgfnaaGreat.S
open Go.RowKit Go.Proofs.YtjbhaepkldgfnaaGreatW.PrintWords Go.Proofs.YtjbhaepkldgfnaaGreatW.PrintLast Go.Proofs.YtjbhaepkldgfnaaGreatW.PrintMore
attribute [local go_sem] max2_int min2_int max_two min_two max_three min_three max_four min_four
set_option linter.unusedVariables false
set_option linter.unusedSimpArgs false
def stoaref01_Same.l0 : Nat → List Int → List Int → Int → Option (Bool)
 | 0, _, _, _ => none
 | k + 1, x0, x1, x5 => if x5 < (x0.length : Int) then (if 0 ≤ x5 then (if x5 < (x1.length : Int) then (if (rd x0 x5) = (rd x1 x5) then (stoaref01_Same.l0 k x0 x1 (wrap64 (x5 + 1))) else (some false)) else (none)) else (none)) else (some true)
def stoaref01_Same.f (k : Nat) (l0 : List Int) (l1 : List Int) : Option (Bool) := if (l0.length : Int) = (l1.length : Int) then (stoaref01_Same.l0 k l0 l1 0) else (some false)
set_option maxHeartbeats 8000000 in
set_option maxRecDepth 100000 in
theorem stoaref01_Same.calls (k : Nat) (A0 : Option Addr) (c0 : Nat) (l0 : List Int) (A1 : Option Addr) (c1 : Nat) (l1 : List Int) (r : Bool) (w : World) (hr0 : Kd.C (Kd.int .u8) w A0 l0.length l0) (hc0 : l0.length ≤ c0) (hr1 : Kd.C (Kd.int .u8) w A1 l1.length l1) (hc1 : l1.length ≤ c1) (h : stoaref01_Same.f k l0 l1 = some r) :
 Calls Tryz.prog 17 #[.slice A0 l0.length c0, .slice A1 l1.length c1] w fun e w' => e = .returned (.bool r) ∧ Drawn0 w w' := by
 have HR0 := Aside0.mk hr0
 have HC0 := Aside0.mk hc0
 clear hr0 hc0
 have HR1 := Aside0.mk hr1
 have HC1 := Aside0.mk hc1
 clear hr1 hc1
 unfold stoaref01_Same.f at h
 have H := h
 clear h
 by_cases c3 : (l0.length : Int) = (l1.length : Int)
 ·rw [if_pos c3] at H
  have c3b0 : ((l0.length : Int) == (l1.length : Int)) = true := beq_iff_eq.mpr c3
  have c3b1 : ((l0.length : Int) != (l1.length : Int)) = false := bne_eq_false_iff_eq.mpr c3
  have c3b2 : (l0.length == l1.length) = true := by (simp at c3 ⊢; omega)
  clear c3
  have H' := Aside0.mk H
  clear H
  go_enter Tryz.func17, Tryz.ntmps17
  go_wp2
  repeat (go_quiet (fail); skip)
  go_loopg [5] k (fun kq v5 w' => ∃ (x5_1 : Int), v5 = .int .i64 x5_1 ∧ Aside0 (stoaref01_Same.l0 kq l0 l1 x5_1 = some r) ∧ Aside0 (kq ≤ k) ∧ Drawn0 w w')
  case atStart => exact ⟨(0), (by rfl), H', ⟨Nat.le_refl _⟩, by repeat (exact Drawn0.refl _)⟩
  case round =>
   clear H'
   try clear c3b0
   try clear c3b1
   try clear c3b2
   obtain ⟨x5_1, rfl, HA, HK1, ⟨m1, rfl⟩⟩ := hrel
   cases gk with
   | zero => exact absurd HA.out (by simp [stoaref01_Same.l0])
   | succ k1 =>
    have H := HA.out
    clear HA
    simp only [stoaref01_Same.l0] at H
    by_cases c4 : x5_1 < (l0.length : Int)
    ·rw [if_pos c4] at H
     have c4b0 : decide (x5_1 < (l0.length : Int)) = true := decide_eq_true c4
     clear c4
     by_cases c5 : 0 ≤ x5_1
     ·rw [if_pos c5] at H
      have c5b0 : decide (0 ≤ x5_1) = true := decide_eq_true c5
      clear c5
      by_cases c6 : x5_1 < (l1.length : Int)
      ·rw [if_pos c6] at H
       have c6b0 : decide (x5_1 < (l1.length : Int)) = true := decide_eq_true c6
       clear c6
       by_cases c7 : (rd l0 x5_1) = (rd l1 x5_1)
       ·rw [if_pos c7] at H
        have c7b0 : ((rd l0 x5_1) == (rd l1 x5_1)) = true := beq_iff_eq.mpr c7
        have c7b1 : ((rd l0 x5_1) != (rd l1 x5_1)) = false := bne_eq_false_iff_eq.mpr c7
        clear c7
        have H' := Aside0.mk H
        clear H
        have p683 : 0 ≤ (x5_1 : Int) := of_decide_eq_true ‹_›
        have q683 : x5_1 < (l0.length : Int) := of_decide_eq_true ‹_›
        obtain ⟨ad683, e683, hx683_0⟩ := Kd.at_int HR0.out x5_1 p683 q683
        cases e683
        replace p683 := eq_true p683
        replace q683 := eq_true q683
        have p684 : 0 ≤ (x5_1 : Int) := of_decide_eq_true ‹_›
        have q684 : x5_1 < (l1.length : Int) := of_decide_eq_true ‹_›
        obtain ⟨ad684, e684, hx684_0⟩ := Kd.at_int HR1.out x5_1 p684 q684
        cases e684
        replace p684 := eq_true p684
        replace q684 := eq_true q684
        go_wp2
        repeat (go_quiet (fail); try go_wp2)
        go_roundg k1
        case measure => have := HK1.out; omega
        case rel => exact ⟨(wrap64 (x5_1 + 1)), (by rfl), H', ⟨by have := HK1.out; omega⟩, by repeat (first | exact Drawn0.refl _ | apply Drawn0.step)⟩
       rw [if_neg c7] at H
       have c7b0 : ((rd l0 x5_1) == (rd l1 x5_1)) = false := beq_eq_false_iff_ne.mpr c7
       have c7b1 : ((rd l0 x5_1) != (rd l1 x5_1)) = true := bne_iff_ne.mpr c7
       obtain rfl := Option.some.inj H
       have p683 : 0 ≤ (x5_1 : Int) := of_decide_eq_true ‹_›
       have q683 : x5_1 < (l0.length : Int) := of_decide_eq_true ‹_›
       obtain ⟨ad683, e683, hx683_0⟩ := Kd.at_int HR0.out x5_1 p683 q683
       cases e683
       replace p683 := eq_true p683
       replace q683 := eq_true q683
       have p684 : 0 ≤ (x5_1 : Int) := of_decide_eq_true ‹_›
       have q684 : x5_1 < (l1.length : Int) := of_decide_eq_true ‹_›
       obtain ⟨ad684, e684, hx684_0⟩ := Kd.at_int HR1.out x5_1 p684 q684
       cases e684
       replace p684 := eq_true p684
       replace q684 := eq_true q684
       go_wp2
       repeat (go_quiet (fail); try go_wp2)
       go_ret
       exact ⟨by rfl, by repeat (first | exact Drawn0.refl _ | apply Drawn0.step)⟩
      rw [if_neg c6] at H
      exact absurd H (by simp)
     rw [if_neg c5] at H
     exact absurd H (by simp)
    rw [if_neg c4] at H
    have c4b0 : decide (x5_1 < (l0.length : Int)) = false := decide_eq_false c4
    clear c4
    obtain rfl := Option.some.inj H
    go_wp2
    repeat (go_quiet (fail); skip)
    go_ret
    exact ⟨by rfl, by repeat (first | exact Drawn0.refl _ | apply Drawn0.step)⟩
 rw [if_neg c3] at H
 have c3b0 : ((l0.length : Int) == (l1.length : Int)) = false := beq_eq_false_iff_ne.mpr c3
 have c3b1 : ((l0.length : Int) != (l1.length : Int)) = true := bne_iff_ne.mpr c3
 have c3b2 : (l0.length == l1.length) = false := by (simp at c3 ⊢; omega)
 obtain rfl := Option.some.inj H
 go_enter Tryz.func17, Tryz.ntmps17
 go_wp2
 repeat (go_quiet (fail); skip)
 go_ret
 exact ⟨by rfl, by repeat (exact Drawn0.refl _)⟩
mutual
def stoaref01_Cat.l0 : Nat → List Int → List Int → List Int → Int → Option (List Int)
 | 0, _, _, _, _ => none
 | k + 1, x0, x1, x5, x6 => if x6 < (x0.length : Int) then (if 0 ≤ x6 then (if x5.length < 140737488355328 then (stoaref01_Cat.l0 k x0 x1 (x5 ++ [rd x0 x6]) (wrap64 (x6 + 1))) else (none)) else (none)) else (stoaref01_Cat.l1 k x1 x5 0)
def stoaref01_Cat.l1 : Nat → List Int → List Int → Int → Option (List Int)
 | 0, _, _, _ => none
 | k + 1, x1, x5, x7 => if x7 < (x1.length : Int) then (if 0 ≤ x7 then (if x5.length < 140737488355328 then (stoaref01_Cat.l1 k x1 (x5 ++ [rd x1 x7]) (wrap64 (x7 + 1))) else (none)) else (none)) else (some x5)
end
def stoaref01_Cat.f (k : Nat) (l0 : List Int) (l1 : List Int) : Option (List Int) := stoaref01_Cat.l0 k l0 l1 (([] : List Int)) 0
set_option maxHeartbeats 8000000 in
set_option maxRecDepth 100000 in
theorem stoaref01_Cat.calls (k : Nat) (A0 : Option Addr) (c0 : Nat) (l0 : List Int) (A1 : Option Addr) (c1 : Nat) (l1 : List Int) (r : List Int) (w : World) (hr0 : Kd.C (Kd.int .u8) w A0 l0.length l0) (hc0 : l0.length ≤ c0) (hr1 : Kd.C (Kd.int .u8) w A1 l1.length l1) (hc1 : l1.length ≤ c1) (h : stoaref01_Cat.f k l0 l1 = some r) :
 Calls Tryz.prog 66 #[.slice A0 l0.length c0, .slice A1 l1.length c1] w fun e w' => ∃ v0_ : Value, e = .returned (v0_) ∧ Kd.R (Kd.int .u8) 5 w' w.heap.size (fun _ => True) v0_ r ∧ Below w.heap.size w w' := by
 have HR0 := Aside0.mk hr0
 have HC0 := Aside0.mk hc0
 clear hr0 hc0
 have HR1 := Aside0.mk hr1
 have HC1 := Aside0.mk hc1
 clear hr1 hc1
 have HB := Aside0.mk (Below.refl w.heap.size w)
 unfold stoaref01_Cat.f at h
 have H := h
 clear h
 obtain ⟨y685, hy685⟩ : ∃ y_ : List Int, y_ = (([] : List Int)) := ⟨_, rfl⟩
 replace H : (stoaref01_Cat.l0 k l0 l1 y685 0) = some r := by (rw [hy685]; with_reducible exact H)
 have Ny685 := Aside0.mk hy685
 clear hy685
 have H' := Aside0.mk H
 clear H
 go_enter Tryz.func66, Tryz.ntmps66
 go_wp2_with ((refine Kd.R_lit (Kd.int .u8) _ 5 ?hg (N := 8) ?hd (xs := ([] : List Int)) (inner := []) (ok := fun _ => True) (okp := fun _ => True) ?hr ?hp (fun _ hk => hk) trivial (Below.refl _ _) (Nat.le_refl _) (by simp) ?_; (case hd => rfl); (case hg => rfl); (case hr => (go_simp; done)); (case hp => exact (Reps.none _ _)); intro v686 w3 ho4 hb hg_ hnew_; clear hg_ hnew_; (rw [← Ny685.out] at ho4); have n0_ := Aside0.mk (Kd.R_lower ho4 (below_size HB.out)); have n1_ := Aside0.mk (below_step HB.out hb); revert n0_ n1_; clear HB; intro HO687 HB; clear hb ho4))
 go_loopg [5, 6] k (fun kq v5 v6 w' => ∃ (x5_1 : List Int) (x6_1 : Int), v6 = .int .i64 x6_1 ∧ Aside0 (stoaref01_Cat.l0 kq l0 l1 x5_1 x6_1 = some r) ∧ Aside0 (kq ≤ k) ∧ Aside0 (Kd.R (Kd.int .u8) 5 w' w.heap.size (fun _ => True) v5 x5_1) ∧ Aside0 (Below w.heap.size w w'))
 case atStart => exact ⟨(y685), (0), (by rfl), H', ⟨Nat.le_refl _⟩, ⟨by (with_reducible repeat (apply Kd.R_alloc)); exact HO687.out⟩, ⟨by exact HB.out⟩⟩
 case round =>
  clear H'
  obtain ⟨x5_1, x6_1, rfl, HA, HK1, HO_5, HB⟩ := hrel
  cases gk with
  | zero => exact absurd HA.out (by simp [stoaref01_Cat.l0])
  | succ k1 =>
   have H := HA.out
   clear HA
   simp only [stoaref01_Cat.l0] at H
   by_cases c5 : x6_1 < (l0.length : Int)
   ·rw [if_pos c5] at H
    have c5b0 : decide (x6_1 < (l0.length : Int)) = true := decide_eq_true c5
    clear c5
    by_cases c6 : 0 ≤ x6_1
    ·rw [if_pos c6] at H
     have c6b0 : decide (0 ≤ x6_1) = true := decide_eq_true c6
     clear c6
     by_cases c7 : x5_1.length < 140737488355328
     ·rw [if_pos c7] at H
      have LMc7 := Aside0.mk c7
      clear c7
      obtain ⟨y689, hy689⟩ : ∃ y_ : List Int, y_ = (x5_1 ++ [rd l0 x6_1]) := ⟨_, rfl⟩
      replace H : (stoaref01_Cat.l0 k1 l0 l1 y689 (wrap64 (x6_1 + 1))) = some r := by (rw [hy689]; with_reducible exact H)
      have Ny689 := Aside0.mk hy689
      clear hy689
      have H' := Aside0.mk H
      clear H
      have p688 : 0 ≤ (x6_1 : Int) := of_decide_eq_true ‹_›
      have q688 : x6_1 < (l0.length : Int) := of_decide_eq_true ‹_›
      obtain ⟨ad688, e688, hx688_0⟩ := Kd.at_int HR0.out x6_1 p688 q688
      cases e688
      replace hx688_0 := (HB.out.cell (World.block_lt_of_cell? w _ hx688_0)).trans hx688_0
      replace p688 := eq_true p688
      replace q688 := eq_true q688
      go_wp2_with ((at_builtin; refine Kd.R_append (Kd.int .u8) (w0 := w) w.heap.size rfl (.tmp 15) (.tmp 20) 24 5 (.int .u8 0) 1 rfl Tryz.underlying24 info5 rfl (by decide) (by omega) u5 x5_1 (rd l0 x6_1) [.int .u8 (rd l0 x6_1)] (fun _ => True) (fun _ => False) rfl rfl ?aP (fun _ hk => hk.elim) ?aF ?aO ?aB ?aS ?aL ?_; (case aP => exact rfl); (case aB => exact HB.out); (case aF => exact (fun _ _ => trivial)); (case aO => exact HO_5.out); (case aS => exact (below_size HB.out)); (case aL => have := LMc7.out; omega); intro v690 w8 ho hb hg hat; rw [← Ny689.out] at ho; have n0_ := Aside0.mk (hb); have n1_ := Aside0.mk (ho); revert n0_ n1_; clear HB HO_5; intro HB HO691; clear ho hb hg hat))
      go_roundg k1
      case measure => have := HK1.out; omega
      case rel => exact ⟨(y689), (wrap64 (x6_1 + 1)), (by rfl), H', ⟨by have := HK1.out; omega⟩, ⟨by (with_reducible repeat (apply Kd.R_alloc)); exact HO691.out⟩, ⟨by exact HB.out⟩⟩
     rw [if_neg c7] at H
     exact absurd H (by simp)
    rw [if_neg c6] at H
    exact absurd H (by simp)
   rw [if_neg c5] at H
   have c5b0 : decide (x6_1 < (l0.length : Int)) = false := decide_eq_false c5
   clear c5
   have H' := Aside0.mk H
   clear H
   go_wp2
   go_loopg [5, 7] k1 (fun kq v5 v7 w' => ∃ (x5_2 : List Int) (x7_2 : Int), v7 = .int .i64 x7_2 ∧ Aside0 (stoaref01_Cat.l1 kq l1 x5_2 x7_2 = some r) ∧ Aside0 (kq ≤ k1) ∧ Aside0 (Kd.R (Kd.int .u8) 5 w' w.heap.size (fun _ => True) v5 x5_2) ∧ Aside0 (Below w.heap.size w w'))
   case atStart => exact ⟨(x5_1), (0), (by rfl), H', ⟨Nat.le_refl _⟩, ⟨by (with_reducible repeat (apply Kd.R_alloc)); exact HO_5.out⟩, ⟨by exact HB.out⟩⟩
   case round =>
    clear H'
    try clear c5b0
    obtain ⟨x5_2, x7_2, rfl, HA, HK2, HO_5, HB⟩ := hrel
    cases gk with
    | zero => exact absurd HA.out (by simp [stoaref01_Cat.l1])
    | succ k2 =>
     have H := HA.out
     clear HA
     simp only [stoaref01_Cat.l1] at H
     by_cases c9 : x7_2 < (l1.length : Int)
     ·rw [if_pos c9] at H
      have c9b0 : decide (x7_2 < (l1.length : Int)) = true := decide_eq_true c9
      clear c9
      by_cases c10 : 0 ≤ x7_2
      ·rw [if_pos c10] at H
       have c10b0 : decide (0 ≤ x7_2) = true := decide_eq_true c10
       clear c10
       by_cases c11 : x5_2.length < 140737488355328
       ·rw [if_pos c11] at H
        have LMc11 := Aside0.mk c11
        clear c11
        obtain ⟨y693, hy693⟩ : ∃ y_ : List Int, y_ = (x5_2 ++ [rd l1 x7_2]) := ⟨_, rfl⟩
        replace H : (stoaref01_Cat.l1 k2 l1 y693 (wrap64 (x7_2 + 1))) = some r := by (rw [hy693]; with_reducible exact H)
        have Ny693 := Aside0.mk hy693
        clear hy693
        have H' := Aside0.mk H
        clear H
        have p692 : 0 ≤ (x7_2 : Int) := of_decide_eq_true ‹_›
        have q692 : x7_2 < (l1.length : Int) := of_decide_eq_true ‹_›
        obtain ⟨ad692, e692, hx692_0⟩ := Kd.at_int HR1.out x7_2 p692 q692
        cases e692
        replace hx692_0 := (HB.out.cell (World.block_lt_of_cell? w _ hx692_0)).trans hx692_0
        replace p692 := eq_true p692
        replace q692 := eq_true q692
        go_wp2_with ((at_builtin; refine Kd.R_append (Kd.int .u8) (w0 := w) w.heap.size rfl (.tmp 28) (.tmp 33) 24 5 (.int .u8 0) 1 rfl Tryz.underlying24 info5 rfl (by decide) (by omega) u5 x5_2 (rd l1 x7_2) [.int .u8 (rd l1 x7_2)] (fun _ => True) (fun _ => False) rfl rfl ?aP (fun _ hk => hk.elim) ?aF ?aO ?aB ?aS ?aL ?_; (case aP => exact rfl); (case aB => exact HB.out); (case aF => exact (fun _ _ => trivial)); (case aO => exact HO_5.out); (case aS => exact (below_size HB.out)); (case aL => have := LMc11.out; omega); intro v694 w12 ho hb hg hat; rw [← Ny693.out] at ho; have n0_ := Aside0.mk (hb); have n1_ := Aside0.mk (ho); revert n0_ n1_; clear HB HO_5; intro HB HO695; clear ho hb hg hat))
        go_roundg k2
        case measure => have := HK1.out; have := HK2.out; omega
        case rel => exact ⟨(y693), (wrap64 (x7_2 + 1)), (by rfl), H', ⟨by have := HK1.out; have := HK2.out; omega⟩, ⟨by (with_reducible repeat (apply Kd.R_alloc)); exact HO695.out⟩, ⟨by exact HB.out⟩⟩
       rw [if_neg c11] at H
       exact absurd H (by simp)
      rw [if_neg c10] at H
      exact absurd H (by simp)
     rw [if_neg c9] at H
     have c9b0 : decide (x7_2 < (l1.length : Int)) = false := decide_eq_false c9
     clear c9
     obtain rfl := Option.some.inj H
     go_wp2
     go_ret
     exact ⟨_, by rfl, by (with_reducible repeat (apply Kd.R_alloc)); exact HO_5.out, by exact HB.out⟩
def stoaref01_Low.l0 : Nat → Int → Int → List Int → Int → Option (List Int)
 | 0, _, _, _, _ => none
 | k + 1, x0, x1, x5, x6 => if x6 < x1 then (if x5.length < 140737488355328 then (stoaref01_Low.l0 k (IntKind.u64.wrap (Int.tdiv x0 256)) x1 (x5 ++ [(Int.tmod x0 256) % 256]) (wrap64 (x6 + 1))) else (none)) else (some x5)
def stoaref01_Low.f (k : Nat) (a0 : Int) (a1 : Int) : Option (List Int) := stoaref01_Low.l0 k a0 a1 (([] : List Int)) 0
set_option maxHeartbeats 8000000 in
set_option maxRecDepth 100000 in
theorem stoaref01_Low.calls (k : Nat) (a0 : Int) (a1 : Int) (r : List Int) (w : World) (h : stoaref01_Low.f k a0 a1 = some r) :
 Calls Tryz.prog 67 #[.int .u64 a0, .int .i64 a1] w fun e w' => ∃ v0_ : Value, e = .returned (v0_) ∧ Kd.R (Kd.int .u8) 5 w' w.heap.size (fun _ => True) v0_ r ∧ Below w.heap.size w w' := by
 have HB := Aside0.mk (Below.refl w.heap.size w)
 unfold stoaref01_Low.f at h
 have H := h
 clear h
 obtain ⟨y696, hy696⟩ : ∃ y_ : List Int, y_ = (([] : List Int)) := ⟨_, rfl⟩
 replace H : (stoaref01_Low.l0 k a0 a1 y696 0) = some r := by (rw [hy696]; with_reducible exact H)
 have Ny696 := Aside0.mk hy696
 clear hy696
 have H' := Aside0.mk H
 clear H
 go_enter Tryz.func67, Tryz.ntmps67
 go_wp2_with ((refine Kd.R_lit (Kd.int .u8) _ 5 ?hg (N := 7) ?hd (xs := ([] : List Int)) (inner := []) (ok := fun _ => True) (okp := fun _ => True) ?hr ?hp (fun _ hk => hk) trivial (Below.refl _ _) (Nat.le_refl _) (by simp) ?_; (case hd => rfl); (case hg => rfl); (case hr => (go_simp; done)); (case hp => exact (Reps.none _ _)); intro v697 w3 ho4 hb hg_ hnew_; clear hg_ hnew_; (rw [← Ny696.out] at ho4); have n0_ := Aside0.mk (Kd.R_lower ho4 (below_size HB.out)); have n1_ := Aside0.mk (below_step HB.out hb); revert n0_ n1_; clear HB; intro HO698 HB; clear hb ho4))
 go_loopg [0, 5, 6] k (fun kq v0 v5 v6 w' => ∃ (x0_1 : Int) (x5_1 : List Int) (x6_1 : Int), v0 = .int .u64 x0_1 ∧ v6 = .int .i64 x6_1 ∧ Aside0 (stoaref01_Low.l0 kq x0_1 a1 x5_1 x6_1 = some r) ∧ Aside0 (kq ≤ k) ∧ Aside0 (Kd.R (Kd.int .u8) 5 w' w.heap.size (fun _ => True) v5 x5_1) ∧ Aside0 (Below w.heap.size w w'))
 case atStart => exact ⟨(a0), (y696), (0), (by rfl), (by rfl), H', ⟨Nat.le_refl _⟩, ⟨by (with_reducible repeat (apply Kd.R_alloc)); exact HO698.out⟩, ⟨by exact HB.out⟩⟩
 case round =>
  clear H'
  obtain ⟨x0_1, x5_1, x6_1, rfl, rfl, HA, HK1, HO_5, HB⟩ := hrel
  cases gk with
  | zero => exact absurd HA.out (by simp [stoaref01_Low.l0])
  | succ k1 =>
   have H := HA.out
   clear HA
   simp only [stoaref01_Low.l0] at H
   by_cases c5 : x6_1 < a1
   ·rw [if_pos c5] at H
    have c5b0 : decide (x6_1 < a1) = true := decide_eq_true c5
    clear c5
    by_cases c6 : x5_1.length < 140737488355328
    ·rw [if_pos c6] at H
     have LMc6 := Aside0.mk c6
     clear c6
     obtain ⟨y699, hy699⟩ : ∃ y_ : List Int, y_ = (x5_1 ++ [(Int.tmod x0_1 256) % 256]) := ⟨_, rfl⟩
     replace H : (stoaref01_Low.l0 k1 (IntKind.u64.wrap (Int.tdiv x0_1 256)) a1 y699 (wrap64 (x6_1 + 1))) = some r := by (rw [hy699]; with_reducible exact H)
     have Ny699 := Aside0.mk hy699
     clear hy699
     have H' := Aside0.mk H
     clear H
     go_wp2_with ((at_builtin; refine Kd.R_append (Kd.int .u8) (w0 := w) w.heap.size rfl (.tmp 13) (.tmp 17) 24 5 (.int .u8 0) 1 rfl Tryz.underlying24 info5 rfl (by decide) (by omega) u5 x5_1 ((Int.tmod x0_1 256) % 256) [.int .u8 ((Int.tmod x0_1 256) % 256)] (fun _ => True) (fun _ => False) rfl rfl ?aP (fun _ hk => hk.elim) ?aF ?aO ?aB ?aS ?aL ?_; (case aP => exact rfl); (case aB => exact HB.out); (case aF => exact (fun _ _ => trivial)); (case aO => exact HO_5.out); (case aS => exact (below_size HB.out)); (case aL => have := LMc6.out; omega); intro v700 w7 ho hb hg hat; rw [← Ny699.out] at ho; have n0_ := Aside0.mk (hb); have n1_ := Aside0.mk (ho); revert n0_ n1_; clear HB HO_5; intro HB HO701; clear ho hb hg hat))
     go_roundg k1
     case measure => have := HK1.out; omega
     case rel => exact ⟨(IntKind.u64.wrap (Int.tdiv x0_1 256)), (y699), (wrap64 (x6_1 + 1)), (by rfl), (by rfl), H', ⟨by have := HK1.out; omega⟩, ⟨by (with_reducible repeat (apply Kd.R_alloc)); exact HO701.out⟩, ⟨by exact HB.out⟩⟩
    rw [if_neg c6] at H
    exact absurd H (by simp)
   rw [if_neg c5] at H
   have c5b0 : decide (x6_1 < a1) = false := decide_eq_false c5
   clear c5
   obtain rfl := Option.some.inj H
   go_wp2
   go_ret
   exact ⟨_, by rfl, by (with_reducible repeat (apply Kd.R_alloc)); exact HO_5.out, by exact HB.out⟩
mutual
def stoaref03_Sum.l0 : Nat → List Int → Int → Int → Option (Int)
 | 0, _, _, _ => none
 | k + 1, x0, x3, x4 => if x4 < (x0.length : Int) then (if 0 ≤ x4 then (stoaref03_Sum.l1 k x0 (Go.bits .xor .u32 x3 ((rd x0 x4) % 4294967296)) x4 0) else (none)) else (some (Go.bits .xor .u32 x3 4294967295))
def stoaref03_Sum.l1 : Nat → List Int → Int → Int → Int → Option (Int)
 | 0, _, _, _, _ => none
 | k + 1, x0, x3, x4, x5 => if x5 < 8 then (if (Int.tmod x3 2) = 1 then (stoaref03_Sum.l1 k x0 (Go.bits .xor .u32 ((Int.tdiv x3 2) % 4294967296) 2197175160) x4 (wrap64 (x5 + 1))) else (stoaref03_Sum.l1 k x0 ((Int.tdiv x3 2) % 4294967296) x4 (wrap64 (x5 + 1)))) else (stoaref03_Sum.l0 k x0 x3 (wrap64 (x4 + 1)))
end
def stoaref03_Sum.f (k : Nat) (l0 : List Int) : Option (Int) := stoaref03_Sum.l0 k l0 4294967295 0
set_option maxHeartbeats 8000000 in
set_option maxRecDepth 100000 in
theorem stoaref03_Sum.calls (k : Nat) (A0 : Option Addr) (c0 : Nat) (l0 : List Int) (r : Int) (w : World) (hr0 : Kd.C (Kd.int .u8) w A0 l0.length l0) (hc0 : l0.length ≤ c0) (h : stoaref03_Sum.f k l0 = some r) :
 Calls Tryz.prog 68 #[.slice A0 l0.length c0] w fun e w' => e = .returned (.int .u32 r) ∧ Drawn0 w w' := by
 have HR0 := Aside0.mk hr0
 have HC0 := Aside0.mk hc0
 clear hr0 hc0
 unfold stoaref03_Sum.f at h
 have H := h
 clear h
 have H' := Aside0.mk H
 clear H
 go_enter Tryz.func68, Tryz.ntmps68
 go_wp2
 go_loopg [3, 4] k (fun kq v3 v4 w' => ∃ (x3_1 : Int) (x4_1 : Int), v3 = .int .u32 x3_1 ∧ v4 = .int .i64 x4_1 ∧ Aside0 (stoaref03_Sum.l0 kq l0 x3_1 x4_1 = some r) ∧ Aside0 (kq ≤ k) ∧ Drawn0 w w')
 case atStart => exact ⟨(4294967295), (0), (by rfl), (by rfl), H', ⟨Nat.le_refl _⟩, by repeat (exact Drawn0.refl _)⟩
 case round =>
  clear H'
  obtain ⟨x3_1, x4_1, rfl, rfl, HA, HK1, ⟨m1, rfl⟩⟩ := hrel
  cases gk with
  | zero => exact absurd HA.out (by simp [stoaref03_Sum.l0])
  | succ k1 =>
   have H := HA.out
   clear HA
   simp only [stoaref03_Sum.l0] at H
   by_cases c2 : x4_1 < (l0.length : Int)
   ·rw [if_pos c2] at H
    have c2b0 : decide (x4_1 < (l0.length : Int)) = true := decide_eq_true c2
    clear c2
    by_cases c3 : 0 ≤ x4_1
    ·rw [if_pos c3] at H
     have c3b0 : decide (0 ≤ x4_1) = true := decide_eq_true c3
     clear c3
     have H' := Aside0.mk H
     clear H
     have p702 : 0 ≤ (x4_1 : Int) := of_decide_eq_true ‹_›
     have q702 : x4_1 < (l0.length : Int) := of_decide_eq_true ‹_›
     obtain ⟨ad702, e702, hx702_0⟩ := Kd.at_int HR0.out x4_1 p702 q702
     cases e702
     replace p702 := eq_true p702
     replace q702 := eq_true q702
     go_wp2
     go_loopg [3, 5] k1 (fun kq v3 v5 w' => ∃ (x3_2 : Int) (x5_2 : Int), v3 = .int .u32 x3_2 ∧ v5 = .int .i64 x5_2 ∧ Aside0 (stoaref03_Sum.l1 kq l0 x3_2 x4_1 x5_2 = some r) ∧ Aside0 (kq ≤ k1) ∧ Drawn0 w w')
     case atStart => exact ⟨(Go.bits .xor .u32 x3_1 ((rd l0 x4_1) % 4294967296)), (0), (by rfl), (by rfl), H', ⟨Nat.le_refl _⟩, by repeat (first | exact Drawn0.refl _ | apply Drawn0.step)⟩
     case round =>
      clear H'
      try clear c2b0
      try clear c3b0
      try clear hx702_0
      try clear p702
      try clear q702
      obtain ⟨x3_2, x5_2, rfl, rfl, HA, HK2, ⟨m2, rfl⟩⟩ := hrel
      cases gk with
      | zero => exact absurd HA.out (by simp [stoaref03_Sum.l1])
      | succ k2 =>
       have H := HA.out
       clear HA
       simp only [stoaref03_Sum.l1] at H
       by_cases c4 : x5_2 < 8
       ·rw [if_pos c4] at H
        have c4b0 : decide (x5_2 < 8) = true := decide_eq_true c4
        clear c4
        by_cases c5 : (Int.tmod x3_2 2) = 1
        ·rw [if_pos c5] at H
         have c5b0 : ((Int.tmod x3_2 2) == 1) = true := beq_iff_eq.mpr c5
         have c5b1 : ((Int.tmod x3_2 2) != 1) = false := bne_eq_false_iff_eq.mpr c5
         clear c5
         have H' := Aside0.mk H
         clear H
         go_wp2
         go_roundg k2
         case measure => have := HK1.out; have := HK2.out; omega
         case rel => exact ⟨(Go.bits .xor .u32 ((Int.tdiv x3_2 2) % 4294967296) 2197175160), (wrap64 (x5_2 + 1)), (by rfl), (by rfl), H', ⟨by have := HK1.out; have := HK2.out; omega⟩, by repeat (first | exact Drawn0.refl _ | apply Drawn0.step)⟩
        rw [if_neg c5] at H
        have c5b0 : ((Int.tmod x3_2 2) == 1) = false := beq_eq_false_iff_ne.mpr c5
        have c5b1 : ((Int.tmod x3_2 2) != 1) = true := bne_iff_ne.mpr c5
        have H' := Aside0.mk H
        clear H
        go_wp2
        go_roundg k2
        case measure => have := HK1.out; have := HK2.out; omega
        case rel => exact ⟨((Int.tdiv x3_2 2) % 4294967296), (wrap64 (x5_2 + 1)), (by rfl), (by rfl), H', ⟨by have := HK1.out; have := HK2.out; omega⟩, by repeat (first | exact Drawn0.refl _ | apply Drawn0.step)⟩
       rw [if_neg c4] at H
       have c4b0 : decide (x5_2 < 8) = false := decide_eq_false c4
       clear c4
       have H' := Aside0.mk H
       clear H
       go_wp2
       go_roundg k2
       case measure => have := HK1.out; have := HK2.out; omega
       case rel => exact ⟨(x3_2), (wrap64 (x4_1 + 1)), (by rfl), (by rfl), H', ⟨by have := HK1.out; have := HK2.out; omega⟩, by repeat (first | exact Drawn0.refl _ | apply Drawn0.step)⟩
    rw [if_neg c3] at H
    exact absurd H (by simp)
   rw [if_neg c2] at H
   have c2b0 : decide (x4_1 < (l0.length : Int)) = false := decide_eq_false c2
   clear c2
   obtain rfl := Option.some.inj H
   go_wp2
   go_ret
   exact ⟨by rfl, by repeat (first | exact Drawn0.refl _ | apply Drawn0.step)⟩
def stoaref03_Seal.f (k : Nat) (l0 : List Int) : Option (List Int) := (stoaref03_Sum.f k l0).bind fun t703 => ((stoaref01_Low.f k (IntKind.u64.wrap (t703)) 4).bind fun t704 => ((stoaref01_Cat.f k l0 t704).bind fun t707 => (some t707)))
set_option maxHeartbeats 8000000 in
set_option maxRecDepth 100000 in
theorem stoaref03_Seal.calls (k : Nat) (A0 : Option Addr) (c0 : Nat) (l0 : List Int) (r : List Int) (w : World) (hr0 : Kd.C (Kd.int .u8) w A0 l0.length l0) (hc0 : l0.length ≤ c0) (h : stoaref03_Seal.f k l0 = some r) :
 Calls Tryz.prog 36 #[.slice A0 l0.length c0] w fun e w' => ∃ v0_ : Value, e = .returned (v0_) ∧ Kd.R (Kd.int .u8) 5 w' w.heap.size (fun _ => True) v0_ r ∧ Below w.heap.size w w' := by
 have HR0 := Aside0.mk hr0
 have HC0 := Aside0.mk hc0
 clear hr0 hc0
 have HB := Aside0.mk (Below.refl w.heap.size w)
 unfold stoaref03_Seal.f at h
 have H := h
 clear h
 replace H := Option.bind_eq_some_iff.mp H
 obtain ⟨t703, A20, H⟩ := H
 (try dsimp only at H)
 have A2 := Aside0.mk A20
 clear A20
 replace H := Option.bind_eq_some_iff.mp H
 obtain ⟨t704, A30, H⟩ := H
 (try dsimp only at H)
 have A3 := Aside0.mk A30
 clear A30
 replace H := Option.bind_eq_some_iff.mp H
 obtain ⟨t707, A40, H⟩ := H
 (try dsimp only at H)
 have A4 := Aside0.mk A40
 clear A40
 obtain rfl := Option.some.inj H
 go_enter Tryz.func36, Tryz.ntmps36
 go_wp2_with (first | ((with_reducible refine gate_callee (f := 68) rfl ?_); refine goL_ Tryz.func68 #[.slice A0 l0.length c0] ?_; (with_reducible refine (stoaref03_Sum.calls k _ _ l0 t703 _ (HR0.out) (HC0.out) A2.out).mono ?_); rintro e w' ⟨rfl, ⟨nd, rfl⟩⟩; refine ⟨_, rfl, ?_⟩) | ((with_reducible refine gate_callee (f := 67) rfl ?_); refine goL_ Tryz.func67 #[.int .u64 (IntKind.u64.wrap (t703)), .int .i64 4] ?_; (with_reducible refine (stoaref01_Low.calls k (IntKind.u64.wrap (t703)) 4 t704 _ A3.out).mono ?_); rintro e w5 ⟨v705, rfl, ho0, hb⟩; refine ⟨_, rfl, ?_⟩; have n0_ := Aside0.mk (Kd.R_lower ho0 (below_size (by repeat ((with_reducible first | exact HB.out | apply pw_below_drewN))))); have n1_ := Aside0.mk (below_step (by repeat ((with_reducible first | exact HB.out | apply pw_below_drewN))) hb); revert n0_ n1_; clear HB; intro HO706 HB; (try clear hb); (try clear ho0); obtain ⟨Ao6, co6, eo6⟩ := Kd.R_slice HO706.out; subst eo6) | ((with_reducible refine gate_callee (f := 66) rfl ?_); refine goL_ Tryz.func66 #[.slice A0 l0.length c0, .slice Ao6 t704.length co6] ?_; (with_reducible refine (stoaref01_Cat.calls k _ _ l0 _ _ t704 t707 _ ?side1 ?side2 ((Kd.R_reads' HO706.out).2.2) ((Kd.R_reads' HO706.out).2.1) A4.out).mono ?_); (case side1 => repeat (exact (Kd.C_below HR0.out HB.out))); (case side2 => exact HC0.out); rintro e w7 ⟨v708, rfl, ho0, hb⟩; refine ⟨_, rfl, ?_⟩; have n0_ := Aside0.mk (Kd.R_elder' HO706.out (Kd.R_base ho0) hb); have n1_ := Aside0.mk (Kd.R_lower (Kd.R_new' ho0 (Kd.R_lt HO706.out)) (below_size HB.out)); have n2_ := Aside0.mk (below_step HB.out hb); revert n0_ n1_ n2_; clear HO706 HB; intro HO706 HO709 HB; (try clear hb); (try clear ho0)))
 go_ret
 exact ⟨_, by rfl, by (with_reducible repeat (apply Kd.R_alloc)); exact Kd.R_mono HO709.out (fun _ hk => trivial), by exact HB.out⟩
def stoaref01_Copy.l0 : Nat → List Int → List Int → Int → Option (List Int)
 | 0, _, _, _ => none
 | k + 1, x0, x3, x4 => if x4 < (x0.length : Int) then (if 0 ≤ x4 then (if x3.length < 140737488355328 then (stoaref01_Copy.l0 k x0 (x3 ++ [rd x0 x4]) (wrap64 (x4 + 1))) else (none)) else (none)) else (some x3)
def stoaref01_Copy.f (k : Nat) (l0 : List Int) : Option (List Int) := stoaref01_Copy.l0 k l0 (([] : List Int)) 0
set_option maxHeartbeats 8000000 in
set_option maxRecDepth 100000 in
theorem stoaref01_Copy.calls (k : Nat) (A0 : Option Addr) (c0 : Nat) (l0 : List Int) (r : List Int) (w : World) (hr0 : Kd.C (Kd.int .u8) w A0 l0.length l0) (hc0 : l0.length ≤ c0) (h : stoaref01_Copy.f k l0 = some r) :
 Calls Tryz.prog 16 #[.slice A0 l0.length c0] w fun e w' => ∃ v0_ : Value, e = .returned (v0_) ∧ Kd.R (Kd.int .u8) 5 w' w.heap.size (fun _ => True) v0_ r ∧ Below w.heap.size w w' := by
 have HR0 := Aside0.mk hr0
 have HC0 := Aside0.mk hc0
 clear hr0 hc0
 have HB := Aside0.mk (Below.refl w.heap.size w)
 unfold stoaref01_Copy.f at h
 have H := h
 clear h
 obtain ⟨y845, hy845⟩ : ∃ y_ : List Int, y_ = (([] : List Int)) := ⟨_, rfl⟩
 replace H : (stoaref01_Copy.l0 k l0 y845 0) = some r := by (rw [hy845]; with_reducible exact H)
 have Ny845 := Aside0.mk hy845
 clear hy845
 have H' := Aside0.mk H
 clear H
 go_enter Tryz.func16, Tryz.ntmps16
 go_wp2_with ((refine Kd.R_lit (Kd.int .u8) _ 5 ?hg (N := 5) ?hd (xs := ([] : List Int)) (inner := []) (ok := fun _ => True) (okp := fun _ => True) ?hr ?hp (fun _ hk => hk) trivial (Below.refl _ _) (Nat.le_refl _) (by simp) ?_; (case hd => rfl); (case hg => rfl); (case hr => (go_simp; done)); (case hp => exact (Reps.none _ _)); intro v846 w2 ho3 hb hg_ hnew_; clear hg_ hnew_; (rw [← Ny845.out] at ho3); have n0_ := Aside0.mk (Kd.R_lower ho3 (below_size HB.out)); have n1_ := Aside0.mk (below_step HB.out hb); revert n0_ n1_; clear HB; intro HO847 HB; clear hb ho3))
 go_loopg [3, 4] k (fun kq v3 v4 w' => ∃ (x3_1 : List Int) (x4_1 : Int), v4 = .int .i64 x4_1 ∧ Aside0 (stoaref01_Copy.l0 kq l0 x3_1 x4_1 = some r) ∧ Aside0 (kq ≤ k) ∧ Aside0 (Kd.R (Kd.int .u8) 5 w' w.heap.size (fun _ => True) v3 x3_1) ∧ Aside0 (Below w.heap.size w w'))
 case atStart => exact ⟨(y845), (0), (by rfl), H', ⟨Nat.le_refl _⟩, ⟨by (with_reducible repeat (apply Kd.R_alloc)); exact HO847.out⟩, ⟨by exact HB.out⟩⟩
 case round =>
  clear H'
  obtain ⟨x3_1, x4_1, rfl, HA, HK1, HO_3, HB⟩ := hrel
  cases gk with
  | zero => exact absurd HA.out (by simp [stoaref01_Copy.l0])
  | succ k1 =>
   have H := HA.out
   clear HA
   simp only [stoaref01_Copy.l0] at H
   by_cases c4 : x4_1 < (l0.length : Int)
   ·rw [if_pos c4] at H
    have c4b0 : decide (x4_1 < (l0.length : Int)) = true := decide_eq_true c4
    clear c4
    by_cases c5 : 0 ≤ x4_1
    ·rw [if_pos c5] at H
     have c5b0 : decide (0 ≤ x4_1) = true := decide_eq_true c5
     clear c5
     by_cases c6 : x3_1.length < 140737488355328
     ·rw [if_pos c6] at H
      have LMc6 := Aside0.mk c6
      clear c6
      obtain ⟨y849, hy849⟩ : ∃ y_ : List Int, y_ = (x3_1 ++ [rd l0 x4_1]) := ⟨_, rfl⟩
      replace H : (stoaref01_Copy.l0 k1 l0 y849 (wrap64 (x4_1 + 1))) = some r := by (rw [hy849]; with_reducible exact H)
      have Ny849 := Aside0.mk hy849
      clear hy849
      have H' := Aside0.mk H
      clear H
      have p848 : 0 ≤ (x4_1 : Int) := of_decide_eq_true ‹_›
      have q848 : x4_1 < (l0.length : Int) := of_decide_eq_true ‹_›
      obtain ⟨ad848, e848, hx848_0⟩ := Kd.at_int HR0.out x4_1 p848 q848
      cases e848
      replace hx848_0 := (HB.out.cell (World.block_lt_of_cell? w _ hx848_0)).trans hx848_0
      replace p848 := eq_true p848
      replace q848 := eq_true q848
      go_wp2_with ((at_builtin; refine Kd.R_append (Kd.int .u8) (w0 := w) w.heap.size rfl (.tmp 12) (.tmp 17) 24 5 (.int .u8 0) 1 rfl Tryz.underlying24 info5 rfl (by decide) (by omega) u3 x3_1 (rd l0 x4_1) [.int .u8 (rd l0 x4_1)] (fun _ => True) (fun _ => False) rfl rfl ?aP (fun _ hk => hk.elim) ?aF ?aO ?aB ?aS ?aL ?_; (case aP => exact rfl); (case aB => exact HB.out); (case aF => exact (fun _ _ => trivial)); (case aO => exact HO_3.out); (case aS => exact (below_size HB.out)); (case aL => have := LMc6.out; omega); intro v850 w7 ho hb hg hat; rw [← Ny849.out] at ho; have n0_ := Aside0.mk (hb); have n1_ := Aside0.mk (ho); revert n0_ n1_; clear HB HO_3; intro HB HO851; clear ho hb hg hat))
      go_roundg k1
      case measure => have := HK1.out; omega
      case rel => exact ⟨(y849), (wrap64 (x4_1 + 1)), (by rfl), H', ⟨by have := HK1.out; omega⟩, ⟨by (with_reducible repeat (apply Kd.R_alloc)); exact HO851.out⟩, ⟨by exact HB.out⟩⟩
     rw [if_neg c6] at H
     exact absurd H (by simp)
    rw [if_neg c5] at H
    exact absurd H (by simp)
   rw [if_neg c4] at H
   have c4b0 : decide (x4_1 < (l0.length : Int)) = false := decide_eq_false c4
   clear c4
   obtain rfl := Option.some.inj H
   go_wp2
   go_ret
   exact ⟨_, by rfl, by (with_reducible repeat (apply Kd.R_alloc)); exact HO_3.out, by exact HB.out⟩
end Go.Proofs.YtjbhaepkldgfnaaGreat.S
namespace Go.Proofs.YtjbhaepkldgfnaaGreat.L
open Go Go.RowKit Go.Proofs.YtjbhaepkldgfnaaGreat.S Go.Proofs.YtjbhaepkldgfnaaGreatW.PrintWords Go.Proofs.YtjbhaepkldgfnaaGreatW.PrintLast
set_option linter.unusedVariables false
set_option linter.unusedSimpArgs false
def Ev {α : Type} (g : Nat → Option α) (v : α) : Prop := ∃ k0, ∀ k, k0 ≤ k → g k = some v
section
variable {α β : Type} {g A B : Nat → Option α} {v : α} {w : β}
theorem Ev.some_ (v : α) : Ev (fun _ => some v) v := ⟨0, fun _ _ => rfl⟩
theorem Ev.of_eq {x : Option α} (h : x = some v) : Ev (fun _ => x) v := ⟨0, fun _ _ => h⟩
theorem Ev.bind {h : Nat → α → Option β} (hg : Ev g v) (hh : Ev (fun k => h k v) w) : Ev (fun k => (g k).bind (h k)) w := by
 obtain ⟨a, ha⟩ := hg
 obtain ⟨b, hb⟩ := hh
 exact ⟨max a b, fun k hk => by show (g k).bind (h k) = some w; rw [ha k (by omega)]; exact hb k (by omega)⟩
theorem Ev.succ (h : Ev (fun k => g (k + 1)) v) : Ev g v := by
 obtain ⟨a, ha⟩ := h
 refine ⟨a + 1, fun k hk => ?_⟩
 obtain ⟨k', rfl⟩ : ∃ k', k = k' + 1 := ⟨k - 1, by omega⟩
 exact ha k' (by omega)
theorem Ev.get (h : Ev g v) : ∃ k, g k = some v := ⟨_, h.choose_spec _ (Nat.le_refl _)⟩
theorem Ev.eq {v' : α} (h : Ev g v) (e : v = v') : Ev g v' := e ▸ h
end
def Bytes (l : List Int) : Prop := ∀ x ∈ l, 0 ≤ x ∧ x ≤ 255
theorem Bytes.nil : Bytes [] := fun x hx => by simp at hx
theorem Bytes.append {a b : List Int} (ha : Bytes a) (hb : Bytes b) : Bytes (a ++ b) := fun x hx => (List.mem_append.1 hx).elim (ha x) (hb x)
theorem Bytes.drop {a : List Int} (h : Bytes a) (n : Nat) : Bytes (a.drop n) := fun x hx => h x (List.mem_of_mem_drop hx)
theorem Bytes.take {a : List Int} (h : Bytes a) (n : Nat) : Bytes (a.take n) := fun x hx => h x (List.mem_of_mem_take hx)
theorem w64 {x : Int} (h0 : -9223372036854775808 ≤ x) (h1 : x < 9223372036854775808) : wrap64 x = x := by unfold wrap64; omega
theorem u64 {x : Int} (h0 : 0 ≤ x) (h1 : x < 18446744073709551616) : IntKind.u64.wrap x = x := by
 simp [IntKind.wrap, IntKind.bits, IntKind.signed]
 omega
theorem rd_nat (l : List Int) (j : Nat) : rd l (j : Int) = l.getD j 0 := by simp [rd]
theorem rd_at {l : List Int} {j : Nat} {x : Int} (h : l[j]? = some x) : rd l (j : Int) = x := by rw [rd_nat, List.getD_eq_getElem?_getD, h]; rfl
theorem drop_at {l s : List Int} {a : Nat} {x : Int} (h : l.drop a = x :: s) : l[a]? = some x ∧ l.drop (a + 1) = s ∧ a < l.length := by
 have h1 : (l.drop a)[0]? = some x := by rw [h]; rfl
 rw [List.getElem?_drop] at h1
 refine ⟨h1, ?_, (List.getElem?_eq_some_iff.1 h1).1⟩
 rw [← List.drop_drop, h]
 rfl
def putS (n : Nat) : List Int := if n < 128 then [(n : Int)] else ((n % 128 + 128 : Nat) : Int) :: putS (n / 128)
 termination_by n
 decreasing_by omega
theorem putS_small {n : Nat} (h : n < 128) : putS n = [(n : Int)] := by rw [putS, if_pos h]
theorem putS_big {n : Nat} (h : ¬ n < 128) : putS n = ((n % 128 + 128 : Nat) : Int) :: putS (n / 128) := by rw [putS, if_neg h]
theorem putS_pos (n : Nat) : 0 < (putS n).length := by
 rw [putS]
 split <;> simp
theorem putS_len (j : Nat) : ∀ n : Nat, n < 2 ^ (7 * (j + 1)) → (putS n).length ≤ j + 1 := by
 induction j with
 | zero => intro n h; rw [putS_small (by simpa using h)]; simp
 | succ j ih =>
  intro n h
  by_cases hn : n < 128
  ·rw [putS_small hn]; simp
  ·rw [putS_big hn]
   have := ih (n / 128) (by
    rw [Nat.div_lt_iff_lt_mul (by omega)]
    have e : 2 ^ (7 * (j + 1 + 1)) = 2 ^ (7 * (j + 1)) * 128 := by rw [show 7 * (j + 1 + 1) = 7 * (j + 1) + 7 from by omega, Nat.pow_add]
    omega)
   simp only [List.length_cons]
   omega
theorem putS_len10 {n : Nat} (h : n < 18446744073709551616) : (putS n).length ≤ 10 := putS_len 9 n (by omega)
theorem or128 {x : Int} (h0 : 0 ≤ x) (h1 : x < 256) : bits .or .u8 x 128 = x % 128 + 128 := by
 by_cases h : x < 128
 ·have := bits_join .u8 8 (by decide) wraps_u8 7 128 x (by decide) (by decide) (by decide) h0 h (by omega)
  obtain ⟨a, rfl⟩ := Int.eq_ofNat_of_zero_le h0
  have hc : bits .or .u8 (a : Int) 128 = bits .or .u8 128 (a : Int) := by
   have e1 := (bits_nat .u8 8 (by decide) wraps_u8 a 128 (by omega) (by omega)).2
   have e2 := (bits_nat .u8 8 (by decide) wraps_u8 128 a (by omega) (by omega)).2
   rw [show ((128 : Nat) : Int) = 128 from rfl] at e1 e2
   rw [e1, e2, Nat.or_comm]
  rw [hc, this]
  omega
 ·obtain ⟨a, rfl⟩ := Int.eq_ofNat_of_zero_le h0
  have e1 := (bits_nat .u8 8 (by decide) wraps_u8 a 128 (by omega) (by omega)).2
  rw [show ((128 : Nat) : Int) = 128 from rfl] at e1
  rw [e1]
  have e2 : a ||| 128 = a := by
   have := Nat.two_pow_add_eq_or_of_lt (i := 7) (b := a - 128) (by omega) 1
   have h3 : a = 2 ^ 7 * 1 + (a - 128) := by omega
   rw [h3, this, Nat.or_assoc, Nat.or_comm (a - 128) 128, ← Nat.or_assoc]
   simp
  rw [e2]
  omega
theorem Put_l0 (n : Nat) : ∀ out : List Int, out.length + (putS n).length ≤ 140737488355328 → Ev (fun k => vint_Put.l0 k (n : Int) out) (out ++ putS n) := by
 induction n using Nat.strongRecOn with
 | ind n ih =>
  intro out hl
  refine Ev.succ ?_
  by_cases h : n < 128
  ·rw [putS_small h] at hl ⊢
   simp only [List.length_singleton] at hl
   simp only [vint_Put.l0, if_neg (show ¬ ((n : Int) ≥ 128) by omega), if_pos (show out.length < 140737488355328 by omega), show (n : Int) % 256 = n by omega]
   exact Ev.some_ _
  ·rw [putS_big h] at hl ⊢
   simp only [List.length_cons] at hl
   have e : (n : Int) / 128 = ((n / 128 : Nat) : Int) := by omega
   have e2 : bits .or .u8 ((n : Int) % 256) 128 = ((n % 128 + 128 : Nat) : Int) := by rw [or128 (by omega) (by omega)]; omega
   simp only [vint_Put.l0, if_pos (show (n : Int) ≥ 128 by omega), if_pos (show out.length < 140737488355328 by omega), e, e2]
   have := ih (n / 128) (by omega) (out ++ [((n % 128 + 128 : Nat) : Int)]) (by simp; omega)
   simpa using this
theorem Put (n : Nat) (h : n < 18446744073709551616) : Ev (fun k => vint_Put.f k (n : Int)) (putS n) := by
 have := Put_l0 n [] (by have := putS_len10 h; simp; omega)
 simpa [vint_Put.f] using this
theorem and127 {x : Int} (h0 : 0 ≤ x) (h1 : x < 256) : bits .and .u8 x 127 = x % 128 := bits_mask .u8 8 (by decide) wraps_u8 7 (by decide) x h0 h1
theorem wraps_u64 (n : Int) (h₀ : 0 ≤ n) (h₁ : n < 2 ^ 64) : IntKind.u64.wrap n = n := u64 h₀ (by omega)
theorem join7 {acc y i : Nat} (hi : i ≤ 9) (ha : acc < 2 ^ (7 * i)) (hy : y * 2 ^ (7 * i) + acc < 2 ^ 64) :
 bits .or .u64 (acc : Int) (shl .u64 (y : Int) (7 * (i : Int))) = ((acc + y * 2 ^ (7 * i) : Nat) : Int) := by
 have e1 : shl .u64 (y : Int) (7 * (i : Int)) = ((y * 2 ^ (7 * i) : Nat) : Int) := by
  unfold shl
  rw [show min (7 * (i : Int)).toNat IntKind.u64.bits = 7 * i from by simp [IntKind.bits]; omega]
  rw [show (y : Int) * 2 ^ (7 * i) = ((y * 2 ^ (7 * i) : Nat) : Int) from by simp]
  exact wraps_u64 _ (Int.natCast_nonneg _) (by exact_mod_cast (show y * 2 ^ (7 * i) < 2 ^ 64 by omega))
 rw [e1]
 have hb := (bits_nat .u64 64 (by decide) wraps_u64 acc (y * 2 ^ (7 * i)) (by omega) (by omega)).2
 rw [hb]
 have h3 := Nat.two_pow_add_eq_or_of_lt ha y
 rw [Nat.or_comm, show y * 2 ^ (7 * i) = 2 ^ (7 * i) * y from Nat.mul_comm _ _, ← h3]
 congr 1
 omega
def GotS (l : List Int) (a : Nat) (r : Int × Int × Int) : Prop :=
 (∃ e, e ≠ 0 ∧ r = (0, 0, e)) ∨ ∃ (n : Nat) (s : List Int), n < 18446744073709551616 ∧ l.drop a = putS n ++ s ∧ r = ((n : Int), ((a + (putS n).length : Nat) : Int), 0)
theorem Get_short (k : Nat) (l : List Int) (a acc i : Nat) (hl : l.length ≤ 140737488355328) (ha : a ≤ l.length) (hi : l.length - a ≤ i) (hi2 : i ≤ 10) : vint_Get.l0 (k + 1) l (a : Int) (acc : Int) (i : Int) = some (0, 0, 2) := by
 have e1 : wrap64 ((l.length : Int) - (a : Int)) = ((l.length - a : Nat) : Int) := by rw [w64 (by omega) (by omega)]; omega
 simp only [vint_Get.l0, e1]
 rw [if_pos (by omega)]
theorem Get_byte (k : Nat) (l : List Int) (a acc i b : Nat) (hl : l.length ≤ 140737488355328) (hlt : a + i < l.length) (hi2 : i ≤ 10) (hx : l[a + i]? = some (b : Int)) :
 vint_Get.l0 (k + 1) l (a : Int) (acc : Int) (i : Int) = vint_Get.j2 k l (a : Int) (acc : Int) (i : Int) (b : Int) (decide (i = 9 ∧ 1 < b)) := by
 have e1 : wrap64 ((l.length : Int) - (a : Int)) = ((l.length - a : Nat) : Int) := by rw [w64 (by omega) (by omega)]; omega
 have e2 : wrap64 ((a : Int) + (i : Int)) = ((a + i : Nat) : Int) := by rw [w64 (by omega) (by omega)]; omega
 have e3 : rd l ((a + i : Nat) : Int) = (b : Int) := rd_at hx
 simp only [vint_Get.l0, e1, e2, e3]
 rw [if_neg (show ¬ ((i : Int) ≥ ((l.length - a : Nat) : Int)) by omega), if_pos (show (0 : Int) ≤ ((a + i : Nat) : Int) by omega), if_pos (show ((a + i : Nat) : Int) < (l.length : Int) by omega)]
 by_cases h9 : i = 9
 ·rw [if_pos (show (i : Int) = 9 by omega)]
  congr 1
  simp only [decide_eq_decide]
  omega
 ·rw [if_neg (show ¬ (i : Int) = 9 by omega)]
  congr 1
  rw [eq_comm, decide_eq_false_iff_not]
  omega
theorem Get_wide (k : Nat) (l : List Int) (a acc i b : Int) : vint_Get.j2 (k + 1) l a acc i b true = some (0, 0, 20) := by
 unfold vint_Get.j2
 exact if_pos rfl
theorem and127_nat (b : Nat) (h : b < 256) : IntKind.u64.wrap (bits .and .u8 (b : Int) 127) = ((b % 128 : Nat) : Int) := by
 rw [and127 (x := (b : Int)) (by omega) (by omega)]
 rw [u64 (x := (b : Int) % 128) (by omega) (by omega)]
 omega
theorem shift_nat (i : Nat) (h : i ≤ 10) : IntKind.u64.wrap (wrap64 (7 * (i : Int))) = 7 * (i : Int) := by
 rw [w64 (x := 7 * (i : Int)) (by omega) (by omega), u64 (x := 7 * (i : Int)) (by omega) (by omega)]
theorem pow7 (i : Nat) (hi : i ≤ 8) : 2 ^ (7 * i) * 128 = 2 ^ (7 * (i + 1)) ∧ 2 ^ (7 * (i + 1)) ≤ 2 ^ 63 :=
 ⟨by rw [show 7 * (i + 1) = 7 * i + 7 from by omega, Nat.pow_add], Nat.pow_le_pow_right (by decide) (by omega)⟩
theorem Get_acc {acc i b : Nat} (hi : i ≤ 9) (hacc : acc < 2 ^ (7 * i)) (hsm : b ≤ 1 ∨ i < 9) : (b % 128) * 2 ^ (7 * i) + acc < 2 ^ 64 := by
 rcases Nat.lt_or_ge i 9 with h9 | h9
 ·obtain ⟨h1, h2⟩ := pow7 i (by omega)
  have h3 : (b % 128) * 2 ^ (7 * i) ≤ 127 * 2 ^ (7 * i) := Nat.mul_le_mul_right _ (by omega)
  omega
 ·have hi9 : i = 9 := by omega
  subst hi9
  have h3 : (b % 128) * 2 ^ (7 * 9) ≤ 1 * 2 ^ (7 * 9) := Nat.mul_le_mul_right _ (by omega)
  omega
theorem Get_j2 (k : Nat) (l : List Int) (a acc i b : Nat) (ha : a ≤ 140737488355328) (hi : i ≤ 9) (hb : b < 256) (hacc : acc < 2 ^ (7 * i)) (hsm : b ≤ 1 ∨ i < 9) :
 vint_Get.j2 (k + 1) l (a : Int) (acc : Int) (i : Int) (b : Int) false =
  if b ≥ 128 then vint_Get.l0 k l (a : Int) ((acc + b % 128 * 2 ^ (7 * i) : Nat) : Int) ((i + 1 : Nat) : Int)
  else if b = 0 ∧ 0 < i then some (0, 0, 5) else some (((acc + b * 2 ^ (7 * i) : Nat) : Int), ((a + i + 1 : Nat) : Int), 0) := by
 have e6 := join7 (acc := acc) (y := b % 128) (i := i) hi hacc (Get_acc hi hacc hsm)
 clear hacc hsm
 have e4 := shift_nat i (by omega)
 have e5 := and127_nat b hb
 have e10 : wrap64 ((i : Int) + 1) = ((i + 1 : Nat) : Int) := by rw [w64 (by omega) (by omega)]; omega
 have e2 : wrap64 ((wrap64 ((a : Int) + (i : Int))) + 1) = ((a + i + 1 : Nat) : Int) := by rw [w64 (x := (a : Int) + i) (by omega) (by omega), w64 (by omega) (by omega)]; omega
 simp only [vint_Get.j2, e4, e5, e6, e10, e2]
 clear e4 e5 e6 e10 e2
 simp only [if_neg Bool.false_ne_true]
 rw [if_pos (show (0 : Int) ≤ 7 * (i : Int) by omega)]
 by_cases hc : b ≥ 128
 ·rw [if_pos (show (b : Int) ≥ 128 by omega), if_pos hc]
 ·have hb128 : b % 128 = b := by omega
  rw [if_neg (show ¬ (b : Int) ≥ 128 by omega), if_neg hc, hb128]
  by_cases h0 : b = 0
  ·by_cases hi0 : 0 < i
   ·rw [if_pos (show (b : Int) = 0 by omega), if_pos (show (i : Int) > 0 by omega), if_pos ⟨h0, hi0⟩]
   ·rw [if_pos (show (b : Int) = 0 by omega), if_neg (show ¬ (i : Int) > 0 by omega), if_neg (fun h => hi0 h.2)]
  ·rw [if_neg (show ¬ (b : Int) = 0 by omega), if_neg (fun h => h0 h.1)]
theorem Get_loop (l : List Int) (hb : Bytes l) (hl : l.length ≤ 140737488355328) (a : Nat) (ha : a ≤ l.length) : ∀ (d i acc : Nat) (P s : List Int), d + i = 10 → l.drop a = P ++ s → P.length = i → acc < 2 ^ (7 * i) →
 (∀ m, (0 < m ∨ i = 0) → putS (acc + m * 2 ^ (7 * i)) = P ++ putS m) → (1 ≤ d) →
 ∃ r, Ev (fun k => vint_Get.l0 k l (a : Int) (acc : Int) (i : Int)) r ∧ GotS l a r := by
 intro d
 induction d with
 | zero => intro i acc P s _ _ _ _ _ h; omega
 | succ d ih =>
  intro i acc P s hdi hd hP hacc hput _
  have hln : l.length - a = i + s.length := by rw [← List.length_drop, hd, List.length_append, hP]
  cases s with
  | nil =>
   refine ⟨(0, 0, 2), Ev.succ ?_, .inl ⟨2, by decide, rfl⟩⟩
   simp only [List.length_nil] at hln
   exact ⟨0, fun k _ => Get_short k l a acc i hl ha (by omega) (by omega)⟩
  | cons x s =>
   simp only [List.length_cons] at hln
   have hd2 : l.drop (a + i) = x :: s := by rw [← List.drop_drop, hd, List.drop_append_of_le_length (by omega), List.drop_of_length_le (by omega)]; rfl
   obtain ⟨hx, hs, hlt⟩ := drop_at hd2
   obtain ⟨hx0, hx1⟩ := hb x (List.mem_of_getElem? hx)
   obtain ⟨b, rfl⟩ := Int.eq_ofNat_of_zero_le hx0
   have h256 : b < 256 := by omega
   have hstep : ∀ r, Ev (fun k => vint_Get.j2 k l (a : Int) (acc : Int) (i : Int) (b : Int) (decide (i = 9 ∧ 1 < b))) r → Ev (fun k => vint_Get.l0 k l (a : Int) (acc : Int) (i : Int)) r := by
    intro r hr
    refine Ev.succ ?_
    simp only [Get_byte _ l a acc i b hl hlt (by omega) hx]
    exact hr
   by_cases hw : i = 9 ∧ 1 < b
   ·refine ⟨(0, 0, 20), hstep _ ?_, .inl ⟨20, by decide, rfl⟩⟩
    rw [decide_eq_true hw]
    exact Ev.succ ⟨0, fun k _ => Get_wide k l _ _ _ _⟩
   ·rw [decide_eq_false hw] at hstep
    have hsm : b ≤ 1 ∨ i < 9 := by omega
    have hj := fun k => Get_j2 k l a acc i b (by omega) (by omega) h256 hacc hsm
    by_cases hc : b ≥ 128
    ·have hi8 : i < 9 := by omega
     obtain ⟨h1, _⟩ := pow7 i (by omega)
     have h3 : (b % 128) * 2 ^ (7 * i) ≤ 127 * 2 ^ (7 * i) := Nat.mul_le_mul_right _ (by omega)
     obtain ⟨r, hr, hg⟩ := ih (i + 1) (acc + (b % 128) * 2 ^ (7 * i)) (P ++ [(b : Int)]) s (by omega) (by rw [hd]; simp) (by simp [hP]) (by omega) (by
      intro m hm
      have hm0 : 0 < m := by omega
      have e7 : acc + (b % 128) * 2 ^ (7 * i) + m * 2 ^ (7 * (i + 1)) = acc + (b % 128 + 128 * m) * 2 ^ (7 * i) := by
       rw [← h1, Nat.add_mul, Nat.add_assoc]
       congr 2
       rw [Nat.mul_comm (2 ^ (7 * i)) 128, ← Nat.mul_assoc, Nat.mul_comm m 128]
      rw [e7, hput _ (.inl (by omega)), putS_big (show ¬ (b % 128 + 128 * m < 128) by omega)]
      have e8 : (b % 128 + 128 * m) % 128 + 128 = b := by omega
      have e9 : (b % 128 + 128 * m) / 128 = m := by omega
      rw [e8, e9]
      simp) (by omega)
     refine ⟨r, hstep _ (Ev.succ ?_), hg⟩
     simp only [hj, if_pos hc]
     exact hr
    ·by_cases hz : b = 0 ∧ 0 < i
     ·refine ⟨(0, 0, 5), hstep _ (Ev.succ ?_), .inl ⟨5, by decide, rfl⟩⟩
      simp only [hj, if_neg hc, if_pos hz]
      exact Ev.some_ _
     ·have hput2 := hput b (by omega)
      rw [putS_small (n := b) (by omega)] at hput2
      have hlen2 : (putS (acc + b * 2 ^ (7 * i))).length = i + 1 := by rw [hput2]; simp [hP]
      have hval := Get_acc (i := i) (by omega) hacc hsm
      rw [show b % 128 = b by omega] at hval
      refine ⟨(((acc + b * 2 ^ (7 * i) : Nat) : Int), ((a + i + 1 : Nat) : Int), 0), hstep _ (Ev.succ ?_), .inr ⟨acc + b * 2 ^ (7 * i), s, by omega, by rw [hput2, hd]; simp, by rw [hlen2, Nat.add_assoc]⟩⟩
      simp only [hj, if_neg hc, if_neg hz]
      exact Ev.some_ _
theorem Get_f (l : List Int) (a : Nat) (ha : a ≤ l.length) {r : Int × Int × Int} (h : Ev (fun k => vint_Get.l0 k l (a : Int) 0 0) r) : Ev (fun k => vint_Get.f k l (a : Int)) r := by
 unfold vint_Get.f
 simp only [if_neg (show ¬ ((a : Int) < 0) by omega), decide_eq_false (show ¬ ((a : Int) > (l.length : Int)) by omega)]
 refine Ev.succ ?_
 simp only [vint_Get.j0, if_neg Bool.false_ne_true]
 exact h
theorem Get (l : List Int) (hb : Bytes l) (hl : l.length ≤ 140737488355328) (a : Nat) (ha : a ≤ l.length) : ∃ r, Ev (fun k => vint_Get.f k l (a : Int)) r ∧ GotS l a r := by
 obtain ⟨r, hr, hg⟩ := Get_loop l hb hl a ha 10 0 0 [] (l.drop a) rfl rfl rfl (by decide) (fun m _ => by simp) (by decide)
 exact ⟨r, Get_f l a ha hr, hg⟩
def num : List Int → Nat
 | [] => 0
 | x :: l => x.toNat + 256 * num l
def digs : Nat → Nat → List Int
 | 0, _ => []
 | m + 1, N => ((N % 256 : Nat) : Int) :: digs m (N / 256)
theorem digs_len (m : Nat) : ∀ N, (digs m N).length = m := by
 induction m with
 | zero => intro N; rfl
 | succ m ih => intro N; simp [digs, ih]
theorem digs_num {l : List Int} (h : Bytes l) : digs l.length (num l) = l := by
 induction l with
 | nil => rfl
 | cons x l ih =>
  have hx := h x (by simp)
  have e1 : (num (x :: l)) % 256 = x.toNat := by simp only [num]; omega
  have e2 : (num (x :: l)) / 256 = num l := by simp only [num]; omega
  simp only [List.length_cons, digs, e1, e2, ih (fun y hy => h y (by simp [hy]))]
  congr 1
  omega
theorem num_lt {l : List Int} (h : Bytes l) : num l < 256 ^ l.length := by
 induction l with
 | nil => simp [num]
 | cons x l ih =>
  have hx := h x (by simp)
  have := ih (fun y hy => h y (by simp [hy]))
  simp only [num, List.length_cons, Nat.pow_succ]
  omega
theorem digs_zero (m : Nat) : digs m 0 = List.replicate m 0 := by
 induction m with
 | zero => rfl
 | succ m ih => simp [digs, ih, List.replicate_succ]
theorem rd_cons_zero (x : Int) (l : List Int) : rd (x :: l) 0 = x := by simp [rd]
theorem digs_rd (m : Nat) : ∀ N j : Nat, j < m → rd (digs m N) (j : Int) = ((N / 256 ^ j % 256 : Nat) : Int) := by
 induction m with
 | zero => intro N j h; omega
 | succ m ih =>
  intro N j h
  cases j with
  | zero => simp [rd, digs]
  | succ j =>
   have := ih (N / 256) j (by omega)
   rw [rd_nat] at this ⊢
   simp only [digs, List.getD_cons_succ, this]
   rw [Nat.div_div_eq_div_mul, Nat.pow_succ, Nat.mul_comm 256]
theorem digs_set (x r take : Nat) (hx : x < 2 ^ take) (hr : r + take ≤ 8) : ∀ (j m N : Nat), j < m → N < 256 ^ j * 2 ^ r →
 (digs m N).set j (((N / 256 ^ j % 256 + x * 2 ^ r : Nat)) : Int) = digs m (N + x * (256 ^ j * 2 ^ r)) ∧ N / 256 ^ j < 2 ^ r := by
 have hp : x * 2 ^ r + 2 ^ r ≤ 256 := by
  have h1 : (x + 1) * 2 ^ r ≤ 2 ^ take * 2 ^ r := Nat.mul_le_mul_right _ (by omega)
  rw [← Nat.pow_add] at h1
  have h2 : 2 ^ (take + r) ≤ 2 ^ 8 := Nat.pow_le_pow_right (by omega) (by omega)
  rw [Nat.add_mul, Nat.one_mul] at h1
  omega
 intro j
 induction j with
 | zero =>
  intro m N hm hN
  obtain ⟨m, rfl⟩ : ∃ m', m = m' + 1 := ⟨m - 1, by omega⟩
  simp only [Nat.pow_zero, Nat.one_mul, Nat.div_one] at hN ⊢
  refine ⟨?_, hN⟩
  simp only [digs, List.set_cons_zero]
  rw [show N % 256 = N from Nat.mod_eq_of_lt (by omega), show (N + x * 2 ^ r) % 256 = N + x * 2 ^ r from Nat.mod_eq_of_lt (by omega), show N / 256 = 0 from Nat.div_eq_of_lt (by omega), show (N + x * 2 ^ r) / 256 = 0 from Nat.div_eq_of_lt (by omega)]
 | succ j ih =>
  intro m N hm hN
  obtain ⟨m, rfl⟩ : ∃ m', m = m' + 1 := ⟨m - 1, by omega⟩
  have hN' : N / 256 < 256 ^ j * 2 ^ r := by
   rw [Nat.div_lt_iff_lt_mul (by omega)]
   rw [Nat.pow_succ] at hN
   rw [Nat.mul_right_comm]
   exact hN
  obtain ⟨h1, h2⟩ := ih m (N / 256) (by omega) hN'
  have e1 : x * (256 ^ (j + 1) * 2 ^ r) = 256 * (x * (256 ^ j * 2 ^ r)) := by
   rw [Nat.pow_succ, Nat.mul_right_comm, ← Nat.mul_assoc, Nat.mul_comm]
  have e2 : N / 256 ^ (j + 1) = N / 256 / 256 ^ j := by rw [Nat.div_div_eq_div_mul, Nat.pow_succ, Nat.mul_comm 256]
  rw [e2]
  refine ⟨?_, h2⟩
  simp only [digs, List.set_cons_succ]
  rw [h1, e1]
  have e3 : (N + 256 * (x * (256 ^ j * 2 ^ r))) % 256 = N % 256 := by omega
  have e4 : (N + 256 * (x * (256 ^ j * 2 ^ r))) / 256 = N / 256 + x * (256 ^ j * 2 ^ r) := by omega
  rw [e3, e4]
def cat (w : Nat) : List Nat → Nat
 | [] => 0
 | u :: us => u + 2 ^ w * cat w us
theorem cat_snoc (w : Nat) (us : List Nat) (u : Nat) : cat w (us ++ [u]) = cat w us + u * 2 ^ (w * us.length) := by
 induction us with
 | nil => simp [cat]
 | cons v us ih =>
  simp only [List.cons_append, cat, ih, List.length_cons]
  rw [Nat.mul_add, Nat.mul_add w, Nat.mul_one, Nat.pow_add, Nat.add_assoc]
  congr 2
  rw [Nat.mul_left_comm, Nat.mul_comm (2 ^ w)]
theorem cat_lt (w : Nat) {us : List Nat} (h : ∀ u ∈ us, u < 2 ^ w) : cat w us < 2 ^ (w * us.length) := by
 induction us with
 | nil => simp [cat]
 | cons v us ih =>
  have h1 := h v (by simp)
  have h2 := ih (fun u hu => h u (by simp [hu]))
  simp only [cat, List.length_cons]
  rw [Nat.mul_add, Nat.mul_one, Nat.add_comm (w * us.length), Nat.pow_add]
  have h3 : 2 ^ w * (cat w us + 1) ≤ 2 ^ w * 2 ^ (w * us.length) := Nat.mul_le_mul_left _ h2
  rw [Nat.mul_add, Nat.mul_one] at h3
  omega
def cuts (w : Nat) : Nat → Nat → List Nat
 | 0, _ => []
 | n + 1, N => N % 2 ^ w :: cuts w n (N / 2 ^ w)
theorem cuts_len (w n : Nat) : ∀ N, (cuts w n N).length = n := by
 induction n with
 | zero => intro N; rfl
 | succ n ih => intro N; simp [cuts, ih]
theorem cuts_lt (w n : Nat) : ∀ N, ∀ u ∈ cuts w n N, u < 2 ^ w := by
 induction n with
 | zero => intro N u hu; simp [cuts] at hu
 | succ n ih =>
  intro N u hu
  simp only [cuts, List.mem_cons] at hu
  rcases hu with rfl | hu
  ·exact Nat.mod_lt _ (Nat.two_pow_pos w)
  ·exact ih _ u hu
theorem cat_cuts (w n : Nat) : ∀ N, N < 2 ^ (w * n) → cat w (cuts w n N) = N := by
 induction n with
 | zero => intro N h; simp at h; simp [cuts, cat, h]
 | succ n ih =>
  intro N h
  have h1 : N / 2 ^ w < 2 ^ (w * n) := by
   rw [Nat.div_lt_iff_lt_mul (Nat.two_pow_pos w), ← Nat.pow_add]
   rw [Nat.mul_add, Nat.mul_one] at h
   exact h
  simp only [cuts, cat, ih _ h1]
  have := Nat.mod_add_div N (2 ^ w)
  omega
theorem cuts_snoc (w n : Nat) : ∀ N, cuts w (n + 1) N = cuts w n N ++ [N / 2 ^ (n * w) % 2 ^ w] := by
 induction n with
 | zero => intro N; simp [cuts]
 | succ n ih =>
  intro N
  rw [cuts, ih, cuts]
  simp only [List.cons_append]
  rw [Nat.div_div_eq_div_mul, ← Nat.pow_add, Nat.add_mul, Nat.one_mul, Nat.add_comm w]
end Go.Proofs.YtjbhaepkldgfnaaGreat.L
