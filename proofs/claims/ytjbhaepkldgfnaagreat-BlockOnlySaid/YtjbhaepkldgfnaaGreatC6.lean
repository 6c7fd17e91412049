/- A part of the proof of BlockOnly (the last text says what is proved, and of what): contracts of Go functions, made by a program of this work over the kit's print, the print's words that they use, and plain laws. No condition. -/
import Derived.Test.YtjbhaepkldgfnaaGreatC2
import Derived.Test.YtjbhaepkldgfnaaGreatC4
import Derived.Test.YtjbhaepkldgfnaaGreatC5
namespace Go.Proofs.YtjbhaepkldgfnaaGreat.S
open Go.RowKit Go.Proofs.YtjbhaepkldgfnaaGreatW.PrintWords Go.Proofs.YtjbhaepkldgfnaaGreatW.PrintLast Go.Proofs.YtjbhaepkldgfnaaGreatW.PrintMore
attribute [local go_sem] max2_int min2_int max_two min_two max_three min_three max_four min_four
set_option linter.unusedVariables false
set_option linter.unusedSimpArgs false
mutual
def block_Decode.l0 : Nat → Int → Int → Int → List Int → List Int → Int → List Int → Int → Int → Option ((List (S62)) × Int)
 | 0, _, _, _, _, _, _, _, _, _ => none
 | k + 1, x0, x6, x7, x10, x11, x12, x78, x79, x80 => if x80 < x79 then (if 0 ≤ x80 then (if x80 < (x78.length : Int) then (block_Decode.l0 k x0 x6 x7 x10 x11 (wrap64 (x12 + (wrap64 (IntKind.u64.wrap (1 - (rd x78 x80)))))) x78 x79 (wrap64 (x80 + 1))) else (none)) else (none)) else ((block_readBodyV.f k x0 x6 x11 x12).bind fun bt659 => (if bt659.2 = 0 then (if 0 ≤ x7 then (if (x7 : Int).toNat ≤ 7036874417766 then (block_Decode.l1 k x0 bt659.1 (List.replicate (x7 : Int).toNat z62) x10 (x10.length : Int) 0) else (none)) else (none)) else (some (([] : List (S62)), bt659.2))))
def block_Decode.l1 : Nat → Int → List (S62) → List (S62) → List Int → Int → Int → Option ((List (S62)) × Int)
 | 0, _, _, _, _, _, _ => none
 | k + 1, x0, x15, x16, x103, x104, x105 => if x105 < x104 then (if 0 ≤ x105 then (if x105 < (x103.length : Int) then (if x105 < (x16.length : Int) then ((some (x16.set (x105 : Int).toNat (⟨((rd x103 x105) == 1), (rd_T62 x16 x105).f1, (rd_T62 x16 x105).f2⟩ : S62) : List (S62))).bind fun y667 => (if (rd x103 x105) = 0 then (if 0 < (x15.length : Int) then (if 1 ≤ (x15.length : Int) then (block_Decode.l1 k x0 (x15.drop 1) (y667.set (x105 : Int).toNat (⟨(rd_T62 x15 0).f0, (rd_T62 x15 0).f1, (rd_T62 x15 0).f2⟩ : S62)) x103 x104 (wrap64 (x105 + 1))) else (none)) else (none)) else (block_Decode.l1 k x0 x15 y667 x103 x104 (wrap64 (x105 + 1))))) else (none)) else (none)) else (none)) else ((block_check.f k x0 x16).bind fun t675 => (if t675 = 0 then (some (x16, 0)) else (some (([] : List (S62)), t675))))
end
def block_Decode.f (k : Nat) (a0 : Int) (l1 : List Int) : Option ((List (S62)) × Int) := (block_badKind.f a0).bind fun t633 => (if t633 = true then (some (([] : List (S62)), 1)) else (if (l1.length : Int) > 65000 then (some (([] : List (S62)), 4)) else ((crc_Sealed.f k l1).bind fun t634 => (if t634 = true then (if (l1.length : Int) = 4 then (some (([] : List (S62)), 2)) else (if 0 < (l1.length : Int) then ((block_fits.f k a0 (wrap64 (rd l1 0))).bind fun t636 => (if t636 = true then (if 0 ≤ (wrap64 ((l1.length : Int) - 4)) then (if (wrap64 ((l1.length : Int) - 4)) ≤ (l1.length : Int) then ((some (l1.take ((wrap64 ((l1.length : Int) - 4)) : Int).toNat : List Int)).bind fun y638 => ((vint_Get.f k y638 1).bind fun bt643 => (if bt643.2.2 = 0 then (if bt643.1 > 4096 then (some (([] : List (S62)), 4)) else (if 0 ≤ bt643.2.1 then (if bt643.2.1 ≤ (y638.length : Int) then ((block_readNulls.f k (y638.drop (bt643.2.1 : Int).toNat) (wrap64 (bt643.1))).bind fun bt651 => (if bt651.2.2 = 0 then (block_Decode.l0 k a0 (wrap64 (rd l1 0)) bt643.1 bt651.1 bt651.2.1 0 bt651.1 (bt651.1.length : Int) 0) else (some (([] : List (S62)), bt651.2.2)))) else (none)) else (none))) else (some (([] : List (S62)), bt643.2.2))))) else (none)) else (none)) else (some (([] : List (S62)), 120)))) else (none))) else (some (([] : List (S62)), 6))))))
def block_Decode.T11 : Bool × List (List Nat × List Nat) := (true, [([], []), ([0], [0]), ([1], [1]), ([2], [2]), ([], []), ([], []), ([5], [5]), ([6], [6]), ([4, 7], [4, 7]), ([3, 0, 1, 2, 3], [3]), ([8, 9, 0, 1, 2, 3, 4, 5, 6, 7, 8, 9], [0, 4, 5, 8])])
def block_Decode.B11 : List Nat := [0, 1, 3, 7, 0, 0, 32, 96, 240, 15, 1023]
theorem block_Decode.tab11 : rtab .any (opsOf Tryz.f13 11) = block_Decode.T11 := by kernel_rfl
theorem block_Decode.bits11 : waitsOk block_Decode.T11.2 block_Decode.B11 = true := by kernel_rfl
def block_Decode.T35 : Bool × List (List Nat × List Nat) := (true, [([], []), ([], []), ([], []), ([2], [2]), ([3], [3]), ([], []), ([5], [5]), ([0, 1, 0, 1, 2, 3, 4], [0, 1]), ([7, 4, 0, 1, 2, 3, 4], [4, 7]), ([6, 8, 0, 1, 2, 3, 4, 5, 6, 7, 8], [2, 5, 6])])
def block_Decode.B35 : List Nat := [0, 0, 0, 4, 12, 0, 32, 31, 159, 511]
theorem block_Decode.tab35 : rtab .any (opsOf Tryz.f13 35) = block_Decode.T35 := by kernel_rfl
theorem block_Decode.bits35 : waitsOk block_Decode.T35.2 block_Decode.B35 = true := by kernel_rfl
set_option maxHeartbeats 8000000 in
set_option maxRecDepth 100000 in
theorem block_Decode.calls (k : Nat) (a0 : Int) (P1_ : Nat → Prop) (A1 : Option Addr) (c1 : Nat) (l1 : List Int) (r1 : List (S62)) (r2 : Int) (w : World) (hs1 : Kd.V (Kd.int .u8) 5 w w.heap.size (fun k_ => P1_ k_) (.slice A1 l1.length c1) l1) (h : block_Decode.f k a0 l1 = some (r1, r2)) :
 Calls Tryz.prog 13 #[.int .i64 a0, .slice A1 l1.length c1] w fun e w' => ∃ v0_ : Value, e = .returned (.tuple #[v0_, .int .i64 r2]) ∧ Kd.N k62 62 w' w.heap.size (fun k_ => (P1_ k_ ∨ w.heap.size ≤ k_)) v0_ r1 ∧ Below w.heap.size w w' := by
 have hu62 := Tryz.underlying62
 have HO1 := Aside0.mk (show Kd.V (Kd.int .u8) 5 w w.heap.size (fun k_ => (P1_ k_ ∨ w.heap.size ≤ k_)) (.slice A1 l1.length c1) l1 from Kd.V_mono hs1 (fun k_ hk => .inl hk))
 have HB := Aside0.mk (Below.refl w.heap.size w)
 unfold block_Decode.f at h
 have H := h
 clear h
 replace H := Option.bind_eq_some_iff.mp H
 obtain ⟨t633, A30, H⟩ := H
 (try dsimp only at H)
 have A3 := Aside0.mk A30
 clear A30
 by_cases c4 : t633 = true
 ·subst c4
  have H1 : (some (([] : List (S62)), 1)) = some (r1, r2) := by rw [if_pos rfl] at H; exact H
  clear H
  have H := H1
  clear H1
  simp only [Option.some.injEq, Prod.mk.injEq] at H
  obtain ⟨rfl, rfl⟩ := H
  go_enter Tryz.func13, Tryz.ntmps13
  go_wp2_with ((refine goL_ Tryz.func37 #[.int .i64 a0] ?_; (with_reducible refine (block_badKind.calls a0 true _ A3.out).mono ?_); rintro e w' ⟨rfl, ⟨nd, rfl⟩⟩; refine ⟨_, rfl, ?_⟩))
  go_ret2
  exact ⟨_, by rfl, by exact Kd.N_nil _ _ _ _ _, by repeat ((with_reducible first | exact HB.out | apply pw_below_drewN))⟩
 replace c4 := Bool.eq_false_iff.mpr c4
 subst c4
 have H1 : (if (l1.length : Int) > 65000 then (some (([] : List (S62)), 4)) else ((crc_Sealed.f k l1).bind fun t634 => (if t634 = true then (if (l1.length : Int) = 4 then (some (([] : List (S62)), 2)) else (if 0 < (l1.length : Int) then ((block_fits.f k a0 (wrap64 (rd l1 0))).bind fun t636 => (if t636 = true then (if 0 ≤ (wrap64 ((l1.length : Int) - 4)) then (if (wrap64 ((l1.length : Int) - 4)) ≤ (l1.length : Int) then ((some (l1.take ((wrap64 ((l1.length : Int) - 4)) : Int).toNat : List Int)).bind fun y638 => ((vint_Get.f k y638 1).bind fun bt643 => (if bt643.2.2 = 0 then (if bt643.1 > 4096 then (some (([] : List (S62)), 4)) else (if 0 ≤ bt643.2.1 then (if bt643.2.1 ≤ (y638.length : Int) then ((block_readNulls.f k (y638.drop (bt643.2.1 : Int).toNat) (wrap64 (bt643.1))).bind fun bt651 => (if bt651.2.2 = 0 then (block_Decode.l0 k a0 (wrap64 (rd l1 0)) bt643.1 bt651.1 bt651.2.1 0 bt651.1 (bt651.1.length : Int) 0) else (some (([] : List (S62)), bt651.2.2)))) else (none)) else (none))) else (some (([] : List (S62)), bt643.2.2))))) else (none)) else (none)) else (some (([] : List (S62)), 120)))) else (none))) else (some (([] : List (S62)), 6))))) = some (r1, r2) := by rw [if_neg (show ¬ (false = true) by decide)] at H; exact H
 clear H
 have H := H1
 clear H1
 by_cases c5 : (l1.length : Int) > 65000
 ·rw [if_pos c5] at H
  have c5b0 : decide (65000 < (l1.length : Int)) = true := decide_eq_true c5
  have c5b1 : decide (65000 < l1.length) = true := decide_eq_true (by omega)
  clear c5
  simp only [Option.some.injEq, Prod.mk.injEq] at H
  obtain ⟨rfl, rfl⟩ := H
  go_enter Tryz.func13, Tryz.ntmps13
  go_wp2_with ((refine goL_ Tryz.func37 #[.int .i64 a0] ?_; (with_reducible refine (block_badKind.calls a0 false _ A3.out).mono ?_); rintro e w' ⟨rfl, ⟨nd, rfl⟩⟩; refine ⟨_, rfl, ?_⟩))
  go_ret2
  exact ⟨_, by rfl, by exact Kd.N_nil _ _ _ _ _, by repeat ((with_reducible first | exact HB.out | apply pw_below_drewN))⟩
 rw [if_neg c5] at H
 have c5b0 : decide (65000 < (l1.length : Int)) = false := decide_eq_false c5
 have c5b1 : decide (65000 < l1.length) = false := decide_eq_false (by omega)
 clear c5
 replace H := Option.bind_eq_some_iff.mp H
 obtain ⟨t634, A60, H⟩ := H
 (try dsimp only at H)
 have A6 := Aside0.mk A60
 clear A60
 by_cases c7 : t634 = true
 ·subst c7
  have H1 : (if (l1.length : Int) = 4 then (some (([] : List (S62)), 2)) else (if 0 < (l1.length : Int) then ((block_fits.f k a0 (wrap64 (rd l1 0))).bind fun t636 => (if t636 = true then (if 0 ≤ (wrap64 ((l1.length : Int) - 4)) then (if (wrap64 ((l1.length : Int) - 4)) ≤ (l1.length : Int) then ((some (l1.take ((wrap64 ((l1.length : Int) - 4)) : Int).toNat : List Int)).bind fun y638 => ((vint_Get.f k y638 1).bind fun bt643 => (if bt643.2.2 = 0 then (if bt643.1 > 4096 then (some (([] : List (S62)), 4)) else (if 0 ≤ bt643.2.1 then (if bt643.2.1 ≤ (y638.length : Int) then ((block_readNulls.f k (y638.drop (bt643.2.1 : Int).toNat) (wrap64 (bt643.1))).bind fun bt651 => (if bt651.2.2 = 0 then (block_Decode.l0 k a0 (wrap64 (rd l1 0)) bt643.1 bt651.1 bt651.2.1 0 bt651.1 (bt651.1.length : Int) 0) else (some (([] : List (S62)), bt651.2.2)))) else (none)) else (none))) else (some (([] : List (S62)), bt643.2.2))))) else (none)) else (none)) else (some (([] : List (S62)), 120)))) else (none))) = some (r1, r2) := by rw [if_pos rfl] at H; exact H
  clear H
  have H := H1
  clear H1
  by_cases c8 : (l1.length : Int) = 4
  ·rw [if_pos c8] at H
   have c8b0 : ((l1.length : Int) == 4) = true := beq_iff_eq.mpr c8
   have c8b1 : ((l1.length : Int) != 4) = false := bne_eq_false_iff_eq.mpr c8
   clear c8
   simp only [Option.some.injEq, Prod.mk.injEq] at H
   obtain ⟨rfl, rfl⟩ := H
   go_enter Tryz.func13, Tryz.ntmps13
   go_wp2_with (first | ((with_reducible refine gate_callee (f := 37) rfl ?_); refine goL_ Tryz.func37 #[.int .i64 a0] ?_; (with_reducible refine (block_badKind.calls a0 false _ A3.out).mono ?_); rintro e w' ⟨rfl, ⟨nd, rfl⟩⟩; refine ⟨_, rfl, ?_⟩) | ((with_reducible refine gate_callee (f := 44) rfl ?_); refine goL_ Tryz.func44 #[.slice A1 l1.length c1] ?_; (with_reducible refine (crc_Sealed.calls k _ _ l1 true _ ?side1 ?side2 A6.out).mono ?_); (case side1 => repeat (exact (Kd.V_reads' HO1.out).2.2)); (case side2 => exact (Kd.V_reads' HO1.out).2.1); rintro e w9 ⟨rfl, hb⟩; refine ⟨_, rfl, ?_⟩; have n0_ := Aside0.mk (Kd.V_below (by (with_reducible repeat (apply Kd.V_drewN)); exact HO1.out) hb); have n1_ := Aside0.mk (below_step (by repeat ((with_reducible first | exact HB.out | apply pw_below_drewN))) hb); revert n0_ n1_; clear HO1 HB; intro HO1 HB; (try clear hb)))
   go_ret2
   exact ⟨_, by rfl, by exact Kd.N_nil _ _ _ _ _, by exact HB.out⟩
  rw [if_neg c8] at H
  have c8b0 : ((l1.length : Int) == 4) = false := beq_eq_false_iff_ne.mpr c8
  have c8b1 : ((l1.length : Int) != 4) = true := bne_iff_ne.mpr c8
  by_cases c10 : 0 < (l1.length : Int)
  ·rw [if_pos c10] at H
   have c10b0 : decide (0 < (l1.length : Int)) = true := decide_eq_true c10
   have c10b1 : decide (0 < l1.length) = true := decide_eq_true (by omega)
   clear c10
   replace H := Option.bind_eq_some_iff.mp H
   obtain ⟨t636, A110, H⟩ := H
   (try dsimp only at H)
   have A11 := Aside0.mk A110
   clear A110
   by_cases c12 : t636 = true
   ·subst c12
    have H1 : (if 0 ≤ (wrap64 ((l1.length : Int) - 4)) then (if (wrap64 ((l1.length : Int) - 4)) ≤ (l1.length : Int) then ((some (l1.take ((wrap64 ((l1.length : Int) - 4)) : Int).toNat : List Int)).bind fun y638 => ((vint_Get.f k y638 1).bind fun bt643 => (if bt643.2.2 = 0 then (if bt643.1 > 4096 then (some (([] : List (S62)), 4)) else (if 0 ≤ bt643.2.1 then (if bt643.2.1 ≤ (y638.length : Int) then ((block_readNulls.f k (y638.drop (bt643.2.1 : Int).toNat) (wrap64 (bt643.1))).bind fun bt651 => (if bt651.2.2 = 0 then (block_Decode.l0 k a0 (wrap64 (rd l1 0)) bt643.1 bt651.1 bt651.2.1 0 bt651.1 (bt651.1.length : Int) 0) else (some (([] : List (S62)), bt651.2.2)))) else (none)) else (none))) else (some (([] : List (S62)), bt643.2.2))))) else (none)) else (none)) = some (r1, r2) := by rw [if_pos rfl] at H; exact H
    clear H
    have H := H1
    clear H1
    obtain ⟨ji13, hji13⟩ : ∃ j_ : Int, (wrap64 ((l1.length : Int) - 4)) = j_ := ⟨_, rfl⟩
    replace H : (if 0 ≤ (ji13) then (if (ji13) ≤ (l1.length : Int) then ((some (l1.take ((ji13) : Int).toNat : List Int)).bind fun y638 => ((vint_Get.f k y638 1).bind fun bt643 => (if bt643.2.2 = 0 then (if bt643.1 > 4096 then (some (([] : List (S62)), 4)) else (if 0 ≤ bt643.2.1 then (if bt643.2.1 ≤ (y638.length : Int) then ((block_readNulls.f k (y638.drop (bt643.2.1 : Int).toNat) (wrap64 (bt643.1))).bind fun bt651 => (if bt651.2.2 = 0 then (block_Decode.l0 k a0 (wrap64 (rd l1 0)) bt643.1 bt651.1 bt651.2.1 0 bt651.1 (bt651.1.length : Int) 0) else (some (([] : List (S62)), bt651.2.2)))) else (none)) else (none))) else (some (([] : List (S62)), bt643.2.2))))) else (none)) else (none)) = some (r1, r2) := by (rw [hji13] at H; exact H)
    have hji13w : (IntKind.i64.wrap ((l1.length : Int) - 4)) = ji13 := (i64_w _).trans hji13
    by_cases c14 : 0 ≤ (ji13)
    ·rw [if_pos c14] at H
     have c14b0 := eq_true c14
     have c14b1 : decide (0 ≤ (ji13)) = true := decide_eq_true c14
     clear c14
     by_cases c15 : (ji13) ≤ (l1.length : Int)
     ·rw [if_pos c15] at H
      have c15b0 := eq_true c15
      have c15b1 : decide ((ji13) ≤ (l1.length : Int)) = true := decide_eq_true c15
      clear c15
      obtain ⟨y638, hy638⟩ : ∃ y_ : List Int, y_ = (l1.take ((ji13) : Int).toNat) := ⟨_, rfl⟩
      replace H : ((vint_Get.f k y638 1).bind fun bt643 => (if bt643.2.2 = 0 then (if bt643.1 > 4096 then (some (([] : List (S62)), 4)) else (if 0 ≤ bt643.2.1 then (if bt643.2.1 ≤ (y638.length : Int) then ((block_readNulls.f k (y638.drop (bt643.2.1 : Int).toNat) (wrap64 (bt643.1))).bind fun bt651 => (if bt651.2.2 = 0 then (block_Decode.l0 k a0 (wrap64 (rd l1 0)) bt643.1 bt651.1 bt651.2.1 0 bt651.1 (bt651.1.length : Int) 0) else (some (([] : List (S62)), bt651.2.2)))) else (none)) else (none))) else (some (([] : List (S62)), bt643.2.2)))) = some (r1, r2) := by (have H2_ := (Option.bind_some _ _).symm.trans H; rw [hy638]; with_reducible exact H2_)
      have Ny638 := Aside0.mk hy638
      clear hy638
      replace H := Option.bind_eq_some_iff.mp H
      obtain ⟨⟨t643, t644, t645⟩, A160, H⟩ := H
      (try dsimp only at H)
      have A16 := Aside0.mk A160
      clear A160
      by_cases c17 : t645 = 0
      ·rw [if_pos c17] at H
       have c17b0 : (t645 == 0) = true := beq_iff_eq.mpr c17
       have c17b1 : (t645 != 0) = false := bne_eq_false_iff_eq.mpr c17
       clear c17
       by_cases c18 : t643 > 4096
       ·rw [if_pos c18] at H
        have c18b0 : decide (4096 < t643) = true := decide_eq_true c18
        clear c18
        simp only [Option.some.injEq, Prod.mk.injEq] at H
        obtain ⟨rfl, rfl⟩ := H
        go_enter Tryz.func13, Tryz.ntmps13
        try go_wp2_with (first | ((with_reducible refine gate_callee (f := 37) rfl ?_); refine goL_ Tryz.func37 #[.int .i64 a0] ?_; (with_reducible refine (block_badKind.calls a0 false _ A3.out).mono ?_); rintro e w' ⟨rfl, ⟨nd, rfl⟩⟩; refine ⟨_, rfl, ?_⟩) | ((with_reducible refine gate_callee (f := 44) rfl ?_); refine goL_ Tryz.func44 #[.slice A1 l1.length c1] ?_; (with_reducible refine (crc_Sealed.calls k _ _ l1 true _ ?side1 ?side2 A6.out).mono ?_); (case side1 => repeat (exact (Kd.V_reads' HO1.out).2.2)); (case side2 => exact (Kd.V_reads' HO1.out).2.1); rintro e w19 ⟨rfl, hb⟩; refine ⟨_, rfl, ?_⟩; have n0_ := Aside0.mk (Kd.V_below (by (with_reducible repeat (apply Kd.V_drewN)); exact HO1.out) hb); have n1_ := Aside0.mk (below_step (by repeat ((with_reducible first | exact HB.out | apply pw_below_drewN))) hb); revert n0_ n1_; clear HO1 HB; intro HO1 HB; (try clear hb); have p635 : 0 ≤ (0 : Int) := (by omega); have q635 : 0 < (l1.length : Int) := of_decide_eq_true ‹_›; obtain ⟨ad635, e635, hx635_0⟩ := Kd.at_int (Kd.V_reads' HO1.out).2.2 0 p635 q635; cases e635; have qi635 : (0 < l1.length) = True := eq_true (by omega); (try rw [show ((0 : Int)).toNat = 0 from rfl] at hx635_0); (try rw [Addr.add_zero'] at hx635_0); replace p635 := eq_true p635; replace q635 := eq_true q635) | ((with_reducible refine gate_callee (f := 38) rfl ?_); refine goL_ Tryz.func38 #[.int .i64 a0, .int .i64 (wrap64 (rd l1 0))] ?_; (with_reducible refine (block_fits.calls k a0 (wrap64 (rd l1 0)) true _ A11.out).mono ?_); rintro e w' ⟨rfl, ⟨nd, rfl⟩⟩; refine ⟨_, rfl, ?_⟩))
        (try (rw [drewN_self w19]; generalize hq_ : World.drewN w19 _ = w19; have n0_ : Aside0 (Kd.V (Kd.int .u8) 5 w19 w.heap.size (fun k_ => (P1_ k_ ∨ w.heap.size ≤ k_)) (.slice (some ad635) l1.length c1) l1) := ⟨by rw [← hq_]; exact (by (with_reducible repeat (apply Kd.V_drewN)); exact HO1.out)⟩; have n1_ : Aside0 (Below w.heap.size w w19) := ⟨by rw [← hq_]; exact (by repeat ((with_reducible first | exact HB.out | apply pw_below_drewN)))⟩; clear HO1 HB hq_; have HO1 := n0_; have HB := n1_; clear n0_ n1_))
        have n0_ := Aside0.mk (Kd.V_drew HO1.out)
        have n1_ := Aside0.mk (below_drew1 HB.out)
        clear HO1
        clear HB
        have HO1 := n0_
        have HB := n1_
        clear n0_ n1_
        have p637 : 0 ≤ (0 : Int) := (by omega)
        have q637 : 0 < (l1.length : Int) := of_decide_eq_true ‹_›
        obtain ⟨ad637, e637, hx637_0⟩ := Kd.at_int (Kd.V_reads' HO1.out).2.2 0 p637 q637
        obtain rfl : ad635 = ad637 := (by injection e637)
        have qi637 : (0 < l1.length) = True := eq_true (by omega)
        (try rw [show ((0 : Int)).toNat = 0 from rfl] at hx637_0)
        (try rw [Addr.add_zero'] at hx637_0)
        replace p637 := eq_true p637
        replace q637 := eq_true q637
        have q21 : ((ji13) : Int) ≤ ((l1.length : Int) : Int) := of_decide_eq_true ‹_›
        obtain ⟨i021, hi021, _, hsz21, _⟩ := info_parts info5
        have hroom21 : l1.length ≤ c1 := (Kd.V_reads' HO1.out).2.1
        have hC21 : Kd.F (Kd.int .u8) _ _ (some ad635) l1.length l1 := (Kd.V_at (base := w.heap.size) HO1.out).2.2
        have hcut21 := cut_to (P := Tryz.prog) 24 5 .i64 Tryz.underlying24 hi021 (some ad635) l1.length c1 (ji13) (of_decide_eq_true ‹_›) q21 hroom21
        have hr21 := Kd.F_take (m := ((ji13) : Int).toNat) hC21 (by omega)
        have hy21 : y638.length = ((ji13) : Int).toNat := (by rw [Ny638.out, List.length_take]; omega)
        rw [← Ny638.out] at hr21
        rw [← hy21] at hcut21
        have HO642 := Aside0.mk (show Kd.V (Kd.int .u8) 5 _ w.heap.size _ (.slice (some ad635) y638.length c1) y638 from Kd.V_mk (by omega) hr21)
        have HC642 := Aside0.mk (show y638.length ≤ c1 from by omega)
        clear hr21 hC21 hroom21 hi021 hsz21
        have KY21 := Aside0.mk hy21
        clear hy21
        replace q21 := eq_true q21
        refine start_ (n := 11) (S := fun w' => w'.cell? ad635 = some (.int .u8 (rd l1 0))) (ds := []) #[false, false, false, false, false, false, false, false, false, false, false] (by kernel_rfl) rfl rfl (hx637_0) (fun hHeld => ?_); refine with_tabW block_Decode.tab11 block_Decode.bits11 (fun HT_ HW_ => ?_)
        generalize w19.drew = w20 at HO1 HB HO642 hx637_0 hHeld ⊢
        refine pu_ 0 43 HT_ ?_; refine pu_ 1 44 HT_ ?_; refine pu_ 4 47 HT_ ?_; refine pu_ 5 48 HT_ ?_; refine pu_ 6 49 HT_ ?_; refine pu_ 7 50 HT_ ?_; refine pu_ 8 51 HT_ ?_
        refine take_ (i := 2) (N := some 45) (v := ?_) (a' := ?_) #[true, true, true, false, true, true, true, true, true, false, false] rfl rfl (take_ofW HT_.out HW_.out (by kernel_rfl)) (fun _ _ _ h => h) (Or.inl ⟨by rfl, ?_⟩) hHeld ?_ ?_
        rotate_left
        ·intro w' s0
         go_simp
         with_reducible rfl
        rotate_left
        ·simp only [Act.put, List.setIfInBounds_toArray, List.set_cons_zero, List.set_cons_succ, i64_w, i32_w]
         rfl
        refine pu_ 3 46 HT_ ?_; refine pu_ 9 6 HT_ ?_; refine pu_ 10 1 HT_ ?_
        refine done_ (done_of HT_.out (by kernel_rfl)) ?_
        try go_wp2_with ((refine goL_ Tryz.func45 #[.slice (some ad635) y638.length c1, .int .i64 1] ?_; (with_reducible refine (vint_Get.calls k _ _ y638 1 t643 t644 t645 _ ?side1 ?side2 A16.out).mono ?_); (case side1 => repeat (exact (Kd.V_reads' HO642.out).2.2)); (case side2 => exact (Kd.V_reads' HO642.out).2.1); rintro e w' ⟨rfl, ⟨nd, rfl⟩⟩; refine ⟨_, rfl, ?_⟩))
        go_ret2
        exact ⟨_, by rfl, by exact Kd.N_nil _ _ _ _ _, by repeat ((with_reducible first | exact HB.out | apply pw_below_drewN))⟩
       rw [if_neg c18] at H
       have c18b0 : decide (4096 < t643) = false := decide_eq_false c18
       clear c18
       by_cases c22 : 0 ≤ t644
       ·rw [if_pos c22] at H
        have c22b0 := eq_true c22
        have c22b1 : decide (0 ≤ t644) = true := decide_eq_true c22
        clear c22
        by_cases c23 : t644 ≤ (y638.length : Int)
        ·rw [if_pos c23] at H
         have c23b0 := eq_true c23
         have c23b1 : decide (t644 ≤ (y638.length : Int)) = true := decide_eq_true c23
         clear c23
         obtain ⟨y646, hy646⟩ : ∃ y_ : List Int, y_ = (y638.drop (t644 : Int).toNat) := ⟨_, rfl⟩
         replace H : ((block_readNulls.f k y646 (wrap64 (t643))).bind fun bt651 => (if bt651.2.2 = 0 then (block_Decode.l0 k a0 (wrap64 (rd l1 0)) t643 bt651.1 bt651.2.1 0 bt651.1 (bt651.1.length : Int) 0) else (some (([] : List (S62)), bt651.2.2)))) = some (r1, r2) := by (rw [hy646]; with_reducible exact H)
         have Ny646 := Aside0.mk hy646
         clear hy646
         replace H := Option.bind_eq_some_iff.mp H
         obtain ⟨⟨t651, t654, t657⟩, A240, H⟩ := H
         (try dsimp only at H)
         have A24 := Aside0.mk A240
         clear A240
         by_cases c25 : t657 = 0
         ·rw [if_pos c25] at H
          have c25b0 : (t657 == 0) = true := beq_iff_eq.mpr c25
          have c25b1 : (t657 != 0) = false := bne_eq_false_iff_eq.mpr c25
          clear c25
          have H' := Aside0.mk H
          clear H
          go_enter Tryz.func13, Tryz.ntmps13
          try go_wp2_with (first | ((with_reducible refine gate_callee (f := 37) rfl ?_); refine goL_ Tryz.func37 #[.int .i64 a0] ?_; (with_reducible refine (block_badKind.calls a0 false _ A3.out).mono ?_); rintro e w' ⟨rfl, ⟨nd, rfl⟩⟩; refine ⟨_, rfl, ?_⟩) | ((with_reducible refine gate_callee (f := 44) rfl ?_); refine goL_ Tryz.func44 #[.slice A1 l1.length c1] ?_; (with_reducible refine (crc_Sealed.calls k _ _ l1 true _ ?side1 ?side2 A6.out).mono ?_); (case side1 => repeat (exact (Kd.V_reads' HO1.out).2.2)); (case side2 => exact (Kd.V_reads' HO1.out).2.1); rintro e w26 ⟨rfl, hb⟩; refine ⟨_, rfl, ?_⟩; have n0_ := Aside0.mk (Kd.V_below (by (with_reducible repeat (apply Kd.V_drewN)); exact HO1.out) hb); have n1_ := Aside0.mk (below_step (by repeat ((with_reducible first | exact HB.out | apply pw_below_drewN))) hb); revert n0_ n1_; clear HO1 HB; intro HO1 HB; (try clear hb); have p635 : 0 ≤ (0 : Int) := (by omega); have q635 : 0 < (l1.length : Int) := of_decide_eq_true ‹_›; obtain ⟨ad635, e635, hx635_0⟩ := Kd.at_int (Kd.V_reads' HO1.out).2.2 0 p635 q635; cases e635; have qi635 : (0 < l1.length) = True := eq_true (by omega); (try rw [show ((0 : Int)).toNat = 0 from rfl] at hx635_0); (try rw [Addr.add_zero'] at hx635_0); replace p635 := eq_true p635; replace q635 := eq_true q635) | ((with_reducible refine gate_callee (f := 38) rfl ?_); refine goL_ Tryz.func38 #[.int .i64 a0, .int .i64 (wrap64 (rd l1 0))] ?_; (with_reducible refine (block_fits.calls k a0 (wrap64 (rd l1 0)) true _ A11.out).mono ?_); rintro e w' ⟨rfl, ⟨nd, rfl⟩⟩; refine ⟨_, rfl, ?_⟩))
          (try (rw [drewN_self w26]; generalize hq_ : World.drewN w26 _ = w26; have n0_ : Aside0 (Kd.V (Kd.int .u8) 5 w26 w.heap.size (fun k_ => (P1_ k_ ∨ w.heap.size ≤ k_)) (.slice (some ad635) l1.length c1) l1) := ⟨by rw [← hq_]; exact (by (with_reducible repeat (apply Kd.V_drewN)); exact HO1.out)⟩; have n1_ : Aside0 (Below w.heap.size w w26) := ⟨by rw [← hq_]; exact (by repeat ((with_reducible first | exact HB.out | apply pw_below_drewN)))⟩; clear HO1 HB hq_; have HO1 := n0_; have HB := n1_; clear n0_ n1_))
          have n0_ := Aside0.mk (Kd.V_drew HO1.out)
          have n1_ := Aside0.mk (below_drew1 HB.out)
          clear HO1
          clear HB
          have HO1 := n0_
          have HB := n1_
          clear n0_ n1_
          have p637 : 0 ≤ (0 : Int) := (by omega)
          have q637 : 0 < (l1.length : Int) := of_decide_eq_true ‹_›
          obtain ⟨ad637, e637, hx637_0⟩ := Kd.at_int (Kd.V_reads' HO1.out).2.2 0 p637 q637
          obtain rfl : ad635 = ad637 := (by injection e637)
          have qi637 : (0 < l1.length) = True := eq_true (by omega)
          (try rw [show ((0 : Int)).toNat = 0 from rfl] at hx637_0)
          (try rw [Addr.add_zero'] at hx637_0)
          replace p637 := eq_true p637
          replace q637 := eq_true q637
          have q28 : ((ji13) : Int) ≤ ((l1.length : Int) : Int) := of_decide_eq_true ‹_›
          obtain ⟨i028, hi028, _, hsz28, _⟩ := info_parts info5
          have hroom28 : l1.length ≤ c1 := (Kd.V_reads' HO1.out).2.1
          have hC28 : Kd.F (Kd.int .u8) _ _ (some ad635) l1.length l1 := (Kd.V_at (base := w.heap.size) HO1.out).2.2
          have hcut28 := cut_to (P := Tryz.prog) 24 5 .i64 Tryz.underlying24 hi028 (some ad635) l1.length c1 (ji13) (of_decide_eq_true ‹_›) q28 hroom28
          have hr28 := Kd.F_take (m := ((ji13) : Int).toNat) hC28 (by omega)
          have hy28 : y638.length = ((ji13) : Int).toNat := (by rw [Ny638.out, List.length_take]; omega)
          rw [← Ny638.out] at hr28
          rw [← hy28] at hcut28
          have HO642 := Aside0.mk (show Kd.V (Kd.int .u8) 5 _ w.heap.size _ (.slice (some ad635) y638.length c1) y638 from Kd.V_mk (by omega) hr28)
          have HC642 := Aside0.mk (show y638.length ≤ c1 from by omega)
          clear hr28 hC28 hroom28 hi028 hsz28
          have KY28 := Aside0.mk hy28
          clear hy28
          replace q28 := eq_true q28
          refine start_ (n := 11) (S := fun w' => w'.cell? ad635 = some (.int .u8 (rd l1 0))) (ds := []) #[false, false, false, false, false, false, false, false, false, false, false] (by kernel_rfl) rfl rfl (hx637_0) (fun hHeld => ?_); refine with_tabW block_Decode.tab11 block_Decode.bits11 (fun HT_ HW_ => ?_)
          generalize w26.drew = w27 at HO1 HB HO642 hx637_0 hHeld ⊢
          refine pu_ 0 43 HT_ ?_; refine pu_ 1 44 HT_ ?_; refine pu_ 4 47 HT_ ?_; refine pu_ 5 48 HT_ ?_; refine pu_ 6 49 HT_ ?_; refine pu_ 7 50 HT_ ?_; refine pu_ 8 51 HT_ ?_
          refine take_ (i := 2) (N := some 45) (v := ?_) (a' := ?_) #[true, true, true, false, true, true, true, true, true, false, false] rfl rfl (take_ofW HT_.out HW_.out (by kernel_rfl)) (fun _ _ _ h => h) (Or.inl ⟨by rfl, ?_⟩) hHeld ?_ ?_
          rotate_left
          ·intro w' s0
           go_simp
           with_reducible rfl
          rotate_left
          ·simp only [Act.put, List.setIfInBounds_toArray, List.set_cons_zero, List.set_cons_succ, i64_w, i32_w]
           rfl
          refine pu_ 3 46 HT_ ?_; refine pu_ 9 6 HT_ ?_; refine pu_ 10 1 HT_ ?_
          refine done_ (done_of HT_.out (by kernel_rfl)) ?_
          try go_wp2_with (first | ((with_reducible refine gate_callee (f := 45) rfl ?_); refine goL_ Tryz.func45 #[.slice (some ad635) y638.length c1, .int .i64 1] ?_; (with_reducible refine (vint_Get.calls k _ _ y638 1 t643 t644 t645 _ ?side1 ?side2 A16.out).mono ?_); (case side1 => repeat (exact (Kd.V_reads' HO642.out).2.2)); (case side2 => exact (Kd.V_reads' HO642.out).2.1); rintro e w' ⟨rfl, ⟨nd, rfl⟩⟩; refine ⟨_, rfl, ?_⟩; have q29 : (t644 : Int) ≤ ((y638.length : Int) : Int) := of_decide_eq_true ‹_›; obtain ⟨i029, hi029, _, hsz29, _⟩ := info_parts info5; have hroom29 : y638.length ≤ c1 := (Kd.V_reads' HO642.out).2.1; have hC29 : Kd.F (Kd.int .u8) _ _ (some ad635) y638.length y638 := (Kd.V_at (base := w.heap.size) HO642.out).2.2; have q029 : (0 : Int) ≤ (t644 : Int) := of_decide_eq_true ‹_›; have hcut29 := cut_from (P := Tryz.prog) 24 5 .i64 Tryz.underlying24 hi029 1 hsz29 (some ad635) y638.length c1 t644 q029 q29; have hr29 := Kd.F_cut (m := (t644 : Int).toNat) (c := c1) hC29 (by omega) hroom29; obtain ⟨A29, hA29⟩ : ∃ Az_, Az_ = (if c1 = (t644 : Int).toNat then (some ad635) else ((some ad635) : Option Addr).map (·.add ((t644 : Int).toNat * 1))) := ⟨_, rfl⟩; obtain ⟨c29, hc29⟩ : ∃ cz_, cz_ = c1 - (t644 : Int).toNat := ⟨_, rfl⟩; have hy29 : y646.length = y638.length - (t644 : Int).toNat := (by rw [Ny646.out, List.length_drop] <;> omega); rw [show (y638).drop (t644 : Int).toNat = y646 from Ny646.out.symm] at hr29; replace hr29 : Kd.F (Kd.int .u8) _ _ A29 y646.length y646 := (by rw [hA29]; exact hr29); rw [← hy29, ← hA29, ← hc29] at hcut29; have HO650 := Aside0.mk (show Kd.V (Kd.int .u8) 5 _ w.heap.size _ (.slice A29 y646.length c29) y646 from Kd.V_mk (by rw [hy29, hc29]; exact Nat.sub_le_sub_right hroom29 _) hr29); have HC650 := Aside0.mk (show y646.length ≤ c29 from by rw [hy29, hc29]; exact Nat.sub_le_sub_right hroom29 _); clear hr29 hC29 hroom29 hi029 hsz29 hc29; have KY29 := Aside0.mk hy29; have KA29 := Aside0.mk hA29; clear hy29 hA29; replace q29 := eq_true q29) | ((with_reducible refine gate_callee (f := 46) rfl ?_); refine goL_ Tryz.func46 #[.slice A29 y646.length c29, .int .i64 (wrap64 (t643))] ?_; (with_reducible refine (block_readNulls.calls k (fun k_ => (P1_ k_ ∨ w.heap.size ≤ k_)) _ _ y646 (wrap64 (t643)) t651 t654 t657 _ ?side1 A24.out).mono ?_); (case side1 => exact HO650.out); rintro e w30 ⟨v652, v655, rfl, ho0, ho1, hb⟩; refine ⟨_, rfl, ?_⟩; have n0_ := Aside0.mk (Kd.V_elder' (by (with_reducible repeat (apply Kd.V_drewN)); exact HO1.out) (Kd.R_base ho0) hb); have n1_ := Aside0.mk (Kd.V_elder' (by (with_reducible repeat (apply Kd.V_drewN)); exact HO642.out) (Kd.R_base ho0) hb); have n2_ := Aside0.mk (Kd.V_elder' (by (with_reducible repeat (apply Kd.V_drewN)); exact HO650.out) (Kd.R_base ho0) hb); have n3_ := Aside0.mk (Kd.R_lower (Kd.R_newM (M := fun k_ => (w.heap.size ≤ k_)) (Kd.R_mono (ok' := fun k_ => True) ho0 (fun _ hk_ => trivial)) (below_size (by repeat ((with_reducible first | exact HB.out | apply pw_below_drewN)))) (fun k_ h_ => h_)) (below_size (by repeat ((with_reducible first | exact HB.out | apply pw_below_drewN))))); have n4_ := Aside0.mk (Kd.V_lower (Kd.V_mono (ok' := fun k_ => (P1_ k_ ∨ w.heap.size ≤ k_) ∧ some k_ ≠ (v652 : Value).ownBlock) ho1 (fun k_ hk_ => ⟨Or.elim hk_.1 (fun hs_ => hs_) (fun hn_ => (.inr (Nat.le_trans (below_size (by repeat ((with_reducible first | exact HB.out | apply pw_below_drewN)))) hn_))), hk_.2⟩)) (below_size (by repeat ((with_reducible first | exact HB.out | apply pw_below_drewN))))); have n5_ := Aside0.mk (below_step (by repeat ((with_reducible first | exact HB.out | apply pw_below_drewN))) hb); revert n0_ n1_ n2_ n3_ n4_ n5_; clear HO1 HO642 HO650 HB; intro HO1 HO642 HO650 HO653 HO656 HB; (try clear hb); (try clear ho0); (try clear ho1); obtain ⟨Ao31, co31, eo31⟩ := Kd.R_slice HO653.out; subst eo31))
          go_loopg [12, 80] k (fun kq v12 v80 w' => ∃ (x12_1 : Int) (x80_1 : Int), v12 = .int .i64 x12_1 ∧ v80 = .int .i64 x80_1 ∧ Aside0 (block_Decode.l0 kq a0 (wrap64 (rd l1 0)) t643 t651 t654 x12_1 t651 (t651.length : Int) x80_1 = some (r1, r2)) ∧ Aside0 (kq ≤ k) ∧ Aside0 (Kd.R (Kd.int .u64) 69 w' w.heap.size (fun k_ => (w.heap.size ≤ k_)) (.slice Ao31 t651.length co31) t651) ∧ Aside0 (Kd.V (Kd.int .u8) 5 w' w.heap.size (fun k_ => (P1_ k_ ∨ w.heap.size ≤ k_) ∧ some k_ ≠ ((.slice Ao31 t651.length co31) : Value).ownBlock ∧ some k_ ≠ ((.slice Ao31 t651.length co31) : Value).ownBlock) v655 t654) ∧ Aside0 (Kd.R (Kd.int .u64) 69 w' w.heap.size (fun k_ => (w.heap.size ≤ k_)) (.slice Ao31 t651.length co31) t651) ∧ Aside0 (Below w.heap.size w w'))
          case atStart => exact ⟨(0), (0), (by rfl), (by rfl), H', ⟨Nat.le_refl _⟩, ⟨by (with_reducible repeat (apply Kd.R_alloc)); exact Kd.R_mono HO653.out (fun _ hk => by exact hk.1)⟩, ⟨by (with_reducible repeat (apply Kd.V_alloc)); exact Kd.V_mono HO656.out (fun _ hk => ⟨hk.1, ⟨hk.2, hk.2⟩⟩)⟩, ⟨by (with_reducible repeat (apply Kd.R_alloc)); exact Kd.R_mono HO653.out (fun _ hk => by exact hk.1)⟩, ⟨by exact HB.out⟩⟩
          case round =>
           clear H'
           try clear c5b0
           try clear c5b1
           try clear c8
           try clear c8b0
           try clear c8b1
           try clear c10b0
           try clear c10b1
           try clear c14b0
           try clear c14b1
           try clear c15b0
           try clear c15b1
           try clear c17b0
           try clear c17b1
           try clear c18b0
           try clear c22b0
           try clear c22b1
           try clear c23b0
           try clear c23b1
           try clear c25b0
           try clear c25b1
           try clear q28
           try clear q29
           try clear hx635_0
           try clear hx637_0
           try clear p635
           try clear p637
           try clear q029
           try clear q635
           try clear q637
           obtain ⟨x12_1, x80_1, rfl, rfl, HA, HK1, HO_10, HO_11, HO_78, HB⟩ := hrel
           cases gk with
           | zero => exact absurd HA.out (by simp [block_Decode.l0])
           | succ k1 =>
            have H := HA.out
            clear HA
            simp only [block_Decode.l0] at H
            by_cases c32 : x80_1 < (t651.length : Int)
            ·rw [if_pos c32] at H
             have c32b0 : decide (x80_1 < (t651.length : Int)) = true := decide_eq_true c32
             clear c32
             by_cases c33 : 0 ≤ x80_1
             ·rw [if_pos c33] at H
              have c33b0 : decide (0 ≤ x80_1) = true := decide_eq_true c33
              clear c33
              by_cases c34 : x80_1 < (t651.length : Int)
              ·rw [if_pos c34] at H
               have c34b0 : decide (x80_1 < (t651.length : Int)) = true := decide_eq_true c34
               clear c34
               have H' := Aside0.mk H
               clear H
               have p658 : 0 ≤ (x80_1 : Int) := of_decide_eq_true ‹_›
               have q658 : x80_1 < (t651.length : Int) := of_decide_eq_true ‹_›
               obtain ⟨ad658, e658, hx658_0⟩ := Kd.at_int (Kd.R_reads' HO_78.out).2.2 x80_1 p658 q658
               cases e658
               replace p658 := eq_true p658
               replace q658 := eq_true q658
               go_wp2
               go_roundg k1
               case measure => have := HK1.out; omega
               case rel => exact ⟨(wrap64 (x12_1 + (wrap64 (IntKind.u64.wrap (1 - (rd t651 x80_1)))))), (wrap64 (x80_1 + 1)), (by rfl), (by rfl), H', ⟨by have := HK1.out; omega⟩, ⟨by (with_reducible repeat (apply Kd.R_alloc)); exact HO_10.out⟩, ⟨by (with_reducible repeat (apply Kd.V_alloc)); exact HO_11.out⟩, ⟨by (with_reducible repeat (apply Kd.R_alloc)); exact HO_78.out⟩, ⟨by exact HB.out⟩⟩
              rw [if_neg c34] at H
              exact absurd H (by simp)
             rw [if_neg c33] at H
             exact absurd H (by simp)
            rw [if_neg c32] at H
            have c32b0 : decide (x80_1 < (t651.length : Int)) = false := decide_eq_false c32
            clear c32
            replace H := Option.bind_eq_some_iff.mp H
            obtain ⟨⟨t659, t662⟩, A350, H⟩ := H
            (try dsimp only at H)
            have A35 := Aside0.mk A350
            clear A350
            by_cases c36 : t662 = 0
            ·rw [if_pos c36] at H
             have c36b0 : (t662 == 0) = true := beq_iff_eq.mpr c36
             have c36b1 : (t662 != 0) = false := bne_eq_false_iff_eq.mpr c36
             clear c36
             by_cases c37 : 0 ≤ t643
             ·rw [if_pos c37] at H
              have c37b0 := eq_true c37
              have c37b1 : decide (0 ≤ t643) = true := decide_eq_true c37
              clear c37
              by_cases c38 : (t643 : Int).toNat ≤ 7036874417766
              ·rw [if_pos c38] at H
               have c38b0 := eq_true c38
               have c38b1 : decide ((t643 : Int).toNat ≤ 7036874417766) = true := decide_eq_true c38
               clear c38
               obtain ⟨y663, hy663⟩ : ∃ y_ : List (S62), y_ = (List.replicate (t643 : Int).toNat z62) := ⟨_, rfl⟩
               replace H : (block_Decode.l1 k1 a0 t659 y663 t651 (t651.length : Int) 0) = some (r1, r2) := by (rw [hy663]; with_reducible exact H)
               have Ny663 := Aside0.mk hy663
               clear hy663
               have H' := Aside0.mk H
               clear H
               obtain ⟨Ao39, co39, eo39⟩ := Kd.V_slice HO_11.out
               subst eo39
               go_wp2_with (first | ((with_reducible refine gate_callee (f := 47) rfl ?_); refine goL_ Tryz.func47 #[.int .i64 a0, .int .i64 (wrap64 (rd l1 0)), .slice Ao39 t654.length co39, .int .i64 x12_1] ?_; (with_reducible refine (block_readBodyV.calls k1 a0 (wrap64 (rd l1 0)) (fun k_ => ((P1_ k_ ∨ w.heap.size ≤ k_) ∧ (some k_ ≠ (.slice Ao31 t651.length co31 : Value).ownBlock ∧ some k_ ≠ (.slice Ao31 t651.length co31 : Value).ownBlock))) _ _ t654 x12_1 t659 t662 _ ?side1 A35.out).mono ?_); (case side1 => exact HO_11.out); rintro e w40 ⟨v660, rfl, ho0, hb⟩; refine ⟨_, rfl, ?_⟩; have n0_ := Aside0.mk (Kd.R_below HO_10.out hb); have n1_ := Aside0.mk (Kd.V_below HO_11.out hb); have n2_ := Aside0.mk (Kd.R_below HO_78.out hb); have n3_ := Aside0.mk (Kd.V_lower (Kd.V_mono (ok' := fun k_ => (P1_ k_ ∨ w.heap.size ≤ k_) ∧ some k_ ≠ (.slice Ao31 t651.length co31 : Value).ownBlock ∧ some k_ ≠ (.slice Ao31 t651.length co31 : Value).ownBlock) ho0 (fun k_ hk_ => ⟨Or.elim hk_ (fun hs_ => hs_.1) (fun hn_ => (.inr (Nat.le_trans (below_size HB.out) hn_))), Or.elim hk_ (fun hs_ => hs_.2.1) (fun hn_ => (Kd.fresh' (Kd.R_lt HO_10.out) k_ hn_)), Or.elim hk_ (fun hs_ => hs_.2.2) (fun hn_ => (Kd.fresh' (Kd.R_lt HO_78.out) k_ hn_))⟩)) (below_size HB.out)); have n4_ := Aside0.mk (below_step HB.out hb); revert n0_ n1_ n2_ n3_ n4_; clear HO_10 HO_11 HO_78 HB; intro HO_10 HO_11 HO_78 HO661 HB; (try clear hb); (try clear ho0)) | ((with_reducible refine gate_dst (N := 102) rfl ?_); refine Kd.N_makeK k62 _ 62 rfl (N' := 102) rfl 22 _ _ rfl t643 rfl rfl Tryz.underlying22 (.agg #[(.bool false), (.int .i64 0), (.slice none 0 0)]) 40 info62 rfl (by decide) (by omega) z62 (ok := fun k_ => w40.heap.size ≤ k_) (okp := fun _ => False) (k62_mkF _ _ z62 (Nat.le_refl _) (Kd.F_nil _ _ _)) (fun _ hk => hk.elim) (Nat.le_refl _) (of_decide_eq_true ‹_›) (Nat.le_trans (Nat.mul_le_mul_right _ (of_decide_eq_true ‹_› : t643.toNat ≤ 7036874417766)) (by omega)) (Below.refl _ _) (Nat.le_refl _) ?_; intro v664 w41 ho42 hb hg_ hnew_; clear hg_ hnew_; (rw [← Ny663.out] at ho42); have n0_ := Aside0.mk (Kd.R_below HO_10.out hb); have n1_ := Aside0.mk (Kd.V_elder' HO_11.out (by exact Kd.N_base ho42) hb); have n2_ := Aside0.mk (Kd.R_below HO_78.out hb); have n3_ := Aside0.mk (Kd.V_elder' HO661.out (by exact Kd.N_base ho42) hb); have n4_ := Aside0.mk (Kd.N_lower (Kd.N_mono (ok' := fun k_ => (P1_ k_ ∨ w.heap.size ≤ k_) ∧ some k_ ≠ (.slice Ao31 t651.length co31 : Value).ownBlock ∧ some k_ ≠ (.slice Ao31 t651.length co31 : Value).ownBlock) ho42 (fun k_ hk_ => ⟨(.inr (Nat.le_trans (below_size HB.out) hk_)), (Kd.fresh' (Kd.R_lt HO_10.out) k_ hk_), (Kd.fresh' (Kd.R_lt HO_78.out) k_ hk_)⟩)) (below_size HB.out)); have n5_ := Aside0.mk (below_step HB.out hb); revert n0_ n1_ n2_ n3_ n4_ n5_; clear HO_10 HO_11 HO_78 HO661 HB; intro HO_10 HO_11 HO_78 HO661 HO665 HB; clear hb ho42))
               go_loopg [15, 105] k1 (fun kq v15 v105 w' => ∃ (x15_2 : List (S62)) (x16_2 : List (S62)) (x105_2 : Int), v105 = .int .i64 x105_2 ∧ Aside0 (block_Decode.l1 kq a0 x15_2 x16_2 t651 (t651.length : Int) x105_2 = some (r1, r2)) ∧ Aside0 (kq ≤ k1) ∧ Aside0 (Kd.V k62 62 w' w.heap.size (fun k_ => (P1_ k_ ∨ w.heap.size ≤ k_) ∧ some k_ ≠ (v664 : Value).ownBlock ∧ some k_ ≠ ((.slice Ao31 t651.length co31) : Value).ownBlock) v15 x15_2) ∧ Aside0 (Kd.N k62 62 w' w.heap.size (fun k_ => (P1_ k_ ∨ w.heap.size ≤ k_) ∧ some k_ ≠ ((.slice Ao31 t651.length co31) : Value).ownBlock) v664 x16_2) ∧ Aside0 (Kd.R (Kd.int .u64) 69 w' w.heap.size (fun k_ => (w.heap.size ≤ k_)) (.slice Ao31 t651.length co31) t651) ∧ Aside0 (Below w.heap.size w w'))
               case atStart => exact ⟨(t659), (y663), (0), (by rfl), H', ⟨Nat.le_refl _⟩, ⟨by (with_reducible repeat (apply Kd.V_alloc)); exact Kd.V_mono HO661.out (fun _ hk => ⟨hk.1.1, ⟨hk.2, hk.1.2.1⟩⟩)⟩, ⟨by (with_reducible repeat (apply Kd.N_alloc)); exact Kd.N_mono HO665.out (fun _ hk => ⟨hk.1, hk.2.1⟩)⟩, ⟨by (with_reducible repeat (apply Kd.R_alloc)); exact HO_10.out⟩, ⟨by exact HB.out⟩⟩
               case round =>
                clear H'
                try clear c32b0
                try clear c36b0
                try clear c36b1
                try clear c37b0
                try clear c37b1
                try clear c38b0
                try clear c38b1
                obtain ⟨x15_2, x16_2, x105_2, rfl, HA, HK2, HO_15, HO_16, HO_103, HB⟩ := hrel
                cases gk with
                | zero => exact absurd HA.out (by simp [block_Decode.l1])
                | succ k2 =>
                 have H := HA.out
                 clear HA
                 simp only [block_Decode.l1] at H
                 by_cases c43 : x105_2 < (t651.length : Int)
                 ·rw [if_pos c43] at H
                  have c43b0 : decide (x105_2 < (t651.length : Int)) = true := decide_eq_true c43
                  clear c43
                  by_cases c44 : 0 ≤ x105_2
                  ·rw [if_pos c44] at H
                   have c44b0 : decide (0 ≤ x105_2) = true := decide_eq_true c44
                   clear c44
                   by_cases c45 : x105_2 < (t651.length : Int)
                   ·rw [if_pos c45] at H
                    have c45b0 : decide (x105_2 < (t651.length : Int)) = true := decide_eq_true c45
                    clear c45
                    by_cases c46 : x105_2 < (x16_2.length : Int)
                    ·rw [if_pos c46] at H
                     have c46b0 : decide (x105_2 < (x16_2.length : Int)) = true := decide_eq_true c46
                     clear c46
                     obtain ⟨y667, hy667⟩ : ∃ y_ : List (S62), y_ = (x16_2.set (x105_2 : Int).toNat (⟨((rd t651 x105_2) == 1), (rd_T62 x16_2 x105_2).f1, (rd_T62 x16_2 x105_2).f2⟩ : S62)) := ⟨_, rfl⟩
                     replace H : (if (rd t651 x105_2) = 0 then (if 0 < (x15_2.length : Int) then (if 1 ≤ (x15_2.length : Int) then (block_Decode.l1 k2 a0 (x15_2.drop 1) (y667.set (x105_2 : Int).toNat (⟨(rd_T62 x15_2 0).f0, (rd_T62 x15_2 0).f1, (rd_T62 x15_2 0).f2⟩ : S62)) t651 (t651.length : Int) (wrap64 (x105_2 + 1))) else (none)) else (none)) else (block_Decode.l1 k2 a0 x15_2 y667 t651 (t651.length : Int) (wrap64 (x105_2 + 1)))) = some (r1, r2) := by (have H2_ := (Option.bind_some _ _).symm.trans H; rw [hy667]; with_reducible exact H2_)
                     have Ny667 := Aside0.mk hy667
                     clear hy667
                     by_cases c48 : (rd t651 x105_2) = 0
                     ·rw [if_pos c48] at H
                      have c48b0 : ((rd t651 x105_2) == 0) = true := beq_iff_eq.mpr c48
                      have c48b1 : ((rd t651 x105_2) != 0) = false := bne_eq_false_iff_eq.mpr c48
                      clear c48
                      by_cases c49 : 0 < (x15_2.length : Int)
                      ·rw [if_pos c49] at H
                       have c49b0 : decide (0 < (x15_2.length : Int)) = true := decide_eq_true c49
                       have c49b1 : decide (0 < x15_2.length) = true := decide_eq_true (by omega)
                       clear c49
                       by_cases c50 : 1 ≤ (x15_2.length : Int)
                       ·rw [if_pos c50] at H
                        have c50b0 := eq_true c50
                        have c50b1 : decide (1 ≤ (x15_2.length : Int)) = true := decide_eq_true c50
                        clear c50
                        obtain ⟨y669, hy669⟩ : ∃ y_ : List (S62), y_ = (x15_2.drop 1) := ⟨_, rfl⟩
                        replace H : (block_Decode.l1 k2 a0 y669 (y667.set (x105_2 : Int).toNat (⟨(rd_T62 x15_2 0).f0, (rd_T62 x15_2 0).f1, (rd_T62 x15_2 0).f2⟩ : S62)) t651 (t651.length : Int) (wrap64 (x105_2 + 1))) = some (r1, r2) := by (rw [hy669]; with_reducible exact H)
                        have Ny669 := Aside0.mk hy669
                        clear hy669
                        obtain ⟨y674, hy674⟩ : ∃ y_ : List (S62), y_ = (y667.set (x105_2 : Int).toNat (⟨(rd_T62 x15_2 0).f0, (rd_T62 x15_2 0).f1, (rd_T62 x15_2 0).f2⟩ : S62)) := ⟨_, rfl⟩
                        replace H : (block_Decode.l1 k2 a0 y669 y674 t651 (t651.length : Int) (wrap64 (x105_2 + 1))) = some (r1, r2) := by (rw [hy674]; with_reducible exact H)
                        have Ny674 := Aside0.mk hy674
                        clear hy674
                        have H' := Aside0.mk H
                        clear H
                        have p666 : 0 ≤ (x105_2 : Int) := of_decide_eq_true ‹_›
                        have q666 : x105_2 < (t651.length : Int) := of_decide_eq_true ‹_›
                        obtain ⟨ad666, e666, hx666_0⟩ := Kd.at_int (Kd.R_reads' HO_103.out).2.2 x105_2 p666 q666
                        cases e666
                        replace p666 := eq_true p666
                        replace q666 := eq_true q666
                        have p47 : 0 ≤ (x105_2 : Int) := of_decide_eq_true ‹_›
                        have q47 : (x105_2 : Int) < ((x16_2.length : Int) : Int) := of_decide_eq_true ‹_›
                        obtain ⟨go47, co47, eo47, gb47, gl47, cl47, HG47⟩ := Kd.N_form HO_16.out (by omega)
                        (cases eo47)
                        have GB47 := Aside0.mk gb47
                        have GG47 := Aside0.mk HG47
                        clear gb47 gl47 HG47
                        obtain ⟨ce47, hcl47, hM47, hcc47, hfr47⟩ := Kd.N_elem HO_16.out z62 (x105_2 : Int) p47 q47
                        obtain ⟨ua47_2, uc47_2, rfl, ul47_2, ge47_2⟩ := k62_openF hM47
                        have hx47_0 : wr.cell? ⟨go47, (x105_2 : Int).toNat * 3, none⟩ = some (.bool ((rd_T62 x16_2 x105_2).f0)) := hcc47 0 _ rfl
                        have hx47_1 : wr.cell? ⟨go47, (x105_2 : Int).toNat * 3 + 1, none⟩ = some (.int .i64 ((rd_T62 x16_2 x105_2).f1)) := hcc47 1 _ rfl
                        have hx47_2 : wr.cell? ⟨go47, (x105_2 : Int).toNat * 3 + 2, none⟩ = some (.slice ua47_2 ((rd_T62 x16_2 x105_2).f2).length uc47_2) := hcc47 2 _ rfl
                        have hf47_0 : wr.frozen? ⟨go47, (x105_2 : Int).toNat * 3, none⟩ = false := hfr47 0
                        have hf47_1 : wr.frozen? ⟨go47, (x105_2 : Int).toNat * 3 + 1, none⟩ = false := hfr47 1
                        have hf47_2 : wr.frozen? ⟨go47, (x105_2 : Int).toNat * 3 + 2, none⟩ = false := hfr47 2
                        clear hcl47 hcc47 hfr47; (try clear hM47)
                        replace p47 := eq_true p47
                        replace q47 := eq_true q47
                        have HX52 := Aside0.mk (show Kd.N k62 62 wr w.heap.size (fun k_ => (P1_ k_ ∨ w.heap.size ≤ k_) ∧ some k_ ≠ (.slice (some ad666) t651.length co31 : Value).ownBlock) (.slice (some ⟨go47, 0, none⟩) x16_2.length co47) x16_2 from HO_16.out)
                        obtain ⟨ce52, hcl52, hM52, hcc52, hfr52⟩ := Kd.N_elem HX52.out z62 (x105_2 : Int) (of_decide_eq_true ‹_›) (by have h_ : (x105_2 : Int) < ((x16_2.length : Int) : Int) := of_decide_eq_true ‹_›; exact h_)
                        obtain ⟨ua52_2, uc52_2, rfl, ul52_2, ge52_2⟩ := k62_openF hM52
                        have HP52 := Kd.N_seg HX52.out (x105_2 : Int) (of_decide_eq_true ‹_›) (by have h_ : (x105_2 : Int) < ((x16_2.length : Int) : Int) := of_decide_eq_true ‹_›; exact h_) (seg := [.bool ((rd t651 x105_2) == 1)]) (j := 0) hcl52 hcc52 (show 1 ≤ 3 from by decide) (x' := (⟨((rd t651 x105_2) == 1), (rd_T62 x16_2 x105_2).f1, (rd_T62 x16_2 x105_2).f2⟩ : S62)) (k62_mkF _ _ (⟨((rd t651 x105_2) == 1), (rd_T62 x16_2 x105_2).f1, (rd_T62 x16_2 x105_2).f2⟩ : S62) ul52_2 ge52_2) (fun _ hk => hk)
                        have hx52_0 := hcc52 0 _ rfl
                        (try simp only [show (k62).sz = 3 from rfl, Nat.mul_one, Nat.add_zero] at hx52_0)
                        have hf52_0 := hfr52 0
                        (try simp only [show (k62).sz = 3 from rfl, Nat.mul_one, Nat.add_zero] at hf52_0)
                        clear hcl52 hcc52 hfr52; (try clear hM52)
                        try go_wp2_with ((refine store_event (t := 4) (p := 115) (v := ?vo_w53) (w1 := (wr.setCell ⟨go47, (x105_2 : Int).toNat * 3, none⟩ (.bool ((rd t651 x105_2) == 1)))) ?hg ?ho ?hn ?hr ?_; (case ho => rfl); (case hg => rfl); (case hn => rfl); (case hr => (go_simp; done)); intro w53 hw; have hg : wr.grownBy w53 (some go47) := (by rw [hw]; exact HP52.2); have hp_ : Kd.N k62 62 w53 w.heap.size (fun k_ => (P1_ k_ ∨ w.heap.size ≤ k_) ∧ some k_ ≠ (.slice (some ad666) t651.length co31 : Value).ownBlock) (.slice (some ⟨go47, 0, none⟩) x16_2.length co47) y667 := (by rw [hw, Ny667.out]; exact HP52.1); clear HP52; have n0_ := Aside0.mk (Kd.V_afterv (v := (.slice (some ⟨go47, 0, none⟩) x16_2.length co47)) (v1 := (.slice (some ⟨go47, 0, none⟩) x16_2.length co47)) (ok := (fun k_ => (P1_ k_ ∨ w.heap.size ≤ k_) ∧ some k_ ≠ (.slice (some ad666) t651.length co31 : Value).ownBlock)) (by (with_reducible repeat (apply Kd.V_alloc)); exact Kd.V_mono HO_15.out (fun _ hk => ⟨⟨hk.1, hk.2.2⟩, hk.2.1⟩)) hg (.inl rfl)); have n1_ := Aside0.mk (hp_); have n2_ := Aside0.mk (Kd.R_over' (v := (.slice (some ⟨go47, 0, none⟩) x16_2.length co47)) HO_103.out (Kd.N_typed HO_16.out) (by decide) hg); have n3_ := Aside0.mk ((by rw [hw]; exact below_set (HB.out) GB47.out : Below w.heap.size w w53)); revert n0_ n1_ n2_ n3_; clear HO_15 HO_16 HO_103 HB; intro HO_15 HO_16 HO_103 HB; clear hg hw hp_))
                        have n0_ := Aside0.mk (Kd.V_drew HO_15.out)
                        have n1_ := Aside0.mk (Kd.N_drew HO_16.out)
                        have n2_ := Aside0.mk (Kd.R_drew HO_103.out)
                        have n3_ := Aside0.mk (below_drew1 HB.out)
                        clear HO_15
                        clear HO_16
                        clear HO_103
                        clear HB
                        have HO_15 := n0_
                        have HO_16 := n1_
                        have HO_103 := n2_
                        have HB := n3_
                        clear n0_ n1_ n2_ n3_
                        obtain ⟨Ao55, co55, eo55⟩ := Kd.V_slice HO_15.out
                        (subst eo55)
                        have p668 : 0 ≤ (0 : Int) := (by omega)
                        have q668 : 0 < (x15_2.length : Int) := of_decide_eq_true ‹_›
                        obtain ⟨ad668, A668_2, c668_2, e668, hx668_0, hx668_1, hx668_2, hl668_2, hi668_2⟩ := at_T62 (Kd.V_reads' HO_15.out).2.2 0 p668 q668
                        cases e668
                        obtain ⟨ce668, hce668, hMe668, hcc668⟩ := Kd.V_get HO_15.out z62 0 p668 q668
                        obtain ⟨ua668_2, uc668_2, rfl, ul668_2, ge668_2⟩ := k62_openF hMe668
                        have hv668_2 := hcc668 2 _ rfl
                        rw [add_field _ _ 2 (by omega)] at hv668_2
                        replace hv668_2 := Option.some.inj (hv668_2.symm.trans hx668_2)
                        injection hv668_2 with hva_ hvn_ hvc_
                        rw [hva_] at ge668_2
                        rw [hvc_] at ul668_2
                        have HL668_2 := Aside0.mk (show Kd.V (Kd.int .u8) 5 _ w.heap.size _ _ ((rd_T62 x15_2 0).f2) from Kd.V_mk ul668_2 ge668_2)
                        clear hva_ hvn_ hvc_ ge668_2 ul668_2
                        clear hcc668 hce668
                        have qi668 : (0 < x15_2.length) = True := eq_true (by omega)
                        (try rw [show ((0 : Int)).toNat = 0 from rfl] at hx668_0)
                        (try rw [show 0 * 3 = 0 from rfl] at hx668_0)
                        (try rw [Addr.add_zero'] at hx668_0)
                        (try rw [show ((0 : Int)).toNat = 0 from rfl] at hx668_1)
                        (try rw [show 0 * 3 = 0 from rfl] at hx668_1)
                        (try rw [Addr.add_zero'] at hx668_1)
                        (try rw [show ((0 : Int)).toNat = 0 from rfl] at hx668_2)
                        (try rw [show 0 * 3 = 0 from rfl] at hx668_2)
                        (try rw [Addr.add_zero'] at hx668_2)
                        have HR668_2 := Aside0.mk hi668_2
                        have HC668_2 := Aside0.mk hl668_2
                        clear hi668_2 hl668_2
                        replace p668 := eq_true p668
                        replace q668 := eq_true q668
                        have q56 : (1 : Int) ≤ ((x15_2.length : Int) : Int) := of_decide_eq_true ‹_›
                        obtain ⟨i056, hi056, _, hsz56, _⟩ := info_parts info62
                        have hroom56 : x15_2.length ≤ co55 := (Kd.V_reads' HO_15.out).2.1
                        have hC56 : Kd.F k62 _ _ (some ad668) x15_2.length x15_2 := (Kd.V_at (base := w.heap.size) HO_15.out).2.2
                        have hcut56 := cut_from (P := Tryz.prog) 22 62 .i64 Tryz.underlying22 hi056 3 hsz56 (some ad668) x15_2.length co55 1 (by omega) q56
                        have hr56 := Kd.F_cut (m := (1 : Int).toNat) (c := co55) hC56 (by omega) hroom56
                        obtain ⟨A56, hA56⟩ : ∃ Az_, Az_ = (if co55 = (1 : Int).toNat then (some ad668) else ((some ad668) : Option Addr).map (·.add ((1 : Int).toNat * 3))) := ⟨_, rfl⟩
                        obtain ⟨c56, hc56⟩ : ∃ cz_, cz_ = co55 - (1 : Int).toNat := ⟨_, rfl⟩
                        have hy56 : y669.length = x15_2.length - (1 : Int).toNat := (by rw [Ny669.out, List.length_drop] <;> omega)
                        rw [show (x15_2).drop (1 : Int).toNat = y669 from Ny669.out.symm] at hr56
                        replace hr56 : Kd.F k62 _ _ A56 y669.length y669 := (by rw [hA56]; exact hr56)
                        rw [← hy56, ← hA56, ← hc56] at hcut56
                        have HO673 := Aside0.mk (show Kd.V k62 62 _ w.heap.size _ (.slice A56 y669.length c56) y669 from Kd.V_mk (by rw [hy56, hc56]; exact Nat.sub_le_sub_right hroom56 _) hr56)
                        have HC673 := Aside0.mk (show y669.length ≤ c56 from by rw [hy56, hc56]; exact Nat.sub_le_sub_right hroom56 _)
                        clear hr56 hC56 hroom56 hi056 hsz56 hc56
                        have KY56 := Aside0.mk hy56
                        have KA56 := Aside0.mk hA56
                        clear hy56 hA56
                        replace q56 := eq_true q56
                        have p51 : 0 ≤ (x105_2 : Int) := of_decide_eq_true ‹_›
                        have q51 : (x105_2 : Int) < ((x16_2.length : Int) : Int) := of_decide_eq_true ‹_›
                        obtain ⟨ce51, hcl51, hM51, hcc51, hfr51⟩ := Kd.N_elem HO_16.out z62 (x105_2 : Int) p51 q51
                        obtain ⟨ua51_2, uc51_2, rfl, ul51_2, ge51_2⟩ := k62_openF hM51
                        have hx51_0 : World.cell? _ ⟨go47, (x105_2 : Int).toNat * 3, none⟩ = some (.bool ((rd_T62 y667 x105_2).f0)) := hcc51 0 _ rfl
                        have hx51_1 : World.cell? _ ⟨go47, (x105_2 : Int).toNat * 3 + 1, none⟩ = some (.int .i64 ((rd_T62 y667 x105_2).f1)) := hcc51 1 _ rfl
                        have hx51_2 : World.cell? _ ⟨go47, (x105_2 : Int).toNat * 3 + 2, none⟩ = some (.slice ua51_2 ((rd_T62 y667 x105_2).f2).length uc51_2) := hcc51 2 _ rfl
                        have hf51_0 : World.frozen? _ ⟨go47, (x105_2 : Int).toNat * 3, none⟩ = false := hfr51 0
                        have hf51_1 : World.frozen? _ ⟨go47, (x105_2 : Int).toNat * 3 + 1, none⟩ = false := hfr51 1
                        have hf51_2 : World.frozen? _ ⟨go47, (x105_2 : Int).toNat * 3 + 2, none⟩ = false := hfr51 2
                        clear hcl51 hcc51 hfr51; (try clear hM51)
                        replace p51 := eq_true p51
                        replace q51 := eq_true q51
                        have HX57 := Aside0.mk (show Kd.N k62 62 _ w.heap.size (fun k_ => (P1_ k_ ∨ w.heap.size ≤ k_) ∧ some k_ ≠ (.slice (some ad666) t651.length co31 : Value).ownBlock) (.slice (some ⟨go47, 0, none⟩) x16_2.length co47) y667 from (Kd.N_mono (HO_16.out) (fun k_ hk => ⟨hk.1, hk.2⟩)))
                        obtain ⟨ce57, hcl57, hM57, hcc57, hfr57⟩ := Kd.N_elem HX57.out z62 (x105_2 : Int) (of_decide_eq_true ‹_›) (by have h_ : (x105_2 : Int) < ((x16_2.length : Int) : Int) := of_decide_eq_true ‹_›; exact h_)
                        obtain ⟨ua57_2, uc57_2, rfl, ul57_2, ge57_2⟩ := k62_openF hM57
                        have HP57 := (Kd.N_seg HX57.out (x105_2 : Int) (of_decide_eq_true ‹_›) (by have h_ : (x105_2 : Int) < ((x16_2.length : Int) : Int) := of_decide_eq_true ‹_›; exact h_) (seg := [.bool ((rd_T62 x15_2 0).f0), .int .i64 ((rd_T62 x15_2 0).f1), .slice A668_2 ((rd_T62 x15_2 0).f2).length c668_2]) (j := 0) hcl57 hcc57 (show 3 ≤ 3 from by decide) (x' := (⟨(rd_T62 x15_2 0).f0, (rd_T62 x15_2 0).f1, (rd_T62 x15_2 0).f2⟩ : S62)) (k62_mkF _ _ (⟨(rd_T62 x15_2 0).f0, (rd_T62 x15_2 0).f1, (rd_T62 x15_2 0).f2⟩ : S62) (Kd.V_reads' (Kd.V_mono (ok' := (fun k_ => ((fun k_ => (P1_ k_ ∨ w.heap.size ≤ k_) ∧ some k_ ≠ (.slice (some ad666) t651.length co31 : Value).ownBlock)) k_ ∧ k_ ≠ go47)) (HL668_2.out) (fun k_ hk => ⟨⟨hk.1.1, hk.1.2⟩, fun e_ => (hk.2) (by rw [e_]; rfl)⟩))).2.1 (Kd.V_F (Kd.V_mono (ok' := (fun k_ => ((fun k_ => (P1_ k_ ∨ w.heap.size ≤ k_) ∧ some k_ ≠ (.slice (some ad666) t651.length co31 : Value).ownBlock)) k_ ∧ k_ ≠ go47)) (HL668_2.out) (fun k_ hk => ⟨⟨hk.1.1, hk.1.2⟩, fun e_ => (hk.2) (by rw [e_]; rfl)⟩)))) (fun _ hk => hk)).1
                        rw [← Ny674.out] at HP57
                        have HQ57 := Aside0.mk HP57
                        clear hcl57 hcc57 hfr57; (try clear hM57); clear HP57
                        refine start_ (n := 10) (S := fun w' => w'.cell? ad668 = some (.bool ((rd_T62 x15_2 0).f0)) ∧ w'.cell? ⟨ad668.block, ad668.off + 1, none⟩ = some (.int .i64 ((rd_T62 x15_2 0).f1)) ∧ w'.cell? ⟨ad668.block, ad668.off + 2, none⟩ = some (.slice A668_2 ((rd_T62 x15_2 0).f2).length c668_2)) (ds := [8]) #[false, false, false, false, false, false, false, false, false, false] (by kernel_rfl) rfl rfl ⟨hx668_0, hx668_1, hx668_2⟩ (fun hHeld => ?_); refine with_tabW block_Decode.tab35 block_Decode.bits35 (fun HT_ HW_ => ?_)
                        generalize w53.drew = w54 at HO_15 HO_16 HO_103 HB HL668_2 HO673 HQ57 HR668_2 hf51_0 hf51_1 hf51_2 hx51_0 hx51_1 hx51_2 hx668_0 hx668_1 hx668_2 hHeld ⊢
                        refine pu_ 0 118 HT_ ?_; refine pu_ 1 119 HT_ ?_; refine pu_ 2 120 HT_ ?_; refine pu_ 3 121 HT_ ?_; refine pu_ 5 123 HT_ ?_; refine pu_ 6 124 HT_ ?_
                        refine take_ (i := 4) (N := some 122) (v := ?_) (a' := ?_) #[true, true, true, true, true, true, true, false, false, false] rfl rfl (take_ofW HT_.out HW_.out (by kernel_rfl)) (fun _ _ _ h => h) (Or.inl ⟨by rfl, ?_⟩) hHeld ?_ ?_
                        rotate_left
                        ·rintro w' ⟨s0, s1, s2⟩
                         go_simp
                         with_reducible rfl
                        rotate_left
                        ·simp only [Act.put, List.setIfInBounds_toArray, List.set_cons_zero, List.set_cons_succ, i64_w, i32_w]
                         rfl
                        refine pu_ 7 125 HT_ ?_
                        refine last_ (i := 8) (N := none) #[true, true, true, true, true, true, true, true, true, false] rfl rfl (one_of HT_.out (by kernel_rfl)) (by decide) (fun K hK => ?_)
                        refine skip_ (w1 := ?_) (by rfl) rfl ?_ ?_
                        rotate_left
                        ·go_simp
                         rfl
                        refine hK.out _ _ ?_
                        clear hK K
                        refine pu_ 9 15 HT_ ?_
                        refine done_ (done_of HT_.out (by kernel_rfl)) ?_
                        try go_wp2
                        go_roundg k2
                        case measure => have := HK1.out; have := HK2.out; omega
                        case rel => exact ⟨(y669), (y674), (wrap64 (x105_2 + 1)), (by rfl), H', ⟨by have := HK1.out; have := HK2.out; omega⟩, ⟨by (with_reducible repeat (apply Kd.V_alloc)); exact Kd.V_mono (Kd.V_far (p := ⟨go47, (x105_2 : Int).toNat * 3 + 2, none⟩) (Kd.V_far (p := ⟨go47, (x105_2 : Int).toNat * 3 + 1, none⟩) (Kd.V_far (p := ⟨go47, (x105_2 : Int).toNat * 3, none⟩) (Kd.V_mono HO673.out (fun k_ hk => (⟨hk, fun e_ => hk.2 (by rw [e_]; rfl)⟩ : _ ∧ k_ ≠ go47))) (fun _ hk => hk.2) (.bool ((rd_T62 x15_2 0).f0))) (fun _ hk => hk.2) (.int .i64 ((rd_T62 x15_2 0).f1))) (fun _ hk => hk.2) (.slice A668_2 ((rd_T62 x15_2 0).f2).length c668_2)) (fun _ hk => ⟨hk.1.1.1, ⟨hk.1.2, hk.1.1.2⟩⟩)⟩, ⟨by (with_reducible repeat (apply Kd.N_alloc)); exact HQ57.out⟩, ⟨by (with_reducible repeat (apply Kd.R_alloc)); exact Kd.R_mono (Kd.R_far (p := ⟨go47, (x105_2 : Int).toNat * 3 + 2, none⟩) (Kd.R_far (p := ⟨go47, (x105_2 : Int).toNat * 3 + 1, none⟩) (Kd.R_far (p := ⟨go47, (x105_2 : Int).toNat * 3, none⟩) (Kd.R_types HO_103.out (by exact (Kd.N_typed HO_16.out go47 rfl).choose_spec) (by decide)) (fun _ hk => hk.2) (.bool ((rd_T62 x15_2 0).f0))) (fun _ hk => hk.2) (.int .i64 ((rd_T62 x15_2 0).f1))) (fun _ hk => hk.2) (.slice A668_2 ((rd_T62 x15_2 0).f2).length c668_2)) (fun _ hk => hk.1)⟩, ⟨by repeat ((with_reducible first | exact HB.out | refine below_set ?_ GB47.out))⟩⟩
                       rw [if_neg c50] at H
                       exact absurd H (by simp)
                      rw [if_neg c49] at H
                      exact absurd H (by simp)
                     rw [if_neg c48] at H
                     have c48b0 : ((rd t651 x105_2) == 0) = false := beq_eq_false_iff_ne.mpr c48
                     have c48b1 : ((rd t651 x105_2) != 0) = true := bne_iff_ne.mpr c48
                     have H' := Aside0.mk H
                     clear H
                     have p666 : 0 ≤ (x105_2 : Int) := of_decide_eq_true ‹_›
                     have q666 : x105_2 < (t651.length : Int) := of_decide_eq_true ‹_›
                     obtain ⟨ad666, e666, hx666_0⟩ := Kd.at_int (Kd.R_reads' HO_103.out).2.2 x105_2 p666 q666
                     cases e666
                     replace p666 := eq_true p666
                     replace q666 := eq_true q666
                     have p47 : 0 ≤ (x105_2 : Int) := of_decide_eq_true ‹_›
                     have q47 : (x105_2 : Int) < ((x16_2.length : Int) : Int) := of_decide_eq_true ‹_›
                     obtain ⟨go47, co47, eo47, gb47, gl47, cl47, HG47⟩ := Kd.N_form HO_16.out (by omega)
                     (cases eo47)
                     have GB47 := Aside0.mk gb47
                     have GG47 := Aside0.mk HG47
                     clear gb47 gl47 HG47
                     obtain ⟨ce47, hcl47, hM47, hcc47, hfr47⟩ := Kd.N_elem HO_16.out z62 (x105_2 : Int) p47 q47
                     obtain ⟨ua47_2, uc47_2, rfl, ul47_2, ge47_2⟩ := k62_openF hM47
                     have hx47_0 : wr.cell? ⟨go47, (x105_2 : Int).toNat * 3, none⟩ = some (.bool ((rd_T62 x16_2 x105_2).f0)) := hcc47 0 _ rfl
                     have hx47_1 : wr.cell? ⟨go47, (x105_2 : Int).toNat * 3 + 1, none⟩ = some (.int .i64 ((rd_T62 x16_2 x105_2).f1)) := hcc47 1 _ rfl
                     have hx47_2 : wr.cell? ⟨go47, (x105_2 : Int).toNat * 3 + 2, none⟩ = some (.slice ua47_2 ((rd_T62 x16_2 x105_2).f2).length uc47_2) := hcc47 2 _ rfl
                     have hf47_0 : wr.frozen? ⟨go47, (x105_2 : Int).toNat * 3, none⟩ = false := hfr47 0
                     have hf47_1 : wr.frozen? ⟨go47, (x105_2 : Int).toNat * 3 + 1, none⟩ = false := hfr47 1
                     have hf47_2 : wr.frozen? ⟨go47, (x105_2 : Int).toNat * 3 + 2, none⟩ = false := hfr47 2
                     clear hcl47 hcc47 hfr47; (try clear hM47)
                     replace p47 := eq_true p47
                     replace q47 := eq_true q47
                     have HX58 := Aside0.mk (show Kd.N k62 62 wr w.heap.size (fun k_ => (P1_ k_ ∨ w.heap.size ≤ k_) ∧ some k_ ≠ (.slice (some ad666) t651.length co31 : Value).ownBlock) (.slice (some ⟨go47, 0, none⟩) x16_2.length co47) x16_2 from HO_16.out)
                     obtain ⟨ce58, hcl58, hM58, hcc58, hfr58⟩ := Kd.N_elem HX58.out z62 (x105_2 : Int) (of_decide_eq_true ‹_›) (by have h_ : (x105_2 : Int) < ((x16_2.length : Int) : Int) := of_decide_eq_true ‹_›; exact h_)
                     obtain ⟨ua58_2, uc58_2, rfl, ul58_2, ge58_2⟩ := k62_openF hM58
                     have HP58 := Kd.N_seg HX58.out (x105_2 : Int) (of_decide_eq_true ‹_›) (by have h_ : (x105_2 : Int) < ((x16_2.length : Int) : Int) := of_decide_eq_true ‹_›; exact h_) (seg := [.bool ((rd t651 x105_2) == 1)]) (j := 0) hcl58 hcc58 (show 1 ≤ 3 from by decide) (x' := (⟨((rd t651 x105_2) == 1), (rd_T62 x16_2 x105_2).f1, (rd_T62 x16_2 x105_2).f2⟩ : S62)) (k62_mkF _ _ (⟨((rd t651 x105_2) == 1), (rd_T62 x16_2 x105_2).f1, (rd_T62 x16_2 x105_2).f2⟩ : S62) ul58_2 ge58_2) (fun _ hk => hk)
                     have hx58_0 := hcc58 0 _ rfl
                     (try simp only [show (k62).sz = 3 from rfl, Nat.mul_one, Nat.add_zero] at hx58_0)
                     have hf58_0 := hfr58 0
                     (try simp only [show (k62).sz = 3 from rfl, Nat.mul_one, Nat.add_zero] at hf58_0)
                     clear hcl58 hcc58 hfr58; (try clear hM58)
                     go_wp2_with ((refine store_event (t := 4) (p := 115) (v := ?vo_w59) (w1 := (wr.setCell ⟨go47, (x105_2 : Int).toNat * 3, none⟩ (.bool ((rd t651 x105_2) == 1)))) ?hg ?ho ?hn ?hr ?_; (case ho => rfl); (case hg => rfl); (case hn => rfl); (case hr => (go_simp; done)); intro w59 hw; have hg : wr.grownBy w59 (some go47) := (by rw [hw]; exact HP58.2); have hp_ : Kd.N k62 62 w59 w.heap.size (fun k_ => (P1_ k_ ∨ w.heap.size ≤ k_) ∧ some k_ ≠ (.slice (some ad666) t651.length co31 : Value).ownBlock) (.slice (some ⟨go47, 0, none⟩) x16_2.length co47) y667 := (by rw [hw, Ny667.out]; exact HP58.1); clear HP58; have n0_ := Aside0.mk (Kd.V_afterv (v := (.slice (some ⟨go47, 0, none⟩) x16_2.length co47)) (v1 := (.slice (some ⟨go47, 0, none⟩) x16_2.length co47)) (ok := (fun k_ => (P1_ k_ ∨ w.heap.size ≤ k_) ∧ some k_ ≠ (.slice (some ad666) t651.length co31 : Value).ownBlock)) (by (with_reducible repeat (apply Kd.V_alloc)); exact Kd.V_mono HO_15.out (fun _ hk => ⟨⟨hk.1, hk.2.2⟩, hk.2.1⟩)) hg (.inl rfl)); have n1_ := Aside0.mk (hp_); have n2_ := Aside0.mk (Kd.R_over' (v := (.slice (some ⟨go47, 0, none⟩) x16_2.length co47)) HO_103.out (Kd.N_typed HO_16.out) (by decide) hg); have n3_ := Aside0.mk ((by rw [hw]; exact below_set (HB.out) GB47.out : Below w.heap.size w w59)); revert n0_ n1_ n2_ n3_; clear HO_15 HO_16 HO_103 HB; intro HO_15 HO_16 HO_103 HB; clear hg hw hp_))
                     go_roundg k2
                     case measure => have := HK1.out; have := HK2.out; omega
                     case rel => exact ⟨(x15_2), (y667), (wrap64 (x105_2 + 1)), (by rfl), H', ⟨by have := HK1.out; have := HK2.out; omega⟩, ⟨by (with_reducible repeat (apply Kd.V_alloc)); exact Kd.V_mono HO_15.out (fun _ hk => ⟨hk.1.1, ⟨hk.2, hk.1.2⟩⟩)⟩, ⟨by (with_reducible repeat (apply Kd.N_alloc)); exact HO_16.out⟩, ⟨by (with_reducible repeat (apply Kd.R_alloc)); exact HO_103.out⟩, ⟨by exact HB.out⟩⟩
                    rw [if_neg c46] at H
                    exact absurd H (by simp)
                   rw [if_neg c45] at H
                   exact absurd H (by simp)
                  rw [if_neg c44] at H
                  exact absurd H (by simp)
                 rw [if_neg c43] at H
                 have c43b0 : decide (x105_2 < (t651.length : Int)) = false := decide_eq_false c43
                 clear c43
                 replace H := Option.bind_eq_some_iff.mp H
                 obtain ⟨t675, A600, H⟩ := H
                 (try dsimp only at H)
                 have A60 := Aside0.mk A600
                 clear A600
                 by_cases c61 : t675 = 0
                 ·rw [if_pos c61] at H
                  have c61b0 : (t675 == 0) = true := beq_iff_eq.mpr c61
                  have c61b1 : (t675 != 0) = false := bne_eq_false_iff_eq.mpr c61
                  clear c61
                  simp only [Option.some.injEq, Prod.mk.injEq] at H
                  obtain ⟨rfl, rfl⟩ := H
                  obtain ⟨Ao62, co62, eo62⟩ := Kd.N_slice HO_16.out
                  subst eo62
                  go_wp2_with ((refine goL_ Tryz.func39 #[.int .i64 a0, .slice Ao62 x16_2.length co62] ?_; (with_reducible refine (block_check.calls k2 a0 _ _ x16_2 t675 _ ?side1 ?side2 A60.out).mono ?_); (case side1 => repeat (exact (Kd.N_reads' HO_16.out).2.2)); (case side2 => exact (Kd.N_reads' HO_16.out).2.1); rintro e w63 ⟨rfl, hb⟩; refine ⟨_, rfl, ?_⟩; have n0_ := Aside0.mk (Kd.V_below HO_15.out hb); have n1_ := Aside0.mk (Kd.N_below HO_16.out hb); have n2_ := Aside0.mk (Kd.R_below HO_103.out hb); have n3_ := Aside0.mk (below_step HB.out hb); revert n0_ n1_ n2_ n3_; clear HO_15 HO_16 HO_103 HB; intro HO_15 HO_16 HO_103 HB; (try clear hb)))
                  go_ret2
                  exact ⟨_, by rfl, by (with_reducible repeat (apply Kd.N_alloc)); exact Kd.N_mono HO_16.out (fun _ hk => hk.1), by exact HB.out⟩
                 rw [if_neg c61] at H
                 have c61b0 : (t675 == 0) = false := beq_eq_false_iff_ne.mpr c61
                 have c61b1 : (t675 != 0) = true := bne_iff_ne.mpr c61
                 simp only [Option.some.injEq, Prod.mk.injEq] at H
                 obtain ⟨rfl, rfl⟩ := H
                 obtain ⟨Ao64, co64, eo64⟩ := Kd.N_slice HO_16.out
                 subst eo64
                 go_wp2_with ((refine goL_ Tryz.func39 #[.int .i64 a0, .slice Ao64 x16_2.length co64] ?_; (with_reducible refine (block_check.calls k2 a0 _ _ x16_2 t675 _ ?side1 ?side2 A60.out).mono ?_); (case side1 => repeat (exact (Kd.N_reads' HO_16.out).2.2)); (case side2 => exact (Kd.N_reads' HO_16.out).2.1); rintro e w65 ⟨rfl, hb⟩; refine ⟨_, rfl, ?_⟩; have n0_ := Aside0.mk (Kd.V_below HO_15.out hb); have n1_ := Aside0.mk (Kd.N_below HO_16.out hb); have n2_ := Aside0.mk (Kd.R_below HO_103.out hb); have n3_ := Aside0.mk (below_step HB.out hb); revert n0_ n1_ n2_ n3_; clear HO_15 HO_16 HO_103 HB; intro HO_15 HO_16 HO_103 HB; (try clear hb)))
                 go_ret2
                 exact ⟨_, by rfl, by exact Kd.N_nil _ _ _ _ _, by exact HB.out⟩
              rw [if_neg c38] at H
              exact absurd H (by simp)
             rw [if_neg c37] at H
             exact absurd H (by simp)
            rw [if_neg c36] at H
            have c36b0 : (t662 == 0) = false := beq_eq_false_iff_ne.mpr c36
            have c36b1 : (t662 != 0) = true := bne_iff_ne.mpr c36
            simp only [Option.some.injEq, Prod.mk.injEq] at H
            obtain ⟨rfl, rfl⟩ := H
            obtain ⟨Ao66, co66, eo66⟩ := Kd.V_slice HO_11.out
            subst eo66
            go_wp2_with ((refine goL_ Tryz.func47 #[.int .i64 a0, .int .i64 (wrap64 (rd l1 0)), .slice Ao66 t654.length co66, .int .i64 x12_1] ?_; (with_reducible refine (block_readBodyV.calls k1 a0 (wrap64 (rd l1 0)) (fun k_ => ((P1_ k_ ∨ w.heap.size ≤ k_) ∧ (some k_ ≠ (.slice Ao31 t651.length co31 : Value).ownBlock ∧ some k_ ≠ (.slice Ao31 t651.length co31 : Value).ownBlock))) _ _ t654 x12_1 t659 t662 _ ?side1 A35.out).mono ?_); (case side1 => exact HO_11.out); rintro e w67 ⟨v660, rfl, ho0, hb⟩; refine ⟨_, rfl, ?_⟩; have n0_ := Aside0.mk (Kd.R_below HO_10.out hb); have n1_ := Aside0.mk (Kd.V_below HO_11.out hb); have n2_ := Aside0.mk (Kd.R_below HO_78.out hb); have n3_ := Aside0.mk (Kd.V_lower (Kd.V_mono (ok' := fun k_ => (P1_ k_ ∨ w.heap.size ≤ k_) ∧ some k_ ≠ (.slice Ao31 t651.length co31 : Value).ownBlock ∧ some k_ ≠ (.slice Ao31 t651.length co31 : Value).ownBlock) ho0 (fun k_ hk_ => ⟨Or.elim hk_ (fun hs_ => hs_.1) (fun hn_ => (.inr (Nat.le_trans (below_size HB.out) hn_))), Or.elim hk_ (fun hs_ => hs_.2.1) (fun hn_ => (Kd.fresh' (Kd.R_lt HO_10.out) k_ hn_)), Or.elim hk_ (fun hs_ => hs_.2.2) (fun hn_ => (Kd.fresh' (Kd.R_lt HO_78.out) k_ hn_))⟩)) (below_size HB.out)); have n4_ := Aside0.mk (below_step HB.out hb); revert n0_ n1_ n2_ n3_ n4_; clear HO_10 HO_11 HO_78 HB; intro HO_10 HO_11 HO_78 HO661 HB; (try clear hb); (try clear ho0)))
            go_ret2
            exact ⟨_, by rfl, by exact Kd.N_nil _ _ _ _ _, by exact HB.out⟩
         rw [if_neg c25] at H
         have c25b0 : (t657 == 0) = false := beq_eq_false_iff_ne.mpr c25
         have c25b1 : (t657 != 0) = true := bne_iff_ne.mpr c25
         simp only [Option.some.injEq, Prod.mk.injEq] at H
         obtain ⟨rfl, rfl⟩ := H
         go_enter Tryz.func13, Tryz.ntmps13
         try go_wp2_with (first | ((with_reducible refine gate_callee (f := 37) rfl ?_); refine goL_ Tryz.func37 #[.int .i64 a0] ?_; (with_reducible refine (block_badKind.calls a0 false _ A3.out).mono ?_); rintro e w' ⟨rfl, ⟨nd, rfl⟩⟩; refine ⟨_, rfl, ?_⟩) | ((with_reducible refine gate_callee (f := 44) rfl ?_); refine goL_ Tryz.func44 #[.slice A1 l1.length c1] ?_; (with_reducible refine (crc_Sealed.calls k _ _ l1 true _ ?side1 ?side2 A6.out).mono ?_); (case side1 => repeat (exact (Kd.V_reads' HO1.out).2.2)); (case side2 => exact (Kd.V_reads' HO1.out).2.1); rintro e w68 ⟨rfl, hb⟩; refine ⟨_, rfl, ?_⟩; have n0_ := Aside0.mk (Kd.V_below (by (with_reducible repeat (apply Kd.V_drewN)); exact HO1.out) hb); have n1_ := Aside0.mk (below_step (by repeat ((with_reducible first | exact HB.out | apply pw_below_drewN))) hb); revert n0_ n1_; clear HO1 HB; intro HO1 HB; (try clear hb); have p635 : 0 ≤ (0 : Int) := (by omega); have q635 : 0 < (l1.length : Int) := of_decide_eq_true ‹_›; obtain ⟨ad635, e635, hx635_0⟩ := Kd.at_int (Kd.V_reads' HO1.out).2.2 0 p635 q635; cases e635; have qi635 : (0 < l1.length) = True := eq_true (by omega); (try rw [show ((0 : Int)).toNat = 0 from rfl] at hx635_0); (try rw [Addr.add_zero'] at hx635_0); replace p635 := eq_true p635; replace q635 := eq_true q635) | ((with_reducible refine gate_callee (f := 38) rfl ?_); refine goL_ Tryz.func38 #[.int .i64 a0, .int .i64 (wrap64 (rd l1 0))] ?_; (with_reducible refine (block_fits.calls k a0 (wrap64 (rd l1 0)) true _ A11.out).mono ?_); rintro e w' ⟨rfl, ⟨nd, rfl⟩⟩; refine ⟨_, rfl, ?_⟩))
         (try (rw [drewN_self w68]; generalize hq_ : World.drewN w68 _ = w68; have n0_ : Aside0 (Kd.V (Kd.int .u8) 5 w68 w.heap.size (fun k_ => (P1_ k_ ∨ w.heap.size ≤ k_)) (.slice (some ad635) l1.length c1) l1) := ⟨by rw [← hq_]; exact (by (with_reducible repeat (apply Kd.V_drewN)); exact HO1.out)⟩; have n1_ : Aside0 (Below w.heap.size w w68) := ⟨by rw [← hq_]; exact (by repeat ((with_reducible first | exact HB.out | apply pw_below_drewN)))⟩; clear HO1 HB hq_; have HO1 := n0_; have HB := n1_; clear n0_ n1_))
         have n0_ := Aside0.mk (Kd.V_drew HO1.out)
         have n1_ := Aside0.mk (below_drew1 HB.out)
         clear HO1
         clear HB
         have HO1 := n0_
         have HB := n1_
         clear n0_ n1_
         have p637 : 0 ≤ (0 : Int) := (by omega)
         have q637 : 0 < (l1.length : Int) := of_decide_eq_true ‹_›
         obtain ⟨ad637, e637, hx637_0⟩ := Kd.at_int (Kd.V_reads' HO1.out).2.2 0 p637 q637
         obtain rfl : ad635 = ad637 := (by injection e637)
         have qi637 : (0 < l1.length) = True := eq_true (by omega)
         (try rw [show ((0 : Int)).toNat = 0 from rfl] at hx637_0)
         (try rw [Addr.add_zero'] at hx637_0)
         replace p637 := eq_true p637
         replace q637 := eq_true q637
         have q70 : ((ji13) : Int) ≤ ((l1.length : Int) : Int) := of_decide_eq_true ‹_›
         obtain ⟨i070, hi070, _, hsz70, _⟩ := info_parts info5
         have hroom70 : l1.length ≤ c1 := (Kd.V_reads' HO1.out).2.1
         have hC70 : Kd.F (Kd.int .u8) _ _ (some ad635) l1.length l1 := (Kd.V_at (base := w.heap.size) HO1.out).2.2
         have hcut70 := cut_to (P := Tryz.prog) 24 5 .i64 Tryz.underlying24 hi070 (some ad635) l1.length c1 (ji13) (of_decide_eq_true ‹_›) q70 hroom70
         have hr70 := Kd.F_take (m := ((ji13) : Int).toNat) hC70 (by omega)
         have hy70 : y638.length = ((ji13) : Int).toNat := (by rw [Ny638.out, List.length_take]; omega)
         rw [← Ny638.out] at hr70
         rw [← hy70] at hcut70
         have HO642 := Aside0.mk (show Kd.V (Kd.int .u8) 5 _ w.heap.size _ (.slice (some ad635) y638.length c1) y638 from Kd.V_mk (by omega) hr70)
         have HC642 := Aside0.mk (show y638.length ≤ c1 from by omega)
         clear hr70 hC70 hroom70 hi070 hsz70
         have KY70 := Aside0.mk hy70
         clear hy70
         replace q70 := eq_true q70
         refine start_ (n := 11) (S := fun w' => w'.cell? ad635 = some (.int .u8 (rd l1 0))) (ds := []) #[false, false, false, false, false, false, false, false, false, false, false] (by kernel_rfl) rfl rfl (hx637_0) (fun hHeld => ?_); refine with_tabW block_Decode.tab11 block_Decode.bits11 (fun HT_ HW_ => ?_)
         generalize w68.drew = w69 at HO1 HB HO642 hx637_0 hHeld ⊢
         refine pu_ 0 43 HT_ ?_; refine pu_ 1 44 HT_ ?_; refine pu_ 4 47 HT_ ?_; refine pu_ 5 48 HT_ ?_; refine pu_ 6 49 HT_ ?_; refine pu_ 7 50 HT_ ?_; refine pu_ 8 51 HT_ ?_
         refine take_ (i := 2) (N := some 45) (v := ?_) (a' := ?_) #[true, true, true, false, true, true, true, true, true, false, false] rfl rfl (take_ofW HT_.out HW_.out (by kernel_rfl)) (fun _ _ _ h => h) (Or.inl ⟨by rfl, ?_⟩) hHeld ?_ ?_
         rotate_left
         ·intro w' s0
          go_simp
          with_reducible rfl
         rotate_left
         ·simp only [Act.put, List.setIfInBounds_toArray, List.set_cons_zero, List.set_cons_succ, i64_w, i32_w]
          rfl
         refine pu_ 3 46 HT_ ?_; refine pu_ 9 6 HT_ ?_; refine pu_ 10 1 HT_ ?_
         refine done_ (done_of HT_.out (by kernel_rfl)) ?_
         try go_wp2_with (first | ((with_reducible refine gate_callee (f := 45) rfl ?_); refine goL_ Tryz.func45 #[.slice (some ad635) y638.length c1, .int .i64 1] ?_; (with_reducible refine (vint_Get.calls k _ _ y638 1 t643 t644 t645 _ ?side1 ?side2 A16.out).mono ?_); (case side1 => repeat (exact (Kd.V_reads' HO642.out).2.2)); (case side2 => exact (Kd.V_reads' HO642.out).2.1); rintro e w' ⟨rfl, ⟨nd, rfl⟩⟩; refine ⟨_, rfl, ?_⟩; have q71 : (t644 : Int) ≤ ((y638.length : Int) : Int) := of_decide_eq_true ‹_›; obtain ⟨i071, hi071, _, hsz71, _⟩ := info_parts info5; have hroom71 : y638.length ≤ c1 := (Kd.V_reads' HO642.out).2.1; have hC71 : Kd.F (Kd.int .u8) _ _ (some ad635) y638.length y638 := (Kd.V_at (base := w.heap.size) HO642.out).2.2; have q071 : (0 : Int) ≤ (t644 : Int) := of_decide_eq_true ‹_›; have hcut71 := cut_from (P := Tryz.prog) 24 5 .i64 Tryz.underlying24 hi071 1 hsz71 (some ad635) y638.length c1 t644 q071 q71; have hr71 := Kd.F_cut (m := (t644 : Int).toNat) (c := c1) hC71 (by omega) hroom71; obtain ⟨A71, hA71⟩ : ∃ Az_, Az_ = (if c1 = (t644 : Int).toNat then (some ad635) else ((some ad635) : Option Addr).map (·.add ((t644 : Int).toNat * 1))) := ⟨_, rfl⟩; obtain ⟨c71, hc71⟩ : ∃ cz_, cz_ = c1 - (t644 : Int).toNat := ⟨_, rfl⟩; have hy71 : y646.length = y638.length - (t644 : Int).toNat := (by rw [Ny646.out, List.length_drop] <;> omega); rw [show (y638).drop (t644 : Int).toNat = y646 from Ny646.out.symm] at hr71; replace hr71 : Kd.F (Kd.int .u8) _ _ A71 y646.length y646 := (by rw [hA71]; exact hr71); rw [← hy71, ← hA71, ← hc71] at hcut71; have HO650 := Aside0.mk (show Kd.V (Kd.int .u8) 5 _ w.heap.size _ (.slice A71 y646.length c71) y646 from Kd.V_mk (by rw [hy71, hc71]; exact Nat.sub_le_sub_right hroom71 _) hr71); have HC650 := Aside0.mk (show y646.length ≤ c71 from by rw [hy71, hc71]; exact Nat.sub_le_sub_right hroom71 _); clear hr71 hC71 hroom71 hi071 hsz71 hc71; have KY71 := Aside0.mk hy71; have KA71 := Aside0.mk hA71; clear hy71 hA71; replace q71 := eq_true q71) | ((with_reducible refine gate_callee (f := 46) rfl ?_); refine goL_ Tryz.func46 #[.slice A71 y646.length c71, .int .i64 (wrap64 (t643))] ?_; (with_reducible refine (block_readNulls.calls k (fun k_ => (P1_ k_ ∨ w.heap.size ≤ k_)) _ _ y646 (wrap64 (t643)) t651 t654 t657 _ ?side1 A24.out).mono ?_); (case side1 => exact HO650.out); rintro e w72 ⟨v652, v655, rfl, ho0, ho1, hb⟩; refine ⟨_, rfl, ?_⟩; have n0_ := Aside0.mk (Kd.V_elder' (by (with_reducible repeat (apply Kd.V_drewN)); exact HO1.out) (Kd.R_base ho0) hb); have n1_ := Aside0.mk (Kd.V_elder' (by (with_reducible repeat (apply Kd.V_drewN)); exact HO642.out) (Kd.R_base ho0) hb); have n2_ := Aside0.mk (Kd.V_elder' (by (with_reducible repeat (apply Kd.V_drewN)); exact HO650.out) (Kd.R_base ho0) hb); have n3_ := Aside0.mk (Kd.R_lower (Kd.R_newM (M := fun k_ => (w.heap.size ≤ k_)) (Kd.R_mono (ok' := fun k_ => True) ho0 (fun _ hk_ => trivial)) (below_size (by repeat ((with_reducible first | exact HB.out | apply pw_below_drewN)))) (fun k_ h_ => h_)) (below_size (by repeat ((with_reducible first | exact HB.out | apply pw_below_drewN))))); have n4_ := Aside0.mk (Kd.V_lower (Kd.V_mono (ok' := fun k_ => (P1_ k_ ∨ w.heap.size ≤ k_) ∧ some k_ ≠ (v652 : Value).ownBlock) ho1 (fun k_ hk_ => ⟨Or.elim hk_.1 (fun hs_ => hs_) (fun hn_ => (.inr (Nat.le_trans (below_size (by repeat ((with_reducible first | exact HB.out | apply pw_below_drewN)))) hn_))), hk_.2⟩)) (below_size (by repeat ((with_reducible first | exact HB.out | apply pw_below_drewN))))); have n5_ := Aside0.mk (below_step (by repeat ((with_reducible first | exact HB.out | apply pw_below_drewN))) hb); revert n0_ n1_ n2_ n3_ n4_ n5_; clear HO1 HO642 HO650 HB; intro HO1 HO642 HO650 HO653 HO656 HB; (try clear hb); (try clear ho0); (try clear ho1)))
         go_ret2
         exact ⟨_, by rfl, by exact Kd.N_nil _ _ _ _ _, by exact HB.out⟩
        rw [if_neg c23] at H
        exact absurd H (by simp)
       rw [if_neg c22] at H
       exact absurd H (by simp)
      rw [if_neg c17] at H
      have c17b0 : (t645 == 0) = false := beq_eq_false_iff_ne.mpr c17
      have c17b1 : (t645 != 0) = true := bne_iff_ne.mpr c17
      simp only [Option.some.injEq, Prod.mk.injEq] at H
      obtain ⟨rfl, rfl⟩ := H
      go_enter Tryz.func13, Tryz.ntmps13
      try go_wp2_with (first | ((with_reducible refine gate_callee (f := 37) rfl ?_); refine goL_ Tryz.func37 #[.int .i64 a0] ?_; (with_reducible refine (block_badKind.calls a0 false _ A3.out).mono ?_); rintro e w' ⟨rfl, ⟨nd, rfl⟩⟩; refine ⟨_, rfl, ?_⟩) | ((with_reducible refine gate_callee (f := 44) rfl ?_); refine goL_ Tryz.func44 #[.slice A1 l1.length c1] ?_; (with_reducible refine (crc_Sealed.calls k _ _ l1 true _ ?side1 ?side2 A6.out).mono ?_); (case side1 => repeat (exact (Kd.V_reads' HO1.out).2.2)); (case side2 => exact (Kd.V_reads' HO1.out).2.1); rintro e w73 ⟨rfl, hb⟩; refine ⟨_, rfl, ?_⟩; have n0_ := Aside0.mk (Kd.V_below (by (with_reducible repeat (apply Kd.V_drewN)); exact HO1.out) hb); have n1_ := Aside0.mk (below_step (by repeat ((with_reducible first | exact HB.out | apply pw_below_drewN))) hb); revert n0_ n1_; clear HO1 HB; intro HO1 HB; (try clear hb); have p635 : 0 ≤ (0 : Int) := (by omega); have q635 : 0 < (l1.length : Int) := of_decide_eq_true ‹_›; obtain ⟨ad635, e635, hx635_0⟩ := Kd.at_int (Kd.V_reads' HO1.out).2.2 0 p635 q635; cases e635; have qi635 : (0 < l1.length) = True := eq_true (by omega); (try rw [show ((0 : Int)).toNat = 0 from rfl] at hx635_0); (try rw [Addr.add_zero'] at hx635_0); replace p635 := eq_true p635; replace q635 := eq_true q635) | ((with_reducible refine gate_callee (f := 38) rfl ?_); refine goL_ Tryz.func38 #[.int .i64 a0, .int .i64 (wrap64 (rd l1 0))] ?_; (with_reducible refine (block_fits.calls k a0 (wrap64 (rd l1 0)) true _ A11.out).mono ?_); rintro e w' ⟨rfl, ⟨nd, rfl⟩⟩; refine ⟨_, rfl, ?_⟩))
      (try (rw [drewN_self w73]; generalize hq_ : World.drewN w73 _ = w73; have n0_ : Aside0 (Kd.V (Kd.int .u8) 5 w73 w.heap.size (fun k_ => (P1_ k_ ∨ w.heap.size ≤ k_)) (.slice (some ad635) l1.length c1) l1) := ⟨by rw [← hq_]; exact (by (with_reducible repeat (apply Kd.V_drewN)); exact HO1.out)⟩; have n1_ : Aside0 (Below w.heap.size w w73) := ⟨by rw [← hq_]; exact (by repeat ((with_reducible first | exact HB.out | apply pw_below_drewN)))⟩; clear HO1 HB hq_; have HO1 := n0_; have HB := n1_; clear n0_ n1_))
      have n0_ := Aside0.mk (Kd.V_drew HO1.out)
      have n1_ := Aside0.mk (below_drew1 HB.out)
      clear HO1
      clear HB
      have HO1 := n0_
      have HB := n1_
      clear n0_ n1_
      have p637 : 0 ≤ (0 : Int) := (by omega)
      have q637 : 0 < (l1.length : Int) := of_decide_eq_true ‹_›
      obtain ⟨ad637, e637, hx637_0⟩ := Kd.at_int (Kd.V_reads' HO1.out).2.2 0 p637 q637
      obtain rfl : ad635 = ad637 := (by injection e637)
      have qi637 : (0 < l1.length) = True := eq_true (by omega)
      (try rw [show ((0 : Int)).toNat = 0 from rfl] at hx637_0)
      (try rw [Addr.add_zero'] at hx637_0)
      replace p637 := eq_true p637
      replace q637 := eq_true q637
      have q75 : ((ji13) : Int) ≤ ((l1.length : Int) : Int) := of_decide_eq_true ‹_›
      obtain ⟨i075, hi075, _, hsz75, _⟩ := info_parts info5
      have hroom75 : l1.length ≤ c1 := (Kd.V_reads' HO1.out).2.1
      have hC75 : Kd.F (Kd.int .u8) _ _ (some ad635) l1.length l1 := (Kd.V_at (base := w.heap.size) HO1.out).2.2
      have hcut75 := cut_to (P := Tryz.prog) 24 5 .i64 Tryz.underlying24 hi075 (some ad635) l1.length c1 (ji13) (of_decide_eq_true ‹_›) q75 hroom75
      have hr75 := Kd.F_take (m := ((ji13) : Int).toNat) hC75 (by omega)
      have hy75 : y638.length = ((ji13) : Int).toNat := (by rw [Ny638.out, List.length_take]; omega)
      rw [← Ny638.out] at hr75
      rw [← hy75] at hcut75
      have HO642 := Aside0.mk (show Kd.V (Kd.int .u8) 5 _ w.heap.size _ (.slice (some ad635) y638.length c1) y638 from Kd.V_mk (by omega) hr75)
      have HC642 := Aside0.mk (show y638.length ≤ c1 from by omega)
      clear hr75 hC75 hroom75 hi075 hsz75
      have KY75 := Aside0.mk hy75
      clear hy75
      replace q75 := eq_true q75
      refine start_ (n := 11) (S := fun w' => w'.cell? ad635 = some (.int .u8 (rd l1 0))) (ds := []) #[false, false, false, false, false, false, false, false, false, false, false] (by kernel_rfl) rfl rfl (hx637_0) (fun hHeld => ?_); refine with_tabW block_Decode.tab11 block_Decode.bits11 (fun HT_ HW_ => ?_)
      generalize w73.drew = w74 at HO1 HB HO642 hx637_0 hHeld ⊢
      refine pu_ 0 43 HT_ ?_; refine pu_ 1 44 HT_ ?_; refine pu_ 4 47 HT_ ?_; refine pu_ 5 48 HT_ ?_; refine pu_ 6 49 HT_ ?_; refine pu_ 7 50 HT_ ?_; refine pu_ 8 51 HT_ ?_
      refine take_ (i := 2) (N := some 45) (v := ?_) (a' := ?_) #[true, true, true, false, true, true, true, true, true, false, false] rfl rfl (take_ofW HT_.out HW_.out (by kernel_rfl)) (fun _ _ _ h => h) (Or.inl ⟨by rfl, ?_⟩) hHeld ?_ ?_
      rotate_left
      ·intro w' s0
       go_simp
       with_reducible rfl
      rotate_left
      ·simp only [Act.put, List.setIfInBounds_toArray, List.set_cons_zero, List.set_cons_succ, i64_w, i32_w]
       rfl
      refine pu_ 3 46 HT_ ?_; refine pu_ 9 6 HT_ ?_; refine pu_ 10 1 HT_ ?_
      refine done_ (done_of HT_.out (by kernel_rfl)) ?_
      try go_wp2_with ((refine goL_ Tryz.func45 #[.slice (some ad635) y638.length c1, .int .i64 1] ?_; (with_reducible refine (vint_Get.calls k _ _ y638 1 t643 t644 t645 _ ?side1 ?side2 A16.out).mono ?_); (case side1 => repeat (exact (Kd.V_reads' HO642.out).2.2)); (case side2 => exact (Kd.V_reads' HO642.out).2.1); rintro e w' ⟨rfl, ⟨nd, rfl⟩⟩; refine ⟨_, rfl, ?_⟩))
      go_ret2
      exact ⟨_, by rfl, by exact Kd.N_nil _ _ _ _ _, by repeat ((with_reducible first | exact HB.out | apply pw_below_drewN))⟩
     rw [if_neg c15] at H
     exact absurd H (by simp)
    rw [if_neg c14] at H
    exact absurd H (by simp)
   replace c12 := Bool.eq_false_iff.mpr c12
   subst c12
   have H1 : (some (([] : List (S62)), 120)) = some (r1, r2) := by rw [if_neg (show ¬ (false = true) by decide)] at H; exact H
   clear H
   have H := H1
   clear H1
   simp only [Option.some.injEq, Prod.mk.injEq] at H
   obtain ⟨rfl, rfl⟩ := H
   go_enter Tryz.func13, Tryz.ntmps13
   go_wp2_with (first | ((with_reducible refine gate_callee (f := 37) rfl ?_); refine goL_ Tryz.func37 #[.int .i64 a0] ?_; (with_reducible refine (block_badKind.calls a0 false _ A3.out).mono ?_); rintro e w' ⟨rfl, ⟨nd, rfl⟩⟩; refine ⟨_, rfl, ?_⟩) | ((with_reducible refine gate_callee (f := 44) rfl ?_); refine goL_ Tryz.func44 #[.slice A1 l1.length c1] ?_; (with_reducible refine (crc_Sealed.calls k _ _ l1 true _ ?side1 ?side2 A6.out).mono ?_); (case side1 => repeat (exact (Kd.V_reads' HO1.out).2.2)); (case side2 => exact (Kd.V_reads' HO1.out).2.1); rintro e w76 ⟨rfl, hb⟩; refine ⟨_, rfl, ?_⟩; have n0_ := Aside0.mk (Kd.V_below (by (with_reducible repeat (apply Kd.V_drewN)); exact HO1.out) hb); have n1_ := Aside0.mk (below_step (by repeat ((with_reducible first | exact HB.out | apply pw_below_drewN))) hb); revert n0_ n1_; clear HO1 HB; intro HO1 HB; (try clear hb); have p635 : 0 ≤ (0 : Int) := (by omega); have q635 : 0 < (l1.length : Int) := of_decide_eq_true ‹_›; obtain ⟨ad635, e635, hx635_0⟩ := Kd.at_int (Kd.V_reads' HO1.out).2.2 0 p635 q635; cases e635; have qi635 : (0 < l1.length) = True := eq_true (by omega); (try rw [show ((0 : Int)).toNat = 0 from rfl] at hx635_0); (try rw [Addr.add_zero'] at hx635_0); replace p635 := eq_true p635; replace q635 := eq_true q635) | ((with_reducible refine gate_callee (f := 38) rfl ?_); refine goL_ Tryz.func38 #[.int .i64 a0, .int .i64 (wrap64 (rd l1 0))] ?_; (with_reducible refine (block_fits.calls k a0 (wrap64 (rd l1 0)) false _ A11.out).mono ?_); rintro e w' ⟨rfl, ⟨nd, rfl⟩⟩; refine ⟨_, rfl, ?_⟩))
   go_ret2
   exact ⟨_, by rfl, by exact Kd.N_nil _ _ _ _ _, by repeat ((with_reducible first | exact HB.out | apply pw_below_drewN))⟩
  rw [if_neg c10] at H
  exact absurd H (by simp)
 replace c7 := Bool.eq_false_iff.mpr c7
 subst c7
 have H1 : (some (([] : List (S62)), 6)) = some (r1, r2) := by rw [if_neg (show ¬ (false = true) by decide)] at H; exact H
 clear H
 have H := H1
 clear H1
 simp only [Option.some.injEq, Prod.mk.injEq] at H
 obtain ⟨rfl, rfl⟩ := H
 go_enter Tryz.func13, Tryz.ntmps13
 go_wp2_with (first | ((with_reducible refine gate_callee (f := 37) rfl ?_); refine goL_ Tryz.func37 #[.int .i64 a0] ?_; (with_reducible refine (block_badKind.calls a0 false _ A3.out).mono ?_); rintro e w' ⟨rfl, ⟨nd, rfl⟩⟩; refine ⟨_, rfl, ?_⟩) | ((with_reducible refine gate_callee (f := 44) rfl ?_); refine goL_ Tryz.func44 #[.slice A1 l1.length c1] ?_; (with_reducible refine (crc_Sealed.calls k _ _ l1 false _ ?side1 ?side2 A6.out).mono ?_); (case side1 => repeat (exact (Kd.V_reads' HO1.out).2.2)); (case side2 => exact (Kd.V_reads' HO1.out).2.1); rintro e w77 ⟨rfl, hb⟩; refine ⟨_, rfl, ?_⟩; have n0_ := Aside0.mk (Kd.V_below (by (with_reducible repeat (apply Kd.V_drewN)); exact HO1.out) hb); have n1_ := Aside0.mk (below_step (by repeat ((with_reducible first | exact HB.out | apply pw_below_drewN))) hb); revert n0_ n1_; clear HO1 HB; intro HO1 HB; (try clear hb)))
 go_ret2
 exact ⟨_, by rfl, by exact Kd.N_nil _ _ _ _ _, by exact HB.out⟩
end Go.Proofs.YtjbhaepkldgfnaaGreat.S
