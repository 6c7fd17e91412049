/- A part of the proof of BlockOnly (the last text says what is proved, and of what): contracts of Go functions, made by a program of this work over the kit's print, the print's words that they use, and plain laws. No condition. -/
import Derived.Test.YtjbhaepkldgfnaaGreatC2
import Derived.Test.YtjbhaepkldgfnaaGreatC4
import Derived.Test.YtjbhaepkldgfnaaGreatC3
namespace Go.Proofs.YtjbhaepkldgfnaaGreat.S
open Go.RowKit Go.Proofs.YtjbhaepkldgfnaaGreatW.PrintWords Go.Proofs.YtjbhaepkldgfnaaGreatW.PrintLast Go.Proofs.YtjbhaepkldgfnaaGreatW.PrintMore
attribute [local go_sem] max2_int min2_int max_two min_two max_three min_three max_four min_four
set_option linter.unusedVariables false
set_option linter.unusedSimpArgs false
def packed_distances.f (k : Nat) (l0 : List Int) (a1 : Int) : Option (List Int × Int) := if (l0.length : Int) = 0 then (some (([] : List Int), 2)) else (if 0 < (l0.length : Int) then (if (rd l0 0) > 64 then (some (([] : List Int), 5)) else (if 1 ≤ (l0.length : Int) then ((bits_Unpack.f k (l0.drop 1) (wrap64 (rd l0 0)) a1).bind fun bt480 => (if bt480.2 = 0 then ((bits_Width.f k bt480.1).bind fun t484 => (if t484 = (wrap64 (rd l0 0)) then ((slices_Contains_uint64_uint64.f k bt480.1 0).bind fun t486 => (if t486 = true then (some (bt480.1, bt480.2)) else (some (([] : List Int), 5)))) else (some (([] : List Int), 5)))) else (some (bt480.1, bt480.2)))) else (none))) else (none))
def packed_distances.T5 : Bool × List (List Nat × List Nat) := (true, [([], []), ([0], [0]), ([], []), ([2], [2]), ([3], [3]), ([4], [4]), ([], []), ([1, 5, 6], [1, 5, 6]), ([7], [7]), ([8], [8]), ([8], [8]), ([9, 7, 0, 1, 2, 3, 4, 5, 6, 7, 8, 9], [9]), ([10, 11, 0, 1, 2, 3, 4, 5, 6, 7, 8, 9, 10, 11], [10])])
def packed_distances.B5 : List Nat := [0, 1, 0, 4, 12, 28, 0, 127, 255, 511, 511, 1023, 4095]
theorem packed_distances.tab5 : rtab .any (opsOf Tryz.f127 5) = packed_distances.T5 := by kernel_rfl
theorem packed_distances.bits5 : waitsOk packed_distances.T5.2 packed_distances.B5 = true := by kernel_rfl
def packed_distances.T6 : Bool × List (List Nat × List Nat) := (true, [([], []), ([0], [0]), ([1], [1]), ([2], [2]), ([3, 2, 2], [2, 3]), ([2], [2]), ([5, 2], [2, 5]), ([6, 2], [2, 6]), ([7, 2], [2, 7]), ([4, 8, 2], [2, 4, 8]), ([9, 4, 2], [2, 9]), ([10], [10]), ([11, 10, 10], [10, 11]), ([12, 10], [10, 12]), ([10, 13, 2], [2, 10, 13]), ([2, 14], [2, 14])])
def packed_distances.B6 : List Nat := [0, 1, 3, 7, 15, 7, 39, 103, 231, 511, 1023, 2047, 4095, 8191, 16383, 32767]
theorem packed_distances.tab6 : rtab .any (opsOf Tryz.f127 6) = packed_distances.T6 := by kernel_rfl
theorem packed_distances.bits6 : waitsOk packed_distances.T6.2 packed_distances.B6 = true := by kernel_rfl
set_option maxHeartbeats 8000000 in
set_option maxRecDepth 100000 in
theorem packed_distances.calls (k : Nat) (A0 : Option Addr) (c0 : Nat) (l0 : List Int) (a1 : Int) (r1 : List Int) (r2 : Int) (w : World) (hr0 : Kd.C (Kd.int .u8) w A0 l0.length l0) (hc0 : l0.length ≤ c0) (h : packed_distances.f k l0 a1 = some (r1, r2)) :
 Calls Tryz.prog 127 #[.slice A0 l0.length c0, .int .i64 a1] w fun e w' => ∃ v0_ : Value, e = .returned (.tuple #[v0_, .int .i64 r2]) ∧ Kd.R (Kd.int .u64) 69 w' w.heap.size (fun _ => True) v0_ r1 ∧ Below w.heap.size w w' := by
 have HR0 := Aside0.mk hr0
 have HC0 := Aside0.mk hc0
 clear hr0 hc0
 have HB := Aside0.mk (Below.refl w.heap.size w)
 unfold packed_distances.f at h
 have H := h
 clear h
 by_cases c3 : (l0.length : Int) = 0
 ·rw [if_pos c3] at H
  have c3b0 : ((l0.length : Int) == 0) = true := beq_iff_eq.mpr c3
  have c3b1 : ((l0.length : Int) != 0) = false := bne_eq_false_iff_eq.mpr c3
  clear c3
  simp only [Option.some.injEq, Prod.mk.injEq] at H
  obtain ⟨rfl, rfl⟩ := H
  go_enter Tryz.func127, Tryz.ntmps127
  go_wp2
  go_ret2
  exact ⟨_, by rfl, by exact Kd.R_nil _ _ _ _ _, by exact HB.out⟩
 rw [if_neg c3] at H
 have c3b0 : ((l0.length : Int) == 0) = false := beq_eq_false_iff_ne.mpr c3
 have c3b1 : ((l0.length : Int) != 0) = true := bne_iff_ne.mpr c3
 have c3b2 : ¬ (l0 = []) := fun h_ => c3 (by rw [h_]; rfl)
 by_cases c4 : 0 < (l0.length : Int)
 ·rw [if_pos c4] at H
  have c4b0 : decide (0 < (l0.length : Int)) = true := decide_eq_true c4
  have c4b1 : decide (0 < l0.length) = true := decide_eq_true (by omega)
  clear c4
  by_cases c5 : (rd l0 0) > 64
  ·rw [if_pos c5] at H
   have c5b0 : decide (64 < (rd l0 0)) = true := decide_eq_true c5
   clear c5
   simp only [Option.some.injEq, Prod.mk.injEq] at H
   obtain ⟨rfl, rfl⟩ := H
   have p477 : 0 ≤ (0 : Int) := (by omega)
   have q477 : 0 < (l0.length : Int) := of_decide_eq_true ‹_›
   obtain ⟨ad477, e477, hx477_0⟩ := Kd.at_int HR0.out 0 p477 q477
   cases e477
   have qi477 : (0 < l0.length) = True := eq_true (by omega)
   (try rw [show ((0 : Int)).toNat = 0 from rfl] at hx477_0)
   (try rw [Addr.add_zero'] at hx477_0)
   replace p477 := eq_true p477
   replace q477 := eq_true q477
   go_enter Tryz.func127, Tryz.ntmps127
   go_wp2
   go_ret2
   exact ⟨_, by rfl, by exact Kd.R_nil _ _ _ _ _, by exact HB.out⟩
  rw [if_neg c5] at H
  have c5b0 : decide (64 < (rd l0 0)) = false := decide_eq_false c5
  clear c5
  by_cases c6 : 1 ≤ (l0.length : Int)
  ·rw [if_pos c6] at H
   have c6b0 := eq_true c6
   have c6b1 : decide (1 ≤ (l0.length : Int)) = true := decide_eq_true c6
   clear c6
   replace H := Option.bind_eq_some_iff.mp H
   obtain ⟨⟨t480, t481⟩, A70, H⟩ := H
   (try dsimp only at H)
   have A7 := Aside0.mk A70
   clear A70
   by_cases c8 : t481 = 0
   ·rw [if_pos c8] at H
    have c8b0 : (t481 == 0) = true := beq_iff_eq.mpr c8
    have c8b1 : (t481 != 0) = false := bne_eq_false_iff_eq.mpr c8
    clear c8
    replace H := Option.bind_eq_some_iff.mp H
    obtain ⟨t484, A90, H⟩ := H
    (try dsimp only at H)
    have A9 := Aside0.mk A90
    clear A90
    by_cases c10 : t484 = (wrap64 (rd l0 0))
    ·rw [if_pos c10] at H
     have c10b0 : (t484 == (wrap64 (rd l0 0))) = true := beq_iff_eq.mpr c10
     have c10b1 : (t484 != (wrap64 (rd l0 0))) = false := bne_eq_false_iff_eq.mpr c10
     clear c10
     replace H := Option.bind_eq_some_iff.mp H
     obtain ⟨t486, A110, H⟩ := H
     (try dsimp only at H)
     have A11 := Aside0.mk A110
     clear A110
     by_cases c12 : t486 = true
     ·subst c12
      have H1 : (some (t480, t481)) = some (r1, r2) := by rw [if_pos rfl] at H; exact H
      clear H
      have H := H1
      clear H1
      simp only [Option.some.injEq, Prod.mk.injEq] at H
      obtain ⟨rfl, rfl⟩ := H
      have p477 : 0 ≤ (0 : Int) := (by omega)
      have q477 : 0 < (l0.length : Int) := of_decide_eq_true ‹_›
      obtain ⟨ad477, e477, hx477_0⟩ := Kd.at_int HR0.out 0 p477 q477
      cases e477
      have qi477 : (0 < l0.length) = True := eq_true (by omega)
      (try rw [show ((0 : Int)).toNat = 0 from rfl] at hx477_0)
      (try rw [Addr.add_zero'] at hx477_0)
      replace p477 := eq_true p477
      replace q477 := eq_true q477
      go_enter Tryz.func127, Tryz.ntmps127
      try go_wp2
      have n0_ := Aside0.mk (below_drew1 HB.out)
      clear HB
      have HB := n0_
      clear n0_
      obtain ⟨i014, hi014, _, hsz14, _⟩ := info_parts info5
      obtain ⟨A14, hcut14, hA14, hC14⟩ := print_drop_of (P := Tryz.prog) (Value.int .u8) 0 24 5 .i64 Tryz.underlying24 hi014 hsz14 (some ad477) c0 l0 1 (by omega) (of_decide_eq_true ‹_›) HC0.out
      have HR478 := Aside0.mk (Kd.C_of_reads (h1 := fun _ => rfl) (hA14 _ (Kd.reads_of_C HR0.out)))
      have HC478 := Aside0.mk hC14
      clear hA14 hC14 hi014 hsz14
      have p479 : 0 ≤ (0 : Int) := (by omega)
      have q479 : 0 < (l0.length : Int) := of_decide_eq_true ‹_›
      obtain ⟨ad479, e479, hx479_0⟩ := Kd.at_int HR0.out 0 p479 q479
      have hw479_0 := hx479_0
      (try rw [show ((0 : Int)).toNat = 0 from rfl] at hw479_0)
      (try rw [Addr.add_zero'] at hw479_0)
      obtain rfl : ad477 = ad479 := (by injection e479)
      have qi479 : (0 < l0.length) = True := eq_true (by omega)
      (try rw [show ((0 : Int)).toNat = 0 from rfl] at hx479_0)
      (try rw [Addr.add_zero'] at hx479_0)
      replace hx479_0 := (HB.out.cell (World.block_lt_of_cell? w _ hx479_0)).trans hx479_0
      replace p479 := eq_true p479
      replace q479 := eq_true q479
      refine start_ (n := 13) (S := fun w' => w'.cell? ad477 = some (.int .u8 (rd l0 0))) (ds := []) #[false, false, false, false, false, false, false, false, false, false, false, false, false] (by kernel_rfl) rfl rfl (((HB.out.cell (World.block_lt_of_cell? w _ hw479_0)).trans hw479_0)) (fun hHeld => ?_); refine with_tabW packed_distances.tab5 packed_distances.bits5 (fun HT_ HW_ => ?_)
      generalize w.drew = w13 at HB HR478 hx479_0 hHeld ⊢
      refine pu_ 0 18 HT_ ?_; refine pu_ 1 19 HT_ ?_; refine pu_ 2 20 HT_ ?_; refine pu_ 3 21 HT_ ?_; refine pu_ 6 24 HT_ ?_
      refine take_ (i := 4) (N := some 22) (v := ?_) (a' := ?_) #[true, true, true, true, true, false, true, false, false, false, false, false, false] rfl rfl (take_ofW HT_.out HW_.out (by kernel_rfl)) (fun _ _ _ h => h) (Or.inl ⟨by rfl, ?_⟩) hHeld ?_ ?_
      rotate_left
      ·intro w' s0
       go_simp
       with_reducible rfl
      rotate_left
      ·simp only [Act.put, List.setIfInBounds_toArray, List.set_cons_zero, List.set_cons_succ, i64_w, i32_w]
       rfl
      refine pu_ 5 23 HT_ ?_
      refine on_ 7 25 HT_ (fun K hK => ?_)
      refine goes_ Tryz.func82 (by kernel_rfl) rfl #[.slice A14 (l0.drop 1).length (c0 - 1), .int .i64 (wrap64 (rd l0 0)), .int .i64 a1] (by rfl) rfl rfl (by (try simp only [List.map_toArray, List.map_cons, List.map_nil]); (rw [show (l0.drop 1).length = (l0.length - 1) from List.length_drop] <;> rfl)) ?_
      with_reducible refine (bits_Unpack.calls k _ _ (l0.drop 1) (wrap64 (rd l0 0)) a1 t480 t481 _ ?side1 ?side2 A7.out).mono ?_
      (case side1 => repeat (exact (Kd.C_below HR478.out HB.out)))
      (case side2 => exact HC478.out)
      rintro e w15 ⟨v482, rfl, ho0, hb⟩
      refine ⟨_, rfl, ?_⟩
      have n0_ := Aside0.mk (Kd.R_lower ho0 (below_size HB.out))
      have n1_ := Aside0.mk (below_step HB.out hb)
      clear HB
      have HO483 := n0_
      have HB := n1_
      clear n0_ n1_
      (try clear hb)
      (try clear ho0)
      refine hK.out _ _ (((HB.out.cell (World.block_lt_of_cell? w _ hw479_0)).trans hw479_0)) (fun hHeld => ?_)
      clear hK K
      refine nor_ ?_
      refine pu_ 8 17 HT_ ?_; refine pu_ 9 26 HT_ ?_; refine pu_ 10 27 HT_ ?_; refine pu_ 11 6 HT_ ?_; refine pu_ 12 7 HT_ ?_
      refine done_ (done_of HT_.out (by kernel_rfl)) ?_
      try go_wp2
      have n0_ := Aside0.mk (Kd.R_drew HO483.out)
      have n1_ := Aside0.mk (below_drew1 HB.out)
      clear HO483
      clear HB
      have HO483 := n0_
      have HB := n1_
      clear n0_ n1_
      have p485 : 0 ≤ (0 : Int) := (by omega)
      have q485 : 0 < (l0.length : Int) := of_decide_eq_true ‹_›
      obtain ⟨ad485, e485, hx485_0⟩ := Kd.at_int HR0.out 0 p485 q485
      have hw485_0 := hx485_0
      (try rw [show ((0 : Int)).toNat = 0 from rfl] at hw485_0)
      (try rw [Addr.add_zero'] at hw485_0)
      obtain rfl : ad477 = ad485 := (by injection e485)
      have qi485 : (0 < l0.length) = True := eq_true (by omega)
      (try rw [show ((0 : Int)).toNat = 0 from rfl] at hx485_0)
      (try rw [Addr.add_zero'] at hx485_0)
      replace hx485_0 := (HB.out.cell (World.block_lt_of_cell? w _ hx485_0)).trans hx485_0
      replace p485 := eq_true p485
      replace q485 := eq_true q485
      obtain ⟨Ao17, co17, eo17⟩ := Kd.R_slice HO483.out
      (subst eo17)
      refine start_ (n := 16) (S := fun w' => w'.cell? ad477 = some (.int .u8 (rd l0 0))) (ds := []) #[false, false, false, false, false, false, false, false, false, false, false, false, false, false, false, false] (by kernel_rfl) rfl rfl (((HB.out.cell (World.block_lt_of_cell? w _ hw485_0)).trans hw485_0)) (fun hHeld => ?_); refine with_tabW packed_distances.tab6 packed_distances.bits6 (fun HT_ HW_ => ?_)
      generalize w15.drew = w16 at HO483 HB hx485_0 hHeld ⊢
      refine pu_ 0 28 HT_ ?_; refine pu_ 1 29 HT_ ?_; refine pu_ 2 30 HT_ ?_; refine pu_ 3 31 HT_ ?_; refine pu_ 5 33 HT_ ?_; refine pu_ 6 34 HT_ ?_
      refine take_ (i := 7) (N := some 35) (v := ?_) (a' := ?_) #[true, true, true, true, false, true, true, true, false, false, false, false, false, false, false, false] rfl rfl (take_ofW HT_.out HW_.out (by kernel_rfl)) (fun _ _ _ h => h) (Or.inl ⟨by rfl, ?_⟩) hHeld ?_ ?_
      rotate_left
      ·intro w' s0
       go_simp
       with_reducible rfl
      rotate_left
      ·simp only [Act.put, List.setIfInBounds_toArray, List.set_cons_zero, List.set_cons_succ, i64_w, i32_w]
       rfl
      refine pu_ 8 36 HT_ ?_
      refine on_ 4 32 HT_ (fun K hK => ?_)
      refine goe_ Tryz.func83 #[.slice Ao17 t480.length co17] ?_
      with_reducible refine (bits_Width.calls k _ _ t480 t484 _ ?side1 ?side2 A9.out).mono ?_
      (case side1 => repeat (exact (Kd.R_reads' HO483.out).2.2))
      (case side2 => exact (Kd.R_reads' HO483.out).2.1)
      rintro e w' ⟨rfl, ⟨nd, rfl⟩⟩
      refine ⟨_, rfl, ?_⟩
      refine hK.out _ _ (((HB.out.cell (World.block_lt_of_cell? w _ hw485_0)).trans hw485_0)) (fun hHeld => ?_)
      clear hK K
      refine nor_ ?_
      refine pu_ 9 37 HT_ ?_; refine pu_ 10 38 HT_ ?_; refine pu_ 11 39 HT_ ?_
      refine on_ 12 40 HT_ (fun K hK => ?_)
      refine goe_ Tryz.func147 #[.slice Ao17 t480.length co17, .int .u64 0] ?_
      with_reducible refine (slices_Contains_uint64_uint64.calls k _ _ t480 0 true _ ?side1 ?side2 A11.out).mono ?_
      (case side1 => repeat (exact (Kd.R_reads' HO483.out).2.2))
      (case side2 => exact (Kd.R_reads' HO483.out).2.1)
      rintro e w' ⟨rfl, ⟨nd, rfl⟩⟩
      refine ⟨_, rfl, ?_⟩
      refine hK.out _ _ (((HB.out.cell (World.block_lt_of_cell? w _ hw485_0)).trans hw485_0)) (fun hHeld => ?_)
      clear hK K
      refine nor_ ?_
      refine pu_ 13 41 HT_ ?_; refine pu_ 14 42 HT_ ?_; refine pu_ 15 43 HT_ ?_
      refine done_ (done_of HT_.out (by kernel_rfl)) ?_
      try go_wp2
      go_ret2
      exact ⟨_, by rfl, by (with_reducible repeat (apply Kd.R_drewN)); exact HO483.out, by repeat ((with_reducible first | exact HB.out | apply pw_below_drewN))⟩
     replace c12 := Bool.eq_false_iff.mpr c12
     subst c12
     have H1 : (some (([] : List Int), 5)) = some (r1, r2) := by rw [if_neg (show ¬ (false = true) by decide)] at H; exact H
     clear H
     have H := H1
     clear H1
     simp only [Option.some.injEq, Prod.mk.injEq] at H
     obtain ⟨rfl, rfl⟩ := H
     have p477 : 0 ≤ (0 : Int) := (by omega)
     have q477 : 0 < (l0.length : Int) := of_decide_eq_true ‹_›
     obtain ⟨ad477, e477, hx477_0⟩ := Kd.at_int HR0.out 0 p477 q477
     cases e477
     have qi477 : (0 < l0.length) = True := eq_true (by omega)
     (try rw [show ((0 : Int)).toNat = 0 from rfl] at hx477_0)
     (try rw [Addr.add_zero'] at hx477_0)
     replace p477 := eq_true p477
     replace q477 := eq_true q477
     go_enter Tryz.func127, Tryz.ntmps127
     try go_wp2
     have n0_ := Aside0.mk (below_drew1 HB.out)
     clear HB
     have HB := n0_
     clear n0_
     obtain ⟨i019, hi019, _, hsz19, _⟩ := info_parts info5
     obtain ⟨A19, hcut19, hA19, hC19⟩ := print_drop_of (P := Tryz.prog) (Value.int .u8) 0 24 5 .i64 Tryz.underlying24 hi019 hsz19 (some ad477) c0 l0 1 (by omega) (of_decide_eq_true ‹_›) HC0.out
     have HR478 := Aside0.mk (Kd.C_of_reads (h1 := fun _ => rfl) (hA19 _ (Kd.reads_of_C HR0.out)))
     have HC478 := Aside0.mk hC19
     clear hA19 hC19 hi019 hsz19
     have p479 : 0 ≤ (0 : Int) := (by omega)
     have q479 : 0 < (l0.length : Int) := of_decide_eq_true ‹_›
     obtain ⟨ad479, e479, hx479_0⟩ := Kd.at_int HR0.out 0 p479 q479
     have hw479_0 := hx479_0
     (try rw [show ((0 : Int)).toNat = 0 from rfl] at hw479_0)
     (try rw [Addr.add_zero'] at hw479_0)
     obtain rfl : ad477 = ad479 := (by injection e479)
     have qi479 : (0 < l0.length) = True := eq_true (by omega)
     (try rw [show ((0 : Int)).toNat = 0 from rfl] at hx479_0)
     (try rw [Addr.add_zero'] at hx479_0)
     replace hx479_0 := (HB.out.cell (World.block_lt_of_cell? w _ hx479_0)).trans hx479_0
     replace p479 := eq_true p479
     replace q479 := eq_true q479
     refine start_ (n := 13) (S := fun w' => w'.cell? ad477 = some (.int .u8 (rd l0 0))) (ds := []) #[false, false, false, false, false, false, false, false, false, false, false, false, false] (by kernel_rfl) rfl rfl (((HB.out.cell (World.block_lt_of_cell? w _ hw479_0)).trans hw479_0)) (fun hHeld => ?_); refine with_tabW packed_distances.tab5 packed_distances.bits5 (fun HT_ HW_ => ?_)
     generalize w.drew = w18 at HB HR478 hx479_0 hHeld ⊢
     refine pu_ 0 18 HT_ ?_; refine pu_ 1 19 HT_ ?_; refine pu_ 2 20 HT_ ?_; refine pu_ 3 21 HT_ ?_; refine pu_ 6 24 HT_ ?_
     refine take_ (i := 4) (N := some 22) (v := ?_) (a' := ?_) #[true, true, true, true, true, false, true, false, false, false, false, false, false] rfl rfl (take_ofW HT_.out HW_.out (by kernel_rfl)) (fun _ _ _ h => h) (Or.inl ⟨by rfl, ?_⟩) hHeld ?_ ?_
     rotate_left
     ·intro w' s0
      go_simp
      with_reducible rfl
     rotate_left
     ·simp only [Act.put, List.setIfInBounds_toArray, List.set_cons_zero, List.set_cons_succ, i64_w, i32_w]
      rfl
     refine pu_ 5 23 HT_ ?_
     refine on_ 7 25 HT_ (fun K hK => ?_)
     refine goes_ Tryz.func82 (by kernel_rfl) rfl #[.slice A19 (l0.drop 1).length (c0 - 1), .int .i64 (wrap64 (rd l0 0)), .int .i64 a1] (by rfl) rfl rfl (by (try simp only [List.map_toArray, List.map_cons, List.map_nil]); (rw [show (l0.drop 1).length = (l0.length - 1) from List.length_drop] <;> rfl)) ?_
     with_reducible refine (bits_Unpack.calls k _ _ (l0.drop 1) (wrap64 (rd l0 0)) a1 t480 t481 _ ?side1 ?side2 A7.out).mono ?_
     (case side1 => repeat (exact (Kd.C_below HR478.out HB.out)))
     (case side2 => exact HC478.out)
     rintro e w20 ⟨v482, rfl, ho0, hb⟩
     refine ⟨_, rfl, ?_⟩
     have n0_ := Aside0.mk (Kd.R_lower ho0 (below_size HB.out))
     have n1_ := Aside0.mk (below_step HB.out hb)
     clear HB
     have HO483 := n0_
     have HB := n1_
     clear n0_ n1_
     (try clear hb)
     (try clear ho0)
     refine hK.out _ _ (((HB.out.cell (World.block_lt_of_cell? w _ hw479_0)).trans hw479_0)) (fun hHeld => ?_)
     clear hK K
     refine nor_ ?_
     refine pu_ 8 17 HT_ ?_; refine pu_ 9 26 HT_ ?_; refine pu_ 10 27 HT_ ?_; refine pu_ 11 6 HT_ ?_; refine pu_ 12 7 HT_ ?_
     refine done_ (done_of HT_.out (by kernel_rfl)) ?_
     try go_wp2
     have n0_ := Aside0.mk (Kd.R_drew HO483.out)
     have n1_ := Aside0.mk (below_drew1 HB.out)
     clear HO483
     clear HB
     have HO483 := n0_
     have HB := n1_
     clear n0_ n1_
     have p485 : 0 ≤ (0 : Int) := (by omega)
     have q485 : 0 < (l0.length : Int) := of_decide_eq_true ‹_›
     obtain ⟨ad485, e485, hx485_0⟩ := Kd.at_int HR0.out 0 p485 q485
     have hw485_0 := hx485_0
     (try rw [show ((0 : Int)).toNat = 0 from rfl] at hw485_0)
     (try rw [Addr.add_zero'] at hw485_0)
     obtain rfl : ad477 = ad485 := (by injection e485)
     have qi485 : (0 < l0.length) = True := eq_true (by omega)
     (try rw [show ((0 : Int)).toNat = 0 from rfl] at hx485_0)
     (try rw [Addr.add_zero'] at hx485_0)
     replace hx485_0 := (HB.out.cell (World.block_lt_of_cell? w _ hx485_0)).trans hx485_0
     replace p485 := eq_true p485
     replace q485 := eq_true q485
     obtain ⟨Ao22, co22, eo22⟩ := Kd.R_slice HO483.out
     (subst eo22)
     refine start_ (n := 16) (S := fun w' => w'.cell? ad477 = some (.int .u8 (rd l0 0))) (ds := []) #[false, false, false, false, false, false, false, false, false, false, false, false, false, false, false, false] (by kernel_rfl) rfl rfl (((HB.out.cell (World.block_lt_of_cell? w _ hw485_0)).trans hw485_0)) (fun hHeld => ?_); refine with_tabW packed_distances.tab6 packed_distances.bits6 (fun HT_ HW_ => ?_)
     generalize w20.drew = w21 at HO483 HB hx485_0 hHeld ⊢
     refine pu_ 0 28 HT_ ?_; refine pu_ 1 29 HT_ ?_; refine pu_ 2 30 HT_ ?_; refine pu_ 3 31 HT_ ?_; refine pu_ 5 33 HT_ ?_; refine pu_ 6 34 HT_ ?_
     refine take_ (i := 7) (N := some 35) (v := ?_) (a' := ?_) #[true, true, true, true, false, true, true, true, false, false, false, false, false, false, false, false] rfl rfl (take_ofW HT_.out HW_.out (by kernel_rfl)) (fun _ _ _ h => h) (Or.inl ⟨by rfl, ?_⟩) hHeld ?_ ?_
     rotate_left
     ·intro w' s0
      go_simp
      with_reducible rfl
     rotate_left
     ·simp only [Act.put, List.setIfInBounds_toArray, List.set_cons_zero, List.set_cons_succ, i64_w, i32_w]
      rfl
     refine pu_ 8 36 HT_ ?_
     refine on_ 4 32 HT_ (fun K hK => ?_)
     refine goe_ Tryz.func83 #[.slice Ao22 t480.length co22] ?_
     with_reducible refine (bits_Width.calls k _ _ t480 t484 _ ?side1 ?side2 A9.out).mono ?_
     (case side1 => repeat (exact (Kd.R_reads' HO483.out).2.2))
     (case side2 => exact (Kd.R_reads' HO483.out).2.1)
     rintro e w' ⟨rfl, ⟨nd, rfl⟩⟩
     refine ⟨_, rfl, ?_⟩
     refine hK.out _ _ (((HB.out.cell (World.block_lt_of_cell? w _ hw485_0)).trans hw485_0)) (fun hHeld => ?_)
     clear hK K
     refine nor_ ?_
     refine pu_ 9 37 HT_ ?_; refine pu_ 10 38 HT_ ?_; refine pu_ 11 39 HT_ ?_
     refine on_ 12 40 HT_ (fun K hK => ?_)
     refine goe_ Tryz.func147 #[.slice Ao22 t480.length co22, .int .u64 0] ?_
     with_reducible refine (slices_Contains_uint64_uint64.calls k _ _ t480 0 false _ ?side1 ?side2 A11.out).mono ?_
     (case side1 => repeat (exact (Kd.R_reads' HO483.out).2.2))
     (case side2 => exact (Kd.R_reads' HO483.out).2.1)
     rintro e w' ⟨rfl, ⟨nd, rfl⟩⟩
     refine ⟨_, rfl, ?_⟩
     refine hK.out _ _ (((HB.out.cell (World.block_lt_of_cell? w _ hw485_0)).trans hw485_0)) (fun hHeld => ?_)
     clear hK K
     refine nor_ ?_
     refine pu_ 13 41 HT_ ?_; refine pu_ 14 42 HT_ ?_; refine pu_ 15 43 HT_ ?_
     refine done_ (done_of HT_.out (by kernel_rfl)) ?_
     try go_wp2
     go_ret2
     exact ⟨_, by rfl, by exact Kd.R_nil _ _ _ _ _, by repeat ((with_reducible first | exact HB.out | apply pw_below_drewN))⟩
    rw [if_neg c10] at H
    have c10b0 : (t484 == (wrap64 (rd l0 0))) = false := beq_eq_false_iff_ne.mpr c10
    have c10b1 : (t484 != (wrap64 (rd l0 0))) = true := bne_iff_ne.mpr c10
    simp only [Option.some.injEq, Prod.mk.injEq] at H
    obtain ⟨rfl, rfl⟩ := H
    have p477 : 0 ≤ (0 : Int) := (by omega)
    have q477 : 0 < (l0.length : Int) := of_decide_eq_true ‹_›
    obtain ⟨ad477, e477, hx477_0⟩ := Kd.at_int HR0.out 0 p477 q477
    cases e477
    have qi477 : (0 < l0.length) = True := eq_true (by omega)
    (try rw [show ((0 : Int)).toNat = 0 from rfl] at hx477_0)
    (try rw [Addr.add_zero'] at hx477_0)
    replace p477 := eq_true p477
    replace q477 := eq_true q477
    go_enter Tryz.func127, Tryz.ntmps127
    try go_wp2
    have n0_ := Aside0.mk (below_drew1 HB.out)
    clear HB
    have HB := n0_
    clear n0_
    obtain ⟨i024, hi024, _, hsz24, _⟩ := info_parts info5
    obtain ⟨A24, hcut24, hA24, hC24⟩ := print_drop_of (P := Tryz.prog) (Value.int .u8) 0 24 5 .i64 Tryz.underlying24 hi024 hsz24 (some ad477) c0 l0 1 (by omega) (of_decide_eq_true ‹_›) HC0.out
    have HR478 := Aside0.mk (Kd.C_of_reads (h1 := fun _ => rfl) (hA24 _ (Kd.reads_of_C HR0.out)))
    have HC478 := Aside0.mk hC24
    clear hA24 hC24 hi024 hsz24
    have p479 : 0 ≤ (0 : Int) := (by omega)
    have q479 : 0 < (l0.length : Int) := of_decide_eq_true ‹_›
    obtain ⟨ad479, e479, hx479_0⟩ := Kd.at_int HR0.out 0 p479 q479
    have hw479_0 := hx479_0
    (try rw [show ((0 : Int)).toNat = 0 from rfl] at hw479_0)
    (try rw [Addr.add_zero'] at hw479_0)
    obtain rfl : ad477 = ad479 := (by injection e479)
    have qi479 : (0 < l0.length) = True := eq_true (by omega)
    (try rw [show ((0 : Int)).toNat = 0 from rfl] at hx479_0)
    (try rw [Addr.add_zero'] at hx479_0)
    replace hx479_0 := (HB.out.cell (World.block_lt_of_cell? w _ hx479_0)).trans hx479_0
    replace p479 := eq_true p479
    replace q479 := eq_true q479
    refine start_ (n := 13) (S := fun w' => w'.cell? ad477 = some (.int .u8 (rd l0 0))) (ds := []) #[false, false, false, false, false, false, false, false, false, false, false, false, false] (by kernel_rfl) rfl rfl (((HB.out.cell (World.block_lt_of_cell? w _ hw479_0)).trans hw479_0)) (fun hHeld => ?_); refine with_tabW packed_distances.tab5 packed_distances.bits5 (fun HT_ HW_ => ?_)
    generalize w.drew = w23 at HB HR478 hx479_0 hHeld ⊢
    refine pu_ 0 18 HT_ ?_; refine pu_ 1 19 HT_ ?_; refine pu_ 2 20 HT_ ?_; refine pu_ 3 21 HT_ ?_; refine pu_ 6 24 HT_ ?_
    refine take_ (i := 4) (N := some 22) (v := ?_) (a' := ?_) #[true, true, true, true, true, false, true, false, false, false, false, false, false] rfl rfl (take_ofW HT_.out HW_.out (by kernel_rfl)) (fun _ _ _ h => h) (Or.inl ⟨by rfl, ?_⟩) hHeld ?_ ?_
    rotate_left
    ·intro w' s0
     go_simp
     with_reducible rfl
    rotate_left
    ·simp only [Act.put, List.setIfInBounds_toArray, List.set_cons_zero, List.set_cons_succ, i64_w, i32_w]
     rfl
    refine pu_ 5 23 HT_ ?_
    refine on_ 7 25 HT_ (fun K hK => ?_)
    refine goes_ Tryz.func82 (by kernel_rfl) rfl #[.slice A24 (l0.drop 1).length (c0 - 1), .int .i64 (wrap64 (rd l0 0)), .int .i64 a1] (by rfl) rfl rfl (by (try simp only [List.map_toArray, List.map_cons, List.map_nil]); (rw [show (l0.drop 1).length = (l0.length - 1) from List.length_drop] <;> rfl)) ?_
    with_reducible refine (bits_Unpack.calls k _ _ (l0.drop 1) (wrap64 (rd l0 0)) a1 t480 t481 _ ?side1 ?side2 A7.out).mono ?_
    (case side1 => repeat (exact (Kd.C_below HR478.out HB.out)))
    (case side2 => exact HC478.out)
    rintro e w25 ⟨v482, rfl, ho0, hb⟩
    refine ⟨_, rfl, ?_⟩
    have n0_ := Aside0.mk (Kd.R_lower ho0 (below_size HB.out))
    have n1_ := Aside0.mk (below_step HB.out hb)
    clear HB
    have HO483 := n0_
    have HB := n1_
    clear n0_ n1_
    (try clear hb)
    (try clear ho0)
    refine hK.out _ _ (((HB.out.cell (World.block_lt_of_cell? w _ hw479_0)).trans hw479_0)) (fun hHeld => ?_)
    clear hK K
    refine nor_ ?_
    refine pu_ 8 17 HT_ ?_; refine pu_ 9 26 HT_ ?_; refine pu_ 10 27 HT_ ?_; refine pu_ 11 6 HT_ ?_; refine pu_ 12 7 HT_ ?_
    refine done_ (done_of HT_.out (by kernel_rfl)) ?_
    try go_wp2
    have n0_ := Aside0.mk (Kd.R_drew HO483.out)
    have n1_ := Aside0.mk (below_drew1 HB.out)
    clear HO483
    clear HB
    have HO483 := n0_
    have HB := n1_
    clear n0_ n1_
    have p485 : 0 ≤ (0 : Int) := (by omega)
    have q485 : 0 < (l0.length : Int) := of_decide_eq_true ‹_›
    obtain ⟨ad485, e485, hx485_0⟩ := Kd.at_int HR0.out 0 p485 q485
    have hw485_0 := hx485_0
    (try rw [show ((0 : Int)).toNat = 0 from rfl] at hw485_0)
    (try rw [Addr.add_zero'] at hw485_0)
    obtain rfl : ad477 = ad485 := (by injection e485)
    have qi485 : (0 < l0.length) = True := eq_true (by omega)
    (try rw [show ((0 : Int)).toNat = 0 from rfl] at hx485_0)
    (try rw [Addr.add_zero'] at hx485_0)
    replace hx485_0 := (HB.out.cell (World.block_lt_of_cell? w _ hx485_0)).trans hx485_0
    replace p485 := eq_true p485
    replace q485 := eq_true q485
    obtain ⟨Ao27, co27, eo27⟩ := Kd.R_slice HO483.out
    (subst eo27)
    refine start_ (n := 16) (S := fun w' => w'.cell? ad477 = some (.int .u8 (rd l0 0))) (ds := []) #[false, false, false, false, false, false, false, false, false, false, false, false, false, false, false, false] (by kernel_rfl) rfl rfl (((HB.out.cell (World.block_lt_of_cell? w _ hw485_0)).trans hw485_0)) (fun hHeld => ?_); refine with_tabW packed_distances.tab6 packed_distances.bits6 (fun HT_ HW_ => ?_)
    generalize w25.drew = w26 at HO483 HB hx485_0 hHeld ⊢
    refine pu_ 0 28 HT_ ?_; refine pu_ 1 29 HT_ ?_; refine pu_ 2 30 HT_ ?_; refine pu_ 3 31 HT_ ?_; refine pu_ 5 33 HT_ ?_; refine pu_ 6 34 HT_ ?_
    refine take_ (i := 7) (N := some 35) (v := ?_) (a' := ?_) #[true, true, true, true, false, true, true, true, false, false, false, false, false, false, false, false] rfl rfl (take_ofW HT_.out HW_.out (by kernel_rfl)) (fun _ _ _ h => h) (Or.inl ⟨by rfl, ?_⟩) hHeld ?_ ?_
    rotate_left
    ·intro w' s0
     go_simp
     with_reducible rfl
    rotate_left
    ·simp only [Act.put, List.setIfInBounds_toArray, List.set_cons_zero, List.set_cons_succ, i64_w, i32_w]
     rfl
    refine pu_ 8 36 HT_ ?_
    refine on_ 4 32 HT_ (fun K hK => ?_)
    refine goe_ Tryz.func83 #[.slice Ao27 t480.length co27] ?_
    with_reducible refine (bits_Width.calls k _ _ t480 t484 _ ?side1 ?side2 A9.out).mono ?_
    (case side1 => repeat (exact (Kd.R_reads' HO483.out).2.2))
    (case side2 => exact (Kd.R_reads' HO483.out).2.1)
    rintro e w' ⟨rfl, ⟨nd, rfl⟩⟩
    refine ⟨_, rfl, ?_⟩
    refine hK.out _ _ (((HB.out.cell (World.block_lt_of_cell? w _ hw485_0)).trans hw485_0)) (fun hHeld => ?_)
    clear hK K
    refine nor_ ?_
    refine pu_ 9 37 HT_ ?_; refine pu_ 10 38 HT_ ?_
    refine pure_ (i := 11) (N := some 39) (v := undef) (a' := ?_) #[true, true, true, true, true, true, true, true, true, true, true, true, false, false, false, false] rfl rfl (any_of HT_.out (by kernel_rfl)) (fun _ _ _ h => h) (Or.inr ⟨by rfl, rfl⟩) ?_ ?_
    rotate_left
    ·simp only [Act.put, List.setIfInBounds_toArray, List.set_cons_zero, List.set_cons_succ, i64_w, i32_w]
     rfl
    refine pure_ (i := 12) (N := some 40) (v := undef) (a' := ?_) #[true, true, true, true, true, true, true, true, true, true, true, true, true, false, false, false] rfl rfl (any_of HT_.out (by kernel_rfl)) (fun _ _ _ h => h) (Or.inr ⟨by rfl, rfl⟩) ?_ ?_
    rotate_left
    ·simp only [Act.put, List.setIfInBounds_toArray, List.set_cons_zero, List.set_cons_succ, i64_w, i32_w]
     rfl
    refine pure_ (i := 13) (N := some 41) (v := undef) (a' := ?_) #[true, true, true, true, true, true, true, true, true, true, true, true, true, true, false, false] rfl rfl (any_of HT_.out (by kernel_rfl)) (fun _ _ _ h => h) (Or.inr ⟨by rfl, rfl⟩) ?_ ?_
    rotate_left
    ·simp only [Act.put, List.setIfInBounds_toArray, List.set_cons_zero, List.set_cons_succ, i64_w, i32_w]
     rfl
    refine pu_ 14 42 HT_ ?_; refine pu_ 15 43 HT_ ?_
    refine done_ (done_of HT_.out (by kernel_rfl)) ?_
    try go_wp2
    go_ret2
    exact ⟨_, by rfl, by exact Kd.R_nil _ _ _ _ _, by repeat ((with_reducible first | exact HB.out | apply pw_below_drewN))⟩
   rw [if_neg c8] at H
   have c8b0 : (t481 == 0) = false := beq_eq_false_iff_ne.mpr c8
   have c8b1 : (t481 != 0) = true := bne_iff_ne.mpr c8
   simp only [Option.some.injEq, Prod.mk.injEq] at H
   obtain ⟨rfl, rfl⟩ := H
   have p477 : 0 ≤ (0 : Int) := (by omega)
   have q477 : 0 < (l0.length : Int) := of_decide_eq_true ‹_›
   obtain ⟨ad477, e477, hx477_0⟩ := Kd.at_int HR0.out 0 p477 q477
   cases e477
   have qi477 : (0 < l0.length) = True := eq_true (by omega)
   (try rw [show ((0 : Int)).toNat = 0 from rfl] at hx477_0)
   (try rw [Addr.add_zero'] at hx477_0)
   replace p477 := eq_true p477
   replace q477 := eq_true q477
   go_enter Tryz.func127, Tryz.ntmps127
   try go_wp2
   have n0_ := Aside0.mk (below_drew1 HB.out)
   clear HB
   have HB := n0_
   clear n0_
   obtain ⟨i029, hi029, _, hsz29, _⟩ := info_parts info5
   obtain ⟨A29, hcut29, hA29, hC29⟩ := print_drop_of (P := Tryz.prog) (Value.int .u8) 0 24 5 .i64 Tryz.underlying24 hi029 hsz29 (some ad477) c0 l0 1 (by omega) (of_decide_eq_true ‹_›) HC0.out
   have HR478 := Aside0.mk (Kd.C_of_reads (h1 := fun _ => rfl) (hA29 _ (Kd.reads_of_C HR0.out)))
   have HC478 := Aside0.mk hC29
   clear hA29 hC29 hi029 hsz29
   have p479 : 0 ≤ (0 : Int) := (by omega)
   have q479 : 0 < (l0.length : Int) := of_decide_eq_true ‹_›
   obtain ⟨ad479, e479, hx479_0⟩ := Kd.at_int HR0.out 0 p479 q479
   have hw479_0 := hx479_0
   (try rw [show ((0 : Int)).toNat = 0 from rfl] at hw479_0)
   (try rw [Addr.add_zero'] at hw479_0)
   obtain rfl : ad477 = ad479 := (by injection e479)
   have qi479 : (0 < l0.length) = True := eq_true (by omega)
   (try rw [show ((0 : Int)).toNat = 0 from rfl] at hx479_0)
   (try rw [Addr.add_zero'] at hx479_0)
   replace hx479_0 := (HB.out.cell (World.block_lt_of_cell? w _ hx479_0)).trans hx479_0
   replace p479 := eq_true p479
   replace q479 := eq_true q479
   refine start_ (n := 13) (S := fun w' => w'.cell? ad477 = some (.int .u8 (rd l0 0))) (ds := []) #[false, false, false, false, false, false, false, false, false, false, false, false, false] (by kernel_rfl) rfl rfl (((HB.out.cell (World.block_lt_of_cell? w _ hw479_0)).trans hw479_0)) (fun hHeld => ?_); refine with_tabW packed_distances.tab5 packed_distances.bits5 (fun HT_ HW_ => ?_)
   generalize w.drew = w28 at HB HR478 hx479_0 hHeld ⊢
   refine pu_ 0 18 HT_ ?_; refine pu_ 1 19 HT_ ?_; refine pu_ 2 20 HT_ ?_; refine pu_ 3 21 HT_ ?_; refine pu_ 6 24 HT_ ?_
   refine take_ (i := 4) (N := some 22) (v := ?_) (a' := ?_) #[true, true, true, true, true, false, true, false, false, false, false, false, false] rfl rfl (take_ofW HT_.out HW_.out (by kernel_rfl)) (fun _ _ _ h => h) (Or.inl ⟨by rfl, ?_⟩) hHeld ?_ ?_
   rotate_left
   ·intro w' s0
    go_simp
    with_reducible rfl
   rotate_left
   ·simp only [Act.put, List.setIfInBounds_toArray, List.set_cons_zero, List.set_cons_succ, i64_w, i32_w]
    rfl
   refine pu_ 5 23 HT_ ?_
   refine on_ 7 25 HT_ (fun K hK => ?_)
   refine goes_ Tryz.func82 (by kernel_rfl) rfl #[.slice A29 (l0.drop 1).length (c0 - 1), .int .i64 (wrap64 (rd l0 0)), .int .i64 a1] (by rfl) rfl rfl (by (try simp only [List.map_toArray, List.map_cons, List.map_nil]); (rw [show (l0.drop 1).length = (l0.length - 1) from List.length_drop] <;> rfl)) ?_
   with_reducible refine (bits_Unpack.calls k _ _ (l0.drop 1) (wrap64 (rd l0 0)) a1 t480 t481 _ ?side1 ?side2 A7.out).mono ?_
   (case side1 => repeat (exact (Kd.C_below HR478.out HB.out)))
   (case side2 => exact HC478.out)
   rintro e w30 ⟨v482, rfl, ho0, hb⟩
   refine ⟨_, rfl, ?_⟩
   have n0_ := Aside0.mk (Kd.R_lower ho0 (below_size HB.out))
   have n1_ := Aside0.mk (below_step HB.out hb)
   clear HB
   have HO483 := n0_
   have HB := n1_
   clear n0_ n1_
   (try clear hb)
   (try clear ho0)
   refine hK.out _ _ (((HB.out.cell (World.block_lt_of_cell? w _ hw479_0)).trans hw479_0)) (fun hHeld => ?_)
   clear hK K
   refine nor_ ?_
   refine pu_ 8 17 HT_ ?_; refine pu_ 9 26 HT_ ?_; refine pu_ 10 27 HT_ ?_; refine pu_ 11 6 HT_ ?_; refine pu_ 12 7 HT_ ?_
   refine done_ (done_of HT_.out (by kernel_rfl)) ?_
   try go_wp2
   have n0_ := Aside0.mk (Kd.R_drew HO483.out)
   have n1_ := Aside0.mk (below_drew1 HB.out)
   clear HO483
   clear HB
   have HO483 := n0_
   have HB := n1_
   clear n0_ n1_
   refine start_ (n := 16) (S := fun w' => True) (ds := []) #[false, false, false, false, false, false, false, false, false, false, false, false, false, false, false, false] (by kernel_rfl) rfl rfl trivial (fun hHeld => ?_); refine with_tabW packed_distances.tab6 packed_distances.bits6 (fun HT_ HW_ => ?_)
   generalize w30.drew = w31 at HO483 HB hHeld ⊢
   refine pu_ 0 28 HT_ ?_; refine pu_ 1 29 HT_ ?_; refine pu_ 2 30 HT_ ?_
   refine pure_ (i := 3) (N := some 31) (v := undef) (a' := ?_) #[true, true, true, true, false, false, false, false, false, false, false, false, false, false, false, false] rfl rfl (any_of HT_.out (by kernel_rfl)) (fun _ _ _ h => h) (Or.inr ⟨by rfl, rfl⟩) ?_ ?_
   rotate_left
   ·simp only [Act.put, List.setIfInBounds_toArray, List.set_cons_zero, List.set_cons_succ, i64_w, i32_w]
    rfl
   refine pure_ (i := 4) (N := some 32) (v := undef) (a' := ?_) #[true, true, true, true, true, false, false, false, false, false, false, false, false, false, false, false] rfl rfl (any_of HT_.out (by kernel_rfl)) (fun _ _ _ h => h) (Or.inr ⟨by rfl, rfl⟩) ?_ ?_
   rotate_left
   ·simp only [Act.put, List.setIfInBounds_toArray, List.set_cons_zero, List.set_cons_succ, i64_w, i32_w]
    rfl
   refine pure_ (i := 5) (N := some 33) (v := undef) (a' := ?_) #[true, true, true, true, true, true, false, false, false, false, false, false, false, false, false, false] rfl rfl (any_of HT_.out (by kernel_rfl)) (fun _ _ _ h => h) (Or.inr ⟨by rfl, rfl⟩) ?_ ?_
   rotate_left
   ·simp only [Act.put, List.setIfInBounds_toArray, List.set_cons_zero, List.set_cons_succ, i64_w, i32_w]
    rfl
   refine pure_ (i := 6) (N := some 34) (v := undef) (a' := ?_) #[true, true, true, true, true, true, true, false, false, false, false, false, false, false, false, false] rfl rfl (any_of HT_.out (by kernel_rfl)) (fun _ _ _ h => h) (Or.inr ⟨by rfl, rfl⟩) ?_ ?_
   rotate_left
   ·simp only [Act.put, List.setIfInBounds_toArray, List.set_cons_zero, List.set_cons_succ, i64_w, i32_w]
    rfl
   refine pure_ (i := 7) (N := some 35) (v := undef) (a' := ?_) #[true, true, true, true, true, true, true, true, false, false, false, false, false, false, false, false] rfl rfl (any_of HT_.out (by kernel_rfl)) (fun _ _ _ h => h) (Or.inr ⟨by rfl, rfl⟩) ?_ ?_
   rotate_left
   ·simp only [Act.put, List.setIfInBounds_toArray, List.set_cons_zero, List.set_cons_succ, i64_w, i32_w]
    rfl
   refine pure_ (i := 8) (N := some 36) (v := undef) (a' := ?_) #[true, true, true, true, true, true, true, true, true, false, false, false, false, false, false, false] rfl rfl (any_of HT_.out (by kernel_rfl)) (fun _ _ _ h => h) (Or.inr ⟨by rfl, rfl⟩) ?_ ?_
   rotate_left
   ·simp only [Act.put, List.setIfInBounds_toArray, List.set_cons_zero, List.set_cons_succ, i64_w, i32_w]
    rfl
   refine pure_ (i := 9) (N := some 37) (v := undef) (a' := ?_) #[true, true, true, true, true, true, true, true, true, true, false, false, false, false, false, false] rfl rfl (any_of HT_.out (by kernel_rfl)) (fun _ _ _ h => h) (Or.inr ⟨by rfl, rfl⟩) ?_ ?_
   rotate_left
   ·simp only [Act.put, List.setIfInBounds_toArray, List.set_cons_zero, List.set_cons_succ, i64_w, i32_w]
    rfl
   refine pure_ (i := 10) (N := some 38) (v := undef) (a' := ?_) #[true, true, true, true, true, true, true, true, true, true, true, false, false, false, false, false] rfl rfl (any_of HT_.out (by kernel_rfl)) (fun _ _ _ h => h) (Or.inr ⟨by rfl, rfl⟩) ?_ ?_
   rotate_left
   ·simp only [Act.put, List.setIfInBounds_toArray, List.set_cons_zero, List.set_cons_succ, i64_w, i32_w]
    rfl
   refine pure_ (i := 11) (N := some 39) (v := undef) (a' := ?_) #[true, true, true, true, true, true, true, true, true, true, true, true, false, false, false, false] rfl rfl (any_of HT_.out (by kernel_rfl)) (fun _ _ _ h => h) (Or.inr ⟨by rfl, rfl⟩) ?_ ?_
   rotate_left
   ·simp only [Act.put, List.setIfInBounds_toArray, List.set_cons_zero, List.set_cons_succ, i64_w, i32_w]
    rfl
   refine pure_ (i := 12) (N := some 40) (v := undef) (a' := ?_) #[true, true, true, true, true, true, true, true, true, true, true, true, true, false, false, false] rfl rfl (any_of HT_.out (by kernel_rfl)) (fun _ _ _ h => h) (Or.inr ⟨by rfl, rfl⟩) ?_ ?_
   rotate_left
   ·simp only [Act.put, List.setIfInBounds_toArray, List.set_cons_zero, List.set_cons_succ, i64_w, i32_w]
    rfl
   refine pure_ (i := 13) (N := some 41) (v := undef) (a' := ?_) #[true, true, true, true, true, true, true, true, true, true, true, true, true, true, false, false] rfl rfl (any_of HT_.out (by kernel_rfl)) (fun _ _ _ h => h) (Or.inr ⟨by rfl, rfl⟩) ?_ ?_
   rotate_left
   ·simp only [Act.put, List.setIfInBounds_toArray, List.set_cons_zero, List.set_cons_succ, i64_w, i32_w]
    rfl
   refine pure_ (i := 14) (N := some 42) (v := undef) (a' := ?_) #[true, true, true, true, true, true, true, true, true, true, true, true, true, true, true, false] rfl rfl (any_of HT_.out (by kernel_rfl)) (fun _ _ _ h => h) (Or.inr ⟨by rfl, rfl⟩) ?_ ?_
   rotate_left
   ·simp only [Act.put, List.setIfInBounds_toArray, List.set_cons_zero, List.set_cons_succ, i64_w, i32_w]
    rfl
   refine pu_ 15 43 HT_ ?_
   refine done_ (done_of HT_.out (by kernel_rfl)) ?_
   try go_wp2
   go_ret2
   exact ⟨_, by rfl, by (with_reducible repeat (apply Kd.R_alloc)); exact HO483.out, by exact HB.out⟩
  rw [if_neg c6] at H
  exact absurd H (by simp)
 rw [if_neg c4] at H
 exact absurd H (by simp)
mutual
def packed_Decode.j0 : Nat → List Int → Int → Int → Bool → Option (List Int × Int)
 | 0, _, _, _, _ => none
 | k + 1, x0, x4, x5, x26 => if x26 = true then (some (([] : List Int), 3)) else (if x4 = 0 then (some (([] : List Int), 0)) else ((vint_Get.f k x0 x5).bind fun bt490 => (if bt490.2.2 = 0 then (if 0 ≤ bt490.2.1 then (if bt490.2.1 ≤ (x0.length : Int) then ((packed_distances.f k (x0.drop (bt490.2.1 : Int).toNat) (wrap64 (x4))).bind fun bt494 => (if bt494.2 = 0 then ((bits_Unfold.f bt490.1).bind fun t498 => (if 0 ≤ x4 then (if (x4 : Int).toNat ≤ 35184372088832 then (packed_Decode.l0 k t498 (List.replicate (x4 : Int).toNat 0) bt494.1 (bt494.1.length : Int) 0) else (none)) else (none))) else (some (([] : List Int), bt494.2)))) else (none)) else (none)) else (some (([] : List Int), bt490.2.2)))))
def packed_Decode.l0 : Nat → Int → List Int → List Int → Int → Int → Option (List Int × Int)
 | 0, _, _, _, _, _ => none
 | k + 1, x9, x10, x64, x65, x66 => if x66 < x65 then (if 0 ≤ x66 then (if x66 < (x64.length : Int) then (if (rd x64 x66) > (IntKind.u64.wrap (9223372036854775807 - (IntKind.u64.wrap (x9)))) then (some (([] : List Int), 5)) else (if x66 < (x10.length : Int) then (packed_Decode.l0 k x9 (x10.set (x66 : Int).toNat (wrap64 (IntKind.u64.wrap ((IntKind.u64.wrap (x9)) + (rd x64 x66))))) x64 x65 (wrap64 (x66 + 1))) else (none))) else (none)) else (none)) else (some (x10, 0))
end
def packed_Decode.f (k : Nat) (l0 : List Int) : Option (List Int × Int) := (vint_Get.f k l0 0).bind fun bt487 => (if bt487.2.2 = 0 then (if bt487.1 > 4096 then (some (([] : List Int), 4)) else (if bt487.1 = 0 then (packed_Decode.j0 k l0 bt487.1 bt487.2.1 (decide (bt487.2.1 < (l0.length : Int)))) else (packed_Decode.j0 k l0 bt487.1 bt487.2.1 false))) else (some (([] : List Int), bt487.2.2)))
set_option maxHeartbeats 8000000 in
set_option maxRecDepth 100000 in
theorem packed_Decode.calls (k : Nat) (A0 : Option Addr) (c0 : Nat) (l0 : List Int) (r1 : List Int) (r2 : Int) (w : World) (hr0 : Kd.C (Kd.int .u8) w A0 l0.length l0) (hc0 : l0.length ≤ c0) (h : packed_Decode.f k l0 = some (r1, r2)) :
 Calls Tryz.prog 87 #[.slice A0 l0.length c0] w fun e w' => ∃ v0_ : Value, e = .returned (.tuple #[v0_, .int .i64 r2]) ∧ Kd.R (Kd.int .i64) 2 w' w.heap.size (fun _ => True) v0_ r1 ∧ Below w.heap.size w w' := by
 have HR0 := Aside0.mk hr0
 have HC0 := Aside0.mk hc0
 clear hr0 hc0
 have HB := Aside0.mk (Below.refl w.heap.size w)
 unfold packed_Decode.f at h
 have H := h
 clear h
 replace H := Option.bind_eq_some_iff.mp H
 obtain ⟨⟨t487, t488, t489⟩, A20, H⟩ := H
 (try dsimp only at H)
 have A2 := Aside0.mk A20
 clear A20
 by_cases c3 : t489 = 0
 ·rw [if_pos c3] at H
  have c3b0 : (t489 == 0) = true := beq_iff_eq.mpr c3
  have c3b1 : (t489 != 0) = false := bne_eq_false_iff_eq.mpr c3
  clear c3
  by_cases c4 : t487 > 4096
  ·rw [if_pos c4] at H
   have c4b0 : decide (4096 < t487) = true := decide_eq_true c4
   clear c4
   simp only [Option.some.injEq, Prod.mk.injEq] at H
   obtain ⟨rfl, rfl⟩ := H
   go_enter Tryz.func87, Tryz.ntmps87
   go_wp2_with ((refine goesL_ (some 15) rfl rfl Tryz.func45 (by kernel_rfl) rfl #[.slice A0 l0.length c0, .int .i64 0] rfl (by (try simp only [List.map_toArray, List.map_cons, List.map_nil]); rfl) ?_; (with_reducible refine (vint_Get.calls k _ _ l0 0 t487 t488 t489 _ (HR0.out) (HC0.out) A2.out).mono ?_); rintro e w' ⟨rfl, ⟨nd, rfl⟩⟩; refine ⟨_, rfl, ?_⟩))
   go_ret2
   exact ⟨_, by rfl, by exact Kd.R_nil _ _ _ _ _, by repeat ((with_reducible first | exact HB.out | apply pw_below_drewN))⟩
  rw [if_neg c4] at H
  have c4b0 : decide (4096 < t487) = false := decide_eq_false c4
  clear c4
  have HC5 := Aside0.mk H
  clear H
  go_enter Tryz.func87, Tryz.ntmps87
  go_upto_region 6 with (((with_reducible refine gate_callee (f := 45) rfl ?_); refine goesL_ (some 15) rfl rfl Tryz.func45 (by kernel_rfl) rfl #[.slice A0 l0.length c0, .int .i64 0] rfl (by (try simp only [List.map_toArray, List.map_cons, List.map_nil]); rfl) ?_; (with_reducible refine (vint_Get.calls k _ _ l0 0 t487 t488 t489 _ (HR0.out) (HC0.out) A2.out).mono ?_); rintro e w' ⟨rfl, ⟨nd, rfl⟩⟩; refine ⟨_, rfl, ?_⟩))
  go_cut [26] (fun v26 wc => ∃ (kq : Nat) (x26_4 : Bool), v26 = .bool x26_4 ∧ Aside0 (packed_Decode.j0 kq l0 t487 t488 x26_4 = some (r1, r2)) ∧ Aside0 (kq ≤ k) ∧ Aside0 (Below w.heap.size w wc))
  case first =>
   have H := HC5.out
   clear HC5
   by_cases c6 : t487 = 0
   ·rw [if_pos c6] at H
    have c6b0 : (t487 == 0) = true := beq_iff_eq.mpr c6
    have c6b1 : (t487 != 0) = false := bne_eq_false_iff_eq.mpr c6
    clear c6
    have H' := Aside0.mk H
    clear H
    go_wp2
    go_meet
    case rel => exact ⟨_, (decide (t488 < (l0.length : Int))), (by rfl), H', ⟨by omega⟩, ⟨by repeat ((with_reducible first | exact HB.out | apply pw_below_drewN))⟩⟩
   rw [if_neg c6] at H
   have c6b0 : (t487 == 0) = false := beq_eq_false_iff_ne.mpr c6
   have c6b1 : (t487 != 0) = true := bne_iff_ne.mpr c6
   have H' := Aside0.mk H
   clear H
   go_wp2
   go_meet
   case rel => exact ⟨_, (false), (by rfl), H', ⟨by omega⟩, ⟨by repeat ((with_reducible first | exact HB.out | apply pw_below_drewN))⟩⟩
  case rest =>
   clear HC5
   try clear c3b0
   try clear c3b1
   try clear c4b0
   obtain ⟨kq, x26_4, rfl, HA, HJ4, HB⟩ := hcut
   cases kq with
   | zero => exact absurd HA.out (by simp [packed_Decode.j0])
   | succ kj4 =>
    have H := HA.out
    clear HA
    simp only [packed_Decode.j0] at H
    by_cases c7 : x26_4 = true
    ·subst c7
     have H1 : (some (([] : List Int), 3)) = some (r1, r2) := by rw [if_pos rfl] at H; exact H
     clear H
     have H := H1
     clear H1
     simp only [Option.some.injEq, Prod.mk.injEq] at H
     obtain ⟨rfl, rfl⟩ := H
     go_wp2
     go_ret2
     exact ⟨_, by rfl, by exact Kd.R_nil _ _ _ _ _, by exact HB.out⟩
    replace c7 := Bool.eq_false_iff.mpr c7
    subst c7
    have H1 : (if t487 = 0 then (some (([] : List Int), 0)) else ((vint_Get.f kj4 l0 t488).bind fun bt490 => (if bt490.2.2 = 0 then (if 0 ≤ bt490.2.1 then (if bt490.2.1 ≤ (l0.length : Int) then ((packed_distances.f kj4 (l0.drop (bt490.2.1 : Int).toNat) (wrap64 (t487))).bind fun bt494 => (if bt494.2 = 0 then ((bits_Unfold.f bt490.1).bind fun t498 => (if 0 ≤ t487 then (if (t487 : Int).toNat ≤ 35184372088832 then (packed_Decode.l0 kj4 t498 (List.replicate (t487 : Int).toNat 0) bt494.1 (bt494.1.length : Int) 0) else (none)) else (none))) else (some (([] : List Int), bt494.2)))) else (none)) else (none)) else (some (([] : List Int), bt490.2.2))))) = some (r1, r2) := by rw [if_neg (show ¬ (false = true) by decide)] at H; exact H
    clear H
    have H := H1
    clear H1
    by_cases c8 : t487 = 0
    ·rw [if_pos c8] at H
     have c8b0 : (t487 == 0) = true := beq_iff_eq.mpr c8
     have c8b1 : (t487 != 0) = false := bne_eq_false_iff_eq.mpr c8
     clear c8
     simp only [Option.some.injEq, Prod.mk.injEq] at H
     obtain ⟨rfl, rfl⟩ := H
     go_wp2
     go_ret2
     exact ⟨_, by rfl, by exact Kd.R_nil _ _ _ _ _, by exact HB.out⟩
    rw [if_neg c8] at H
    have c8b0 : (t487 == 0) = false := beq_eq_false_iff_ne.mpr c8
    have c8b1 : (t487 != 0) = true := bne_iff_ne.mpr c8
    replace H := Option.bind_eq_some_iff.mp H
    obtain ⟨⟨t490, t491, t492⟩, A90, H⟩ := H
    (try dsimp only at H)
    have A9 := Aside0.mk A90
    clear A90
    by_cases c10 : t492 = 0
    ·rw [if_pos c10] at H
     have c10b0 : (t492 == 0) = true := beq_iff_eq.mpr c10
     have c10b1 : (t492 != 0) = false := bne_eq_false_iff_eq.mpr c10
     clear c10
     by_cases c11 : 0 ≤ t491
     ·rw [if_pos c11] at H
      have c11b0 := eq_true c11
      have c11b1 : decide (0 ≤ t491) = true := decide_eq_true c11
      clear c11
      by_cases c12 : t491 ≤ (l0.length : Int)
      ·rw [if_pos c12] at H
       have c12b0 := eq_true c12
       have c12b1 : decide (t491 ≤ (l0.length : Int)) = true := decide_eq_true c12
       clear c12
       replace H := Option.bind_eq_some_iff.mp H
       obtain ⟨⟨t494, t495⟩, A130, H⟩ := H
       (try dsimp only at H)
       have A13 := Aside0.mk A130
       clear A130
       by_cases c14 : t495 = 0
       ·rw [if_pos c14] at H
        have c14b0 : (t495 == 0) = true := beq_iff_eq.mpr c14
        have c14b1 : (t495 != 0) = false := bne_eq_false_iff_eq.mpr c14
        clear c14
        replace H := Option.bind_eq_some_iff.mp H
        obtain ⟨t498, A150, H⟩ := H
        (try dsimp only at H)
        have A15 := Aside0.mk A150
        clear A150
        by_cases c16 : 0 ≤ t487
        ·rw [if_pos c16] at H
         have c16b0 := eq_true c16
         have c16b1 : decide (0 ≤ t487) = true := decide_eq_true c16
         clear c16
         by_cases c17 : (t487 : Int).toNat ≤ 35184372088832
         ·rw [if_pos c17] at H
          have c17b0 := eq_true c17
          have c17b1 : decide ((t487 : Int).toNat ≤ 35184372088832) = true := decide_eq_true c17
          clear c17
          obtain ⟨y499, hy499⟩ : ∃ y_ : List Int, y_ = (List.replicate (t487 : Int).toNat 0) := ⟨_, rfl⟩
          replace H : (packed_Decode.l0 kj4 t498 y499 t494 (t494.length : Int) 0) = some (r1, r2) := by (rw [hy499]; with_reducible exact H)
          have Ny499 := Aside0.mk hy499
          clear hy499
          have H' := Aside0.mk H
          clear H
          go_wp2_with (first | ((with_reducible refine gate_callee (f := 45) rfl ?_); refine goesL_ (some 41) rfl rfl Tryz.func45 (by kernel_rfl) rfl #[.slice A0 l0.length c0, .int .i64 t488] rfl (by (try simp only [List.map_toArray, List.map_cons, List.map_nil]); rfl) ?_; (with_reducible refine (vint_Get.calls kj4 _ _ l0 t488 t490 t491 t492 _ (Kd.C_below HR0.out HB.out) (HC0.out) A9.out).mono ?_); rintro e w' ⟨rfl, ⟨nd, rfl⟩⟩; refine ⟨_, rfl, ?_⟩; obtain ⟨i018, hi018, _, hsz18, _⟩ := info_parts info5; obtain ⟨A18, hcut18, hA18, hC18⟩ := print_drop_of (P := Tryz.prog) (Value.int .u8) 0 24 5 .i64 Tryz.underlying24 hi018 hsz18 A0 c0 l0 t491 (of_decide_eq_true ‹_›) (of_decide_eq_true ‹_›) HC0.out; have HR493 := Aside0.mk (Kd.C_of_reads (h1 := fun _ => rfl) (hA18 _ (Kd.reads_of_C HR0.out))); have HC493 := Aside0.mk hC18; clear hA18 hC18 hi018 hsz18) | ((with_reducible refine gate_callee (f := 127) rfl ?_); refine goesL_ (some 54) rfl rfl Tryz.func127 (by kernel_rfl) rfl #[.slice A18 (l0.drop (t491 : Int).toNat).length (c0 - t491.toNat), .int .i64 (wrap64 (t487))] rfl (by (try simp only [List.map_toArray, List.map_cons, List.map_nil]); (rw [show (l0.drop (t491 : Int).toNat).length = (l0.length - t491.toNat) from List.length_drop] <;> rfl)) ?_; (with_reducible refine (packed_distances.calls kj4 _ _ (l0.drop (t491 : Int).toNat) (wrap64 (t487)) t494 t495 _ ?side1 ?side2 A13.out).mono ?_); (case side1 => repeat ((exact (Kd.C_below HR493.out (by repeat ((with_reducible first | exact HB.out | apply pw_below_drewN))))))); (case side2 => exact HC493.out); rintro e w19 ⟨v496, rfl, ho0, hb⟩; refine ⟨_, rfl, ?_⟩; have n0_ := Aside0.mk (Kd.R_lower ho0 (below_size (by repeat ((with_reducible first | exact HB.out | apply pw_below_drewN))))); have n1_ := Aside0.mk (below_step (by repeat ((with_reducible first | exact HB.out | apply pw_below_drewN))) hb); revert n0_ n1_; clear HB; intro HO497 HB; (try clear hb); (try clear ho0)) | ((with_reducible refine gate_callee (f := 125) rfl ?_); refine goesL_ (some 61) rfl rfl Tryz.func125 (by kernel_rfl) rfl #[.int .u64 t490] rfl (by (try simp only [List.map_toArray, List.map_cons, List.map_nil]); rfl) ?_; (with_reducible refine (bits_Unfold.calls t490 t498 _ A15.out).mono ?_); rintro e w' ⟨rfl, ⟨nd, rfl⟩⟩; refine ⟨_, rfl, ?_⟩) | ((with_reducible refine gate_dst (N := 63) rfl ?_); (try (refine gate_guard (by rfl) ?_; dsimp only)); refine Kd.R_makeK (Kd.int .i64) _ 2 rfl (N := 63) rfl 114 _ _ rfl t487 rfl rfl Tryz.underlying114 (.int .i64 0) 8 info2 rfl (by decide) (by omega) 0 (ok := fun _ => True) (okp := fun _ => True) rfl (fun _ hk => hk) trivial (of_decide_eq_true ‹_›) (Nat.le_trans (Nat.mul_le_mul_right _ (of_decide_eq_true ‹_› : t487.toNat ≤ 35184372088832)) (by omega)) (Below.refl _ _) (Nat.le_refl _) ?_; intro v500 w20 ho21 hb hg_ hnew_; clear hg_ hnew_; (rw [← Ny499.out] at ho21); have n0_ := Aside0.mk (Kd.R_below (by (with_reducible repeat (apply Kd.R_drewN)); exact HO497.out) hb); have n1_ := Aside0.mk (Kd.R_lower ho21 (below_size (by repeat ((with_reducible first | exact HB.out | apply pw_below_drewN))))); have n2_ := Aside0.mk (below_step (by repeat ((with_reducible first | exact HB.out | apply pw_below_drewN))) hb); revert n0_ n1_ n2_; clear HO497 HB; intro HO497 HO501 HB; clear hb ho21; obtain ⟨Ao22, co22, eo22⟩ := Kd.R_slice HO497.out; subst eo22))
          go_loopg [66] kj4 (fun kq v66 w' => ∃ (x10_2 : List Int) (x66_2 : Int), v66 = .int .i64 x66_2 ∧ Aside0 (packed_Decode.l0 kq t498 x10_2 t494 (t494.length : Int) x66_2 = some (r1, r2)) ∧ Aside0 (kq ≤ kj4) ∧ Aside0 (Kd.R (Kd.int .i64) 2 w' w.heap.size (fun _ => True) v500 x10_2) ∧ Aside0 (Kd.R (Kd.int .u64) 69 w' w.heap.size (fun _ => True) (.slice Ao22 t494.length co22) t494) ∧ Aside0 (Below w.heap.size w w'))
          case atStart => exact ⟨(y499), (0), (by rfl), H', ⟨Nat.le_refl _⟩, ⟨by (with_reducible repeat (apply Kd.R_alloc)); exact HO501.out⟩, ⟨by (with_reducible repeat (apply Kd.R_alloc)); exact HO497.out⟩, ⟨by exact HB.out⟩⟩
          case round =>
           clear H'
           try clear c8
           try clear c8b0
           try clear c8b1
           try clear c10b0
           try clear c10b1
           try clear c11b0
           try clear c11b1
           try clear c12b0
           try clear c12b1
           try clear c14b0
           try clear c14b1
           try clear c16b0
           try clear c16b1
           try clear c17b0
           try clear c17b1
           obtain ⟨x10_2, x66_2, rfl, HA, HK2, HO_10, HO_64, HB⟩ := hrel
           cases gk with
           | zero => exact absurd HA.out (by simp [packed_Decode.l0])
           | succ k2 =>
            have H := HA.out
            clear HA
            simp only [packed_Decode.l0] at H
            by_cases c23 : x66_2 < (t494.length : Int)
            ·rw [if_pos c23] at H
             have c23b0 : decide (x66_2 < (t494.length : Int)) = true := decide_eq_true c23
             clear c23
             by_cases c24 : 0 ≤ x66_2
             ·rw [if_pos c24] at H
              have c24b0 : decide (0 ≤ x66_2) = true := decide_eq_true c24
              clear c24
              by_cases c25 : x66_2 < (t494.length : Int)
              ·rw [if_pos c25] at H
               have c25b0 : decide (x66_2 < (t494.length : Int)) = true := decide_eq_true c25
               clear c25
               by_cases c26 : (rd t494 x66_2) > (IntKind.u64.wrap (9223372036854775807 - (IntKind.u64.wrap (t498))))
               ·rw [if_pos c26] at H
                have c26b0 : decide ((IntKind.u64.wrap (9223372036854775807 - (IntKind.u64.wrap (t498)))) < (rd t494 x66_2)) = true := decide_eq_true c26
                clear c26
                simp only [Option.some.injEq, Prod.mk.injEq] at H
                obtain ⟨rfl, rfl⟩ := H
                have p502 : 0 ≤ (x66_2 : Int) := of_decide_eq_true ‹_›
                have q502 : x66_2 < (t494.length : Int) := of_decide_eq_true ‹_›
                obtain ⟨ad502, e502, hx502_0⟩ := Kd.at_int (Kd.R_reads' HO_64.out).2.2 x66_2 p502 q502
                cases e502
                replace p502 := eq_true p502
                replace q502 := eq_true q502
                go_wp2
                go_ret2
                exact ⟨_, by rfl, by exact Kd.R_nil _ _ _ _ _, by exact HB.out⟩
               rw [if_neg c26] at H
               have c26b0 : decide ((IntKind.u64.wrap (9223372036854775807 - (IntKind.u64.wrap (t498)))) < (rd t494 x66_2)) = false := decide_eq_false c26
               clear c26
               by_cases c27 : x66_2 < (x10_2.length : Int)
               ·rw [if_pos c27] at H
                have c27b0 : decide (x66_2 < (x10_2.length : Int)) = true := decide_eq_true c27
                clear c27
                obtain ⟨y503, hy503⟩ : ∃ y_ : List Int, y_ = (x10_2.set (x66_2 : Int).toNat (wrap64 (IntKind.u64.wrap ((IntKind.u64.wrap (t498)) + (rd t494 x66_2))))) := ⟨_, rfl⟩
                replace H : (packed_Decode.l0 k2 t498 y503 t494 (t494.length : Int) (wrap64 (x66_2 + 1))) = some (r1, r2) := by (rw [hy503]; with_reducible exact H)
                have Ny503 := Aside0.mk hy503
                clear hy503
                have H' := Aside0.mk H
                clear H
                have p502 : 0 ≤ (x66_2 : Int) := of_decide_eq_true ‹_›
                have q502 : x66_2 < (t494.length : Int) := of_decide_eq_true ‹_›
                obtain ⟨ad502, e502, hx502_0⟩ := Kd.at_int (Kd.R_reads' HO_64.out).2.2 x66_2 p502 q502
                cases e502
                replace p502 := eq_true p502
                replace q502 := eq_true q502
                have p28 : 0 ≤ (x66_2 : Int) := of_decide_eq_true ‹_›
                have q28 : (x66_2 : Int) < ((x10_2.length : Int) : Int) := of_decide_eq_true ‹_›
                obtain ⟨go28, co28, eo28, gb28, gl28, cl28, HG28⟩ := Kd.R_form HO_10.out (by omega)
                (cases eo28)
                have GB28 := Aside0.mk gb28
                have GG28 := Aside0.mk HG28
                clear gb28 gl28 HG28
                obtain ⟨hx28_0, hf28_0⟩ := Kd.R_celln 0 HO_10.out (x66_2 : Int) p28 q28
                replace p28 := eq_true p28
                replace q28 := eq_true q28
                have HP29 := Kd.R_putg HO_10.out (x66_2 : Int) (wrap64 (IntKind.u64.wrap ((IntKind.u64.wrap (t498)) + (rd t494 x66_2))))
                go_wp2_with ((refine store_event (t := 2) (p := 83) (v := ?vo_w30) (w1 := (wr.setCell ⟨go28, (x66_2 : Int).toNat, none⟩ (.int .i64 (wrap64 (IntKind.u64.wrap ((IntKind.u64.wrap (t498)) + (rd t494 x66_2))))))) ?hg ?ho ?hn ?hr ?_; (case ho => rfl); (case hg => rfl); (case hn => rfl); (case hr => (go_simp; done)); intro w30 hw; have hg : wr.grownBy w30 (some go28) := (by rw [hw]; exact HP29.2); have hp_ : Kd.R (Kd.int .i64) 2 w30 w.heap.size (fun _ => True) (.slice (some ⟨go28, 0, none⟩) x10_2.length co28) y503 := (by rw [hw, Ny503.out]; exact HP29.1); clear HP29; have n0_ := Aside0.mk (hp_); have n1_ := Aside0.mk (Kd.R_over' (v := (.slice (some ⟨go28, 0, none⟩) x10_2.length co28)) HO_64.out (Kd.R_typed HO_10.out) (by decide) hg); have n2_ := Aside0.mk ((by rw [hw]; exact below_set (HB.out) GB28.out : Below w.heap.size w w30)); revert n0_ n1_ n2_; clear HO_10 HO_64 HB; intro HO_10 HO_64 HB; clear hg hw hp_))
                go_roundg k2
                case measure => have := HJ4.out; have := HK2.out; omega
                case rel => exact ⟨(y503), (wrap64 (x66_2 + 1)), (by rfl), H', ⟨by have := HJ4.out; have := HK2.out; omega⟩, ⟨by (with_reducible repeat (apply Kd.R_alloc)); exact HO_10.out⟩, ⟨by (with_reducible repeat (apply Kd.R_alloc)); exact HO_64.out⟩, ⟨by exact HB.out⟩⟩
               rw [if_neg c27] at H
               exact absurd H (by simp)
              rw [if_neg c25] at H
              exact absurd H (by simp)
             rw [if_neg c24] at H
             exact absurd H (by simp)
            rw [if_neg c23] at H
            have c23b0 : decide (x66_2 < (t494.length : Int)) = false := decide_eq_false c23
            clear c23
            simp only [Option.some.injEq, Prod.mk.injEq] at H
            obtain ⟨rfl, rfl⟩ := H
            go_wp2
            go_ret2
            exact ⟨_, by rfl, by (with_reducible repeat (apply Kd.R_alloc)); exact HO_10.out, by exact HB.out⟩
         rw [if_neg c17] at H
         exact absurd H (by simp)
        rw [if_neg c16] at H
        exact absurd H (by simp)
       rw [if_neg c14] at H
       have c14b0 : (t495 == 0) = false := beq_eq_false_iff_ne.mpr c14
       have c14b1 : (t495 != 0) = true := bne_iff_ne.mpr c14
       simp only [Option.some.injEq, Prod.mk.injEq] at H
       obtain ⟨rfl, rfl⟩ := H
       go_wp2_with (first | ((with_reducible refine gate_callee (f := 45) rfl ?_); refine goesL_ (some 41) rfl rfl Tryz.func45 (by kernel_rfl) rfl #[.slice A0 l0.length c0, .int .i64 t488] rfl (by (try simp only [List.map_toArray, List.map_cons, List.map_nil]); rfl) ?_; (with_reducible refine (vint_Get.calls kj4 _ _ l0 t488 t490 t491 t492 _ (Kd.C_below HR0.out HB.out) (HC0.out) A9.out).mono ?_); rintro e w' ⟨rfl, ⟨nd, rfl⟩⟩; refine ⟨_, rfl, ?_⟩; obtain ⟨i031, hi031, _, hsz31, _⟩ := info_parts info5; obtain ⟨A31, hcut31, hA31, hC31⟩ := print_drop_of (P := Tryz.prog) (Value.int .u8) 0 24 5 .i64 Tryz.underlying24 hi031 hsz31 A0 c0 l0 t491 (of_decide_eq_true ‹_›) (of_decide_eq_true ‹_›) HC0.out; have HR493 := Aside0.mk (Kd.C_of_reads (h1 := fun _ => rfl) (hA31 _ (Kd.reads_of_C HR0.out))); have HC493 := Aside0.mk hC31; clear hA31 hC31 hi031 hsz31) | ((with_reducible refine gate_callee (f := 127) rfl ?_); refine goesL_ (some 54) rfl rfl Tryz.func127 (by kernel_rfl) rfl #[.slice A31 (l0.drop (t491 : Int).toNat).length (c0 - t491.toNat), .int .i64 (wrap64 (t487))] rfl (by (try simp only [List.map_toArray, List.map_cons, List.map_nil]); (rw [show (l0.drop (t491 : Int).toNat).length = (l0.length - t491.toNat) from List.length_drop] <;> rfl)) ?_; (with_reducible refine (packed_distances.calls kj4 _ _ (l0.drop (t491 : Int).toNat) (wrap64 (t487)) t494 t495 _ ?side1 ?side2 A13.out).mono ?_); (case side1 => repeat ((exact (Kd.C_below HR493.out (by repeat ((with_reducible first | exact HB.out | apply pw_below_drewN))))))); (case side2 => exact HC493.out); rintro e w32 ⟨v496, rfl, ho0, hb⟩; refine ⟨_, rfl, ?_⟩; have n0_ := Aside0.mk (Kd.R_lower ho0 (below_size (by repeat ((with_reducible first | exact HB.out | apply pw_below_drewN))))); have n1_ := Aside0.mk (below_step (by repeat ((with_reducible first | exact HB.out | apply pw_below_drewN))) hb); revert n0_ n1_; clear HB; intro HO497 HB; (try clear hb); (try clear ho0)))
       go_ret2
       exact ⟨_, by rfl, by exact Kd.R_nil _ _ _ _ _, by exact HB.out⟩
      rw [if_neg c12] at H
      exact absurd H (by simp)
     rw [if_neg c11] at H
     exact absurd H (by simp)
    rw [if_neg c10] at H
    have c10b0 : (t492 == 0) = false := beq_eq_false_iff_ne.mpr c10
    have c10b1 : (t492 != 0) = true := bne_iff_ne.mpr c10
    simp only [Option.some.injEq, Prod.mk.injEq] at H
    obtain ⟨rfl, rfl⟩ := H
    go_wp2_with ((refine goesL_ (some 41) rfl rfl Tryz.func45 (by kernel_rfl) rfl #[.slice A0 l0.length c0, .int .i64 t488] rfl (by (try simp only [List.map_toArray, List.map_cons, List.map_nil]); rfl) ?_; (with_reducible refine (vint_Get.calls kj4 _ _ l0 t488 t490 t491 t492 _ (Kd.C_below HR0.out HB.out) (HC0.out) A9.out).mono ?_); rintro e w' ⟨rfl, ⟨nd, rfl⟩⟩; refine ⟨_, rfl, ?_⟩))
    go_ret2
    exact ⟨_, by rfl, by exact Kd.R_nil _ _ _ _ _, by repeat ((with_reducible first | exact HB.out | apply pw_below_drewN))⟩
 rw [if_neg c3] at H
 have c3b0 : (t489 == 0) = false := beq_eq_false_iff_ne.mpr c3
 have c3b1 : (t489 != 0) = true := bne_iff_ne.mpr c3
 simp only [Option.some.injEq, Prod.mk.injEq] at H
 obtain ⟨rfl, rfl⟩ := H
 go_enter Tryz.func87, Tryz.ntmps87
 go_wp2_with ((refine goesL_ (some 15) rfl rfl Tryz.func45 (by kernel_rfl) rfl #[.slice A0 l0.length c0, .int .i64 0] rfl (by (try simp only [List.map_toArray, List.map_cons, List.map_nil]); rfl) ?_; (with_reducible refine (vint_Get.calls k _ _ l0 0 t487 t488 t489 _ (HR0.out) (HC0.out) A2.out).mono ?_); rintro e w' ⟨rfl, ⟨nd, rfl⟩⟩; refine ⟨_, rfl, ?_⟩))
 go_ret2
 exact ⟨_, by rfl, by exact Kd.R_nil _ _ _ _ _, by repeat ((with_reducible first | exact HB.out | apply pw_below_drewN))⟩
def dict_entry.f (k : Nat) (l0 : List Int) (a1 : Int) (l2 : List Int) (a3 : Bool) : Option (List Int × Int × Int) := (vint_Get.f k l0 a1).bind fun bt508 => (if bt508.2.2 = 0 then (if bt508.1 > 200 then (some (([] : List Int), 0, 4)) else (if (wrap64 (bt508.1)) > (wrap64 ((l0.length : Int) - bt508.2.1)) then (some (([] : List Int), 0, 2)) else (if 0 ≤ bt508.2.1 then (if bt508.2.1 ≤ (wrap64 (bt508.2.1 + (wrap64 (bt508.1)))) then (if (wrap64 (bt508.2.1 + (wrap64 (bt508.1)))) ≤ (l0.length : Int) then ((some ((l0.take ((wrap64 (bt508.2.1 + (wrap64 (bt508.1)))) : Int).toNat).drop (bt508.2.1 : Int).toNat : List Int)).bind fun y511 => (if a3 = true then (some (y511, wrap64 (bt508.2.1 + (wrap64 (bt508.1))), 0)) else ((bytes_Compare.f y511 l2).bind fun t516 => (if t516 ≤ 0 then (some (([] : List Int), 0, 5)) else (some (y511, wrap64 (bt508.2.1 + (wrap64 (bt508.1))), 0)))))) else (none)) else (none)) else (none)))) else (some (([] : List Int), 0, bt508.2.2)))
set_option maxHeartbeats 8000000 in
set_option maxRecDepth 100000 in
theorem dict_entry.calls (k : Nat) (P0_ : Nat → Prop) (A0 : Option Addr) (c0 : Nat) (l0 : List Int) (a1 : Int) (A2 : Option Addr) (c2 : Nat) (l2 : List Int) (a3 : Bool) (r1 : List Int) (r2 : Int) (r3 : Int) (w : World) (hs0 : Kd.V (Kd.int .u8) 5 w w.heap.size (fun k_ => P0_ k_) (.slice A0 l0.length c0) l0) (hr2 : Kd.C (Kd.int .u8) w A2 l2.length l2) (hc2 : l2.length ≤ c2) (h : dict_entry.f k l0 a1 l2 a3 = some (r1, r2, r3)) :
 Calls Tryz.prog 128 #[.slice A0 l0.length c0, .int .i64 a1, .slice A2 l2.length c2, .bool a3] w fun e w' => ∃ v0_ : Value, e = .returned (.tuple #[v0_, .int .i64 r2, .int .i64 r3]) ∧ Kd.V (Kd.int .u8) 5 w' w.heap.size (fun k_ => (P0_ k_ ∨ w.heap.size ≤ k_)) v0_ r1 ∧ Below w.heap.size w w' := by
 have HO0 := Aside0.mk (show Kd.V (Kd.int .u8) 5 w w.heap.size (fun k_ => (P0_ k_ ∨ w.heap.size ≤ k_)) (.slice A0 l0.length c0) l0 from Kd.V_mono hs0 (fun k_ hk => .inl hk))
 have HR2 := Aside0.mk hr2
 have HC2 := Aside0.mk hc2
 clear hr2 hc2
 have HB := Aside0.mk (Below.refl w.heap.size w)
 unfold dict_entry.f at h
 have H := h
 clear h
 replace H := Option.bind_eq_some_iff.mp H
 obtain ⟨⟨t508, t509, t510⟩, A50, H⟩ := H
 (try dsimp only at H)
 have A5 := Aside0.mk A50
 clear A50
 by_cases c6 : t510 = 0
 ·rw [if_pos c6] at H
  have c6b0 : (t510 == 0) = true := beq_iff_eq.mpr c6
  have c6b1 : (t510 != 0) = false := bne_eq_false_iff_eq.mpr c6
  clear c6
  by_cases c7 : t508 > 200
  ·rw [if_pos c7] at H
   have c7b0 : decide (200 < t508) = true := decide_eq_true c7
   clear c7
   simp only [Option.some.injEq, Prod.mk.injEq] at H
   obtain ⟨rfl, rfl, rfl⟩ := H
   go_enter Tryz.func128, Tryz.ntmps128
   go_wp2_with ((refine goL_ Tryz.func45 #[.slice A0 l0.length c0, .int .i64 a1] ?_; (with_reducible refine (vint_Get.calls k _ _ l0 a1 t508 t509 t510 _ ?side1 ?side2 A5.out).mono ?_); (case side1 => repeat (exact (Kd.V_reads' HO0.out).2.2)); (case side2 => exact (Kd.V_reads' HO0.out).2.1); rintro e w' ⟨rfl, ⟨nd, rfl⟩⟩; refine ⟨_, rfl, ?_⟩))
   go_ret3
   exact ⟨_, by rfl, (Kd.V_nil _ _ _ _ _), by repeat ((with_reducible first | exact HB.out | apply pw_below_drewN))⟩
  rw [if_neg c7] at H
  have c7b0 : decide (200 < t508) = false := decide_eq_false c7
  clear c7
  by_cases c8 : (wrap64 (t508)) > (wrap64 ((l0.length : Int) - t509))
  ·rw [if_pos c8] at H
   have c8b0 : decide ((wrap64 ((l0.length : Int) - t509)) < (wrap64 (t508))) = true := decide_eq_true c8
   clear c8
   simp only [Option.some.injEq, Prod.mk.injEq] at H
   obtain ⟨rfl, rfl, rfl⟩ := H
   go_enter Tryz.func128, Tryz.ntmps128
   go_wp2_with ((refine goL_ Tryz.func45 #[.slice A0 l0.length c0, .int .i64 a1] ?_; (with_reducible refine (vint_Get.calls k _ _ l0 a1 t508 t509 t510 _ ?side1 ?side2 A5.out).mono ?_); (case side1 => repeat (exact (Kd.V_reads' HO0.out).2.2)); (case side2 => exact (Kd.V_reads' HO0.out).2.1); rintro e w' ⟨rfl, ⟨nd, rfl⟩⟩; refine ⟨_, rfl, ?_⟩))
   go_ret3
   exact ⟨_, by rfl, (Kd.V_nil _ _ _ _ _), by repeat ((with_reducible first | exact HB.out | apply pw_below_drewN))⟩
  rw [if_neg c8] at H
  have c8b0 : decide ((wrap64 ((l0.length : Int) - t509)) < (wrap64 (t508))) = false := decide_eq_false c8
  clear c8
  by_cases c9 : 0 ≤ t509
  ·rw [if_pos c9] at H
   have c9b0 := eq_true c9
   have c9b1 : decide (0 ≤ t509) = true := decide_eq_true c9
   clear c9
   by_cases c10 : t509 ≤ (wrap64 (t509 + (wrap64 (t508))))
   ·rw [if_pos c10] at H
    have c10b0 := eq_true c10
    have c10b1 : decide (t509 ≤ (wrap64 (t509 + (wrap64 (t508))))) = true := decide_eq_true c10
    by_cases c11 : (wrap64 (t509 + (wrap64 (t508)))) ≤ (l0.length : Int)
    ·rw [if_pos c11] at H
     have c11b0 := eq_true c11
     have c11b1 : decide ((wrap64 (t509 + (wrap64 (t508)))) ≤ (l0.length : Int)) = true := decide_eq_true c11
     obtain ⟨y511, hy511⟩ : ∃ y_ : List Int, y_ = ((l0.take ((wrap64 (t509 + (wrap64 (t508)))) : Int).toNat).drop (t509 : Int).toNat) := ⟨_, rfl⟩
     replace H : (if a3 = true then (some (y511, wrap64 (t509 + (wrap64 (t508))), 0)) else ((bytes_Compare.f y511 l2).bind fun t516 => (if t516 ≤ 0 then (some (([] : List Int), 0, 5)) else (some (y511, wrap64 (t509 + (wrap64 (t508))), 0))))) = some (r1, r2, r3) := by (have H2_ := (Option.bind_some _ _).symm.trans H; rw [hy511]; with_reducible exact H2_)
     have Ny511 := Aside0.mk hy511
     clear hy511
     by_cases c12 : a3 = true
     ·subst c12
      have H1 : (some (y511, wrap64 (t509 + (wrap64 (t508))), 0)) = some (r1, r2, r3) := by rw [if_pos rfl] at H; exact H
      clear H
      have H := H1
      clear H1
      simp only [Option.some.injEq, Prod.mk.injEq] at H
      obtain ⟨rfl, rfl, rfl⟩ := H
      go_enter Tryz.func128, Tryz.ntmps128
      go_wp2_with ((refine goL_ Tryz.func45 #[.slice A0 l0.length c0, .int .i64 a1] ?_; (with_reducible refine (vint_Get.calls k _ _ l0 a1 t508 t509 t510 _ ?side1 ?side2 A5.out).mono ?_); (case side1 => repeat (exact (Kd.V_reads' HO0.out).2.2)); (case side2 => exact (Kd.V_reads' HO0.out).2.1); rintro e w' ⟨rfl, ⟨nd, rfl⟩⟩; refine ⟨_, rfl, ?_⟩; have q13 : ((wrap64 (t509 + (wrap64 (t508)))) : Int) ≤ ((l0.length : Int) : Int) := of_decide_eq_true ‹_›; obtain ⟨i013, hi013, _, hsz13, _⟩ := info_parts info5; have hroom13 : l0.length ≤ c0 := (Kd.V_reads' HO0.out).2.1; have hC13 : Kd.F (Kd.int .u8) _ _ A0 l0.length l0 := (Kd.V_at (base := w.heap.size) HO0.out).2.2; have ql13 : (t509 : Int) ≤ ((wrap64 (t509 + (wrap64 (t508)))) : Int) := of_decide_eq_true ‹_›; have q013 : (0 : Int) ≤ (t509 : Int) := of_decide_eq_true ‹_›; have hcut13 := cut_mid (P := Tryz.prog) 24 5 .i64 .i64 Tryz.underlying24 hi013 1 hsz13 A0 l0.length c0 t509 (wrap64 (t509 + (wrap64 (t508)))) q013 ql13 q13 hroom13; have hr13 := Kd.F_mid (lo := (t509 : Int).toNat) (hi := ((wrap64 (t509 + (wrap64 (t508)))) : Int).toNat) (c := c0) hC13 (by omega) (by omega) hroom13; obtain ⟨A13, hA13⟩ : ∃ Az_, Az_ = (if c0 = (t509 : Int).toNat then A0 else (A0 : Option Addr).map (·.add ((t509 : Int).toNat * 1))) := ⟨_, rfl⟩; obtain ⟨c13, hc13⟩ : ∃ cz_, cz_ = c0 - (t509 : Int).toNat := ⟨_, rfl⟩; have hy13 : y511.length = ((wrap64 (t509 + (wrap64 (t508)))) : Int).toNat - (t509 : Int).toNat := (by rw [Ny511.out, List.length_drop, List.length_take] <;> omega); rw [show ((l0).take ((wrap64 (t509 + (wrap64 (t508)))) : Int).toNat).drop (t509 : Int).toNat = y511 from Ny511.out.symm] at hr13; replace hr13 : Kd.F (Kd.int .u8) _ _ A13 y511.length y511 := (by rw [hA13]; exact hr13); rw [← hy13, ← hA13, ← hc13] at hcut13; have HO515 := Aside0.mk (show Kd.V (Kd.int .u8) 5 _ w.heap.size _ (.slice A13 y511.length c13) y511 from Kd.V_mk (by rw [hy13, hc13]; exact Nat.sub_le_sub_right (Nat.le_trans (by omega) hroom13) _) hr13); have HC515 := Aside0.mk (show y511.length ≤ c13 from by rw [hy13, hc13]; exact Nat.sub_le_sub_right (Nat.le_trans (by omega) hroom13) _); clear hr13 hC13 hroom13 hi013 hsz13 hc13; have KY13 := Aside0.mk hy13; have KA13 := Aside0.mk hA13; clear hy13 hA13; replace q13 := eq_true q13))
      go_ret3
      exact ⟨_, by rfl, by (with_reducible repeat (apply Kd.V_drewN)); exact HO515.out, by repeat ((with_reducible first | exact HB.out | apply pw_below_drewN))⟩
     replace c12 := Bool.eq_false_iff.mpr c12
     subst c12
     have H1 : ((bytes_Compare.f y511 l2).bind fun t516 => (if t516 ≤ 0 then (some (([] : List Int), 0, 5)) else (some (y511, wrap64 (t509 + (wrap64 (t508))), 0)))) = some (r1, r2, r3) := by rw [if_neg (show ¬ (false = true) by decide)] at H; exact H
     clear H
     have H := H1
     clear H1
     replace H := Option.bind_eq_some_iff.mp H
     obtain ⟨t516, A140, H⟩ := H
     (try dsimp only at H)
     have A14 := Aside0.mk A140
     clear A140
     by_cases c15 : t516 ≤ 0
     ·rw [if_pos c15] at H
      have c15b0 : decide (t516 ≤ 0) = true := decide_eq_true c15
      clear c15
      simp only [Option.some.injEq, Prod.mk.injEq] at H
      obtain ⟨rfl, rfl, rfl⟩ := H
      go_enter Tryz.func128, Tryz.ntmps128
      go_wp2_with (first | ((with_reducible refine gate_callee (f := 45) rfl ?_); refine goL_ Tryz.func45 #[.slice A0 l0.length c0, .int .i64 a1] ?_; (with_reducible refine (vint_Get.calls k _ _ l0 a1 t508 t509 t510 _ ?side1 ?side2 A5.out).mono ?_); (case side1 => repeat (exact (Kd.V_reads' HO0.out).2.2)); (case side2 => exact (Kd.V_reads' HO0.out).2.1); rintro e w' ⟨rfl, ⟨nd, rfl⟩⟩; refine ⟨_, rfl, ?_⟩; have q16 : ((wrap64 (t509 + (wrap64 (t508)))) : Int) ≤ ((l0.length : Int) : Int) := of_decide_eq_true ‹_›; obtain ⟨i016, hi016, _, hsz16, _⟩ := info_parts info5; have hroom16 : l0.length ≤ c0 := (Kd.V_reads' HO0.out).2.1; have hC16 : Kd.F (Kd.int .u8) _ _ A0 l0.length l0 := (Kd.V_at (base := w.heap.size) HO0.out).2.2; have ql16 : (t509 : Int) ≤ ((wrap64 (t509 + (wrap64 (t508)))) : Int) := of_decide_eq_true ‹_›; have q016 : (0 : Int) ≤ (t509 : Int) := of_decide_eq_true ‹_›; have hcut16 := cut_mid (P := Tryz.prog) 24 5 .i64 .i64 Tryz.underlying24 hi016 1 hsz16 A0 l0.length c0 t509 (wrap64 (t509 + (wrap64 (t508)))) q016 ql16 q16 hroom16; have hr16 := Kd.F_mid (lo := (t509 : Int).toNat) (hi := ((wrap64 (t509 + (wrap64 (t508)))) : Int).toNat) (c := c0) hC16 (by omega) (by omega) hroom16; obtain ⟨A16, hA16⟩ : ∃ Az_, Az_ = (if c0 = (t509 : Int).toNat then A0 else (A0 : Option Addr).map (·.add ((t509 : Int).toNat * 1))) := ⟨_, rfl⟩; obtain ⟨c16, hc16⟩ : ∃ cz_, cz_ = c0 - (t509 : Int).toNat := ⟨_, rfl⟩; have hy16 : y511.length = ((wrap64 (t509 + (wrap64 (t508)))) : Int).toNat - (t509 : Int).toNat := (by rw [Ny511.out, List.length_drop, List.length_take] <;> omega); rw [show ((l0).take ((wrap64 (t509 + (wrap64 (t508)))) : Int).toNat).drop (t509 : Int).toNat = y511 from Ny511.out.symm] at hr16; replace hr16 : Kd.F (Kd.int .u8) _ _ A16 y511.length y511 := (by rw [hA16]; exact hr16); rw [← hy16, ← hA16, ← hc16] at hcut16; have HO515 := Aside0.mk (show Kd.V (Kd.int .u8) 5 _ w.heap.size _ (.slice A16 y511.length c16) y511 from Kd.V_mk (by rw [hy16, hc16]; exact Nat.sub_le_sub_right (Nat.le_trans (by omega) hroom16) _) hr16); have HC515 := Aside0.mk (show y511.length ≤ c16 from by rw [hy16, hc16]; exact Nat.sub_le_sub_right (Nat.le_trans (by omega) hroom16) _); clear hr16 hC16 hroom16 hi016 hsz16 hc16; have KY16 := Aside0.mk hy16; have KA16 := Aside0.mk hA16; clear hy16 hA16; replace q16 := eq_true q16) | (go_at_call 54; (with_reducible refine (bytes_Compare.calls _ _ y511 _ _ l2 t516 _ ?side1 ?side2 ?side3 ?side4 A14.out).mono ?_); (case side1 => repeat (exact (Kd.V_reads' HO515.out).2.2)); (case side2 => exact (Kd.V_reads' HO515.out).2.1); (case side3 => repeat (exact HR2.out)); (case side4 => exact HC2.out); rintro e w' ⟨rfl, ⟨nd, rfl⟩⟩))
      go_ret3
      exact ⟨_, by rfl, (Kd.V_nil _ _ _ _ _), by repeat ((with_reducible first | exact HB.out | apply pw_below_drewN))⟩
     rw [if_neg c15] at H
     have c15b0 : decide (t516 ≤ 0) = false := decide_eq_false c15
     clear c15
     simp only [Option.some.injEq, Prod.mk.injEq] at H
     obtain ⟨rfl, rfl, rfl⟩ := H
     go_enter Tryz.func128, Tryz.ntmps128
     go_wp2_with (first | ((with_reducible refine gate_callee (f := 45) rfl ?_); refine goL_ Tryz.func45 #[.slice A0 l0.length c0, .int .i64 a1] ?_; (with_reducible refine (vint_Get.calls k _ _ l0 a1 t508 t509 t510 _ ?side1 ?side2 A5.out).mono ?_); (case side1 => repeat (exact (Kd.V_reads' HO0.out).2.2)); (case side2 => exact (Kd.V_reads' HO0.out).2.1); rintro e w' ⟨rfl, ⟨nd, rfl⟩⟩; refine ⟨_, rfl, ?_⟩; have q17 : ((wrap64 (t509 + (wrap64 (t508)))) : Int) ≤ ((l0.length : Int) : Int) := of_decide_eq_true ‹_›; obtain ⟨i017, hi017, _, hsz17, _⟩ := info_parts info5; have hroom17 : l0.length ≤ c0 := (Kd.V_reads' HO0.out).2.1; have hC17 : Kd.F (Kd.int .u8) _ _ A0 l0.length l0 := (Kd.V_at (base := w.heap.size) HO0.out).2.2; have ql17 : (t509 : Int) ≤ ((wrap64 (t509 + (wrap64 (t508)))) : Int) := of_decide_eq_true ‹_›; have q017 : (0 : Int) ≤ (t509 : Int) := of_decide_eq_true ‹_›; have hcut17 := cut_mid (P := Tryz.prog) 24 5 .i64 .i64 Tryz.underlying24 hi017 1 hsz17 A0 l0.length c0 t509 (wrap64 (t509 + (wrap64 (t508)))) q017 ql17 q17 hroom17; have hr17 := Kd.F_mid (lo := (t509 : Int).toNat) (hi := ((wrap64 (t509 + (wrap64 (t508)))) : Int).toNat) (c := c0) hC17 (by omega) (by omega) hroom17; obtain ⟨A17, hA17⟩ : ∃ Az_, Az_ = (if c0 = (t509 : Int).toNat then A0 else (A0 : Option Addr).map (·.add ((t509 : Int).toNat * 1))) := ⟨_, rfl⟩; obtain ⟨c17, hc17⟩ : ∃ cz_, cz_ = c0 - (t509 : Int).toNat := ⟨_, rfl⟩; have hy17 : y511.length = ((wrap64 (t509 + (wrap64 (t508)))) : Int).toNat - (t509 : Int).toNat := (by rw [Ny511.out, List.length_drop, List.length_take] <;> omega); rw [show ((l0).take ((wrap64 (t509 + (wrap64 (t508)))) : Int).toNat).drop (t509 : Int).toNat = y511 from Ny511.out.symm] at hr17; replace hr17 : Kd.F (Kd.int .u8) _ _ A17 y511.length y511 := (by rw [hA17]; exact hr17); rw [← hy17, ← hA17, ← hc17] at hcut17; have HO515 := Aside0.mk (show Kd.V (Kd.int .u8) 5 _ w.heap.size _ (.slice A17 y511.length c17) y511 from Kd.V_mk (by rw [hy17, hc17]; exact Nat.sub_le_sub_right (Nat.le_trans (by omega) hroom17) _) hr17); have HC515 := Aside0.mk (show y511.length ≤ c17 from by rw [hy17, hc17]; exact Nat.sub_le_sub_right (Nat.le_trans (by omega) hroom17) _); clear hr17 hC17 hroom17 hi017 hsz17 hc17; have KY17 := Aside0.mk hy17; have KA17 := Aside0.mk hA17; clear hy17 hA17; replace q17 := eq_true q17) | (go_at_call 54; (with_reducible refine (bytes_Compare.calls _ _ y511 _ _ l2 t516 _ ?side1 ?side2 ?side3 ?side4 A14.out).mono ?_); (case side1 => repeat (exact (Kd.V_reads' HO515.out).2.2)); (case side2 => exact (Kd.V_reads' HO515.out).2.1); (case side3 => repeat (exact HR2.out)); (case side4 => exact HC2.out); rintro e w' ⟨rfl, ⟨nd, rfl⟩⟩))
     go_ret3
     exact ⟨_, by rfl, by (with_reducible repeat (apply Kd.V_drewN)); exact HO515.out, by repeat ((with_reducible first | exact HB.out | apply pw_below_drewN))⟩
    rw [if_neg c11] at H
    exact absurd H (by simp)
   rw [if_neg c10] at H
   exact absurd H (by simp)
  rw [if_neg c9] at H
  exact absurd H (by simp)
 rw [if_neg c6] at H
 have c6b0 : (t510 == 0) = false := beq_eq_false_iff_ne.mpr c6
 have c6b1 : (t510 != 0) = true := bne_iff_ne.mpr c6
 simp only [Option.some.injEq, Prod.mk.injEq] at H
 obtain ⟨rfl, rfl, rfl⟩ := H
 go_enter Tryz.func128, Tryz.ntmps128
 go_wp2_with ((refine goL_ Tryz.func45 #[.slice A0 l0.length c0, .int .i64 a1] ?_; (with_reducible refine (vint_Get.calls k _ _ l0 a1 t508 t509 t510 _ ?side1 ?side2 A5.out).mono ?_); (case side1 => repeat (exact (Kd.V_reads' HO0.out).2.2)); (case side2 => exact (Kd.V_reads' HO0.out).2.1); rintro e w' ⟨rfl, ⟨nd, rfl⟩⟩; refine ⟨_, rfl, ?_⟩))
 go_ret3
 exact ⟨_, by rfl, (Kd.V_nil _ _ _ _ _), by repeat ((with_reducible first | exact HB.out | apply pw_below_drewN))⟩
def dict_texts.l0 : Nat → List (List Int) → List Bool → List (List Int) → List Int → Int → Int → Option ((List (List Int)) × Int)
 | 0, _, _, _, _, _, _ => none
 | k + 1, x0, x6, x7, x16, x17, x18 => if x18 < x17 then (if 0 ≤ x18 then (if x18 < (x16.length : Int) then (if (rd x16 x18) ≥ (IntKind.u64.wrap ((x0.length : Int))) then (some (([] : List (List Int)), 5)) else (if 0 ≤ (rd x16 x18) then (if (rd x16 x18) < (x6.length : Int) then (if (rd x16 x18) < (x0.length : Int) then ((bytes_Clone.f (rd_L1 x0 (rd x16 x18))).bind fun t528 => (if x18 < (x7.length : Int) then (dict_texts.l0 k x0 (x6.set ((rd x16 x18) : Int).toNat true) (x7.set (x18 : Int).toNat t528) x16 x17 (wrap64 (x18 + 1))) else (none))) else (none)) else (none)) else (none))) else (none)) else (none)) else ((slices_Contains_bool_bool.f k x6 false).bind fun t532 => (if t532 = true then (some (([] : List (List Int)), 5)) else (some (x7, 0))))
def dict_texts.f (k : Nat) (l0 : List (List Int)) (l1 : List Int) : Option ((List (List Int)) × Int) := if 0 ≤ (l0.length : Int) then (if ((l0.length : Int) : Int).toNat ≤ 281474976710656 then (if 0 ≤ (l1.length : Int) then (if ((l1.length : Int) : Int).toNat ≤ 11728124029610 then (dict_texts.l0 k l0 (List.replicate ((l0.length : Int) : Int).toNat false) (List.replicate ((l1.length : Int) : Int).toNat []) l1 (l1.length : Int) 0) else (none)) else (none)) else (none)) else (none)
set_option maxHeartbeats 8000000 in
set_option maxRecDepth 100000 in
theorem dict_texts.calls (k : Nat) (A0 : Option Addr) (c0 : Nat) (l0 : List (List Int)) (A1 : Option Addr) (c1 : Nat) (l1 : List Int) (r1 : List (List Int)) (r2 : Int) (w : World) (hr0 : Kd.C (Kd.slice 5 (Kd.int .u8)) w A0 l0.length l0) (hc0 : l0.length ≤ c0) (hr1 : Kd.C (Kd.int .u64) w A1 l1.length l1) (hc1 : l1.length ≤ c1) (h : dict_texts.f k l0 l1 = some (r1, r2)) :
 Calls Tryz.prog 130 #[.slice A0 l0.length c0, .slice A1 l1.length c1] w fun e w' => ∃ v0_ : Value, e = .returned (.tuple #[v0_, .int .i64 r2]) ∧ Kd.S (Kd.slice 5 (Kd.int .u8)) 24 w' w.heap.size (fun _ => True) v0_ r1 ∧ Below w.heap.size w w' := by
 have HR0 := Aside0.mk hr0
 have HC0 := Aside0.mk hc0
 clear hr0 hc0
 have HR1 := Aside0.mk hr1
 have HC1 := Aside0.mk hc1
 clear hr1 hc1
 have HB := Aside0.mk (Below.refl w.heap.size w)
 unfold dict_texts.f at h
 have H := h
 clear h
 by_cases c3 : 0 ≤ (l0.length : Int)
 ·rw [if_pos c3] at H
  have c3b0 := eq_true c3
  have c3b1 : decide (0 ≤ (l0.length : Int)) = true := decide_eq_true c3
  clear c3
  by_cases c4 : ((l0.length : Int) : Int).toNat ≤ 281474976710656
  ·rw [if_pos c4] at H
   have c4b0 := eq_true c4
   have c4b1 : decide (((l0.length : Int) : Int).toNat ≤ 281474976710656) = true := decide_eq_true c4
   clear c4
   obtain ⟨y519, hy519⟩ : ∃ y_ : List Bool, y_ = (List.replicate ((l0.length : Int) : Int).toNat false) := ⟨_, rfl⟩
   replace H : (if 0 ≤ (l1.length : Int) then (if ((l1.length : Int) : Int).toNat ≤ 11728124029610 then (dict_texts.l0 k l0 y519 (List.replicate ((l1.length : Int) : Int).toNat []) l1 (l1.length : Int) 0) else (none)) else (none)) = some (r1, r2) := by (rw [hy519]; with_reducible exact H)
   have Ny519 := Aside0.mk hy519
   clear hy519
   by_cases c5 : 0 ≤ (l1.length : Int)
   ·rw [if_pos c5] at H
    have c5b0 := eq_true c5
    have c5b1 : decide (0 ≤ (l1.length : Int)) = true := decide_eq_true c5
    clear c5
    by_cases c6 : ((l1.length : Int) : Int).toNat ≤ 11728124029610
    ·rw [if_pos c6] at H
     have c6b0 := eq_true c6
     have c6b1 : decide (((l1.length : Int) : Int).toNat ≤ 11728124029610) = true := decide_eq_true c6
     clear c6
     obtain ⟨y522, hy522⟩ : ∃ y_ : List (List Int), y_ = (List.replicate ((l1.length : Int) : Int).toNat []) := ⟨_, rfl⟩
     replace H : (dict_texts.l0 k l0 y519 y522 l1 (l1.length : Int) 0) = some (r1, r2) := by (rw [hy522]; with_reducible exact H)
     have Ny522 := Aside0.mk hy522
     clear hy522
     have H' := Aside0.mk H
     clear H
     go_enter Tryz.func130, Tryz.ntmps130
     go_wp2_with (first | ((with_reducible refine gate_dst (N := 12) rfl ?_); refine Kd.R_make Kd.bool _ 4 rfl (N := 12) rfl 178 _ _ rfl (l0.length : Int) rfl rfl Tryz.underlying178 (.bool false) 1 info4 rfl (by decide) (by omega) false (ok := fun _ => True) (okp := fun _ => True) rfl (fun _ hk => hk) trivial (of_decide_eq_true ‹_›) (Nat.le_trans (Nat.mul_le_mul_right _ (of_decide_eq_true ‹_› : (l0.length : Int).toNat ≤ 281474976710656)) (by omega)) (Below.refl _ _) (Nat.le_refl _) ?_; intro v520 w7 ho8 hb hg_ hnew_; clear hg_ hnew_; (rw [← Ny519.out] at ho8); have n0_ := Aside0.mk (Kd.R_lower ho8 (below_size HB.out)); have n1_ := Aside0.mk (below_step HB.out hb); revert n0_ n1_; clear HB; intro HO521 HB; clear hb ho8) | ((with_reducible refine gate_dst (N := 15) rfl ?_); refine Kd.S_make (Kd.slice 5 (Kd.int .u8)) _ 24 rfl (N := 15) rfl 42 _ _ rfl (l1.length : Int) rfl rfl Tryz.underlying42 (.slice none 0 0) 24 info24 rfl (by decide) (by omega) [] (ok := fun _ => True) (okp := fun _ => True) ⟨_, rfl, Kd.R_nil _ _ _ _ _⟩ (fun _ hk => hk) trivial (of_decide_eq_true ‹_›) (Nat.le_trans (Nat.mul_le_mul_right _ (of_decide_eq_true ‹_› : (l1.length : Int).toNat ≤ 11728124029610)) (by omega)) (Below.refl _ _) (Nat.le_refl _) ?_; intro v523 w9 ho10 hb hg_ hnew_; clear hg_ hnew_; (rw [← Ny522.out] at ho10); have n0_ := Aside0.mk (Kd.R_below HO521.out hb); have n1_ := Aside0.mk (Kd.S_lower ho10 (below_size HB.out)); have n2_ := Aside0.mk (below_step HB.out hb); revert n0_ n1_ n2_; clear HO521 HB; intro HO521 HO524 HB; clear hb ho10))
     go_loopg [18] k (fun kq v18 w' => ∃ (x6_1 : List Bool) (x7_1 : List (List Int)) (x18_1 : Int), v18 = .int .i64 x18_1 ∧ Aside0 (dict_texts.l0 kq l0 x6_1 x7_1 l1 (l1.length : Int) x18_1 = some (r1, r2)) ∧ Aside0 (kq ≤ k) ∧ Aside0 (Kd.R Kd.bool 4 w' w.heap.size (fun _ => True) v520 x6_1) ∧ Aside0 (Kd.S (Kd.slice 5 (Kd.int .u8)) 24 w' w.heap.size (fun _ => True) v523 x7_1) ∧ Aside0 (Below w.heap.size w w'))
     case atStart => exact ⟨(y519), (y522), (0), (by rfl), H', ⟨Nat.le_refl _⟩, ⟨by (with_reducible repeat (apply Kd.R_alloc)); exact HO521.out⟩, ⟨by (with_reducible repeat (apply Kd.S_alloc)); exact HO524.out⟩, ⟨by exact HB.out⟩⟩
     case round =>
      clear H'
      try clear c3b0
      try clear c3b1
      try clear c4b0
      try clear c4b1
      try clear c5b0
      try clear c5b1
      try clear c6b0
      try clear c6b1
      obtain ⟨x6_1, x7_1, x18_1, rfl, HA, HK1, HO_6, HO_7, HB⟩ := hrel
      cases gk with
      | zero => exact absurd HA.out (by simp [dict_texts.l0])
      | succ k1 =>
       have H := HA.out
       clear HA
       simp only [dict_texts.l0] at H
       by_cases c11 : x18_1 < (l1.length : Int)
       ·rw [if_pos c11] at H
        have c11b0 : decide (x18_1 < (l1.length : Int)) = true := decide_eq_true c11
        clear c11
        by_cases c12 : 0 ≤ x18_1
        ·rw [if_pos c12] at H
         have c12b0 : decide (0 ≤ x18_1) = true := decide_eq_true c12
         clear c12
         by_cases c13 : x18_1 < (l1.length : Int)
         ·rw [if_pos c13] at H
          have c13b0 : decide (x18_1 < (l1.length : Int)) = true := decide_eq_true c13
          clear c13
          by_cases c14 : (rd l1 x18_1) ≥ (IntKind.u64.wrap ((l0.length : Int)))
          ·rw [if_pos c14] at H
           have c14b0 : decide ((IntKind.u64.wrap ((l0.length : Int))) ≤ (rd l1 x18_1)) = true := decide_eq_true c14
           clear c14
           simp only [Option.some.injEq, Prod.mk.injEq] at H
           obtain ⟨rfl, rfl⟩ := H
           have p525 : 0 ≤ (x18_1 : Int) := of_decide_eq_true ‹_›
           have q525 : x18_1 < (l1.length : Int) := of_decide_eq_true ‹_›
           obtain ⟨ad525, e525, hx525_0⟩ := Kd.at_int HR1.out x18_1 p525 q525
           cases e525
           replace hx525_0 := (HB.out.cell (World.block_lt_of_cell? w _ hx525_0)).trans hx525_0
           replace p525 := eq_true p525
           replace q525 := eq_true q525
           go_wp2
           go_ret2
           exact ⟨_, by rfl, by exact Kd.S_nil _ _ _ _ _, by exact HB.out⟩
          rw [if_neg c14] at H
          have c14b0 : decide ((IntKind.u64.wrap ((l0.length : Int))) ≤ (rd l1 x18_1)) = false := decide_eq_false c14
          clear c14
          by_cases c15 : 0 ≤ (rd l1 x18_1)
          ·rw [if_pos c15] at H
           have c15b0 : decide (0 ≤ (rd l1 x18_1)) = true := decide_eq_true c15
           clear c15
           by_cases c16 : (rd l1 x18_1) < (x6_1.length : Int)
           ·rw [if_pos c16] at H
            have c16b0 : decide ((rd l1 x18_1) < (x6_1.length : Int)) = true := decide_eq_true c16
            clear c16
            obtain ⟨y526, hy526⟩ : ∃ y_ : List Bool, y_ = (x6_1.set ((rd l1 x18_1) : Int).toNat true) := ⟨_, rfl⟩
            replace H : (if (rd l1 x18_1) < (l0.length : Int) then ((bytes_Clone.f (rd_L1 l0 (rd l1 x18_1))).bind fun t528 => (if x18_1 < (x7_1.length : Int) then (dict_texts.l0 k1 l0 y526 (x7_1.set (x18_1 : Int).toNat t528) l1 (l1.length : Int) (wrap64 (x18_1 + 1))) else (none))) else (none)) = some (r1, r2) := by (rw [hy526]; with_reducible exact H)
            have Ny526 := Aside0.mk hy526
            clear hy526
            by_cases c18 : (rd l1 x18_1) < (l0.length : Int)
            ·rw [if_pos c18] at H
             have c18b0 : decide ((rd l1 x18_1) < (l0.length : Int)) = true := decide_eq_true c18
             clear c18
             replace H := Option.bind_eq_some_iff.mp H
             obtain ⟨t528, A190, H⟩ := H
             (try dsimp only at H)
             have A19 := Aside0.mk A190
             clear A190
             by_cases c20 : x18_1 < (x7_1.length : Int)
             ·rw [if_pos c20] at H
              have c20b0 : decide (x18_1 < (x7_1.length : Int)) = true := decide_eq_true c20
              clear c20
              obtain ⟨y531, hy531⟩ : ∃ y_ : List (List Int), y_ = (x7_1.set (x18_1 : Int).toNat t528) := ⟨_, rfl⟩
              replace H : (dict_texts.l0 k1 l0 y526 y531 l1 (l1.length : Int) (wrap64 (x18_1 + 1))) = some (r1, r2) := by (rw [hy531]; with_reducible exact H)
              have Ny531 := Aside0.mk hy531
              clear hy531
              have H' := Aside0.mk H
              clear H
              have p525 : 0 ≤ (x18_1 : Int) := of_decide_eq_true ‹_›
              have q525 : x18_1 < (l1.length : Int) := of_decide_eq_true ‹_›
              obtain ⟨ad525, e525, hx525_0⟩ := Kd.at_int HR1.out x18_1 p525 q525
              cases e525
              replace hx525_0 := (HB.out.cell (World.block_lt_of_cell? w _ hx525_0)).trans hx525_0
              replace p525 := eq_true p525
              replace q525 := eq_true q525
              have p17 : 0 ≤ ((rd l1 x18_1) : Int) := of_decide_eq_true ‹_›
              have q17 : ((rd l1 x18_1) : Int) < ((x6_1.length : Int) : Int) := of_decide_eq_true ‹_›
              obtain ⟨go17, co17, eo17, gb17, gl17, cl17, HG17⟩ := Kd.R_form HO_6.out (by omega)
              (cases eo17)
              have GB17 := Aside0.mk gb17
              have GG17 := Aside0.mk HG17
              clear gb17 gl17 HG17
              obtain ⟨hx17_0, hf17_0⟩ := Kd.R_celln false HO_6.out ((rd l1 x18_1) : Int) p17 q17
              replace p17 := eq_true p17
              replace q17 := eq_true q17
              have HP22 := Kd.R_putg HO_6.out ((rd l1 x18_1) : Int) true
              go_wp2_with (first | ((with_reducible refine gate_store (t := 4) (p := 30) rfl ?_); refine store_event (t := 4) (p := 30) (v := ?vo_w23) (w1 := (wr.setCell ⟨go17, ((rd l1 x18_1) : Int).toNat, none⟩ (.bool true))) ?hg ?ho ?hn ?hr ?_; (case ho => rfl); (case hg => rfl); (case hn => rfl); (case hr => (go_simp; done)); intro w23 hw; have hg : wr.grownBy w23 (some go17) := (by rw [hw]; exact HP22.2); have hp_ : Kd.R Kd.bool 4 w23 w.heap.size (fun _ => True) (.slice (some ⟨go17, 0, none⟩) x6_1.length co17) y526 := (by rw [hw, Ny526.out]; exact HP22.1); clear HP22; have n0_ := Aside0.mk (hp_); have n1_ := Aside0.mk (Kd.S_over' (v := (.slice (some ⟨go17, 0, none⟩) x6_1.length co17)) HO_7.out (Kd.R_typed HO_6.out) (by decide) hg); have n2_ := Aside0.mk ((by rw [hw]; exact below_set (HB.out) GB17.out : Below w.heap.size w w23)); revert n0_ n1_ n2_; clear HO_6 HO_7 HB; intro HO_6 HO_7 HB; clear hg hw hp_; have p527 : 0 ≤ ((rd l1 x18_1) : Int) := of_decide_eq_true ‹_›; have q527 : (rd l1 x18_1) < (l0.length : Int) := of_decide_eq_true ‹_›; obtain ⟨ad527, A527_0, c527_0, e527, hx527_0, hl527_0, hi527_0⟩ := at_L1 HR0.out (rd l1 x18_1) p527 q527; cases e527; replace hx527_0 := (HB.out.cell (World.block_lt_of_cell? w _ hx527_0)).trans hx527_0; have HR527_0 := Aside0.mk hi527_0; have HC527_0 := Aside0.mk hl527_0; clear hi527_0 hl527_0; replace p527 := eq_true p527; replace q527 := eq_true q527) | ((with_reducible refine gate_callee (f := 61) rfl ?_); refine goL_ Tryz.func61 #[.slice A527_0 (rd_L1 l0 (rd l1 x18_1)).length c527_0] ?_; (with_reducible refine (bytes_Clone.calls _ _ (rd_L1 l0 (rd l1 x18_1)) t528 _ (Kd.C_below HR527_0.out HB.out) (HC527_0.out) A19.out).mono ?_); rintro e w24 ⟨v529, rfl, ho0, hb⟩; refine ⟨_, rfl, ?_⟩; have n0_ := Aside0.mk (Kd.R_below HO_6.out hb); have n1_ := Aside0.mk (Kd.S_elder' HO_7.out (Kd.R_base ho0) hb); have n2_ := Aside0.mk (Kd.R_lower ho0 (below_size HB.out)); have n3_ := Aside0.mk (below_step HB.out hb); revert n0_ n1_ n2_ n3_; clear HO_6 HO_7 HB; intro HO_6 HO_7 HO530 HB; (try clear hb); (try clear ho0); have p21 : 0 ≤ (x18_1 : Int) := of_decide_eq_true ‹_›; have q21 : (x18_1 : Int) < ((x7_1.length : Int) : Int) := of_decide_eq_true ‹_›; obtain ⟨go21, co21, eo21, gb21, gl21, cl21, HG21⟩ := Kd.S_form HO_7.out (by omega); (cases eo21); have GB21 := Aside0.mk gb21; have GG21 := Aside0.mk HG21; clear gb21 gl21 HG21; obtain ⟨_, ce21, hcl21, hM21, hcc21, hfr21, _, _⟩ := Kd.S_elem HO_7.out [] (x18_1 : Int) p21 q21; obtain ⟨ve21_0, rfl, ge21_0⟩ := hM21; have hx21_0 := hcc21 0 _ rfl; have hf21_0 := hfr21 0; (try simp only [show ((Kd.slice 5 (Kd.int .u8))).sz = 1 from rfl, Nat.mul_one, Nat.add_zero] at hx21_0); (try simp only [show ((Kd.slice 5 (Kd.int .u8))).sz = 1 from rfl, Nat.mul_one, Nat.add_zero] at hf21_0); clear hcl21 hcc21 hfr21; replace p21 := eq_true p21; replace q21 := eq_true q21; have n_ := Aside0.mk (Kd.S_mono (ok' := (fun k_ => some k_ ≠ (v529 : Value).ownBlock)) HO_7.out (fun k_ hk => hk.2)); clear HO_7; have HO_7 := n_; clear n_; have HX25 := Aside0.mk (show Kd.S (Kd.slice 5 (Kd.int .u8)) 24 w24 w.heap.size (fun k_ => ((fun _ => True)) k_ ∧ ¬ ((fun k_ => some k_ = (v529 : Value).ownBlock)) k_) (.slice (some ⟨go21, 0, none⟩) x7_1.length co21) x7_1 from (by (with_reducible repeat (apply Kd.S_alloc)); exact Kd.S_mono HO_7.out (fun k_ hk => ⟨trivial, fun e_ => hk e_⟩))); obtain ⟨oki25, ce25, hcl25, hM25, hcc25, hfr25, hoki25, hH25⟩ := Kd.S_elem HX25.out [] (x18_1 : Int) (of_decide_eq_true ‹_›) (by have h_ : (x18_1 : Int) < ((x7_1.length : Int) : Int) := of_decide_eq_true ‹_›; exact h_); obtain ⟨ve25_0, rfl, ge25_0⟩ := hM25; have HP25 := Kd.S_seg hH25 (of_decide_eq_true ‹_›) (by have h_ : (x18_1 : Int) < ((x7_1.length : Int) : Int) := of_decide_eq_true ‹_›; exact h_) (seg := [v529]) (j := 0) (show 1 ≤ 1 from by decide) (x' := t528) (Kd.M_row (Kd.R_mono (Kd.R_tight rfl (Kd.R_mono (ok' := fun k_ => ((fun _ => True)) k_ ∧ k_ ≠ go21) (Kd.R_apart' (HO530.out) (Kd.S_typed HO_7.out) (by decide)) (fun k_ hk => ⟨trivial, fun e_ => (hk.2) (by rw [e_]; rfl)⟩))) (fun _ h_ => Or.inr (h_)))) (fun _ hk => hk) (fun k_ hk_ => ((Kd.R_mono (ok' := fun k_ => ((fun _ => True)) k_ ∧ k_ ≠ go21) (Kd.R_apart' (HO530.out) (Kd.S_typed HO_7.out) (by decide)) (fun k_ hk => ⟨trivial, fun e_ => (hk.2) (by rw [e_]; rfl)⟩))).1 k_ hk_.symm); have hx25_0 := hcc25 0 _ rfl; (try simp only [show ((Kd.slice 5 (Kd.int .u8))).sz = 1 from rfl, Nat.mul_one, Nat.add_zero] at hx25_0); have hf25_0 := hfr25 0; (try simp only [show ((Kd.slice 5 (Kd.int .u8))).sz = 1 from rfl, Nat.mul_one, Nat.add_zero] at hf25_0); clear hcl25 hcc25 hfr25; clear hoki25 hH25; (try simp only [show ((Kd.slice 5 (Kd.int .u8))).sz = 1 from rfl, Nat.mul_one, Nat.add_zero] at HP25)) | ((with_reducible refine gate_store (t := 24) (p := 38) rfl ?_); refine store_event (t := 24) (p := 38) (v := ?vo_w26) (w1 := (w24.setCell ⟨go21, (x18_1 : Int).toNat, none⟩ (v529))) ?hg ?ho ?hn ?hr ?_; (case ho => rfl); (case hg => rfl); (case hn => rfl); (case hr => (obtain ⟨Az_, cz_, ez_⟩ := (by exact Kd.R_slice HO530.out); subst ez_; (go_simp; done))); intro w26 hw; have hg : w24.grownBy w26 (some go21) := (by rw [hw]; exact HP25.2); have hp_ : Kd.S (Kd.slice 5 (Kd.int .u8)) 24 w26 w.heap.size (fun _ => True) (.slice (some ⟨go21, 0, none⟩) x7_1.length co21) y531 := (by rw [hw, Ny531.out]; exact HP25.1); clear HP25; have n0_ := Aside0.mk (Kd.R_over' (v := (.slice (some ⟨go21, 0, none⟩) x7_1.length co21)) HO_6.out (Kd.S_typed HO_7.out) (by decide) hg); have n1_ := Aside0.mk (hp_); have n2_ := Aside0.mk ((by rw [hw]; exact below_set (HB.out) GB21.out : Below w.heap.size w w26)); revert n0_ n1_ n2_; clear HO_6 HO_7 HB HO530; intro HO_6 HO_7 HB; clear hg hw hp_))
              go_roundg k1
              case measure => have := HK1.out; omega
              case rel => exact ⟨(y526), (y531), (wrap64 (x18_1 + 1)), (by rfl), H', ⟨by have := HK1.out; omega⟩, ⟨by (with_reducible repeat (apply Kd.R_alloc)); exact HO_6.out⟩, ⟨by (with_reducible repeat (apply Kd.S_alloc)); exact HO_7.out⟩, ⟨by exact HB.out⟩⟩
             rw [if_neg c20] at H
             exact absurd H (by simp)
            rw [if_neg c18] at H
            exact absurd H (by simp)
           rw [if_neg c16] at H
           exact absurd H (by simp)
          rw [if_neg c15] at H
          exact absurd H (by simp)
         rw [if_neg c13] at H
         exact absurd H (by simp)
        rw [if_neg c12] at H
        exact absurd H (by simp)
       rw [if_neg c11] at H
       have c11b0 : decide (x18_1 < (l1.length : Int)) = false := decide_eq_false c11
       clear c11
       replace H := Option.bind_eq_some_iff.mp H
       obtain ⟨t532, A270, H⟩ := H
       (try dsimp only at H)
       have A27 := Aside0.mk A270
       clear A270
       by_cases c28 : t532 = true
       ·subst c28
        have H1 : (some (([] : List (List Int)), 5)) = some (r1, r2) := by rw [if_pos rfl] at H; exact H
        clear H
        have H := H1
        clear H1
        simp only [Option.some.injEq, Prod.mk.injEq] at H
        obtain ⟨rfl, rfl⟩ := H
        obtain ⟨Ao29, co29, eo29⟩ := Kd.R_slice HO_6.out
        subst eo29
        go_wp2_with ((refine goL_ Tryz.func148 #[.slice Ao29 x6_1.length co29, .bool false] ?_; (with_reducible refine (slices_Contains_bool_bool.calls k1 _ _ x6_1 false true _ ((Kd.R_reads' HO_6.out).2.2) ((Kd.R_reads' HO_6.out).2.1) A27.out).mono ?_); rintro e w' ⟨rfl, ⟨nd, rfl⟩⟩; refine ⟨_, rfl, ?_⟩))
        go_ret2
        exact ⟨_, by rfl, by exact Kd.S_nil _ _ _ _ _, by repeat ((with_reducible first | exact HB.out | apply pw_below_drewN))⟩
       replace c28 := Bool.eq_false_iff.mpr c28
       subst c28
       have H1 : (some (x7_1, 0)) = some (r1, r2) := by rw [if_neg (show ¬ (false = true) by decide)] at H; exact H
       clear H
       have H := H1
       clear H1
       simp only [Option.some.injEq, Prod.mk.injEq] at H
       obtain ⟨rfl, rfl⟩ := H
       obtain ⟨Ao30, co30, eo30⟩ := Kd.R_slice HO_6.out
       subst eo30
       go_wp2_with ((refine goL_ Tryz.func148 #[.slice Ao30 x6_1.length co30, .bool false] ?_; (with_reducible refine (slices_Contains_bool_bool.calls k1 _ _ x6_1 false false _ ((Kd.R_reads' HO_6.out).2.2) ((Kd.R_reads' HO_6.out).2.1) A27.out).mono ?_); rintro e w' ⟨rfl, ⟨nd, rfl⟩⟩; refine ⟨_, rfl, ?_⟩))
       go_ret2
       exact ⟨_, by rfl, by (with_reducible repeat (apply Kd.S_drewN)); exact HO_7.out, by repeat ((with_reducible first | exact HB.out | apply pw_below_drewN))⟩
    rw [if_neg c6] at H
    exact absurd H (by simp)
   rw [if_neg c5] at H
   exact absurd H (by simp)
  rw [if_neg c4] at H
  exact absurd H (by simp)
 rw [if_neg c3] at H
 exact absurd H (by simp)
def dict_Decode.l0 : Nat → List Int → Int → List (List Int) → List Int → Int → Int → Option ((List (List Int)) × Int)
 | 0, _, _, _, _, _, _ => none
 | k + 1, x0, x5, x7, x8, x25, x26 => if x26 < x25 then ((dict_entry.f k x0 x5 x8 (x26 == 0)).bind fun bt536 => (if bt536.2.2 = 0 then (if x7.length < 5864062014805 then (dict_Decode.l0 k x0 bt536.2.1 (x7 ++ [bt536.1]) bt536.1 x25 (IntKind.u64.wrap (x26 + 1))) else (none)) else (some (([] : List (List Int)), bt536.2.2)))) else ((vint_Get.f k x0 x5).bind fun bt544 => (if bt544.2.2 = 0 then (if bt544.1 > 4096 then (some (([] : List (List Int)), 4)) else (if 0 ≤ bt544.2.1 then (if bt544.2.1 ≤ (x0.length : Int) then ((dict_width.f k (x7.length : Int)).bind fun t552 => ((bits_Unpack.f k (x0.drop (bt544.2.1 : Int).toNat) t552 (wrap64 (bt544.1))).bind fun bt553 => (if bt553.2 = 0 then ((dict_texts.f k x7 bt553.1).bind fun bt557 => (some (bt557.1, bt557.2))) else (some (([] : List (List Int)), bt553.2))))) else (none)) else (none))) else (some (([] : List (List Int)), bt544.2.2))))
def dict_Decode.f (k : Nat) (l0 : List Int) : Option ((List (List Int)) × Int) := (vint_Get.f k l0 0).bind fun bt533 => (if bt533.2.2 = 0 then (if bt533.1 > 4096 then (some (([] : List (List Int)), 4)) else (dict_Decode.l0 k l0 bt533.2.1 ([] : List (List Int)) ([] : List Int) bt533.1 0)) else (some (([] : List (List Int)), bt533.2.2)))
def dict_Decode.T21 : Bool × List (List Nat × List Nat) := (true, [([], []), ([], []), ([0, 1], [0, 1]), ([], []), ([3], [3]), ([4], [4]), ([], []), ([6], [6]), ([2, 5, 7, 5], [2, 5, 7]), ([8], [8]), ([9], [9]), ([9], [9]), ([10, 8, 0, 1, 2, 3, 4, 5, 6, 7, 8, 9, 10], [10]), ([11, 12, 0, 1, 2, 3, 4, 5, 6, 7, 8, 9, 10, 11, 12], [11])])
def dict_Decode.B21 : List Nat := [0, 0, 3, 0, 8, 24, 0, 64, 255, 511, 1023, 1023, 2047, 8191]
theorem dict_Decode.tab21 : rtab .any (opsOf Tryz.f89 21) = dict_Decode.T21 := by kernel_rfl
theorem dict_Decode.bits21 : waitsOk dict_Decode.T21.2 dict_Decode.B21 = true := by kernel_rfl
set_option maxHeartbeats 8000000 in
set_option maxRecDepth 100000 in
theorem dict_Decode.calls (k : Nat) (P0_ : Nat → Prop) (A0 : Option Addr) (c0 : Nat) (l0 : List Int) (r1 : List (List Int)) (r2 : Int) (w : World) (hs0 : Kd.V (Kd.int .u8) 5 w w.heap.size (fun k_ => P0_ k_) (.slice A0 l0.length c0) l0) (h : dict_Decode.f k l0 = some (r1, r2)) :
 Calls Tryz.prog 89 #[.slice A0 l0.length c0] w fun e w' => ∃ v0_ : Value, e = .returned (.tuple #[v0_, .int .i64 r2]) ∧ Kd.N (Kd.slice 5 (Kd.int .u8)) 24 w' w.heap.size (fun k_ => (P0_ k_ ∨ w.heap.size ≤ k_)) v0_ r1 ∧ Below w.heap.size w w' := by
 have HO0 := Aside0.mk (show Kd.V (Kd.int .u8) 5 w w.heap.size (fun k_ => (P0_ k_ ∨ w.heap.size ≤ k_)) (.slice A0 l0.length c0) l0 from Kd.V_mono hs0 (fun k_ hk => .inl hk))
 have HB := Aside0.mk (Below.refl w.heap.size w)
 unfold dict_Decode.f at h
 have H := h
 clear h
 replace H := Option.bind_eq_some_iff.mp H
 obtain ⟨⟨t533, t534, t535⟩, A20, H⟩ := H
 (try dsimp only at H)
 have A2 := Aside0.mk A20
 clear A20
 by_cases c3 : t535 = 0
 ·rw [if_pos c3] at H
  have c3b0 : (t535 == 0) = true := beq_iff_eq.mpr c3
  have c3b1 : (t535 != 0) = false := bne_eq_false_iff_eq.mpr c3
  clear c3
  by_cases c4 : t533 > 4096
  ·rw [if_pos c4] at H
   have c4b0 : decide (4096 < t533) = true := decide_eq_true c4
   clear c4
   simp only [Option.some.injEq, Prod.mk.injEq] at H
   obtain ⟨rfl, rfl⟩ := H
   go_enter Tryz.func89, Tryz.ntmps89
   go_wp2_with ((refine goL_ Tryz.func45 #[.slice A0 l0.length c0, .int .i64 0] ?_; (with_reducible refine (vint_Get.calls k _ _ l0 0 t533 t534 t535 _ ((Kd.V_reads' HO0.out).2.2) ((Kd.V_reads' HO0.out).2.1) A2.out).mono ?_); rintro e w' ⟨rfl, ⟨nd, rfl⟩⟩; refine ⟨_, rfl, ?_⟩))
   go_ret2
   exact ⟨_, by rfl, by exact Kd.N_nil _ _ _ _ _, by repeat ((with_reducible first | exact HB.out | apply pw_below_drewN))⟩
  rw [if_neg c4] at H
  have c4b0 : decide (4096 < t533) = false := decide_eq_false c4
  clear c4
  have H' := Aside0.mk H
  clear H
  go_enter Tryz.func89, Tryz.ntmps89
  go_wp2_with ((refine goL_ Tryz.func45 #[.slice A0 l0.length c0, .int .i64 0] ?_; (with_reducible refine (vint_Get.calls k _ _ l0 0 t533 t534 t535 _ ((Kd.V_reads' HO0.out).2.2) ((Kd.V_reads' HO0.out).2.1) A2.out).mono ?_); rintro e w' ⟨rfl, ⟨nd, rfl⟩⟩; refine ⟨_, rfl, ?_⟩))
  go_loopg [5, 7, 8, 26] k (fun kq v5 v7 v8 v26 w' => ∃ (x5_1 : Int) (x7_1 : List (List Int)) (x8_1 : List Int) (x26_1 : Int), v5 = .int .i64 x5_1 ∧ v26 = .int .u64 x26_1 ∧ Aside0 (dict_Decode.l0 kq l0 x5_1 x7_1 x8_1 t533 x26_1 = some (r1, r2)) ∧ Aside0 (kq ≤ k) ∧ Aside0 (Kd.V (Kd.int .u8) 5 w' w.heap.size (fun k_ => (P0_ k_ ∨ w.heap.size ≤ k_) ∧ some k_ ≠ (v7 : Value).ownBlock) (.slice A0 l0.length c0) l0) ∧ Aside0 (Kd.N (Kd.slice 5 (Kd.int .u8)) 24 w' w.heap.size (fun k_ => (P0_ k_ ∨ w.heap.size ≤ k_)) v7 x7_1) ∧ Aside0 (Kd.V (Kd.int .u8) 5 w' w.heap.size (fun k_ => (P0_ k_ ∨ w.heap.size ≤ k_) ∧ some k_ ≠ (v7 : Value).ownBlock) v8 x8_1) ∧ Aside0 (Below w.heap.size w w'))
  case atStart => exact ⟨(t534), (([] : List (List Int))), (([] : List Int)), (0), (by rfl), (by rfl), H', ⟨Nat.le_refl _⟩, ⟨by (with_reducible repeat (apply Kd.V_drewN)); exact Kd.V_mono HO0.out (fun _ hk => ⟨hk, (by simp [Value.ownBlock])⟩)⟩, ⟨by exact Kd.N_nil _ _ _ _ _⟩, ⟨(Kd.V_nil _ _ _ _ _)⟩, ⟨by repeat ((with_reducible first | exact HB.out | apply pw_below_drewN))⟩⟩
  case round =>
   clear H'
   try clear c3b0
   try clear c3b1
   try clear c4b0
   obtain ⟨x5_1, x7_1, x8_1, x26_1, rfl, rfl, HA, HK1, HO_0, HO_7, HO_8, HB⟩ := hrel
   cases gk with
   | zero => exact absurd HA.out (by simp [dict_Decode.l0])
   | succ k1 =>
    have H := HA.out
    clear HA
    simp only [dict_Decode.l0] at H
    by_cases c5 : x26_1 < t533
    ·rw [if_pos c5] at H
     have c5b0 : decide (x26_1 < t533) = true := decide_eq_true c5
     clear c5
     replace H := Option.bind_eq_some_iff.mp H
     obtain ⟨⟨t536, t539, t540⟩, A60, H⟩ := H
     (try dsimp only at H)
     have A6 := Aside0.mk A60
     clear A60
     by_cases c7 : t540 = 0
     ·rw [if_pos c7] at H
      have c7b0 : (t540 == 0) = true := beq_iff_eq.mpr c7
      have c7b1 : (t540 != 0) = false := bne_eq_false_iff_eq.mpr c7
      clear c7
      by_cases c8 : x7_1.length < 5864062014805
      ·rw [if_pos c8] at H
       have LMc8 := Aside0.mk c8
       clear c8
       obtain ⟨y541, hy541⟩ : ∃ y_ : List (List Int), y_ = (x7_1 ++ [t536]) := ⟨_, rfl⟩
       replace H : (dict_Decode.l0 k1 l0 t539 y541 t536 t533 (IntKind.u64.wrap (x26_1 + 1))) = some (r1, r2) := by (rw [hy541]; with_reducible exact H)
       have Ny541 := Aside0.mk hy541
       clear hy541
       have H' := Aside0.mk H
       clear H
       obtain ⟨Ao9, co9, eo9⟩ := Kd.V_slice HO_8.out
       subst eo9
       go_wp2_with (first | ((with_reducible refine gate_callee (f := 128) rfl ?_); refine goL_ Tryz.func128 #[.slice A0 l0.length c0, .int .i64 x5_1, .slice Ao9 x8_1.length co9, .bool (x26_1 == 0)] ?_; (with_reducible refine (dict_entry.calls k1 (fun k_ => ((P0_ k_ ∨ w.heap.size ≤ k_) ∧ some k_ ≠ (u7 : Value).ownBlock)) _ _ l0 x5_1 _ _ x8_1 (x26_1 == 0) t536 t539 t540 _ (HO_0.out) ((Kd.V_reads' HO_8.out).2.2) ((Kd.V_reads' HO_8.out).2.1) A6.out).mono ?_); rintro e w10 ⟨v537, rfl, ho0, hb⟩; refine ⟨_, rfl, ?_⟩; have n0_ := Aside0.mk (Kd.V_below HO_0.out hb); have n1_ := Aside0.mk (Kd.N_below HO_7.out hb); have n2_ := Aside0.mk (Kd.V_below HO_8.out hb); have n3_ := Aside0.mk (Kd.V_lower (Kd.V_mono (ok' := fun k_ => (P0_ k_ ∨ w.heap.size ≤ k_) ∧ some k_ ≠ (u7 : Value).ownBlock) ho0 (fun k_ hk_ => ⟨Or.elim hk_ (fun hs_ => hs_.1) (fun hn_ => (.inr (Nat.le_trans (below_size HB.out) hn_))), Or.elim hk_ (fun hs_ => hs_.2) (fun hn_ => (Kd.fresh' (Kd.N_lt HO_7.out) k_ hn_))⟩)) (below_size HB.out)); have n4_ := Aside0.mk (below_step HB.out hb); revert n0_ n1_ n2_ n3_ n4_; clear HO_0 HO_7 HO_8 HB; intro HO_0 HO_7 HO_8 HO538 HB; (try clear hb); (try clear ho0); obtain ⟨Ao12, co12, eo12⟩ := Kd.V_slice HO538.out; subst eo12) | ((with_reducible refine gate_builtin (b := .append) (xs := #[.tmp 42, .tmp 44]) rfl ?_); at_builtin; refine Kd.N_append (Kd.slice 5 (Kd.int .u8)) (w0 := w) w.heap.size rfl (.tmp 42) (.tmp 44) 42 24 (.slice none 0 0) 24 rfl Tryz.underlying42 info24 rfl (by decide) (by omega) u7 x7_1 t536 [.slice Ao12 t536.length co12] (fun k_ => (P0_ k_ ∨ w.heap.size ≤ k_)) (fun k_ => ((fun k_ => (P0_ k_ ∨ w.heap.size ≤ k_))) k_ ∧ some k_ ≠ (u7 : Value).ownBlock) rfl rfl ?aP (fun _ hk => hk) ?aF ?aO ?aB ?aS ?aL ?_; (case aP => exact (Kd.FK_slice_mk (Kd.V_reads' (Kd.V_mono (ok' := (fun k_ => ((fun k_ => (P0_ k_ ∨ w.heap.size ≤ k_))) k_ ∧ some k_ ≠ (u7 : Value).ownBlock)) (HO538.out) (fun k_ hk => ⟨hk.1, hk.2⟩))).2.1 (Kd.V_F (Kd.V_mono (ok' := (fun k_ => ((fun k_ => (P0_ k_ ∨ w.heap.size ≤ k_))) k_ ∧ some k_ ≠ (u7 : Value).ownBlock)) (HO538.out) (fun k_ hk => ⟨hk.1, hk.2⟩))))); (case aB => exact HB.out); (case aF => exact (fun k_ hk => (.inr (Nat.le_trans (below_size HB.out) hk)))); (case aO => exact HO_7.out); (case aS => exact (below_size HB.out)); (case aL => have := LMc8.out; omega); intro v542 w11 ho hb hg hat; rw [← Ny541.out] at ho; have n0_ := Aside0.mk (Kd.V_afterv (ok := (fun k_ => (P0_ k_ ∨ w.heap.size ≤ k_))) HO_0.out hg hat); have n1_ := Aside0.mk (Kd.V_afterv (ok := (fun k_ => (P0_ k_ ∨ w.heap.size ≤ k_))) HO_8.out hg hat); have n2_ := Aside0.mk (Kd.V_afterv (ok := (fun k_ => (P0_ k_ ∨ w.heap.size ≤ k_))) HO538.out hg hat); have n3_ := Aside0.mk (hb); have n4_ := Aside0.mk (ho); revert n0_ n1_ n2_ n3_ n4_; clear HO_0 HO_8 HO538 HB HO_7; intro HO_0 HO_8 HO538 HB HO543; clear ho hb hg hat))
       go_roundg k1
       case measure => have := HK1.out; omega
       case rel => exact ⟨(t539), (y541), (t536), (IntKind.u64.wrap (x26_1 + 1)), (by rfl), (by rfl), H', ⟨by have := HK1.out; omega⟩, ⟨by (with_reducible repeat (apply Kd.V_alloc)); exact HO_0.out⟩, ⟨by (with_reducible repeat (apply Kd.N_alloc)); exact HO543.out⟩, ⟨by (with_reducible repeat (apply Kd.V_alloc)); exact HO538.out⟩, ⟨by exact HB.out⟩⟩
      rw [if_neg c8] at H
      exact absurd H (by simp)
     rw [if_neg c7] at H
     have c7b0 : (t540 == 0) = false := beq_eq_false_iff_ne.mpr c7
     have c7b1 : (t540 != 0) = true := bne_iff_ne.mpr c7
     simp only [Option.some.injEq, Prod.mk.injEq] at H
     obtain ⟨rfl, rfl⟩ := H
     obtain ⟨Ao13, co13, eo13⟩ := Kd.V_slice HO_8.out
     subst eo13
     go_wp2_with ((refine goL_ Tryz.func128 #[.slice A0 l0.length c0, .int .i64 x5_1, .slice Ao13 x8_1.length co13, .bool (x26_1 == 0)] ?_; (with_reducible refine (dict_entry.calls k1 (fun k_ => ((P0_ k_ ∨ w.heap.size ≤ k_) ∧ some k_ ≠ (u7 : Value).ownBlock)) _ _ l0 x5_1 _ _ x8_1 (x26_1 == 0) t536 t539 t540 _ (HO_0.out) ((Kd.V_reads' HO_8.out).2.2) ((Kd.V_reads' HO_8.out).2.1) A6.out).mono ?_); rintro e w14 ⟨v537, rfl, ho0, hb⟩; refine ⟨_, rfl, ?_⟩; have n0_ := Aside0.mk (Kd.V_below HO_0.out hb); have n1_ := Aside0.mk (Kd.N_below HO_7.out hb); have n2_ := Aside0.mk (Kd.V_below HO_8.out hb); have n3_ := Aside0.mk (Kd.V_lower (Kd.V_mono (ok' := fun k_ => (P0_ k_ ∨ w.heap.size ≤ k_) ∧ some k_ ≠ (u7 : Value).ownBlock) ho0 (fun k_ hk_ => ⟨Or.elim hk_ (fun hs_ => hs_.1) (fun hn_ => (.inr (Nat.le_trans (below_size HB.out) hn_))), Or.elim hk_ (fun hs_ => hs_.2) (fun hn_ => (Kd.fresh' (Kd.N_lt HO_7.out) k_ hn_))⟩)) (below_size HB.out)); have n4_ := Aside0.mk (below_step HB.out hb); revert n0_ n1_ n2_ n3_ n4_; clear HO_0 HO_7 HO_8 HB; intro HO_0 HO_7 HO_8 HO538 HB; (try clear hb); (try clear ho0)))
     go_ret2
     exact ⟨_, by rfl, by exact Kd.N_nil _ _ _ _ _, by exact HB.out⟩
    rw [if_neg c5] at H
    have c5b0 : decide (x26_1 < t533) = false := decide_eq_false c5
    clear c5
    replace H := Option.bind_eq_some_iff.mp H
    obtain ⟨⟨t544, t545, t546⟩, A150, H⟩ := H
    (try dsimp only at H)
    have A15 := Aside0.mk A150
    clear A150
    by_cases c16 : t546 = 0
    ·rw [if_pos c16] at H
     have c16b0 : (t546 == 0) = true := beq_iff_eq.mpr c16
     have c16b1 : (t546 != 0) = false := bne_eq_false_iff_eq.mpr c16
     clear c16
     by_cases c17 : t544 > 4096
     ·rw [if_pos c17] at H
      have c17b0 : decide (4096 < t544) = true := decide_eq_true c17
      clear c17
      simp only [Option.some.injEq, Prod.mk.injEq] at H
      obtain ⟨rfl, rfl⟩ := H
      go_wp2_with ((refine goL_ Tryz.func45 #[.slice A0 l0.length c0, .int .i64 x5_1] ?_; (with_reducible refine (vint_Get.calls k1 _ _ l0 x5_1 t544 t545 t546 _ ((Kd.V_reads' HO_0.out).2.2) ((Kd.V_reads' HO_0.out).2.1) A15.out).mono ?_); rintro e w' ⟨rfl, ⟨nd, rfl⟩⟩; refine ⟨_, rfl, ?_⟩))
      go_ret2
      exact ⟨_, by rfl, by exact Kd.N_nil _ _ _ _ _, by repeat ((with_reducible first | exact HB.out | apply pw_below_drewN))⟩
     rw [if_neg c17] at H
     have c17b0 : decide (4096 < t544) = false := decide_eq_false c17
     clear c17
     by_cases c18 : 0 ≤ t545
     ·rw [if_pos c18] at H
      have c18b0 := eq_true c18
      have c18b1 : decide (0 ≤ t545) = true := decide_eq_true c18
      clear c18
      by_cases c19 : t545 ≤ (l0.length : Int)
      ·rw [if_pos c19] at H
       have c19b0 := eq_true c19
       have c19b1 : decide (t545 ≤ (l0.length : Int)) = true := decide_eq_true c19
       clear c19
       obtain ⟨y547, hy547⟩ : ∃ y_ : List Int, y_ = (l0.drop (t545 : Int).toNat) := ⟨_, rfl⟩
       replace H : ((dict_width.f k1 (x7_1.length : Int)).bind fun t552 => ((bits_Unpack.f k1 y547 t552 (wrap64 (t544))).bind fun bt553 => (if bt553.2 = 0 then ((dict_texts.f k1 x7_1 bt553.1).bind fun bt557 => (some (bt557.1, bt557.2))) else (some (([] : List (List Int)), bt553.2))))) = some (r1, r2) := by (rw [hy547]; with_reducible exact H)
       have Ny547 := Aside0.mk hy547
       clear hy547
       replace H := Option.bind_eq_some_iff.mp H
       obtain ⟨t552, A200, H⟩ := H
       (try dsimp only at H)
       have A20 := Aside0.mk A200
       clear A200
       replace H := Option.bind_eq_some_iff.mp H
       obtain ⟨⟨t553, t554⟩, A210, H⟩ := H
       (try dsimp only at H)
       have A21 := Aside0.mk A210
       clear A210
       by_cases c22 : t554 = 0
       ·rw [if_pos c22] at H
        have c22b0 : (t554 == 0) = true := beq_iff_eq.mpr c22
        have c22b1 : (t554 != 0) = false := bne_eq_false_iff_eq.mpr c22
        clear c22
        replace H := Option.bind_eq_some_iff.mp H
        obtain ⟨⟨t557, t558⟩, A230, H⟩ := H
        (try dsimp only at H)
        have A23 := Aside0.mk A230
        clear A230
        simp only [Option.some.injEq, Prod.mk.injEq] at H
        obtain ⟨rfl, rfl⟩ := H
        try go_wp2_with ((refine goL_ Tryz.func45 #[.slice A0 l0.length c0, .int .i64 x5_1] ?_; (with_reducible refine (vint_Get.calls k1 _ _ l0 x5_1 t544 t545 t546 _ ((Kd.V_reads' HO_0.out).2.2) ((Kd.V_reads' HO_0.out).2.1) A15.out).mono ?_); rintro e w' ⟨rfl, ⟨nd, rfl⟩⟩; refine ⟨_, rfl, ?_⟩))
        (try (rw [drewN_self wr]; generalize hq_ : World.drewN wr _ = wr; have n0_ : Aside0 (Kd.V (Kd.int .u8) 5 wr w.heap.size (fun k_ => (P0_ k_ ∨ w.heap.size ≤ k_) ∧ some k_ ≠ (u7 : Value).ownBlock) (.slice A0 l0.length c0) l0) := ⟨by rw [← hq_]; exact (by (with_reducible repeat (apply Kd.V_drewN)); exact HO_0.out)⟩; have n1_ : Aside0 (Kd.N (Kd.slice 5 (Kd.int .u8)) 24 wr w.heap.size (fun k_ => (P0_ k_ ∨ w.heap.size ≤ k_)) u7 x7_1) := ⟨by rw [← hq_]; exact (by (with_reducible repeat (apply Kd.N_drewN)); exact HO_7.out)⟩; have n2_ : Aside0 (Kd.V (Kd.int .u8) 5 wr w.heap.size (fun k_ => (P0_ k_ ∨ w.heap.size ≤ k_) ∧ some k_ ≠ (u7 : Value).ownBlock) u8 x8_1) := ⟨by rw [← hq_]; exact (by (with_reducible repeat (apply Kd.V_drewN)); exact HO_8.out)⟩; have n3_ : Aside0 (Below w.heap.size w wr) := ⟨by rw [← hq_]; exact (by repeat ((with_reducible first | exact HB.out | apply pw_below_drewN)))⟩; clear HO_0 HO_7 HO_8 HB hq_; have HO_0 := n0_; have HO_7 := n1_; have HO_8 := n2_; have HB := n3_; clear n0_ n1_ n2_ n3_))
        have n0_ := Aside0.mk (Kd.V_drew HO_0.out)
        have n1_ := Aside0.mk (Kd.N_drew HO_7.out)
        have n2_ := Aside0.mk (Kd.V_drew HO_8.out)
        have n3_ := Aside0.mk (below_drew1 HB.out)
        clear HO_0
        clear HO_7
        clear HO_8
        clear HB
        have HO_0 := n0_
        have HO_7 := n1_
        have HO_8 := n2_
        have HB := n3_
        clear n0_ n1_ n2_ n3_
        have q25 : (t545 : Int) ≤ ((l0.length : Int) : Int) := of_decide_eq_true ‹_›
        obtain ⟨i025, hi025, _, hsz25, _⟩ := info_parts info5
        have hroom25 : l0.length ≤ c0 := (Kd.V_reads' HO_0.out).2.1
        have hC25 : Kd.F (Kd.int .u8) _ _ A0 l0.length l0 := (Kd.V_at (base := w.heap.size) HO_0.out).2.2
        have q025 : (0 : Int) ≤ (t545 : Int) := of_decide_eq_true ‹_›
        have hcut25 := cut_from (P := Tryz.prog) 24 5 .i64 Tryz.underlying24 hi025 1 hsz25 A0 l0.length c0 t545 q025 q25
        have hr25 := Kd.F_cut (m := (t545 : Int).toNat) (c := c0) hC25 (by omega) hroom25
        obtain ⟨A25, hA25⟩ : ∃ Az_, Az_ = (if c0 = (t545 : Int).toNat then A0 else (A0 : Option Addr).map (·.add ((t545 : Int).toNat * 1))) := ⟨_, rfl⟩
        obtain ⟨c25, hc25⟩ : ∃ cz_, cz_ = c0 - (t545 : Int).toNat := ⟨_, rfl⟩
        have hy25 : y547.length = l0.length - (t545 : Int).toNat := (by rw [Ny547.out, List.length_drop] <;> omega)
        rw [show (l0).drop (t545 : Int).toNat = y547 from Ny547.out.symm] at hr25
        replace hr25 : Kd.F (Kd.int .u8) _ _ A25 y547.length y547 := (by rw [hA25]; exact hr25)
        rw [← hy25, ← hA25, ← hc25] at hcut25
        have HO551 := Aside0.mk (show Kd.V (Kd.int .u8) 5 _ w.heap.size _ (.slice A25 y547.length c25) y547 from Kd.V_mk (by rw [hy25, hc25]; exact Nat.sub_le_sub_right hroom25 _) hr25)
        have HC551 := Aside0.mk (show y547.length ≤ c25 from by rw [hy25, hc25]; exact Nat.sub_le_sub_right hroom25 _)
        clear hr25 hC25 hroom25 hi025 hsz25 hc25
        have KY25 := Aside0.mk hy25
        have KA25 := Aside0.mk hA25
        clear hy25 hA25
        replace q25 := eq_true q25
        obtain ⟨Ao26, co26, eo26⟩ := Kd.N_slice HO_7.out
        (subst eo26)
        refine start_ (n := 14) (S := fun w' => True) (ds := []) #[false, false, false, false, false, false, false, false, false, false, false, false, false, false] (by kernel_rfl) rfl rfl trivial (fun hHeld => ?_); refine with_tabW dict_Decode.tab21 dict_Decode.bits21 (fun HT_ HW_ => ?_)
        generalize wr.drew = w24 at HO_0 HO_7 HO_8 HB HO551 hHeld ⊢
        refine pu_ 0 62 HT_ ?_; refine pu_ 1 63 HT_ ?_; refine pu_ 2 64 HT_ ?_; refine pu_ 3 65 HT_ ?_; refine pu_ 4 66 HT_ ?_; refine pu_ 6 68 HT_ ?_; refine pu_ 7 69 HT_ ?_
        refine on_ 5 67 HT_ (fun K hK => ?_)
        refine goe_ Tryz.func129 #[.int .i64 (x7_1.length : Int)] ?_
        with_reducible refine (dict_width.calls k1 (x7_1.length : Int) t552 _ A20.out).mono ?_
        rintro e w27 ⟨rfl, hb⟩
        refine ⟨_, rfl, ?_⟩
        have n0_ := Aside0.mk (Kd.V_below HO_0.out hb)
        have n1_ := Aside0.mk (Kd.N_below HO_7.out hb)
        have n2_ := Aside0.mk (Kd.V_below HO_8.out hb)
        have n3_ := Aside0.mk (Kd.V_below HO551.out hb)
        have n4_ := Aside0.mk (below_step HB.out hb)
        clear HO_0
        clear HO_7
        clear HO_8
        clear HO551
        clear HB
        have HO_0 := n0_
        have HO_7 := n1_
        have HO_8 := n2_
        have HO551 := n3_
        have HB := n4_
        clear n0_ n1_ n2_ n3_ n4_
        (try clear hb)
        refine hK.out _ _ trivial (fun hHeld => ?_)
        clear hK K
        refine nor_ ?_
        refine on_ 8 70 HT_ (fun K hK => ?_)
        refine goe_ Tryz.func82 #[.slice A25 y547.length c25, .int .i64 t552, .int .i64 (wrap64 (t544))] ?_
        with_reducible refine (bits_Unpack.calls k1 _ _ y547 t552 (wrap64 (t544)) t553 t554 _ ?side1 ?side2 A21.out).mono ?_
        (case side1 => repeat (exact (Kd.V_reads' HO551.out).2.2))
        (case side2 => exact (Kd.V_reads' HO551.out).2.1)
        rintro e w28 ⟨v555, rfl, ho0, hb⟩
        refine ⟨_, rfl, ?_⟩
        have n0_ := Aside0.mk (Kd.V_elder' HO_0.out (Kd.R_base ho0) hb)
        have n1_ := Aside0.mk (Kd.N_elder' HO_7.out (Kd.R_base ho0) hb)
        have n2_ := Aside0.mk (Kd.V_elder' HO_8.out (Kd.R_base ho0) hb)
        have n3_ := Aside0.mk (Kd.V_elder' HO551.out (Kd.R_base ho0) hb)
        have n4_ := Aside0.mk (Kd.R_lower (Kd.R_newM (M := fun k_ => (w.heap.size ≤ k_)) ho0 (below_size HB.out) (fun k_ h_ => h_)) (below_size HB.out))
        have n5_ := Aside0.mk (below_step HB.out hb)
        clear HO_0
        clear HO_7
        clear HO_8
        clear HO551
        clear HB
        have HO_0 := n0_
        have HO_7 := n1_
        have HO_8 := n2_
        have HO551 := n3_
        have HO556 := n4_
        have HB := n5_
        clear n0_ n1_ n2_ n3_ n4_ n5_
        (try clear hb)
        (try clear ho0)
        refine hK.out _ _ trivial (fun hHeld => ?_)
        clear hK K
        refine nor_ ?_
        refine pu_ 9 61 HT_ ?_; refine pu_ 10 71 HT_ ?_; refine pu_ 11 72 HT_ ?_; refine pu_ 12 11 HT_ ?_; refine pu_ 13 6 HT_ ?_
        refine done_ (done_of HT_.out (by kernel_rfl)) ?_
        obtain ⟨Ao29, co29, eo29⟩ := Kd.R_slice HO556.out
        subst eo29
        try go_wp2_with ((refine goL_ Tryz.func130 #[.slice Ao26 x7_1.length co26, .slice Ao29 t553.length co29] ?_; (with_reducible refine (dict_texts.calls k1 _ _ x7_1 _ _ t553 t557 t558 _ ((Kd.N_reads' HO_7.out).2.2) ((Kd.N_reads' HO_7.out).2.1) ((Kd.R_reads' HO556.out).2.2) ((Kd.R_reads' HO556.out).2.1) A23.out).mono ?_); rintro e w30 ⟨v559, rfl, ho0, hb⟩; refine ⟨_, rfl, ?_⟩; have n0_ := Aside0.mk (Kd.V_elder' HO_0.out (by exact Kd.N_base (Kd.S_N ho0)) hb); have n1_ := Aside0.mk (Kd.N_elder' HO_7.out (by exact Kd.N_base (Kd.S_N ho0)) hb); have n2_ := Aside0.mk (Kd.V_elder' HO_8.out (by exact Kd.N_base (Kd.S_N ho0)) hb); have n3_ := Aside0.mk (Kd.V_elder' HO551.out (by exact Kd.N_base (Kd.S_N ho0)) hb); have n4_ := Aside0.mk (Kd.R_below HO556.out hb); have n5_ := Aside0.mk (Kd.N_lower (Kd.N_mono (ok' := fun k_ => (P0_ k_ ∨ w.heap.size ≤ k_) ∧ some k_ ≠ (.slice Ao26 x7_1.length co26 : Value).ownBlock ∧ some k_ ≠ (.slice Ao29 t553.length co29 : Value).ownBlock) (Kd.S_N (Kd.S_bound ho0)) (fun k_ hk_ => ⟨(.inr (Nat.le_trans (below_size HB.out) hk_.2.1)), (Kd.fresh' (Kd.N_lt HO_7.out) k_ hk_.2.1), (Kd.fresh' (Kd.R_lt HO556.out) k_ hk_.2.1)⟩)) (below_size HB.out)); have n6_ := Aside0.mk (below_step HB.out hb); revert n0_ n1_ n2_ n3_ n4_ n5_ n6_; clear HO_0 HO_7 HO_8 HO551 HO556 HB; intro HO_0 HO_7 HO_8 HO551 HO556 HO560 HB; (try clear hb); (try clear ho0)))
        go_ret2
        exact ⟨_, by rfl, by (with_reducible repeat (apply Kd.N_alloc)); exact Kd.N_mono HO560.out (fun _ hk => hk.1), by exact HB.out⟩
       rw [if_neg c22] at H
       have c22b0 : (t554 == 0) = false := beq_eq_false_iff_ne.mpr c22
       have c22b1 : (t554 != 0) = true := bne_iff_ne.mpr c22
       simp only [Option.some.injEq, Prod.mk.injEq] at H
       obtain ⟨rfl, rfl⟩ := H
       try go_wp2_with ((refine goL_ Tryz.func45 #[.slice A0 l0.length c0, .int .i64 x5_1] ?_; (with_reducible refine (vint_Get.calls k1 _ _ l0 x5_1 t544 t545 t546 _ ((Kd.V_reads' HO_0.out).2.2) ((Kd.V_reads' HO_0.out).2.1) A15.out).mono ?_); rintro e w' ⟨rfl, ⟨nd, rfl⟩⟩; refine ⟨_, rfl, ?_⟩))
       (try (rw [drewN_self wr]; generalize hq_ : World.drewN wr _ = wr; have n0_ : Aside0 (Kd.V (Kd.int .u8) 5 wr w.heap.size (fun k_ => (P0_ k_ ∨ w.heap.size ≤ k_) ∧ some k_ ≠ (u7 : Value).ownBlock) (.slice A0 l0.length c0) l0) := ⟨by rw [← hq_]; exact (by (with_reducible repeat (apply Kd.V_drewN)); exact HO_0.out)⟩; have n1_ : Aside0 (Kd.N (Kd.slice 5 (Kd.int .u8)) 24 wr w.heap.size (fun k_ => (P0_ k_ ∨ w.heap.size ≤ k_)) u7 x7_1) := ⟨by rw [← hq_]; exact (by (with_reducible repeat (apply Kd.N_drewN)); exact HO_7.out)⟩; have n2_ : Aside0 (Kd.V (Kd.int .u8) 5 wr w.heap.size (fun k_ => (P0_ k_ ∨ w.heap.size ≤ k_) ∧ some k_ ≠ (u7 : Value).ownBlock) u8 x8_1) := ⟨by rw [← hq_]; exact (by (with_reducible repeat (apply Kd.V_drewN)); exact HO_8.out)⟩; have n3_ : Aside0 (Below w.heap.size w wr) := ⟨by rw [← hq_]; exact (by repeat ((with_reducible first | exact HB.out | apply pw_below_drewN)))⟩; clear HO_0 HO_7 HO_8 HB hq_; have HO_0 := n0_; have HO_7 := n1_; have HO_8 := n2_; have HB := n3_; clear n0_ n1_ n2_ n3_))
       have n0_ := Aside0.mk (Kd.V_drew HO_0.out)
       have n1_ := Aside0.mk (Kd.N_drew HO_7.out)
       have n2_ := Aside0.mk (Kd.V_drew HO_8.out)
       have n3_ := Aside0.mk (below_drew1 HB.out)
       clear HO_0
       clear HO_7
       clear HO_8
       clear HB
       have HO_0 := n0_
       have HO_7 := n1_
       have HO_8 := n2_
       have HB := n3_
       clear n0_ n1_ n2_ n3_
       have q32 : (t545 : Int) ≤ ((l0.length : Int) : Int) := of_decide_eq_true ‹_›
       obtain ⟨i032, hi032, _, hsz32, _⟩ := info_parts info5
       have hroom32 : l0.length ≤ c0 := (Kd.V_reads' HO_0.out).2.1
       have hC32 : Kd.F (Kd.int .u8) _ _ A0 l0.length l0 := (Kd.V_at (base := w.heap.size) HO_0.out).2.2
       have q032 : (0 : Int) ≤ (t545 : Int) := of_decide_eq_true ‹_›
       have hcut32 := cut_from (P := Tryz.prog) 24 5 .i64 Tryz.underlying24 hi032 1 hsz32 A0 l0.length c0 t545 q032 q32
       have hr32 := Kd.F_cut (m := (t545 : Int).toNat) (c := c0) hC32 (by omega) hroom32
       obtain ⟨A32, hA32⟩ : ∃ Az_, Az_ = (if c0 = (t545 : Int).toNat then A0 else (A0 : Option Addr).map (·.add ((t545 : Int).toNat * 1))) := ⟨_, rfl⟩
       obtain ⟨c32, hc32⟩ : ∃ cz_, cz_ = c0 - (t545 : Int).toNat := ⟨_, rfl⟩
       have hy32 : y547.length = l0.length - (t545 : Int).toNat := (by rw [Ny547.out, List.length_drop] <;> omega)
       rw [show (l0).drop (t545 : Int).toNat = y547 from Ny547.out.symm] at hr32
       replace hr32 : Kd.F (Kd.int .u8) _ _ A32 y547.length y547 := (by rw [hA32]; exact hr32)
       rw [← hy32, ← hA32, ← hc32] at hcut32
       have HO551 := Aside0.mk (show Kd.V (Kd.int .u8) 5 _ w.heap.size _ (.slice A32 y547.length c32) y547 from Kd.V_mk (by rw [hy32, hc32]; exact Nat.sub_le_sub_right hroom32 _) hr32)
       have HC551 := Aside0.mk (show y547.length ≤ c32 from by rw [hy32, hc32]; exact Nat.sub_le_sub_right hroom32 _)
       clear hr32 hC32 hroom32 hi032 hsz32 hc32
       have KY32 := Aside0.mk hy32
       have KA32 := Aside0.mk hA32
       clear hy32 hA32
       replace q32 := eq_true q32
       obtain ⟨Ao33, co33, eo33⟩ := Kd.N_slice HO_7.out
       (subst eo33)
       refine start_ (n := 14) (S := fun w' => True) (ds := []) #[false, false, false, false, false, false, false, false, false, false, false, false, false, false] (by kernel_rfl) rfl rfl trivial (fun hHeld => ?_); refine with_tabW dict_Decode.tab21 dict_Decode.bits21 (fun HT_ HW_ => ?_)
       generalize wr.drew = w31 at HO_0 HO_7 HO_8 HB HO551 hHeld ⊢
       refine pu_ 0 62 HT_ ?_; refine pu_ 1 63 HT_ ?_; refine pu_ 2 64 HT_ ?_; refine pu_ 3 65 HT_ ?_; refine pu_ 4 66 HT_ ?_; refine pu_ 6 68 HT_ ?_; refine pu_ 7 69 HT_ ?_
       refine on_ 5 67 HT_ (fun K hK => ?_)
       refine goe_ Tryz.func129 #[.int .i64 (x7_1.length : Int)] ?_
       with_reducible refine (dict_width.calls k1 (x7_1.length : Int) t552 _ A20.out).mono ?_
       rintro e w34 ⟨rfl, hb⟩
       refine ⟨_, rfl, ?_⟩
       have n0_ := Aside0.mk (Kd.V_below HO_0.out hb)
       have n1_ := Aside0.mk (Kd.N_below HO_7.out hb)
       have n2_ := Aside0.mk (Kd.V_below HO_8.out hb)
       have n3_ := Aside0.mk (Kd.V_below HO551.out hb)
       have n4_ := Aside0.mk (below_step HB.out hb)
       clear HO_0
       clear HO_7
       clear HO_8
       clear HO551
       clear HB
       have HO_0 := n0_
       have HO_7 := n1_
       have HO_8 := n2_
       have HO551 := n3_
       have HB := n4_
       clear n0_ n1_ n2_ n3_ n4_
       (try clear hb)
       refine hK.out _ _ trivial (fun hHeld => ?_)
       clear hK K
       refine nor_ ?_
       refine on_ 8 70 HT_ (fun K hK => ?_)
       refine goe_ Tryz.func82 #[.slice A32 y547.length c32, .int .i64 t552, .int .i64 (wrap64 (t544))] ?_
       with_reducible refine (bits_Unpack.calls k1 _ _ y547 t552 (wrap64 (t544)) t553 t554 _ ?side1 ?side2 A21.out).mono ?_
       (case side1 => repeat (exact (Kd.V_reads' HO551.out).2.2))
       (case side2 => exact (Kd.V_reads' HO551.out).2.1)
       rintro e w35 ⟨v555, rfl, ho0, hb⟩
       refine ⟨_, rfl, ?_⟩
       have n0_ := Aside0.mk (Kd.V_elder' HO_0.out (Kd.R_base ho0) hb)
       have n1_ := Aside0.mk (Kd.N_elder' HO_7.out (Kd.R_base ho0) hb)
       have n2_ := Aside0.mk (Kd.V_elder' HO_8.out (Kd.R_base ho0) hb)
       have n3_ := Aside0.mk (Kd.V_elder' HO551.out (Kd.R_base ho0) hb)
       have n4_ := Aside0.mk (Kd.R_lower (Kd.R_newM (M := fun k_ => (w.heap.size ≤ k_)) ho0 (below_size HB.out) (fun k_ h_ => h_)) (below_size HB.out))
       have n5_ := Aside0.mk (below_step HB.out hb)
       clear HO_0
       clear HO_7
       clear HO_8
       clear HO551
       clear HB
       have HO_0 := n0_
       have HO_7 := n1_
       have HO_8 := n2_
       have HO551 := n3_
       have HO556 := n4_
       have HB := n5_
       clear n0_ n1_ n2_ n3_ n4_ n5_
       (try clear hb)
       (try clear ho0)
       refine hK.out _ _ trivial (fun hHeld => ?_)
       clear hK K
       refine nor_ ?_
       refine pu_ 9 61 HT_ ?_; refine pu_ 10 71 HT_ ?_; refine pu_ 11 72 HT_ ?_; refine pu_ 12 11 HT_ ?_; refine pu_ 13 6 HT_ ?_
       refine done_ (done_of HT_.out (by kernel_rfl)) ?_
       try go_wp2
       go_ret2
       exact ⟨_, by rfl, by exact Kd.N_nil _ _ _ _ _, by exact HB.out⟩
      rw [if_neg c19] at H
      exact absurd H (by simp)
     rw [if_neg c18] at H
     exact absurd H (by simp)
    rw [if_neg c16] at H
    have c16b0 : (t546 == 0) = false := beq_eq_false_iff_ne.mpr c16
    have c16b1 : (t546 != 0) = true := bne_iff_ne.mpr c16
    simp only [Option.some.injEq, Prod.mk.injEq] at H
    obtain ⟨rfl, rfl⟩ := H
    go_wp2_with ((refine goL_ Tryz.func45 #[.slice A0 l0.length c0, .int .i64 x5_1] ?_; (with_reducible refine (vint_Get.calls k1 _ _ l0 x5_1 t544 t545 t546 _ ((Kd.V_reads' HO_0.out).2.2) ((Kd.V_reads' HO_0.out).2.1) A15.out).mono ?_); rintro e w' ⟨rfl, ⟨nd, rfl⟩⟩; refine ⟨_, rfl, ?_⟩))
    go_ret2
    exact ⟨_, by rfl, by exact Kd.N_nil _ _ _ _ _, by repeat ((with_reducible first | exact HB.out | apply pw_below_drewN))⟩
 rw [if_neg c3] at H
 have c3b0 : (t535 == 0) = false := beq_eq_false_iff_ne.mpr c3
 have c3b1 : (t535 != 0) = true := bne_iff_ne.mpr c3
 simp only [Option.some.injEq, Prod.mk.injEq] at H
 obtain ⟨rfl, rfl⟩ := H
 go_enter Tryz.func89, Tryz.ntmps89
 go_wp2_with ((refine goL_ Tryz.func45 #[.slice A0 l0.length c0, .int .i64 0] ?_; (with_reducible refine (vint_Get.calls k _ _ l0 0 t533 t534 t535 _ ((Kd.V_reads' HO0.out).2.2) ((Kd.V_reads' HO0.out).2.1) A2.out).mono ?_); rintro e w' ⟨rfl, ⟨nd, rfl⟩⟩; refine ⟨_, rfl, ?_⟩))
 go_ret2
 exact ⟨_, by rfl, by exact Kd.N_nil _ _ _ _ _, by repeat ((with_reducible first | exact HB.out | apply pw_below_drewN))⟩
def prefix_text.j0 : Nat → List Int → Int → List Int → Bool → Int → Int → Bool → Option (List Int × Int × Int)
 | 0, _, _, _, _, _, _, _ => none
 | k + 1, x0, x1, x2, x3, x11, x13, x36 => if x36 = true then (some (([] : List Int), 0, 5)) else (if x13 > (IntKind.u64.wrap (200 - x11)) then (some (([] : List Int), 0, 4)) else (if (wrap64 (x13)) > (wrap64 ((x0.length : Int) - x1)) then (some (([] : List Int), 0, 2)) else (if 0 ≤ x11 then (if x11 ≤ (x2.length : Int) then ((bytes_Clone.f (x2.take (x11 : Int).toNat)).bind fun t568 => (if 0 ≤ x1 then (if x1 ≤ (wrap64 (x1 + (wrap64 (x13)))) then (if (wrap64 (x1 + (wrap64 (x13)))) ≤ (x0.length : Int) then (if t568.length + ((x0.take ((wrap64 (x1 + (wrap64 (x13)))) : Int).toNat).drop (x1 : Int).toNat).length < 140737488355328 then ((some (t568 ++ ((x0.take ((wrap64 (x1 + (wrap64 (x13)))) : Int).toNat).drop (x1 : Int).toNat) : List Int)).bind fun y572 => (if x3 = true then (if 0 ≤ (y572.length : Int) then (if (y572.length : Int) ≤ (y572.length : Int) then (some ((y572.take ((y572.length : Int) : Int).toNat), wrap64 (x1 + (wrap64 (x13))), 0)) else (none)) else (none)) else ((prefix_shared.f k x2 y572).bind fun t580 => (if t580 = (wrap64 (x11)) then (if 0 ≤ (y572.length : Int) then (if (y572.length : Int) ≤ (y572.length : Int) then (some ((y572.take ((y572.length : Int) : Int).toNat), wrap64 (x1 + (wrap64 (x13))), 0)) else (none)) else (none)) else (some (([] : List Int), 0, 5)))))) else (none)) else (none)) else (none)) else (none))) else (none)) else (none))))
def prefix_text.f (k : Nat) (l0 : List Int) (a1 : Int) (l2 : List Int) (a3 : Bool) : Option (List Int × Int × Int) := (vint_Get.f k l0 a1).bind fun bt561 => (if bt561.2.2 = 0 then ((vint_Get.f k l0 bt561.2.1).bind fun bt564 => (if bt564.2.2 = 0 then (if bt561.1 > (IntKind.u64.wrap ((l2.length : Int))) then (prefix_text.j0 k l0 bt564.2.1 l2 a3 bt561.1 bt564.1 true) else (if a3 = true then (prefix_text.j0 k l0 bt564.2.1 l2 a3 bt561.1 bt564.1 (decide (bt561.1 > 0))) else (prefix_text.j0 k l0 bt564.2.1 l2 a3 bt561.1 bt564.1 false))) else (some (([] : List Int), 0, bt564.2.2)))) else (some (([] : List Int), 0, bt561.2.2)))
def prefix_text.T13 : Bool × List (List Nat × List Nat) := (true, [([], []), ([], []), ([0, 1], [0, 1]), ([2], [2]), ([], []), ([], []), ([], []), ([], []), ([7], [7]), ([6, 8], [6, 8]), ([4, 5, 9], [4, 5, 9]), ([3, 10, 3], [3, 10]), ([11, 11, 0, 1, 2, 3, 4, 5, 6, 7, 8, 9, 10, 11], [11])])
def prefix_text.B13 : List Nat := [0, 0, 3, 7, 0, 0, 0, 0, 128, 448, 1008, 2047, 4095]
theorem prefix_text.tab13 : rtab .any (opsOf Tryz.f131 13) = prefix_text.T13 := by kernel_rfl
theorem prefix_text.bits13 : waitsOk prefix_text.T13.2 prefix_text.B13 = true := by kernel_rfl
set_option maxHeartbeats 8000000 in
set_option maxRecDepth 100000 in
theorem prefix_text.calls (k : Nat) (A0 : Option Addr) (c0 : Nat) (l0 : List Int) (a1 : Int) (A2 : Option Addr) (c2 : Nat) (l2 : List Int) (a3 : Bool) (r1 : List Int) (r2 : Int) (r3 : Int) (w : World) (hr0 : Kd.C (Kd.int .u8) w A0 l0.length l0) (hc0 : l0.length ≤ c0) (hr2 : Kd.C (Kd.int .u8) w A2 l2.length l2) (hc2 : l2.length ≤ c2) (h : prefix_text.f k l0 a1 l2 a3 = some (r1, r2, r3)) :
 Calls Tryz.prog 131 #[.slice A0 l0.length c0, .int .i64 a1, .slice A2 l2.length c2, .bool a3] w fun e w' => ∃ v0_ : Value, e = .returned (.tuple #[v0_, .int .i64 r2, .int .i64 r3]) ∧ Kd.V (Kd.int .u8) 5 w' w.heap.size (fun k_ => (w.heap.size ≤ k_)) v0_ r1 ∧ Below w.heap.size w w' := by
 have HR0 := Aside0.mk hr0
 have HC0 := Aside0.mk hc0
 clear hr0 hc0
 have HR2 := Aside0.mk hr2
 have HC2 := Aside0.mk hc2
 clear hr2 hc2
 have HB := Aside0.mk (Below.refl w.heap.size w)
 unfold prefix_text.f at h
 have H := h
 clear h
 replace H := Option.bind_eq_some_iff.mp H
 obtain ⟨⟨t561, t562, t563⟩, A50, H⟩ := H
 (try dsimp only at H)
 have A5 := Aside0.mk A50
 clear A50
 by_cases c6 : t563 = 0
 ·rw [if_pos c6] at H
  have c6b0 : (t563 == 0) = true := beq_iff_eq.mpr c6
  have c6b1 : (t563 != 0) = false := bne_eq_false_iff_eq.mpr c6
  clear c6
  replace H := Option.bind_eq_some_iff.mp H
  obtain ⟨⟨t564, t565, t566⟩, A70, H⟩ := H
  (try dsimp only at H)
  have A7 := Aside0.mk A70
  clear A70
  by_cases c8 : t566 = 0
  ·rw [if_pos c8] at H
   have c8b0 : (t566 == 0) = true := beq_iff_eq.mpr c8
   have c8b1 : (t566 != 0) = false := bne_eq_false_iff_eq.mpr c8
   clear c8
   have HC9 := Aside0.mk H
   clear H
   go_enter Tryz.func131, Tryz.ntmps131
   go_upto_region 7 with (first | ((with_reducible refine gate_callee (f := 45) rfl ?_); refine goL_ Tryz.func45 #[.slice A0 l0.length c0, .int .i64 a1] ?_; (with_reducible refine (vint_Get.calls k _ _ l0 a1 t561 t562 t563 _ (HR0.out) (HC0.out) A5.out).mono ?_); rintro e w' ⟨rfl, ⟨nd, rfl⟩⟩; refine ⟨_, rfl, ?_⟩) | ((with_reducible refine gate_callee (f := 45) rfl ?_); refine goL_ Tryz.func45 #[.slice A0 l0.length c0, .int .i64 t562] ?_; (with_reducible refine (vint_Get.calls k _ _ l0 t562 t564 t565 t566 _ ?side1 ?side2 A7.out).mono ?_); (case side1 => repeat (exact HR0.out)); (case side2 => exact HC0.out); rintro e w' ⟨rfl, ⟨nd, rfl⟩⟩; refine ⟨_, rfl, ?_⟩))
   go_cut [36] (fun v36 wc => ∃ (kq : Nat) (x36_8 : Bool), v36 = .bool x36_8 ∧ Aside0 (prefix_text.j0 kq l0 t565 l2 a3 t561 t564 x36_8 = some (r1, r2, r3)) ∧ Aside0 (kq ≤ k) ∧ Aside0 (Below w.heap.size w wc))
   case first =>
    have H := HC9.out
    clear HC9
    by_cases c10 : t561 > (IntKind.u64.wrap ((l2.length : Int)))
    ·rw [if_pos c10] at H
     have c10b0 : decide ((IntKind.u64.wrap ((l2.length : Int))) < t561) = true := decide_eq_true c10
     clear c10
     have H' := Aside0.mk H
     clear H
     go_wp2
     go_meet
     case rel => exact ⟨_, (true), (by rfl), H', ⟨by omega⟩, ⟨by repeat ((with_reducible first | exact HB.out | apply pw_below_drewN))⟩⟩
    rw [if_neg c10] at H
    have c10b0 : decide ((IntKind.u64.wrap ((l2.length : Int))) < t561) = false := decide_eq_false c10
    clear c10
    by_cases c11 : a3 = true
    ·subst c11
     have H1 : (prefix_text.j0 k l0 t565 l2 true t561 t564 (decide (t561 > 0))) = some (r1, r2, r3) := by rw [if_pos rfl] at H; exact H
     clear H
     have H := H1
     clear H1
     have H' := Aside0.mk H
     clear H
     go_wp2
     go_meet
     case rel => exact ⟨_, (decide (t561 > 0)), (by rfl), H', ⟨by omega⟩, ⟨by repeat ((with_reducible first | exact HB.out | apply pw_below_drewN))⟩⟩
    replace c11 := Bool.eq_false_iff.mpr c11
    subst c11
    have H1 : (prefix_text.j0 k l0 t565 l2 false t561 t564 false) = some (r1, r2, r3) := by rw [if_neg (show ¬ (false = true) by decide)] at H; exact H
    clear H
    have H := H1
    clear H1
    have H' := Aside0.mk H
    clear H
    go_wp2
    go_meet
    case rel => exact ⟨_, (false), (by rfl), H', ⟨by omega⟩, ⟨by repeat ((with_reducible first | exact HB.out | apply pw_below_drewN))⟩⟩
   case rest =>
    clear HC9
    try clear c6b0
    try clear c6b1
    try clear c8b0
    try clear c8b1
    obtain ⟨kq, x36_8, rfl, HA, HJ8, HB⟩ := hcut
    cases kq with
    | zero => exact absurd HA.out (by simp [prefix_text.j0])
    | succ kj8 =>
     have H := HA.out
     clear HA
     simp only [prefix_text.j0] at H
     by_cases c12 : x36_8 = true
     ·subst c12
      have H1 : (some (([] : List Int), 0, 5)) = some (r1, r2, r3) := by rw [if_pos rfl] at H; exact H
      clear H
      have H := H1
      clear H1
      simp only [Option.some.injEq, Prod.mk.injEq] at H
      obtain ⟨rfl, rfl, rfl⟩ := H
      go_wp2
      go_ret3
      exact ⟨_, by rfl, (Kd.V_nil _ _ _ _ _), by exact HB.out⟩
     replace c12 := Bool.eq_false_iff.mpr c12
     subst c12
     have H1 : (if t564 > (IntKind.u64.wrap (200 - t561)) then (some (([] : List Int), 0, 4)) else (if (wrap64 (t564)) > (wrap64 ((l0.length : Int) - t565)) then (some (([] : List Int), 0, 2)) else (if 0 ≤ t561 then (if t561 ≤ (l2.length : Int) then ((bytes_Clone.f (l2.take (t561 : Int).toNat)).bind fun t568 => (if 0 ≤ t565 then (if t565 ≤ (wrap64 (t565 + (wrap64 (t564)))) then (if (wrap64 (t565 + (wrap64 (t564)))) ≤ (l0.length : Int) then (if t568.length + ((l0.take ((wrap64 (t565 + (wrap64 (t564)))) : Int).toNat).drop (t565 : Int).toNat).length < 140737488355328 then ((some (t568 ++ ((l0.take ((wrap64 (t565 + (wrap64 (t564)))) : Int).toNat).drop (t565 : Int).toNat) : List Int)).bind fun y572 => (if a3 = true then (if 0 ≤ (y572.length : Int) then (if (y572.length : Int) ≤ (y572.length : Int) then (some ((y572.take ((y572.length : Int) : Int).toNat), wrap64 (t565 + (wrap64 (t564))), 0)) else (none)) else (none)) else ((prefix_shared.f kj8 l2 y572).bind fun t580 => (if t580 = (wrap64 (t561)) then (if 0 ≤ (y572.length : Int) then (if (y572.length : Int) ≤ (y572.length : Int) then (some ((y572.take ((y572.length : Int) : Int).toNat), wrap64 (t565 + (wrap64 (t564))), 0)) else (none)) else (none)) else (some (([] : List Int), 0, 5)))))) else (none)) else (none)) else (none)) else (none))) else (none)) else (none)))) = some (r1, r2, r3) := by rw [if_neg (show ¬ (false = true) by decide)] at H; exact H
     clear H
     have H := H1
     clear H1
     by_cases c13 : t564 > (IntKind.u64.wrap (200 - t561))
     ·rw [if_pos c13] at H
      have c13b0 : decide ((IntKind.u64.wrap (200 - t561)) < t564) = true := decide_eq_true c13
      clear c13
      simp only [Option.some.injEq, Prod.mk.injEq] at H
      obtain ⟨rfl, rfl, rfl⟩ := H
      go_wp2
      go_ret3
      exact ⟨_, by rfl, (Kd.V_nil _ _ _ _ _), by exact HB.out⟩
     rw [if_neg c13] at H
     have c13b0 : decide ((IntKind.u64.wrap (200 - t561)) < t564) = false := decide_eq_false c13
     clear c13
     by_cases c14 : (wrap64 (t564)) > (wrap64 ((l0.length : Int) - t565))
     ·rw [if_pos c14] at H
      have c14b0 : decide ((wrap64 ((l0.length : Int) - t565)) < (wrap64 (t564))) = true := decide_eq_true c14
      clear c14
      simp only [Option.some.injEq, Prod.mk.injEq] at H
      obtain ⟨rfl, rfl, rfl⟩ := H
      go_wp2
      go_ret3
      exact ⟨_, by rfl, (Kd.V_nil _ _ _ _ _), by exact HB.out⟩
     rw [if_neg c14] at H
     have c14b0 : decide ((wrap64 ((l0.length : Int) - t565)) < (wrap64 (t564))) = false := decide_eq_false c14
     clear c14
     by_cases c15 : 0 ≤ t561
     ·rw [if_pos c15] at H
      have c15b0 := eq_true c15
      have c15b1 : decide (0 ≤ t561) = true := decide_eq_true c15
      clear c15
      by_cases c16 : t561 ≤ (l2.length : Int)
      ·rw [if_pos c16] at H
       have c16b0 := eq_true c16
       have c16b1 : decide (t561 ≤ (l2.length : Int)) = true := decide_eq_true c16
       clear c16
       replace H := Option.bind_eq_some_iff.mp H
       obtain ⟨t568, A170, H⟩ := H
       (try dsimp only at H)
       have A17 := Aside0.mk A170
       clear A170
       by_cases c18 : 0 ≤ t565
       ·rw [if_pos c18] at H
        have c18b0 := eq_true c18
        have c18b1 : decide (0 ≤ t565) = true := decide_eq_true c18
        clear c18
        by_cases c19 : t565 ≤ (wrap64 (t565 + (wrap64 (t564))))
        ·rw [if_pos c19] at H
         have c19b0 := eq_true c19
         have c19b1 : decide (t565 ≤ (wrap64 (t565 + (wrap64 (t564))))) = true := decide_eq_true c19
         by_cases c20 : (wrap64 (t565 + (wrap64 (t564)))) ≤ (l0.length : Int)
         ·rw [if_pos c20] at H
          have c20b0 := eq_true c20
          have c20b1 : decide ((wrap64 (t565 + (wrap64 (t564)))) ≤ (l0.length : Int)) = true := decide_eq_true c20
          by_cases c21 : t568.length + ((l0.take ((wrap64 (t565 + (wrap64 (t564)))) : Int).toNat).drop (t565 : Int).toNat).length < 140737488355328
          ·rw [if_pos c21] at H
           have LMc21 := Aside0.mk c21
           clear c21
           obtain ⟨y572, hy572⟩ : ∃ y_ : List Int, y_ = (t568 ++ ((l0.take ((wrap64 (t565 + (wrap64 (t564)))) : Int).toNat).drop (t565 : Int).toNat)) := ⟨_, rfl⟩
           replace H : (if a3 = true then (if 0 ≤ (y572.length : Int) then (if (y572.length : Int) ≤ (y572.length : Int) then (some ((y572.take ((y572.length : Int) : Int).toNat), wrap64 (t565 + (wrap64 (t564))), 0)) else (none)) else (none)) else ((prefix_shared.f kj8 l2 y572).bind fun t580 => (if t580 = (wrap64 (t561)) then (if 0 ≤ (y572.length : Int) then (if (y572.length : Int) ≤ (y572.length : Int) then (some ((y572.take ((y572.length : Int) : Int).toNat), wrap64 (t565 + (wrap64 (t564))), 0)) else (none)) else (none)) else (some (([] : List Int), 0, 5))))) = some (r1, r2, r3) := by (have H2_ := (Option.bind_some _ _).symm.trans H; rw [hy572]; with_reducible exact H2_)
           have Ny572 := Aside0.mk hy572
           clear hy572
           by_cases c22 : a3 = true
           ·subst c22
            have H1 : (if 0 ≤ (y572.length : Int) then (if (y572.length : Int) ≤ (y572.length : Int) then (some ((y572.take ((y572.length : Int) : Int).toNat), wrap64 (t565 + (wrap64 (t564))), 0)) else (none)) else (none)) = some (r1, r2, r3) := by rw [if_pos rfl] at H; exact H
            clear H
            have H := H1
            clear H1
            by_cases c23 : 0 ≤ (y572.length : Int)
            ·rw [if_pos c23] at H
             have c23b0 := eq_true c23
             have c23b1 : decide (0 ≤ (y572.length : Int)) = true := decide_eq_true c23
             clear c23
             by_cases c24 : (y572.length : Int) ≤ (y572.length : Int)
             ·rw [if_pos c24] at H
              have c24b0 := eq_true c24
              have c24b1 : decide ((y572.length : Int) ≤ (y572.length : Int)) = true := decide_eq_true c24
              clear c24
              obtain ⟨y575, hy575⟩ : ∃ y_ : List Int, y_ = (y572.take ((y572.length : Int) : Int).toNat) := ⟨_, rfl⟩
              replace H : (some (y575, wrap64 (t565 + (wrap64 (t564))), 0)) = some (r1, r2, r3) := by (rw [hy575]; with_reducible exact H)
              have Ny575 := Aside0.mk hy575
              clear hy575
              simp only [Option.some.injEq, Prod.mk.injEq] at H
              obtain ⟨rfl, rfl, rfl⟩ := H
              try go_wp2
              have n0_ := Aside0.mk (below_drew1 HB.out)
              clear HB
              have HB := n0_
              clear n0_
              obtain ⟨i026, hi026, _, hsz26, _⟩ := info_parts info5
              obtain ⟨hcut26, hA26, hC26⟩ := print_take_of (P := Tryz.prog) (Value.int .u8) 0 24 5 .u64 Tryz.underlying24 hi026 hsz26 A2 c2 l2 t561 (of_decide_eq_true ‹_›) (of_decide_eq_true ‹_›) HC2.out
              have HR567 := Aside0.mk (Kd.C_of_reads (h1 := fun _ => rfl) (hA26 _ (Kd.reads_of_C HR2.out)))
              have HC567 := Aside0.mk hC26
              clear hA26 hC26 hi026 hsz26
              obtain ⟨i027, hi027, _, hsz27, _⟩ := info_parts info5
              obtain ⟨A27, hcut27, hA27, hC27⟩ := print_mid_of (P := Tryz.prog) (Value.int .u8) 0 24 5 .i64 .i64 Tryz.underlying24 hi027 hsz27 A0 c0 l0 t565 (wrap64 (t565 + (wrap64 (t564)))) (of_decide_eq_true ‹_›) (by omega) (of_decide_eq_true ‹_›) HC0.out
              have HR571 := Aside0.mk (Kd.C_of_reads (h1 := fun _ => rfl) (hA27 _ (Kd.reads_of_C HR0.out)))
              have HC571 := Aside0.mk hC27
              clear hA27 hC27 hi027 hsz27
              refine start_ (n := 13) (S := fun w' => True) (ds := []) #[false, false, false, false, false, false, false, false, false, false, false, false, false] (by kernel_rfl) rfl rfl trivial (fun hHeld => ?_); refine with_tabW prefix_text.tab13 prefix_text.bits13 (fun HT_ HW_ => ?_)
              generalize wc.drew = w25 at HB HR567 HR571 hHeld ⊢
              refine pu_ 0 62 HT_ ?_; refine pu_ 1 63 HT_ ?_; refine pu_ 2 64 HT_ ?_; refine pu_ 4 66 HT_ ?_; refine pu_ 5 67 HT_ ?_; refine pu_ 6 68 HT_ ?_; refine pu_ 7 69 HT_ ?_; refine pu_ 8 70 HT_ ?_; refine pu_ 9 71 HT_ ?_; refine pu_ 10 72 HT_ ?_
              refine on_ 3 65 HT_ (fun K hK => ?_)
              refine goes_ Tryz.func61 (by kernel_rfl) rfl #[.slice A2 (l2.take (t561 : Int).toNat).length c2] (by rfl) rfl rfl (by (try simp only [List.map_toArray, List.map_cons, List.map_nil]); (rw [show (l2.take (t561 : Int).toNat).length = t561.toNat from (by rw [List.length_take]; have h_ : (t561 : Int) ≤ (l2.length : Int) := of_decide_eq_true ‹_›; omega)] <;> rfl)) ?_
              with_reducible refine (bytes_Clone.calls _ _ (l2.take (t561 : Int).toNat) t568 _ ?side1 ?side2 A17.out).mono ?_
              (case side1 => repeat (exact (Kd.C_below HR567.out HB.out)))
              (case side2 => exact HC567.out)
              rintro e w28 ⟨v569, rfl, ho0, hb⟩
              refine ⟨_, rfl, ?_⟩
              have n0_ := Aside0.mk (Kd.R_lower (Kd.R_newM (M := fun k_ => (w.heap.size ≤ k_)) ho0 (below_size HB.out) (fun k_ h_ => h_)) (below_size HB.out))
              have n1_ := Aside0.mk (below_step HB.out hb)
              clear HB
              have HO570 := n0_
              have HB := n1_
              clear n0_ n1_
              (try clear hb)
              (try clear ho0)
              refine hK.out _ _ trivial (fun hHeld => ?_)
              clear hK K
              refine nor_ ?_
              refine on_ 11 73 HT_ (fun K hK => ?_)
              refine Kd.R_append_rows_step (Kd.int .u8) (w0 := w) w.heap.size (by rfl) (.tmp 65) (.tmp 72) 24 5 (.int .u8 0) 1 rfl Tryz.underlying24 info5 rfl (by decide) (by omega) v569 t568 ((l0.take ((wrap64 (t565 + (wrap64 (t564)))) : Int).toNat).drop (t565 : Int).toNat) _ _ _ (fun k_ => (w.heap.size ≤ k_)) (fun _ => False) rfl rfl ?aO ?aR (fun _ _ h => h) (fun _ h => h.elim) ?aF ?aB ?aS ?aL ?_
              (case aR => (rw [← show ((l0.take ((wrap64 (t565 + (wrap64 (t564)))) : Int).toNat).drop (t565 : Int).toNat).length = ((wrap64 (t565 + (wrap64 (t564)))).toNat - t565.toNat) from (by rw [List.length_drop, List.length_take]; have h_ : ((wrap64 (t565 + (wrap64 (t564)))) : Int) ≤ (l0.length : Int) := of_decide_eq_true ‹_›; omega)]; repeat (exact (Kd.C_below HR571.out HB.out))))
              (case aB => exact HB.out)
              (case aF => exact (fun k_ hk => (Nat.le_trans (below_size HB.out) hk)))
              (case aO => exact (by (with_reducible repeat (apply Kd.R_alloc)); exact Kd.R_mono HO570.out (fun _ hk => by exact hk.1)))
              (case aS => exact (below_size HB.out))
              (case aL => have := LMc21.out; have hlx_ := (show ((l0.take ((wrap64 (t565 + (wrap64 (t564)))) : Int).toNat).drop (t565 : Int).toNat).length = ((wrap64 (t565 + (wrap64 (t564)))).toNat - t565.toNat) from (by rw [List.length_drop, List.length_take]; have h_ : ((wrap64 (t565 + (wrap64 (t564)))) : Int) ≤ (l0.length : Int) := of_decide_eq_true ‹_›; omega)); omega)
              intro v573 w29 ho hb hg hat
              rw [← Ny572.out] at ho
              have n0_ := Aside0.mk (hb)
              have n1_ := Aside0.mk (ho)
              clear HB
              clear HO570
              have HB := n0_
              have HO574 := n1_
              clear n0_ n1_
              clear ho hb hg hat
              refine hK.out _ _ trivial (fun hHeld => ?_)
              clear hK K
              refine nor_ ?_
              refine pu_ 12 14 HT_ ?_
              refine done_ (done_of HT_.out (by kernel_rfl)) ?_
              obtain ⟨Ao30, co30, eo30⟩ := Kd.R_slice HO574.out
              subst eo30
              have q31 : ((y572.length : Int) : Int) ≤ ((y572.length : Int) : Int) := of_decide_eq_true ‹_›
              obtain ⟨i031, hi031, _, hsz31, _⟩ := info_parts info5
              have hroom31 : y572.length ≤ co30 := (Kd.R_reads' HO574.out).2.1
              have hC31 : Kd.F (Kd.int .u8) _ _ Ao30 y572.length y572 := (Kd.V_at (base := w.heap.size) (Kd.R_V HO574.out)).2.2
              have hcut31 := cut_full (P := Tryz.prog) 24 5 .i64 Tryz.underlying24 hi031 Ao30 y572.length co30 (y572.length : Int) (of_decide_eq_true ‹_›) q31 hroom31
              have hr31 := Kd.F_take (m := ((y572.length : Int) : Int).toNat) hC31 (by omega)
              have hy31 : y575.length = ((y572.length : Int) : Int).toNat := (by rw [Ny575.out, List.length_take]; omega)
              rw [← Ny575.out] at hr31
              rw [← hy31] at hcut31
              have HO579 := Aside0.mk (show Kd.V (Kd.int .u8) 5 _ w.heap.size _ (.slice Ao30 y575.length y575.length) y575 from Kd.V_mk (by omega) hr31)
              have HC579 := Aside0.mk (show y575.length ≤ y575.length from by omega)
              clear hr31 hC31 hroom31 hi031 hsz31
              have KY31 := Aside0.mk hy31
              clear hy31
              replace q31 := eq_true q31
              try go_wp2
              go_ret3
              exact ⟨_, by rfl, by (with_reducible repeat (apply Kd.V_alloc)); exact HO579.out, by exact HB.out⟩
             rw [if_neg c24] at H
             exact absurd H (by simp)
            rw [if_neg c23] at H
            exact absurd H (by simp)
           replace c22 := Bool.eq_false_iff.mpr c22
           subst c22
           have H1 : ((prefix_shared.f kj8 l2 y572).bind fun t580 => (if t580 = (wrap64 (t561)) then (if 0 ≤ (y572.length : Int) then (if (y572.length : Int) ≤ (y572.length : Int) then (some ((y572.take ((y572.length : Int) : Int).toNat), wrap64 (t565 + (wrap64 (t564))), 0)) else (none)) else (none)) else (some (([] : List Int), 0, 5)))) = some (r1, r2, r3) := by rw [if_neg (show ¬ (false = true) by decide)] at H; exact H
           clear H
           have H := H1
           clear H1
           replace H := Option.bind_eq_some_iff.mp H
           obtain ⟨t580, A320, H⟩ := H
           (try dsimp only at H)
           have A32 := Aside0.mk A320
           clear A320
           by_cases c33 : t580 = (wrap64 (t561))
           ·rw [if_pos c33] at H
            have c33b0 : (t580 == (wrap64 (t561))) = true := beq_iff_eq.mpr c33
            have c33b1 : (t580 != (wrap64 (t561))) = false := bne_eq_false_iff_eq.mpr c33
            clear c33
            by_cases c34 : 0 ≤ (y572.length : Int)
            ·rw [if_pos c34] at H
             have c34b0 := eq_true c34
             have c34b1 : decide (0 ≤ (y572.length : Int)) = true := decide_eq_true c34
             clear c34
             by_cases c35 : (y572.length : Int) ≤ (y572.length : Int)
             ·rw [if_pos c35] at H
              have c35b0 := eq_true c35
              have c35b1 : decide ((y572.length : Int) ≤ (y572.length : Int)) = true := decide_eq_true c35
              clear c35
              obtain ⟨y581, hy581⟩ : ∃ y_ : List Int, y_ = (y572.take ((y572.length : Int) : Int).toNat) := ⟨_, rfl⟩
              replace H : (some (y581, wrap64 (t565 + (wrap64 (t564))), 0)) = some (r1, r2, r3) := by (rw [hy581]; with_reducible exact H)
              have Ny581 := Aside0.mk hy581
              clear hy581
              simp only [Option.some.injEq, Prod.mk.injEq] at H
              obtain ⟨rfl, rfl, rfl⟩ := H
              try go_wp2
              have n0_ := Aside0.mk (below_drew1 HB.out)
              clear HB
              have HB := n0_
              clear n0_
              obtain ⟨i037, hi037, _, hsz37, _⟩ := info_parts info5
              obtain ⟨hcut37, hA37, hC37⟩ := print_take_of (P := Tryz.prog) (Value.int .u8) 0 24 5 .u64 Tryz.underlying24 hi037 hsz37 A2 c2 l2 t561 (of_decide_eq_true ‹_›) (of_decide_eq_true ‹_›) HC2.out
              have HR567 := Aside0.mk (Kd.C_of_reads (h1 := fun _ => rfl) (hA37 _ (Kd.reads_of_C HR2.out)))
              have HC567 := Aside0.mk hC37
              clear hA37 hC37 hi037 hsz37
              obtain ⟨i038, hi038, _, hsz38, _⟩ := info_parts info5
              obtain ⟨A38, hcut38, hA38, hC38⟩ := print_mid_of (P := Tryz.prog) (Value.int .u8) 0 24 5 .i64 .i64 Tryz.underlying24 hi038 hsz38 A0 c0 l0 t565 (wrap64 (t565 + (wrap64 (t564)))) (of_decide_eq_true ‹_›) (by omega) (of_decide_eq_true ‹_›) HC0.out
              have HR571 := Aside0.mk (Kd.C_of_reads (h1 := fun _ => rfl) (hA38 _ (Kd.reads_of_C HR0.out)))
              have HC571 := Aside0.mk hC38
              clear hA38 hC38 hi038 hsz38
              refine start_ (n := 13) (S := fun w' => True) (ds := []) #[false, false, false, false, false, false, false, false, false, false, false, false, false] (by kernel_rfl) rfl rfl trivial (fun hHeld => ?_); refine with_tabW prefix_text.tab13 prefix_text.bits13 (fun HT_ HW_ => ?_)
              generalize wc.drew = w36 at HB HR567 HR571 hHeld ⊢
              refine pu_ 0 62 HT_ ?_; refine pu_ 1 63 HT_ ?_; refine pu_ 2 64 HT_ ?_; refine pu_ 4 66 HT_ ?_; refine pu_ 5 67 HT_ ?_; refine pu_ 6 68 HT_ ?_; refine pu_ 7 69 HT_ ?_; refine pu_ 8 70 HT_ ?_; refine pu_ 9 71 HT_ ?_; refine pu_ 10 72 HT_ ?_
              refine on_ 3 65 HT_ (fun K hK => ?_)
              refine goes_ Tryz.func61 (by kernel_rfl) rfl #[.slice A2 (l2.take (t561 : Int).toNat).length c2] (by rfl) rfl rfl (by (try simp only [List.map_toArray, List.map_cons, List.map_nil]); (rw [show (l2.take (t561 : Int).toNat).length = t561.toNat from (by rw [List.length_take]; have h_ : (t561 : Int) ≤ (l2.length : Int) := of_decide_eq_true ‹_›; omega)] <;> rfl)) ?_
              with_reducible refine (bytes_Clone.calls _ _ (l2.take (t561 : Int).toNat) t568 _ ?side1 ?side2 A17.out).mono ?_
              (case side1 => repeat (exact (Kd.C_below HR567.out HB.out)))
              (case side2 => exact HC567.out)
              rintro e w39 ⟨v569, rfl, ho0, hb⟩
              refine ⟨_, rfl, ?_⟩
              have n0_ := Aside0.mk (Kd.R_lower (Kd.R_newM (M := fun k_ => (w.heap.size ≤ k_)) ho0 (below_size HB.out) (fun k_ h_ => h_)) (below_size HB.out))
              have n1_ := Aside0.mk (below_step HB.out hb)
              clear HB
              have HO570 := n0_
              have HB := n1_
              clear n0_ n1_
              (try clear hb)
              (try clear ho0)
              refine hK.out _ _ trivial (fun hHeld => ?_)
              clear hK K
              refine nor_ ?_
              refine on_ 11 73 HT_ (fun K hK => ?_)
              refine Kd.R_append_rows_step (Kd.int .u8) (w0 := w) w.heap.size (by rfl) (.tmp 65) (.tmp 72) 24 5 (.int .u8 0) 1 rfl Tryz.underlying24 info5 rfl (by decide) (by omega) v569 t568 ((l0.take ((wrap64 (t565 + (wrap64 (t564)))) : Int).toNat).drop (t565 : Int).toNat) _ _ _ (fun k_ => (w.heap.size ≤ k_)) (fun _ => False) rfl rfl ?aO ?aR (fun _ _ h => h) (fun _ h => h.elim) ?aF ?aB ?aS ?aL ?_
              (case aR => (rw [← show ((l0.take ((wrap64 (t565 + (wrap64 (t564)))) : Int).toNat).drop (t565 : Int).toNat).length = ((wrap64 (t565 + (wrap64 (t564)))).toNat - t565.toNat) from (by rw [List.length_drop, List.length_take]; have h_ : ((wrap64 (t565 + (wrap64 (t564)))) : Int) ≤ (l0.length : Int) := of_decide_eq_true ‹_›; omega)]; repeat (exact (Kd.C_below HR571.out HB.out))))
              (case aB => exact HB.out)
              (case aF => exact (fun k_ hk => (Nat.le_trans (below_size HB.out) hk)))
              (case aO => exact (by (with_reducible repeat (apply Kd.R_alloc)); exact Kd.R_mono HO570.out (fun _ hk => by exact hk.1)))
              (case aS => exact (below_size HB.out))
              (case aL => have := LMc21.out; have hlx_ := (show ((l0.take ((wrap64 (t565 + (wrap64 (t564)))) : Int).toNat).drop (t565 : Int).toNat).length = ((wrap64 (t565 + (wrap64 (t564)))).toNat - t565.toNat) from (by rw [List.length_drop, List.length_take]; have h_ : ((wrap64 (t565 + (wrap64 (t564)))) : Int) ≤ (l0.length : Int) := of_decide_eq_true ‹_›; omega)); omega)
              intro v573 w40 ho hb hg hat
              rw [← Ny572.out] at ho
              have n0_ := Aside0.mk (hb)
              have n1_ := Aside0.mk (ho)
              clear HB
              clear HO570
              have HB := n0_
              have HO574 := n1_
              clear n0_ n1_
              clear ho hb hg hat
              refine hK.out _ _ trivial (fun hHeld => ?_)
              clear hK K
              refine nor_ ?_
              refine pu_ 12 14 HT_ ?_
              refine done_ (done_of HT_.out (by kernel_rfl)) ?_
              obtain ⟨Ao41, co41, eo41⟩ := Kd.R_slice HO574.out
              subst eo41
              try go_wp2_with ((go_at_call 138; (with_reducible refine (prefix_shared.calls kj8 _ _ l2 _ _ y572 t580 _ (Kd.C_below HR2.out HB.out) (HC2.out) ((Kd.R_reads' HO574.out).2.2) ((Kd.R_reads' HO574.out).2.1) A32.out).mono ?_); rintro e w42 ⟨rfl, hb⟩; have n0_ := Aside0.mk (Kd.R_below HO574.out hb); have n1_ := Aside0.mk (below_step HB.out hb); revert n0_ n1_; clear HO574 HB; intro HO574 HB; (try clear hb); have q43 : ((y572.length : Int) : Int) ≤ ((y572.length : Int) : Int) := of_decide_eq_true ‹_›; obtain ⟨i043, hi043, _, hsz43, _⟩ := info_parts info5; have hroom43 : y572.length ≤ co41 := (Kd.R_reads' HO574.out).2.1; have hC43 : Kd.F (Kd.int .u8) _ _ Ao41 y572.length y572 := (Kd.V_at (base := w.heap.size) (Kd.R_V HO574.out)).2.2; have hcut43 := cut_full (P := Tryz.prog) 24 5 .i64 Tryz.underlying24 hi043 Ao41 y572.length co41 (y572.length : Int) (of_decide_eq_true ‹_›) q43 hroom43; have hr43 := Kd.F_take (m := ((y572.length : Int) : Int).toNat) hC43 (by omega); have hy43 : y581.length = ((y572.length : Int) : Int).toNat := (by rw [Ny581.out, List.length_take]; omega); rw [← Ny581.out] at hr43; rw [← hy43] at hcut43; have HO585 := Aside0.mk (show Kd.V (Kd.int .u8) 5 _ w.heap.size _ (.slice Ao41 y581.length y581.length) y581 from Kd.V_mk (by omega) hr43); have HC585 := Aside0.mk (show y581.length ≤ y581.length from by omega); clear hr43 hC43 hroom43 hi043 hsz43; have KY43 := Aside0.mk hy43; clear hy43; replace q43 := eq_true q43))
              go_ret3
              exact ⟨_, by rfl, by (with_reducible repeat (apply Kd.V_alloc)); exact HO585.out, by exact HB.out⟩
             rw [if_neg c35] at H
             exact absurd H (by simp)
            rw [if_neg c34] at H
            exact absurd H (by simp)
           rw [if_neg c33] at H
           have c33b0 : (t580 == (wrap64 (t561))) = false := beq_eq_false_iff_ne.mpr c33
           have c33b1 : (t580 != (wrap64 (t561))) = true := bne_iff_ne.mpr c33
           simp only [Option.some.injEq, Prod.mk.injEq] at H
           obtain ⟨rfl, rfl, rfl⟩ := H
           try go_wp2
           have n0_ := Aside0.mk (below_drew1 HB.out)
           clear HB
           have HB := n0_
           clear n0_
           obtain ⟨i045, hi045, _, hsz45, _⟩ := info_parts info5
           obtain ⟨hcut45, hA45, hC45⟩ := print_take_of (P := Tryz.prog) (Value.int .u8) 0 24 5 .u64 Tryz.underlying24 hi045 hsz45 A2 c2 l2 t561 (of_decide_eq_true ‹_›) (of_decide_eq_true ‹_›) HC2.out
           have HR567 := Aside0.mk (Kd.C_of_reads (h1 := fun _ => rfl) (hA45 _ (Kd.reads_of_C HR2.out)))
           have HC567 := Aside0.mk hC45
           clear hA45 hC45 hi045 hsz45
           obtain ⟨i046, hi046, _, hsz46, _⟩ := info_parts info5
           obtain ⟨A46, hcut46, hA46, hC46⟩ := print_mid_of (P := Tryz.prog) (Value.int .u8) 0 24 5 .i64 .i64 Tryz.underlying24 hi046 hsz46 A0 c0 l0 t565 (wrap64 (t565 + (wrap64 (t564)))) (of_decide_eq_true ‹_›) (by omega) (of_decide_eq_true ‹_›) HC0.out
           have HR571 := Aside0.mk (Kd.C_of_reads (h1 := fun _ => rfl) (hA46 _ (Kd.reads_of_C HR0.out)))
           have HC571 := Aside0.mk hC46
           clear hA46 hC46 hi046 hsz46
           refine start_ (n := 13) (S := fun w' => True) (ds := []) #[false, false, false, false, false, false, false, false, false, false, false, false, false] (by kernel_rfl) rfl rfl trivial (fun hHeld => ?_); refine with_tabW prefix_text.tab13 prefix_text.bits13 (fun HT_ HW_ => ?_)
           generalize wc.drew = w44 at HB HR567 HR571 hHeld ⊢
           refine pu_ 0 62 HT_ ?_; refine pu_ 1 63 HT_ ?_; refine pu_ 2 64 HT_ ?_; refine pu_ 4 66 HT_ ?_; refine pu_ 5 67 HT_ ?_; refine pu_ 6 68 HT_ ?_; refine pu_ 7 69 HT_ ?_; refine pu_ 8 70 HT_ ?_; refine pu_ 9 71 HT_ ?_; refine pu_ 10 72 HT_ ?_
           refine on_ 3 65 HT_ (fun K hK => ?_)
           refine goes_ Tryz.func61 (by kernel_rfl) rfl #[.slice A2 (l2.take (t561 : Int).toNat).length c2] (by rfl) rfl rfl (by (try simp only [List.map_toArray, List.map_cons, List.map_nil]); (rw [show (l2.take (t561 : Int).toNat).length = t561.toNat from (by rw [List.length_take]; have h_ : (t561 : Int) ≤ (l2.length : Int) := of_decide_eq_true ‹_›; omega)] <;> rfl)) ?_
           with_reducible refine (bytes_Clone.calls _ _ (l2.take (t561 : Int).toNat) t568 _ ?side1 ?side2 A17.out).mono ?_
           (case side1 => repeat (exact (Kd.C_below HR567.out HB.out)))
           (case side2 => exact HC567.out)
           rintro e w47 ⟨v569, rfl, ho0, hb⟩
           refine ⟨_, rfl, ?_⟩
           have n0_ := Aside0.mk (Kd.R_lower (Kd.R_newM (M := fun k_ => (w.heap.size ≤ k_)) ho0 (below_size HB.out) (fun k_ h_ => h_)) (below_size HB.out))
           have n1_ := Aside0.mk (below_step HB.out hb)
           clear HB
           have HO570 := n0_
           have HB := n1_
           clear n0_ n1_
           (try clear hb)
           (try clear ho0)
           refine hK.out _ _ trivial (fun hHeld => ?_)
           clear hK K
           refine nor_ ?_
           refine on_ 11 73 HT_ (fun K hK => ?_)
           refine Kd.R_append_rows_step (Kd.int .u8) (w0 := w) w.heap.size (by rfl) (.tmp 65) (.tmp 72) 24 5 (.int .u8 0) 1 rfl Tryz.underlying24 info5 rfl (by decide) (by omega) v569 t568 ((l0.take ((wrap64 (t565 + (wrap64 (t564)))) : Int).toNat).drop (t565 : Int).toNat) _ _ _ (fun k_ => (w.heap.size ≤ k_)) (fun _ => False) rfl rfl ?aO ?aR (fun _ _ h => h) (fun _ h => h.elim) ?aF ?aB ?aS ?aL ?_
           (case aR => (rw [← show ((l0.take ((wrap64 (t565 + (wrap64 (t564)))) : Int).toNat).drop (t565 : Int).toNat).length = ((wrap64 (t565 + (wrap64 (t564)))).toNat - t565.toNat) from (by rw [List.length_drop, List.length_take]; have h_ : ((wrap64 (t565 + (wrap64 (t564)))) : Int) ≤ (l0.length : Int) := of_decide_eq_true ‹_›; omega)]; repeat (exact (Kd.C_below HR571.out HB.out))))
           (case aB => exact HB.out)
           (case aF => exact (fun k_ hk => (Nat.le_trans (below_size HB.out) hk)))
           (case aO => exact (by (with_reducible repeat (apply Kd.R_alloc)); exact Kd.R_mono HO570.out (fun _ hk => by exact hk.1)))
           (case aS => exact (below_size HB.out))
           (case aL => have := LMc21.out; have hlx_ := (show ((l0.take ((wrap64 (t565 + (wrap64 (t564)))) : Int).toNat).drop (t565 : Int).toNat).length = ((wrap64 (t565 + (wrap64 (t564)))).toNat - t565.toNat) from (by rw [List.length_drop, List.length_take]; have h_ : ((wrap64 (t565 + (wrap64 (t564)))) : Int) ≤ (l0.length : Int) := of_decide_eq_true ‹_›; omega)); omega)
           intro v573 w48 ho hb hg hat
           rw [← Ny572.out] at ho
           have n0_ := Aside0.mk (hb)
           have n1_ := Aside0.mk (ho)
           clear HB
           clear HO570
           have HB := n0_
           have HO574 := n1_
           clear n0_ n1_
           clear ho hb hg hat
           refine hK.out _ _ trivial (fun hHeld => ?_)
           clear hK K
           refine nor_ ?_
           refine pu_ 12 14 HT_ ?_
           refine done_ (done_of HT_.out (by kernel_rfl)) ?_
           obtain ⟨Ao49, co49, eo49⟩ := Kd.R_slice HO574.out
           subst eo49
           try go_wp2_with ((go_at_call 138; (with_reducible refine (prefix_shared.calls kj8 _ _ l2 _ _ y572 t580 _ (Kd.C_below HR2.out HB.out) (HC2.out) ((Kd.R_reads' HO574.out).2.2) ((Kd.R_reads' HO574.out).2.1) A32.out).mono ?_); rintro e w50 ⟨rfl, hb⟩; have n0_ := Aside0.mk (Kd.R_below HO574.out hb); have n1_ := Aside0.mk (below_step HB.out hb); revert n0_ n1_; clear HO574 HB; intro HO574 HB; (try clear hb)))
           go_ret3
           exact ⟨_, by rfl, (Kd.V_nil _ _ _ _ _), by exact HB.out⟩
          rw [if_neg c21] at H
          exact absurd H (by simp)
         rw [if_neg c20] at H
         exact absurd H (by simp)
        rw [if_neg c19] at H
        exact absurd H (by simp)
       rw [if_neg c18] at H
       exact absurd H (by simp)
      rw [if_neg c16] at H
      exact absurd H (by simp)
     rw [if_neg c15] at H
     exact absurd H (by simp)
  rw [if_neg c8] at H
  have c8b0 : (t566 == 0) = false := beq_eq_false_iff_ne.mpr c8
  have c8b1 : (t566 != 0) = true := bne_iff_ne.mpr c8
  simp only [Option.some.injEq, Prod.mk.injEq] at H
  obtain ⟨rfl, rfl, rfl⟩ := H
  go_enter Tryz.func131, Tryz.ntmps131
  go_wp2_with (first | ((with_reducible refine gate_callee (f := 45) rfl ?_); refine goL_ Tryz.func45 #[.slice A0 l0.length c0, .int .i64 a1] ?_; (with_reducible refine (vint_Get.calls k _ _ l0 a1 t561 t562 t563 _ (HR0.out) (HC0.out) A5.out).mono ?_); rintro e w' ⟨rfl, ⟨nd, rfl⟩⟩; refine ⟨_, rfl, ?_⟩) | ((with_reducible refine gate_callee (f := 45) rfl ?_); refine goL_ Tryz.func45 #[.slice A0 l0.length c0, .int .i64 t562] ?_; (with_reducible refine (vint_Get.calls k _ _ l0 t562 t564 t565 t566 _ ?side1 ?side2 A7.out).mono ?_); (case side1 => repeat (exact HR0.out)); (case side2 => exact HC0.out); rintro e w' ⟨rfl, ⟨nd, rfl⟩⟩; refine ⟨_, rfl, ?_⟩))
  go_ret3
  exact ⟨_, by rfl, (Kd.V_nil _ _ _ _ _), by repeat ((with_reducible first | exact HB.out | apply pw_below_drewN))⟩
 rw [if_neg c6] at H
 have c6b0 : (t563 == 0) = false := beq_eq_false_iff_ne.mpr c6
 have c6b1 : (t563 != 0) = true := bne_iff_ne.mpr c6
 simp only [Option.some.injEq, Prod.mk.injEq] at H
 obtain ⟨rfl, rfl, rfl⟩ := H
 go_enter Tryz.func131, Tryz.ntmps131
 go_wp2_with ((refine goL_ Tryz.func45 #[.slice A0 l0.length c0, .int .i64 a1] ?_; (with_reducible refine (vint_Get.calls k _ _ l0 a1 t561 t562 t563 _ (HR0.out) (HC0.out) A5.out).mono ?_); rintro e w' ⟨rfl, ⟨nd, rfl⟩⟩; refine ⟨_, rfl, ?_⟩))
 go_ret3
 exact ⟨_, by rfl, (Kd.V_nil _ _ _ _ _), by repeat ((with_reducible first | exact HB.out | apply pw_below_drewN))⟩
def prefix_Decode.l0 : Nat → List Int → Int → List (List Int) → List Int → Int → Int → Option ((List (List Int)) × Int)
 | 0, _, _, _, _, _, _ => none
 | k + 1, x0, x5, x7, x8, x23, x24 => if x24 < x23 then ((prefix_text.f k x0 x5 x8 ((Int.tmod x24 16) == 0)).bind fun bt589 => (if bt589.2.2 = 0 then (if x7.length < 5864062014805 then (prefix_Decode.l0 k x0 bt589.2.1 (x7 ++ [bt589.1]) bt589.1 x23 (IntKind.u64.wrap (x24 + 1))) else (none)) else (some (([] : List (List Int)), bt589.2.2)))) else (if x5 < (x0.length : Int) then (some (([] : List (List Int)), 3)) else (some (x7, 0)))
def prefix_Decode.f (k : Nat) (l0 : List Int) : Option ((List (List Int)) × Int) := (vint_Get.f k l0 0).bind fun bt586 => (if bt586.2.2 = 0 then (if bt586.1 > 4096 then (some (([] : List (List Int)), 4)) else (prefix_Decode.l0 k l0 bt586.2.1 ([] : List (List Int)) ([] : List Int) bt586.1 0)) else (some (([] : List (List Int)), bt586.2.2)))
set_option maxHeartbeats 8000000 in
set_option maxRecDepth 100000 in
theorem prefix_Decode.calls (k : Nat) (A0 : Option Addr) (c0 : Nat) (l0 : List Int) (r1 : List (List Int)) (r2 : Int) (w : World) (hr0 : Kd.C (Kd.int .u8) w A0 l0.length l0) (hc0 : l0.length ≤ c0) (h : prefix_Decode.f k l0 = some (r1, r2)) :
 Calls Tryz.prog 90 #[.slice A0 l0.length c0] w fun e w' => ∃ v0_ : Value, e = .returned (.tuple #[v0_, .int .i64 r2]) ∧ Kd.N (Kd.slice 5 (Kd.int .u8)) 24 w' w.heap.size (fun k_ => (w.heap.size ≤ k_)) v0_ r1 ∧ Below w.heap.size w w' := by
 have HR0 := Aside0.mk hr0
 have HC0 := Aside0.mk hc0
 clear hr0 hc0
 have HB := Aside0.mk (Below.refl w.heap.size w)
 unfold prefix_Decode.f at h
 have H := h
 clear h
 replace H := Option.bind_eq_some_iff.mp H
 obtain ⟨⟨t586, t587, t588⟩, A20, H⟩ := H
 (try dsimp only at H)
 have A2 := Aside0.mk A20
 clear A20
 by_cases c3 : t588 = 0
 ·rw [if_pos c3] at H
  have c3b0 : (t588 == 0) = true := beq_iff_eq.mpr c3
  have c3b1 : (t588 != 0) = false := bne_eq_false_iff_eq.mpr c3
  clear c3
  by_cases c4 : t586 > 4096
  ·rw [if_pos c4] at H
   have c4b0 : decide (4096 < t586) = true := decide_eq_true c4
   clear c4
   simp only [Option.some.injEq, Prod.mk.injEq] at H
   obtain ⟨rfl, rfl⟩ := H
   go_enter Tryz.func90, Tryz.ntmps90
   go_wp2_with ((refine goL_ Tryz.func45 #[.slice A0 l0.length c0, .int .i64 0] ?_; (with_reducible refine (vint_Get.calls k _ _ l0 0 t586 t587 t588 _ (HR0.out) (HC0.out) A2.out).mono ?_); rintro e w' ⟨rfl, ⟨nd, rfl⟩⟩; refine ⟨_, rfl, ?_⟩))
   go_ret2
   exact ⟨_, by rfl, by exact Kd.N_nil _ _ _ _ _, by repeat ((with_reducible first | exact HB.out | apply pw_below_drewN))⟩
  rw [if_neg c4] at H
  have c4b0 : decide (4096 < t586) = false := decide_eq_false c4
  clear c4
  have H' := Aside0.mk H
  clear H
  go_enter Tryz.func90, Tryz.ntmps90
  go_wp2_with ((refine goL_ Tryz.func45 #[.slice A0 l0.length c0, .int .i64 0] ?_; (with_reducible refine (vint_Get.calls k _ _ l0 0 t586 t587 t588 _ (HR0.out) (HC0.out) A2.out).mono ?_); rintro e w' ⟨rfl, ⟨nd, rfl⟩⟩; refine ⟨_, rfl, ?_⟩))
  go_loopg [5, 7, 8, 24] k (fun kq v5 v7 v8 v24 w' => ∃ (x5_1 : Int) (x7_1 : List (List Int)) (x8_1 : List Int) (x24_1 : Int), v5 = .int .i64 x5_1 ∧ v24 = .int .u64 x24_1 ∧ Aside0 (prefix_Decode.l0 kq l0 x5_1 x7_1 x8_1 t586 x24_1 = some (r1, r2)) ∧ Aside0 (kq ≤ k) ∧ Aside0 (Kd.N (Kd.slice 5 (Kd.int .u8)) 24 w' w.heap.size (fun k_ => (w.heap.size ≤ k_)) v7 x7_1) ∧ Aside0 (Kd.V (Kd.int .u8) 5 w' w.heap.size (fun k_ => (w.heap.size ≤ k_) ∧ some k_ ≠ (v7 : Value).ownBlock) v8 x8_1) ∧ Aside0 (Below w.heap.size w w'))
  case atStart => exact ⟨(t587), (([] : List (List Int))), (([] : List Int)), (0), (by rfl), (by rfl), H', ⟨Nat.le_refl _⟩, ⟨by exact Kd.N_nil _ _ _ _ _⟩, ⟨(Kd.V_nil _ _ _ _ _)⟩, ⟨by repeat ((with_reducible first | exact HB.out | apply pw_below_drewN))⟩⟩
  case round =>
   clear H'
   try clear c3b0
   try clear c3b1
   try clear c4b0
   obtain ⟨x5_1, x7_1, x8_1, x24_1, rfl, rfl, HA, HK1, HO_7, HO_8, HB⟩ := hrel
   cases gk with
   | zero => exact absurd HA.out (by simp [prefix_Decode.l0])
   | succ k1 =>
    have H := HA.out
    clear HA
    simp only [prefix_Decode.l0] at H
    by_cases c5 : x24_1 < t586
    ·rw [if_pos c5] at H
     have c5b0 : decide (x24_1 < t586) = true := decide_eq_true c5
     clear c5
     replace H := Option.bind_eq_some_iff.mp H
     obtain ⟨⟨t589, t592, t593⟩, A60, H⟩ := H
     (try dsimp only at H)
     have A6 := Aside0.mk A60
     clear A60
     by_cases c7 : t593 = 0
     ·rw [if_pos c7] at H
      have c7b0 : (t593 == 0) = true := beq_iff_eq.mpr c7
      have c7b1 : (t593 != 0) = false := bne_eq_false_iff_eq.mpr c7
      clear c7
      by_cases c8 : x7_1.length < 5864062014805
      ·rw [if_pos c8] at H
       have LMc8 := Aside0.mk c8
       clear c8
       obtain ⟨y594, hy594⟩ : ∃ y_ : List (List Int), y_ = (x7_1 ++ [t589]) := ⟨_, rfl⟩
       replace H : (prefix_Decode.l0 k1 l0 t592 y594 t589 t586 (IntKind.u64.wrap (x24_1 + 1))) = some (r1, r2) := by (rw [hy594]; with_reducible exact H)
       have Ny594 := Aside0.mk hy594
       clear hy594
       have H' := Aside0.mk H
       clear H
       obtain ⟨Ao9, co9, eo9⟩ := Kd.V_slice HO_8.out
       subst eo9
       go_wp2_with (first | ((with_reducible refine gate_callee (f := 131) rfl ?_); refine goL_ Tryz.func131 #[.slice A0 l0.length c0, .int .i64 x5_1, .slice Ao9 x8_1.length co9, .bool ((Int.tmod x24_1 16) == 0)] ?_; (with_reducible refine (prefix_text.calls k1 _ _ l0 x5_1 _ _ x8_1 ((Int.tmod x24_1 16) == 0) t589 t592 t593 _ (Kd.C_below HR0.out HB.out) (HC0.out) ((Kd.V_reads' HO_8.out).2.2) ((Kd.V_reads' HO_8.out).2.1) A6.out).mono ?_); rintro e w10 ⟨v590, rfl, ho0, hb⟩; refine ⟨_, rfl, ?_⟩; have n0_ := Aside0.mk (Kd.N_below HO_7.out hb); have n1_ := Aside0.mk (Kd.V_below HO_8.out hb); have n2_ := Aside0.mk (Kd.V_lower (Kd.V_mono (ok' := fun k_ => (w.heap.size ≤ k_) ∧ some k_ ≠ (u7 : Value).ownBlock) ho0 (fun k_ hk_ => ⟨(Nat.le_trans (below_size HB.out) hk_), (Kd.fresh' (Kd.N_lt HO_7.out) k_ hk_)⟩)) (below_size HB.out)); have n3_ := Aside0.mk (below_step HB.out hb); revert n0_ n1_ n2_ n3_; clear HO_7 HO_8 HB; intro HO_7 HO_8 HO591 HB; (try clear hb); (try clear ho0); obtain ⟨Ao12, co12, eo12⟩ := Kd.V_slice HO591.out; subst eo12) | ((with_reducible refine gate_builtin (b := .append) (xs := #[.tmp 41, .tmp 43]) rfl ?_); at_builtin; refine Kd.N_append (Kd.slice 5 (Kd.int .u8)) (w0 := w) w.heap.size rfl (.tmp 41) (.tmp 43) 42 24 (.slice none 0 0) 24 rfl Tryz.underlying42 info24 rfl (by decide) (by omega) u7 x7_1 t589 [.slice Ao12 t589.length co12] (fun k_ => (w.heap.size ≤ k_)) (fun k_ => ((fun k_ => (w.heap.size ≤ k_))) k_ ∧ some k_ ≠ (u7 : Value).ownBlock) rfl rfl ?aP (fun _ hk => hk) ?aF ?aO ?aB ?aS ?aL ?_; (case aP => exact (Kd.FK_slice_mk (Kd.V_reads' (Kd.V_mono (ok' := (fun k_ => ((fun k_ => (w.heap.size ≤ k_))) k_ ∧ some k_ ≠ (u7 : Value).ownBlock)) (HO591.out) (fun k_ hk => ⟨hk.1, hk.2⟩))).2.1 (Kd.V_F (Kd.V_mono (ok' := (fun k_ => ((fun k_ => (w.heap.size ≤ k_))) k_ ∧ some k_ ≠ (u7 : Value).ownBlock)) (HO591.out) (fun k_ hk => ⟨hk.1, hk.2⟩))))); (case aB => exact HB.out); (case aF => exact (fun k_ hk => (Nat.le_trans (below_size HB.out) hk))); (case aO => exact HO_7.out); (case aS => exact (below_size HB.out)); (case aL => have := LMc8.out; omega); intro v595 w11 ho hb hg hat; rw [← Ny594.out] at ho; have n0_ := Aside0.mk (Kd.V_afterv (ok := (fun k_ => (w.heap.size ≤ k_))) HO_8.out hg hat); have n1_ := Aside0.mk (Kd.V_afterv (ok := (fun k_ => (w.heap.size ≤ k_))) HO591.out hg hat); have n2_ := Aside0.mk (hb); have n3_ := Aside0.mk (ho); revert n0_ n1_ n2_ n3_; clear HO_8 HO591 HB HO_7; intro HO_8 HO591 HB HO596; clear ho hb hg hat))
       go_roundg k1
       case measure => have := HK1.out; omega
       case rel => exact ⟨(t592), (y594), (t589), (IntKind.u64.wrap (x24_1 + 1)), (by rfl), (by rfl), H', ⟨by have := HK1.out; omega⟩, ⟨by (with_reducible repeat (apply Kd.N_alloc)); exact HO596.out⟩, ⟨by (with_reducible repeat (apply Kd.V_alloc)); exact HO591.out⟩, ⟨by exact HB.out⟩⟩
      rw [if_neg c8] at H
      exact absurd H (by simp)
     rw [if_neg c7] at H
     have c7b0 : (t593 == 0) = false := beq_eq_false_iff_ne.mpr c7
     have c7b1 : (t593 != 0) = true := bne_iff_ne.mpr c7
     simp only [Option.some.injEq, Prod.mk.injEq] at H
     obtain ⟨rfl, rfl⟩ := H
     obtain ⟨Ao13, co13, eo13⟩ := Kd.V_slice HO_8.out
     subst eo13
     go_wp2_with ((refine goL_ Tryz.func131 #[.slice A0 l0.length c0, .int .i64 x5_1, .slice Ao13 x8_1.length co13, .bool ((Int.tmod x24_1 16) == 0)] ?_; (with_reducible refine (prefix_text.calls k1 _ _ l0 x5_1 _ _ x8_1 ((Int.tmod x24_1 16) == 0) t589 t592 t593 _ (Kd.C_below HR0.out HB.out) (HC0.out) ((Kd.V_reads' HO_8.out).2.2) ((Kd.V_reads' HO_8.out).2.1) A6.out).mono ?_); rintro e w14 ⟨v590, rfl, ho0, hb⟩; refine ⟨_, rfl, ?_⟩; have n0_ := Aside0.mk (Kd.N_below HO_7.out hb); have n1_ := Aside0.mk (Kd.V_below HO_8.out hb); have n2_ := Aside0.mk (Kd.V_lower (Kd.V_mono (ok' := fun k_ => (w.heap.size ≤ k_) ∧ some k_ ≠ (u7 : Value).ownBlock) ho0 (fun k_ hk_ => ⟨(Nat.le_trans (below_size HB.out) hk_), (Kd.fresh' (Kd.N_lt HO_7.out) k_ hk_)⟩)) (below_size HB.out)); have n3_ := Aside0.mk (below_step HB.out hb); revert n0_ n1_ n2_ n3_; clear HO_7 HO_8 HB; intro HO_7 HO_8 HO591 HB; (try clear hb); (try clear ho0)))
     go_ret2
     exact ⟨_, by rfl, by exact Kd.N_nil _ _ _ _ _, by exact HB.out⟩
    rw [if_neg c5] at H
    have c5b0 : decide (x24_1 < t586) = false := decide_eq_false c5
    clear c5
    by_cases c15 : x5_1 < (l0.length : Int)
    ·rw [if_pos c15] at H
     have c15b0 : decide (x5_1 < (l0.length : Int)) = true := decide_eq_true c15
     clear c15
     simp only [Option.some.injEq, Prod.mk.injEq] at H
     obtain ⟨rfl, rfl⟩ := H
     go_wp2
     go_ret2
     exact ⟨_, by rfl, by exact Kd.N_nil _ _ _ _ _, by exact HB.out⟩
    rw [if_neg c15] at H
    have c15b0 : decide (x5_1 < (l0.length : Int)) = false := decide_eq_false c15
    clear c15
    simp only [Option.some.injEq, Prod.mk.injEq] at H
    obtain ⟨rfl, rfl⟩ := H
    go_wp2
    go_ret2
    exact ⟨_, by rfl, by (with_reducible repeat (apply Kd.N_alloc)); exact HO_7.out, by exact HB.out⟩
 rw [if_neg c3] at H
 have c3b0 : (t588 == 0) = false := beq_eq_false_iff_ne.mpr c3
 have c3b1 : (t588 != 0) = true := bne_iff_ne.mpr c3
 simp only [Option.some.injEq, Prod.mk.injEq] at H
 obtain ⟨rfl, rfl⟩ := H
 go_enter Tryz.func90, Tryz.ntmps90
 go_wp2_with ((refine goL_ Tryz.func45 #[.slice A0 l0.length c0, .int .i64 0] ?_; (with_reducible refine (vint_Get.calls k _ _ l0 0 t586 t587 t588 _ (HR0.out) (HC0.out) A2.out).mono ?_); rintro e w' ⟨rfl, ⟨nd, rfl⟩⟩; refine ⟨_, rfl, ?_⟩))
 go_ret2
 exact ⟨_, by rfl, by exact Kd.N_nil _ _ _ _ _, by repeat ((with_reducible first | exact HB.out | apply pw_below_drewN))⟩
def block_readBody.f (k : Nat) (a0 : Int) (a1 : Int) (l2 : List Int) (a3 : Int) : Option ((List (S62)) × Int) := if a1 = 1 then ((block_readPlain.f k a0 l2 a3).bind fun bt597 => (some (bt597.1, bt597.2))) else (if a1 = 2 then ((runs_Decode.f k l2).bind fun bt601 => ((block_fromNumbers.f k bt601.1 bt601.2).bind fun bt605 => (if bt605.2 = 0 then (if (bt605.1.length : Int) = a3 then (some (bt605.1, bt605.2)) else (some (bt605.1, 5))) else (some (bt605.1, bt605.2))))) else (if a1 = 3 then ((packed_Decode.f k l2).bind fun bt609 => ((block_fromNumbers.f k bt609.1 bt609.2).bind fun bt613 => (if bt613.2 = 0 then (if (bt613.1.length : Int) = a3 then (some (bt613.1, bt613.2)) else (some (bt613.1, 5))) else (some (bt613.1, bt613.2))))) else (if a1 = 4 then ((dict_Decode.f k l2).bind fun bt617 => ((block_fromTexts.f k bt617.1 bt617.2).bind fun bt621 => (if bt621.2 = 0 then (if (bt621.1.length : Int) = a3 then (some (bt621.1, bt621.2)) else (some (bt621.1, 5))) else (some (bt621.1, bt621.2))))) else ((prefix_Decode.f k l2).bind fun bt625 => ((block_fromTexts.f k bt625.1 bt625.2).bind fun bt629 => (if bt629.2 = 0 then (if (bt629.1.length : Int) = a3 then (some (bt629.1, bt629.2)) else (some (bt629.1, 5))) else (some (bt629.1, bt629.2))))))))
set_option maxHeartbeats 8000000 in
set_option maxRecDepth 100000 in
theorem block_readBody.calls (k : Nat) (a0 : Int) (a1 : Int) (P2_ : Nat → Prop) (A2 : Option Addr) (c2 : Nat) (l2 : List Int) (a3 : Int) (r1 : List (S62)) (r2 : Int) (w : World) (hs2 : Kd.V (Kd.int .u8) 5 w w.heap.size (fun k_ => P2_ k_) (.slice A2 l2.length c2) l2) (h : block_readBody.f k a0 a1 l2 a3 = some (r1, r2)) :
 Calls Tryz.prog 47 #[.int .i64 a0, .int .i64 a1, .slice A2 l2.length c2, .int .i64 a3] w fun e w' => ∃ v0_ : Value, e = .returned (.tuple #[v0_, .int .i64 r2]) ∧ Kd.N k62 62 w' w.heap.size (fun k_ => (P2_ k_ ∨ w.heap.size ≤ k_)) v0_ r1 ∧ Below w.heap.size w w' := by
 have HO2 := Aside0.mk (show Kd.V (Kd.int .u8) 5 w w.heap.size (fun k_ => (P2_ k_ ∨ w.heap.size ≤ k_)) (.slice A2 l2.length c2) l2 from Kd.V_mono hs2 (fun k_ hk => .inl hk))
 have HB := Aside0.mk (Below.refl w.heap.size w)
 unfold block_readBody.f at h
 have H := h
 clear h
 by_cases c5 : a1 = 1
 ·rw [if_pos c5] at H
  have c5b0 : (a1 == 1) = true := beq_iff_eq.mpr c5
  have c5b1 : (a1 != 1) = false := bne_eq_false_iff_eq.mpr c5
  clear c5
  replace H := Option.bind_eq_some_iff.mp H
  obtain ⟨⟨t597, t598⟩, A60, H⟩ := H
  (try dsimp only at H)
  have A6 := Aside0.mk A60
  clear A60
  simp only [Option.some.injEq, Prod.mk.injEq] at H
  obtain ⟨rfl, rfl⟩ := H
  go_enter Tryz.func47, Tryz.ntmps47
  go_wp2_with ((refine goL_ Tryz.func84 #[.int .i64 a0, .slice A2 l2.length c2, .int .i64 a3] ?_; (with_reducible refine (block_readPlain.calls k a0 _ _ l2 a3 t597 t598 _ ((Kd.V_reads' HO2.out).2.2) ((Kd.V_reads' HO2.out).2.1) A6.out).mono ?_); rintro e w7 ⟨v599, rfl, ho0, hb⟩; refine ⟨_, rfl, ?_⟩; have n0_ := Aside0.mk (Kd.V_elder' HO2.out (by exact Kd.N_base (Kd.S_N ho0)) hb); have n1_ := Aside0.mk (Kd.N_lower (Kd.N_mono (ok' := fun k_ => (P2_ k_ ∨ w.heap.size ≤ k_)) (Kd.S_N (Kd.S_bound ho0)) (fun k_ hk_ => (.inr (Nat.le_trans (below_size HB.out) hk_.2.1)))) (below_size HB.out)); have n2_ := Aside0.mk (below_step HB.out hb); revert n0_ n1_ n2_; clear HO2 HB; intro HO2 HO600 HB; (try clear hb); (try clear ho0)))
  go_ret2
  exact ⟨_, by rfl, by (with_reducible repeat (apply Kd.N_alloc)); exact HO600.out, by exact HB.out⟩
 rw [if_neg c5] at H
 have c5b0 : (a1 == 1) = false := beq_eq_false_iff_ne.mpr c5
 have c5b1 : (a1 != 1) = true := bne_iff_ne.mpr c5
 by_cases c8 : a1 = 2
 ·rw [if_pos c8] at H
  have c8b0 : (a1 == 2) = true := beq_iff_eq.mpr c8
  have c8b1 : (a1 != 2) = false := bne_eq_false_iff_eq.mpr c8
  clear c8
  replace H := Option.bind_eq_some_iff.mp H
  obtain ⟨⟨t601, t602⟩, A90, H⟩ := H
  (try dsimp only at H)
  have A9 := Aside0.mk A90
  clear A90
  replace H := Option.bind_eq_some_iff.mp H
  obtain ⟨⟨t605, t606⟩, A100, H⟩ := H
  (try dsimp only at H)
  have A10 := Aside0.mk A100
  clear A100
  by_cases c11 : t606 = 0
  ·rw [if_pos c11] at H
   have c11b0 : (t606 == 0) = true := beq_iff_eq.mpr c11
   have c11b1 : (t606 != 0) = false := bne_eq_false_iff_eq.mpr c11
   clear c11
   by_cases c12 : (t605.length : Int) = a3
   ·rw [if_pos c12] at H
    have c12b0 : ((t605.length : Int) == a3) = true := beq_iff_eq.mpr c12
    have c12b1 : ((t605.length : Int) != a3) = false := bne_eq_false_iff_eq.mpr c12
    clear c12
    simp only [Option.some.injEq, Prod.mk.injEq] at H
    obtain ⟨rfl, rfl⟩ := H
    go_enter Tryz.func47, Tryz.ntmps47
    go_wp2_with (first | ((with_reducible refine gate_callee (f := 86) rfl ?_); refine goL_ Tryz.func86 #[.slice A2 l2.length c2] ?_; (with_reducible refine (runs_Decode.calls k _ _ l2 t601 t602 _ ((Kd.V_reads' HO2.out).2.2) ((Kd.V_reads' HO2.out).2.1) A9.out).mono ?_); rintro e w13 ⟨v603, rfl, ho0, hb⟩; refine ⟨_, rfl, ?_⟩; have n0_ := Aside0.mk (Kd.V_elder' HO2.out (Kd.R_base ho0) hb); have n1_ := Aside0.mk (Kd.R_lower (Kd.R_newM (M := fun k_ => (w.heap.size ≤ k_)) ho0 (below_size HB.out) (fun k_ h_ => h_)) (below_size HB.out)); have n2_ := Aside0.mk (below_step HB.out hb); revert n0_ n1_ n2_; clear HO2 HB; intro HO2 HO604 HB; (try clear hb); (try clear ho0); obtain ⟨Ao14, co14, eo14⟩ := Kd.R_slice HO604.out; subst eo14) | ((with_reducible refine gate_callee (f := 85) rfl ?_); refine goL_ Tryz.func85 #[.slice Ao14 t601.length co14, .int .i64 t602] ?_; (with_reducible refine (block_fromNumbers.calls k _ _ t601 t602 t605 t606 _ ?side1 ?side2 A10.out).mono ?_); (case side1 => repeat (exact (Kd.R_reads' HO604.out).2.2)); (case side2 => exact (Kd.R_reads' HO604.out).2.1); rintro e w15 ⟨v607, rfl, ho0, hb⟩; refine ⟨_, rfl, ?_⟩; have n0_ := Aside0.mk (Kd.V_elder' HO2.out (by exact Kd.N_base (Kd.S_N ho0)) hb); have n1_ := Aside0.mk (Kd.R_below HO604.out hb); have n2_ := Aside0.mk (Kd.N_lower (Kd.N_mono (ok' := fun k_ => (P2_ k_ ∨ w.heap.size ≤ k_) ∧ some k_ ≠ (.slice Ao14 t601.length co14 : Value).ownBlock) (Kd.S_N (Kd.S_bound ho0)) (fun k_ hk_ => ⟨(.inr (Nat.le_trans (below_size HB.out) hk_.2.1)), (Kd.fresh' (Kd.R_lt HO604.out) k_ hk_.2.1)⟩)) (below_size HB.out)); have n3_ := Aside0.mk (below_step HB.out hb); revert n0_ n1_ n2_ n3_; clear HO2 HO604 HB; intro HO2 HO604 HO608 HB; (try clear hb); (try clear ho0); obtain ⟨Ao16, co16, eo16⟩ := Kd.N_slice HO608.out; subst eo16))
    go_ret2
    exact ⟨_, by rfl, by (with_reducible repeat (apply Kd.N_alloc)); exact Kd.N_mono HO608.out (fun _ hk => hk.1), by exact HB.out⟩
   rw [if_neg c12] at H
   have c12b0 : ((t605.length : Int) == a3) = false := beq_eq_false_iff_ne.mpr c12
   have c12b1 : ((t605.length : Int) != a3) = true := bne_iff_ne.mpr c12
   simp only [Option.some.injEq, Prod.mk.injEq] at H
   obtain ⟨rfl, rfl⟩ := H
   go_enter Tryz.func47, Tryz.ntmps47
   go_wp2_with (first | ((with_reducible refine gate_callee (f := 86) rfl ?_); refine goL_ Tryz.func86 #[.slice A2 l2.length c2] ?_; (with_reducible refine (runs_Decode.calls k _ _ l2 t601 t602 _ ((Kd.V_reads' HO2.out).2.2) ((Kd.V_reads' HO2.out).2.1) A9.out).mono ?_); rintro e w17 ⟨v603, rfl, ho0, hb⟩; refine ⟨_, rfl, ?_⟩; have n0_ := Aside0.mk (Kd.V_elder' HO2.out (Kd.R_base ho0) hb); have n1_ := Aside0.mk (Kd.R_lower (Kd.R_newM (M := fun k_ => (w.heap.size ≤ k_)) ho0 (below_size HB.out) (fun k_ h_ => h_)) (below_size HB.out)); have n2_ := Aside0.mk (below_step HB.out hb); revert n0_ n1_ n2_; clear HO2 HB; intro HO2 HO604 HB; (try clear hb); (try clear ho0); obtain ⟨Ao18, co18, eo18⟩ := Kd.R_slice HO604.out; subst eo18) | ((with_reducible refine gate_callee (f := 85) rfl ?_); refine goL_ Tryz.func85 #[.slice Ao18 t601.length co18, .int .i64 t602] ?_; (with_reducible refine (block_fromNumbers.calls k _ _ t601 t602 t605 t606 _ ?side1 ?side2 A10.out).mono ?_); (case side1 => repeat (exact (Kd.R_reads' HO604.out).2.2)); (case side2 => exact (Kd.R_reads' HO604.out).2.1); rintro e w19 ⟨v607, rfl, ho0, hb⟩; refine ⟨_, rfl, ?_⟩; have n0_ := Aside0.mk (Kd.V_elder' HO2.out (by exact Kd.N_base (Kd.S_N ho0)) hb); have n1_ := Aside0.mk (Kd.R_below HO604.out hb); have n2_ := Aside0.mk (Kd.N_lower (Kd.N_mono (ok' := fun k_ => (P2_ k_ ∨ w.heap.size ≤ k_) ∧ some k_ ≠ (.slice Ao18 t601.length co18 : Value).ownBlock) (Kd.S_N (Kd.S_bound ho0)) (fun k_ hk_ => ⟨(.inr (Nat.le_trans (below_size HB.out) hk_.2.1)), (Kd.fresh' (Kd.R_lt HO604.out) k_ hk_.2.1)⟩)) (below_size HB.out)); have n3_ := Aside0.mk (below_step HB.out hb); revert n0_ n1_ n2_ n3_; clear HO2 HO604 HB; intro HO2 HO604 HO608 HB; (try clear hb); (try clear ho0); obtain ⟨Ao20, co20, eo20⟩ := Kd.N_slice HO608.out; subst eo20))
   go_ret2
   exact ⟨_, by rfl, by (with_reducible repeat (apply Kd.N_alloc)); exact Kd.N_mono HO608.out (fun _ hk => hk.1), by exact HB.out⟩
  rw [if_neg c11] at H
  have c11b0 : (t606 == 0) = false := beq_eq_false_iff_ne.mpr c11
  have c11b1 : (t606 != 0) = true := bne_iff_ne.mpr c11
  simp only [Option.some.injEq, Prod.mk.injEq] at H
  obtain ⟨rfl, rfl⟩ := H
  go_enter Tryz.func47, Tryz.ntmps47
  go_wp2_with (first | ((with_reducible refine gate_callee (f := 86) rfl ?_); refine goL_ Tryz.func86 #[.slice A2 l2.length c2] ?_; (with_reducible refine (runs_Decode.calls k _ _ l2 t601 t602 _ ((Kd.V_reads' HO2.out).2.2) ((Kd.V_reads' HO2.out).2.1) A9.out).mono ?_); rintro e w21 ⟨v603, rfl, ho0, hb⟩; refine ⟨_, rfl, ?_⟩; have n0_ := Aside0.mk (Kd.V_elder' HO2.out (Kd.R_base ho0) hb); have n1_ := Aside0.mk (Kd.R_lower (Kd.R_newM (M := fun k_ => (w.heap.size ≤ k_)) ho0 (below_size HB.out) (fun k_ h_ => h_)) (below_size HB.out)); have n2_ := Aside0.mk (below_step HB.out hb); revert n0_ n1_ n2_; clear HO2 HB; intro HO2 HO604 HB; (try clear hb); (try clear ho0); obtain ⟨Ao22, co22, eo22⟩ := Kd.R_slice HO604.out; subst eo22) | ((with_reducible refine gate_callee (f := 85) rfl ?_); refine goL_ Tryz.func85 #[.slice Ao22 t601.length co22, .int .i64 t602] ?_; (with_reducible refine (block_fromNumbers.calls k _ _ t601 t602 t605 t606 _ ?side1 ?side2 A10.out).mono ?_); (case side1 => repeat (exact (Kd.R_reads' HO604.out).2.2)); (case side2 => exact (Kd.R_reads' HO604.out).2.1); rintro e w23 ⟨v607, rfl, ho0, hb⟩; refine ⟨_, rfl, ?_⟩; have n0_ := Aside0.mk (Kd.V_elder' HO2.out (by exact Kd.N_base (Kd.S_N ho0)) hb); have n1_ := Aside0.mk (Kd.R_below HO604.out hb); have n2_ := Aside0.mk (Kd.N_lower (Kd.N_mono (ok' := fun k_ => (P2_ k_ ∨ w.heap.size ≤ k_) ∧ some k_ ≠ (.slice Ao22 t601.length co22 : Value).ownBlock) (Kd.S_N (Kd.S_bound ho0)) (fun k_ hk_ => ⟨(.inr (Nat.le_trans (below_size HB.out) hk_.2.1)), (Kd.fresh' (Kd.R_lt HO604.out) k_ hk_.2.1)⟩)) (below_size HB.out)); have n3_ := Aside0.mk (below_step HB.out hb); revert n0_ n1_ n2_ n3_; clear HO2 HO604 HB; intro HO2 HO604 HO608 HB; (try clear hb); (try clear ho0)))
  go_ret2
  exact ⟨_, by rfl, by (with_reducible repeat (apply Kd.N_alloc)); exact Kd.N_mono HO608.out (fun _ hk => hk.1), by exact HB.out⟩
 rw [if_neg c8] at H
 have c8b0 : (a1 == 2) = false := beq_eq_false_iff_ne.mpr c8
 have c8b1 : (a1 != 2) = true := bne_iff_ne.mpr c8
 by_cases c24 : a1 = 3
 ·rw [if_pos c24] at H
  have c24b0 : (a1 == 3) = true := beq_iff_eq.mpr c24
  have c24b1 : (a1 != 3) = false := bne_eq_false_iff_eq.mpr c24
  clear c24
  replace H := Option.bind_eq_some_iff.mp H
  obtain ⟨⟨t609, t610⟩, A250, H⟩ := H
  (try dsimp only at H)
  have A25 := Aside0.mk A250
  clear A250
  replace H := Option.bind_eq_some_iff.mp H
  obtain ⟨⟨t613, t614⟩, A260, H⟩ := H
  (try dsimp only at H)
  have A26 := Aside0.mk A260
  clear A260
  by_cases c27 : t614 = 0
  ·rw [if_pos c27] at H
   have c27b0 : (t614 == 0) = true := beq_iff_eq.mpr c27
   have c27b1 : (t614 != 0) = false := bne_eq_false_iff_eq.mpr c27
   clear c27
   by_cases c28 : (t613.length : Int) = a3
   ·rw [if_pos c28] at H
    have c28b0 : ((t613.length : Int) == a3) = true := beq_iff_eq.mpr c28
    have c28b1 : ((t613.length : Int) != a3) = false := bne_eq_false_iff_eq.mpr c28
    clear c28
    simp only [Option.some.injEq, Prod.mk.injEq] at H
    obtain ⟨rfl, rfl⟩ := H
    go_enter Tryz.func47, Tryz.ntmps47
    go_wp2_with (first | ((with_reducible refine gate_callee (f := 87) rfl ?_); refine goL_ Tryz.func87 #[.slice A2 l2.length c2] ?_; (with_reducible refine (packed_Decode.calls k _ _ l2 t609 t610 _ ((Kd.V_reads' HO2.out).2.2) ((Kd.V_reads' HO2.out).2.1) A25.out).mono ?_); rintro e w29 ⟨v611, rfl, ho0, hb⟩; refine ⟨_, rfl, ?_⟩; have n0_ := Aside0.mk (Kd.V_elder' HO2.out (Kd.R_base ho0) hb); have n1_ := Aside0.mk (Kd.R_lower (Kd.R_newM (M := fun k_ => (w.heap.size ≤ k_)) ho0 (below_size HB.out) (fun k_ h_ => h_)) (below_size HB.out)); have n2_ := Aside0.mk (below_step HB.out hb); revert n0_ n1_ n2_; clear HO2 HB; intro HO2 HO612 HB; (try clear hb); (try clear ho0); obtain ⟨Ao30, co30, eo30⟩ := Kd.R_slice HO612.out; subst eo30) | ((with_reducible refine gate_callee (f := 85) rfl ?_); refine goL_ Tryz.func85 #[.slice Ao30 t609.length co30, .int .i64 t610] ?_; (with_reducible refine (block_fromNumbers.calls k _ _ t609 t610 t613 t614 _ ?side1 ?side2 A26.out).mono ?_); (case side1 => repeat (exact (Kd.R_reads' HO612.out).2.2)); (case side2 => exact (Kd.R_reads' HO612.out).2.1); rintro e w31 ⟨v615, rfl, ho0, hb⟩; refine ⟨_, rfl, ?_⟩; have n0_ := Aside0.mk (Kd.V_elder' HO2.out (by exact Kd.N_base (Kd.S_N ho0)) hb); have n1_ := Aside0.mk (Kd.R_below HO612.out hb); have n2_ := Aside0.mk (Kd.N_lower (Kd.N_mono (ok' := fun k_ => (P2_ k_ ∨ w.heap.size ≤ k_) ∧ some k_ ≠ (.slice Ao30 t609.length co30 : Value).ownBlock) (Kd.S_N (Kd.S_bound ho0)) (fun k_ hk_ => ⟨(.inr (Nat.le_trans (below_size HB.out) hk_.2.1)), (Kd.fresh' (Kd.R_lt HO612.out) k_ hk_.2.1)⟩)) (below_size HB.out)); have n3_ := Aside0.mk (below_step HB.out hb); revert n0_ n1_ n2_ n3_; clear HO2 HO612 HB; intro HO2 HO612 HO616 HB; (try clear hb); (try clear ho0); obtain ⟨Ao32, co32, eo32⟩ := Kd.N_slice HO616.out; subst eo32))
    go_ret2
    exact ⟨_, by rfl, by (with_reducible repeat (apply Kd.N_alloc)); exact Kd.N_mono HO616.out (fun _ hk => hk.1), by exact HB.out⟩
   rw [if_neg c28] at H
   have c28b0 : ((t613.length : Int) == a3) = false := beq_eq_false_iff_ne.mpr c28
   have c28b1 : ((t613.length : Int) != a3) = true := bne_iff_ne.mpr c28
   simp only [Option.some.injEq, Prod.mk.injEq] at H
   obtain ⟨rfl, rfl⟩ := H
   go_enter Tryz.func47, Tryz.ntmps47
   go_wp2_with (first | ((with_reducible refine gate_callee (f := 87) rfl ?_); refine goL_ Tryz.func87 #[.slice A2 l2.length c2] ?_; (with_reducible refine (packed_Decode.calls k _ _ l2 t609 t610 _ ((Kd.V_reads' HO2.out).2.2) ((Kd.V_reads' HO2.out).2.1) A25.out).mono ?_); rintro e w33 ⟨v611, rfl, ho0, hb⟩; refine ⟨_, rfl, ?_⟩; have n0_ := Aside0.mk (Kd.V_elder' HO2.out (Kd.R_base ho0) hb); have n1_ := Aside0.mk (Kd.R_lower (Kd.R_newM (M := fun k_ => (w.heap.size ≤ k_)) ho0 (below_size HB.out) (fun k_ h_ => h_)) (below_size HB.out)); have n2_ := Aside0.mk (below_step HB.out hb); revert n0_ n1_ n2_; clear HO2 HB; intro HO2 HO612 HB; (try clear hb); (try clear ho0); obtain ⟨Ao34, co34, eo34⟩ := Kd.R_slice HO612.out; subst eo34) | ((with_reducible refine gate_callee (f := 85) rfl ?_); refine goL_ Tryz.func85 #[.slice Ao34 t609.length co34, .int .i64 t610] ?_; (with_reducible refine (block_fromNumbers.calls k _ _ t609 t610 t613 t614 _ ?side1 ?side2 A26.out).mono ?_); (case side1 => repeat (exact (Kd.R_reads' HO612.out).2.2)); (case side2 => exact (Kd.R_reads' HO612.out).2.1); rintro e w35 ⟨v615, rfl, ho0, hb⟩; refine ⟨_, rfl, ?_⟩; have n0_ := Aside0.mk (Kd.V_elder' HO2.out (by exact Kd.N_base (Kd.S_N ho0)) hb); have n1_ := Aside0.mk (Kd.R_below HO612.out hb); have n2_ := Aside0.mk (Kd.N_lower (Kd.N_mono (ok' := fun k_ => (P2_ k_ ∨ w.heap.size ≤ k_) ∧ some k_ ≠ (.slice Ao34 t609.length co34 : Value).ownBlock) (Kd.S_N (Kd.S_bound ho0)) (fun k_ hk_ => ⟨(.inr (Nat.le_trans (below_size HB.out) hk_.2.1)), (Kd.fresh' (Kd.R_lt HO612.out) k_ hk_.2.1)⟩)) (below_size HB.out)); have n3_ := Aside0.mk (below_step HB.out hb); revert n0_ n1_ n2_ n3_; clear HO2 HO612 HB; intro HO2 HO612 HO616 HB; (try clear hb); (try clear ho0); obtain ⟨Ao36, co36, eo36⟩ := Kd.N_slice HO616.out; subst eo36))
   go_ret2
   exact ⟨_, by rfl, by (with_reducible repeat (apply Kd.N_alloc)); exact Kd.N_mono HO616.out (fun _ hk => hk.1), by exact HB.out⟩
  rw [if_neg c27] at H
  have c27b0 : (t614 == 0) = false := beq_eq_false_iff_ne.mpr c27
  have c27b1 : (t614 != 0) = true := bne_iff_ne.mpr c27
  simp only [Option.some.injEq, Prod.mk.injEq] at H
  obtain ⟨rfl, rfl⟩ := H
  go_enter Tryz.func47, Tryz.ntmps47
  go_wp2_with (first | ((with_reducible refine gate_callee (f := 87) rfl ?_); refine goL_ Tryz.func87 #[.slice A2 l2.length c2] ?_; (with_reducible refine (packed_Decode.calls k _ _ l2 t609 t610 _ ((Kd.V_reads' HO2.out).2.2) ((Kd.V_reads' HO2.out).2.1) A25.out).mono ?_); rintro e w37 ⟨v611, rfl, ho0, hb⟩; refine ⟨_, rfl, ?_⟩; have n0_ := Aside0.mk (Kd.V_elder' HO2.out (Kd.R_base ho0) hb); have n1_ := Aside0.mk (Kd.R_lower (Kd.R_newM (M := fun k_ => (w.heap.size ≤ k_)) ho0 (below_size HB.out) (fun k_ h_ => h_)) (below_size HB.out)); have n2_ := Aside0.mk (below_step HB.out hb); revert n0_ n1_ n2_; clear HO2 HB; intro HO2 HO612 HB; (try clear hb); (try clear ho0); obtain ⟨Ao38, co38, eo38⟩ := Kd.R_slice HO612.out; subst eo38) | ((with_reducible refine gate_callee (f := 85) rfl ?_); refine goL_ Tryz.func85 #[.slice Ao38 t609.length co38, .int .i64 t610] ?_; (with_reducible refine (block_fromNumbers.calls k _ _ t609 t610 t613 t614 _ ?side1 ?side2 A26.out).mono ?_); (case side1 => repeat (exact (Kd.R_reads' HO612.out).2.2)); (case side2 => exact (Kd.R_reads' HO612.out).2.1); rintro e w39 ⟨v615, rfl, ho0, hb⟩; refine ⟨_, rfl, ?_⟩; have n0_ := Aside0.mk (Kd.V_elder' HO2.out (by exact Kd.N_base (Kd.S_N ho0)) hb); have n1_ := Aside0.mk (Kd.R_below HO612.out hb); have n2_ := Aside0.mk (Kd.N_lower (Kd.N_mono (ok' := fun k_ => (P2_ k_ ∨ w.heap.size ≤ k_) ∧ some k_ ≠ (.slice Ao38 t609.length co38 : Value).ownBlock) (Kd.S_N (Kd.S_bound ho0)) (fun k_ hk_ => ⟨(.inr (Nat.le_trans (below_size HB.out) hk_.2.1)), (Kd.fresh' (Kd.R_lt HO612.out) k_ hk_.2.1)⟩)) (below_size HB.out)); have n3_ := Aside0.mk (below_step HB.out hb); revert n0_ n1_ n2_ n3_; clear HO2 HO612 HB; intro HO2 HO612 HO616 HB; (try clear hb); (try clear ho0)))
  go_ret2
  exact ⟨_, by rfl, by (with_reducible repeat (apply Kd.N_alloc)); exact Kd.N_mono HO616.out (fun _ hk => hk.1), by exact HB.out⟩
 rw [if_neg c24] at H
 have c24b0 : (a1 == 3) = false := beq_eq_false_iff_ne.mpr c24
 have c24b1 : (a1 != 3) = true := bne_iff_ne.mpr c24
 by_cases c40 : a1 = 4
 ·rw [if_pos c40] at H
  have c40b0 : (a1 == 4) = true := beq_iff_eq.mpr c40
  have c40b1 : (a1 != 4) = false := bne_eq_false_iff_eq.mpr c40
  clear c40
  replace H := Option.bind_eq_some_iff.mp H
  obtain ⟨⟨t617, t620⟩, A410, H⟩ := H
  (try dsimp only at H)
  have A41 := Aside0.mk A410
  clear A410
  replace H := Option.bind_eq_some_iff.mp H
  obtain ⟨⟨t621, t624⟩, A420, H⟩ := H
  (try dsimp only at H)
  have A42 := Aside0.mk A420
  clear A420
  by_cases c43 : t624 = 0
  ·rw [if_pos c43] at H
   have c43b0 : (t624 == 0) = true := beq_iff_eq.mpr c43
   have c43b1 : (t624 != 0) = false := bne_eq_false_iff_eq.mpr c43
   clear c43
   by_cases c44 : (t621.length : Int) = a3
   ·rw [if_pos c44] at H
    have c44b0 : ((t621.length : Int) == a3) = true := beq_iff_eq.mpr c44
    have c44b1 : ((t621.length : Int) != a3) = false := bne_eq_false_iff_eq.mpr c44
    clear c44
    simp only [Option.some.injEq, Prod.mk.injEq] at H
    obtain ⟨rfl, rfl⟩ := H
    go_enter Tryz.func47, Tryz.ntmps47
    go_wp2_with (first | ((with_reducible refine gate_callee (f := 89) rfl ?_); refine goL_ Tryz.func89 #[.slice A2 l2.length c2] ?_; (with_reducible refine (dict_Decode.calls k (fun k_ => (P2_ k_ ∨ w.heap.size ≤ k_)) _ _ l2 t617 t620 _ (HO2.out) A41.out).mono ?_); rintro e w45 ⟨v618, rfl, ho0, hb⟩; refine ⟨_, rfl, ?_⟩; have n0_ := Aside0.mk (Kd.V_elder' HO2.out (by exact Kd.N_base ho0) hb); have n1_ := Aside0.mk (Kd.N_lower (Kd.N_mono (ok' := fun k_ => (P2_ k_ ∨ w.heap.size ≤ k_)) ho0 (fun k_ hk_ => Or.elim hk_ (fun hs_ => hs_) (fun hn_ => (.inr (Nat.le_trans (below_size HB.out) hn_))))) (below_size HB.out)); have n2_ := Aside0.mk (below_step HB.out hb); revert n0_ n1_ n2_; clear HO2 HB; intro HO2 HO619 HB; (try clear hb); (try clear ho0); obtain ⟨Ao46, co46, eo46⟩ := Kd.N_slice HO619.out; subst eo46) | ((with_reducible refine gate_callee (f := 88) rfl ?_); refine goL_ Tryz.func88 #[.slice Ao46 t617.length co46, .int .i64 t620] ?_; (with_reducible refine (block_fromTexts.calls k (fun k_ => (P2_ k_ ∨ w.heap.size ≤ k_)) _ _ t617 t620 t621 t624 _ ?side1 A42.out).mono ?_); (case side1 => exact Kd.N_V (HO619.out)); rintro e w47 ⟨v622, rfl, ho0, hb⟩; refine ⟨_, rfl, ?_⟩; have n0_ := Aside0.mk (Kd.V_elder' HO2.out (by exact Kd.N_base ho0) hb); have n1_ := Aside0.mk (Kd.N_elder' HO619.out (by exact Kd.N_base ho0) hb); have n2_ := Aside0.mk (Kd.N_lower (Kd.N_mono (ok' := fun k_ => (P2_ k_ ∨ w.heap.size ≤ k_)) ho0 (fun k_ hk_ => Or.elim hk_ (fun hs_ => hs_) (fun hn_ => (.inr (Nat.le_trans (below_size HB.out) hn_))))) (below_size HB.out)); have n3_ := Aside0.mk (below_step HB.out hb); revert n0_ n1_ n2_ n3_; clear HO2 HO619 HB; intro HO2 HO619 HO623 HB; (try clear hb); (try clear ho0); obtain ⟨Ao48, co48, eo48⟩ := Kd.N_slice HO623.out; subst eo48))
    go_ret2
    exact ⟨_, by rfl, by (with_reducible repeat (apply Kd.N_alloc)); exact HO623.out, by exact HB.out⟩
   rw [if_neg c44] at H
   have c44b0 : ((t621.length : Int) == a3) = false := beq_eq_false_iff_ne.mpr c44
   have c44b1 : ((t621.length : Int) != a3) = true := bne_iff_ne.mpr c44
   simp only [Option.some.injEq, Prod.mk.injEq] at H
   obtain ⟨rfl, rfl⟩ := H
   go_enter Tryz.func47, Tryz.ntmps47
   go_wp2_with (first | ((with_reducible refine gate_callee (f := 89) rfl ?_); refine goL_ Tryz.func89 #[.slice A2 l2.length c2] ?_; (with_reducible refine (dict_Decode.calls k (fun k_ => (P2_ k_ ∨ w.heap.size ≤ k_)) _ _ l2 t617 t620 _ (HO2.out) A41.out).mono ?_); rintro e w49 ⟨v618, rfl, ho0, hb⟩; refine ⟨_, rfl, ?_⟩; have n0_ := Aside0.mk (Kd.V_elder' HO2.out (by exact Kd.N_base ho0) hb); have n1_ := Aside0.mk (Kd.N_lower (Kd.N_mono (ok' := fun k_ => (P2_ k_ ∨ w.heap.size ≤ k_)) ho0 (fun k_ hk_ => Or.elim hk_ (fun hs_ => hs_) (fun hn_ => (.inr (Nat.le_trans (below_size HB.out) hn_))))) (below_size HB.out)); have n2_ := Aside0.mk (below_step HB.out hb); revert n0_ n1_ n2_; clear HO2 HB; intro HO2 HO619 HB; (try clear hb); (try clear ho0); obtain ⟨Ao50, co50, eo50⟩ := Kd.N_slice HO619.out; subst eo50) | ((with_reducible refine gate_callee (f := 88) rfl ?_); refine goL_ Tryz.func88 #[.slice Ao50 t617.length co50, .int .i64 t620] ?_; (with_reducible refine (block_fromTexts.calls k (fun k_ => (P2_ k_ ∨ w.heap.size ≤ k_)) _ _ t617 t620 t621 t624 _ ?side1 A42.out).mono ?_); (case side1 => exact Kd.N_V (HO619.out)); rintro e w51 ⟨v622, rfl, ho0, hb⟩; refine ⟨_, rfl, ?_⟩; have n0_ := Aside0.mk (Kd.V_elder' HO2.out (by exact Kd.N_base ho0) hb); have n1_ := Aside0.mk (Kd.N_elder' HO619.out (by exact Kd.N_base ho0) hb); have n2_ := Aside0.mk (Kd.N_lower (Kd.N_mono (ok' := fun k_ => (P2_ k_ ∨ w.heap.size ≤ k_)) ho0 (fun k_ hk_ => Or.elim hk_ (fun hs_ => hs_) (fun hn_ => (.inr (Nat.le_trans (below_size HB.out) hn_))))) (below_size HB.out)); have n3_ := Aside0.mk (below_step HB.out hb); revert n0_ n1_ n2_ n3_; clear HO2 HO619 HB; intro HO2 HO619 HO623 HB; (try clear hb); (try clear ho0); obtain ⟨Ao52, co52, eo52⟩ := Kd.N_slice HO623.out; subst eo52))
   go_ret2
   exact ⟨_, by rfl, by (with_reducible repeat (apply Kd.N_alloc)); exact HO623.out, by exact HB.out⟩
  rw [if_neg c43] at H
  have c43b0 : (t624 == 0) = false := beq_eq_false_iff_ne.mpr c43
  have c43b1 : (t624 != 0) = true := bne_iff_ne.mpr c43
  simp only [Option.some.injEq, Prod.mk.injEq] at H
  obtain ⟨rfl, rfl⟩ := H
  go_enter Tryz.func47, Tryz.ntmps47
  go_wp2_with (first | ((with_reducible refine gate_callee (f := 89) rfl ?_); refine goL_ Tryz.func89 #[.slice A2 l2.length c2] ?_; (with_reducible refine (dict_Decode.calls k (fun k_ => (P2_ k_ ∨ w.heap.size ≤ k_)) _ _ l2 t617 t620 _ (HO2.out) A41.out).mono ?_); rintro e w53 ⟨v618, rfl, ho0, hb⟩; refine ⟨_, rfl, ?_⟩; have n0_ := Aside0.mk (Kd.V_elder' HO2.out (by exact Kd.N_base ho0) hb); have n1_ := Aside0.mk (Kd.N_lower (Kd.N_mono (ok' := fun k_ => (P2_ k_ ∨ w.heap.size ≤ k_)) ho0 (fun k_ hk_ => Or.elim hk_ (fun hs_ => hs_) (fun hn_ => (.inr (Nat.le_trans (below_size HB.out) hn_))))) (below_size HB.out)); have n2_ := Aside0.mk (below_step HB.out hb); revert n0_ n1_ n2_; clear HO2 HB; intro HO2 HO619 HB; (try clear hb); (try clear ho0); obtain ⟨Ao54, co54, eo54⟩ := Kd.N_slice HO619.out; subst eo54) | ((with_reducible refine gate_callee (f := 88) rfl ?_); refine goL_ Tryz.func88 #[.slice Ao54 t617.length co54, .int .i64 t620] ?_; (with_reducible refine (block_fromTexts.calls k (fun k_ => (P2_ k_ ∨ w.heap.size ≤ k_)) _ _ t617 t620 t621 t624 _ ?side1 A42.out).mono ?_); (case side1 => exact Kd.N_V (HO619.out)); rintro e w55 ⟨v622, rfl, ho0, hb⟩; refine ⟨_, rfl, ?_⟩; have n0_ := Aside0.mk (Kd.V_elder' HO2.out (by exact Kd.N_base ho0) hb); have n1_ := Aside0.mk (Kd.N_elder' HO619.out (by exact Kd.N_base ho0) hb); have n2_ := Aside0.mk (Kd.N_lower (Kd.N_mono (ok' := fun k_ => (P2_ k_ ∨ w.heap.size ≤ k_)) ho0 (fun k_ hk_ => Or.elim hk_ (fun hs_ => hs_) (fun hn_ => (.inr (Nat.le_trans (below_size HB.out) hn_))))) (below_size HB.out)); have n3_ := Aside0.mk (below_step HB.out hb); revert n0_ n1_ n2_ n3_; clear HO2 HO619 HB; intro HO2 HO619 HO623 HB; (try clear hb); (try clear ho0)))
  go_ret2
  exact ⟨_, by rfl, by (with_reducible repeat (apply Kd.N_alloc)); exact HO623.out, by exact HB.out⟩
 rw [if_neg c40] at H
 have c40b0 : (a1 == 4) = false := beq_eq_false_iff_ne.mpr c40
 have c40b1 : (a1 != 4) = true := bne_iff_ne.mpr c40
 replace H := Option.bind_eq_some_iff.mp H
 obtain ⟨⟨t625, t628⟩, A560, H⟩ := H
 (try dsimp only at H)
 have A56 := Aside0.mk A560
 clear A560
 replace H := Option.bind_eq_some_iff.mp H
 obtain ⟨⟨t629, t632⟩, A570, H⟩ := H
 (try dsimp only at H)
 have A57 := Aside0.mk A570
 clear A570
 by_cases c58 : t632 = 0
 ·rw [if_pos c58] at H
  have c58b0 : (t632 == 0) = true := beq_iff_eq.mpr c58
  have c58b1 : (t632 != 0) = false := bne_eq_false_iff_eq.mpr c58
  clear c58
  by_cases c59 : (t629.length : Int) = a3
  ·rw [if_pos c59] at H
   have c59b0 : ((t629.length : Int) == a3) = true := beq_iff_eq.mpr c59
   have c59b1 : ((t629.length : Int) != a3) = false := bne_eq_false_iff_eq.mpr c59
   clear c59
   simp only [Option.some.injEq, Prod.mk.injEq] at H
   obtain ⟨rfl, rfl⟩ := H
   go_enter Tryz.func47, Tryz.ntmps47
   go_wp2_with (first | ((with_reducible refine gate_callee (f := 90) rfl ?_); refine goL_ Tryz.func90 #[.slice A2 l2.length c2] ?_; (with_reducible refine (prefix_Decode.calls k _ _ l2 t625 t628 _ ((Kd.V_reads' HO2.out).2.2) ((Kd.V_reads' HO2.out).2.1) A56.out).mono ?_); rintro e w60 ⟨v626, rfl, ho0, hb⟩; refine ⟨_, rfl, ?_⟩; have n0_ := Aside0.mk (Kd.V_elder' HO2.out (by exact Kd.N_base ho0) hb); have n1_ := Aside0.mk (Kd.N_lower (Kd.N_mono (ok' := fun k_ => (P2_ k_ ∨ w.heap.size ≤ k_)) ho0 (fun k_ hk_ => (.inr (Nat.le_trans (below_size HB.out) hk_)))) (below_size HB.out)); have n2_ := Aside0.mk (below_step HB.out hb); revert n0_ n1_ n2_; clear HO2 HB; intro HO2 HO627 HB; (try clear hb); (try clear ho0); obtain ⟨Ao61, co61, eo61⟩ := Kd.N_slice HO627.out; subst eo61) | ((with_reducible refine gate_callee (f := 88) rfl ?_); refine goL_ Tryz.func88 #[.slice Ao61 t625.length co61, .int .i64 t628] ?_; (with_reducible refine (block_fromTexts.calls k (fun k_ => (P2_ k_ ∨ w.heap.size ≤ k_)) _ _ t625 t628 t629 t632 _ ?side1 A57.out).mono ?_); (case side1 => exact Kd.N_V (HO627.out)); rintro e w62 ⟨v630, rfl, ho0, hb⟩; refine ⟨_, rfl, ?_⟩; have n0_ := Aside0.mk (Kd.V_elder' HO2.out (by exact Kd.N_base ho0) hb); have n1_ := Aside0.mk (Kd.N_elder' HO627.out (by exact Kd.N_base ho0) hb); have n2_ := Aside0.mk (Kd.N_lower (Kd.N_mono (ok' := fun k_ => (P2_ k_ ∨ w.heap.size ≤ k_)) ho0 (fun k_ hk_ => Or.elim hk_ (fun hs_ => hs_) (fun hn_ => (.inr (Nat.le_trans (below_size HB.out) hn_))))) (below_size HB.out)); have n3_ := Aside0.mk (below_step HB.out hb); revert n0_ n1_ n2_ n3_; clear HO2 HO627 HB; intro HO2 HO627 HO631 HB; (try clear hb); (try clear ho0); obtain ⟨Ao63, co63, eo63⟩ := Kd.N_slice HO631.out; subst eo63))
   go_ret2
   exact ⟨_, by rfl, by (with_reducible repeat (apply Kd.N_alloc)); exact HO631.out, by exact HB.out⟩
  rw [if_neg c59] at H
  have c59b0 : ((t629.length : Int) == a3) = false := beq_eq_false_iff_ne.mpr c59
  have c59b1 : ((t629.length : Int) != a3) = true := bne_iff_ne.mpr c59
  simp only [Option.some.injEq, Prod.mk.injEq] at H
  obtain ⟨rfl, rfl⟩ := H
  go_enter Tryz.func47, Tryz.ntmps47
  go_wp2_with (first | ((with_reducible refine gate_callee (f := 90) rfl ?_); refine goL_ Tryz.func90 #[.slice A2 l2.length c2] ?_; (with_reducible refine (prefix_Decode.calls k _ _ l2 t625 t628 _ ((Kd.V_reads' HO2.out).2.2) ((Kd.V_reads' HO2.out).2.1) A56.out).mono ?_); rintro e w64 ⟨v626, rfl, ho0, hb⟩; refine ⟨_, rfl, ?_⟩; have n0_ := Aside0.mk (Kd.V_elder' HO2.out (by exact Kd.N_base ho0) hb); have n1_ := Aside0.mk (Kd.N_lower (Kd.N_mono (ok' := fun k_ => (P2_ k_ ∨ w.heap.size ≤ k_)) ho0 (fun k_ hk_ => (.inr (Nat.le_trans (below_size HB.out) hk_)))) (below_size HB.out)); have n2_ := Aside0.mk (below_step HB.out hb); revert n0_ n1_ n2_; clear HO2 HB; intro HO2 HO627 HB; (try clear hb); (try clear ho0); obtain ⟨Ao65, co65, eo65⟩ := Kd.N_slice HO627.out; subst eo65) | ((with_reducible refine gate_callee (f := 88) rfl ?_); refine goL_ Tryz.func88 #[.slice Ao65 t625.length co65, .int .i64 t628] ?_; (with_reducible refine (block_fromTexts.calls k (fun k_ => (P2_ k_ ∨ w.heap.size ≤ k_)) _ _ t625 t628 t629 t632 _ ?side1 A57.out).mono ?_); (case side1 => exact Kd.N_V (HO627.out)); rintro e w66 ⟨v630, rfl, ho0, hb⟩; refine ⟨_, rfl, ?_⟩; have n0_ := Aside0.mk (Kd.V_elder' HO2.out (by exact Kd.N_base ho0) hb); have n1_ := Aside0.mk (Kd.N_elder' HO627.out (by exact Kd.N_base ho0) hb); have n2_ := Aside0.mk (Kd.N_lower (Kd.N_mono (ok' := fun k_ => (P2_ k_ ∨ w.heap.size ≤ k_)) ho0 (fun k_ hk_ => Or.elim hk_ (fun hs_ => hs_) (fun hn_ => (.inr (Nat.le_trans (below_size HB.out) hn_))))) (below_size HB.out)); have n3_ := Aside0.mk (below_step HB.out hb); revert n0_ n1_ n2_ n3_; clear HO2 HO627 HB; intro HO2 HO627 HO631 HB; (try clear hb); (try clear ho0); obtain ⟨Ao67, co67, eo67⟩ := Kd.N_slice HO631.out; subst eo67))
  go_ret2
  exact ⟨_, by rfl, by (with_reducible repeat (apply Kd.N_alloc)); exact HO631.out, by exact HB.out⟩
 rw [if_neg c58] at H
 have c58b0 : (t632 == 0) = false := beq_eq_false_iff_ne.mpr c58
 have c58b1 : (t632 != 0) = true := bne_iff_ne.mpr c58
 simp only [Option.some.injEq, Prod.mk.injEq] at H
 obtain ⟨rfl, rfl⟩ := H
 go_enter Tryz.func47, Tryz.ntmps47
 go_wp2_with (first | ((with_reducible refine gate_callee (f := 90) rfl ?_); refine goL_ Tryz.func90 #[.slice A2 l2.length c2] ?_; (with_reducible refine (prefix_Decode.calls k _ _ l2 t625 t628 _ ((Kd.V_reads' HO2.out).2.2) ((Kd.V_reads' HO2.out).2.1) A56.out).mono ?_); rintro e w68 ⟨v626, rfl, ho0, hb⟩; refine ⟨_, rfl, ?_⟩; have n0_ := Aside0.mk (Kd.V_elder' HO2.out (by exact Kd.N_base ho0) hb); have n1_ := Aside0.mk (Kd.N_lower (Kd.N_mono (ok' := fun k_ => (P2_ k_ ∨ w.heap.size ≤ k_)) ho0 (fun k_ hk_ => (.inr (Nat.le_trans (below_size HB.out) hk_)))) (below_size HB.out)); have n2_ := Aside0.mk (below_step HB.out hb); revert n0_ n1_ n2_; clear HO2 HB; intro HO2 HO627 HB; (try clear hb); (try clear ho0); obtain ⟨Ao69, co69, eo69⟩ := Kd.N_slice HO627.out; subst eo69) | ((with_reducible refine gate_callee (f := 88) rfl ?_); refine goL_ Tryz.func88 #[.slice Ao69 t625.length co69, .int .i64 t628] ?_; (with_reducible refine (block_fromTexts.calls k (fun k_ => (P2_ k_ ∨ w.heap.size ≤ k_)) _ _ t625 t628 t629 t632 _ ?side1 A57.out).mono ?_); (case side1 => exact Kd.N_V (HO627.out)); rintro e w70 ⟨v630, rfl, ho0, hb⟩; refine ⟨_, rfl, ?_⟩; have n0_ := Aside0.mk (Kd.V_elder' HO2.out (by exact Kd.N_base ho0) hb); have n1_ := Aside0.mk (Kd.N_elder' HO627.out (by exact Kd.N_base ho0) hb); have n2_ := Aside0.mk (Kd.N_lower (Kd.N_mono (ok' := fun k_ => (P2_ k_ ∨ w.heap.size ≤ k_)) ho0 (fun k_ hk_ => Or.elim hk_ (fun hs_ => hs_) (fun hn_ => (.inr (Nat.le_trans (below_size HB.out) hn_))))) (below_size HB.out)); have n3_ := Aside0.mk (below_step HB.out hb); revert n0_ n1_ n2_ n3_; clear HO2 HO627 HB; intro HO2 HO627 HO631 HB; (try clear hb); (try clear ho0)))
 go_ret2
 exact ⟨_, by rfl, by (with_reducible repeat (apply Kd.N_alloc)); exact HO631.out, by exact HB.out⟩
end Go.Proofs.YtjbhaepkldgfnaaGreat.S
namespace Go.Proofs.YtjbhaepkldgfnaaGreat.S
open Go.RowKit Go.Proofs.YtjbhaepkldgfnaaGreatW.PrintWords Go.Proofs.YtjbhaepkldgfnaaGreatW.PrintLast Go.Proofs.YtjbhaepkldgfnaaGreatW.PrintMore
set_option linter.unusedVariables false
def block_readBodyV.f (k : Nat) (a0 : Int) (a1 : Int) (l2 : List Int) (a3 : Int) : Option (List S62 × Int) := block_readBody.f k a0 a1 l2 a3
theorem block_readBodyV.calls (k : Nat) (a0 : Int) (a1 : Int) (P2_ : Nat → Prop) (A2 : Option Addr) (c2 : Nat) (l2 : List Int) (a3 : Int) (r1 : List (S62)) (r2 : Int) (w : World) (hs2 : Kd.V (Kd.int .u8) 5 w w.heap.size (fun k_ => P2_ k_) (.slice A2 l2.length c2) l2) (h : block_readBodyV.f k a0 a1 l2 a3 = some (r1, r2)) :
 Calls Tryz.prog 47 #[.int .i64 a0, .int .i64 a1, .slice A2 l2.length c2, .int .i64 a3] w fun e w' => ∃ v0_ : Value, e = .returned (.tuple #[v0_, .int .i64 r2]) ∧ Kd.V k62 62 w' w.heap.size (fun k_ => (P2_ k_ ∨ w.heap.size ≤ k_)) v0_ r1 ∧ Below w.heap.size w w' := by
 refine (block_readBody.calls k a0 a1 P2_ A2 c2 l2 a3 r1 r2 w hs2 h).mono ?_
 rintro e w' ⟨v, rfl, hn, hb⟩
 exact ⟨v, rfl, Kd.N_V hn, hb⟩
end Go.Proofs.YtjbhaepkldgfnaaGreat.S
