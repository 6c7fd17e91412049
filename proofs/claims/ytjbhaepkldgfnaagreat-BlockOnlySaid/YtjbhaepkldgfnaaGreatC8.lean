/- A part of the proof of BlockOnly (the last text says what is proved, and of what): contracts of Go functions, made by a program of this work over the kit's print, the print's words that they use, and plain laws. No condition. -/
import Derived.Test.YtjbhaepkldgfnaaGreatC2
import Derived.Test.YtjbhaepkldgfnaaGreatC4
import Derived.Test.YtjbhaepkldgfnaaGreatC6
import Derived.Test.YtjbhaepkldgfnaaGreatC3
import Derived.Test.YtjbhaepkldgfnaaGreatC7
namespace Go.Proofs.YtjbhaepkldgfnaaGreat.S
open Go.RowKit Go.Proofs.YtjbhaepkldgfnaaGreatW.PrintWords Go.Proofs.YtjbhaepkldgfnaaGreatW.PrintLast Go.Proofs.YtjbhaepkldgfnaaGreatW.PrintMore
attribute [local go_sem] max2_int min2_int max_two min_two max_three min_three max_four min_four
set_option linter.unusedVariables false
set_option linter.unusedSimpArgs false
mutual
def dict_Encode.l0 : Nat → List (List Int) → List Int → List Int → List (List Int) → Int → Int → Option (List Int × Int)
 | 0, _, _, _, _, _, _ => none
 | k + 1, x4, x5, x7, x27, x28, x29 => if x29 < x28 then (if 0 ≤ x29 then (if x29 < (x27.length : Int) then ((vint_Put.f k (IntKind.u64.wrap (((rd_L1 x27 x29).length : Int)))).bind fun t238 => (if x7.length + t238.length < 140737488355328 then ((some (x7 ++ t238 : List Int)).bind fun y241 => (if y241.length + (rd_L1 x27 x29).length < 140737488355328 then (dict_Encode.l0 k x4 x5 (y241 ++ (rd_L1 x27 x29)) x27 x28 (wrap64 (x29 + 1))) else (none))) else (none))) else (none)) else (none)) else (if 0 ≤ (x5.length : Int) then (if ((x5.length : Int) : Int).toNat ≤ 35184372088832 then (dict_Encode.l1 k x4 x7 (List.replicate ((x5.length : Int) : Int).toNat 0) x5 (x5.length : Int) 0) else (none)) else (none))
def dict_Encode.l1 : Nat → List (List Int) → List Int → List Int → List Int → Int → Int → Option (List Int × Int)
 | 0, _, _, _, _, _, _ => none
 | k + 1, x4, x7, x10, x45, x46, x47 => if x47 < x46 then (if 0 ≤ x47 then (if x47 < (x45.length : Int) then (if x47 < (x10.length : Int) then (dict_Encode.l1 k x4 x7 (x10.set (x47 : Int).toNat (IntKind.u64.wrap (rd x45 x47))) x45 x46 (wrap64 (x47 + 1))) else (none)) else (none)) else (none)) else ((dict_width.f k (x4.length : Int)).bind fun t252 => ((bits_Pack.f k t252 x10).bind fun bt253 => ((vint_Put.f k (IntKind.u64.wrap ((x10.length : Int)))).bind fun t257 => (if x7.length + t257.length < 140737488355328 then ((some (x7 ++ t257 : List Int)).bind fun y260 => (if y260.length + bt253.1.length < 140737488355328 then (some ((y260 ++ bt253.1), bt253.2)) else (none))) else (none)))))
end
def dict_Encode.f (k : Nat) (l0 : List (List Int)) : Option (List Int × Int) := (dict_Index.f l0).bind fun bt227 => (if bt227.2.2 = 0 then ((vint_Put.f k (IntKind.u64.wrap ((bt227.1.length : Int)))).bind fun t234 => (dict_Encode.l0 k bt227.1 bt227.2.1 t234 bt227.1 (bt227.1.length : Int) 0)) else (some (([] : List Int), bt227.2.2)))
set_option maxHeartbeats 8000000 in
set_option maxRecDepth 100000 in
theorem dict_Encode.calls (k : Nat) (A0 : Option Addr) (c0 : Nat) (l0 : List (List Int)) (r1 : List Int) (r2 : Int) (w : World) (hr0 : Kd.C (Kd.slice 5 (Kd.int .u8)) w A0 l0.length l0) (hc0 : l0.length ≤ c0) (h : dict_Encode.f k l0 = some (r1, r2)) :
 Calls Tryz.prog 106 #[.slice A0 l0.length c0] w fun e w' => ∃ v0_ : Value, e = .returned (.tuple #[v0_, .int .i64 r2]) ∧ Kd.R (Kd.int .u8) 5 w' w.heap.size (fun _ => True) v0_ r1 ∧ Below w.heap.size w w' := by
 have HR0 := Aside0.mk hr0
 have HC0 := Aside0.mk hc0
 clear hr0 hc0
 have HB := Aside0.mk (Below.refl w.heap.size w)
 unfold dict_Encode.f at h
 have H := h
 clear h
 replace H := Option.bind_eq_some_iff.mp H
 obtain ⟨⟨t227, t230, t233⟩, A20, H⟩ := H
 (try dsimp only at H)
 have A2 := Aside0.mk A20
 clear A20
 by_cases c3 : t233 = 0
 ·rw [if_pos c3] at H
  have c3b0 : (t233 == 0) = true := beq_iff_eq.mpr c3
  have c3b1 : (t233 != 0) = false := bne_eq_false_iff_eq.mpr c3
  clear c3
  replace H := Option.bind_eq_some_iff.mp H
  obtain ⟨t234, A40, H⟩ := H
  (try dsimp only at H)
  have A4 := Aside0.mk A40
  clear A40
  have H' := Aside0.mk H
  clear H
  go_enter Tryz.func106, Tryz.ntmps106
  go_wp2_with (first | ((with_reducible refine gate_callee (f := 137) rfl ?_); refine goL_ Tryz.func137 #[.slice A0 l0.length c0] ?_; (with_reducible refine (dict_Index.calls _ _ l0 t227 t230 t233 _ (HR0.out) (HC0.out) A2.out).mono ?_); rintro e w5 ⟨v228, v231, rfl, ho0, ho1, hb⟩; refine ⟨_, rfl, ?_⟩; have n0_ := Aside0.mk (Kd.N_lower (Kd.N_mono (ok' := fun k_ => some k_ ≠ (v231 : Value).ownBlock) ho0 (fun k_ hk_ => hk_.2)) (below_size HB.out)); have n1_ := Aside0.mk (Kd.R_lower (Kd.R_mono (ok' := fun k_ => True) ho1 (fun _ hk_ => trivial)) (below_size HB.out)); have n2_ := Aside0.mk (below_step HB.out hb); revert n0_ n1_ n2_; clear HB; intro HO229 HO232 HB; (try clear hb); (try clear ho0); (try clear ho1); obtain ⟨Ao6, co6, eo6⟩ := Kd.N_slice HO229.out; subst eo6) | ((with_reducible refine gate_callee (f := 71) rfl ?_); refine goL_ Tryz.func71 #[.int .u64 (IntKind.u64.wrap ((t227.length : Int)))] ?_; (with_reducible refine (vint_Put.calls k (IntKind.u64.wrap ((t227.length : Int))) t234 _ A4.out).mono ?_); rintro e w7 ⟨v235, rfl, ho0, hb⟩; refine ⟨_, rfl, ?_⟩; have n0_ := Aside0.mk (Kd.N_elder' HO229.out (Kd.R_base ho0) hb); have n1_ := Aside0.mk (Kd.R_below HO232.out hb); have n2_ := Aside0.mk (Kd.R_lower ho0 (below_size HB.out)); have n3_ := Aside0.mk (below_step HB.out hb); revert n0_ n1_ n2_ n3_; clear HO229 HO232 HB; intro HO229 HO232 HO236 HB; (try clear hb); (try clear ho0)))
  go_loopg [7, 29] k (fun kq v7 v29 w' => ∃ (x7_1 : List Int) (x29_1 : Int), v29 = .int .i64 x29_1 ∧ Aside0 (dict_Encode.l0 kq t227 t230 x7_1 t227 (t227.length : Int) x29_1 = some (r1, r2)) ∧ Aside0 (kq ≤ k) ∧ Aside0 (Kd.N (Kd.slice 5 (Kd.int .u8)) 24 w' w.heap.size (fun k_ => some k_ ≠ (v231 : Value).ownBlock ∧ some k_ ≠ (v7 : Value).ownBlock) (.slice Ao6 t227.length co6) t227) ∧ Aside0 (Kd.R (Kd.int .i64) 3 w' w.heap.size (fun _ => True) v231 t230) ∧ Aside0 (Kd.R (Kd.int .u8) 5 w' w.heap.size (fun _ => True) v7 x7_1) ∧ Aside0 (Kd.N (Kd.slice 5 (Kd.int .u8)) 24 w' w.heap.size (fun k_ => some k_ ≠ (v231 : Value).ownBlock ∧ some k_ ≠ (v7 : Value).ownBlock) (.slice Ao6 t227.length co6) t227) ∧ Aside0 (Below w.heap.size w w'))
  case atStart => exact ⟨(t234), (0), (by rfl), H', ⟨Nat.le_refl _⟩, ⟨by (with_reducible repeat (apply Kd.N_alloc)); exact HO229.out⟩, ⟨by (with_reducible repeat (apply Kd.R_alloc)); exact HO232.out⟩, ⟨by (with_reducible repeat (apply Kd.R_alloc)); exact HO236.out⟩, ⟨by (with_reducible repeat (apply Kd.N_alloc)); exact HO229.out⟩, ⟨by exact HB.out⟩⟩
  case round =>
   clear H'
   try clear c3b0
   try clear c3b1
   obtain ⟨x7_1, x29_1, rfl, HA, HK1, HO_4, HO_5, HO_7, HO_27, HB⟩ := hrel
   cases gk with
   | zero => exact absurd HA.out (by simp [dict_Encode.l0])
   | succ k1 =>
    have H := HA.out
    clear HA
    simp only [dict_Encode.l0] at H
    by_cases c8 : x29_1 < (t227.length : Int)
    ·rw [if_pos c8] at H
     have c8b0 : decide (x29_1 < (t227.length : Int)) = true := decide_eq_true c8
     clear c8
     by_cases c9 : 0 ≤ x29_1
     ·rw [if_pos c9] at H
      have c9b0 : decide (0 ≤ x29_1) = true := decide_eq_true c9
      clear c9
      by_cases c10 : x29_1 < (t227.length : Int)
      ·rw [if_pos c10] at H
       have c10b0 : decide (x29_1 < (t227.length : Int)) = true := decide_eq_true c10
       clear c10
       replace H := Option.bind_eq_some_iff.mp H
       obtain ⟨t238, A110, H⟩ := H
       (try dsimp only at H)
       have A11 := Aside0.mk A110
       clear A110
       by_cases c12 : x7_1.length + t238.length < 140737488355328
       ·rw [if_pos c12] at H
        have LMc12 := Aside0.mk c12
        clear c12
        obtain ⟨y241, hy241⟩ : ∃ y_ : List Int, y_ = (x7_1 ++ t238) := ⟨_, rfl⟩
        replace H : (if y241.length + (rd_L1 t227 x29_1).length < 140737488355328 then (dict_Encode.l0 k1 t227 t230 (y241 ++ (rd_L1 t227 x29_1)) t227 (t227.length : Int) (wrap64 (x29_1 + 1))) else (none)) = some (r1, r2) := by (have H2_ := (Option.bind_some _ _).symm.trans H; rw [hy241]; with_reducible exact H2_)
        have Ny241 := Aside0.mk hy241
        clear hy241
        by_cases c13 : y241.length + (rd_L1 t227 x29_1).length < 140737488355328
        ·rw [if_pos c13] at H
         have LMc13 := Aside0.mk c13
         clear c13
         obtain ⟨y244, hy244⟩ : ∃ y_ : List Int, y_ = (y241 ++ (rd_L1 t227 x29_1)) := ⟨_, rfl⟩
         replace H : (dict_Encode.l0 k1 t227 t230 y244 t227 (t227.length : Int) (wrap64 (x29_1 + 1))) = some (r1, r2) := by (rw [hy244]; with_reducible exact H)
         have Ny244 := Aside0.mk hy244
         clear hy244
         have H' := Aside0.mk H
         clear H
         have p237 : 0 ≤ (x29_1 : Int) := of_decide_eq_true ‹_›
         have q237 : x29_1 < (t227.length : Int) := of_decide_eq_true ‹_›
         obtain ⟨ad237, A237_0, c237_0, e237, hx237_0, hl237_0, hi237_0⟩ := at_L1 (Kd.N_reads' HO_27.out).2.2 x29_1 p237 q237
         cases e237
         obtain ⟨ce237, hce237, hMe237, hcc237⟩ := Kd.N_get HO_27.out [] x29_1 p237 q237
         obtain ⟨ua237_0, uc237_0, rfl, ul237_0, ge237_0⟩ := Kd.FK_slice_open hMe237
         have hv237_0 := hcc237 0 _ rfl
         rw [Nat.add_zero, show ((Kd.slice 5 (Kd.int .u8))).sz = 1 from rfl, Nat.mul_one] at hv237_0
         replace hv237_0 := Option.some.inj (hv237_0.symm.trans hx237_0)
         injection hv237_0 with hva_ hvn_ hvc_
         rw [hva_] at ge237_0
         rw [hvc_] at ul237_0
         have HL237_0 := Aside0.mk (show Kd.V (Kd.int .u8) 5 _ w.heap.size _ _ (rd_L1 t227 x29_1) from Kd.V_mk ul237_0 ge237_0)
         clear hva_ hvn_ hvc_ ge237_0 ul237_0
         clear hcc237 hce237
         have HR237_0 := Aside0.mk hi237_0
         have HC237_0 := Aside0.mk hl237_0
         clear hi237_0 hl237_0
         replace p237 := eq_true p237
         replace q237 := eq_true q237
         go_wp2_with (first | ((with_reducible refine gate_callee (f := 71) rfl ?_); refine goL_ Tryz.func71 #[.int .u64 (IntKind.u64.wrap (((rd_L1 t227 x29_1).length : Int)))] ?_; (with_reducible refine (vint_Put.calls k1 (IntKind.u64.wrap (((rd_L1 t227 x29_1).length : Int))) t238 _ A11.out).mono ?_); rintro e w14 ⟨v239, rfl, ho0, hb⟩; refine ⟨_, rfl, ?_⟩; have n0_ := Aside0.mk (Kd.N_elder' HO_4.out (Kd.R_base ho0) hb); have n1_ := Aside0.mk (Kd.R_below HO_5.out hb); have n2_ := Aside0.mk (Kd.R_elder' HO_7.out (Kd.R_base ho0) hb); have n3_ := Aside0.mk (Kd.N_elder' HO_27.out (Kd.R_base ho0) hb); have n4_ := Aside0.mk (Kd.V_elder' HL237_0.out (Kd.R_base ho0) hb); have n5_ := Aside0.mk (Kd.R_lower (Kd.R_new' ho0 (Kd.R_lt HO_7.out)) (below_size HB.out)); have n6_ := Aside0.mk (Kd.C_below HR237_0.out hb); have n7_ := Aside0.mk (below_step HB.out hb); revert n0_ n1_ n2_ n3_ n4_ n5_ n6_ n7_; clear HO_4 HO_5 HO_7 HO_27 HL237_0 HR237_0 HB; intro HO_4 HO_5 HO_7 HO_27 HL237_0 HO240 HR237_0 HB; (try clear hb); (try clear ho0); obtain ⟨Ao16, co16, eo16⟩ := Kd.R_slice HO240.out; subst eo16) | ((with_reducible refine gate_builtin (b := .append) (xs := #[.tmp 33, .tmp 37]) rfl ?_); at_builtin; refine Kd.R_append_rows (Kd.int .u8) (w0 := w) w.heap.size rfl (.tmp 33) (.tmp 37) 24 5 (.int .u8 0) 1 rfl Tryz.underlying24 info5 rfl (by decide) (by omega) u7 x7_1 t238 _ _ _ (fun k_ => some k_ ≠ (.slice Ao16 t238.length co16 : Value).ownBlock) (fun _ => False) rfl rfl ?aO ?aR (fun _ _ h => h) (fun _ h => h.elim) ?aF ?aB ?aS ?aL ?_; (case aR => repeat (exact (Kd.R_reads' HO240.out).2.2)); (case aB => exact HB.out); (case aF => exact (fun k_ hk => Kd.fresh' (Kd.R_lt HO240.out) k_ hk)); (case aO => exact (by (with_reducible repeat (apply Kd.R_alloc)); exact Kd.R_mono HO_7.out (fun _ hk => hk.2))); (case aS => exact (below_size HB.out)); (case aL => have := LMc12.out; omega); intro v242 w15 ho hb hg hat; rw [← Ny241.out] at ho; have n0_ := Aside0.mk (Kd.N_afterv (ok := (fun k_ => some k_ ≠ (v231 : Value).ownBlock ∧ some k_ ≠ (.slice Ao16 t238.length co16 : Value).ownBlock)) (by (with_reducible repeat (apply Kd.N_alloc)); exact Kd.N_mono HO_4.out (fun _ hk => ⟨⟨hk.1.1, hk.2⟩, hk.1.2⟩)) hg hat); have n1_ := Aside0.mk (Kd.R_over' HO_5.out (Kd.R_typed HO_7.out) (by decide) hg); have n2_ := Aside0.mk (Kd.N_afterv (ok := (fun k_ => some k_ ≠ (v231 : Value).ownBlock ∧ some k_ ≠ (.slice Ao16 t238.length co16 : Value).ownBlock)) (by (with_reducible repeat (apply Kd.N_alloc)); exact Kd.N_mono HO_27.out (fun _ hk => ⟨⟨hk.1.1, hk.2⟩, hk.1.2⟩)) hg hat); have n3_ := Aside0.mk (Kd.V_afterv (ok := (fun k_ => some k_ ≠ (v231 : Value).ownBlock ∧ some k_ ≠ (.slice (some ad237) t227.length co6 : Value).ownBlock ∧ some k_ ≠ (.slice Ao16 t238.length co16 : Value).ownBlock)) (by (with_reducible repeat (apply Kd.V_alloc)); exact Kd.V_mono HL237_0.out (fun _ hk => ⟨⟨hk.1.1.1, ⟨hk.1.2, hk.2⟩⟩, hk.1.1.2⟩)) hg hat); have n4_ := Aside0.mk (Kd.R_after (ok := (fun _ => True)) HO240.out hg hat); have n5_ := Aside0.mk (hb); have n6_ := Aside0.mk (ho); revert n0_ n1_ n2_ n3_ n4_ n5_ n6_; clear HO_4 HO_5 HO_27 HL237_0 HO240 HB HO_7; intro HO_4 HO_5 HO_27 HL237_0 HO240 HB HO243; clear ho hb hg hat) | ((with_reducible refine gate_builtin (b := .append) (xs := #[.tmp 38, .tmp 39]) rfl ?_); at_builtin; refine Kd.R_append_rows (Kd.int .u8) (w0 := w) w.heap.size rfl (.tmp 38) (.tmp 39) 24 5 (.int .u8 0) 1 rfl Tryz.underlying24 info5 rfl (by decide) (by omega) v242 y241 (rd_L1 t227 x29_1) _ _ _ (fun k_ => some k_ ≠ (.slice Ao16 t238.length co16 : Value).ownBlock) (fun _ => False) rfl rfl ?aO ?aR (fun _ _ h => h) (fun _ h => h.elim) ?aF ?aB ?aS ?aL ?_; (case aR => repeat ((exact ((Kd.V_reads' HL237_0.out).2.2)))); (case aB => exact HB.out); (case aF => exact (fun k_ hk => Kd.fresh' (Kd.R_lt HO240.out) k_ hk)); (case aO => exact HO243.out); (case aS => exact (below_size HB.out)); (case aL => have := LMc13.out; omega); intro v245 w17 ho hb hg hat; rw [← Ny244.out] at ho; have n0_ := Aside0.mk (Kd.N_afterv (ok := (fun k_ => some k_ ≠ (v231 : Value).ownBlock ∧ some k_ ≠ (.slice Ao16 t238.length co16 : Value).ownBlock)) HO_4.out hg hat); have n1_ := Aside0.mk (Kd.R_over' HO_5.out (Kd.R_typed HO243.out) (by decide) hg); have n2_ := Aside0.mk (Kd.N_afterv (ok := (fun k_ => some k_ ≠ (v231 : Value).ownBlock ∧ some k_ ≠ (.slice Ao16 t238.length co16 : Value).ownBlock)) HO_27.out hg hat); have n3_ := Aside0.mk (Kd.V_afterv (ok := (fun k_ => some k_ ≠ (v231 : Value).ownBlock ∧ some k_ ≠ (.slice (some ad237) t227.length co6 : Value).ownBlock ∧ some k_ ≠ (.slice Ao16 t238.length co16 : Value).ownBlock)) HL237_0.out hg hat); have n4_ := Aside0.mk (Kd.R_after (ok := (fun _ => True)) HO240.out hg hat); have n5_ := Aside0.mk (hb); have n6_ := Aside0.mk (ho); revert n0_ n1_ n2_ n3_ n4_ n5_ n6_; clear HO_4 HO_5 HO_27 HL237_0 HO240 HB HO243; intro HO_4 HO_5 HO_27 HL237_0 HO240 HB HO246; clear ho hb hg hat))
         go_roundg k1
         case measure => have := HK1.out; omega
         case rel => exact ⟨(y244), (wrap64 (x29_1 + 1)), (by rfl), H', ⟨by have := HK1.out; omega⟩, ⟨by (with_reducible repeat (apply Kd.N_alloc)); exact Kd.N_mono HO_4.out (fun _ hk => ⟨hk.1.1, hk.2⟩)⟩, ⟨by (with_reducible repeat (apply Kd.R_alloc)); exact HO_5.out⟩, ⟨by (with_reducible repeat (apply Kd.R_alloc)); exact Kd.R_mono HO246.out (fun _ hk => trivial)⟩, ⟨by (with_reducible repeat (apply Kd.N_alloc)); exact Kd.N_mono HO_27.out (fun _ hk => ⟨hk.1.1, hk.2⟩)⟩, ⟨by exact HB.out⟩⟩
        rw [if_neg c13] at H
        exact absurd H (by simp)
       rw [if_neg c12] at H
       exact absurd H (by simp)
      rw [if_neg c10] at H
      exact absurd H (by simp)
     rw [if_neg c9] at H
     exact absurd H (by simp)
    rw [if_neg c8] at H
    have c8b0 : decide (x29_1 < (t227.length : Int)) = false := decide_eq_false c8
    clear c8
    by_cases c18 : 0 ≤ (t230.length : Int)
    ·rw [if_pos c18] at H
     have c18b0 := eq_true c18
     have c18b1 : decide (0 ≤ (t230.length : Int)) = true := decide_eq_true c18
     clear c18
     by_cases c19 : ((t230.length : Int) : Int).toNat ≤ 35184372088832
     ·rw [if_pos c19] at H
      have c19b0 := eq_true c19
      have c19b1 : decide (((t230.length : Int) : Int).toNat ≤ 35184372088832) = true := decide_eq_true c19
      clear c19
      obtain ⟨y247, hy247⟩ : ∃ y_ : List Int, y_ = (List.replicate ((t230.length : Int) : Int).toNat 0) := ⟨_, rfl⟩
      replace H : (dict_Encode.l1 k1 t227 x7_1 y247 t230 (t230.length : Int) 0) = some (r1, r2) := by (rw [hy247]; with_reducible exact H)
      have Ny247 := Aside0.mk hy247
      clear hy247
      have H' := Aside0.mk H
      clear H
      obtain ⟨Ao20, co20, eo20⟩ := Kd.R_slice HO_5.out
      subst eo20
      go_wp2_with ((refine Kd.R_make (Kd.int .u64) _ 69 rfl (N := 44) rfl 72 _ _ rfl (t230.length : Int) rfl rfl Tryz.underlying72 (.int .u64 0) 8 info69 rfl (by decide) (by omega) 0 (ok := fun _ => True) (okp := fun _ => True) rfl (fun _ hk => hk) trivial (of_decide_eq_true ‹_›) (Nat.le_trans (Nat.mul_le_mul_right _ (of_decide_eq_true ‹_› : (t230.length : Int).toNat ≤ 35184372088832)) (by omega)) (Below.refl _ _) (Nat.le_refl _) ?_; intro v248 w21 ho22 hb hg_ hnew_; clear hg_ hnew_; (rw [← Ny247.out] at ho22); have n0_ := Aside0.mk (Kd.N_elder' HO_4.out (Kd.R_base ho22) hb); have n1_ := Aside0.mk (Kd.R_below HO_5.out hb); have n2_ := Aside0.mk (Kd.R_below HO_7.out hb); have n3_ := Aside0.mk (Kd.N_elder' HO_27.out (Kd.R_base ho22) hb); have n4_ := Aside0.mk (Kd.R_lower ho22 (below_size HB.out)); have n5_ := Aside0.mk (below_step HB.out hb); revert n0_ n1_ n2_ n3_ n4_ n5_; clear HO_4 HO_5 HO_7 HO_27 HB; intro HO_4 HO_5 HO_7 HO_27 HO249 HB; clear hb ho22))
      go_loopg [47] k1 (fun kq v47 w' => ∃ (x10_2 : List Int) (x47_2 : Int), v47 = .int .i64 x47_2 ∧ Aside0 (dict_Encode.l1 kq t227 x7_1 x10_2 t230 (t230.length : Int) x47_2 = some (r1, r2)) ∧ Aside0 (kq ≤ k1) ∧ Aside0 (Kd.N (Kd.slice 5 (Kd.int .u8)) 24 w' w.heap.size (fun k_ => some k_ ≠ (u7 : Value).ownBlock ∧ some k_ ≠ (v248 : Value).ownBlock ∧ some k_ ≠ ((.slice Ao20 t230.length co20) : Value).ownBlock) (.slice Ao6 t227.length co6) t227) ∧ Aside0 (Kd.R (Kd.int .u8) 5 w' w.heap.size (fun _ => True) u7 x7_1) ∧ Aside0 (Kd.R (Kd.int .u64) 69 w' w.heap.size (fun _ => True) v248 x10_2) ∧ Aside0 (Kd.R (Kd.int .i64) 3 w' w.heap.size (fun _ => True) (.slice Ao20 t230.length co20) t230) ∧ Aside0 (Below w.heap.size w w'))
      case atStart => exact ⟨(y247), (0), (by rfl), H', ⟨Nat.le_refl _⟩, ⟨by (with_reducible repeat (apply Kd.N_alloc)); exact Kd.N_mono HO_4.out (fun _ hk => ⟨hk.1.2, ⟨hk.2, hk.1.1⟩⟩)⟩, ⟨by (with_reducible repeat (apply Kd.R_alloc)); exact HO_7.out⟩, ⟨by (with_reducible repeat (apply Kd.R_alloc)); exact HO249.out⟩, ⟨by (with_reducible repeat (apply Kd.R_alloc)); exact HO_5.out⟩, ⟨by exact HB.out⟩⟩
      case round =>
       clear H'
       try clear c8b0
       try clear c18b0
       try clear c18b1
       try clear c19b0
       try clear c19b1
       obtain ⟨x10_2, x47_2, rfl, HA, HK2, HO_4, HO_7, HO_10, HO_45, HB⟩ := hrel
       cases gk with
       | zero => exact absurd HA.out (by simp [dict_Encode.l1])
       | succ k2 =>
        have H := HA.out
        clear HA
        simp only [dict_Encode.l1] at H
        by_cases c23 : x47_2 < (t230.length : Int)
        ·rw [if_pos c23] at H
         have c23b0 : decide (x47_2 < (t230.length : Int)) = true := decide_eq_true c23
         clear c23
         by_cases c24 : 0 ≤ x47_2
         ·rw [if_pos c24] at H
          have c24b0 : decide (0 ≤ x47_2) = true := decide_eq_true c24
          clear c24
          by_cases c25 : x47_2 < (t230.length : Int)
          ·rw [if_pos c25] at H
           have c25b0 : decide (x47_2 < (t230.length : Int)) = true := decide_eq_true c25
           clear c25
           by_cases c26 : x47_2 < (x10_2.length : Int)
           ·rw [if_pos c26] at H
            have c26b0 : decide (x47_2 < (x10_2.length : Int)) = true := decide_eq_true c26
            clear c26
            obtain ⟨y251, hy251⟩ : ∃ y_ : List Int, y_ = (x10_2.set (x47_2 : Int).toNat (IntKind.u64.wrap (rd t230 x47_2))) := ⟨_, rfl⟩
            replace H : (dict_Encode.l1 k2 t227 x7_1 y251 t230 (t230.length : Int) (wrap64 (x47_2 + 1))) = some (r1, r2) := by (rw [hy251]; with_reducible exact H)
            have Ny251 := Aside0.mk hy251
            clear hy251
            have H' := Aside0.mk H
            clear H
            have p250 : 0 ≤ (x47_2 : Int) := of_decide_eq_true ‹_›
            have q250 : x47_2 < (t230.length : Int) := of_decide_eq_true ‹_›
            obtain ⟨ad250, e250, hx250_0⟩ := Kd.at_int (Kd.R_reads' HO_45.out).2.2 x47_2 p250 q250
            cases e250
            replace p250 := eq_true p250
            replace q250 := eq_true q250
            have p27 : 0 ≤ (x47_2 : Int) := of_decide_eq_true ‹_›
            have q27 : (x47_2 : Int) < ((x10_2.length : Int) : Int) := of_decide_eq_true ‹_›
            obtain ⟨go27, co27, eo27, gb27, gl27, cl27, HG27⟩ := Kd.R_form HO_10.out (by omega)
            (cases eo27)
            have GB27 := Aside0.mk gb27
            have GG27 := Aside0.mk HG27
            clear gb27 gl27 HG27
            obtain ⟨hx27_0, hf27_0⟩ := Kd.R_celln 0 HO_10.out (x47_2 : Int) p27 q27
            replace p27 := eq_true p27
            replace q27 := eq_true q27
            have HP28 := Kd.R_putg HO_10.out (x47_2 : Int) (IntKind.u64.wrap (rd t230 x47_2))
            go_wp2_with ((refine store_event (t := 69) (p := 56) (v := ?vo_w29) (w1 := (wr.setCell ⟨go27, (x47_2 : Int).toNat, none⟩ (.int .u64 (IntKind.u64.wrap (rd t230 x47_2))))) ?hg ?ho ?hn ?hr ?_; (case ho => rfl); (case hg => rfl); (case hn => rfl); (case hr => (go_simp; done)); intro w29 hw; have hg : wr.grownBy w29 (some go27) := (by rw [hw]; exact HP28.2); have hp_ : Kd.R (Kd.int .u64) 69 w29 w.heap.size (fun _ => True) (.slice (some ⟨go27, 0, none⟩) x10_2.length co27) y251 := (by rw [hw, Ny251.out]; exact HP28.1); clear HP28; have n0_ := Aside0.mk (Kd.N_afterv (v := (.slice (some ⟨go27, 0, none⟩) x10_2.length co27)) (v1 := (.slice (some ⟨go27, 0, none⟩) x10_2.length co27)) (ok := (fun k_ => some k_ ≠ (u7 : Value).ownBlock ∧ some k_ ≠ (.slice (some ad250) t230.length co20 : Value).ownBlock)) (by (with_reducible repeat (apply Kd.N_alloc)); exact Kd.N_mono HO_4.out (fun _ hk => ⟨⟨hk.1, hk.2.2⟩, hk.2.1⟩)) hg (.inl rfl)); have n1_ := Aside0.mk (Kd.R_over' (v := (.slice (some ⟨go27, 0, none⟩) x10_2.length co27)) HO_7.out (Kd.R_typed HO_10.out) (by decide) hg); have n2_ := Aside0.mk (hp_); have n3_ := Aside0.mk (Kd.R_over' (v := (.slice (some ⟨go27, 0, none⟩) x10_2.length co27)) HO_45.out (Kd.R_typed HO_10.out) (by decide) hg); have n4_ := Aside0.mk ((by rw [hw]; exact below_set (HB.out) GB27.out : Below w.heap.size w w29)); revert n0_ n1_ n2_ n3_ n4_; clear HO_4 HO_7 HO_10 HO_45 HB; intro HO_4 HO_7 HO_10 HO_45 HB; clear hg hw hp_))
            go_roundg k2
            case measure => have := HK1.out; have := HK2.out; omega
            case rel => exact ⟨(y251), (wrap64 (x47_2 + 1)), (by rfl), H', ⟨by have := HK1.out; have := HK2.out; omega⟩, ⟨by (with_reducible repeat (apply Kd.N_alloc)); exact Kd.N_mono HO_4.out (fun _ hk => ⟨hk.1.1, ⟨hk.2, hk.1.2⟩⟩)⟩, ⟨by (with_reducible repeat (apply Kd.R_alloc)); exact HO_7.out⟩, ⟨by (with_reducible repeat (apply Kd.R_alloc)); exact HO_10.out⟩, ⟨by (with_reducible repeat (apply Kd.R_alloc)); exact HO_45.out⟩, ⟨by exact HB.out⟩⟩
           rw [if_neg c26] at H
           exact absurd H (by simp)
          rw [if_neg c25] at H
          exact absurd H (by simp)
         rw [if_neg c24] at H
         exact absurd H (by simp)
        rw [if_neg c23] at H
        have c23b0 : decide (x47_2 < (t230.length : Int)) = false := decide_eq_false c23
        clear c23
        replace H := Option.bind_eq_some_iff.mp H
        obtain ⟨t252, A300, H⟩ := H
        (try dsimp only at H)
        have A30 := Aside0.mk A300
        clear A300
        replace H := Option.bind_eq_some_iff.mp H
        obtain ⟨⟨t253, t254⟩, A310, H⟩ := H
        (try dsimp only at H)
        have A31 := Aside0.mk A310
        clear A310
        replace H := Option.bind_eq_some_iff.mp H
        obtain ⟨t257, A320, H⟩ := H
        (try dsimp only at H)
        have A32 := Aside0.mk A320
        clear A320
        by_cases c33 : x7_1.length + t257.length < 140737488355328
        ·rw [if_pos c33] at H
         have LMc33 := Aside0.mk c33
         clear c33
         obtain ⟨y260, hy260⟩ : ∃ y_ : List Int, y_ = (x7_1 ++ t257) := ⟨_, rfl⟩
         replace H : (if y260.length + t253.length < 140737488355328 then (some ((y260 ++ t253), t254)) else (none)) = some (r1, r2) := by (have H2_ := (Option.bind_some _ _).symm.trans H; rw [hy260]; with_reducible exact H2_)
         have Ny260 := Aside0.mk hy260
         clear hy260
         by_cases c34 : y260.length + t253.length < 140737488355328
         ·rw [if_pos c34] at H
          have LMc34 := Aside0.mk c34
          clear c34
          obtain ⟨y263, hy263⟩ : ∃ y_ : List Int, y_ = (y260 ++ t253) := ⟨_, rfl⟩
          replace H : (some (y263, t254)) = some (r1, r2) := by (rw [hy263]; with_reducible exact H)
          have Ny263 := Aside0.mk hy263
          clear hy263
          simp only [Option.some.injEq, Prod.mk.injEq] at H
          obtain ⟨rfl, rfl⟩ := H
          go_wp2_with (first | ((with_reducible refine gate_callee (f := 129) rfl ?_); refine goL_ Tryz.func129 #[.int .i64 (t227.length : Int)] ?_; (with_reducible refine (dict_width.calls k2 (t227.length : Int) t252 _ A30.out).mono ?_); rintro e w35 ⟨rfl, hb⟩; refine ⟨_, rfl, ?_⟩; have n0_ := Aside0.mk (Kd.N_below HO_4.out hb); have n1_ := Aside0.mk (Kd.R_below HO_7.out hb); have n2_ := Aside0.mk (Kd.R_below HO_10.out hb); have n3_ := Aside0.mk (Kd.R_below HO_45.out hb); have n4_ := Aside0.mk (below_step HB.out hb); revert n0_ n1_ n2_ n3_ n4_; clear HO_4 HO_7 HO_10 HO_45 HB; intro HO_4 HO_7 HO_10 HO_45 HB; (try clear hb); obtain ⟨Ao36, co36, eo36⟩ := Kd.R_slice HO_10.out; subst eo36) | ((with_reducible refine gate_callee (f := 102) rfl ?_); refine goL_ Tryz.func102 #[.int .i64 t252, .slice Ao36 x10_2.length co36] ?_; (with_reducible refine (bits_Pack.calls k2 t252 _ _ x10_2 t253 t254 _ ((Kd.R_reads' HO_10.out).2.2) ((Kd.R_reads' HO_10.out).2.1) A31.out).mono ?_); rintro e w37 ⟨v255, rfl, ho0, hb⟩; refine ⟨_, rfl, ?_⟩; have n0_ := Aside0.mk (Kd.N_elder' HO_4.out (Kd.R_base ho0) hb); have n1_ := Aside0.mk (Kd.R_elder' HO_7.out (Kd.R_base ho0) hb); have n2_ := Aside0.mk (Kd.R_below HO_10.out hb); have n3_ := Aside0.mk (Kd.R_below HO_45.out hb); have n4_ := Aside0.mk (Kd.R_lower (Kd.R_new' ho0 (Kd.R_lt HO_7.out)) (below_size HB.out)); have n5_ := Aside0.mk (below_step HB.out hb); revert n0_ n1_ n2_ n3_ n4_ n5_; clear HO_4 HO_7 HO_10 HO_45 HB; intro HO_4 HO_7 HO_10 HO_45 HO256 HB; (try clear hb); (try clear ho0)) | ((with_reducible refine gate_callee (f := 71) rfl ?_); refine goL_ Tryz.func71 #[.int .u64 (IntKind.u64.wrap ((x10_2.length : Int)))] ?_; (with_reducible refine (vint_Put.calls k2 (IntKind.u64.wrap ((x10_2.length : Int))) t257 _ A32.out).mono ?_); rintro e w38 ⟨v258, rfl, ho0, hb⟩; refine ⟨_, rfl, ?_⟩; have n0_ := Aside0.mk (Kd.N_elder' HO_4.out (Kd.R_base ho0) hb); have n1_ := Aside0.mk (Kd.R_elder' HO_7.out (Kd.R_base ho0) hb); have n2_ := Aside0.mk (Kd.R_below HO_10.out hb); have n3_ := Aside0.mk (Kd.R_below HO_45.out hb); have n4_ := Aside0.mk (Kd.R_elder' HO256.out (Kd.R_base ho0) hb); have n5_ := Aside0.mk (Kd.R_lower (Kd.R_new' (Kd.R_new' ho0 (Kd.R_lt HO_7.out)) (Kd.R_lt HO256.out)) (below_size HB.out)); have n6_ := Aside0.mk (below_step HB.out hb); revert n0_ n1_ n2_ n3_ n4_ n5_ n6_; clear HO_4 HO_7 HO_10 HO_45 HO256 HB; intro HO_4 HO_7 HO_10 HO_45 HO256 HO259 HB; (try clear hb); (try clear ho0); obtain ⟨Ao40, co40, eo40⟩ := Kd.R_slice HO259.out; subst eo40) | ((with_reducible refine gate_builtin (b := .append) (xs := #[.tmp 66, .tmp 70]) rfl ?_); at_builtin; refine Kd.R_append_rows (Kd.int .u8) (w0 := w) w.heap.size rfl (.tmp 66) (.tmp 70) 24 5 (.int .u8 0) 1 rfl Tryz.underlying24 info5 rfl (by decide) (by omega) u7 x7_1 t257 _ _ _ (fun k_ => some k_ ≠ (v255 : Value).ownBlock ∧ some k_ ≠ (.slice Ao40 t257.length co40 : Value).ownBlock) (fun _ => False) rfl rfl ?aO ?aR (fun _ _ h => h) (fun _ h => h.elim) ?aF ?aB ?aS ?aL ?_; (case aR => repeat (exact (Kd.R_reads' HO259.out).2.2)); (case aB => exact HB.out); (case aF => exact (fun k_ hk => ⟨Kd.fresh' (Kd.R_lt HO256.out) k_ hk, Kd.fresh' (Kd.R_lt HO259.out) k_ hk⟩)); (case aO => exact (by (with_reducible repeat (apply Kd.R_alloc)); exact Kd.R_mono HO_7.out (fun _ hk => ⟨hk.1.2, hk.2⟩))); (case aS => exact (below_size HB.out)); (case aL => have := LMc33.out; omega); intro v261 w39 ho hb hg hat; rw [← Ny260.out] at ho; have n0_ := Aside0.mk (Kd.N_afterv (ok := (fun k_ => some k_ ≠ (.slice Ao36 x10_2.length co36 : Value).ownBlock ∧ some k_ ≠ (.slice Ao20 t230.length co20 : Value).ownBlock ∧ some k_ ≠ (v255 : Value).ownBlock ∧ some k_ ≠ (.slice Ao40 t257.length co40 : Value).ownBlock)) (by (with_reducible repeat (apply Kd.N_alloc)); exact Kd.N_mono HO_4.out (fun _ hk => ⟨⟨hk.1.1.2.1, ⟨hk.1.1.2.2, ⟨hk.1.2, hk.2⟩⟩⟩, hk.1.1.1⟩)) hg hat); have n1_ := Aside0.mk (Kd.R_over' HO_10.out (Kd.R_typed HO_7.out) (by decide) hg); have n2_ := Aside0.mk (Kd.R_over' HO_45.out (Kd.R_typed HO_7.out) (by decide) hg); have n3_ := Aside0.mk (Kd.R_after (ok := (fun k_ => some k_ ≠ (.slice Ao40 t257.length co40 : Value).ownBlock)) (by (with_reducible repeat (apply Kd.R_alloc)); exact Kd.R_mono HO256.out (fun _ hk => ⟨hk.2, hk.1.2⟩)) hg hat); have n4_ := Aside0.mk (Kd.R_after (ok := (fun k_ => some k_ ≠ (v255 : Value).ownBlock)) (by (with_reducible repeat (apply Kd.R_alloc)); exact Kd.R_mono HO259.out (fun _ hk => ⟨hk.2, hk.1.2⟩)) hg hat); have n5_ := Aside0.mk (hb); have n6_ := Aside0.mk (ho); revert n0_ n1_ n2_ n3_ n4_ n5_ n6_; clear HO_4 HO_10 HO_45 HO256 HO259 HB HO_7; intro HO_4 HO_10 HO_45 HO256 HO259 HB HO262; clear ho hb hg hat; obtain ⟨Ao42, co42, eo42⟩ := Kd.R_slice HO256.out; subst eo42) | ((with_reducible refine gate_builtin (b := .append) (xs := #[.tmp 71, .tmp 72]) rfl ?_); at_builtin; refine Kd.R_append_rows (Kd.int .u8) (w0 := w) w.heap.size rfl (.tmp 71) (.tmp 72) 24 5 (.int .u8 0) 1 rfl Tryz.underlying24 info5 rfl (by decide) (by omega) v261 y260 t253 _ _ _ (fun k_ => some k_ ≠ (.slice Ao42 t253.length co42 : Value).ownBlock ∧ some k_ ≠ (.slice Ao40 t257.length co40 : Value).ownBlock) (fun _ => False) rfl rfl ?aO ?aR (fun _ _ h => h) (fun _ h => h.elim) ?aF ?aB ?aS ?aL ?_; (case aR => repeat (exact (Kd.R_reads' HO256.out).2.2)); (case aB => exact HB.out); (case aF => exact (fun k_ hk => ⟨Kd.fresh' (Kd.R_lt HO256.out) k_ hk, Kd.fresh' (Kd.R_lt HO259.out) k_ hk⟩)); (case aO => exact HO262.out); (case aS => exact (below_size HB.out)); (case aL => have := LMc34.out; omega); intro v264 w41 ho hb hg hat; rw [← Ny263.out] at ho; have n0_ := Aside0.mk (Kd.N_afterv (ok := (fun k_ => some k_ ≠ (.slice Ao36 x10_2.length co36 : Value).ownBlock ∧ some k_ ≠ (.slice Ao20 t230.length co20 : Value).ownBlock ∧ some k_ ≠ (.slice Ao42 t253.length co42 : Value).ownBlock ∧ some k_ ≠ (.slice Ao40 t257.length co40 : Value).ownBlock)) HO_4.out hg hat); have n1_ := Aside0.mk (Kd.R_over' HO_10.out (Kd.R_typed HO262.out) (by decide) hg); have n2_ := Aside0.mk (Kd.R_over' HO_45.out (Kd.R_typed HO262.out) (by decide) hg); have n3_ := Aside0.mk (Kd.R_after (ok := (fun k_ => some k_ ≠ (.slice Ao40 t257.length co40 : Value).ownBlock)) HO256.out hg hat); have n4_ := Aside0.mk (Kd.R_after (ok := (fun k_ => some k_ ≠ (.slice Ao42 t253.length co42 : Value).ownBlock)) HO259.out hg hat); have n5_ := Aside0.mk (hb); have n6_ := Aside0.mk (ho); revert n0_ n1_ n2_ n3_ n4_ n5_ n6_; clear HO_4 HO_10 HO_45 HO256 HO259 HB HO262; intro HO_4 HO_10 HO_45 HO256 HO259 HB HO265; clear ho hb hg hat))
          go_ret2
          exact ⟨_, by rfl, by (with_reducible repeat (apply Kd.R_alloc)); exact Kd.R_mono HO265.out (fun _ hk => trivial), by exact HB.out⟩
         rw [if_neg c34] at H
         exact absurd H (by simp)
        rw [if_neg c33] at H
        exact absurd H (by simp)
     rw [if_neg c19] at H
     exact absurd H (by simp)
    rw [if_neg c18] at H
    exact absurd H (by simp)
 rw [if_neg c3] at H
 have c3b0 : (t233 == 0) = false := beq_eq_false_iff_ne.mpr c3
 have c3b1 : (t233 != 0) = true := bne_iff_ne.mpr c3
 simp only [Option.some.injEq, Prod.mk.injEq] at H
 obtain ⟨rfl, rfl⟩ := H
 go_enter Tryz.func106, Tryz.ntmps106
 go_wp2_with ((refine goL_ Tryz.func137 #[.slice A0 l0.length c0] ?_; (with_reducible refine (dict_Index.calls _ _ l0 t227 t230 t233 _ (HR0.out) (HC0.out) A2.out).mono ?_); rintro e w43 ⟨v228, v231, rfl, ho0, ho1, hb⟩; refine ⟨_, rfl, ?_⟩; have n0_ := Aside0.mk (Kd.N_lower (Kd.N_mono (ok' := fun k_ => some k_ ≠ (v231 : Value).ownBlock) ho0 (fun k_ hk_ => hk_.2)) (below_size HB.out)); have n1_ := Aside0.mk (Kd.R_lower (Kd.R_mono (ok' := fun k_ => True) ho1 (fun _ hk_ => trivial)) (below_size HB.out)); have n2_ := Aside0.mk (below_step HB.out hb); revert n0_ n1_ n2_; clear HB; intro HO229 HO232 HB; (try clear hb); (try clear ho0); (try clear ho1)))
 go_ret2
 exact ⟨_, by rfl, by exact Kd.R_nil _ _ _ _ _, by exact HB.out⟩
def block_body.f (k : Nat) (a0 : Int) (a1 : Int) (l2 : List (S62)) : Option (List Int × Int) := if a1 = 2 then ((block_numbers.f k l2).bind fun t342 => ((runs_Encode.f k t342).bind fun bt345 => (some (bt345.1, bt345.2)))) else (if a1 = 3 then ((block_numbers.f k l2).bind fun t349 => ((packed_Encode.f k t349).bind fun bt352 => (some (bt352.1, bt352.2)))) else (if a1 = 4 then ((block_texts.f k l2).bind fun t356 => ((dict_Encode.f k t356).bind fun bt359 => (some (bt359.1, bt359.2)))) else (if a1 = 5 then ((block_texts.f k l2).bind fun t363 => ((prefix_Encode.f k t363).bind fun bt366 => (some (bt366.1, bt366.2)))) else ((block_plain.f k a0 l2).bind fun t370 => (some (t370, 0))))))
set_option maxHeartbeats 8000000 in
set_option maxRecDepth 100000 in
theorem block_body.calls (k : Nat) (a0 : Int) (a1 : Int) (A2 : Option Addr) (c2 : Nat) (l2 : List (S62)) (r1 : List Int) (r2 : Int) (w : World) (hr2 : Kd.C k62 w A2 l2.length l2) (hc2 : l2.length ≤ c2) (h : block_body.f k a0 a1 l2 = some (r1, r2)) :
 Calls Tryz.prog 73 #[.int .i64 a0, .int .i64 a1, .slice A2 l2.length c2] w fun e w' => ∃ v0_ : Value, e = .returned (.tuple #[v0_, .int .i64 r2]) ∧ Kd.R (Kd.int .u8) 5 w' w.heap.size (fun _ => True) v0_ r1 ∧ Below w.heap.size w w' := by
 have HR2 := Aside0.mk hr2
 have HC2 := Aside0.mk hc2
 clear hr2 hc2
 have HB := Aside0.mk (Below.refl w.heap.size w)
 unfold block_body.f at h
 have H := h
 clear h
 by_cases c4 : a1 = 2
 ·rw [if_pos c4] at H
  have c4b0 : (a1 == 2) = true := beq_iff_eq.mpr c4
  have c4b1 : (a1 != 2) = false := bne_eq_false_iff_eq.mpr c4
  clear c4
  replace H := Option.bind_eq_some_iff.mp H
  obtain ⟨t342, A50, H⟩ := H
  (try dsimp only at H)
  have A5 := Aside0.mk A50
  clear A50
  replace H := Option.bind_eq_some_iff.mp H
  obtain ⟨⟨t345, t346⟩, A60, H⟩ := H
  (try dsimp only at H)
  have A6 := Aside0.mk A60
  clear A60
  simp only [Option.some.injEq, Prod.mk.injEq] at H
  obtain ⟨rfl, rfl⟩ := H
  go_enter Tryz.func73, Tryz.ntmps73
  go_wp2_with (first | ((with_reducible refine gate_callee (f := 104) rfl ?_); refine goL_ Tryz.func104 #[.slice A2 l2.length c2] ?_; (with_reducible refine (block_numbers.calls k _ _ l2 t342 _ (HR2.out) (HC2.out) A5.out).mono ?_); rintro e w7 ⟨v343, rfl, ho0, hb⟩; refine ⟨_, rfl, ?_⟩; have n0_ := Aside0.mk (Kd.R_lower ho0 (below_size HB.out)); have n1_ := Aside0.mk (below_step HB.out hb); revert n0_ n1_; clear HB; intro HO344 HB; (try clear hb); (try clear ho0); obtain ⟨Ao8, co8, eo8⟩ := Kd.R_slice HO344.out; subst eo8) | ((with_reducible refine gate_callee (f := 103) rfl ?_); refine goL_ Tryz.func103 #[.slice Ao8 t342.length co8] ?_; (with_reducible refine (runs_Encode.calls k _ _ t342 t345 t346 _ ?side1 ?side2 A6.out).mono ?_); (case side1 => repeat (exact (Kd.R_reads' HO344.out).2.2)); (case side2 => exact (Kd.R_reads' HO344.out).2.1); rintro e w9 ⟨v347, rfl, ho0, hb⟩; refine ⟨_, rfl, ?_⟩; have n0_ := Aside0.mk (Kd.R_below HO344.out hb); have n1_ := Aside0.mk (Kd.R_lower ho0 (below_size HB.out)); have n2_ := Aside0.mk (below_step HB.out hb); revert n0_ n1_ n2_; clear HO344 HB; intro HO344 HO348 HB; (try clear hb); (try clear ho0)))
  go_ret2
  exact ⟨_, by rfl, by (with_reducible repeat (apply Kd.R_alloc)); exact HO348.out, by exact HB.out⟩
 rw [if_neg c4] at H
 have c4b0 : (a1 == 2) = false := beq_eq_false_iff_ne.mpr c4
 have c4b1 : (a1 != 2) = true := bne_iff_ne.mpr c4
 by_cases c10 : a1 = 3
 ·rw [if_pos c10] at H
  have c10b0 : (a1 == 3) = true := beq_iff_eq.mpr c10
  have c10b1 : (a1 != 3) = false := bne_eq_false_iff_eq.mpr c10
  clear c10
  replace H := Option.bind_eq_some_iff.mp H
  obtain ⟨t349, A110, H⟩ := H
  (try dsimp only at H)
  have A11 := Aside0.mk A110
  clear A110
  replace H := Option.bind_eq_some_iff.mp H
  obtain ⟨⟨t352, t353⟩, A120, H⟩ := H
  (try dsimp only at H)
  have A12 := Aside0.mk A120
  clear A120
  simp only [Option.some.injEq, Prod.mk.injEq] at H
  obtain ⟨rfl, rfl⟩ := H
  go_enter Tryz.func73, Tryz.ntmps73
  go_wp2_with (first | ((with_reducible refine gate_callee (f := 104) rfl ?_); refine goL_ Tryz.func104 #[.slice A2 l2.length c2] ?_; (with_reducible refine (block_numbers.calls k _ _ l2 t349 _ (HR2.out) (HC2.out) A11.out).mono ?_); rintro e w13 ⟨v350, rfl, ho0, hb⟩; refine ⟨_, rfl, ?_⟩; have n0_ := Aside0.mk (Kd.R_lower ho0 (below_size HB.out)); have n1_ := Aside0.mk (below_step HB.out hb); revert n0_ n1_; clear HB; intro HO351 HB; (try clear hb); (try clear ho0); obtain ⟨Ao14, co14, eo14⟩ := Kd.R_slice HO351.out; subst eo14) | ((with_reducible refine gate_callee (f := 105) rfl ?_); refine goL_ Tryz.func105 #[.slice Ao14 t349.length co14] ?_; (with_reducible refine (packed_Encode.calls k _ _ t349 t352 t353 _ ?side1 ?side2 A12.out).mono ?_); (case side1 => repeat (exact (Kd.R_reads' HO351.out).2.2)); (case side2 => exact (Kd.R_reads' HO351.out).2.1); rintro e w15 ⟨v354, rfl, ho0, hb⟩; refine ⟨_, rfl, ?_⟩; have n0_ := Aside0.mk (Kd.R_below HO351.out hb); have n1_ := Aside0.mk (Kd.R_lower ho0 (below_size HB.out)); have n2_ := Aside0.mk (below_step HB.out hb); revert n0_ n1_ n2_; clear HO351 HB; intro HO351 HO355 HB; (try clear hb); (try clear ho0)))
  go_ret2
  exact ⟨_, by rfl, by (with_reducible repeat (apply Kd.R_alloc)); exact HO355.out, by exact HB.out⟩
 rw [if_neg c10] at H
 have c10b0 : (a1 == 3) = false := beq_eq_false_iff_ne.mpr c10
 have c10b1 : (a1 != 3) = true := bne_iff_ne.mpr c10
 by_cases c16 : a1 = 4
 ·rw [if_pos c16] at H
  have c16b0 : (a1 == 4) = true := beq_iff_eq.mpr c16
  have c16b1 : (a1 != 4) = false := bne_eq_false_iff_eq.mpr c16
  clear c16
  replace H := Option.bind_eq_some_iff.mp H
  obtain ⟨t356, A170, H⟩ := H
  (try dsimp only at H)
  have A17 := Aside0.mk A170
  clear A170
  replace H := Option.bind_eq_some_iff.mp H
  obtain ⟨⟨t359, t360⟩, A180, H⟩ := H
  (try dsimp only at H)
  have A18 := Aside0.mk A180
  clear A180
  simp only [Option.some.injEq, Prod.mk.injEq] at H
  obtain ⟨rfl, rfl⟩ := H
  go_enter Tryz.func73, Tryz.ntmps73
  go_wp2_with (first | ((with_reducible refine gate_callee (f := 107) rfl ?_); refine goL_ Tryz.func107 #[.slice A2 l2.length c2] ?_; (with_reducible refine (block_texts.calls k (fun k_ => k_ < w.heap.size) _ _ l2 t356 _ (Kd.V_mk HC2.out (Kd.F_below (Kd.C_F k62_heap HR2.out) HB.out)) A17.out).mono ?_); rintro e w19 ⟨v357, rfl, ho0, hb⟩; refine ⟨_, rfl, ?_⟩; have n0_ := Aside0.mk (Kd.N_lower (Kd.N_mono (ok' := fun k_ => True) ho0 (fun k_ hk_ => trivial)) (below_size HB.out)); have n1_ := Aside0.mk (below_step HB.out hb); revert n0_ n1_; clear HB; intro HO358 HB; (try clear hb); (try clear ho0); obtain ⟨Ao20, co20, eo20⟩ := Kd.N_slice HO358.out; subst eo20) | ((with_reducible refine gate_callee (f := 106) rfl ?_); refine goL_ Tryz.func106 #[.slice Ao20 t356.length co20] ?_; (with_reducible refine (dict_Encode.calls k _ _ t356 t359 t360 _ ?side1 ((Kd.N_reads' HO358.out).2.1) A18.out).mono ?_); (case side1 => repeat (exact (Kd.N_reads' HO358.out).2.2)); rintro e w21 ⟨v361, rfl, ho0, hb⟩; refine ⟨_, rfl, ?_⟩; have n0_ := Aside0.mk (Kd.N_elder' HO358.out (Kd.R_base ho0) hb); have n1_ := Aside0.mk (Kd.R_lower ho0 (below_size HB.out)); have n2_ := Aside0.mk (below_step HB.out hb); revert n0_ n1_ n2_; clear HO358 HB; intro HO358 HO362 HB; (try clear hb); (try clear ho0)))
  go_ret2
  exact ⟨_, by rfl, by (with_reducible repeat (apply Kd.R_alloc)); exact HO362.out, by exact HB.out⟩
 rw [if_neg c16] at H
 have c16b0 : (a1 == 4) = false := beq_eq_false_iff_ne.mpr c16
 have c16b1 : (a1 != 4) = true := bne_iff_ne.mpr c16
 by_cases c22 : a1 = 5
 ·rw [if_pos c22] at H
  have c22b0 : (a1 == 5) = true := beq_iff_eq.mpr c22
  have c22b1 : (a1 != 5) = false := bne_eq_false_iff_eq.mpr c22
  clear c22
  replace H := Option.bind_eq_some_iff.mp H
  obtain ⟨t363, A230, H⟩ := H
  (try dsimp only at H)
  have A23 := Aside0.mk A230
  clear A230
  replace H := Option.bind_eq_some_iff.mp H
  obtain ⟨⟨t366, t367⟩, A240, H⟩ := H
  (try dsimp only at H)
  have A24 := Aside0.mk A240
  clear A240
  simp only [Option.some.injEq, Prod.mk.injEq] at H
  obtain ⟨rfl, rfl⟩ := H
  go_enter Tryz.func73, Tryz.ntmps73
  go_wp2_with (first | ((with_reducible refine gate_callee (f := 107) rfl ?_); refine goL_ Tryz.func107 #[.slice A2 l2.length c2] ?_; (with_reducible refine (block_texts.calls k (fun k_ => k_ < w.heap.size) _ _ l2 t363 _ (Kd.V_mk HC2.out (Kd.F_below (Kd.C_F k62_heap HR2.out) HB.out)) A23.out).mono ?_); rintro e w25 ⟨v364, rfl, ho0, hb⟩; refine ⟨_, rfl, ?_⟩; have n0_ := Aside0.mk (Kd.N_lower (Kd.N_mono (ok' := fun k_ => True) ho0 (fun k_ hk_ => trivial)) (below_size HB.out)); have n1_ := Aside0.mk (below_step HB.out hb); revert n0_ n1_; clear HB; intro HO365 HB; (try clear hb); (try clear ho0); obtain ⟨Ao26, co26, eo26⟩ := Kd.N_slice HO365.out; subst eo26) | ((with_reducible refine gate_callee (f := 108) rfl ?_); refine goL_ Tryz.func108 #[.slice Ao26 t363.length co26] ?_; (with_reducible refine (prefix_Encode.calls k _ _ t363 t366 t367 _ ?side1 ((Kd.N_reads' HO365.out).2.1) A24.out).mono ?_); (case side1 => repeat (exact (Kd.N_reads' HO365.out).2.2)); rintro e w27 ⟨v368, rfl, ho0, hb⟩; refine ⟨_, rfl, ?_⟩; have n0_ := Aside0.mk (Kd.N_elder' HO365.out (Kd.R_base ho0) hb); have n1_ := Aside0.mk (Kd.R_lower ho0 (below_size HB.out)); have n2_ := Aside0.mk (below_step HB.out hb); revert n0_ n1_ n2_; clear HO365 HB; intro HO365 HO369 HB; (try clear hb); (try clear ho0)))
  go_ret2
  exact ⟨_, by rfl, by (with_reducible repeat (apply Kd.R_alloc)); exact HO369.out, by exact HB.out⟩
 rw [if_neg c22] at H
 have c22b0 : (a1 == 5) = false := beq_eq_false_iff_ne.mpr c22
 have c22b1 : (a1 != 5) = true := bne_iff_ne.mpr c22
 replace H := Option.bind_eq_some_iff.mp H
 obtain ⟨t370, A280, H⟩ := H
 (try dsimp only at H)
 have A28 := Aside0.mk A280
 clear A280
 simp only [Option.some.injEq, Prod.mk.injEq] at H
 obtain ⟨rfl, rfl⟩ := H
 go_enter Tryz.func73, Tryz.ntmps73
 go_wp2_with ((refine goL_ Tryz.func109 #[.int .i64 a0, .slice A2 l2.length c2] ?_; (with_reducible refine (block_plain.calls k a0 _ _ l2 t370 _ (HR2.out) (HC2.out) A28.out).mono ?_); rintro e w29 ⟨v371, rfl, ho0, hb⟩; refine ⟨_, rfl, ?_⟩; have n0_ := Aside0.mk (Kd.R_lower ho0 (below_size HB.out)); have n1_ := Aside0.mk (below_step HB.out hb); revert n0_ n1_; clear HB; intro HO372 HB; (try clear hb); (try clear ho0)))
 go_ret2
 exact ⟨_, by rfl, by (with_reducible repeat (apply Kd.R_alloc)); exact HO372.out, by exact HB.out⟩
def block_write.j0 : Nat → List Int → List Int → Int → Bool → Option (List Int × Int)
 | 0, _, _, _, _ => none
 | k + 1, x8, x9, x10, x40 => if x40 = true then (some (([] : List Int), 4)) else (if x10 = 0 then (if x8.length + x9.length < 140737488355328 then ((crc_Seal.f k (x8 ++ x9)).bind fun t400 => (some (t400, 0))) else (none)) else (some (([] : List Int), x10)))
def block_write.f (k : Nat) (a0 : Int) (a1 : Int) (l2 : List (S62)) : Option (List Int × Int) := (some (([(a1) % 256] : List Int) : List Int)).bind fun y378 => ((vint_Put.f k (IntKind.u64.wrap ((l2.length : Int)))).bind fun t381 => (if y378.length + t381.length < 140737488355328 then ((some (y378 ++ t381 : List Int)).bind fun y384 => ((block_nulls.f k l2).bind fun t387 => (if y384.length + t387.length < 140737488355328 then ((some (y384 ++ t387 : List Int)).bind fun y390 => ((block_body.f k a0 a1 l2).bind fun bt393 => (if bt393.2 = 0 then (block_write.j0 k y390 bt393.1 bt393.2 (decide ((wrap64 ((wrap64 ((y390.length : Int) + (bt393.1.length : Int))) + 4)) > 65000))) else (block_write.j0 k y390 bt393.1 bt393.2 false)))) else (none)))) else (none)))
set_option maxHeartbeats 8000000 in
set_option maxRecDepth 100000 in
theorem block_write.calls (k : Nat) (a0 : Int) (a1 : Int) (A2 : Option Addr) (c2 : Nat) (l2 : List (S62)) (r1 : List Int) (r2 : Int) (w : World) (hr2 : Kd.C k62 w A2 l2.length l2) (hc2 : l2.length ≤ c2) (h : block_write.f k a0 a1 l2 = some (r1, r2)) :
 Calls Tryz.prog 40 #[.int .i64 a0, .int .i64 a1, .slice A2 l2.length c2] w fun e w' => ∃ v0_ : Value, e = .returned (.tuple #[v0_, .int .i64 r2]) ∧ Kd.R (Kd.int .u8) 5 w' w.heap.size (fun _ => True) v0_ r1 ∧ Below w.heap.size w w' := by
 have HR2 := Aside0.mk hr2
 have HC2 := Aside0.mk hc2
 clear hr2 hc2
 have HB := Aside0.mk (Below.refl w.heap.size w)
 unfold block_write.f at h
 have H := h
 clear h
 obtain ⟨y378, hy378⟩ : ∃ y_ : List Int, y_ = (([(a1) % 256] : List Int)) := ⟨_, rfl⟩
 replace H : ((vint_Put.f k (IntKind.u64.wrap ((l2.length : Int)))).bind fun t381 => (if y378.length + t381.length < 140737488355328 then ((some (y378 ++ t381 : List Int)).bind fun y384 => ((block_nulls.f k l2).bind fun t387 => (if y384.length + t387.length < 140737488355328 then ((some (y384 ++ t387 : List Int)).bind fun y390 => ((block_body.f k a0 a1 l2).bind fun bt393 => (if bt393.2 = 0 then (block_write.j0 k y390 bt393.1 bt393.2 (decide ((wrap64 ((wrap64 ((y390.length : Int) + (bt393.1.length : Int))) + 4)) > 65000))) else (block_write.j0 k y390 bt393.1 bt393.2 false)))) else (none)))) else (none))) = some (r1, r2) := by (have H2_ := (Option.bind_some _ _).symm.trans H; rw [hy378]; with_reducible exact H2_)
 have Ny378 := Aside0.mk hy378
 clear hy378
 replace H := Option.bind_eq_some_iff.mp H
 obtain ⟨t381, A40, H⟩ := H
 (try dsimp only at H)
 have A4 := Aside0.mk A40
 clear A40
 by_cases c5 : y378.length + t381.length < 140737488355328
 ·rw [if_pos c5] at H
  have LMc5 := Aside0.mk c5
  clear c5
  obtain ⟨y384, hy384⟩ : ∃ y_ : List Int, y_ = (y378 ++ t381) := ⟨_, rfl⟩
  replace H : ((block_nulls.f k l2).bind fun t387 => (if y384.length + t387.length < 140737488355328 then ((some (y384 ++ t387 : List Int)).bind fun y390 => ((block_body.f k a0 a1 l2).bind fun bt393 => (if bt393.2 = 0 then (block_write.j0 k y390 bt393.1 bt393.2 (decide ((wrap64 ((wrap64 ((y390.length : Int) + (bt393.1.length : Int))) + 4)) > 65000))) else (block_write.j0 k y390 bt393.1 bt393.2 false)))) else (none))) = some (r1, r2) := by (have H2_ := (Option.bind_some _ _).symm.trans H; rw [hy384]; with_reducible exact H2_)
  have Ny384 := Aside0.mk hy384
  clear hy384
  replace H := Option.bind_eq_some_iff.mp H
  obtain ⟨t387, A60, H⟩ := H
  (try dsimp only at H)
  have A6 := Aside0.mk A60
  clear A60
  by_cases c7 : y384.length + t387.length < 140737488355328
  ·rw [if_pos c7] at H
   have LMc7 := Aside0.mk c7
   clear c7
   obtain ⟨y390, hy390⟩ : ∃ y_ : List Int, y_ = (y384 ++ t387) := ⟨_, rfl⟩
   replace H : ((block_body.f k a0 a1 l2).bind fun bt393 => (if bt393.2 = 0 then (block_write.j0 k y390 bt393.1 bt393.2 (decide ((wrap64 ((wrap64 ((y390.length : Int) + (bt393.1.length : Int))) + 4)) > 65000))) else (block_write.j0 k y390 bt393.1 bt393.2 false))) = some (r1, r2) := by (have H2_ := (Option.bind_some _ _).symm.trans H; rw [hy390]; with_reducible exact H2_)
   have Ny390 := Aside0.mk hy390
   clear hy390
   replace H := Option.bind_eq_some_iff.mp H
   obtain ⟨⟨t393, t394⟩, A80, H⟩ := H
   (try dsimp only at H)
   have A8 := Aside0.mk A80
   clear A80
   have HC9 := Aside0.mk H
   clear H
   go_enter Tryz.func40, Tryz.ntmps40
   go_upto_region 4 with (first | ((with_reducible refine gate_dst (N := 13) rfl ?_); (try (refine gate_guard (by rfl) ?_; dsimp only)); refine Kd.R_lit (Kd.int .u8) _ 5 ?hg (N := 13) ?hd (xs := ([(a1) % 256] : List Int)) (inner := [.int .u8 ((a1) % 256)]) (ok := fun _ => True) (okp := fun _ => True) ?hr ?hp (fun _ hk => hk) trivial (Below.refl _ _) (Nat.le_refl _) (by simp) ?_; (case hd => rfl); (case hg => rfl); (case hr => (go_simp; done)); (case hp => exact (Reps.one (show Kd.M (Kd.int .u8) _ _ _ ((a1) % 256) [.int .u8 ((a1) % 256)] from rfl) (Reps.none _ _))); intro v379 w10 ho11 hb hg_ hnew_; clear hg_ hnew_; (rw [← Ny378.out] at ho11); have n0_ := Aside0.mk (Kd.R_lower ho11 (below_size HB.out)); have n1_ := Aside0.mk (below_step HB.out hb); revert n0_ n1_; clear HB; intro HO380 HB; clear hb ho11) | ((with_reducible refine gate_callee (f := 71) rfl ?_); refine goL_ Tryz.func71 #[.int .u64 (IntKind.u64.wrap ((l2.length : Int)))] ?_; (with_reducible refine (vint_Put.calls k (IntKind.u64.wrap ((l2.length : Int))) t381 _ A4.out).mono ?_); rintro e w12 ⟨v382, rfl, ho0, hb⟩; refine ⟨_, rfl, ?_⟩; have n0_ := Aside0.mk (Kd.R_elder' HO380.out (Kd.R_base ho0) hb); have n1_ := Aside0.mk (Kd.R_lower (Kd.R_new' ho0 (Kd.R_lt HO380.out)) (below_size HB.out)); have n2_ := Aside0.mk (below_step HB.out hb); revert n0_ n1_ n2_; clear HO380 HB; intro HO380 HO383 HB; (try clear hb); (try clear ho0); obtain ⟨Ao14, co14, eo14⟩ := Kd.R_slice HO383.out; subst eo14) | ((with_reducible refine gate_builtin (b := .append) (xs := #[.tmp 13, .tmp 17]) rfl ?_); (try (refine gate_guard (by rfl) ?_; dsimp only)); at_builtin; refine Kd.R_append_rows (Kd.int .u8) (w0 := w) w.heap.size rfl (.tmp 13) (.tmp 17) 24 5 (.int .u8 0) 1 rfl Tryz.underlying24 info5 rfl (by decide) (by omega) v379 y378 t381 _ _ _ (fun k_ => some k_ ≠ (.slice Ao14 t381.length co14 : Value).ownBlock) (fun _ => False) rfl rfl ?aO ?aR (fun _ _ h => h) (fun _ h => h.elim) ?aF ?aB ?aS ?aL ?_; (case aR => repeat (exact (Kd.R_reads' HO383.out).2.2)); (case aB => exact HB.out); (case aF => exact (fun k_ hk => Kd.fresh' (Kd.R_lt HO383.out) k_ hk)); (case aO => exact (by (with_reducible repeat (apply Kd.R_alloc)); exact Kd.R_mono HO380.out (fun _ hk => hk.2))); (case aS => exact (below_size HB.out)); (case aL => have := LMc5.out; omega); intro v385 w13 ho hb hg hat; rw [← Ny384.out] at ho; have n0_ := Aside0.mk (Kd.R_after (ok := (fun _ => True)) HO383.out hg hat); have n1_ := Aside0.mk (hb); have n2_ := Aside0.mk (ho); revert n0_ n1_ n2_; clear HO383 HB HO380; intro HO383 HB HO386; clear ho hb hg hat) | ((with_reducible refine gate_callee (f := 72) rfl ?_); refine goL_ Tryz.func72 #[.slice A2 l2.length c2] ?_; (with_reducible refine (block_nulls.calls k _ _ l2 t387 _ (Kd.C_below HR2.out HB.out) (HC2.out) A6.out).mono ?_); rintro e w15 ⟨v388, rfl, ho0, hb⟩; refine ⟨_, rfl, ?_⟩; have n0_ := Aside0.mk (Kd.R_elder' HO383.out (Kd.R_base ho0) hb); have n1_ := Aside0.mk (Kd.R_elder' HO386.out (Kd.R_base ho0) hb); have n2_ := Aside0.mk (Kd.R_lower (Kd.R_new' (Kd.R_new' ho0 (Kd.R_lt HO383.out)) (Kd.R_lt HO386.out)) (below_size HB.out)); have n3_ := Aside0.mk (below_step HB.out hb); revert n0_ n1_ n2_ n3_; clear HO383 HO386 HB; intro HO383 HO386 HO389 HB; (try clear hb); (try clear ho0); obtain ⟨Ao17, co17, eo17⟩ := Kd.R_slice HO389.out; subst eo17) | ((with_reducible refine gate_builtin (b := .append) (xs := #[.tmp 19, .tmp 21]) rfl ?_); (try (refine gate_guard (by rfl) ?_; dsimp only)); at_builtin; refine Kd.R_append_rows (Kd.int .u8) (w0 := w) w.heap.size rfl (.tmp 19) (.tmp 21) 24 5 (.int .u8 0) 1 rfl Tryz.underlying24 info5 rfl (by decide) (by omega) v385 y384 t387 _ _ _ (fun k_ => some k_ ≠ (.slice Ao14 t381.length co14 : Value).ownBlock ∧ some k_ ≠ (.slice Ao17 t387.length co17 : Value).ownBlock) (fun _ => False) rfl rfl ?aO ?aR (fun _ _ h => h) (fun _ h => h.elim) ?aF ?aB ?aS ?aL ?_; (case aR => repeat (exact (Kd.R_reads' HO389.out).2.2)); (case aB => exact HB.out); (case aF => exact (fun k_ hk => ⟨Kd.fresh' (Kd.R_lt HO383.out) k_ hk, Kd.fresh' (Kd.R_lt HO389.out) k_ hk⟩)); (case aO => exact HO386.out); (case aS => exact (below_size HB.out)); (case aL => have := LMc7.out; omega); intro v391 w16 ho hb hg hat; rw [← Ny390.out] at ho; have n0_ := Aside0.mk (Kd.R_after (ok := (fun k_ => some k_ ≠ (.slice Ao17 t387.length co17 : Value).ownBlock)) (by (with_reducible repeat (apply Kd.R_alloc)); exact Kd.R_mono HO383.out (fun _ hk => ⟨hk.2, hk.1.2⟩)) hg hat); have n1_ := Aside0.mk (Kd.R_after (ok := (fun k_ => some k_ ≠ (.slice Ao14 t381.length co14 : Value).ownBlock)) (by (with_reducible repeat (apply Kd.R_alloc)); exact Kd.R_mono HO389.out (fun _ hk => ⟨hk.1.2, hk.2⟩)) hg hat); have n2_ := Aside0.mk (hb); have n3_ := Aside0.mk (ho); revert n0_ n1_ n2_ n3_; clear HO383 HO389 HB HO386; intro HO383 HO389 HB HO392; clear ho hb hg hat) | ((with_reducible refine gate_callee (f := 73) rfl ?_); refine goL_ Tryz.func73 #[.int .i64 a0, .int .i64 a1, .slice A2 l2.length c2] ?_; (with_reducible refine (block_body.calls k a0 a1 _ _ l2 t393 t394 _ ?side1 ?side2 A8.out).mono ?_); (case side1 => repeat (exact (Kd.C_below HR2.out HB.out))); (case side2 => exact HC2.out); rintro e w18 ⟨v395, rfl, ho0, hb⟩; refine ⟨_, rfl, ?_⟩; have n0_ := Aside0.mk (Kd.R_elder' HO383.out (Kd.R_base ho0) hb); have n1_ := Aside0.mk (Kd.R_elder' HO389.out (Kd.R_base ho0) hb); have n2_ := Aside0.mk (Kd.R_elder' HO392.out (Kd.R_base ho0) hb); have n3_ := Aside0.mk (Kd.R_lower (Kd.R_new' (Kd.R_new' (Kd.R_new' ho0 (Kd.R_lt HO383.out)) (Kd.R_lt HO389.out)) (Kd.R_lt HO392.out)) (below_size HB.out)); have n4_ := Aside0.mk (below_step HB.out hb); revert n0_ n1_ n2_ n3_ n4_; clear HO383 HO389 HO392 HB; intro HO383 HO389 HO392 HO396 HB; (try clear hb); (try clear ho0)))
   go_cut [40] (fun v40 wc => ∃ (kq : Nat) (x40_8 : Bool), v40 = .bool x40_8 ∧ Aside0 (block_write.j0 kq y390 t393 t394 x40_8 = some (r1, r2)) ∧ Aside0 (kq ≤ k) ∧ Aside0 (Kd.R (Kd.int .u8) 5 wc w.heap.size (fun k_ => some k_ ≠ (v395 : Value).ownBlock) v391 y390) ∧ Aside0 (Kd.R (Kd.int .u8) 5 wc w.heap.size (fun k_ => some k_ ≠ (v391 : Value).ownBlock) v395 t393) ∧ Aside0 (Below w.heap.size w wc))
   case first =>
    have H := HC9.out
    clear HC9
    by_cases c19 : t394 = 0
    ·rw [if_pos c19] at H
     have c19b0 : (t394 == 0) = true := beq_iff_eq.mpr c19
     have c19b1 : (t394 != 0) = false := bne_eq_false_iff_eq.mpr c19
     clear c19
     have H' := Aside0.mk H
     clear H
     obtain ⟨Ao20, co20, eo20⟩ := Kd.R_slice HO392.out
     subst eo20
     obtain ⟨Ao21, co21, eo21⟩ := Kd.R_slice HO396.out
     subst eo21
     go_wp2
     go_meet
     case rel => exact ⟨_, (decide ((wrap64 ((wrap64 ((y390.length : Int) + (t393.length : Int))) + 4)) > 65000)), (by rfl), H', ⟨by omega⟩, ⟨by (with_reducible repeat (apply Kd.R_alloc)); exact Kd.R_mono HO392.out (fun _ hk => hk.2)⟩, ⟨by (with_reducible repeat (apply Kd.R_alloc)); exact Kd.R_mono HO396.out (fun _ hk => hk.2)⟩, ⟨by exact HB.out⟩⟩
    rw [if_neg c19] at H
    have c19b0 : (t394 == 0) = false := beq_eq_false_iff_ne.mpr c19
    have c19b1 : (t394 != 0) = true := bne_iff_ne.mpr c19
    have H' := Aside0.mk H
    clear H
    go_wp2
    go_meet
    case rel => exact ⟨_, (false), (by rfl), H', ⟨by omega⟩, ⟨by (with_reducible repeat (apply Kd.R_alloc)); exact Kd.R_mono HO392.out (fun _ hk => hk.2)⟩, ⟨by (with_reducible repeat (apply Kd.R_alloc)); exact Kd.R_mono HO396.out (fun _ hk => hk.2)⟩, ⟨by exact HB.out⟩⟩
   case rest =>
    clear HC9
    obtain ⟨kq, x40_8, rfl, HA, HJ8, HO_8, HO_9, HB⟩ := hcut
    cases kq with
    | zero => exact absurd HA.out (by simp [block_write.j0])
    | succ kj8 =>
     have H := HA.out
     clear HA
     simp only [block_write.j0] at H
     by_cases c22 : x40_8 = true
     ·subst c22
      have H1 : (some (([] : List Int), 4)) = some (r1, r2) := by rw [if_pos rfl] at H; exact H
      clear H
      have H := H1
      clear H1
      simp only [Option.some.injEq, Prod.mk.injEq] at H
      obtain ⟨rfl, rfl⟩ := H
      go_wp2
      go_ret2
      exact ⟨_, by rfl, by exact Kd.R_nil _ _ _ _ _, by exact HB.out⟩
     replace c22 := Bool.eq_false_iff.mpr c22
     subst c22
     have H1 : (if t394 = 0 then (if y390.length + t393.length < 140737488355328 then ((crc_Seal.f kj8 (y390 ++ t393)).bind fun t400 => (some (t400, 0))) else (none)) else (some (([] : List Int), t394))) = some (r1, r2) := by rw [if_neg (show ¬ (false = true) by decide)] at H; exact H
     clear H
     have H := H1
     clear H1
     by_cases c23 : t394 = 0
     ·rw [if_pos c23] at H
      have c23b0 : (t394 == 0) = true := beq_iff_eq.mpr c23
      have c23b1 : (t394 != 0) = false := bne_eq_false_iff_eq.mpr c23
      clear c23
      by_cases c24 : y390.length + t393.length < 140737488355328
      ·rw [if_pos c24] at H
       have LMc24 := Aside0.mk c24
       clear c24
       obtain ⟨y397, hy397⟩ : ∃ y_ : List Int, y_ = (y390 ++ t393) := ⟨_, rfl⟩
       replace H : ((crc_Seal.f kj8 y397).bind fun t400 => (some (t400, 0))) = some (r1, r2) := by (rw [hy397]; with_reducible exact H)
       have Ny397 := Aside0.mk hy397
       clear hy397
       replace H := Option.bind_eq_some_iff.mp H
       obtain ⟨t400, A250, H⟩ := H
       (try dsimp only at H)
       have A25 := Aside0.mk A250
       clear A250
       simp only [Option.some.injEq, Prod.mk.injEq] at H
       obtain ⟨rfl, rfl⟩ := H
       obtain ⟨Ao27, co27, eo27⟩ := Kd.R_slice HO_9.out
       subst eo27
       go_wp2_with (first | ((with_reducible refine gate_builtin (b := .append) (xs := #[.tmp 44, .tmp 45]) rfl ?_); (try (refine gate_guard (by rfl) ?_; dsimp only)); at_builtin; refine Kd.R_append_rows (Kd.int .u8) (w0 := w) w.heap.size rfl (.tmp 44) (.tmp 45) 24 5 (.int .u8 0) 1 rfl Tryz.underlying24 info5 rfl (by decide) (by omega) v391 y390 t393 _ _ _ (fun k_ => some k_ ≠ (.slice Ao27 t393.length co27 : Value).ownBlock) (fun _ => False) rfl rfl ?aO ?aR (fun _ _ h => h) (fun _ h => h.elim) ?aF ?aB ?aS ?aL ?_; (case aR => repeat (exact (Kd.R_reads' HO_9.out).2.2)); (case aB => exact HB.out); (case aF => exact (fun k_ hk => Kd.fresh' (Kd.R_lt HO_9.out) k_ hk)); (case aO => exact HO_8.out); (case aS => exact (below_size HB.out)); (case aL => have := LMc24.out; omega); intro v398 w26 ho hb hg hat; rw [← Ny397.out] at ho; have n0_ := Aside0.mk (Kd.R_after (ok := (fun _ => True)) (by (with_reducible repeat (apply Kd.R_alloc)); exact Kd.R_mono HO_9.out (fun _ hk => ⟨trivial, hk⟩)) hg hat); have n1_ := Aside0.mk (hb); have n2_ := Aside0.mk (ho); revert n0_ n1_ n2_; clear HO_9 HB HO_8; intro HO_9 HB HO399; clear ho hb hg hat; obtain ⟨Ao28, co28, eo28⟩ := Kd.R_slice HO399.out; subst eo28) | ((with_reducible refine gate_callee (f := 74) rfl ?_); refine goL_ Tryz.func74 #[.slice Ao28 y397.length co28] ?_; (with_reducible refine (crc_Seal.calls kj8 _ _ y397 t400 _ ((Kd.R_reads' HO399.out).2.2) ((Kd.R_reads' HO399.out).2.1) A25.out).mono ?_); rintro e w29 ⟨v401, rfl, ho0, hb⟩; refine ⟨_, rfl, ?_⟩; have n0_ := Aside0.mk (Kd.R_elder' HO_9.out (Kd.R_base ho0) hb); have n1_ := Aside0.mk (Kd.R_elder' HO399.out (Kd.R_base ho0) hb); have n2_ := Aside0.mk (Kd.R_lower (Kd.R_new' (Kd.R_new' ho0 (Kd.R_lt HO_9.out)) (Kd.R_lt HO399.out)) (below_size HB.out)); have n3_ := Aside0.mk (below_step HB.out hb); revert n0_ n1_ n2_ n3_; clear HO_9 HO399 HB; intro HO_9 HO399 HO402 HB; (try clear hb); (try clear ho0)))
       go_ret2
       exact ⟨_, by rfl, by (with_reducible repeat (apply Kd.R_alloc)); exact Kd.R_mono HO402.out (fun _ hk => trivial), by exact HB.out⟩
      rw [if_neg c24] at H
      exact absurd H (by simp)
     rw [if_neg c23] at H
     have c23b0 : (t394 == 0) = false := beq_eq_false_iff_ne.mpr c23
     have c23b1 : (t394 != 0) = true := bne_iff_ne.mpr c23
     simp only [Option.some.injEq, Prod.mk.injEq] at H
     obtain ⟨rfl, rfl⟩ := H
     go_wp2
     go_ret2
     exact ⟨_, by rfl, by exact Kd.R_nil _ _ _ _ _, by exact HB.out⟩
  rw [if_neg c7] at H
  exact absurd H (by simp)
 rw [if_neg c5] at H
 exact absurd H (by simp)
def block_Encode.f (k : Nat) (a0 : Int) (a1 : Int) (l2 : List (S62)) : Option (List Int × Int) := (block_badKind.f a0).bind fun t403 => (if t403 = true then (some (([] : List Int), 1)) else ((block_fits.f k a0 a1).bind fun t404 => (if t404 = true then ((block_check.f k a0 l2).bind fun t405 => (if t405 = 0 then ((block_write.f k a0 a1 l2).bind fun bt406 => (some (bt406.1, bt406.2))) else (some (([] : List Int), t405)))) else (some (([] : List Int), 120)))))
set_option maxHeartbeats 8000000 in
set_option maxRecDepth 100000 in
theorem block_Encode.calls (k : Nat) (a0 : Int) (a1 : Int) (A2 : Option Addr) (c2 : Nat) (l2 : List (S62)) (r1 : List Int) (r2 : Int) (w : World) (hr2 : Kd.C k62 w A2 l2.length l2) (hc2 : l2.length ≤ c2) (h : block_Encode.f k a0 a1 l2 = some (r1, r2)) :
 Calls Tryz.prog 11 #[.int .i64 a0, .int .i64 a1, .slice A2 l2.length c2] w fun e w' => ∃ v0_ : Value, e = .returned (.tuple #[v0_, .int .i64 r2]) ∧ Kd.R (Kd.int .u8) 5 w' w.heap.size (fun _ => True) v0_ r1 ∧ Below w.heap.size w w' := by
 have HR2 := Aside0.mk hr2
 have HC2 := Aside0.mk hc2
 clear hr2 hc2
 have HB := Aside0.mk (Below.refl w.heap.size w)
 unfold block_Encode.f at h
 have H := h
 clear h
 replace H := Option.bind_eq_some_iff.mp H
 obtain ⟨t403, A40, H⟩ := H
 (try dsimp only at H)
 have A4 := Aside0.mk A40
 clear A40
 by_cases c5 : t403 = true
 ·subst c5
  have H1 : (some (([] : List Int), 1)) = some (r1, r2) := by rw [if_pos rfl] at H; exact H
  clear H
  have H := H1
  clear H1
  simp only [Option.some.injEq, Prod.mk.injEq] at H
  obtain ⟨rfl, rfl⟩ := H
  go_enter Tryz.func11, Tryz.ntmps11
  go_wp2_with ((refine goL_ Tryz.func37 #[.int .i64 a0] ?_; (with_reducible refine (block_badKind.calls a0 true _ A4.out).mono ?_); rintro e w' ⟨rfl, ⟨nd, rfl⟩⟩; refine ⟨_, rfl, ?_⟩))
  go_ret2
  exact ⟨_, by rfl, by exact Kd.R_nil _ _ _ _ _, by repeat ((with_reducible first | exact HB.out | apply pw_below_drewN))⟩
 replace c5 := Bool.eq_false_iff.mpr c5
 subst c5
 have H1 : ((block_fits.f k a0 a1).bind fun t404 => (if t404 = true then ((block_check.f k a0 l2).bind fun t405 => (if t405 = 0 then ((block_write.f k a0 a1 l2).bind fun bt406 => (some (bt406.1, bt406.2))) else (some (([] : List Int), t405)))) else (some (([] : List Int), 120)))) = some (r1, r2) := by rw [if_neg (show ¬ (false = true) by decide)] at H; exact H
 clear H
 have H := H1
 clear H1
 replace H := Option.bind_eq_some_iff.mp H
 obtain ⟨t404, A60, H⟩ := H
 (try dsimp only at H)
 have A6 := Aside0.mk A60
 clear A60
 by_cases c7 : t404 = true
 ·subst c7
  have H1 : ((block_check.f k a0 l2).bind fun t405 => (if t405 = 0 then ((block_write.f k a0 a1 l2).bind fun bt406 => (some (bt406.1, bt406.2))) else (some (([] : List Int), t405)))) = some (r1, r2) := by rw [if_pos rfl] at H; exact H
  clear H
  have H := H1
  clear H1
  replace H := Option.bind_eq_some_iff.mp H
  obtain ⟨t405, A80, H⟩ := H
  (try dsimp only at H)
  have A8 := Aside0.mk A80
  clear A80
  by_cases c9 : t405 = 0
  ·rw [if_pos c9] at H
   have c9b0 : (t405 == 0) = true := beq_iff_eq.mpr c9
   have c9b1 : (t405 != 0) = false := bne_eq_false_iff_eq.mpr c9
   clear c9
   replace H := Option.bind_eq_some_iff.mp H
   obtain ⟨⟨t406, t407⟩, A100, H⟩ := H
   (try dsimp only at H)
   have A10 := Aside0.mk A100
   clear A100
   simp only [Option.some.injEq, Prod.mk.injEq] at H
   obtain ⟨rfl, rfl⟩ := H
   go_enter Tryz.func11, Tryz.ntmps11
   go_wp2_with (first | ((with_reducible refine gate_callee (f := 37) rfl ?_); refine goL_ Tryz.func37 #[.int .i64 a0] ?_; (with_reducible refine (block_badKind.calls a0 false _ A4.out).mono ?_); rintro e w' ⟨rfl, ⟨nd, rfl⟩⟩; refine ⟨_, rfl, ?_⟩) | ((with_reducible refine gate_callee (f := 38) rfl ?_); refine goL_ Tryz.func38 #[.int .i64 a0, .int .i64 a1] ?_; (with_reducible refine (block_fits.calls k a0 a1 true _ A6.out).mono ?_); rintro e w' ⟨rfl, ⟨nd, rfl⟩⟩; refine ⟨_, rfl, ?_⟩) | ((with_reducible refine gate_callee (f := 39) rfl ?_); refine goL_ Tryz.func39 #[.int .i64 a0, .slice A2 l2.length c2] ?_; (with_reducible refine (block_check.calls k a0 _ _ l2 t405 _ ?side1 ?side2 A8.out).mono ?_); (case side1 => repeat (exact HR2.out)); (case side2 => exact HC2.out); rintro e w11 ⟨rfl, hb⟩; refine ⟨_, rfl, ?_⟩; have n0_ := Aside0.mk (below_step (by repeat ((with_reducible first | exact HB.out | apply pw_below_drewN))) hb); revert n0_; clear HB; intro HB; (try clear hb)) | ((with_reducible refine gate_callee (f := 40) rfl ?_); refine goL_ Tryz.func40 #[.int .i64 a0, .int .i64 a1, .slice A2 l2.length c2] ?_; (with_reducible refine (block_write.calls k a0 a1 _ _ l2 t406 t407 _ ?side1 ?side2 A10.out).mono ?_); (case side1 => repeat (exact (Kd.C_below HR2.out HB.out))); (case side2 => exact HC2.out); rintro e w12 ⟨v408, rfl, ho0, hb⟩; refine ⟨_, rfl, ?_⟩; have n0_ := Aside0.mk (Kd.R_lower ho0 (below_size HB.out)); have n1_ := Aside0.mk (below_step HB.out hb); revert n0_ n1_; clear HB; intro HO409 HB; (try clear hb); (try clear ho0)))
   go_ret2
   exact ⟨_, by rfl, by (with_reducible repeat (apply Kd.R_alloc)); exact HO409.out, by exact HB.out⟩
  rw [if_neg c9] at H
  have c9b0 : (t405 == 0) = false := beq_eq_false_iff_ne.mpr c9
  have c9b1 : (t405 != 0) = true := bne_iff_ne.mpr c9
  simp only [Option.some.injEq, Prod.mk.injEq] at H
  obtain ⟨rfl, rfl⟩ := H
  go_enter Tryz.func11, Tryz.ntmps11
  go_wp2_with (first | ((with_reducible refine gate_callee (f := 37) rfl ?_); refine goL_ Tryz.func37 #[.int .i64 a0] ?_; (with_reducible refine (block_badKind.calls a0 false _ A4.out).mono ?_); rintro e w' ⟨rfl, ⟨nd, rfl⟩⟩; refine ⟨_, rfl, ?_⟩) | ((with_reducible refine gate_callee (f := 38) rfl ?_); refine goL_ Tryz.func38 #[.int .i64 a0, .int .i64 a1] ?_; (with_reducible refine (block_fits.calls k a0 a1 true _ A6.out).mono ?_); rintro e w' ⟨rfl, ⟨nd, rfl⟩⟩; refine ⟨_, rfl, ?_⟩) | ((with_reducible refine gate_callee (f := 39) rfl ?_); refine goL_ Tryz.func39 #[.int .i64 a0, .slice A2 l2.length c2] ?_; (with_reducible refine (block_check.calls k a0 _ _ l2 t405 _ ?side1 ?side2 A8.out).mono ?_); (case side1 => repeat (exact HR2.out)); (case side2 => exact HC2.out); rintro e w13 ⟨rfl, hb⟩; refine ⟨_, rfl, ?_⟩; have n0_ := Aside0.mk (below_step (by repeat ((with_reducible first | exact HB.out | apply pw_below_drewN))) hb); revert n0_; clear HB; intro HB; (try clear hb)))
  go_ret2
  exact ⟨_, by rfl, by exact Kd.R_nil _ _ _ _ _, by exact HB.out⟩
 replace c7 := Bool.eq_false_iff.mpr c7
 subst c7
 have H1 : (some (([] : List Int), 120)) = some (r1, r2) := by rw [if_neg (show ¬ (false = true) by decide)] at H; exact H
 clear H
 have H := H1
 clear H1
 simp only [Option.some.injEq, Prod.mk.injEq] at H
 obtain ⟨rfl, rfl⟩ := H
 go_enter Tryz.func11, Tryz.ntmps11
 go_wp2_with (first | ((with_reducible refine gate_callee (f := 37) rfl ?_); refine goL_ Tryz.func37 #[.int .i64 a0] ?_; (with_reducible refine (block_badKind.calls a0 false _ A4.out).mono ?_); rintro e w' ⟨rfl, ⟨nd, rfl⟩⟩; refine ⟨_, rfl, ?_⟩) | ((with_reducible refine gate_callee (f := 38) rfl ?_); refine goL_ Tryz.func38 #[.int .i64 a0, .int .i64 a1] ?_; (with_reducible refine (block_fits.calls k a0 a1 false _ A6.out).mono ?_); rintro e w' ⟨rfl, ⟨nd, rfl⟩⟩; refine ⟨_, rfl, ?_⟩))
 go_ret2
 exact ⟨_, by rfl, by exact Kd.R_nil _ _ _ _ _, by repeat ((with_reducible first | exact HB.out | apply pw_below_drewN))⟩
def block_Best.l0 : Nat → Int → List (S62) → Int → List Int → Int → Option (Int × List Int × Int)
 | 0, _, _, _, _, _ => none
 | k + 1, x0, x1, x4, x5, x7 => if x7 ≤ 5 then ((block_fits.f k x0 x7).bind fun t678 => (if t678 = true then ((block_write.f k x0 x7 x1).bind fun bt679 => (if bt679.2 = 0 then (if x4 = 0 then (block_Best.l0 k x0 x1 x7 bt679.1 (wrap64 (x7 + 1))) else (if (bt679.1.length : Int) < (x5.length : Int) then (block_Best.l0 k x0 x1 x7 bt679.1 (wrap64 (x7 + 1))) else (block_Best.l0 k x0 x1 x4 x5 (wrap64 (x7 + 1))))) else (block_Best.l0 k x0 x1 x4 x5 (wrap64 (x7 + 1))))) else (block_Best.l0 k x0 x1 x4 x5 (wrap64 (x7 + 1))))) else (if x4 = 0 then (some (0, ([] : List Int), 4)) else (some (x4, x5, 0)))
def block_Best.f (k : Nat) (a0 : Int) (l1 : List (S62)) : Option (Int × List Int × Int) := (block_badKind.f a0).bind fun t676 => (if t676 = true then (some (0, ([] : List Int), 1)) else ((block_check.f k a0 l1).bind fun t677 => (if t677 = 0 then (block_Best.l0 k a0 l1 0 ([] : List Int) 1) else (some (0, ([] : List Int), t677)))))
set_option maxHeartbeats 8000000 in
set_option maxRecDepth 100000 in
theorem block_Best.calls (k : Nat) (a0 : Int) (A1 : Option Addr) (c1 : Nat) (l1 : List (S62)) (r1 : Int) (r2 : List Int) (r3 : Int) (w : World) (hr1 : Kd.C k62 w A1 l1.length l1) (hc1 : l1.length ≤ c1) (h : block_Best.f k a0 l1 = some (r1, r2, r3)) :
 Calls Tryz.prog 14 #[.int .i64 a0, .slice A1 l1.length c1] w fun e w' => ∃ v1_ : Value, e = .returned (.tuple #[.int .i64 r1, v1_, .int .i64 r3]) ∧ Kd.R (Kd.int .u8) 5 w' w.heap.size (fun _ => True) v1_ r2 ∧ Below w.heap.size w w' := by
 have HR1 := Aside0.mk hr1
 have HC1 := Aside0.mk hc1
 clear hr1 hc1
 have HB := Aside0.mk (Below.refl w.heap.size w)
 unfold block_Best.f at h
 have H := h
 clear h
 replace H := Option.bind_eq_some_iff.mp H
 obtain ⟨t676, A30, H⟩ := H
 (try dsimp only at H)
 have A3 := Aside0.mk A30
 clear A30
 by_cases c4 : t676 = true
 ·subst c4
  have H1 : (some (0, ([] : List Int), 1)) = some (r1, r2, r3) := by rw [if_pos rfl] at H; exact H
  clear H
  have H := H1
  clear H1
  simp only [Option.some.injEq, Prod.mk.injEq] at H
  obtain ⟨rfl, rfl, rfl⟩ := H
  go_enter Tryz.func14, Tryz.ntmps14
  go_wp2_with ((refine goL_ Tryz.func37 #[.int .i64 a0] ?_; (with_reducible refine (block_badKind.calls a0 true _ A3.out).mono ?_); rintro e w' ⟨rfl, ⟨nd, rfl⟩⟩; refine ⟨_, rfl, ?_⟩))
  go_ret3
  exact ⟨_, by rfl, by exact Kd.R_nil _ _ _ _ _, by repeat ((with_reducible first | exact HB.out | apply pw_below_drewN))⟩
 replace c4 := Bool.eq_false_iff.mpr c4
 subst c4
 have H1 : ((block_check.f k a0 l1).bind fun t677 => (if t677 = 0 then (block_Best.l0 k a0 l1 0 ([] : List Int) 1) else (some (0, ([] : List Int), t677)))) = some (r1, r2, r3) := by rw [if_neg (show ¬ (false = true) by decide)] at H; exact H
 clear H
 have H := H1
 clear H1
 replace H := Option.bind_eq_some_iff.mp H
 obtain ⟨t677, A50, H⟩ := H
 (try dsimp only at H)
 have A5 := Aside0.mk A50
 clear A50
 by_cases c6 : t677 = 0
 ·rw [if_pos c6] at H
  have c6b0 : (t677 == 0) = true := beq_iff_eq.mpr c6
  have c6b1 : (t677 != 0) = false := bne_eq_false_iff_eq.mpr c6
  clear c6
  have H' := Aside0.mk H
  clear H
  go_enter Tryz.func14, Tryz.ntmps14
  go_wp2_with (first | ((with_reducible refine gate_callee (f := 37) rfl ?_); refine goL_ Tryz.func37 #[.int .i64 a0] ?_; (with_reducible refine (block_badKind.calls a0 false _ A3.out).mono ?_); rintro e w' ⟨rfl, ⟨nd, rfl⟩⟩; refine ⟨_, rfl, ?_⟩) | ((with_reducible refine gate_callee (f := 39) rfl ?_); refine goL_ Tryz.func39 #[.int .i64 a0, .slice A1 l1.length c1] ?_; (with_reducible refine (block_check.calls k a0 _ _ l1 t677 _ ?side1 ?side2 A5.out).mono ?_); (case side1 => repeat (exact HR1.out)); (case side2 => exact HC1.out); rintro e w7 ⟨rfl, hb⟩; refine ⟨_, rfl, ?_⟩; have n0_ := Aside0.mk (below_step (by repeat ((with_reducible first | exact HB.out | apply pw_below_drewN))) hb); revert n0_; clear HB; intro HB; (try clear hb)))
  go_loopg [4, 5, 7] k (fun kq v4 v5 v7 w' => ∃ (x4_1 : Int) (x5_1 : List Int) (x7_1 : Int), v4 = .int .i64 x4_1 ∧ v7 = .int .i64 x7_1 ∧ Aside0 (block_Best.l0 kq a0 l1 x4_1 x5_1 x7_1 = some (r1, r2, r3)) ∧ Aside0 (kq ≤ k) ∧ Aside0 (Kd.R (Kd.int .u8) 5 w' w.heap.size (fun _ => True) v5 x5_1) ∧ Aside0 (Below w.heap.size w w'))
  case atStart => exact ⟨(0), (([] : List Int)), (1), (by rfl), (by rfl), H', ⟨Nat.le_refl _⟩, ⟨by exact Kd.R_nil _ _ _ _ _⟩, ⟨by exact HB.out⟩⟩
  case round =>
   clear H'
   try clear c6b0
   try clear c6b1
   obtain ⟨x4_1, x5_1, x7_1, rfl, rfl, HA, HK1, HO_5, HB⟩ := hrel
   cases gk with
   | zero => exact absurd HA.out (by simp [block_Best.l0])
   | succ k1 =>
    have H := HA.out
    clear HA
    simp only [block_Best.l0] at H
    by_cases c8 : x7_1 ≤ 5
    ·rw [if_pos c8] at H
     have c8b0 : decide (x7_1 ≤ 5) = true := decide_eq_true c8
     clear c8
     replace H := Option.bind_eq_some_iff.mp H
     obtain ⟨t678, A90, H⟩ := H
     (try dsimp only at H)
     have A9 := Aside0.mk A90
     clear A90
     by_cases c10 : t678 = true
     ·subst c10
      have H1 : ((block_write.f k1 a0 x7_1 l1).bind fun bt679 => (if bt679.2 = 0 then (if x4_1 = 0 then (block_Best.l0 k1 a0 l1 x7_1 bt679.1 (wrap64 (x7_1 + 1))) else (if (bt679.1.length : Int) < (x5_1.length : Int) then (block_Best.l0 k1 a0 l1 x7_1 bt679.1 (wrap64 (x7_1 + 1))) else (block_Best.l0 k1 a0 l1 x4_1 x5_1 (wrap64 (x7_1 + 1))))) else (block_Best.l0 k1 a0 l1 x4_1 x5_1 (wrap64 (x7_1 + 1))))) = some (r1, r2, r3) := by rw [if_pos rfl] at H; exact H
      clear H
      have H := H1
      clear H1
      replace H := Option.bind_eq_some_iff.mp H
      obtain ⟨⟨t679, t680⟩, A110, H⟩ := H
      (try dsimp only at H)
      have A11 := Aside0.mk A110
      clear A110
      by_cases c12 : t680 = 0
      ·rw [if_pos c12] at H
       have c12b0 : (t680 == 0) = true := beq_iff_eq.mpr c12
       have c12b1 : (t680 != 0) = false := bne_eq_false_iff_eq.mpr c12
       clear c12
       by_cases c13 : x4_1 = 0
       ·rw [if_pos c13] at H
        have c13b0 : (x4_1 == 0) = true := beq_iff_eq.mpr c13
        have c13b1 : (x4_1 != 0) = false := bne_eq_false_iff_eq.mpr c13
        clear c13
        have H' := Aside0.mk H
        clear H
        go_wp2_with (first | ((with_reducible refine gate_callee (f := 38) rfl ?_); refine goL_ Tryz.func38 #[.int .i64 a0, .int .i64 x7_1] ?_; (with_reducible refine (block_fits.calls k1 a0 x7_1 true _ A9.out).mono ?_); rintro e w' ⟨rfl, ⟨nd, rfl⟩⟩; refine ⟨_, rfl, ?_⟩) | ((with_reducible refine gate_callee (f := 40) rfl ?_); refine goL_ Tryz.func40 #[.int .i64 a0, .int .i64 x7_1, .slice A1 l1.length c1] ?_; (with_reducible refine (block_write.calls k1 a0 x7_1 _ _ l1 t679 t680 _ ?side1 ?side2 A11.out).mono ?_); (case side1 => repeat ((exact (Kd.C_below HR1.out (by repeat ((with_reducible first | exact HB.out | apply pw_below_drewN))))))); (case side2 => exact HC1.out); rintro e w14 ⟨v681, rfl, ho0, hb⟩; refine ⟨_, rfl, ?_⟩; have n0_ := Aside0.mk (Kd.R_elder' (by (with_reducible repeat (apply Kd.R_drewN)); exact HO_5.out) (Kd.R_base ho0) hb); have n1_ := Aside0.mk (Kd.R_lower (Kd.R_new' ho0 (Kd.R_lt (by (with_reducible repeat (apply Kd.R_drewN)); exact HO_5.out))) (below_size (by repeat ((with_reducible first | exact HB.out | apply pw_below_drewN))))); have n2_ := Aside0.mk (below_step (by repeat ((with_reducible first | exact HB.out | apply pw_below_drewN))) hb); revert n0_ n1_ n2_; clear HO_5 HB; intro HO_5 HO682 HB; (try clear hb); (try clear ho0)))
        go_roundg k1
        case measure => have := HK1.out; omega
        case rel => exact ⟨(x7_1), (t679), (wrap64 (x7_1 + 1)), (by rfl), (by rfl), H', ⟨by have := HK1.out; omega⟩, ⟨by (with_reducible repeat (apply Kd.R_alloc)); exact Kd.R_mono HO682.out (fun _ hk => trivial)⟩, ⟨by exact HB.out⟩⟩
       rw [if_neg c13] at H
       have c13b0 : (x4_1 == 0) = false := beq_eq_false_iff_ne.mpr c13
       have c13b1 : (x4_1 != 0) = true := bne_iff_ne.mpr c13
       by_cases c15 : (t679.length : Int) < (x5_1.length : Int)
       ·rw [if_pos c15] at H
        have c15b0 : decide ((t679.length : Int) < (x5_1.length : Int)) = true := decide_eq_true c15
        have c15b1 : decide (t679.length < x5_1.length) = true := decide_eq_true (Int.ofNat_lt.mp c15)
        clear c15
        have H' := Aside0.mk H
        clear H
        go_wp2_with (first | ((with_reducible refine gate_callee (f := 38) rfl ?_); refine goL_ Tryz.func38 #[.int .i64 a0, .int .i64 x7_1] ?_; (with_reducible refine (block_fits.calls k1 a0 x7_1 true _ A9.out).mono ?_); rintro e w' ⟨rfl, ⟨nd, rfl⟩⟩; refine ⟨_, rfl, ?_⟩) | ((with_reducible refine gate_callee (f := 40) rfl ?_); refine goL_ Tryz.func40 #[.int .i64 a0, .int .i64 x7_1, .slice A1 l1.length c1] ?_; (with_reducible refine (block_write.calls k1 a0 x7_1 _ _ l1 t679 t680 _ ?side1 ?side2 A11.out).mono ?_); (case side1 => repeat ((exact (Kd.C_below HR1.out (by repeat ((with_reducible first | exact HB.out | apply pw_below_drewN))))))); (case side2 => exact HC1.out); rintro e w16 ⟨v681, rfl, ho0, hb⟩; refine ⟨_, rfl, ?_⟩; have n0_ := Aside0.mk (Kd.R_elder' (by (with_reducible repeat (apply Kd.R_drewN)); exact HO_5.out) (Kd.R_base ho0) hb); have n1_ := Aside0.mk (Kd.R_lower (Kd.R_new' ho0 (Kd.R_lt (by (with_reducible repeat (apply Kd.R_drewN)); exact HO_5.out))) (below_size (by repeat ((with_reducible first | exact HB.out | apply pw_below_drewN))))); have n2_ := Aside0.mk (below_step (by repeat ((with_reducible first | exact HB.out | apply pw_below_drewN))) hb); revert n0_ n1_ n2_; clear HO_5 HB; intro HO_5 HO682 HB; (try clear hb); (try clear ho0); obtain ⟨Ao17, co17, eo17⟩ := Kd.R_slice HO682.out; subst eo17; obtain ⟨Ao18, co18, eo18⟩ := Kd.R_slice HO_5.out; subst eo18))
        go_roundg k1
        case measure => have := HK1.out; omega
        case rel => exact ⟨(x7_1), (t679), (wrap64 (x7_1 + 1)), (by rfl), (by rfl), H', ⟨by have := HK1.out; omega⟩, ⟨by (with_reducible repeat (apply Kd.R_alloc)); exact Kd.R_mono HO682.out (fun _ hk => trivial)⟩, ⟨by exact HB.out⟩⟩
       rw [if_neg c15] at H
       have c15b0 : decide ((t679.length : Int) < (x5_1.length : Int)) = false := decide_eq_false c15
       have c15b1 : decide (t679.length < x5_1.length) = false := decide_eq_false (fun h => c15 (Int.ofNat_lt.mpr h))
       clear c15
       have H' := Aside0.mk H
       clear H
       go_wp2_with (first | ((with_reducible refine gate_callee (f := 38) rfl ?_); refine goL_ Tryz.func38 #[.int .i64 a0, .int .i64 x7_1] ?_; (with_reducible refine (block_fits.calls k1 a0 x7_1 true _ A9.out).mono ?_); rintro e w' ⟨rfl, ⟨nd, rfl⟩⟩; refine ⟨_, rfl, ?_⟩) | ((with_reducible refine gate_callee (f := 40) rfl ?_); refine goL_ Tryz.func40 #[.int .i64 a0, .int .i64 x7_1, .slice A1 l1.length c1] ?_; (with_reducible refine (block_write.calls k1 a0 x7_1 _ _ l1 t679 t680 _ ?side1 ?side2 A11.out).mono ?_); (case side1 => repeat ((exact (Kd.C_below HR1.out (by repeat ((with_reducible first | exact HB.out | apply pw_below_drewN))))))); (case side2 => exact HC1.out); rintro e w19 ⟨v681, rfl, ho0, hb⟩; refine ⟨_, rfl, ?_⟩; have n0_ := Aside0.mk (Kd.R_elder' (by (with_reducible repeat (apply Kd.R_drewN)); exact HO_5.out) (Kd.R_base ho0) hb); have n1_ := Aside0.mk (Kd.R_lower (Kd.R_new' ho0 (Kd.R_lt (by (with_reducible repeat (apply Kd.R_drewN)); exact HO_5.out))) (below_size (by repeat ((with_reducible first | exact HB.out | apply pw_below_drewN))))); have n2_ := Aside0.mk (below_step (by repeat ((with_reducible first | exact HB.out | apply pw_below_drewN))) hb); revert n0_ n1_ n2_; clear HO_5 HB; intro HO_5 HO682 HB; (try clear hb); (try clear ho0); obtain ⟨Ao20, co20, eo20⟩ := Kd.R_slice HO682.out; subst eo20; obtain ⟨Ao21, co21, eo21⟩ := Kd.R_slice HO_5.out; subst eo21))
       go_roundg k1
       case measure => have := HK1.out; omega
       case rel => exact ⟨(x4_1), (x5_1), (wrap64 (x7_1 + 1)), (by rfl), (by rfl), H', ⟨by have := HK1.out; omega⟩, ⟨by (with_reducible repeat (apply Kd.R_alloc)); exact Kd.R_mono HO_5.out (fun _ hk => trivial)⟩, ⟨by exact HB.out⟩⟩
      rw [if_neg c12] at H
      have c12b0 : (t680 == 0) = false := beq_eq_false_iff_ne.mpr c12
      have c12b1 : (t680 != 0) = true := bne_iff_ne.mpr c12
      have H' := Aside0.mk H
      clear H
      go_wp2_with (first | ((with_reducible refine gate_callee (f := 38) rfl ?_); refine goL_ Tryz.func38 #[.int .i64 a0, .int .i64 x7_1] ?_; (with_reducible refine (block_fits.calls k1 a0 x7_1 true _ A9.out).mono ?_); rintro e w' ⟨rfl, ⟨nd, rfl⟩⟩; refine ⟨_, rfl, ?_⟩) | ((with_reducible refine gate_callee (f := 40) rfl ?_); refine goL_ Tryz.func40 #[.int .i64 a0, .int .i64 x7_1, .slice A1 l1.length c1] ?_; (with_reducible refine (block_write.calls k1 a0 x7_1 _ _ l1 t679 t680 _ ?side1 ?side2 A11.out).mono ?_); (case side1 => repeat ((exact (Kd.C_below HR1.out (by repeat ((with_reducible first | exact HB.out | apply pw_below_drewN))))))); (case side2 => exact HC1.out); rintro e w22 ⟨v681, rfl, ho0, hb⟩; refine ⟨_, rfl, ?_⟩; have n0_ := Aside0.mk (Kd.R_elder' (by (with_reducible repeat (apply Kd.R_drewN)); exact HO_5.out) (Kd.R_base ho0) hb); have n1_ := Aside0.mk (Kd.R_lower (Kd.R_new' ho0 (Kd.R_lt (by (with_reducible repeat (apply Kd.R_drewN)); exact HO_5.out))) (below_size (by repeat ((with_reducible first | exact HB.out | apply pw_below_drewN))))); have n2_ := Aside0.mk (below_step (by repeat ((with_reducible first | exact HB.out | apply pw_below_drewN))) hb); revert n0_ n1_ n2_; clear HO_5 HB; intro HO_5 HO682 HB; (try clear hb); (try clear ho0)))
      go_roundg k1
      case measure => have := HK1.out; omega
      case rel => exact ⟨(x4_1), (x5_1), (wrap64 (x7_1 + 1)), (by rfl), (by rfl), H', ⟨by have := HK1.out; omega⟩, ⟨by (with_reducible repeat (apply Kd.R_alloc)); exact Kd.R_mono HO_5.out (fun _ hk => trivial)⟩, ⟨by exact HB.out⟩⟩
     replace c10 := Bool.eq_false_iff.mpr c10
     subst c10
     have H1 : (block_Best.l0 k1 a0 l1 x4_1 x5_1 (wrap64 (x7_1 + 1))) = some (r1, r2, r3) := by rw [if_neg (show ¬ (false = true) by decide)] at H; exact H
     clear H
     have H := H1
     clear H1
     have H' := Aside0.mk H
     clear H
     go_wp2_with ((refine goL_ Tryz.func38 #[.int .i64 a0, .int .i64 x7_1] ?_; (with_reducible refine (block_fits.calls k1 a0 x7_1 false _ A9.out).mono ?_); rintro e w' ⟨rfl, ⟨nd, rfl⟩⟩; refine ⟨_, rfl, ?_⟩))
     go_roundg k1
     case measure => have := HK1.out; omega
     case rel => exact ⟨(x4_1), (x5_1), (wrap64 (x7_1 + 1)), (by rfl), (by rfl), H', ⟨by have := HK1.out; omega⟩, ⟨by (with_reducible repeat (apply Kd.R_drewN)); exact HO_5.out⟩, ⟨by repeat ((with_reducible first | exact HB.out | apply pw_below_drewN))⟩⟩
    rw [if_neg c8] at H
    have c8b0 : decide (x7_1 ≤ 5) = false := decide_eq_false c8
    clear c8
    by_cases c23 : x4_1 = 0
    ·rw [if_pos c23] at H
     have c23b0 : (x4_1 == 0) = true := beq_iff_eq.mpr c23
     have c23b1 : (x4_1 != 0) = false := bne_eq_false_iff_eq.mpr c23
     clear c23
     simp only [Option.some.injEq, Prod.mk.injEq] at H
     obtain ⟨rfl, rfl, rfl⟩ := H
     go_wp2
     go_ret3
     exact ⟨_, by rfl, by exact Kd.R_nil _ _ _ _ _, by exact HB.out⟩
    rw [if_neg c23] at H
    have c23b0 : (x4_1 == 0) = false := beq_eq_false_iff_ne.mpr c23
    have c23b1 : (x4_1 != 0) = true := bne_iff_ne.mpr c23
    simp only [Option.some.injEq, Prod.mk.injEq] at H
    obtain ⟨rfl, rfl, rfl⟩ := H
    go_wp2
    go_ret3
    exact ⟨_, by rfl, by (with_reducible repeat (apply Kd.R_alloc)); exact HO_5.out, by exact HB.out⟩
 rw [if_neg c6] at H
 have c6b0 : (t677 == 0) = false := beq_eq_false_iff_ne.mpr c6
 have c6b1 : (t677 != 0) = true := bne_iff_ne.mpr c6
 simp only [Option.some.injEq, Prod.mk.injEq] at H
 obtain ⟨rfl, rfl, rfl⟩ := H
 go_enter Tryz.func14, Tryz.ntmps14
 go_wp2_with (first | ((with_reducible refine gate_callee (f := 37) rfl ?_); refine goL_ Tryz.func37 #[.int .i64 a0] ?_; (with_reducible refine (block_badKind.calls a0 false _ A3.out).mono ?_); rintro e w' ⟨rfl, ⟨nd, rfl⟩⟩; refine ⟨_, rfl, ?_⟩) | ((with_reducible refine gate_callee (f := 39) rfl ?_); refine goL_ Tryz.func39 #[.int .i64 a0, .slice A1 l1.length c1] ?_; (with_reducible refine (block_check.calls k a0 _ _ l1 t677 _ ?side1 ?side2 A5.out).mono ?_); (case side1 => repeat (exact HR1.out)); (case side2 => exact HC1.out); rintro e w24 ⟨rfl, hb⟩; refine ⟨_, rfl, ?_⟩; have n0_ := Aside0.mk (below_step (by repeat ((with_reducible first | exact HB.out | apply pw_below_drewN))) hb); revert n0_; clear HB; intro HB; (try clear hb)))
 go_ret3
 exact ⟨_, by rfl, by exact Kd.R_nil _ _ _ _ _, by exact HB.out⟩
def stoalaw12_alive.j0 : Nat → List Int → Bool → Option (Bool)
 | 0, _, _ => none
 | k + 1, x2, x80 => if x80 = true then (some false) else ((stoaref03_Seal.f k (([2, 3, 1, 2, 1, 14, 2] : List Int))).bind fun t739 => ((stoaref01_Same.f k x2 t739).bind fun t742 => (some t742)))
def stoalaw12_alive.f (k : Nat)  : Option (Bool) := (block_Encode.f k 1 2 (([(⟨false, 7, ([] : List Int)⟩ : S62), (⟨true, 0, ([] : List Int)⟩ : S62), (⟨false, 7, ([] : List Int)⟩ : S62)] : List (S62)))).bind fun bt714 => ((block_Encode.f k 7 2 ([] : List (S62))).bind fun bt718 => ((block_Decode.f k 1 bt714.1).bind fun bt722 => ((block_Best.f k 1 (([(⟨false, 7, ([] : List Int)⟩ : S62), (⟨false, 7, ([] : List Int)⟩ : S62), (⟨false, 7, ([] : List Int)⟩ : S62), (⟨false, 7, ([] : List Int)⟩ : S62)] : List (S62)))).bind fun bt729 => (if bt714.2 = 0 then (if bt718.2 = 120 then (if bt722.2 = 0 then (if bt729.2.2 = 0 then (if (bt722.1.length : Int) = 3 then (if 1 < (bt722.1.length : Int) then (if ((rd_T62 bt722.1 1).f0 = true) then (if 2 < (bt722.1.length : Int) then (if ((rd_T62 bt722.1 2).f1) = 7 then (if bt729.1 = 2 then (stoalaw12_alive.j0 k bt714.1 ((bt729.2.1.length : Int) != 10)) else (stoalaw12_alive.j0 k bt714.1 true)) else (stoalaw12_alive.j0 k bt714.1 true)) else (none)) else (stoalaw12_alive.j0 k bt714.1 true)) else (none)) else (stoalaw12_alive.j0 k bt714.1 true)) else (stoalaw12_alive.j0 k bt714.1 true)) else (stoalaw12_alive.j0 k bt714.1 true)) else (stoalaw12_alive.j0 k bt714.1 true)) else (stoalaw12_alive.j0 k bt714.1 true)))))
set_option maxHeartbeats 8000000 in
set_option maxRecDepth 100000 in
theorem stoalaw12_alive.calls (k : Nat)  (r : Bool) (w : World) (h : stoalaw12_alive.f k  = some r) :
 Calls Tryz.prog 10 #[] w fun e w' => e = .returned (.bool r) ∧ Below w.heap.size w w' := by
 have hu62 := Tryz.underlying62
 have HB := Aside0.mk (Below.refl w.heap.size w)
 unfold stoalaw12_alive.f at h
 have H := h
 clear h
 obtain ⟨y711, hy711⟩ : ∃ y_ : List (S62), y_ = (([(⟨false, 7, ([] : List Int)⟩ : S62), (⟨true, 0, ([] : List Int)⟩ : S62), (⟨false, 7, ([] : List Int)⟩ : S62)] : List (S62))) := ⟨_, rfl⟩
 replace H : ((block_Encode.f k 1 2 y711).bind fun bt714 => ((block_Encode.f k 7 2 ([] : List (S62))).bind fun bt718 => ((block_Decode.f k 1 bt714.1).bind fun bt722 => ((block_Best.f k 1 (([(⟨false, 7, ([] : List Int)⟩ : S62), (⟨false, 7, ([] : List Int)⟩ : S62), (⟨false, 7, ([] : List Int)⟩ : S62), (⟨false, 7, ([] : List Int)⟩ : S62)] : List (S62)))).bind fun bt729 => (if bt714.2 = 0 then (if bt718.2 = 120 then (if bt722.2 = 0 then (if bt729.2.2 = 0 then (if (bt722.1.length : Int) = 3 then (if 1 < (bt722.1.length : Int) then (if ((rd_T62 bt722.1 1).f0 = true) then (if 2 < (bt722.1.length : Int) then (if ((rd_T62 bt722.1 2).f1) = 7 then (if bt729.1 = 2 then (stoalaw12_alive.j0 k bt714.1 ((bt729.2.1.length : Int) != 10)) else (stoalaw12_alive.j0 k bt714.1 true)) else (stoalaw12_alive.j0 k bt714.1 true)) else (none)) else (stoalaw12_alive.j0 k bt714.1 true)) else (none)) else (stoalaw12_alive.j0 k bt714.1 true)) else (stoalaw12_alive.j0 k bt714.1 true)) else (stoalaw12_alive.j0 k bt714.1 true)) else (stoalaw12_alive.j0 k bt714.1 true)) else (stoalaw12_alive.j0 k bt714.1 true)))))) = some r := by (rw [hy711]; with_reducible exact H)
 have Ny711 := Aside0.mk hy711
 clear hy711
 replace H := Option.bind_eq_some_iff.mp H
 obtain ⟨⟨t714, t715⟩, A10, H⟩ := H
 (try dsimp only at H)
 have A1 := Aside0.mk A10
 clear A10
 replace H := Option.bind_eq_some_iff.mp H
 obtain ⟨⟨t718, t719⟩, A20, H⟩ := H
 (try dsimp only at H)
 have A2 := Aside0.mk A20
 clear A20
 replace H := Option.bind_eq_some_iff.mp H
 obtain ⟨⟨t722, t725⟩, A30, H⟩ := H
 (try dsimp only at H)
 have A3 := Aside0.mk A30
 clear A30
 obtain ⟨y726, hy726⟩ : ∃ y_ : List (S62), y_ = (([(⟨false, 7, ([] : List Int)⟩ : S62), (⟨false, 7, ([] : List Int)⟩ : S62), (⟨false, 7, ([] : List Int)⟩ : S62), (⟨false, 7, ([] : List Int)⟩ : S62)] : List (S62))) := ⟨_, rfl⟩
 replace H : ((block_Best.f k 1 y726).bind fun bt729 => (if t715 = 0 then (if t719 = 120 then (if t725 = 0 then (if bt729.2.2 = 0 then (if (t722.length : Int) = 3 then (if 1 < (t722.length : Int) then (if ((rd_T62 t722 1).f0 = true) then (if 2 < (t722.length : Int) then (if ((rd_T62 t722 2).f1) = 7 then (if bt729.1 = 2 then (stoalaw12_alive.j0 k t714 ((bt729.2.1.length : Int) != 10)) else (stoalaw12_alive.j0 k t714 true)) else (stoalaw12_alive.j0 k t714 true)) else (none)) else (stoalaw12_alive.j0 k t714 true)) else (none)) else (stoalaw12_alive.j0 k t714 true)) else (stoalaw12_alive.j0 k t714 true)) else (stoalaw12_alive.j0 k t714 true)) else (stoalaw12_alive.j0 k t714 true)) else (stoalaw12_alive.j0 k t714 true))) = some r := by (rw [hy726]; with_reducible exact H)
 have Ny726 := Aside0.mk hy726
 clear hy726
 replace H := Option.bind_eq_some_iff.mp H
 obtain ⟨⟨t729, t730, t731⟩, A40, H⟩ := H
 (try dsimp only at H)
 have A4 := Aside0.mk A40
 clear A40
 have HC5 := Aside0.mk H
 clear H
 go_enter Tryz.func10, Tryz.ntmps10
 go_upto_region 6 with (first | ((with_reducible refine gate_dst (N := 1) rfl ?_); (try (refine gate_guard (by rfl) ?_; dsimp only)); refine box_event ?hg (N := 1) ?hd (cs := #[.bool false, .int .i64 0, .slice none 0 0]) (t := 62) ?hr ?_; (case hd => rfl); (case hg => rfl); (case hr => (go_simp; done)); intro gb710 hg w6 hbox hb; have n0_ := Aside0.mk (below_step HB.out hb); have n1_ := Aside0.mk (hbox); have n2_ := Aside0.mk ((by rw [hg]; exact (below_size HB.out) : w.heap.size ≤ gb710)); have n3_ := Aside0.mk ((by rw [hg]; exact (below_size HB.out) : w.heap.size ≤ gb710)); revert n0_ n1_ n2_ n3_; clear HB; intro HB BK710 GW710 GE710; clear hb hbox hg; have hcz7_0 : w6.cell? ⟨gb710, 0, none⟩ = some (.bool false) := (blk_cell BK710.out 0).trans rfl; have hcz7_1 : w6.cell? ⟨gb710, 1, none⟩ = some (.int .i64 0) := (blk_cell BK710.out 1).trans rfl; have hcz7_2 : w6.cell? ⟨gb710, 2, none⟩ = some (.slice none 0 0) := (blk_cell BK710.out 2).trans rfl; have hfz7_0 := blk_frozen BK710.out 0; have hfz7_1 := blk_frozen BK710.out 1; have hfz7_2 := blk_frozen BK710.out 2) | ((with_reducible refine gate_dst (N := 16) rfl ?_); (try (refine gate_guard (by rfl) ?_; dsimp only)); refine Kd.N_lit k62 _ 62 ?hg (N' := 16) ?hd (xs := ([(⟨false, 7, ([] : List Int)⟩ : S62), (⟨true, 0, ([] : List Int)⟩ : S62), (⟨false, 7, ([] : List Int)⟩ : S62)] : List (S62))) (inner := [.bool false, .int .i64 7, .slice none 0 0, .bool true, .int .i64 0, .slice none 0 0, .bool false, .int .i64 7, .slice none 0 0]) (ok := (fun k_ => k_ ≠ gb710)) (okp := (fun k_ => k_ ≠ gb710)) ?hr ?hp (fun _ hk => hk) ((show ∀ k_, w6.heap.size ≤ k_ → (fun k_ => k_ ≠ gb710) k_ from fun k_ hk => (by exact Kd.freshB BK710.out k_ hk)) _ (by simp)) (Below.refl _ _) (Nat.le_refl _) (by simp) ?_; (case hd => rfl); (case hg => rfl); (case hr => (go_simp; done)); (case hp => exact (Reps.c3 (show Kd.FK k62 _ _ (⟨false, 7, ([] : List Int)⟩ : S62) [.bool false, .int .i64 7, .slice none 0 0] from (k62_mkF _ _ (⟨false, 7, ([] : List Int)⟩ : S62) (Nat.le_refl _) (Kd.F_nil _ _ _))) (Reps.c3 (show Kd.FK k62 _ _ (⟨true, 0, ([] : List Int)⟩ : S62) [.bool true, .int .i64 0, .slice none 0 0] from (k62_mkF _ _ (⟨true, 0, ([] : List Int)⟩ : S62) (Nat.le_refl _) (Kd.F_nil _ _ _))) (Reps.c3 (show Kd.FK k62 _ _ (⟨false, 7, ([] : List Int)⟩ : S62) [.bool false, .int .i64 7, .slice none 0 0] from (k62_mkF _ _ (⟨false, 7, ([] : List Int)⟩ : S62) (Nat.le_refl _) (Kd.F_nil _ _ _))) (Reps.none _ _))))); intro v712 w8 ho9 hb hg_ hnew_; clear hg_ hnew_; (rw [← Ny711.out] at ho9); have n0_ := Aside0.mk (Kd.N_lower ho9 (below_size (by repeat ((with_reducible first | exact HB.out | refine below_set ?_ GE710.out))))); have n1_ := Aside0.mk (blk_below (g := gb710) (o := .cells #[.bool false, .int .i64 7, .slice none 0 0] 62 (0, 0)) (by (with_reducible repeat (refine blk_drewN ?_ _)); refine blk_put (cs := #[.bool false, .int .i64 7, .slice none 0 0]) ?_ 2 _ rfl; (with_reducible repeat (refine blk_drewN ?_ _)); refine blk_put (cs := #[.bool false, .int .i64 0, .slice none 0 0]) ?_ 1 _ rfl; (with_reducible repeat (refine blk_drewN ?_ _)); refine blk_put (cs := #[.bool false, .int .i64 0, .slice none 0 0]) ?_ 0 _ rfl; (with_reducible repeat (refine blk_drewN ?_ _)); exact BK710.out) hb); have n2_ := Aside0.mk (below_step (by repeat ((with_reducible first | exact HB.out | refine below_set ?_ GE710.out))) hb); revert n0_ n1_ n2_; clear BK710 HB; intro HO713 BK710 HB; clear hb ho9; obtain ⟨Ao10, co10, eo10⟩ := Kd.N_slice HO713.out; subst eo10) | ((with_reducible refine gate_callee (f := 11) rfl ?_); refine goL_ Tryz.func11 #[.int .i64 1, .int .i64 2, .slice Ao10 y711.length co10] ?_; (with_reducible refine (block_Encode.calls k 1 2 _ _ y711 t714 t715 _ ((Kd.N_reads' HO713.out).2.2) ((Kd.N_reads' HO713.out).2.1) A1.out).mono ?_); rintro e w11 ⟨v716, rfl, ho0, hb⟩; refine ⟨_, rfl, ?_⟩; have n0_ := Aside0.mk (Kd.N_elder' HO713.out (Kd.R_base ho0) hb); have n1_ := Aside0.mk (Kd.R_lower ho0 (below_size HB.out)); have n2_ := Aside0.mk (blk_below (g := gb710) (o := .cells #[.bool false, .int .i64 7, .slice none 0 0] 62 (0, 0)) (by (with_reducible repeat (refine blk_drewN ?_ _)); exact BK710.out) hb); have n3_ := Aside0.mk (below_step HB.out hb); revert n0_ n1_ n2_ n3_; clear HO713 BK710 HB; intro HO713 HO717 BK710 HB; (try clear hb); (try clear ho0)) | ((with_reducible refine gate_callee (f := 11) rfl ?_); refine goL_ Tryz.func11 #[.int .i64 7, .int .i64 2, .slice none 0 0] ?_; (refine (block_Encode.calls k 7 2 _ _ ([] : List (S62)) t718 t719 _ ?side1 ?side2 A2.out).mono ?_); (case side1 => exact Kd.C_nil _ _); (case side2 => exact Nat.le_refl _); rintro e w12 ⟨v720, rfl, ho0, hb⟩; refine ⟨_, rfl, ?_⟩; have n0_ := Aside0.mk (Kd.N_elder' HO713.out (Kd.R_base ho0) hb); have n1_ := Aside0.mk (Kd.R_elder' HO717.out (Kd.R_base ho0) hb); have n2_ := Aside0.mk (Kd.R_lower (Kd.R_new' ho0 (Kd.R_lt HO717.out)) (below_size HB.out)); have n3_ := Aside0.mk (blk_below (g := gb710) (o := .cells #[.bool false, .int .i64 7, .slice none 0 0] 62 (0, 0)) (by (with_reducible repeat (refine blk_drewN ?_ _)); exact BK710.out) hb); have n4_ := Aside0.mk (below_step HB.out hb); revert n0_ n1_ n2_ n3_ n4_; clear HO713 HO717 BK710 HB; intro HO713 HO717 HO721 BK710 HB; (try clear hb); (try clear ho0); obtain ⟨Ao13, co13, eo13⟩ := Kd.R_slice HO717.out; subst eo13) | ((with_reducible refine gate_callee (f := 13) rfl ?_); refine goL_ Tryz.func13 #[.int .i64 1, .slice Ao13 t714.length co13] ?_; (with_reducible refine (block_Decode.calls k 1 (fun k_ => some k_ = (.slice Ao13 t714.length co13 : Value).ownBlock) _ _ t714 t722 t725 _ ?side1 A3.out).mono ?_); (case side1 => exact Kd.R_V (Kd.R_tight rfl (Kd.R_types (Kd.R_apart' (HO717.out) (Kd.N_typed HO713.out) (by decide)) BK710.out (by decide)))); rintro e w14 ⟨v723, rfl, ho0, hb⟩; refine ⟨_, rfl, ?_⟩; have n0_ := Aside0.mk (Kd.N_elder' HO713.out (by exact Kd.N_base ho0) hb); have n1_ := Aside0.mk (Kd.R_below HO717.out hb); have n2_ := Aside0.mk (Kd.R_below HO721.out hb); have n3_ := Aside0.mk (Kd.N_lower (Kd.N_mono (ok' := fun k_ => some k_ ≠ (.slice Ao10 y711.length co10 : Value).ownBlock ∧ some k_ ≠ (v720 : Value).ownBlock ∧ k_ ≠ gb710) ho0 (fun k_ hk_ => ⟨Or.elim hk_ (fun hs_ => ((Kd.R_types (Kd.R_apart' (HO717.out) (Kd.N_typed HO713.out) (by decide)) BK710.out (by decide)).1 k_ hs_.symm).1.2) (fun hn_ => (Kd.fresh' (Kd.N_lt HO713.out) k_ hn_)), Or.elim hk_ (fun hs_ => ((Kd.R_types (Kd.R_apart' (HO717.out) (Kd.N_typed HO713.out) (by decide)) BK710.out (by decide)).1 k_ hs_.symm).1.1.2) (fun hn_ => (Kd.fresh' (Kd.R_lt HO721.out) k_ hn_)), Or.elim hk_ (fun hs_ => ((Kd.R_types (Kd.R_apart' (HO717.out) (Kd.N_typed HO713.out) (by decide)) BK710.out (by decide)).1 k_ hs_.symm).2) (fun hn_ => (Kd.freshB (g := gb710) (o := .cells #[.bool false, .int .i64 7, .slice none 0 0] 62 (0, 0)) (by (with_reducible repeat (refine blk_drewN ?_ _)); exact BK710.out) k_ hn_))⟩)) (below_size HB.out)); have n4_ := Aside0.mk (blk_below (g := gb710) (o := .cells #[.bool false, .int .i64 7, .slice none 0 0] 62 (0, 0)) (by (with_reducible repeat (refine blk_drewN ?_ _)); exact BK710.out) hb); have n5_ := Aside0.mk (below_step HB.out hb); revert n0_ n1_ n2_ n3_ n4_ n5_; clear HO713 HO717 HO721 BK710 HB; intro HO713 HO717 HO721 HO724 BK710 HB; (try clear hb); (try clear ho0); have hcz15_0 : w14.cell? ⟨gb710, 0, none⟩ = some (.bool false) := (blk_cell BK710.out 0).trans rfl; have hcz15_1 : w14.cell? ⟨gb710, 1, none⟩ = some (.int .i64 7) := (blk_cell BK710.out 1).trans rfl; have hcz15_2 : w14.cell? ⟨gb710, 2, none⟩ = some (.slice none 0 0) := (blk_cell BK710.out 2).trans rfl; have hfz15_0 := blk_frozen BK710.out 0; have hfz15_1 := blk_frozen BK710.out 1; have hfz15_2 := blk_frozen BK710.out 2) | ((with_reducible refine gate_dst (N := 34) rfl ?_); (try (refine gate_guard (by rfl) ?_; dsimp only)); refine Kd.N_lit k62 _ 62 ?hg (N' := 34) ?hd (xs := ([(⟨false, 7, ([] : List Int)⟩ : S62), (⟨false, 7, ([] : List Int)⟩ : S62), (⟨false, 7, ([] : List Int)⟩ : S62), (⟨false, 7, ([] : List Int)⟩ : S62)] : List (S62))) (inner := [.bool false, .int .i64 7, .slice none 0 0, .bool false, .int .i64 7, .slice none 0 0, .bool false, .int .i64 7, .slice none 0 0, .bool false, .int .i64 7, .slice none 0 0]) (ok := (fun k_ => some k_ ≠ (.slice Ao10 y711.length co10 : Value).ownBlock ∧ some k_ ≠ (.slice Ao13 t714.length co13 : Value).ownBlock ∧ some k_ ≠ (v720 : Value).ownBlock ∧ some k_ ≠ (v723 : Value).ownBlock ∧ k_ ≠ gb710)) (okp := (fun k_ => some k_ ≠ (.slice Ao10 y711.length co10 : Value).ownBlock ∧ some k_ ≠ (.slice Ao13 t714.length co13 : Value).ownBlock ∧ some k_ ≠ (v720 : Value).ownBlock ∧ some k_ ≠ (v723 : Value).ownBlock ∧ k_ ≠ gb710)) ?hr ?hp (fun _ hk => hk) ((show ∀ k_, w14.heap.size ≤ k_ → (fun k_ => some k_ ≠ (.slice Ao10 y711.length co10 : Value).ownBlock ∧ some k_ ≠ (.slice Ao13 t714.length co13 : Value).ownBlock ∧ some k_ ≠ (v720 : Value).ownBlock ∧ some k_ ≠ (v723 : Value).ownBlock ∧ k_ ≠ gb710) k_ from fun k_ hk => ⟨Kd.fresh' (Kd.N_lt HO713.out) k_ hk, Kd.fresh' (Kd.R_lt HO717.out) k_ hk, Kd.fresh' (Kd.R_lt HO721.out) k_ hk, Kd.fresh' (Kd.N_lt HO724.out) k_ hk, Kd.freshB (g := gb710) (o := .cells #[.bool false, .int .i64 7, .slice none 0 0] 62 (0, 0)) (by (with_reducible repeat (refine blk_drewN ?_ _)); exact BK710.out) k_ hk⟩) _ (by exact Nat.le_refl _)) (Below.refl _ _) (Nat.le_refl _) (by simp) ?_; (case hd => rfl); (case hg => rfl); (case hr => (go_simp; done)); (case hp => exact (Reps.c3 (show Kd.FK k62 _ _ (⟨false, 7, ([] : List Int)⟩ : S62) [.bool false, .int .i64 7, .slice none 0 0] from (k62_mkF _ _ (⟨false, 7, ([] : List Int)⟩ : S62) (Nat.le_refl _) (Kd.F_nil _ _ _))) (Reps.c3 (show Kd.FK k62 _ _ (⟨false, 7, ([] : List Int)⟩ : S62) [.bool false, .int .i64 7, .slice none 0 0] from (k62_mkF _ _ (⟨false, 7, ([] : List Int)⟩ : S62) (Nat.le_refl _) (Kd.F_nil _ _ _))) (Reps.c3 (show Kd.FK k62 _ _ (⟨false, 7, ([] : List Int)⟩ : S62) [.bool false, .int .i64 7, .slice none 0 0] from (k62_mkF _ _ (⟨false, 7, ([] : List Int)⟩ : S62) (Nat.le_refl _) (Kd.F_nil _ _ _))) (Reps.c3 (show Kd.FK k62 _ _ (⟨false, 7, ([] : List Int)⟩ : S62) [.bool false, .int .i64 7, .slice none 0 0] from (k62_mkF _ _ (⟨false, 7, ([] : List Int)⟩ : S62) (Nat.le_refl _) (Kd.F_nil _ _ _))) (Reps.none _ _)))))); intro v727 w16 ho17 hb hg_ hnew_; clear hg_ hnew_; (rw [← Ny726.out] at ho17); have n0_ := Aside0.mk (Kd.N_elder' HO713.out (by exact Kd.N_base ho17) hb); have n1_ := Aside0.mk (Kd.R_below HO717.out hb); have n2_ := Aside0.mk (Kd.R_below HO721.out hb); have n3_ := Aside0.mk (Kd.N_elder' HO724.out (by exact Kd.N_base ho17) hb); have n4_ := Aside0.mk (Kd.N_lower ho17 (below_size HB.out)); have n5_ := Aside0.mk (blk_below (g := gb710) (o := .cells #[.bool false, .int .i64 7, .slice none 0 0] 62 (0, 0)) (by (with_reducible repeat (refine blk_drewN ?_ _)); exact BK710.out) hb); have n6_ := Aside0.mk (below_step HB.out hb); revert n0_ n1_ n2_ n3_ n4_ n5_ n6_; clear HO713 HO717 HO721 HO724 BK710 HB; intro HO713 HO717 HO721 HO724 HO728 BK710 HB; clear hb ho17; obtain ⟨Ao18, co18, eo18⟩ := Kd.N_slice HO728.out; subst eo18) | ((with_reducible refine gate_callee (f := 14) rfl ?_); refine goL_ Tryz.func14 #[.int .i64 1, .slice Ao18 y726.length co18] ?_; (with_reducible refine (block_Best.calls k 1 _ _ y726 t729 t730 t731 _ ?side1 ?side2 A4.out).mono ?_); (case side1 => repeat (exact (Kd.N_reads' HO728.out).2.2)); (case side2 => exact (Kd.N_reads' HO728.out).2.1); rintro e w19 ⟨v732, rfl, ho0, hb⟩; refine ⟨_, rfl, ?_⟩; have n0_ := Aside0.mk (Kd.N_elder' HO713.out (Kd.R_base ho0) hb); have n1_ := Aside0.mk (Kd.R_elder' HO717.out (Kd.R_base ho0) hb); have n2_ := Aside0.mk (Kd.R_elder' HO721.out (Kd.R_base ho0) hb); have n3_ := Aside0.mk (Kd.N_elder' HO724.out (Kd.R_base ho0) hb); have n4_ := Aside0.mk (Kd.N_elder' HO728.out (Kd.R_base ho0) hb); have n5_ := Aside0.mk (Kd.R_lower (Kd.R_new' (Kd.R_new' ho0 (Kd.R_lt HO717.out)) (Kd.R_lt HO721.out)) (below_size HB.out)); have n6_ := Aside0.mk (blk_below (g := gb710) (o := .cells #[.bool false, .int .i64 7, .slice none 0 0] 62 (0, 0)) (by (with_reducible repeat (refine blk_drewN ?_ _)); exact BK710.out) hb); have n7_ := Aside0.mk (below_step HB.out hb); revert n0_ n1_ n2_ n3_ n4_ n5_ n6_ n7_; clear HO713 HO717 HO721 HO724 HO728 BK710 HB; intro HO713 HO717 HO721 HO724 HO728 HO733 BK710 HB; (try clear hb); (try clear ho0)))
 go_cut [80] (fun v80 wc => ∃ (kq : Nat) (x80_4 : Bool), v80 = .bool x80_4 ∧ Aside0 (stoalaw12_alive.j0 kq t714 x80_4 = some r) ∧ Aside0 (kq ≤ k) ∧ Aside0 (Kd.R (Kd.int .u8) 5 wc w.heap.size (fun _ => True) (.slice Ao13 t714.length co13) t714) ∧ Aside0 (wc.heap[gb710]? = some (.cells #[.bool false, .int .i64 7, (.slice none 0 0)] 62 (0, 0))) ∧ Aside0 (Below w.heap.size w wc))
 case first =>
  have H := HC5.out
  clear HC5
  by_cases c20 : t715 = 0
  ·rw [if_pos c20] at H
   have c20b0 : (t715 == 0) = true := beq_iff_eq.mpr c20
   have c20b1 : (t715 != 0) = false := bne_eq_false_iff_eq.mpr c20
   clear c20
   by_cases c21 : t719 = 120
   ·rw [if_pos c21] at H
    have c21b0 : (t719 == 120) = true := beq_iff_eq.mpr c21
    have c21b1 : (t719 != 120) = false := bne_eq_false_iff_eq.mpr c21
    clear c21
    by_cases c22 : t725 = 0
    ·rw [if_pos c22] at H
     have c22b0 : (t725 == 0) = true := beq_iff_eq.mpr c22
     have c22b1 : (t725 != 0) = false := bne_eq_false_iff_eq.mpr c22
     clear c22
     by_cases c23 : t731 = 0
     ·rw [if_pos c23] at H
      have c23b0 : (t731 == 0) = true := beq_iff_eq.mpr c23
      have c23b1 : (t731 != 0) = false := bne_eq_false_iff_eq.mpr c23
      clear c23
      by_cases c24 : (t722.length : Int) = 3
      ·rw [if_pos c24] at H
       have c24b0 : ((t722.length : Int) == 3) = true := beq_iff_eq.mpr c24
       have c24b1 : ((t722.length : Int) != 3) = false := bne_eq_false_iff_eq.mpr c24
       clear c24
       by_cases c25 : 1 < (t722.length : Int)
       ·rw [if_pos c25] at H
        have c25b0 : decide (1 < (t722.length : Int)) = true := decide_eq_true c25
        have c25b1 : decide (1 < t722.length) = true := decide_eq_true (by omega)
        clear c25
        obtain ⟨bq26, hbq26⟩ : ∃ b_ : Bool, b_ = ((rd_T62 t722 1).f0) := ⟨_, rfl⟩
        replace H : (if (bq26 = true) then (if 2 < (t722.length : Int) then (if ((rd_T62 t722 2).f1) = 7 then (if t729 = 2 then (stoalaw12_alive.j0 k t714 ((t730.length : Int) != 10)) else (stoalaw12_alive.j0 k t714 true)) else (stoalaw12_alive.j0 k t714 true)) else (none)) else (stoalaw12_alive.j0 k t714 true)) = some r := by rw [← hbq26] at H; exact H
        have Nbq26 := Aside0.mk hbq26
        clear hbq26
        by_cases c27 : (bq26 = true)
        ·subst c27
         have H1 : (if 2 < (t722.length : Int) then (if ((rd_T62 t722 2).f1) = 7 then (if t729 = 2 then (stoalaw12_alive.j0 k t714 ((t730.length : Int) != 10)) else (stoalaw12_alive.j0 k t714 true)) else (stoalaw12_alive.j0 k t714 true)) else (none)) = some r := by rw [if_pos rfl] at H; exact H
         clear H
         have H := H1
         clear H1
         by_cases c28 : 2 < (t722.length : Int)
         ·rw [if_pos c28] at H
          have c28b0 : decide (2 < (t722.length : Int)) = true := decide_eq_true c28
          have c28b1 : decide (2 < t722.length) = true := decide_eq_true (by omega)
          clear c28
          by_cases c29 : ((rd_T62 t722 2).f1) = 7
          ·rw [if_pos c29] at H
           have c29b0 : (((rd_T62 t722 2).f1) == 7) = true := beq_iff_eq.mpr c29
           have c29b1 : (((rd_T62 t722 2).f1) != 7) = false := bne_eq_false_iff_eq.mpr c29
           clear c29
           by_cases c30 : t729 = 2
           ·rw [if_pos c30] at H
            have c30b0 : (t729 == 2) = true := beq_iff_eq.mpr c30
            have c30b1 : (t729 != 2) = false := bne_eq_false_iff_eq.mpr c30
            clear c30
            have H' := Aside0.mk H
            clear H
            obtain ⟨Ao31, co31, eo31⟩ := Kd.N_slice HO724.out
            subst eo31
            have p734 : 0 ≤ (1 : Int) := (by omega)
            have q734 : 1 < (t722.length : Int) := of_decide_eq_true ‹_›
            obtain ⟨ad734, A734_2, c734_2, e734, hx734_0, hx734_1, hx734_2, hl734_2, hi734_2⟩ := at_T62 (Kd.N_reads' HO724.out).2.2 1 p734 q734
            (try rw [← Nbq26.out] at hx734_0)
            cases e734
            obtain ⟨ce734, hce734, hMe734, hcc734⟩ := Kd.N_get HO724.out z62 1 p734 q734
            obtain ⟨ua734_2, uc734_2, rfl, ul734_2, ge734_2⟩ := k62_openF hMe734
            have hv734_2 := hcc734 2 _ rfl
            rw [add_field _ _ 2 (by omega)] at hv734_2
            replace hv734_2 := Option.some.inj (hv734_2.symm.trans hx734_2)
            injection hv734_2 with hva_ hvn_ hvc_
            rw [hva_] at ge734_2
            rw [hvc_] at ul734_2
            have HL734_2 := Aside0.mk (show Kd.V (Kd.int .u8) 5 _ w.heap.size _ _ ((rd_T62 t722 1).f2) from Kd.V_mk ul734_2 ge734_2)
            clear hva_ hvn_ hvc_ ge734_2 ul734_2
            clear hcc734 hce734
            (try simp only [show (1 : Int).toNat = 1 from rfl, Nat.reduceMul, Nat.reduceEqDiff, Go.Addr.add, ↓reduceIte] at hx734_0)
            (try simp only [show (1 : Int).toNat = 1 from rfl, Nat.reduceMul, Nat.reduceEqDiff, Go.Addr.add, ↓reduceIte] at hx734_1)
            (try simp only [show (1 : Int).toNat = 1 from rfl, Nat.reduceMul, Nat.reduceEqDiff, Go.Addr.add, ↓reduceIte] at hx734_2)
            have qi734 : (1 < t722.length) = True := eq_true (by omega)
            have HR734_2 := Aside0.mk hi734_2
            have HC734_2 := Aside0.mk hl734_2
            clear hi734_2 hl734_2
            replace p734 := eq_true p734
            replace q734 := eq_true q734
            have p735 : 0 ≤ (2 : Int) := (by omega)
            have q735 : 2 < (t722.length : Int) := of_decide_eq_true ‹_›
            obtain ⟨ad735, A735_2, c735_2, e735, hx735_0, hx735_1, hx735_2, hl735_2, hi735_2⟩ := at_T62 (Kd.N_reads' HO724.out).2.2 2 p735 q735
            obtain rfl : ad734 = ad735 := (by injection e735)
            obtain ⟨ce735, hce735, hMe735, hcc735⟩ := Kd.N_get HO724.out z62 2 p735 q735
            obtain ⟨ua735_2, uc735_2, rfl, ul735_2, ge735_2⟩ := k62_openF hMe735
            have hv735_2 := hcc735 2 _ rfl
            rw [add_field _ _ 2 (by omega)] at hv735_2
            replace hv735_2 := Option.some.inj (hv735_2.symm.trans hx735_2)
            injection hv735_2 with hva_ hvn_ hvc_
            rw [hva_] at ge735_2
            rw [hvc_] at ul735_2
            have HL735_2 := Aside0.mk (show Kd.V (Kd.int .u8) 5 _ w.heap.size _ _ ((rd_T62 t722 2).f2) from Kd.V_mk ul735_2 ge735_2)
            clear hva_ hvn_ hvc_ ge735_2 ul735_2
            clear hcc735 hce735
            (try simp only [show (2 : Int).toNat = 2 from rfl, Nat.reduceMul, Nat.reduceEqDiff, Go.Addr.add, ↓reduceIte] at hx735_0)
            (try simp only [show (2 : Int).toNat = 2 from rfl, Nat.reduceMul, Nat.reduceEqDiff, Go.Addr.add, ↓reduceIte] at hx735_1)
            (try simp only [show (2 : Int).toNat = 2 from rfl, Nat.reduceMul, Nat.reduceEqDiff, Go.Addr.add, ↓reduceIte] at hx735_2)
            have qi735 : (2 < t722.length) = True := eq_true (by omega)
            have HR735_2 := Aside0.mk hi735_2
            have HC735_2 := Aside0.mk hl735_2
            clear hi735_2 hl735_2
            replace p735 := eq_true p735
            replace q735 := eq_true q735
            obtain ⟨Ao32, co32, eo32⟩ := Kd.R_slice HO733.out
            subst eo32
            go_wp2
            go_meet
            case rel => exact ⟨_, (((t730.length : Int) != 10)), (by rfl), H', ⟨by omega⟩, ⟨by (with_reducible repeat (apply Kd.R_alloc)); exact Kd.R_mono HO717.out (fun _ hk => trivial)⟩, ⟨by (with_reducible repeat (refine blk_drewN ?_ _)); exact BK710.out⟩, ⟨by exact HB.out⟩⟩
           rw [if_neg c30] at H
           have c30b0 : (t729 == 2) = false := beq_eq_false_iff_ne.mpr c30
           have c30b1 : (t729 != 2) = true := bne_iff_ne.mpr c30
           have H' := Aside0.mk H
           clear H
           obtain ⟨Ao33, co33, eo33⟩ := Kd.N_slice HO724.out
           subst eo33
           have p734 : 0 ≤ (1 : Int) := (by omega)
           have q734 : 1 < (t722.length : Int) := of_decide_eq_true ‹_›
           obtain ⟨ad734, A734_2, c734_2, e734, hx734_0, hx734_1, hx734_2, hl734_2, hi734_2⟩ := at_T62 (Kd.N_reads' HO724.out).2.2 1 p734 q734
           (try rw [← Nbq26.out] at hx734_0)
           cases e734
           obtain ⟨ce734, hce734, hMe734, hcc734⟩ := Kd.N_get HO724.out z62 1 p734 q734
           obtain ⟨ua734_2, uc734_2, rfl, ul734_2, ge734_2⟩ := k62_openF hMe734
           have hv734_2 := hcc734 2 _ rfl
           rw [add_field _ _ 2 (by omega)] at hv734_2
           replace hv734_2 := Option.some.inj (hv734_2.symm.trans hx734_2)
           injection hv734_2 with hva_ hvn_ hvc_
           rw [hva_] at ge734_2
           rw [hvc_] at ul734_2
           have HL734_2 := Aside0.mk (show Kd.V (Kd.int .u8) 5 _ w.heap.size _ _ ((rd_T62 t722 1).f2) from Kd.V_mk ul734_2 ge734_2)
           clear hva_ hvn_ hvc_ ge734_2 ul734_2
           clear hcc734 hce734
           (try simp only [show (1 : Int).toNat = 1 from rfl, Nat.reduceMul, Nat.reduceEqDiff, Go.Addr.add, ↓reduceIte] at hx734_0)
           (try simp only [show (1 : Int).toNat = 1 from rfl, Nat.reduceMul, Nat.reduceEqDiff, Go.Addr.add, ↓reduceIte] at hx734_1)
           (try simp only [show (1 : Int).toNat = 1 from rfl, Nat.reduceMul, Nat.reduceEqDiff, Go.Addr.add, ↓reduceIte] at hx734_2)
           have qi734 : (1 < t722.length) = True := eq_true (by omega)
           have HR734_2 := Aside0.mk hi734_2
           have HC734_2 := Aside0.mk hl734_2
           clear hi734_2 hl734_2
           replace p734 := eq_true p734
           replace q734 := eq_true q734
           have p735 : 0 ≤ (2 : Int) := (by omega)
           have q735 : 2 < (t722.length : Int) := of_decide_eq_true ‹_›
           obtain ⟨ad735, A735_2, c735_2, e735, hx735_0, hx735_1, hx735_2, hl735_2, hi735_2⟩ := at_T62 (Kd.N_reads' HO724.out).2.2 2 p735 q735
           obtain rfl : ad734 = ad735 := (by injection e735)
           obtain ⟨ce735, hce735, hMe735, hcc735⟩ := Kd.N_get HO724.out z62 2 p735 q735
           obtain ⟨ua735_2, uc735_2, rfl, ul735_2, ge735_2⟩ := k62_openF hMe735
           have hv735_2 := hcc735 2 _ rfl
           rw [add_field _ _ 2 (by omega)] at hv735_2
           replace hv735_2 := Option.some.inj (hv735_2.symm.trans hx735_2)
           injection hv735_2 with hva_ hvn_ hvc_
           rw [hva_] at ge735_2
           rw [hvc_] at ul735_2
           have HL735_2 := Aside0.mk (show Kd.V (Kd.int .u8) 5 _ w.heap.size _ _ ((rd_T62 t722 2).f2) from Kd.V_mk ul735_2 ge735_2)
           clear hva_ hvn_ hvc_ ge735_2 ul735_2
           clear hcc735 hce735
           (try simp only [show (2 : Int).toNat = 2 from rfl, Nat.reduceMul, Nat.reduceEqDiff, Go.Addr.add, ↓reduceIte] at hx735_0)
           (try simp only [show (2 : Int).toNat = 2 from rfl, Nat.reduceMul, Nat.reduceEqDiff, Go.Addr.add, ↓reduceIte] at hx735_1)
           (try simp only [show (2 : Int).toNat = 2 from rfl, Nat.reduceMul, Nat.reduceEqDiff, Go.Addr.add, ↓reduceIte] at hx735_2)
           have qi735 : (2 < t722.length) = True := eq_true (by omega)
           have HR735_2 := Aside0.mk hi735_2
           have HC735_2 := Aside0.mk hl735_2
           clear hi735_2 hl735_2
           replace p735 := eq_true p735
           replace q735 := eq_true q735
           go_wp2
           go_meet
           case rel => exact ⟨_, (true), (by rfl), H', ⟨by omega⟩, ⟨by (with_reducible repeat (apply Kd.R_alloc)); exact Kd.R_mono HO717.out (fun _ hk => trivial)⟩, ⟨by (with_reducible repeat (refine blk_drewN ?_ _)); exact BK710.out⟩, ⟨by exact HB.out⟩⟩
          rw [if_neg c29] at H
          have c29b0 : (((rd_T62 t722 2).f1) == 7) = false := beq_eq_false_iff_ne.mpr c29
          have c29b1 : (((rd_T62 t722 2).f1) != 7) = true := bne_iff_ne.mpr c29
          have H' := Aside0.mk H
          clear H
          obtain ⟨Ao34, co34, eo34⟩ := Kd.N_slice HO724.out
          subst eo34
          have p734 : 0 ≤ (1 : Int) := (by omega)
          have q734 : 1 < (t722.length : Int) := of_decide_eq_true ‹_›
          obtain ⟨ad734, A734_2, c734_2, e734, hx734_0, hx734_1, hx734_2, hl734_2, hi734_2⟩ := at_T62 (Kd.N_reads' HO724.out).2.2 1 p734 q734
          (try rw [← Nbq26.out] at hx734_0)
          cases e734
          obtain ⟨ce734, hce734, hMe734, hcc734⟩ := Kd.N_get HO724.out z62 1 p734 q734
          obtain ⟨ua734_2, uc734_2, rfl, ul734_2, ge734_2⟩ := k62_openF hMe734
          have hv734_2 := hcc734 2 _ rfl
          rw [add_field _ _ 2 (by omega)] at hv734_2
          replace hv734_2 := Option.some.inj (hv734_2.symm.trans hx734_2)
          injection hv734_2 with hva_ hvn_ hvc_
          rw [hva_] at ge734_2
          rw [hvc_] at ul734_2
          have HL734_2 := Aside0.mk (show Kd.V (Kd.int .u8) 5 _ w.heap.size _ _ ((rd_T62 t722 1).f2) from Kd.V_mk ul734_2 ge734_2)
          clear hva_ hvn_ hvc_ ge734_2 ul734_2
          clear hcc734 hce734
          (try simp only [show (1 : Int).toNat = 1 from rfl, Nat.reduceMul, Nat.reduceEqDiff, Go.Addr.add, ↓reduceIte] at hx734_0)
          (try simp only [show (1 : Int).toNat = 1 from rfl, Nat.reduceMul, Nat.reduceEqDiff, Go.Addr.add, ↓reduceIte] at hx734_1)
          (try simp only [show (1 : Int).toNat = 1 from rfl, Nat.reduceMul, Nat.reduceEqDiff, Go.Addr.add, ↓reduceIte] at hx734_2)
          have qi734 : (1 < t722.length) = True := eq_true (by omega)
          have HR734_2 := Aside0.mk hi734_2
          have HC734_2 := Aside0.mk hl734_2
          clear hi734_2 hl734_2
          replace p734 := eq_true p734
          replace q734 := eq_true q734
          have p735 : 0 ≤ (2 : Int) := (by omega)
          have q735 : 2 < (t722.length : Int) := of_decide_eq_true ‹_›
          obtain ⟨ad735, A735_2, c735_2, e735, hx735_0, hx735_1, hx735_2, hl735_2, hi735_2⟩ := at_T62 (Kd.N_reads' HO724.out).2.2 2 p735 q735
          obtain rfl : ad734 = ad735 := (by injection e735)
          obtain ⟨ce735, hce735, hMe735, hcc735⟩ := Kd.N_get HO724.out z62 2 p735 q735
          obtain ⟨ua735_2, uc735_2, rfl, ul735_2, ge735_2⟩ := k62_openF hMe735
          have hv735_2 := hcc735 2 _ rfl
          rw [add_field _ _ 2 (by omega)] at hv735_2
          replace hv735_2 := Option.some.inj (hv735_2.symm.trans hx735_2)
          injection hv735_2 with hva_ hvn_ hvc_
          rw [hva_] at ge735_2
          rw [hvc_] at ul735_2
          have HL735_2 := Aside0.mk (show Kd.V (Kd.int .u8) 5 _ w.heap.size _ _ ((rd_T62 t722 2).f2) from Kd.V_mk ul735_2 ge735_2)
          clear hva_ hvn_ hvc_ ge735_2 ul735_2
          clear hcc735 hce735
          (try simp only [show (2 : Int).toNat = 2 from rfl, Nat.reduceMul, Nat.reduceEqDiff, Go.Addr.add, ↓reduceIte] at hx735_0)
          (try simp only [show (2 : Int).toNat = 2 from rfl, Nat.reduceMul, Nat.reduceEqDiff, Go.Addr.add, ↓reduceIte] at hx735_1)
          (try simp only [show (2 : Int).toNat = 2 from rfl, Nat.reduceMul, Nat.reduceEqDiff, Go.Addr.add, ↓reduceIte] at hx735_2)
          have qi735 : (2 < t722.length) = True := eq_true (by omega)
          have HR735_2 := Aside0.mk hi735_2
          have HC735_2 := Aside0.mk hl735_2
          clear hi735_2 hl735_2
          replace p735 := eq_true p735
          replace q735 := eq_true q735
          go_wp2
          go_meet
          case rel => exact ⟨_, (true), (by rfl), H', ⟨by omega⟩, ⟨by (with_reducible repeat (apply Kd.R_alloc)); exact Kd.R_mono HO717.out (fun _ hk => trivial)⟩, ⟨by (with_reducible repeat (refine blk_drewN ?_ _)); exact BK710.out⟩, ⟨by exact HB.out⟩⟩
         rw [if_neg c28] at H
         exact absurd H (by simp)
        replace c27 := Bool.eq_false_iff.mpr c27
        subst c27
        have H1 : (stoalaw12_alive.j0 k t714 true) = some r := by rw [if_neg (show ¬ (false = true) by decide)] at H; exact H
        clear H
        have H := H1
        clear H1
        have H' := Aside0.mk H
        clear H
        obtain ⟨Ao35, co35, eo35⟩ := Kd.N_slice HO724.out
        subst eo35
        have p734 : 0 ≤ (1 : Int) := (by omega)
        have q734 : 1 < (t722.length : Int) := of_decide_eq_true ‹_›
        obtain ⟨ad734, A734_2, c734_2, e734, hx734_0, hx734_1, hx734_2, hl734_2, hi734_2⟩ := at_T62 (Kd.N_reads' HO724.out).2.2 1 p734 q734
        (try rw [← Nbq26.out] at hx734_0)
        cases e734
        obtain ⟨ce734, hce734, hMe734, hcc734⟩ := Kd.N_get HO724.out z62 1 p734 q734
        obtain ⟨ua734_2, uc734_2, rfl, ul734_2, ge734_2⟩ := k62_openF hMe734
        have hv734_2 := hcc734 2 _ rfl
        rw [add_field _ _ 2 (by omega)] at hv734_2
        replace hv734_2 := Option.some.inj (hv734_2.symm.trans hx734_2)
        injection hv734_2 with hva_ hvn_ hvc_
        rw [hva_] at ge734_2
        rw [hvc_] at ul734_2
        have HL734_2 := Aside0.mk (show Kd.V (Kd.int .u8) 5 _ w.heap.size _ _ ((rd_T62 t722 1).f2) from Kd.V_mk ul734_2 ge734_2)
        clear hva_ hvn_ hvc_ ge734_2 ul734_2
        clear hcc734 hce734
        (try simp only [show (1 : Int).toNat = 1 from rfl, Nat.reduceMul, Nat.reduceEqDiff, Go.Addr.add, ↓reduceIte] at hx734_0)
        (try simp only [show (1 : Int).toNat = 1 from rfl, Nat.reduceMul, Nat.reduceEqDiff, Go.Addr.add, ↓reduceIte] at hx734_1)
        (try simp only [show (1 : Int).toNat = 1 from rfl, Nat.reduceMul, Nat.reduceEqDiff, Go.Addr.add, ↓reduceIte] at hx734_2)
        have qi734 : (1 < t722.length) = True := eq_true (by omega)
        have HR734_2 := Aside0.mk hi734_2
        have HC734_2 := Aside0.mk hl734_2
        clear hi734_2 hl734_2
        replace p734 := eq_true p734
        replace q734 := eq_true q734
        go_wp2
        go_meet
        case rel => exact ⟨_, (true), (by rfl), H', ⟨by omega⟩, ⟨by (with_reducible repeat (apply Kd.R_alloc)); exact Kd.R_mono HO717.out (fun _ hk => trivial)⟩, ⟨by (with_reducible repeat (refine blk_drewN ?_ _)); exact BK710.out⟩, ⟨by exact HB.out⟩⟩
       rw [if_neg c25] at H
       exact absurd H (by simp)
      rw [if_neg c24] at H
      have c24b0 : ((t722.length : Int) == 3) = false := beq_eq_false_iff_ne.mpr c24
      have c24b1 : ((t722.length : Int) != 3) = true := bne_iff_ne.mpr c24
      have H' := Aside0.mk H
      clear H
      obtain ⟨Ao36, co36, eo36⟩ := Kd.N_slice HO724.out
      subst eo36
      go_wp2
      go_meet
      case rel => exact ⟨_, (true), (by rfl), H', ⟨by omega⟩, ⟨by (with_reducible repeat (apply Kd.R_alloc)); exact Kd.R_mono HO717.out (fun _ hk => trivial)⟩, ⟨by (with_reducible repeat (refine blk_drewN ?_ _)); exact BK710.out⟩, ⟨by exact HB.out⟩⟩
     rw [if_neg c23] at H
     have c23b0 : (t731 == 0) = false := beq_eq_false_iff_ne.mpr c23
     have c23b1 : (t731 != 0) = true := bne_iff_ne.mpr c23
     have H' := Aside0.mk H
     clear H
     go_wp2
     go_meet
     case rel => exact ⟨_, (true), (by rfl), H', ⟨by omega⟩, ⟨by (with_reducible repeat (apply Kd.R_alloc)); exact Kd.R_mono HO717.out (fun _ hk => trivial)⟩, ⟨by (with_reducible repeat (refine blk_drewN ?_ _)); exact BK710.out⟩, ⟨by exact HB.out⟩⟩
    rw [if_neg c22] at H
    have c22b0 : (t725 == 0) = false := beq_eq_false_iff_ne.mpr c22
    have c22b1 : (t725 != 0) = true := bne_iff_ne.mpr c22
    have H' := Aside0.mk H
    clear H
    go_wp2
    go_meet
    case rel => exact ⟨_, (true), (by rfl), H', ⟨by omega⟩, ⟨by (with_reducible repeat (apply Kd.R_alloc)); exact Kd.R_mono HO717.out (fun _ hk => trivial)⟩, ⟨by (with_reducible repeat (refine blk_drewN ?_ _)); exact BK710.out⟩, ⟨by exact HB.out⟩⟩
   rw [if_neg c21] at H
   have c21b0 : (t719 == 120) = false := beq_eq_false_iff_ne.mpr c21
   have c21b1 : (t719 != 120) = true := bne_iff_ne.mpr c21
   have H' := Aside0.mk H
   clear H
   go_wp2
   go_meet
   case rel => exact ⟨_, (true), (by rfl), H', ⟨by omega⟩, ⟨by (with_reducible repeat (apply Kd.R_alloc)); exact Kd.R_mono HO717.out (fun _ hk => trivial)⟩, ⟨by (with_reducible repeat (refine blk_drewN ?_ _)); exact BK710.out⟩, ⟨by exact HB.out⟩⟩
  rw [if_neg c20] at H
  have c20b0 : (t715 == 0) = false := beq_eq_false_iff_ne.mpr c20
  have c20b1 : (t715 != 0) = true := bne_iff_ne.mpr c20
  have H' := Aside0.mk H
  clear H
  go_wp2
  go_meet
  case rel => exact ⟨_, (true), (by rfl), H', ⟨by omega⟩, ⟨by (with_reducible repeat (apply Kd.R_alloc)); exact Kd.R_mono HO717.out (fun _ hk => trivial)⟩, ⟨by (with_reducible repeat (refine blk_drewN ?_ _)); exact BK710.out⟩, ⟨by exact HB.out⟩⟩
 case rest =>
  clear HC5
  try clear hcz15_0
  try clear hcz15_1
  try clear hcz15_2
  try clear hcz7_0
  try clear hcz7_1
  try clear hcz7_2
  try clear hfz15_0
  try clear hfz15_1
  try clear hfz15_2
  try clear hfz7_0
  try clear hfz7_1
  try clear hfz7_2
  obtain ⟨kq, x80_4, rfl, HA, HJ4, HO_2, BK710, HB⟩ := hcut
  cases kq with
  | zero => exact absurd HA.out (by simp [stoalaw12_alive.j0])
  | succ kj4 =>
   have H := HA.out
   clear HA
   simp only [stoalaw12_alive.j0] at H
   by_cases c37 : x80_4 = true
   ·subst c37
    have H1 : (some false) = some r := by rw [if_pos rfl] at H; exact H
    clear H
    have H := H1
    clear H1
    obtain rfl := Option.some.inj H
    go_wp2
    go_ret
    exact ⟨by rfl, by exact HB.out⟩
   replace c37 := Bool.eq_false_iff.mpr c37
   subst c37
   have H1 : ((stoaref03_Seal.f kj4 (([2, 3, 1, 2, 1, 14, 2] : List Int))).bind fun t739 => ((stoaref01_Same.f kj4 t714 t739).bind fun t742 => (some t742))) = some r := by rw [if_neg (show ¬ (false = true) by decide)] at H; exact H
   clear H
   have H := H1
   clear H1
   obtain ⟨y736, hy736⟩ : ∃ y_ : List Int, y_ = (([2, 3, 1, 2, 1, 14, 2] : List Int)) := ⟨_, rfl⟩
   replace H : ((stoaref03_Seal.f kj4 y736).bind fun t739 => ((stoaref01_Same.f kj4 t714 t739).bind fun t742 => (some t742))) = some r := by (rw [hy736]; with_reducible exact H)
   have Ny736 := Aside0.mk hy736
   clear hy736
   replace H := Option.bind_eq_some_iff.mp H
   obtain ⟨t739, A380, H⟩ := H
   (try dsimp only at H)
   have A38 := Aside0.mk A380
   clear A380
   replace H := Option.bind_eq_some_iff.mp H
   obtain ⟨t742, A390, H⟩ := H
   (try dsimp only at H)
   have A39 := Aside0.mk A390
   clear A390
   obtain rfl := Option.some.inj H
   go_wp2_with (first | ((with_reducible refine gate_dst (N := 82) rfl ?_); (try (refine gate_guard (by rfl) ?_; dsimp only)); refine Kd.R_lit (Kd.int .u8) _ 5 ?hg (N := 82) ?hd (xs := ([2, 3, 1, 2, 1, 14, 2] : List Int)) (inner := [.int .u8 2, .int .u8 3, .int .u8 1, .int .u8 2, .int .u8 1, .int .u8 14, .int .u8 2]) (ok := fun _ => True) (okp := fun _ => True) ?hr ?hp (fun _ hk => hk) trivial (Below.refl _ _) (Nat.le_refl _) (by simp) ?_; (case hd => rfl); (case hg => rfl); (case hr => (go_simp; done)); (case hp => exact (Reps.one (show Kd.M (Kd.int .u8) _ _ _ 2 [.int .u8 2] from rfl) (Reps.one (show Kd.M (Kd.int .u8) _ _ _ 3 [.int .u8 3] from rfl) (Reps.one (show Kd.M (Kd.int .u8) _ _ _ 1 [.int .u8 1] from rfl) (Reps.one (show Kd.M (Kd.int .u8) _ _ _ 2 [.int .u8 2] from rfl) (Reps.one (show Kd.M (Kd.int .u8) _ _ _ 1 [.int .u8 1] from rfl) (Reps.one (show Kd.M (Kd.int .u8) _ _ _ 14 [.int .u8 14] from rfl) (Reps.one (show Kd.M (Kd.int .u8) _ _ _ 2 [.int .u8 2] from rfl) (Reps.none _ _))))))))); intro v737 w40 ho41 hb hg_ hnew_; clear hg_ hnew_; (rw [← Ny736.out] at ho41); have n0_ := Aside0.mk (Kd.R_elder' HO_2.out (Kd.R_base ho41) hb); have n1_ := Aside0.mk (Kd.R_lower (Kd.R_new' ho41 (Kd.R_lt HO_2.out)) (below_size HB.out)); have n2_ := Aside0.mk (blk_below (g := gb710) (o := .cells #[.bool false, .int .i64 7, .slice none 0 0] 62 (0, 0)) (by (with_reducible repeat (refine blk_drewN ?_ _)); exact BK710.out) hb); have n3_ := Aside0.mk (below_step HB.out hb); revert n0_ n1_ n2_ n3_; clear HO_2 BK710 HB; intro HO_2 HO738 BK710 HB; clear hb ho41; obtain ⟨Ao42, co42, eo42⟩ := Kd.R_slice HO738.out; subst eo42) | ((with_reducible refine gate_callee (f := 36) rfl ?_); refine goL_ Tryz.func36 #[.slice Ao42 y736.length co42] ?_; (with_reducible refine (stoaref03_Seal.calls kj4 _ _ y736 t739 _ ((Kd.R_reads' HO738.out).2.2) ((Kd.R_reads' HO738.out).2.1) A38.out).mono ?_); rintro e w43 ⟨v740, rfl, ho0, hb⟩; refine ⟨_, rfl, ?_⟩; have n0_ := Aside0.mk (Kd.R_elder' HO_2.out (Kd.R_base ho0) hb); have n1_ := Aside0.mk (Kd.R_elder' HO738.out (Kd.R_base ho0) hb); have n2_ := Aside0.mk (Kd.R_lower (Kd.R_new' (Kd.R_new' ho0 (Kd.R_lt HO_2.out)) (Kd.R_lt HO738.out)) (below_size HB.out)); have n3_ := Aside0.mk (blk_below (g := gb710) (o := .cells #[.bool false, .int .i64 7, .slice none 0 0] 62 (0, 0)) (by (with_reducible repeat (refine blk_drewN ?_ _)); exact BK710.out) hb); have n4_ := Aside0.mk (below_step HB.out hb); revert n0_ n1_ n2_ n3_ n4_; clear HO_2 HO738 BK710 HB; intro HO_2 HO738 HO741 BK710 HB; (try clear hb); (try clear ho0); obtain ⟨Ao44, co44, eo44⟩ := Kd.R_slice HO741.out; subst eo44) | ((with_reducible refine gate_callee (f := 17) rfl ?_); refine goL_ Tryz.func17 #[.slice Ao13 t714.length co13, .slice Ao44 t739.length co44] ?_; (with_reducible refine (stoaref01_Same.calls kj4 _ _ t714 _ _ t739 t742 _ ?side1 ?side2 ((Kd.R_reads' HO741.out).2.2) ((Kd.R_reads' HO741.out).2.1) A39.out).mono ?_); (case side1 => repeat (exact (Kd.R_reads' HO_2.out).2.2)); (case side2 => exact (Kd.R_reads' HO_2.out).2.1); rintro e w' ⟨rfl, ⟨nd, rfl⟩⟩; refine ⟨_, rfl, ?_⟩))
   go_ret
   exact ⟨by rfl, by repeat ((with_reducible first | exact HB.out | apply pw_below_drewN))⟩
def stoalaw12_BlockOnly.f (k : Nat) (a0 : Int) (l1 : List Int) : Option (Bool) := (stoalaw12_alive.f k).bind fun t1098 => (if t1098 = true then ((stoaref01_Copy.f k l1).bind fun t1099 => ((block_Decode.f k a0 t1099).bind fun bt1102 => (if bt1102.2 = 0 then (if (l1.length : Int) < 5 then (some false) else (if 0 < (l1.length : Int) then ((block_Encode.f k a0 (wrap64 (rd l1 0)) bt1102.1).bind fun bt1107 => (if bt1107.2 = 0 then ((stoaref01_Same.f k bt1107.1 l1).bind fun t1111 => (some t1111)) else (some false))) else (none))) else (some ((bt1102.1.length : Int) == 0))))) else (some false))
set_option maxHeartbeats 8000000 in
set_option maxRecDepth 100000 in
theorem stoalaw12_BlockOnly.calls (k : Nat) (a0 : Int) (A1 : Option Addr) (c1 : Nat) (l1 : List Int) (r : Bool) (w : World) (hr1 : Kd.C (Kd.int .u8) w A1 l1.length l1) (hc1 : l1.length ≤ c1) (h : stoalaw12_BlockOnly.f k a0 l1 = some r) :
 Calls Tryz.prog 4 #[.int .i64 a0, .slice A1 l1.length c1] w fun e w' => e = .returned (.bool r) ∧ Below w.heap.size w w' := by
 have HR1 := Aside0.mk hr1
 have HC1 := Aside0.mk hc1
 clear hr1 hc1
 have HB := Aside0.mk (Below.refl w.heap.size w)
 unfold stoalaw12_BlockOnly.f at h
 have H := h
 clear h
 replace H := Option.bind_eq_some_iff.mp H
 obtain ⟨t1098, A30, H⟩ := H
 (try dsimp only at H)
 have A3 := Aside0.mk A30
 clear A30
 by_cases c4 : t1098 = true
 ·subst c4
  have H1 : ((stoaref01_Copy.f k l1).bind fun t1099 => ((block_Decode.f k a0 t1099).bind fun bt1102 => (if bt1102.2 = 0 then (if (l1.length : Int) < 5 then (some false) else (if 0 < (l1.length : Int) then ((block_Encode.f k a0 (wrap64 (rd l1 0)) bt1102.1).bind fun bt1107 => (if bt1107.2 = 0 then ((stoaref01_Same.f k bt1107.1 l1).bind fun t1111 => (some t1111)) else (some false))) else (none))) else (some ((bt1102.1.length : Int) == 0))))) = some r := by rw [if_pos rfl] at H; exact H
  clear H
  have H := H1
  clear H1
  replace H := Option.bind_eq_some_iff.mp H
  obtain ⟨t1099, A50, H⟩ := H
  (try dsimp only at H)
  have A5 := Aside0.mk A50
  clear A50
  replace H := Option.bind_eq_some_iff.mp H
  obtain ⟨⟨t1102, t1105⟩, A60, H⟩ := H
  (try dsimp only at H)
  have A6 := Aside0.mk A60
  clear A60
  by_cases c7 : t1105 = 0
  ·rw [if_pos c7] at H
   have c7b0 : (t1105 == 0) = true := beq_iff_eq.mpr c7
   have c7b1 : (t1105 != 0) = false := bne_eq_false_iff_eq.mpr c7
   clear c7
   by_cases c8 : (l1.length : Int) < 5
   ·rw [if_pos c8] at H
    have c8b0 : decide ((l1.length : Int) < 5) = true := decide_eq_true c8
    have c8b1 : decide (l1.length < 5) = true := decide_eq_true (by omega)
    clear c8
    obtain rfl := Option.some.inj H
    go_enter Tryz.func4, Tryz.ntmps4
    go_wp2_with (first | ((with_reducible refine gate_callee (f := 10) rfl ?_); refine goL_ Tryz.func10 #[] ?_; (with_reducible refine (stoalaw12_alive.calls k  true _ A3.out).mono ?_); rintro e w9 ⟨rfl, hb⟩; refine ⟨_, rfl, ?_⟩; have n0_ := Aside0.mk (below_step HB.out hb); revert n0_; clear HB; intro HB; (try clear hb)) | ((with_reducible refine gate_callee (f := 16) rfl ?_); refine goL_ Tryz.func16 #[.slice A1 l1.length c1] ?_; (with_reducible refine (stoaref01_Copy.calls k _ _ l1 t1099 _ (Kd.C_below HR1.out HB.out) (HC1.out) A5.out).mono ?_); rintro e w10 ⟨v1100, rfl, ho0, hb⟩; refine ⟨_, rfl, ?_⟩; have n0_ := Aside0.mk (Kd.R_lower ho0 (below_size HB.out)); have n1_ := Aside0.mk (below_step HB.out hb); revert n0_ n1_; clear HB; intro HO1101 HB; (try clear hb); (try clear ho0); obtain ⟨Ao11, co11, eo11⟩ := Kd.R_slice HO1101.out; subst eo11) | ((with_reducible refine gate_callee (f := 13) rfl ?_); refine goL_ Tryz.func13 #[.int .i64 a0, .slice Ao11 t1099.length co11] ?_; (with_reducible refine (block_Decode.calls k a0 (fun k_ => some k_ = (.slice Ao11 t1099.length co11 : Value).ownBlock) _ _ t1099 t1102 t1105 _ ?side1 A6.out).mono ?_); (case side1 => exact Kd.R_V (Kd.R_tight rfl (HO1101.out))); rintro e w12 ⟨v1103, rfl, ho0, hb⟩; refine ⟨_, rfl, ?_⟩; have n0_ := Aside0.mk (Kd.R_below HO1101.out hb); have n1_ := Aside0.mk (Kd.N_lower (Kd.N_mono (ok' := fun k_ => True) ho0 (fun k_ hk_ => trivial)) (below_size HB.out)); have n2_ := Aside0.mk (below_step HB.out hb); revert n0_ n1_ n2_; clear HO1101 HB; intro HO1101 HO1104 HB; (try clear hb); (try clear ho0)))
    go_ret
    exact ⟨by rfl, by exact HB.out⟩
   rw [if_neg c8] at H
   have c8b0 : decide ((l1.length : Int) < 5) = false := decide_eq_false c8
   have c8b1 : decide (l1.length < 5) = false := decide_eq_false (by omega)
   clear c8
   by_cases c13 : 0 < (l1.length : Int)
   ·rw [if_pos c13] at H
    have c13b0 : decide (0 < (l1.length : Int)) = true := decide_eq_true c13
    have c13b1 : decide (0 < l1.length) = true := decide_eq_true (by omega)
    clear c13
    replace H := Option.bind_eq_some_iff.mp H
    obtain ⟨⟨t1107, t1108⟩, A140, H⟩ := H
    (try dsimp only at H)
    have A14 := Aside0.mk A140
    clear A140
    by_cases c15 : t1108 = 0
    ·rw [if_pos c15] at H
     have c15b0 : (t1108 == 0) = true := beq_iff_eq.mpr c15
     have c15b1 : (t1108 != 0) = false := bne_eq_false_iff_eq.mpr c15
     clear c15
     replace H := Option.bind_eq_some_iff.mp H
     obtain ⟨t1111, A160, H⟩ := H
     (try dsimp only at H)
     have A16 := Aside0.mk A160
     clear A160
     obtain rfl := Option.some.inj H
     go_enter Tryz.func4, Tryz.ntmps4
     go_wp2_with (first | ((with_reducible refine gate_callee (f := 10) rfl ?_); refine goL_ Tryz.func10 #[] ?_; (with_reducible refine (stoalaw12_alive.calls k  true _ A3.out).mono ?_); rintro e w17 ⟨rfl, hb⟩; refine ⟨_, rfl, ?_⟩; have n0_ := Aside0.mk (below_step HB.out hb); revert n0_; clear HB; intro HB; (try clear hb)) | ((with_reducible refine gate_callee (f := 16) rfl ?_); refine goL_ Tryz.func16 #[.slice A1 l1.length c1] ?_; (with_reducible refine (stoaref01_Copy.calls k _ _ l1 t1099 _ (Kd.C_below HR1.out HB.out) (HC1.out) A5.out).mono ?_); rintro e w18 ⟨v1100, rfl, ho0, hb⟩; refine ⟨_, rfl, ?_⟩; have n0_ := Aside0.mk (Kd.R_lower ho0 (below_size HB.out)); have n1_ := Aside0.mk (below_step HB.out hb); revert n0_ n1_; clear HB; intro HO1101 HB; (try clear hb); (try clear ho0); obtain ⟨Ao19, co19, eo19⟩ := Kd.R_slice HO1101.out; subst eo19) | ((with_reducible refine gate_callee (f := 13) rfl ?_); refine goL_ Tryz.func13 #[.int .i64 a0, .slice Ao19 t1099.length co19] ?_; (with_reducible refine (block_Decode.calls k a0 (fun k_ => some k_ = (.slice Ao19 t1099.length co19 : Value).ownBlock) _ _ t1099 t1102 t1105 _ ?side1 A6.out).mono ?_); (case side1 => exact Kd.R_V (Kd.R_tight rfl (HO1101.out))); rintro e w20 ⟨v1103, rfl, ho0, hb⟩; refine ⟨_, rfl, ?_⟩; have n0_ := Aside0.mk (Kd.R_below HO1101.out hb); have n1_ := Aside0.mk (Kd.N_lower (Kd.N_mono (ok' := fun k_ => True) ho0 (fun k_ hk_ => trivial)) (below_size HB.out)); have n2_ := Aside0.mk (below_step HB.out hb); revert n0_ n1_ n2_; clear HO1101 HB; intro HO1101 HO1104 HB; (try clear hb); (try clear ho0); have p1106 : 0 ≤ (0 : Int) := (by omega); have q1106 : 0 < (l1.length : Int) := of_decide_eq_true ‹_›; obtain ⟨ad1106, e1106, hx1106_0⟩ := Kd.at_int HR1.out 0 p1106 q1106; cases e1106; have qi1106 : (0 < l1.length) = True := eq_true (by omega); (try rw [show ((0 : Int)).toNat = 0 from rfl] at hx1106_0); (try rw [Addr.add_zero'] at hx1106_0); replace hx1106_0 := (HB.out.cell (World.block_lt_of_cell? w _ hx1106_0)).trans hx1106_0; replace p1106 := eq_true p1106; replace q1106 := eq_true q1106; obtain ⟨Ao21, co21, eo21⟩ := Kd.N_slice HO1104.out; subst eo21) | ((with_reducible refine gate_callee (f := 11) rfl ?_); refine goL_ Tryz.func11 #[.int .i64 a0, .int .i64 (wrap64 (rd l1 0)), .slice Ao21 t1102.length co21] ?_; (with_reducible refine (block_Encode.calls k a0 (wrap64 (rd l1 0)) _ _ t1102 t1107 t1108 _ ?side1 ?side2 A14.out).mono ?_); (case side1 => repeat (exact (Kd.N_reads' HO1104.out).2.2)); (case side2 => exact (Kd.N_reads' HO1104.out).2.1); rintro e w22 ⟨v1109, rfl, ho0, hb⟩; refine ⟨_, rfl, ?_⟩; have n0_ := Aside0.mk (Kd.R_elder' HO1101.out (Kd.R_base ho0) hb); have n1_ := Aside0.mk (Kd.N_elder' HO1104.out (Kd.R_base ho0) hb); have n2_ := Aside0.mk (Kd.R_lower (Kd.R_new' ho0 (Kd.R_lt HO1101.out)) (below_size HB.out)); have n3_ := Aside0.mk (below_step HB.out hb); revert n0_ n1_ n2_ n3_; clear HO1101 HO1104 HB; intro HO1101 HO1104 HO1110 HB; (try clear hb); (try clear ho0); obtain ⟨Ao23, co23, eo23⟩ := Kd.R_slice HO1110.out; subst eo23) | (go_at_call 17; (with_reducible refine (stoaref01_Same.calls k _ _ t1107 _ _ l1 t1111 _ ?side1 ?side2 (Kd.C_below HR1.out HB.out) (HC1.out) A16.out).mono ?_); (case side1 => repeat (exact (Kd.R_reads' HO1110.out).2.2)); (case side2 => exact (Kd.R_reads' HO1110.out).2.1); rintro e w' ⟨rfl, ⟨nd, rfl⟩⟩))
     go_ret
     exact ⟨by rfl, by repeat ((with_reducible first | exact HB.out | apply pw_below_drewN))⟩
    rw [if_neg c15] at H
    have c15b0 : (t1108 == 0) = false := beq_eq_false_iff_ne.mpr c15
    have c15b1 : (t1108 != 0) = true := bne_iff_ne.mpr c15
    obtain rfl := Option.some.inj H
    go_enter Tryz.func4, Tryz.ntmps4
    go_wp2_with (first | ((with_reducible refine gate_callee (f := 10) rfl ?_); refine goL_ Tryz.func10 #[] ?_; (with_reducible refine (stoalaw12_alive.calls k  true _ A3.out).mono ?_); rintro e w24 ⟨rfl, hb⟩; refine ⟨_, rfl, ?_⟩; have n0_ := Aside0.mk (below_step HB.out hb); revert n0_; clear HB; intro HB; (try clear hb)) | ((with_reducible refine gate_callee (f := 16) rfl ?_); refine goL_ Tryz.func16 #[.slice A1 l1.length c1] ?_; (with_reducible refine (stoaref01_Copy.calls k _ _ l1 t1099 _ (Kd.C_below HR1.out HB.out) (HC1.out) A5.out).mono ?_); rintro e w25 ⟨v1100, rfl, ho0, hb⟩; refine ⟨_, rfl, ?_⟩; have n0_ := Aside0.mk (Kd.R_lower ho0 (below_size HB.out)); have n1_ := Aside0.mk (below_step HB.out hb); revert n0_ n1_; clear HB; intro HO1101 HB; (try clear hb); (try clear ho0); obtain ⟨Ao26, co26, eo26⟩ := Kd.R_slice HO1101.out; subst eo26) | ((with_reducible refine gate_callee (f := 13) rfl ?_); refine goL_ Tryz.func13 #[.int .i64 a0, .slice Ao26 t1099.length co26] ?_; (with_reducible refine (block_Decode.calls k a0 (fun k_ => some k_ = (.slice Ao26 t1099.length co26 : Value).ownBlock) _ _ t1099 t1102 t1105 _ ?side1 A6.out).mono ?_); (case side1 => exact Kd.R_V (Kd.R_tight rfl (HO1101.out))); rintro e w27 ⟨v1103, rfl, ho0, hb⟩; refine ⟨_, rfl, ?_⟩; have n0_ := Aside0.mk (Kd.R_below HO1101.out hb); have n1_ := Aside0.mk (Kd.N_lower (Kd.N_mono (ok' := fun k_ => True) ho0 (fun k_ hk_ => trivial)) (below_size HB.out)); have n2_ := Aside0.mk (below_step HB.out hb); revert n0_ n1_ n2_; clear HO1101 HB; intro HO1101 HO1104 HB; (try clear hb); (try clear ho0); have p1106 : 0 ≤ (0 : Int) := (by omega); have q1106 : 0 < (l1.length : Int) := of_decide_eq_true ‹_›; obtain ⟨ad1106, e1106, hx1106_0⟩ := Kd.at_int HR1.out 0 p1106 q1106; cases e1106; have qi1106 : (0 < l1.length) = True := eq_true (by omega); (try rw [show ((0 : Int)).toNat = 0 from rfl] at hx1106_0); (try rw [Addr.add_zero'] at hx1106_0); replace hx1106_0 := (HB.out.cell (World.block_lt_of_cell? w _ hx1106_0)).trans hx1106_0; replace p1106 := eq_true p1106; replace q1106 := eq_true q1106; obtain ⟨Ao28, co28, eo28⟩ := Kd.N_slice HO1104.out; subst eo28) | ((with_reducible refine gate_callee (f := 11) rfl ?_); refine goL_ Tryz.func11 #[.int .i64 a0, .int .i64 (wrap64 (rd l1 0)), .slice Ao28 t1102.length co28] ?_; (with_reducible refine (block_Encode.calls k a0 (wrap64 (rd l1 0)) _ _ t1102 t1107 t1108 _ ?side1 ?side2 A14.out).mono ?_); (case side1 => repeat (exact (Kd.N_reads' HO1104.out).2.2)); (case side2 => exact (Kd.N_reads' HO1104.out).2.1); rintro e w29 ⟨v1109, rfl, ho0, hb⟩; refine ⟨_, rfl, ?_⟩; have n0_ := Aside0.mk (Kd.R_elder' HO1101.out (Kd.R_base ho0) hb); have n1_ := Aside0.mk (Kd.N_elder' HO1104.out (Kd.R_base ho0) hb); have n2_ := Aside0.mk (Kd.R_lower (Kd.R_new' ho0 (Kd.R_lt HO1101.out)) (below_size HB.out)); have n3_ := Aside0.mk (below_step HB.out hb); revert n0_ n1_ n2_ n3_; clear HO1101 HO1104 HB; intro HO1101 HO1104 HO1110 HB; (try clear hb); (try clear ho0)))
    go_ret
    exact ⟨by rfl, by exact HB.out⟩
   rw [if_neg c13] at H
   exact absurd H (by simp)
  rw [if_neg c7] at H
  have c7b0 : (t1105 == 0) = false := beq_eq_false_iff_ne.mpr c7
  have c7b1 : (t1105 != 0) = true := bne_iff_ne.mpr c7
  obtain rfl := Option.some.inj H
  go_enter Tryz.func4, Tryz.ntmps4
  go_wp2_with (first | ((with_reducible refine gate_callee (f := 10) rfl ?_); refine goL_ Tryz.func10 #[] ?_; (with_reducible refine (stoalaw12_alive.calls k  true _ A3.out).mono ?_); rintro e w30 ⟨rfl, hb⟩; refine ⟨_, rfl, ?_⟩; have n0_ := Aside0.mk (below_step HB.out hb); revert n0_; clear HB; intro HB; (try clear hb)) | ((with_reducible refine gate_callee (f := 16) rfl ?_); refine goL_ Tryz.func16 #[.slice A1 l1.length c1] ?_; (with_reducible refine (stoaref01_Copy.calls k _ _ l1 t1099 _ (Kd.C_below HR1.out HB.out) (HC1.out) A5.out).mono ?_); rintro e w31 ⟨v1100, rfl, ho0, hb⟩; refine ⟨_, rfl, ?_⟩; have n0_ := Aside0.mk (Kd.R_lower ho0 (below_size HB.out)); have n1_ := Aside0.mk (below_step HB.out hb); revert n0_ n1_; clear HB; intro HO1101 HB; (try clear hb); (try clear ho0); obtain ⟨Ao32, co32, eo32⟩ := Kd.R_slice HO1101.out; subst eo32) | ((with_reducible refine gate_callee (f := 13) rfl ?_); refine goL_ Tryz.func13 #[.int .i64 a0, .slice Ao32 t1099.length co32] ?_; (with_reducible refine (block_Decode.calls k a0 (fun k_ => some k_ = (.slice Ao32 t1099.length co32 : Value).ownBlock) _ _ t1099 t1102 t1105 _ ?side1 A6.out).mono ?_); (case side1 => exact Kd.R_V (Kd.R_tight rfl (HO1101.out))); rintro e w33 ⟨v1103, rfl, ho0, hb⟩; refine ⟨_, rfl, ?_⟩; have n0_ := Aside0.mk (Kd.R_below HO1101.out hb); have n1_ := Aside0.mk (Kd.N_lower (Kd.N_mono (ok' := fun k_ => True) ho0 (fun k_ hk_ => trivial)) (below_size HB.out)); have n2_ := Aside0.mk (below_step HB.out hb); revert n0_ n1_ n2_; clear HO1101 HB; intro HO1101 HO1104 HB; (try clear hb); (try clear ho0); obtain ⟨Ao34, co34, eo34⟩ := Kd.N_slice HO1104.out; subst eo34))
  go_ret
  exact ⟨by rfl, by exact HB.out⟩
 replace c4 := Bool.eq_false_iff.mpr c4
 subst c4
 have H1 : (some false) = some r := by rw [if_neg (show ¬ (false = true) by decide)] at H; exact H
 clear H
 have H := H1
 clear H1
 obtain rfl := Option.some.inj H
 go_enter Tryz.func4, Tryz.ntmps4
 go_wp2_with ((refine goL_ Tryz.func10 #[] ?_; (with_reducible refine (stoalaw12_alive.calls k  false _ A3.out).mono ?_); rintro e w35 ⟨rfl, hb⟩; refine ⟨_, rfl, ?_⟩; have n0_ := Aside0.mk (below_step HB.out hb); revert n0_; clear HB; intro HB; (try clear hb)))
 go_ret
 exact ⟨by rfl, by exact HB.out⟩
def stoalaw12_BlockOnly.Pure : Prop := ∀ (a0 : Int) (l1 : List Int), (Lit.int .i64 a0).wf = true → l1.length ≤ maxLen → l1.length * 1 ≤ 140737488351232 → (∀ x ∈ l1, (Lit.int .u8 x).wf = true) → ∃ k, stoalaw12_BlockOnly.f k a0 l1 = some true
theorem stoalaw12_BlockOnly.walk (P : stoalaw12_BlockOnly.Pure) (a0 : Int) (a1 : Option Addr) (len1 cap1 : Nat) (z1 : List Int) (w : World) (w0 : (Lit.int .i64 a0).wf = true) (w1 : (a1 = none ∧ len1 = 0 ∧ cap1 = 0 ∧ z1 = []) ∨ ∃ x, a1 = some x ∧ len1 ≤ cap1 ∧ cap1 ≤ maxLen ∧ z1.length = cap1 ∧ (∀ i, i < z1.length → w.cell? (x.add i) = some (.int .u8 (z1.getD i 0))) ∧ ∀ n ∈ z1, (Lit.int .u8 n).wf = true) (y1 : len1 * 1 ≤ 140737488351232) :
 Calls Tryz.prog 4 #[.int .i64 a0, .slice a1 len1 cap1] w fun e w' => e = .returned (.bool true) ∧ Below w.heap.size w w' := by
 obtain ⟨l1, rfl, hr1, hm1, hw1, hc1⟩ := ReadsInt.ofRowC w1
 obtain ⟨k, h⟩ := P a0 l1 w0 hm1 y1 hw1
 refine (stoalaw12_BlockOnly.calls k a0 _ _ l1 true w (Kd.C_of_reads (d := (0 : Int)) (h1 := fun _ => rfl) hr1) hc1 h).mono ?_
 rintro e w' ⟨rfl, hd⟩
 exact ⟨rfl, hd⟩
end Go.Proofs.YtjbhaepkldgfnaaGreat.S
