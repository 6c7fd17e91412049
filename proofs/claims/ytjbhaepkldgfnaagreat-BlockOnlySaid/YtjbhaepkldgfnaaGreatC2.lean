/- A part of the proof of BlockOnly (the last text says what is proved, and of what): contracts of Go functions, made by a program of this work over the kit's print, the print's words that they use, and plain laws. No condition. -/
import Derived.Test.YtjbhaepkldgfnaaGreatProg
import Derived.Below
import Derived.Deep.Draws
import Derived.Deep.AppendLies
import Derived.Maps.AppendAt
import Derived.OwnWalk
import Derived.Laws.BytesArg
import Derived.Laws.MakeOwn
import Derived.Laws.OwnMore
import Derived.Deep.OwnRows
import Derived.Tactics
import Derived.Lib.ConvBytes
import Derived.Laws.Slices
import Derived.WalkKit
import Derived.KernelRfl
import Derived.RowKit3
import Derived.Deep.LoopGhost
import Derived.Deep.QuietTactic
import Derived.BigQuiet
import Derived.WideLaws
import Derived.Deep.DeepCutAuto
import Derived.Deep.CutBlock
import Derived.Deep.RegionHeld3
import Derived.Laws.Rows
import Derived.Lib.AppendStr
import Derived.ArgAppend
import Derived.Laws.IdiomCopy
import Derived.OrdersHeld
import Derived.Laws.BitsLemmas
import Derived.RowKit
import Derived.Test.YtjbhaepkldgfnaaGreatC1
import Derived.Laws.StructEq
namespace Go.Proofs.YtjbhaepkldgfnaaGreat.S
open Go.RowKit Go.Proofs.YtjbhaepkldgfnaaGreatW.PrintWords Go.Proofs.YtjbhaepkldgfnaaGreatW.PrintLast Go.Proofs.YtjbhaepkldgfnaaGreatW.PrintMore
attribute [local go_sem] max2_int min2_int max_two min_two max_three min_three max_four min_four
set_option linter.unusedVariables false
set_option linter.unusedSimpArgs false
theorem info2 : (Tryz.prog.info? 2).map (fun i => (i.zero, i.size, i.bytes)) = some (some (.int .i64 0), 1, 8) := by kernel_rfl
theorem info3 : (Tryz.prog.info? 3).map (fun i => (i.zero, i.size, i.bytes)) = some (some (.int .i64 0), 1, 8) := by kernel_rfl
theorem info4 : (Tryz.prog.info? 4).map (fun i => (i.zero, i.size, i.bytes)) = some (some (.bool false), 1, 1) := by kernel_rfl
theorem info5 : (Tryz.prog.info? 5).map (fun i => (i.zero, i.size, i.bytes)) = some (some (.int .u8 0), 1, 1) := by kernel_rfl
theorem info24 : (Tryz.prog.info? 24).map (fun i => (i.zero, i.size, i.bytes)) = some (some (.slice none 0 0), 1, 24) := by kernel_rfl
theorem info62 : (Tryz.prog.info? 62).map (fun i => (i.zero, i.size, i.bytes)) = some (some (.agg #[(.bool false), (.int .i64 0), (.slice none 0 0)]), 3, 40) := by kernel_rfl
theorem info69 : (Tryz.prog.info? 69).map (fun i => (i.zero, i.size, i.bytes)) = some (some (.int .u64 0), 1, 8) := by kernel_rfl
theorem info165 : (Tryz.prog.info? 165).map (fun i => (i.zero, i.size, i.bytes)) = some (some (.agg #[(.int .i64 0), (.int .i64 0)]), 2, 16) := by kernel_rfl
def rd_L1 (xs : List (List Int)) (i : Int) : (List Int) := xs.getD i.toNat ([] : List Int)
theorem at_L1 {w : World} {A : Option Addr} {n : Nat} {xs : List (List Int)} (h : Kd.C (Kd.slice 5 (Kd.int .u8)) w A n xs) (i : Int) (h0 : 0 ≤ i) (h1 : i < n) : ∃ ad A0 c0, A = some ad ∧ w.cell? (ad.add i.toNat) = some (.slice A0 (rd_L1 xs i).length c0) ∧ (rd_L1 xs i).length ≤ c0 ∧ (Kd.int .u8).C w A0 (rd_L1 xs i).length (rd_L1 xs i) := by
 obtain ⟨ad, c, e, _, hK, hc0⟩ := Kd.C_get h ([] : List Int) i h0 h1
 have hc : ∀ j u, c[j]? = some u → w.cell? (ad.add (i.toNat * 1 + j)) = some u := hc0
 obtain ⟨A0, c0, rfl, l0, g0⟩ := hK
 exact ⟨ad, A0, c0, e, by have hq := hc 0 _ rfl; rwa [Nat.mul_one, Nat.add_zero] at hq, l0, g0⟩
structure S62 where
 f0 : Bool
 f1 : Int
 f2 : (List Int)
def z62 : S62 := ⟨false, (0 : Int), ([] : List Int)⟩
def k62 : Kd S62 := Kd.iso (Kd.pair Kd.bool (Kd.pair (Kd.int .i64) (Kd.slice 5 (Kd.int .u8)))) (fun x : S62 => (x.f0, x.f1, x.f2))
theorem k62_heap : Kd.Heap k62 := Kd.heap_iso _ (Kd.heap_pair Kd.heap_bool (Kd.heap_pair (Kd.heap_int .i64) (Kd.heap_slice 5 (Kd.heap_int .u8))))
theorem k62_open {w : World} {x : S62} {cs : List Value} (h : k62.K w x cs) : ∃ A2 c2, cs = [.bool x.f0, .int .i64 x.f1, .slice A2 x.f2.length c2] ∧ x.f2.length ≤ c2 ∧ (Kd.int .u8).C w A2 x.f2.length x.f2 := by
 obtain ⟨_, _, rfl, rfl, ⟨_, _, rfl, rfl, ⟨A2, c2, rfl, l2, g2⟩⟩⟩ := h
 exact ⟨A2, c2, rfl, l2, g2⟩
theorem k62_mk (w : World) (x : S62) {A2 : Option Addr} {c2 : Nat} (l2 : x.f2.length ≤ c2) (g2 : (Kd.int .u8).C w A2 x.f2.length x.f2) : k62.K w x [.bool x.f0, .int .i64 x.f1, .slice A2 x.f2.length c2] := ⟨[.bool x.f0], [.int .i64 x.f1, .slice A2 x.f2.length c2], rfl, rfl, ⟨[.int .i64 x.f1], [.slice A2 x.f2.length c2], rfl, rfl, ⟨A2, c2, rfl, l2, g2⟩⟩⟩
theorem k62_mkM (w : World) (base : Nat) (ok : Nat → Prop) (x : S62) {v2 : Value} (g2 : (Kd.int .u8).R 5 w base ok v2 x.f2) : k62.M w base ok x [.bool x.f0, .int .i64 x.f1, v2] := ⟨[.bool x.f0], [.int .i64 x.f1, v2], rfl, rfl, ⟨[.int .i64 x.f1], [v2], rfl, rfl, ⟨v2, rfl, g2⟩⟩⟩
theorem k62_openF {W : World} {ok : Nat → Prop} {x : S62} {cs : List Value} (h : Kd.FK k62 W ok x cs) : ∃ A2 c2, cs = [.bool x.f0, .int .i64 x.f1, .slice A2 x.f2.length c2] ∧ x.f2.length ≤ c2 ∧ Kd.F (Kd.int .u8) W ok A2 x.f2.length x.f2 := by
 obtain ⟨A2, c2, rfl, l2, _⟩ := k62_open (Kd.FK_now h)
 exact ⟨A2, c2, rfl, l2, (fun W' hW => by obtain ⟨A2_, c2_, he, l2_, g2_⟩ := k62_open (h W' hW); injection (Option.some.inj (show some (Value.slice A2 x.f2.length c2) = some (Value.slice A2_ x.f2.length c2_) from congrArg (fun l => l[2]?) he)) with ha_ _ _; rw [ha_]; exact g2_)⟩
theorem k62_mkF (W : World) (ok : Nat → Prop) (x : S62) {A2 : Option Addr} {c2 : Nat} (l2 : x.f2.length ≤ c2) (g2 : Kd.F (Kd.int .u8) W ok A2 x.f2.length x.f2) : Kd.FK k62 W ok x [.bool x.f0, .int .i64 x.f1, .slice A2 x.f2.length c2] := fun W2 hW => k62_mk W2 x l2 (g2 W2 hW)
def rd_T62 (xs : List S62) (i : Int) : S62 := xs.getD i.toNat z62
theorem at_T62 {w : World} {A : Option Addr} {n : Nat} {xs : List S62} (h : Kd.C k62 w A n xs) (i : Int) (h0 : 0 ≤ i) (h1 : i < n) : ∃ ad A2 c2, A = some ad ∧ w.cell? (ad.add (i.toNat * 3)) = some (.bool (rd_T62 xs i).f0) ∧ w.cell? ⟨(ad.add (i.toNat * 3)).block, (ad.add (i.toNat * 3)).off + 1, none⟩ = some (.int .i64 (rd_T62 xs i).f1) ∧ w.cell? ⟨(ad.add (i.toNat * 3)).block, (ad.add (i.toNat * 3)).off + 2, none⟩ = some (.slice A2 (rd_T62 xs i).f2.length c2) ∧ (rd_T62 xs i).f2.length ≤ c2 ∧ (Kd.int .u8).C w A2 (rd_T62 xs i).f2.length (rd_T62 xs i).f2 := by
 obtain ⟨ad, c, e, _, hK, hc0⟩ := Kd.C_get h z62 i h0 h1
 have hc : ∀ j u, c[j]? = some u → w.cell? (ad.add (i.toNat * 3 + j)) = some u := hc0
 obtain ⟨A2, c2, rfl, l2, g2⟩ := k62_open hK
 exact ⟨ad, A2, c2, e, hc 0 _ rfl, by rw [← add_field _ _ 1 (by omega)]; exact hc 1 _ rfl, by rw [← add_field _ _ 2 (by omega)]; exact hc 2 _ rfl, l2, g2⟩
structure S165 where
 f0 : Int
 f1 : Int
def z165 : S165 := ⟨(0 : Int), (0 : Int)⟩
def k165 : Kd S165 := Kd.iso (Kd.pair (Kd.int .i64) (Kd.int .i64)) (fun x : S165 => (x.f0, x.f1))
theorem k165_open {w : World} {x : S165} {cs : List Value} (h : k165.K w x cs) : cs = [.int .i64 x.f0, .int .i64 x.f1] := by
 obtain ⟨_, _, rfl, rfl, rfl⟩ := h
 exact rfl
theorem k165_openM {w : World} {base : Nat} {ok : Nat → Prop} {x : S165} {cs : List Value} (h : k165.M w base ok x cs) : cs = [.int .i64 x.f0, .int .i64 x.f1] := by
 obtain ⟨_, _, rfl, rfl, rfl⟩ := h
 exact rfl
theorem k165_mkM (w : World) (base : Nat) (ok : Nat → Prop) (x : S165)  : k165.M w base ok x [.int .i64 x.f0, .int .i64 x.f1] := ⟨[.int .i64 x.f0], [.int .i64 x.f1], rfl, rfl, rfl⟩
def rd_T165 (xs : List S165) (i : Int) : S165 := xs.getD i.toNat z165
theorem at_T165 {w : World} {A : Option Addr} {n : Nat} {xs : List S165} (h : Kd.C k165 w A n xs) (i : Int) (h0 : 0 ≤ i) (h1 : i < n) : ∃ ad , A = some ad ∧ w.cell? (ad.add (i.toNat * 2)) = some (.int .i64 (rd_T165 xs i).f0) ∧ w.cell? ⟨(ad.add (i.toNat * 2)).block, (ad.add (i.toNat * 2)).off + 1, none⟩ = some (.int .i64 (rd_T165 xs i).f1) := by
 obtain ⟨ad, c, e, _, hK, hc0⟩ := Kd.C_get h z165 i h0 h1
 have hc : ∀ j u, c[j]? = some u → w.cell? (ad.add (i.toNat * 2 + j)) = some u := hc0
 obtain rfl := k165_open hK
 exact ⟨ad, e, hc 0 _ rfl, by rw [← add_field _ _ 1 (by omega)]; exact hc 1 _ rfl⟩
end Go.Proofs.YtjbhaepkldgfnaaGreat.S
namespace Go.Proofs.YtjbhaepkldgfnaaGreatW.PrintLast
open Go.Proofs.YtjbhaepkldgfnaaGreatW.PrintWords (Aside0)
section
variable {P : Program} {ops : Array Oper} {Q : Exit → Act → World → Prop} {md : Region.Mode} {S : World → Prop} {ds : List Nat} {T : Bool × List (List Nat × List Nat)} {B : List Nat}
theorem pu_ (i : Nat) (N : Tmp) (HT : Aside0 (rtab md ops = T)) {oi : Oper} {v : Value} {fuel : Nat} {l : Array Bool} {a a' : Act} {w : World} (h : wpAnyLast P md ops Q S ds fuel (l.setIfInBounds i true) a' w)
 (hi : ops[i]? = some oi := by rfl) (hN : oi.dst = some N := by rfl) (hc : anyT T l.toList (l.setIfInBounds i true).toList i = true := by kernel_rfl) (hQ : ∀ c a w, Q (.panic c) (a.put oi.dst v) w → Q (.panic c) a w := by exact fun _ _ _ h => h)
 (hw : Region.wanted oi (yielded ops a.tmps) = true := by rfl) (hy : ∀ w, (execOp a.eval oi).run P w = .ok (.value v) w := by (intro w'; go_simp; with_reducible rfl))
 (ha : a.put (some N) v = a' := by (simp only [Act.put, List.setIfInBounds_toArray, List.set_cons_zero, List.set_cons_succ, i64_w, i32_w]; rfl)) : wpAnyLast P md ops Q S ds (fuel + 1) l a w :=
 pure_ _ hi hN (any_of HT.out hc) hQ (Or.inl ⟨hw, hy⟩) ha h
theorem on_ (i : Nat) (N : Tmp) (HT : Aside0 (rtab md ops = T)) {oi : Oper} {fuel : Nat} {l : Array Bool} {a : Act} {w : World}
 (h : ∀ K : Act → World → Prop, Shut (∀ a' w', S w' → (S w' → wpAnyLast P md ops Q S ds fuel (l.setIfInBounds i true) a' w') → K a' w') → if Region.wanted oi (yielded ops a.tmps) = true then Oper.wp P oi a w K Q else K (a.put (some N) undef) w)
 (hi : ops[i]? = some oi := by rfl) (hN : oi.dst = some N := by rfl) (hc : (readyT T.2 l.toList == [i] && l.toList.set i true == (l.setIfInBounds i true).toList) = true := by kernel_rfl) (hd : i ∉ ds := by decide) :
 wpAnyLast P md ops Q S ds (fuel + 1) l a w := one_ _ hi hN (one_of HT.out hc) hd h
theorem nor_ {fuel : Nat} {l : Array Bool} {a a' : Act} {w : World} (h : wpAnyLast P md ops Q S ds fuel l a' w) (ha : a = a' := by (show Act.put _ _ _ = _; simp only [Act.put, List.setIfInBounds_toArray, List.set_cons_zero, List.set_cons_succ, i64_w, i32_w]; rfl)) : wpAnyLast P md ops Q S ds fuel l a w := norm_ ha h
theorem goe_ {f : FuncId} {fn : Func} (hf : P.funcs[f]? = some fn) (args : Array Value) {oi : Oper} {N : Option Tmp} {a : Act} {w : World} {K : Act → World → Prop} {xs_ : Array Operand} {ts : Array TypeId}
 (h : Calls P f args w fun e w' => ∃ v, e = .returned v ∧ K (a.put N v) w') (hname : (fn.name == "runtime.NumGoroutine") = false := by kernel_rfl) (hb : fn.body.isSome = true := by rfl)
 (hw : Region.wanted oi (yielded ops a.tmps) = true := by rfl) (hN : oi.dst = N := by rfl) (hop : oi.op = .call { callee := .value (.func f), args := xs_, argTypes := ts } := by rfl)
 (hargs : xs_.map a.eval = args := by (try simp only [List.map_toArray, List.map_cons, List.map_nil]); first | done | rfl | (simp only [List.length_drop, List.length_take]; rfl)) :
 if Region.wanted oi (yielded ops a.tmps) = true then Oper.wp P oi a w K Q else K (a.put N undef) w := goes_ hf hname hb args hw hN hop hargs h
theorem goL_ {f : FuncId} {fn : Func} (hf : P.funcs[f]? = some fn) (args : Array Value) {rest : List Oper} {oi : Oper} {a : Act} {w : World} {N : Option Tmp} {xs_ : Array Operand} {ts : Array TypeId}
 (h : Calls P f args w fun e w' => ∃ v, e = .returned v ∧ wpList P ops Q rest (a.put N v) w') (hd : oi.dst = N := by rfl) (hg : oi.guard = none := by rfl) (hname : (fn.name == "runtime.NumGoroutine") = false := by kernel_rfl) (hb : fn.body.isSome = true := by rfl)
 (hop : oi.op = .call { callee := .value (.func f), args := xs_, argTypes := ts } := by rfl)
 (hargs : xs_.map a.eval = args := by (try simp only [List.map_toArray, List.map_cons, List.map_nil]); first | done | rfl | (simp only [List.length_drop, List.length_take]; rfl)) : wpList P ops Q (oi :: rest) a w := goesL_ N hd hg hf hname hb args hop hargs h
end
end Go.Proofs.YtjbhaepkldgfnaaGreatW.PrintLast
namespace Go.Proofs.YtjbhaepkldgfnaaGreat.S
open Go.RowKit Go.Proofs.YtjbhaepkldgfnaaGreatW.PrintWords Go.Proofs.YtjbhaepkldgfnaaGreatW.PrintLast Go.Proofs.YtjbhaepkldgfnaaGreatW.PrintMore
attribute [local go_sem] max2_int min2_int max_two min_two max_three min_three max_four min_four
set_option linter.unusedVariables false
set_option linter.unusedSimpArgs false
def block_badKind.f (a0 : Int) : Option (Bool) := if a0 < 1 then (some true) else (some (decide (a0 > 8)))
set_option maxHeartbeats 8000000 in
set_option maxRecDepth 100000 in
theorem block_badKind.calls (a0 : Int) (r : Bool) (w : World) (h : block_badKind.f a0 = some r) :
 Calls Tryz.prog 37 #[.int .i64 a0] w fun e w' => e = .returned (.bool r) ∧ Drawn0 w w' := by
 unfold block_badKind.f at h
 have H := h
 clear h
 by_cases c2 : a0 < 1
 ·rw [if_pos c2] at H
  have c2b0 : decide (a0 < 1) = true := decide_eq_true c2
  clear c2
  obtain rfl := Option.some.inj H
  go_enter Tryz.func37, Tryz.ntmps37
  go_wp2
  go_ret
  exact ⟨by rfl, by repeat (exact Drawn0.refl _)⟩
 rw [if_neg c2] at H
 have c2b0 : decide (a0 < 1) = false := decide_eq_false c2
 clear c2
 obtain rfl := Option.some.inj H
 go_enter Tryz.func37, Tryz.ntmps37
 go_wp2
 go_ret
 exact ⟨by rfl, by repeat (exact Drawn0.refl _)⟩
def cell_Number.f (a0 : Int) : Option (Bool) := if a0 ≥ 1 then (some (decide (a0 ≤ 6))) else (some false)
set_option maxHeartbeats 8000000 in
set_option maxRecDepth 100000 in
theorem cell_Number.calls (a0 : Int) (r : Bool) (w : World) (h : cell_Number.f a0 = some r) :
 Calls Tryz.prog 69 #[.int .i64 a0] w fun e w' => e = .returned (.bool r) ∧ Drawn0 w w' := by
 unfold cell_Number.f at h
 have H := h
 clear h
 by_cases c2 : a0 ≥ 1
 ·rw [if_pos c2] at H
  have c2b0 : decide (1 ≤ a0) = true := decide_eq_true c2
  clear c2
  obtain rfl := Option.some.inj H
  go_enter Tryz.func69, Tryz.ntmps69
  go_wp2
  go_ret
  exact ⟨by rfl, by repeat (exact Drawn0.refl _)⟩
 rw [if_neg c2] at H
 have c2b0 : decide (1 ≤ a0) = false := decide_eq_false c2
 clear c2
 obtain rfl := Option.some.inj H
 go_enter Tryz.func69, Tryz.ntmps69
 go_wp2
 go_ret
 exact ⟨by rfl, by repeat (exact Drawn0.refl _)⟩
def block_fits.j0 : Nat → Int → Int → Bool → Option (Bool)
 | 0, _, _, _ => none
 | k + 1, x0, x5, x8 => if x8 = true then ((cell_Number.f x0).bind fun t101 => (some t101)) else (if x5 = 4 then ((cell_Number.f x0).bind fun t102 => (some (!t102))) else (if x5 = 5 then ((cell_Number.f x0).bind fun t103 => (some (!t103))) else (some false)))
def block_fits.f (k : Nat) (a0 : Int) (a1 : Int) : Option (Bool) := if a1 = 1 then (some true) else (if a1 = 2 then (block_fits.j0 k a0 a1 (a1 == 2)) else (block_fits.j0 k a0 a1 (a1 == 3)))
set_option maxHeartbeats 8000000 in
set_option maxRecDepth 100000 in
theorem block_fits.calls (k : Nat) (a0 : Int) (a1 : Int) (r : Bool) (w : World) (h : block_fits.f k a0 a1 = some r) :
 Calls Tryz.prog 38 #[.int .i64 a0, .int .i64 a1] w fun e w' => e = .returned (.bool r) ∧ Drawn0 w w' := by
 unfold block_fits.f at h
 have H := h
 clear h
 by_cases c3 : a1 = 1
 ·rw [if_pos c3] at H
  have c3b0 : (a1 == 1) = true := beq_iff_eq.mpr c3
  have c3b1 : (a1 != 1) = false := bne_eq_false_iff_eq.mpr c3
  clear c3
  obtain rfl := Option.some.inj H
  go_enter Tryz.func38, Tryz.ntmps38
  go_wp2
  go_ret
  exact ⟨by rfl, by repeat (exact Drawn0.refl _)⟩
 rw [if_neg c3] at H
 have c3b0 : (a1 == 1) = false := beq_eq_false_iff_ne.mpr c3
 have c3b1 : (a1 != 1) = true := bne_iff_ne.mpr c3
 have HC4 := Aside0.mk H
 clear H
 go_enter Tryz.func38, Tryz.ntmps38
 go_upto_if 8 with (fail)
 go_cut [8] (fun v8 wc => ∃ (kq : Nat) (x8_3 : Bool), v8 = .bool x8_3 ∧ Aside0 (block_fits.j0 kq a0 a1 x8_3 = some r) ∧ Aside0 (kq ≤ k) ∧ Drawn0 w wc)
 case first =>
  have H := HC4.out
  clear HC4
  by_cases c5 : a1 = 2
  ·rw [if_pos c5] at H
   have c5b0 : (a1 == 2) = true := beq_iff_eq.mpr c5
   have c5b1 : (a1 != 2) = false := bne_eq_false_iff_eq.mpr c5
   clear c5
   (rw [c5b0])
   have H' := Aside0.mk H
   clear H
   go_wp2
   go_meet
   case rel => exact ⟨_, ((a1 == 2)), (by (simp [*]; done)), H', ⟨by omega⟩, by repeat (exact Drawn0.refl _)⟩
  rw [if_neg c5] at H
  have c5b0 : (a1 == 2) = false := beq_eq_false_iff_ne.mpr c5
  have c5b1 : (a1 != 2) = true := bne_iff_ne.mpr c5
  (rw [c5b0])
  have H' := Aside0.mk H
  clear H
  go_wp2
  go_meet
  case rel => exact ⟨_, ((a1 == 3)), (by rfl), H', ⟨by omega⟩, by repeat (exact Drawn0.refl _)⟩
 case rest =>
  clear HC4
  try clear c3
  try clear c3b0
  try clear c3b1
  obtain ⟨kq, x8_3, rfl, HA, HJ3, ⟨mc3, rfl⟩⟩ := hcut
  cases kq with
  | zero => exact absurd HA.out (by simp [block_fits.j0])
  | succ kj3 =>
   have H := HA.out
   clear HA
   simp only [block_fits.j0] at H
   by_cases c6 : x8_3 = true
   ·subst c6
    have H1 : ((cell_Number.f a0).bind fun t101 => (some t101)) = some r := by rw [if_pos rfl] at H; exact H
    clear H
    have H := H1
    clear H1
    replace H := Option.bind_eq_some_iff.mp H
    obtain ⟨t101, A70, H⟩ := H
    (try dsimp only at H)
    have A7 := Aside0.mk A70
    clear A70
    obtain rfl := Option.some.inj H
    go_wp2_with ((refine goL_ Tryz.func69 #[.int .i64 a0] ?_; (with_reducible refine (cell_Number.calls a0 t101 _ A7.out).mono ?_); rintro e w' ⟨rfl, ⟨nd, rfl⟩⟩; refine ⟨_, rfl, ?_⟩))
    go_ret
    exact ⟨by rfl, by repeat (first | exact Drawn0.refl _ | apply Drawn0.step)⟩
   replace c6 := Bool.eq_false_iff.mpr c6
   subst c6
   have H1 : (if a1 = 4 then ((cell_Number.f a0).bind fun t102 => (some (!t102))) else (if a1 = 5 then ((cell_Number.f a0).bind fun t103 => (some (!t103))) else (some false))) = some r := by rw [if_neg (show ¬ (false = true) by decide)] at H; exact H
   clear H
   have H := H1
   clear H1
   by_cases c8 : a1 = 4
   ·rw [if_pos c8] at H
    have c8b0 : (a1 == 4) = true := beq_iff_eq.mpr c8
    have c8b1 : (a1 != 4) = false := bne_eq_false_iff_eq.mpr c8
    clear c8
    replace H := Option.bind_eq_some_iff.mp H
    obtain ⟨t102, A90, H⟩ := H
    (try dsimp only at H)
    have A9 := Aside0.mk A90
    clear A90
    obtain rfl := Option.some.inj H
    go_wp2_with ((refine goL_ Tryz.func69 #[.int .i64 a0] ?_; (with_reducible refine (cell_Number.calls a0 t102 _ A9.out).mono ?_); rintro e w' ⟨rfl, ⟨nd, rfl⟩⟩; refine ⟨_, rfl, ?_⟩))
    go_ret
    exact ⟨by rfl, by repeat (first | exact Drawn0.refl _ | apply Drawn0.step)⟩
   rw [if_neg c8] at H
   have c8b0 : (a1 == 4) = false := beq_eq_false_iff_ne.mpr c8
   have c8b1 : (a1 != 4) = true := bne_iff_ne.mpr c8
   by_cases c10 : a1 = 5
   ·rw [if_pos c10] at H
    have c10b0 : (a1 == 5) = true := beq_iff_eq.mpr c10
    have c10b1 : (a1 != 5) = false := bne_eq_false_iff_eq.mpr c10
    clear c10
    replace H := Option.bind_eq_some_iff.mp H
    obtain ⟨t103, A110, H⟩ := H
    (try dsimp only at H)
    have A11 := Aside0.mk A110
    clear A110
    obtain rfl := Option.some.inj H
    go_wp2_with ((refine goL_ Tryz.func69 #[.int .i64 a0] ?_; (with_reducible refine (cell_Number.calls a0 t103 _ A11.out).mono ?_); rintro e w' ⟨rfl, ⟨nd, rfl⟩⟩; refine ⟨_, rfl, ?_⟩))
    go_ret
    exact ⟨by rfl, by repeat (first | exact Drawn0.refl _ | apply Drawn0.step)⟩
   rw [if_neg c10] at H
   have c10b0 : (a1 == 5) = false := beq_eq_false_iff_ne.mpr c10
   have c10b1 : (a1 != 5) = true := bne_iff_ne.mpr c10
   obtain rfl := Option.some.inj H
   go_wp2
   go_ret
   exact ⟨by rfl, by repeat (first | exact Drawn0.refl _ | apply Drawn0.step)⟩
def cell_known.f (a0 : Int) : Option (Bool) := if a0 ≥ 1 then (some (decide (a0 ≤ 8))) else (some false)
set_option maxHeartbeats 8000000 in
set_option maxRecDepth 100000 in
theorem cell_known.calls (a0 : Int) (r : Bool) (w : World) (h : cell_known.f a0 = some r) :
 Calls Tryz.prog 99 #[.int .i64 a0] w fun e w' => e = .returned (.bool r) ∧ Drawn0 w w' := by
 unfold cell_known.f at h
 have H := h
 clear h
 by_cases c2 : a0 ≥ 1
 ·rw [if_pos c2] at H
  have c2b0 : decide (1 ≤ a0) = true := decide_eq_true c2
  clear c2
  obtain rfl := Option.some.inj H
  go_enter Tryz.func99, Tryz.ntmps99
  go_wp2
  go_ret
  exact ⟨by rfl, by repeat (exact Drawn0.refl _)⟩
 rw [if_neg c2] at H
 have c2b0 : decide (1 ≤ a0) = false := decide_eq_false c2
 clear c2
 obtain rfl := Option.some.inj H
 go_enter Tryz.func99, Tryz.ntmps99
 go_wp2
 go_ret
 exact ⟨by rfl, by repeat (exact Drawn0.refl _)⟩
def bits_Narrow.f (a0 : Int) (a1 : Int) : Option (Int × Bool) := if a1 = 1 then (some (wrap64 (IntKind.i8.wrap (a0)), ((wrap64 (IntKind.i8.wrap (a0))) == a0))) else (if a1 = 2 then (some (wrap64 (IntKind.i16.wrap (a0)), ((wrap64 (IntKind.i16.wrap (a0))) == a0))) else (if a1 = 4 then (some (wrap64 (wrap32 (a0)), ((wrap64 (wrap32 (a0))) == a0))) else (if a1 = 8 then (some (a0, (a0 == a0))) else (some (0, false)))))
set_option maxHeartbeats 8000000 in
set_option maxRecDepth 100000 in
theorem bits_Narrow.calls (a0 : Int) (a1 : Int) (r1 : Int) (r2 : Bool) (w : World) (h : bits_Narrow.f a0 a1 = some (r1, r2)) :
 Calls Tryz.prog 133 #[.int .i64 a0, .int .i64 a1] w fun e w' => e = .returned (.tuple #[.int .i64 r1, .bool r2]) ∧ Drawn0 w w' := by
 unfold bits_Narrow.f at h
 have H := h
 clear h
 by_cases c3 : a1 = 1
 ·rw [if_pos c3] at H
  have c3b0 : (a1 == 1) = true := beq_iff_eq.mpr c3
  have c3b1 : (a1 != 1) = false := bne_eq_false_iff_eq.mpr c3
  clear c3
  simp only [Option.some.injEq, Prod.mk.injEq] at H
  obtain ⟨rfl, rfl⟩ := H
  go_enter Tryz.func133, Tryz.ntmps133
  go_wp2
  go_ret2
  exact ⟨by rfl, by repeat (exact Drawn0.refl _)⟩
 rw [if_neg c3] at H
 have c3b0 : (a1 == 1) = false := beq_eq_false_iff_ne.mpr c3
 have c3b1 : (a1 != 1) = true := bne_iff_ne.mpr c3
 by_cases c4 : a1 = 2
 ·rw [if_pos c4] at H
  have c4b0 : (a1 == 2) = true := beq_iff_eq.mpr c4
  have c4b1 : (a1 != 2) = false := bne_eq_false_iff_eq.mpr c4
  clear c4
  simp only [Option.some.injEq, Prod.mk.injEq] at H
  obtain ⟨rfl, rfl⟩ := H
  go_enter Tryz.func133, Tryz.ntmps133
  go_wp2
  go_ret2
  exact ⟨by rfl, by repeat (exact Drawn0.refl _)⟩
 rw [if_neg c4] at H
 have c4b0 : (a1 == 2) = false := beq_eq_false_iff_ne.mpr c4
 have c4b1 : (a1 != 2) = true := bne_iff_ne.mpr c4
 by_cases c5 : a1 = 4
 ·rw [if_pos c5] at H
  have c5b0 : (a1 == 4) = true := beq_iff_eq.mpr c5
  have c5b1 : (a1 != 4) = false := bne_eq_false_iff_eq.mpr c5
  clear c5
  simp only [Option.some.injEq, Prod.mk.injEq] at H
  obtain ⟨rfl, rfl⟩ := H
  go_enter Tryz.func133, Tryz.ntmps133
  go_wp2
  go_ret2
  exact ⟨by rfl, by repeat (exact Drawn0.refl _)⟩
 rw [if_neg c5] at H
 have c5b0 : (a1 == 4) = false := beq_eq_false_iff_ne.mpr c5
 have c5b1 : (a1 != 4) = true := bne_iff_ne.mpr c5
 by_cases c6 : a1 = 8
 ·rw [if_pos c6] at H
  have c6b0 : (a1 == 8) = true := beq_iff_eq.mpr c6
  have c6b1 : (a1 != 8) = false := bne_eq_false_iff_eq.mpr c6
  clear c6
  simp only [Option.some.injEq, Prod.mk.injEq] at H
  obtain ⟨rfl, rfl⟩ := H
  go_enter Tryz.func133, Tryz.ntmps133
  go_wp2
  go_ret2
  exact ⟨by (simp; done), by repeat (exact Drawn0.refl _)⟩
 rw [if_neg c6] at H
 have c6b0 : (a1 == 8) = false := beq_eq_false_iff_ne.mpr c6
 have c6b1 : (a1 != 8) = true := bne_iff_ne.mpr c6
 simp only [Option.some.injEq, Prod.mk.injEq] at H
 obtain ⟨rfl, rfl⟩ := H
 go_enter Tryz.func133, Tryz.ntmps133
 go_wp2
 go_ret2
 exact ⟨by rfl, by repeat (exact Drawn0.refl _)⟩
def cell_holds.f (a0 : Int) (a1 : Int) : Option (Bool) := if a0 = 5 then (some (a1 == (wrap64 (IntKind.u16.wrap (a1))))) else (if a0 = 6 then (some ((a1 / 2) == 0)) else (if 0 ≤ (IntKind.u64.wrap (wrap64 (a0 - 1))) then ((bits_Narrow.f a1 (shl .i64 1 (IntKind.u64.wrap (wrap64 (a0 - 1))))).bind fun bt105 => (some bt105.2)) else (none)))
set_option maxHeartbeats 8000000 in
set_option maxRecDepth 100000 in
theorem cell_holds.calls (a0 : Int) (a1 : Int) (r : Bool) (w : World) (h : cell_holds.f a0 a1 = some r) :
 Calls Tryz.prog 101 #[.int .i64 a0, .int .i64 a1] w fun e w' => e = .returned (.bool r) ∧ Drawn0 w w' := by
 unfold cell_holds.f at h
 have H := h
 clear h
 by_cases c3 : a0 = 5
 ·rw [if_pos c3] at H
  have c3b0 : (a0 == 5) = true := beq_iff_eq.mpr c3
  have c3b1 : (a0 != 5) = false := bne_eq_false_iff_eq.mpr c3
  clear c3
  obtain rfl := Option.some.inj H
  go_enter Tryz.func101, Tryz.ntmps101
  go_wp2
  go_ret
  exact ⟨by rfl, by repeat (exact Drawn0.refl _)⟩
 rw [if_neg c3] at H
 have c3b0 : (a0 == 5) = false := beq_eq_false_iff_ne.mpr c3
 have c3b1 : (a0 != 5) = true := bne_iff_ne.mpr c3
 by_cases c4 : a0 = 6
 ·rw [if_pos c4] at H
  have c4b0 : (a0 == 6) = true := beq_iff_eq.mpr c4
  have c4b1 : (a0 != 6) = false := bne_eq_false_iff_eq.mpr c4
  clear c4
  obtain rfl := Option.some.inj H
  go_enter Tryz.func101, Tryz.ntmps101
  go_wp2
  go_ret
  exact ⟨by rfl, by repeat (exact Drawn0.refl _)⟩
 rw [if_neg c4] at H
 have c4b0 : (a0 == 6) = false := beq_eq_false_iff_ne.mpr c4
 have c4b1 : (a0 != 6) = true := bne_iff_ne.mpr c4
 obtain ⟨ji5, hji5⟩ : ∃ j_ : Int, (IntKind.u64.wrap (wrap64 (a0 - 1))) = j_ := ⟨_, rfl⟩
 replace H : (if 0 ≤ (ji5) then ((bits_Narrow.f a1 (shl .i64 1 (ji5))).bind fun bt105 => (some bt105.2)) else (none)) = some r := by (rw [hji5] at H; exact H)
 by_cases c6 : 0 ≤ (ji5)
 ·rw [if_pos c6] at H
  have c6b0 := eq_true c6
  have c6b1 : decide (0 ≤ (ji5)) = true := decide_eq_true c6
  clear c6
  obtain ⟨ji7, hji7⟩ : ∃ j_ : Int, (shl .i64 1 (ji5)) = j_ := ⟨_, rfl⟩
  replace H : ((bits_Narrow.f a1 (ji7)).bind fun bt105 => (some bt105.2)) = some r := by (rw [hji7] at H; exact H)
  have hji7_ : (IntKind.i64.wrap (1 * 2 ^ min (ji5).toNat 64)) = ji7 := hji7
  have hji7z : (ji5) ≤ 64 → (IntKind.i64.wrap (1 * 2 ^ (ji5).toNat)) = ji7 := shl_small hji7
  have hji7u : (IntKind.i64.wrap (2 ^ min (ji5).toNat 64)) = ji7 := by have h_ := hji7_; rw [Int.one_mul] at h_; exact h_
  have hji7v : (ji5) ≤ 64 → (IntKind.i64.wrap (2 ^ (ji5).toNat)) = ji7 := fun hle_ => by have h_ := hji7z hle_; rw [Int.one_mul] at h_; exact h_
  have hji7y : (wrap64 (1 * 2 ^ min (ji5).toNat 64)) = ji7 := (i64_w _).symm.trans hji7_
  have hji7x : (ji5) ≤ 64 → (wrap64 (1 * 2 ^ (ji5).toNat)) = ji7 := fun h_ => (i64_w _).symm.trans (hji7z h_)
  replace H := Option.bind_eq_some_iff.mp H
  obtain ⟨⟨t105, t106⟩, A80, H⟩ := H
  (try dsimp only at H)
  have A8 := Aside0.mk A80
  clear A80
  obtain rfl := Option.some.inj H
  go_enter Tryz.func101, Tryz.ntmps101
  go_wp2_with ((refine goL_ Tryz.func133 #[.int .i64 a1, .int .i64 ji7] ?_; (with_reducible refine (bits_Narrow.calls a1 ji7 t105 t106 _ A8.out).mono ?_); rintro e w' ⟨rfl, ⟨nd, rfl⟩⟩; refine ⟨_, rfl, ?_⟩))
  go_ret
  exact ⟨by rfl, by repeat (first | exact Drawn0.refl _ | apply Drawn0.step)⟩
 rw [if_neg c6] at H
 exact absurd H (by simp)
def vint_Put.l0 : Nat → Int → List Int → Option (List Int)
 | 0, _, _ => none
 | k + 1, x0, x3 => if x0 ≥ 128 then (if x3.length < 140737488355328 then (vint_Put.l0 k (x0 / 128) (x3 ++ [Go.bits .or .u8 ((x0) % 256) 128])) else (none)) else (if x3.length < 140737488355328 then (some (x3 ++ [(x0) % 256])) else (none))
def vint_Put.f (k : Nat) (a0 : Int) : Option (List Int) := vint_Put.l0 k a0 ([] : List Int)
set_option maxHeartbeats 8000000 in
set_option maxRecDepth 100000 in
theorem vint_Put.calls (k : Nat) (a0 : Int) (r : List Int) (w : World) (h : vint_Put.f k a0 = some r) :
 Calls Tryz.prog 71 #[.int .u64 a0] w fun e w' => ∃ v0_ : Value, e = .returned (v0_) ∧ Kd.R (Kd.int .u8) 5 w' w.heap.size (fun _ => True) v0_ r ∧ Below w.heap.size w w' := by
 have HB := Aside0.mk (Below.refl w.heap.size w)
 unfold vint_Put.f at h
 have H := h
 clear h
 have H' := Aside0.mk H
 clear H
 go_enter Tryz.func71, Tryz.ntmps71
 go_wp2
 go_loopg [0, 3] k (fun kq v0 v3 w' => ∃ (x0_1 : Int) (x3_1 : List Int), v0 = .int .u64 x0_1 ∧ Aside0 (vint_Put.l0 kq x0_1 x3_1 = some r) ∧ Aside0 (kq ≤ k) ∧ Aside0 (Kd.R (Kd.int .u8) 5 w' w.heap.size (fun _ => True) v3 x3_1) ∧ Aside0 (Below w.heap.size w w'))
 case atStart => exact ⟨(a0), (([] : List Int)), (by rfl), H', ⟨Nat.le_refl _⟩, ⟨by exact Kd.R_nil _ _ _ _ _⟩, ⟨by exact HB.out⟩⟩
 case round =>
  clear H'
  obtain ⟨x0_1, x3_1, rfl, HA, HK1, HO_3, HB⟩ := hrel
  cases gk with
  | zero => exact absurd HA.out (by simp [vint_Put.l0])
  | succ k1 =>
   have H := HA.out
   clear HA
   simp only [vint_Put.l0] at H
   by_cases c2 : x0_1 ≥ 128
   ·rw [if_pos c2] at H
    have c2b0 : decide (128 ≤ x0_1) = true := decide_eq_true c2
    clear c2
    by_cases c3 : x3_1.length < 140737488355328
    ·rw [if_pos c3] at H
     have LMc3 := Aside0.mk c3
     clear c3
     obtain ⟨y117, hy117⟩ : ∃ y_ : List Int, y_ = (x3_1 ++ [Go.bits .or .u8 ((x0_1) % 256) 128]) := ⟨_, rfl⟩
     replace H : (vint_Put.l0 k1 (x0_1 / 128) y117) = some r := by (rw [hy117]; with_reducible exact H)
     have Ny117 := Aside0.mk hy117
     clear hy117
     have H' := Aside0.mk H
     clear H
     go_wp2_with ((at_builtin; refine Kd.R_append (Kd.int .u8) (w0 := w) w.heap.size rfl (.tmp 6) (.tmp 10) 24 5 (.int .u8 0) 1 rfl Tryz.underlying24 info5 rfl (by decide) (by omega) u3 x3_1 (Go.bits .or .u8 ((x0_1) % 256) 128) [.int .u8 (Go.bits .or .u8 ((x0_1) % 256) 128)] (fun _ => True) (fun _ => False) rfl rfl ?aP (fun _ hk => hk.elim) ?aF ?aO ?aB ?aS ?aL ?_; (case aP => exact rfl); (case aB => exact HB.out); (case aF => exact (fun _ _ => trivial)); (case aO => exact HO_3.out); (case aS => exact (below_size HB.out)); (case aL => have := LMc3.out; omega); intro v118 w4 ho hb hg hat; rw [← Ny117.out] at ho; have n0_ := Aside0.mk (hb); have n1_ := Aside0.mk (ho); revert n0_ n1_; clear HB HO_3; intro HB HO119; clear ho hb hg hat))
     go_roundg k1
     case measure => have := HK1.out; omega
     case rel => exact ⟨(x0_1 / 128), (y117), (by rfl), H', ⟨by have := HK1.out; omega⟩, ⟨by (with_reducible repeat (apply Kd.R_alloc)); exact HO119.out⟩, ⟨by exact HB.out⟩⟩
    rw [if_neg c3] at H
    exact absurd H (by simp)
   rw [if_neg c2] at H
   have c2b0 : decide (128 ≤ x0_1) = false := decide_eq_false c2
   clear c2
   by_cases c5 : x3_1.length < 140737488355328
   ·rw [if_pos c5] at H
    have LMc5 := Aside0.mk c5
    clear c5
    obtain ⟨y120, hy120⟩ : ∃ y_ : List Int, y_ = (x3_1 ++ [(x0_1) % 256]) := ⟨_, rfl⟩
    replace H : (some y120) = some r := by (rw [hy120]; with_reducible exact H)
    have Ny120 := Aside0.mk hy120
    clear hy120
    obtain rfl := Option.some.inj H
    go_wp2_with ((at_builtin; refine Kd.R_append (Kd.int .u8) (w0 := w) w.heap.size rfl (.tmp 14) (.tmp 17) 24 5 (.int .u8 0) 1 rfl Tryz.underlying24 info5 rfl (by decide) (by omega) u3 x3_1 ((x0_1) % 256) [.int .u8 ((x0_1) % 256)] (fun _ => True) (fun _ => False) rfl rfl ?aP (fun _ hk => hk.elim) ?aF ?aO ?aB ?aS ?aL ?_; (case aP => exact rfl); (case aB => exact HB.out); (case aF => exact (fun _ _ => trivial)); (case aO => exact HO_3.out); (case aS => exact (below_size HB.out)); (case aL => have := LMc5.out; omega); intro v121 w6 ho hb hg hat; rw [← Ny120.out] at ho; have n0_ := Aside0.mk (hb); have n1_ := Aside0.mk (ho); revert n0_ n1_; clear HB HO_3; intro HB HO122; clear ho hb hg hat))
    go_ret
    exact ⟨_, by rfl, by (with_reducible repeat (apply Kd.R_alloc)); exact HO122.out, by exact HB.out⟩
   rw [if_neg c5] at H
   exact absurd H (by simp)
def bits_badWidth.f (a0 : Int) : Option (Bool) := if a0 < 0 then (some true) else (some (decide (a0 > 64)))
set_option maxHeartbeats 8000000 in
set_option maxRecDepth 100000 in
theorem bits_badWidth.calls (a0 : Int) (r : Bool) (w : World) (h : bits_badWidth.f a0 = some r) :
 Calls Tryz.prog 121 #[.int .i64 a0] w fun e w' => e = .returned (.bool r) ∧ Drawn0 w w' := by
 unfold bits_badWidth.f at h
 have H := h
 clear h
 by_cases c2 : a0 < 0
 ·rw [if_pos c2] at H
  have c2b0 : decide (a0 < 0) = true := decide_eq_true c2
  clear c2
  obtain rfl := Option.some.inj H
  go_enter Tryz.func121, Tryz.ntmps121
  go_wp2
  go_ret
  exact ⟨by rfl, by repeat (exact Drawn0.refl _)⟩
 rw [if_neg c2] at H
 have c2b0 : decide (a0 < 0) = false := decide_eq_false c2
 clear c2
 obtain rfl := Option.some.inj H
 go_enter Tryz.func121, Tryz.ntmps121
 go_wp2
 go_ret
 exact ⟨by rfl, by repeat (exact Drawn0.refl _)⟩
def bits_need.f (a0 : Int) (a1 : Int) : Option (Int) := some (wrap64 (Int.tdiv (wrap64 ((wrap64 (a0 * a1)) + 7)) 8))
set_option maxHeartbeats 8000000 in
set_option maxRecDepth 100000 in
theorem bits_need.calls (a0 : Int) (a1 : Int) (r : Int) (w : World) (h : bits_need.f a0 a1 = some r) :
 Calls Tryz.prog 122 #[.int .i64 a0, .int .i64 a1] w fun e w' => e = .returned (.int .i64 r) ∧ Drawn0 w w' := by
 unfold bits_need.f at h
 have H := h
 clear h
 obtain rfl := Option.some.inj H
 go_enter Tryz.func122, Tryz.ntmps122
 go_wp2
 go_ret
 exact ⟨by rfl, by repeat (exact Drawn0.refl _)⟩
def runs_Split.l0 : Nat → List Int → List (S165) → List Int → Int → Int → Option ((List (S165)) × Int)
 | 0, _, _, _, _, _ => none
 | k + 1, x0, x4, x10, x11, x12 => if x12 < x11 then (if 0 ≤ x12 then (if x12 < (x10.length : Int) then (if x12 = 0 then (if x4.length < 8796093022208 then ((some (x4 ++ [(⟨rd x10 x12, 0⟩ : S165)] : List (S165))).bind fun y154 => (if 0 ≤ (wrap64 ((y154.length : Int) - 1)) then (if (wrap64 ((y154.length : Int) - 1)) < (y154.length : Int) then (runs_Split.l0 k x0 (y154.set ((wrap64 ((y154.length : Int) - 1)) : Int).toNat (⟨(rd_T165 y154 (wrap64 ((y154.length : Int) - 1))).f0, wrap64 (((rd_T165 y154 (wrap64 ((y154.length : Int) - 1))).f1) + 1)⟩ : S165)) x10 x11 (wrap64 (x12 + 1))) else (none)) else (none))) else (none)) else (if 0 ≤ (wrap64 (x12 - 1)) then (if (wrap64 (x12 - 1)) < (x0.length : Int) then (if (rd x10 x12) = (rd x0 (wrap64 (x12 - 1))) then (if 0 ≤ (wrap64 ((x4.length : Int) - 1)) then (if (wrap64 ((x4.length : Int) - 1)) < (x4.length : Int) then (runs_Split.l0 k x0 (x4.set ((wrap64 ((x4.length : Int) - 1)) : Int).toNat (⟨(rd_T165 x4 (wrap64 ((x4.length : Int) - 1))).f0, wrap64 (((rd_T165 x4 (wrap64 ((x4.length : Int) - 1))).f1) + 1)⟩ : S165)) x10 x11 (wrap64 (x12 + 1))) else (none)) else (none)) else (if x4.length < 8796093022208 then ((some (x4 ++ [(⟨rd x10 x12, 0⟩ : S165)] : List (S165))).bind fun y162 => (if 0 ≤ (wrap64 ((y162.length : Int) - 1)) then (if (wrap64 ((y162.length : Int) - 1)) < (y162.length : Int) then (runs_Split.l0 k x0 (y162.set ((wrap64 ((y162.length : Int) - 1)) : Int).toNat (⟨(rd_T165 y162 (wrap64 ((y162.length : Int) - 1))).f0, wrap64 (((rd_T165 y162 (wrap64 ((y162.length : Int) - 1))).f1) + 1)⟩ : S165)) x10 x11 (wrap64 (x12 + 1))) else (none)) else (none))) else (none))) else (none)) else (none))) else (none)) else (none)) else (some (x4, 0))
def runs_Split.f (k : Nat) (l0 : List Int) : Option ((List (S165)) × Int) := if (l0.length : Int) > 4096 then (some (([] : List (S165)), 4)) else (runs_Split.l0 k l0 ([] : List (S165)) l0 (l0.length : Int) 0)
set_option maxHeartbeats 8000000 in
set_option maxRecDepth 100000 in
theorem runs_Split.calls (k : Nat) (A0 : Option Addr) (c0 : Nat) (l0 : List Int) (r1 : List (S165)) (r2 : Int) (w : World) (hr0 : Kd.C (Kd.int .i64) w A0 l0.length l0) (hc0 : l0.length ≤ c0) (h : runs_Split.f k l0 = some (r1, r2)) :
 Calls Tryz.prog 134 #[.slice A0 l0.length c0] w fun e w' => ∃ v0_ : Value, e = .returned (.tuple #[v0_, .int .i64 r2]) ∧ Kd.R k165 165 w' w.heap.size (fun _ => True) v0_ r1 ∧ Below w.heap.size w w' := by
 have hu165 := Tryz.underlying165
 have HR0 := Aside0.mk hr0
 have HC0 := Aside0.mk hc0
 clear hr0 hc0
 have HB := Aside0.mk (Below.refl w.heap.size w)
 unfold runs_Split.f at h
 have H := h
 clear h
 by_cases c2 : (l0.length : Int) > 4096
 ·rw [if_pos c2] at H
  have c2b0 : decide (4096 < (l0.length : Int)) = true := decide_eq_true c2
  have c2b1 : decide (4096 < l0.length) = true := decide_eq_true (by omega)
  clear c2
  simp only [Option.some.injEq, Prod.mk.injEq] at H
  obtain ⟨rfl, rfl⟩ := H
  go_enter Tryz.func134, Tryz.ntmps134
  go_wp2
  go_ret2
  exact ⟨_, by rfl, by exact Kd.R_nil _ _ _ _ _, by exact HB.out⟩
 rw [if_neg c2] at H
 have c2b0 : decide (4096 < (l0.length : Int)) = false := decide_eq_false c2
 have c2b1 : decide (4096 < l0.length) = false := decide_eq_false (by omega)
 clear c2
 have H' := Aside0.mk H
 clear H
 go_enter Tryz.func134, Tryz.ntmps134
 go_wp2
 go_loopg [4, 12] k (fun kq v4 v12 w' => ∃ (x4_1 : List (S165)) (x12_1 : Int), v12 = .int .i64 x12_1 ∧ Aside0 (runs_Split.l0 kq l0 x4_1 l0 (l0.length : Int) x12_1 = some (r1, r2)) ∧ Aside0 (kq ≤ k) ∧ Aside0 (Kd.R k165 165 w' w.heap.size (fun _ => True) v4 x4_1) ∧ Aside0 (Below w.heap.size w w'))
 case atStart => exact ⟨(([] : List (S165))), (0), (by rfl), H', ⟨Nat.le_refl _⟩, ⟨by exact Kd.R_nil _ _ _ _ _⟩, ⟨by exact HB.out⟩⟩
 case round =>
  clear H'
  try clear c2b0
  try clear c2b1
  obtain ⟨x4_1, x12_1, rfl, HA, HK1, HO_4, HB⟩ := hrel
  cases gk with
  | zero => exact absurd HA.out (by simp [runs_Split.l0])
  | succ k1 =>
   have H := HA.out
   clear HA
   simp only [runs_Split.l0] at H
   by_cases c3 : x12_1 < (l0.length : Int)
   ·rw [if_pos c3] at H
    have c3b0 : decide (x12_1 < (l0.length : Int)) = true := decide_eq_true c3
    clear c3
    by_cases c4 : 0 ≤ x12_1
    ·rw [if_pos c4] at H
     have c4b0 : decide (0 ≤ x12_1) = true := decide_eq_true c4
     clear c4
     by_cases c5 : x12_1 < (l0.length : Int)
     ·rw [if_pos c5] at H
      have c5b0 : decide (x12_1 < (l0.length : Int)) = true := decide_eq_true c5
      clear c5
      by_cases c6 : x12_1 = 0
      ·rw [if_pos c6] at H
       have c6b0 : (x12_1 == 0) = true := beq_iff_eq.mpr c6
       have c6b1 : (x12_1 != 0) = false := bne_eq_false_iff_eq.mpr c6
       clear c6
       by_cases c7 : x4_1.length < 8796093022208
       ·rw [if_pos c7] at H
        have LMc7 := Aside0.mk c7
        clear c7
        obtain ⟨y154, hy154⟩ : ∃ y_ : List (S165), y_ = (x4_1 ++ [(⟨rd l0 x12_1, 0⟩ : S165)]) := ⟨_, rfl⟩
        replace H : (if 0 ≤ (wrap64 ((y154.length : Int) - 1)) then (if (wrap64 ((y154.length : Int) - 1)) < (y154.length : Int) then (runs_Split.l0 k1 l0 (y154.set ((wrap64 ((y154.length : Int) - 1)) : Int).toNat (⟨(rd_T165 y154 (wrap64 ((y154.length : Int) - 1))).f0, wrap64 (((rd_T165 y154 (wrap64 ((y154.length : Int) - 1))).f1) + 1)⟩ : S165)) l0 (l0.length : Int) (wrap64 (x12_1 + 1))) else (none)) else (none)) = some (r1, r2) := by (have H2_ := (Option.bind_some _ _).symm.trans H; rw [hy154]; with_reducible exact H2_)
        have Ny154 := Aside0.mk hy154
        clear hy154
        obtain ⟨ji8, hji8⟩ : ∃ j_ : Int, (wrap64 ((y154.length : Int) - 1)) = j_ := ⟨_, rfl⟩
        replace H : (if 0 ≤ (ji8) then (if (ji8) < (y154.length : Int) then (runs_Split.l0 k1 l0 (y154.set ((ji8) : Int).toNat (⟨(rd_T165 y154 (ji8)).f0, wrap64 (((rd_T165 y154 (ji8)).f1) + 1)⟩ : S165)) l0 (l0.length : Int) (wrap64 (x12_1 + 1))) else (none)) else (none)) = some (r1, r2) := by (rw [hji8] at H; exact H)
        have hji8w : (IntKind.i64.wrap ((y154.length : Int) - 1)) = ji8 := (i64_w _).trans hji8
        by_cases c9 : 0 ≤ (ji8)
        ·rw [if_pos c9] at H
         have c9b0 : decide (0 ≤ (ji8)) = true := decide_eq_true c9
         clear c9
         by_cases c10 : (ji8) < (y154.length : Int)
         ·rw [if_pos c10] at H
          have c10b0 : decide ((ji8) < (y154.length : Int)) = true := decide_eq_true c10
          clear c10
          obtain ⟨y158, hy158⟩ : ∃ y_ : List (S165), y_ = (y154.set ((ji8) : Int).toNat (⟨(rd_T165 y154 (ji8)).f0, wrap64 (((rd_T165 y154 (ji8)).f1) + 1)⟩ : S165)) := ⟨_, rfl⟩
          replace H : (runs_Split.l0 k1 l0 y158 l0 (l0.length : Int) (wrap64 (x12_1 + 1))) = some (r1, r2) := by (rw [hy158]; with_reducible exact H)
          have Ny158 := Aside0.mk hy158
          clear hy158
          have H' := Aside0.mk H
          clear H
          have p153 : 0 ≤ (x12_1 : Int) := of_decide_eq_true ‹_›
          have q153 : x12_1 < (l0.length : Int) := of_decide_eq_true ‹_›
          obtain ⟨ad153, e153, hx153_0⟩ := Kd.at_int HR0.out x12_1 p153 q153
          cases e153
          replace hx153_0 := (HB.out.cell (World.block_lt_of_cell? w _ hx153_0)).trans hx153_0
          replace p153 := eq_true p153
          replace q153 := eq_true q153
          go_wp2_with (first | ((with_reducible refine gate_builtin (b := .append) (xs := #[.tmp 28, .tmp 31]) rfl ?_); at_builtin; refine Kd.R_append k165 (w0 := w) w.heap.size rfl (.tmp 28) (.tmp 31) 161 165 (.agg #[(.int .i64 0), (.int .i64 0)]) 16 rfl Tryz.underlying161 info165 rfl (by decide) (by omega) u4 x4_1 (⟨rd l0 x12_1, 0⟩ : S165) [.int .i64 (rd l0 x12_1), .int .i64 0] (fun _ => True) (fun _ => False) rfl rfl ?aP (fun _ hk => hk.elim) ?aF ?aO ?aB ?aS ?aL ?_; (case aP => exact k165_mkM _ _ _ (⟨rd l0 x12_1, 0⟩ : S165)); (case aB => exact HB.out); (case aF => exact (fun _ _ => trivial)); (case aO => exact HO_4.out); (case aS => exact (below_size HB.out)); (case aL => have := LMc7.out; omega); intro v155 w12 ho hb hg hat; rw [← Ny154.out] at ho; have n0_ := Aside0.mk (hb); have n1_ := Aside0.mk (ho); revert n0_ n1_; clear HB HO_4; intro HB HO156; clear ho hb hg hat; obtain ⟨Ao13, co13, eo13⟩ := Kd.R_slice HO156.out; subst eo13; have p157 : 0 ≤ ((ji8) : Int) := of_decide_eq_true ‹_›; have q157 : (ji8) < (y154.length : Int) := of_decide_eq_true ‹_›; obtain ⟨ad157, e157, hx157_0, hx157_1⟩ := at_T165 (Kd.R_reads' HO156.out).2.2 (ji8) p157 q157; cases e157; replace p157 := eq_true p157; replace q157 := eq_true q157; have p11 : 0 ≤ ((ji8) : Int) := of_decide_eq_true ‹_›; have q11 : ((ji8) : Int) < ((y154.length : Int) : Int) := of_decide_eq_true ‹_›; obtain ⟨go11, co11, eo11, gb11, gl11, cl11, HG11⟩ := Kd.R_form HO156.out (by omega); (cases eo11); have GB11 := Aside0.mk gb11; have GG11 := Aside0.mk HG11; clear gb11 gl11 HG11; (simp only [add_plain] at hx157_0); (simp only [add_plain] at hx157_1); obtain ⟨ce11, hcl11, hM11, hcc11, hfr11⟩ := Kd.R_elem HO156.out z165 ((ji8) : Int) p11 q11; obtain rfl := k165_openM hM11; have hx11_0 : w12.cell? ⟨go11, ((ji8) : Int).toNat * 2, none⟩ = some (.int .i64 ((rd_T165 y154 (ji8)).f0)) := hcc11 0 _ rfl; have hx11_1 : w12.cell? ⟨go11, ((ji8) : Int).toNat * 2 + 1, none⟩ = some (.int .i64 ((rd_T165 y154 (ji8)).f1)) := hcc11 1 _ rfl; have hf11_0 : w12.frozen? ⟨go11, ((ji8) : Int).toNat * 2, none⟩ = false := hfr11 0; have hf11_1 : w12.frozen? ⟨go11, ((ji8) : Int).toNat * 2 + 1, none⟩ = false := hfr11 1; clear hcl11 hcc11 hfr11; (try clear hM11); replace p11 := eq_true p11; replace q11 := eq_true q11; have HX14 := Aside0.mk (show Kd.R k165 165 w12 w.heap.size (fun _ => True) (.slice (some ⟨go11, 0, none⟩) y154.length co13) y154 from HO156.out); obtain ⟨ce14, hcl14, hM14, hcc14, hfr14⟩ := Kd.R_elem HX14.out z165 ((ji8) : Int) (of_decide_eq_true ‹_›) (by have h_ : ((ji8) : Int) < ((y154.length : Int) : Int) := of_decide_eq_true ‹_›; exact h_); obtain rfl := k165_openM hM14; have HP14 := Kd.R_seg HX14.out ((ji8) : Int) (of_decide_eq_true ‹_›) (by have h_ : ((ji8) : Int) < ((y154.length : Int) : Int) := of_decide_eq_true ‹_›; exact h_) (seg := [.int .i64 (wrap64 (((rd_T165 y154 (ji8)).f1) + 1))]) (j := 1) hcl14 hcc14 (show 2 ≤ 2 from by decide) (x' := (⟨(rd_T165 y154 (ji8)).f0, wrap64 (((rd_T165 y154 (ji8)).f1) + 1)⟩ : S165)) (k165_mkM _ _ _ (⟨(rd_T165 y154 (ji8)).f0, wrap64 (((rd_T165 y154 (ji8)).f1) + 1)⟩ : S165) ) (fun _ hk => hk); have hx14_1 := hcc14 1 _ rfl; (try simp only [show (k165).sz = 2 from rfl, Nat.mul_one, Nat.add_zero] at hx14_1); have hf14_1 := hfr14 1; (try simp only [show (k165).sz = 2 from rfl, Nat.mul_one, Nat.add_zero] at hf14_1); clear hcl14 hcc14 hfr14; (try clear hM14)) | ((with_reducible refine gate_store (t := 3) (p := 42) rfl ?_); refine store_event (t := 3) (p := 42) (v := ?vo_w15) (w1 := (w12.setCell ⟨go11, ((ji8) : Int).toNat * 2 + 1, none⟩ (.int .i64 (wrap64 (((rd_T165 y154 (ji8)).f1) + 1))))) ?hg ?ho ?hn ?hr ?_; (case ho => rfl); (case hg => rfl); (case hn => rfl); (case hr => (go_simp; done)); intro w15 hw; have hg : w12.grownBy w15 (some go11) := (by rw [hw]; exact HP14.2); have hp_ : Kd.R k165 165 w15 w.heap.size (fun _ => True) (.slice (some ⟨go11, 0, none⟩) y154.length co13) y158 := (by rw [hw, Ny158.out]; exact HP14.1); clear HP14; have n0_ := Aside0.mk (hp_); have n1_ := Aside0.mk ((by rw [hw]; exact below_set (HB.out) GB11.out : Below w.heap.size w w15)); revert n0_ n1_; clear HO156 HB; intro HO156 HB; clear hg hw hp_))
          go_roundg k1
          case measure => have := HK1.out; omega
          case rel => exact ⟨(y158), (wrap64 (x12_1 + 1)), (by rfl), H', ⟨by have := HK1.out; omega⟩, ⟨by (with_reducible repeat (apply Kd.R_alloc)); exact HO156.out⟩, ⟨by exact HB.out⟩⟩
         rw [if_neg c10] at H
         exact absurd H (by simp)
        rw [if_neg c9] at H
        exact absurd H (by simp)
       rw [if_neg c7] at H
       exact absurd H (by simp)
      rw [if_neg c6] at H
      have c6b0 : (x12_1 == 0) = false := beq_eq_false_iff_ne.mpr c6
      have c6b1 : (x12_1 != 0) = true := bne_iff_ne.mpr c6
      obtain ⟨ji16, hji16⟩ : ∃ j_ : Int, (wrap64 (x12_1 - 1)) = j_ := ⟨_, rfl⟩
      replace H : (if 0 ≤ (ji16) then (if (ji16) < (l0.length : Int) then (if (rd l0 x12_1) = (rd l0 (ji16)) then (if 0 ≤ (wrap64 ((x4_1.length : Int) - 1)) then (if (wrap64 ((x4_1.length : Int) - 1)) < (x4_1.length : Int) then (runs_Split.l0 k1 l0 (x4_1.set ((wrap64 ((x4_1.length : Int) - 1)) : Int).toNat (⟨(rd_T165 x4_1 (wrap64 ((x4_1.length : Int) - 1))).f0, wrap64 (((rd_T165 x4_1 (wrap64 ((x4_1.length : Int) - 1))).f1) + 1)⟩ : S165)) l0 (l0.length : Int) (wrap64 (x12_1 + 1))) else (none)) else (none)) else (if x4_1.length < 8796093022208 then ((some (x4_1 ++ [(⟨rd l0 x12_1, 0⟩ : S165)] : List (S165))).bind fun y162 => (if 0 ≤ (wrap64 ((y162.length : Int) - 1)) then (if (wrap64 ((y162.length : Int) - 1)) < (y162.length : Int) then (runs_Split.l0 k1 l0 (y162.set ((wrap64 ((y162.length : Int) - 1)) : Int).toNat (⟨(rd_T165 y162 (wrap64 ((y162.length : Int) - 1))).f0, wrap64 (((rd_T165 y162 (wrap64 ((y162.length : Int) - 1))).f1) + 1)⟩ : S165)) l0 (l0.length : Int) (wrap64 (x12_1 + 1))) else (none)) else (none))) else (none))) else (none)) else (none)) = some (r1, r2) := by (rw [hji16] at H; exact H)
      have hji16w : (IntKind.i64.wrap (x12_1 - 1)) = ji16 := (i64_w _).trans hji16
      by_cases c17 : 0 ≤ (ji16)
      ·rw [if_pos c17] at H
       have c17b0 : decide (0 ≤ (ji16)) = true := decide_eq_true c17
       clear c17
       by_cases c18 : (ji16) < (l0.length : Int)
       ·rw [if_pos c18] at H
        have c18b0 : decide ((ji16) < (l0.length : Int)) = true := decide_eq_true c18
        clear c18
        by_cases c19 : (rd l0 x12_1) = (rd l0 (ji16))
        ·rw [if_pos c19] at H
         have c19b0 : ((rd l0 x12_1) == (rd l0 (ji16))) = true := beq_iff_eq.mpr c19
         have c19b1 : ((rd l0 x12_1) != (rd l0 (ji16))) = false := bne_eq_false_iff_eq.mpr c19
         clear c19
         obtain ⟨ji20, hji20⟩ : ∃ j_ : Int, (wrap64 ((x4_1.length : Int) - 1)) = j_ := ⟨_, rfl⟩
         replace H : (if 0 ≤ (ji20) then (if (ji20) < (x4_1.length : Int) then (runs_Split.l0 k1 l0 (x4_1.set ((ji20) : Int).toNat (⟨(rd_T165 x4_1 (ji20)).f0, wrap64 (((rd_T165 x4_1 (ji20)).f1) + 1)⟩ : S165)) l0 (l0.length : Int) (wrap64 (x12_1 + 1))) else (none)) else (none)) = some (r1, r2) := by (rw [hji20] at H; exact H)
         have hji20w : (IntKind.i64.wrap ((x4_1.length : Int) - 1)) = ji20 := (i64_w _).trans hji20
         by_cases c21 : 0 ≤ (ji20)
         ·rw [if_pos c21] at H
          have c21b0 : decide (0 ≤ (ji20)) = true := decide_eq_true c21
          clear c21
          by_cases c22 : (ji20) < (x4_1.length : Int)
          ·rw [if_pos c22] at H
           have c22b0 : decide ((ji20) < (x4_1.length : Int)) = true := decide_eq_true c22
           clear c22
           obtain ⟨y161, hy161⟩ : ∃ y_ : List (S165), y_ = (x4_1.set ((ji20) : Int).toNat (⟨(rd_T165 x4_1 (ji20)).f0, wrap64 (((rd_T165 x4_1 (ji20)).f1) + 1)⟩ : S165)) := ⟨_, rfl⟩
           replace H : (runs_Split.l0 k1 l0 y161 l0 (l0.length : Int) (wrap64 (x12_1 + 1))) = some (r1, r2) := by (rw [hy161]; with_reducible exact H)
           have Ny161 := Aside0.mk hy161
           clear hy161
           have H' := Aside0.mk H
           clear H
           have p153 : 0 ≤ (x12_1 : Int) := of_decide_eq_true ‹_›
           have q153 : x12_1 < (l0.length : Int) := of_decide_eq_true ‹_›
           obtain ⟨ad153, e153, hx153_0⟩ := Kd.at_int HR0.out x12_1 p153 q153
           cases e153
           replace hx153_0 := (HB.out.cell (World.block_lt_of_cell? w _ hx153_0)).trans hx153_0
           replace p153 := eq_true p153
           replace q153 := eq_true q153
           have p159 : 0 ≤ ((ji16) : Int) := of_decide_eq_true ‹_›
           have q159 : (ji16) < (l0.length : Int) := of_decide_eq_true ‹_›
           obtain ⟨ad159, e159, hx159_0⟩ := Kd.at_int HR0.out (ji16) p159 q159
           obtain rfl : ad153 = ad159 := (by injection e159)
           replace hx159_0 := (HB.out.cell (World.block_lt_of_cell? w _ hx159_0)).trans hx159_0
           replace p159 := eq_true p159
           replace q159 := eq_true q159
           obtain ⟨Ao24, co24, eo24⟩ := Kd.R_slice HO_4.out
           subst eo24
           have p160 : 0 ≤ ((ji20) : Int) := of_decide_eq_true ‹_›
           have q160 : (ji20) < (x4_1.length : Int) := of_decide_eq_true ‹_›
           obtain ⟨ad160, e160, hx160_0, hx160_1⟩ := at_T165 (Kd.R_reads' HO_4.out).2.2 (ji20) p160 q160
           cases e160
           replace p160 := eq_true p160
           replace q160 := eq_true q160
           have p23 : 0 ≤ ((ji20) : Int) := of_decide_eq_true ‹_›
           have q23 : ((ji20) : Int) < ((x4_1.length : Int) : Int) := of_decide_eq_true ‹_›
           obtain ⟨go23, co23, eo23, gb23, gl23, cl23, HG23⟩ := Kd.R_form HO_4.out (by omega)
           (cases eo23)
           have GB23 := Aside0.mk gb23
           have GG23 := Aside0.mk HG23
           clear gb23 gl23 HG23
           (simp only [add_plain] at hx160_0)
           (simp only [add_plain] at hx160_1)
           obtain ⟨ce23, hcl23, hM23, hcc23, hfr23⟩ := Kd.R_elem HO_4.out z165 ((ji20) : Int) p23 q23
           obtain rfl := k165_openM hM23
           have hx23_0 : wr.cell? ⟨go23, ((ji20) : Int).toNat * 2, none⟩ = some (.int .i64 ((rd_T165 x4_1 (ji20)).f0)) := hcc23 0 _ rfl
           have hx23_1 : wr.cell? ⟨go23, ((ji20) : Int).toNat * 2 + 1, none⟩ = some (.int .i64 ((rd_T165 x4_1 (ji20)).f1)) := hcc23 1 _ rfl
           have hf23_0 : wr.frozen? ⟨go23, ((ji20) : Int).toNat * 2, none⟩ = false := hfr23 0
           have hf23_1 : wr.frozen? ⟨go23, ((ji20) : Int).toNat * 2 + 1, none⟩ = false := hfr23 1
           clear hcl23 hcc23 hfr23; (try clear hM23)
           replace p23 := eq_true p23
           replace q23 := eq_true q23
           have HX25 := Aside0.mk (show Kd.R k165 165 wr w.heap.size (fun _ => True) (.slice (some ⟨go23, 0, none⟩) x4_1.length co24) x4_1 from HO_4.out)
           obtain ⟨ce25, hcl25, hM25, hcc25, hfr25⟩ := Kd.R_elem HX25.out z165 ((ji20) : Int) (of_decide_eq_true ‹_›) (by have h_ : ((ji20) : Int) < ((x4_1.length : Int) : Int) := of_decide_eq_true ‹_›; exact h_)
           obtain rfl := k165_openM hM25
           have HP25 := Kd.R_seg HX25.out ((ji20) : Int) (of_decide_eq_true ‹_›) (by have h_ : ((ji20) : Int) < ((x4_1.length : Int) : Int) := of_decide_eq_true ‹_›; exact h_) (seg := [.int .i64 (wrap64 (((rd_T165 x4_1 (ji20)).f1) + 1))]) (j := 1) hcl25 hcc25 (show 2 ≤ 2 from by decide) (x' := (⟨(rd_T165 x4_1 (ji20)).f0, wrap64 (((rd_T165 x4_1 (ji20)).f1) + 1)⟩ : S165)) (k165_mkM _ _ _ (⟨(rd_T165 x4_1 (ji20)).f0, wrap64 (((rd_T165 x4_1 (ji20)).f1) + 1)⟩ : S165) ) (fun _ hk => hk)
           have hx25_1 := hcc25 1 _ rfl
           (try simp only [show (k165).sz = 2 from rfl, Nat.mul_one, Nat.add_zero] at hx25_1)
           have hf25_1 := hfr25 1
           (try simp only [show (k165).sz = 2 from rfl, Nat.mul_one, Nat.add_zero] at hf25_1)
           clear hcl25 hcc25 hfr25; (try clear hM25)
           go_wp2_with ((refine store_event (t := 3) (p := 42) (v := ?vo_w26) (w1 := (wr.setCell ⟨go23, ((ji20) : Int).toNat * 2 + 1, none⟩ (.int .i64 (wrap64 (((rd_T165 x4_1 (ji20)).f1) + 1))))) ?hg ?ho ?hn ?hr ?_; (case ho => rfl); (case hg => rfl); (case hn => rfl); (case hr => (go_simp; done)); intro w26 hw; have hg : wr.grownBy w26 (some go23) := (by rw [hw]; exact HP25.2); have hp_ : Kd.R k165 165 w26 w.heap.size (fun _ => True) (.slice (some ⟨go23, 0, none⟩) x4_1.length co24) y161 := (by rw [hw, Ny161.out]; exact HP25.1); clear HP25; have n0_ := Aside0.mk (hp_); have n1_ := Aside0.mk ((by rw [hw]; exact below_set (HB.out) GB23.out : Below w.heap.size w w26)); revert n0_ n1_; clear HO_4 HB; intro HO_4 HB; clear hg hw hp_))
           go_roundg k1
           case measure => have := HK1.out; omega
           case rel => exact ⟨(y161), (wrap64 (x12_1 + 1)), (by rfl), H', ⟨by have := HK1.out; omega⟩, ⟨by (with_reducible repeat (apply Kd.R_alloc)); exact HO_4.out⟩, ⟨by exact HB.out⟩⟩
          rw [if_neg c22] at H
          exact absurd H (by simp)
         rw [if_neg c21] at H
         exact absurd H (by simp)
        rw [if_neg c19] at H
        have c19b0 : ((rd l0 x12_1) == (rd l0 (ji16))) = false := beq_eq_false_iff_ne.mpr c19
        have c19b1 : ((rd l0 x12_1) != (rd l0 (ji16))) = true := bne_iff_ne.mpr c19
        by_cases c27 : x4_1.length < 8796093022208
        ·rw [if_pos c27] at H
         have LMc27 := Aside0.mk c27
         clear c27
         obtain ⟨y162, hy162⟩ : ∃ y_ : List (S165), y_ = (x4_1 ++ [(⟨rd l0 x12_1, 0⟩ : S165)]) := ⟨_, rfl⟩
         replace H : (if 0 ≤ (wrap64 ((y162.length : Int) - 1)) then (if (wrap64 ((y162.length : Int) - 1)) < (y162.length : Int) then (runs_Split.l0 k1 l0 (y162.set ((wrap64 ((y162.length : Int) - 1)) : Int).toNat (⟨(rd_T165 y162 (wrap64 ((y162.length : Int) - 1))).f0, wrap64 (((rd_T165 y162 (wrap64 ((y162.length : Int) - 1))).f1) + 1)⟩ : S165)) l0 (l0.length : Int) (wrap64 (x12_1 + 1))) else (none)) else (none)) = some (r1, r2) := by (have H2_ := (Option.bind_some _ _).symm.trans H; rw [hy162]; with_reducible exact H2_)
         have Ny162 := Aside0.mk hy162
         clear hy162
         obtain ⟨ji28, hji28⟩ : ∃ j_ : Int, (wrap64 ((y162.length : Int) - 1)) = j_ := ⟨_, rfl⟩
         replace H : (if 0 ≤ (ji28) then (if (ji28) < (y162.length : Int) then (runs_Split.l0 k1 l0 (y162.set ((ji28) : Int).toNat (⟨(rd_T165 y162 (ji28)).f0, wrap64 (((rd_T165 y162 (ji28)).f1) + 1)⟩ : S165)) l0 (l0.length : Int) (wrap64 (x12_1 + 1))) else (none)) else (none)) = some (r1, r2) := by (rw [hji28] at H; exact H)
         have hji28w : (IntKind.i64.wrap ((y162.length : Int) - 1)) = ji28 := (i64_w _).trans hji28
         by_cases c29 : 0 ≤ (ji28)
         ·rw [if_pos c29] at H
          have c29b0 : decide (0 ≤ (ji28)) = true := decide_eq_true c29
          clear c29
          by_cases c30 : (ji28) < (y162.length : Int)
          ·rw [if_pos c30] at H
           have c30b0 : decide ((ji28) < (y162.length : Int)) = true := decide_eq_true c30
           clear c30
           obtain ⟨y166, hy166⟩ : ∃ y_ : List (S165), y_ = (y162.set ((ji28) : Int).toNat (⟨(rd_T165 y162 (ji28)).f0, wrap64 (((rd_T165 y162 (ji28)).f1) + 1)⟩ : S165)) := ⟨_, rfl⟩
           replace H : (runs_Split.l0 k1 l0 y166 l0 (l0.length : Int) (wrap64 (x12_1 + 1))) = some (r1, r2) := by (rw [hy166]; with_reducible exact H)
           have Ny166 := Aside0.mk hy166
           clear hy166
           have H' := Aside0.mk H
           clear H
           have p153 : 0 ≤ (x12_1 : Int) := of_decide_eq_true ‹_›
           have q153 : x12_1 < (l0.length : Int) := of_decide_eq_true ‹_›
           obtain ⟨ad153, e153, hx153_0⟩ := Kd.at_int HR0.out x12_1 p153 q153
           cases e153
           replace hx153_0 := (HB.out.cell (World.block_lt_of_cell? w _ hx153_0)).trans hx153_0
           replace p153 := eq_true p153
           replace q153 := eq_true q153
           have p159 : 0 ≤ ((ji16) : Int) := of_decide_eq_true ‹_›
           have q159 : (ji16) < (l0.length : Int) := of_decide_eq_true ‹_›
           obtain ⟨ad159, e159, hx159_0⟩ := Kd.at_int HR0.out (ji16) p159 q159
           obtain rfl : ad153 = ad159 := (by injection e159)
           replace hx159_0 := (HB.out.cell (World.block_lt_of_cell? w _ hx159_0)).trans hx159_0
           replace p159 := eq_true p159
           replace q159 := eq_true q159
           go_wp2_with (first | ((with_reducible refine gate_builtin (b := .append) (xs := #[.tmp 28, .tmp 31]) rfl ?_); at_builtin; refine Kd.R_append k165 (w0 := w) w.heap.size rfl (.tmp 28) (.tmp 31) 161 165 (.agg #[(.int .i64 0), (.int .i64 0)]) 16 rfl Tryz.underlying161 info165 rfl (by decide) (by omega) u4 x4_1 (⟨rd l0 x12_1, 0⟩ : S165) [.int .i64 (rd l0 x12_1), .int .i64 0] (fun _ => True) (fun _ => False) rfl rfl ?aP (fun _ hk => hk.elim) ?aF ?aO ?aB ?aS ?aL ?_; (case aP => exact k165_mkM _ _ _ (⟨rd l0 x12_1, 0⟩ : S165)); (case aB => exact HB.out); (case aF => exact (fun _ _ => trivial)); (case aO => exact HO_4.out); (case aS => exact (below_size HB.out)); (case aL => have := LMc27.out; omega); intro v163 w32 ho hb hg hat; rw [← Ny162.out] at ho; have n0_ := Aside0.mk (hb); have n1_ := Aside0.mk (ho); revert n0_ n1_; clear HB HO_4; intro HB HO164; clear ho hb hg hat; obtain ⟨Ao33, co33, eo33⟩ := Kd.R_slice HO164.out; subst eo33; have p165 : 0 ≤ ((ji28) : Int) := of_decide_eq_true ‹_›; have q165 : (ji28) < (y162.length : Int) := of_decide_eq_true ‹_›; obtain ⟨ad165, e165, hx165_0, hx165_1⟩ := at_T165 (Kd.R_reads' HO164.out).2.2 (ji28) p165 q165; cases e165; replace p165 := eq_true p165; replace q165 := eq_true q165; have p31 : 0 ≤ ((ji28) : Int) := of_decide_eq_true ‹_›; have q31 : ((ji28) : Int) < ((y162.length : Int) : Int) := of_decide_eq_true ‹_›; obtain ⟨go31, co31, eo31, gb31, gl31, cl31, HG31⟩ := Kd.R_form HO164.out (by omega); (cases eo31); have GB31 := Aside0.mk gb31; have GG31 := Aside0.mk HG31; clear gb31 gl31 HG31; (simp only [add_plain] at hx165_0); (simp only [add_plain] at hx165_1); obtain ⟨ce31, hcl31, hM31, hcc31, hfr31⟩ := Kd.R_elem HO164.out z165 ((ji28) : Int) p31 q31; obtain rfl := k165_openM hM31; have hx31_0 : w32.cell? ⟨go31, ((ji28) : Int).toNat * 2, none⟩ = some (.int .i64 ((rd_T165 y162 (ji28)).f0)) := hcc31 0 _ rfl; have hx31_1 : w32.cell? ⟨go31, ((ji28) : Int).toNat * 2 + 1, none⟩ = some (.int .i64 ((rd_T165 y162 (ji28)).f1)) := hcc31 1 _ rfl; have hf31_0 : w32.frozen? ⟨go31, ((ji28) : Int).toNat * 2, none⟩ = false := hfr31 0; have hf31_1 : w32.frozen? ⟨go31, ((ji28) : Int).toNat * 2 + 1, none⟩ = false := hfr31 1; clear hcl31 hcc31 hfr31; (try clear hM31); replace p31 := eq_true p31; replace q31 := eq_true q31; have HX34 := Aside0.mk (show Kd.R k165 165 w32 w.heap.size (fun _ => True) (.slice (some ⟨go31, 0, none⟩) y162.length co33) y162 from HO164.out); obtain ⟨ce34, hcl34, hM34, hcc34, hfr34⟩ := Kd.R_elem HX34.out z165 ((ji28) : Int) (of_decide_eq_true ‹_›) (by have h_ : ((ji28) : Int) < ((y162.length : Int) : Int) := of_decide_eq_true ‹_›; exact h_); obtain rfl := k165_openM hM34; have HP34 := Kd.R_seg HX34.out ((ji28) : Int) (of_decide_eq_true ‹_›) (by have h_ : ((ji28) : Int) < ((y162.length : Int) : Int) := of_decide_eq_true ‹_›; exact h_) (seg := [.int .i64 (wrap64 (((rd_T165 y162 (ji28)).f1) + 1))]) (j := 1) hcl34 hcc34 (show 2 ≤ 2 from by decide) (x' := (⟨(rd_T165 y162 (ji28)).f0, wrap64 (((rd_T165 y162 (ji28)).f1) + 1)⟩ : S165)) (k165_mkM _ _ _ (⟨(rd_T165 y162 (ji28)).f0, wrap64 (((rd_T165 y162 (ji28)).f1) + 1)⟩ : S165) ) (fun _ hk => hk); have hx34_1 := hcc34 1 _ rfl; (try simp only [show (k165).sz = 2 from rfl, Nat.mul_one, Nat.add_zero] at hx34_1); have hf34_1 := hfr34 1; (try simp only [show (k165).sz = 2 from rfl, Nat.mul_one, Nat.add_zero] at hf34_1); clear hcl34 hcc34 hfr34; (try clear hM34)) | ((with_reducible refine gate_store (t := 3) (p := 42) rfl ?_); refine store_event (t := 3) (p := 42) (v := ?vo_w35) (w1 := (w32.setCell ⟨go31, ((ji28) : Int).toNat * 2 + 1, none⟩ (.int .i64 (wrap64 (((rd_T165 y162 (ji28)).f1) + 1))))) ?hg ?ho ?hn ?hr ?_; (case ho => rfl); (case hg => rfl); (case hn => rfl); (case hr => (go_simp; done)); intro w35 hw; have hg : w32.grownBy w35 (some go31) := (by rw [hw]; exact HP34.2); have hp_ : Kd.R k165 165 w35 w.heap.size (fun _ => True) (.slice (some ⟨go31, 0, none⟩) y162.length co33) y166 := (by rw [hw, Ny166.out]; exact HP34.1); clear HP34; have n0_ := Aside0.mk (hp_); have n1_ := Aside0.mk ((by rw [hw]; exact below_set (HB.out) GB31.out : Below w.heap.size w w35)); revert n0_ n1_; clear HO164 HB; intro HO164 HB; clear hg hw hp_))
           go_roundg k1
           case measure => have := HK1.out; omega
           case rel => exact ⟨(y166), (wrap64 (x12_1 + 1)), (by rfl), H', ⟨by have := HK1.out; omega⟩, ⟨by (with_reducible repeat (apply Kd.R_alloc)); exact HO164.out⟩, ⟨by exact HB.out⟩⟩
          rw [if_neg c30] at H
          exact absurd H (by simp)
         rw [if_neg c29] at H
         exact absurd H (by simp)
        rw [if_neg c27] at H
        exact absurd H (by simp)
       rw [if_neg c18] at H
       exact absurd H (by simp)
      rw [if_neg c17] at H
      exact absurd H (by simp)
     rw [if_neg c5] at H
     exact absurd H (by simp)
    rw [if_neg c4] at H
    exact absurd H (by simp)
   rw [if_neg c3] at H
   have c3b0 : decide (x12_1 < (l0.length : Int)) = false := decide_eq_false c3
   clear c3
   simp only [Option.some.injEq, Prod.mk.injEq] at H
   obtain ⟨rfl, rfl⟩ := H
   go_wp2
   go_ret2
   exact ⟨_, by rfl, by (with_reducible repeat (apply Kd.R_alloc)); exact HO_4.out, by exact HB.out⟩
def bits_Fold.f (a0 : Int) : Option (Int) := some (Go.bits .xor .u64 (IntKind.u64.wrap (wrap64 (a0 * 2))) (IntKind.u64.wrap (a0 / 9223372036854775808)))
set_option maxHeartbeats 8000000 in
set_option maxRecDepth 100000 in
theorem bits_Fold.calls (a0 : Int) (r : Int) (w : World) (h : bits_Fold.f a0 = some r) :
 Calls Tryz.prog 135 #[.int .i64 a0] w fun e w' => e = .returned (.int .u64 r) ∧ Drawn0 w w' := by
 unfold bits_Fold.f at h
 have H := h
 clear h
 obtain rfl := Option.some.inj H
 go_enter Tryz.func135, Tryz.ntmps135
 go_wp2
 go_ret
 exact ⟨by rfl, by repeat (exact Drawn0.refl _)⟩
def runs_Encode.l0 : Nat → List Int → List (S165) → Int → Int → Option (List Int × Int)
 | 0, _, _, _, _ => none
 | k + 1, x6, x21, x22, x23 => if x23 < x22 then (if 0 ≤ x23 then (if x23 < (x21.length : Int) then ((bits_Fold.f ((rd_T165 x21 x23).f0)).bind fun t176 => ((vint_Put.f k t176).bind fun t177 => (if x6.length + t177.length < 140737488355328 then ((some (x6 ++ t177 : List Int)).bind fun y180 => ((vint_Put.f k (IntKind.u64.wrap ((rd_T165 x21 x23).f1))).bind fun t183 => (if y180.length + t183.length < 140737488355328 then (runs_Encode.l0 k (y180 ++ t183) x21 x22 (wrap64 (x23 + 1))) else (none)))) else (none)))) else (none)) else (none)) else (some (x6, 0))
def runs_Encode.f (k : Nat) (l0 : List Int) : Option (List Int × Int) := (runs_Split.f k l0).bind fun bt167 => (if bt167.2 = 0 then ((vint_Put.f k (IntKind.u64.wrap ((bt167.1.length : Int)))).bind fun t171 => (runs_Encode.l0 k t171 bt167.1 (bt167.1.length : Int) 0)) else (some (([] : List Int), bt167.2)))
set_option maxHeartbeats 8000000 in
set_option maxRecDepth 100000 in
theorem runs_Encode.calls (k : Nat) (A0 : Option Addr) (c0 : Nat) (l0 : List Int) (r1 : List Int) (r2 : Int) (w : World) (hr0 : Kd.C (Kd.int .i64) w A0 l0.length l0) (hc0 : l0.length ≤ c0) (h : runs_Encode.f k l0 = some (r1, r2)) :
 Calls Tryz.prog 103 #[.slice A0 l0.length c0] w fun e w' => ∃ v0_ : Value, e = .returned (.tuple #[v0_, .int .i64 r2]) ∧ Kd.R (Kd.int .u8) 5 w' w.heap.size (fun _ => True) v0_ r1 ∧ Below w.heap.size w w' := by
 have hu165 := Tryz.underlying165
 have HR0 := Aside0.mk hr0
 have HC0 := Aside0.mk hc0
 clear hr0 hc0
 have HB := Aside0.mk (Below.refl w.heap.size w)
 unfold runs_Encode.f at h
 have H := h
 clear h
 replace H := Option.bind_eq_some_iff.mp H
 obtain ⟨⟨t167, t168⟩, A20, H⟩ := H
 (try dsimp only at H)
 have A2 := Aside0.mk A20
 clear A20
 by_cases c3 : t168 = 0
 ·rw [if_pos c3] at H
  have c3b0 : (t168 == 0) = true := beq_iff_eq.mpr c3
  have c3b1 : (t168 != 0) = false := bne_eq_false_iff_eq.mpr c3
  clear c3
  replace H := Option.bind_eq_some_iff.mp H
  obtain ⟨t171, A40, H⟩ := H
  (try dsimp only at H)
  have A4 := Aside0.mk A40
  clear A40
  have H' := Aside0.mk H
  clear H
  go_enter Tryz.func103, Tryz.ntmps103
  go_wp2_with (first | ((with_reducible refine gate_callee (f := 134) rfl ?_); refine goL_ Tryz.func134 #[.slice A0 l0.length c0] ?_; (with_reducible refine (runs_Split.calls k _ _ l0 t167 t168 _ (HR0.out) (HC0.out) A2.out).mono ?_); rintro e w5 ⟨v169, rfl, ho0, hb⟩; refine ⟨_, rfl, ?_⟩; have n0_ := Aside0.mk (Kd.R_lower ho0 (below_size HB.out)); have n1_ := Aside0.mk (below_step HB.out hb); revert n0_ n1_; clear HB; intro HO170 HB; (try clear hb); (try clear ho0); obtain ⟨Ao6, co6, eo6⟩ := Kd.R_slice HO170.out; subst eo6) | ((with_reducible refine gate_callee (f := 71) rfl ?_); refine goL_ Tryz.func71 #[.int .u64 (IntKind.u64.wrap ((t167.length : Int)))] ?_; (with_reducible refine (vint_Put.calls k (IntKind.u64.wrap ((t167.length : Int))) t171 _ A4.out).mono ?_); rintro e w7 ⟨v172, rfl, ho0, hb⟩; refine ⟨_, rfl, ?_⟩; have n0_ := Aside0.mk (Kd.R_below HO170.out hb); have n1_ := Aside0.mk (Kd.R_lower ho0 (below_size HB.out)); have n2_ := Aside0.mk (below_step HB.out hb); revert n0_ n1_ n2_; clear HO170 HB; intro HO170 HO173 HB; (try clear hb); (try clear ho0)))
  go_loopg [6, 23] k (fun kq v6 v23 w' => ∃ (x6_1 : List Int) (x23_1 : Int), v23 = .int .i64 x23_1 ∧ Aside0 (runs_Encode.l0 kq x6_1 t167 (t167.length : Int) x23_1 = some (r1, r2)) ∧ Aside0 (kq ≤ k) ∧ Aside0 (Kd.R (Kd.int .u8) 5 w' w.heap.size (fun _ => True) v6 x6_1) ∧ Aside0 (Kd.R k165 165 w' w.heap.size (fun _ => True) (.slice Ao6 t167.length co6) t167) ∧ Aside0 (Below w.heap.size w w'))
  case atStart => exact ⟨(t171), (0), (by rfl), H', ⟨Nat.le_refl _⟩, ⟨by (with_reducible repeat (apply Kd.R_alloc)); exact HO173.out⟩, ⟨by (with_reducible repeat (apply Kd.R_alloc)); exact HO170.out⟩, ⟨by exact HB.out⟩⟩
  case round =>
   clear H'
   try clear c3b0
   try clear c3b1
   obtain ⟨x6_1, x23_1, rfl, HA, HK1, HO_6, HO_21, HB⟩ := hrel
   cases gk with
   | zero => exact absurd HA.out (by simp [runs_Encode.l0])
   | succ k1 =>
    have H := HA.out
    clear HA
    simp only [runs_Encode.l0] at H
    by_cases c8 : x23_1 < (t167.length : Int)
    ·rw [if_pos c8] at H
     have c8b0 : decide (x23_1 < (t167.length : Int)) = true := decide_eq_true c8
     clear c8
     by_cases c9 : 0 ≤ x23_1
     ·rw [if_pos c9] at H
      have c9b0 : decide (0 ≤ x23_1) = true := decide_eq_true c9
      clear c9
      by_cases c10 : x23_1 < (t167.length : Int)
      ·rw [if_pos c10] at H
       have c10b0 : decide (x23_1 < (t167.length : Int)) = true := decide_eq_true c10
       clear c10
       replace H := Option.bind_eq_some_iff.mp H
       obtain ⟨t176, A110, H⟩ := H
       (try dsimp only at H)
       have A11 := Aside0.mk A110
       clear A110
       replace H := Option.bind_eq_some_iff.mp H
       obtain ⟨t177, A120, H⟩ := H
       (try dsimp only at H)
       have A12 := Aside0.mk A120
       clear A120
       by_cases c13 : x6_1.length + t177.length < 140737488355328
       ·rw [if_pos c13] at H
        have LMc13 := Aside0.mk c13
        clear c13
        obtain ⟨y180, hy180⟩ : ∃ y_ : List Int, y_ = (x6_1 ++ t177) := ⟨_, rfl⟩
        replace H : ((vint_Put.f k1 (IntKind.u64.wrap ((rd_T165 t167 x23_1).f1))).bind fun t183 => (if y180.length + t183.length < 140737488355328 then (runs_Encode.l0 k1 (y180 ++ t183) t167 (t167.length : Int) (wrap64 (x23_1 + 1))) else (none))) = some (r1, r2) := by (have H2_ := (Option.bind_some _ _).symm.trans H; rw [hy180]; with_reducible exact H2_)
        have Ny180 := Aside0.mk hy180
        clear hy180
        replace H := Option.bind_eq_some_iff.mp H
        obtain ⟨t183, A140, H⟩ := H
        (try dsimp only at H)
        have A14 := Aside0.mk A140
        clear A140
        by_cases c15 : y180.length + t183.length < 140737488355328
        ·rw [if_pos c15] at H
         have LMc15 := Aside0.mk c15
         clear c15
         obtain ⟨y186, hy186⟩ : ∃ y_ : List Int, y_ = (y180 ++ t183) := ⟨_, rfl⟩
         replace H : (runs_Encode.l0 k1 y186 t167 (t167.length : Int) (wrap64 (x23_1 + 1))) = some (r1, r2) := by (rw [hy186]; with_reducible exact H)
         have Ny186 := Aside0.mk hy186
         clear hy186
         have H' := Aside0.mk H
         clear H
         have p174 : 0 ≤ (x23_1 : Int) := of_decide_eq_true ‹_›
         have q174 : x23_1 < (t167.length : Int) := of_decide_eq_true ‹_›
         obtain ⟨ad174, e174, hx174_0, hx174_1⟩ := at_T165 (Kd.R_reads' HO_21.out).2.2 x23_1 p174 q174
         cases e174
         replace p174 := eq_true p174
         replace q174 := eq_true q174
         go_wp2_with (first | ((with_reducible refine gate_dst (N := 8) rfl ?_); refine box_event ?hg (N := 8) ?hd (cs := #[.int .i64 0, .int .i64 0]) (t := 165) ?hr ?_; (case hd => rfl); (case hg => rfl); (case hr => (go_simp; done)); intro gb175 hg w16 hbox hb; have n0_ := Aside0.mk (Kd.R_below HO_6.out hb); have n1_ := Aside0.mk (Kd.R_below (Kd.R_elderB HO_21.out gb175 (Nat.le_of_eq hg.symm)) hb); have n2_ := Aside0.mk (below_step HB.out hb); have n3_ := Aside0.mk (hbox); have n4_ := Aside0.mk ((by rw [hg]; exact (below_size HB.out) : w.heap.size ≤ gb175)); have n5_ := Aside0.mk ((by rw [hg]; exact (below_size HB.out) : w.heap.size ≤ gb175)); revert n0_ n1_ n2_ n3_ n4_ n5_; clear HO_6 HO_21 HB; intro HO_6 HO_21 HB BK175 GW175 GE175; clear hb hbox hg; have hcz17_0 : w16.cell? ⟨gb175, 0, none⟩ = some (.int .i64 0) := (blk_cell BK175.out 0).trans rfl; have hcz17_1 : w16.cell? ⟨gb175, 1, none⟩ = some (.int .i64 0) := (blk_cell BK175.out 1).trans rfl; have hfz17_0 := blk_frozen BK175.out 0; have hfz17_1 := blk_frozen BK175.out 1) | ((with_reducible refine gate_callee (f := 135) rfl ?_); refine goL_ Tryz.func135 #[.int .i64 ((rd_T165 t167 x23_1).f0)] ?_; (with_reducible refine (bits_Fold.calls ((rd_T165 t167 x23_1).f0) t176 _ A11.out).mono ?_); rintro e w' ⟨rfl, ⟨nd, rfl⟩⟩; refine ⟨_, rfl, ?_⟩) | ((with_reducible refine gate_callee (f := 71) rfl ?_); refine goL_ Tryz.func71 #[.int .u64 t176] ?_; (with_reducible refine (vint_Put.calls k1 t176 t177 _ A12.out).mono ?_); rintro e w18 ⟨v178, rfl, ho0, hb⟩; refine ⟨_, rfl, ?_⟩; have n0_ := Aside0.mk (Kd.R_elder' (by (with_reducible repeat (apply Kd.R_drewN)); exact (Kd.R_mono (Kd.R_far (p := ⟨gb175, 1, none⟩) (Kd.R_far (p := ⟨gb175, 0, none⟩) (Kd.R_types HO_6.out BK175.out (by decide)) (fun _ hk => hk.2) (.int .i64 ((rd_T165 t167 x23_1).f0))) (fun _ hk => hk.2) (.int .i64 ((rd_T165 t167 x23_1).f1))) (fun _ h_ => h_.1))) (Kd.R_base ho0) hb); have n1_ := Aside0.mk (Kd.R_below (by (with_reducible repeat (apply Kd.R_drewN)); exact (Kd.R_mono (Kd.R_far (p := ⟨gb175, 1, none⟩) (Kd.R_far (p := ⟨gb175, 0, none⟩) (Kd.R_mono HO_21.out (fun k_ hk => (⟨hk, hk.2⟩ : _ ∧ k_ ≠ gb175))) (fun _ hk => hk.2) (.int .i64 ((rd_T165 t167 x23_1).f0))) (fun _ hk => hk.2) (.int .i64 ((rd_T165 t167 x23_1).f1))) (fun _ h_ => h_.1))) hb); have n2_ := Aside0.mk (Kd.R_lower (Kd.R_new' ho0 (Kd.R_lt (by (with_reducible repeat (apply Kd.R_drewN)); exact (Kd.R_mono (Kd.R_far (p := ⟨gb175, 1, none⟩) (Kd.R_far (p := ⟨gb175, 0, none⟩) (Kd.R_types HO_6.out BK175.out (by decide)) (fun _ hk => hk.2) (.int .i64 ((rd_T165 t167 x23_1).f0))) (fun _ hk => hk.2) (.int .i64 ((rd_T165 t167 x23_1).f1))) (fun _ h_ => h_.1))))) (below_size (by repeat ((with_reducible first | exact HB.out | apply pw_below_drewN | refine below_set ?_ GE175.out))))); have n3_ := Aside0.mk (blk_below (g := gb175) (o := .cells #[.int .i64 ((rd_T165 t167 x23_1).f0), .int .i64 ((rd_T165 t167 x23_1).f1)] 165 (0, 0)) (by (with_reducible repeat (refine blk_drewN ?_ _)); refine blk_put (cs := #[.int .i64 ((rd_T165 t167 x23_1).f0), .int .i64 0]) ?_ 1 _ rfl; (with_reducible repeat (refine blk_drewN ?_ _)); refine blk_put (cs := #[.int .i64 0, .int .i64 0]) ?_ 0 _ rfl; (with_reducible repeat (refine blk_drewN ?_ _)); exact BK175.out) hb); have n4_ := Aside0.mk (below_step (by repeat ((with_reducible first | exact HB.out | apply pw_below_drewN | refine below_set ?_ GE175.out))) hb); revert n0_ n1_ n2_ n3_ n4_; clear HO_6 HO_21 BK175 HB; intro HO_6 HO_21 HO179 BK175 HB; (try clear hb); (try clear ho0); obtain ⟨Ao20, co20, eo20⟩ := Kd.R_slice HO179.out; subst eo20) | ((with_reducible refine gate_builtin (b := .append) (xs := #[.tmp 27, .tmp 31]) rfl ?_); at_builtin; refine Kd.R_append_rows (Kd.int .u8) (w0 := w) w.heap.size rfl (.tmp 27) (.tmp 31) 24 5 (.int .u8 0) 1 rfl Tryz.underlying24 info5 rfl (by decide) (by omega) u6 x6_1 t177 _ _ _ (fun k_ => some k_ ≠ (.slice Ao20 t177.length co20 : Value).ownBlock) (fun _ => False) rfl rfl ?aO ?aR (fun _ _ h => h) (fun _ h => h.elim) ?aF ?aB ?aS ?aL ?_; (case aR => repeat (exact (Kd.R_reads' HO179.out).2.2)); (case aB => exact HB.out); (case aF => exact (fun k_ hk => Kd.fresh' (Kd.R_lt HO179.out) k_ hk)); (case aO => exact (by (with_reducible repeat (apply Kd.R_alloc)); exact Kd.R_mono HO_6.out (fun _ hk => hk.2))); (case aS => exact (below_size HB.out)); (case aL => have := LMc13.out; omega); intro v181 w19 ho hb hg hat; rw [← Ny180.out] at ho; have n0_ := Aside0.mk (Kd.R_over' HO_21.out (Kd.R_typed HO_6.out) (by decide) hg); have n1_ := Aside0.mk (blk_grown (g := gb175) (o := .cells #[.int .i64 ((rd_T165 t167 x23_1).f0), .int .i64 ((rd_T165 t167 x23_1).f1)] 165 (0, 0)) (by (with_reducible repeat (refine blk_drewN ?_ _)); exact BK175.out) hg (Kd.R_ne HO_6.out BK175.out (by decide))); have n2_ := Aside0.mk (Kd.R_after (ok := (fun _ => True)) HO179.out hg hat); have n3_ := Aside0.mk (hb); have n4_ := Aside0.mk (ho); revert n0_ n1_ n2_ n3_ n4_; clear HO_21 BK175 HO179 HB HO_6; intro HO_21 BK175 HO179 HB HO182; clear ho hb hg hat; have hcz21_0 : w19.cell? ⟨gb175, 0, none⟩ = some (.int .i64 ((rd_T165 t167 x23_1).f0)) := (blk_cell BK175.out 0).trans rfl; have hcz21_1 : w19.cell? ⟨gb175, 1, none⟩ = some (.int .i64 ((rd_T165 t167 x23_1).f1)) := (blk_cell BK175.out 1).trans rfl; have hfz21_0 := blk_frozen BK175.out 0; have hfz21_1 := blk_frozen BK175.out 1) | ((with_reducible refine gate_callee (f := 71) rfl ?_); refine goL_ Tryz.func71 #[.int .u64 (IntKind.u64.wrap ((rd_T165 t167 x23_1).f1))] ?_; (with_reducible refine (vint_Put.calls k1 (IntKind.u64.wrap ((rd_T165 t167 x23_1).f1)) t183 _ A14.out).mono ?_); rintro e w22 ⟨v184, rfl, ho0, hb⟩; refine ⟨_, rfl, ?_⟩; have n0_ := Aside0.mk (Kd.R_below HO_21.out hb); have n1_ := Aside0.mk (Kd.R_elder' HO179.out (Kd.R_base ho0) hb); have n2_ := Aside0.mk (Kd.R_elder' HO182.out (Kd.R_base ho0) hb); have n3_ := Aside0.mk (Kd.R_lower (Kd.R_new' (Kd.R_new' ho0 (Kd.R_lt HO179.out)) (Kd.R_lt HO182.out)) (below_size HB.out)); have n4_ := Aside0.mk (blk_below (g := gb175) (o := .cells #[.int .i64 ((rd_T165 t167 x23_1).f0), .int .i64 ((rd_T165 t167 x23_1).f1)] 165 (0, 0)) (by (with_reducible repeat (refine blk_drewN ?_ _)); exact BK175.out) hb); have n5_ := Aside0.mk (below_step HB.out hb); revert n0_ n1_ n2_ n3_ n4_ n5_; clear HO_21 HO179 HO182 BK175 HB; intro HO_21 HO179 HO182 HO185 BK175 HB; (try clear hb); (try clear ho0); obtain ⟨Ao24, co24, eo24⟩ := Kd.R_slice HO185.out; subst eo24) | ((with_reducible refine gate_builtin (b := .append) (xs := #[.tmp 33, .tmp 37]) rfl ?_); at_builtin; refine Kd.R_append_rows (Kd.int .u8) (w0 := w) w.heap.size rfl (.tmp 33) (.tmp 37) 24 5 (.int .u8 0) 1 rfl Tryz.underlying24 info5 rfl (by decide) (by omega) v181 y180 t183 _ _ _ (fun k_ => some k_ ≠ (.slice Ao20 t177.length co20 : Value).ownBlock ∧ some k_ ≠ (.slice Ao24 t183.length co24 : Value).ownBlock) (fun _ => False) rfl rfl ?aO ?aR (fun _ _ h => h) (fun _ h => h.elim) ?aF ?aB ?aS ?aL ?_; (case aR => repeat (exact (Kd.R_reads' HO185.out).2.2)); (case aB => exact HB.out); (case aF => exact (fun k_ hk => ⟨Kd.fresh' (Kd.R_lt HO179.out) k_ hk, Kd.fresh' (Kd.R_lt HO185.out) k_ hk⟩)); (case aO => exact HO182.out); (case aS => exact (below_size HB.out)); (case aL => have := LMc15.out; omega); intro v187 w23 ho hb hg hat; rw [← Ny186.out] at ho; have n0_ := Aside0.mk (Kd.R_over' HO_21.out (Kd.R_typed HO182.out) (by decide) hg); have n1_ := Aside0.mk (blk_grown (g := gb175) (o := .cells #[.int .i64 ((rd_T165 t167 x23_1).f0), .int .i64 ((rd_T165 t167 x23_1).f1)] 165 (0, 0)) (by (with_reducible repeat (refine blk_drewN ?_ _)); exact BK175.out) hg (Kd.R_ne HO182.out BK175.out (by decide))); have n2_ := Aside0.mk (Kd.R_after (ok := (fun k_ => some k_ ≠ (.slice Ao24 t183.length co24 : Value).ownBlock)) (by (with_reducible repeat (apply Kd.R_alloc)); exact Kd.R_mono HO179.out (fun _ hk => ⟨hk.2, hk.1.2⟩)) hg hat); have n3_ := Aside0.mk (Kd.R_after (ok := (fun k_ => some k_ ≠ (.slice Ao20 t177.length co20 : Value).ownBlock)) (by (with_reducible repeat (apply Kd.R_alloc)); exact Kd.R_mono HO185.out (fun _ hk => ⟨hk.1.2, hk.2⟩)) hg hat); have n4_ := Aside0.mk (hb); have n5_ := Aside0.mk (ho); revert n0_ n1_ n2_ n3_ n4_ n5_; clear HO_21 BK175 HO179 HO185 HB HO182; intro HO_21 BK175 HO179 HO185 HB HO188; clear ho hb hg hat))
         go_roundg k1
         case measure => have := HK1.out; omega
         case rel => exact ⟨(y186), (wrap64 (x23_1 + 1)), (by rfl), H', ⟨by have := HK1.out; omega⟩, ⟨by (with_reducible repeat (apply Kd.R_alloc)); exact Kd.R_mono HO188.out (fun _ hk => trivial)⟩, ⟨by (with_reducible repeat (apply Kd.R_alloc)); exact Kd.R_mono HO_21.out (fun _ hk => trivial)⟩, ⟨by exact HB.out⟩⟩
        rw [if_neg c15] at H
        exact absurd H (by simp)
       rw [if_neg c13] at H
       exact absurd H (by simp)
      rw [if_neg c10] at H
      exact absurd H (by simp)
     rw [if_neg c9] at H
     exact absurd H (by simp)
    rw [if_neg c8] at H
    have c8b0 : decide (x23_1 < (t167.length : Int)) = false := decide_eq_false c8
    clear c8
    simp only [Option.some.injEq, Prod.mk.injEq] at H
    obtain ⟨rfl, rfl⟩ := H
    go_wp2
    go_ret2
    exact ⟨_, by rfl, by (with_reducible repeat (apply Kd.R_alloc)); exact HO_6.out, by exact HB.out⟩
 rw [if_neg c3] at H
 have c3b0 : (t168 == 0) = false := beq_eq_false_iff_ne.mpr c3
 have c3b1 : (t168 != 0) = true := bne_iff_ne.mpr c3
 simp only [Option.some.injEq, Prod.mk.injEq] at H
 obtain ⟨rfl, rfl⟩ := H
 go_enter Tryz.func103, Tryz.ntmps103
 go_wp2_with ((refine goL_ Tryz.func134 #[.slice A0 l0.length c0] ?_; (with_reducible refine (runs_Split.calls k _ _ l0 t167 t168 _ (HR0.out) (HC0.out) A2.out).mono ?_); rintro e w25 ⟨v169, rfl, ho0, hb⟩; refine ⟨_, rfl, ?_⟩; have n0_ := Aside0.mk (Kd.R_lower ho0 (below_size HB.out)); have n1_ := Aside0.mk (below_step HB.out hb); revert n0_ n1_; clear HB; intro HO170 HB; (try clear hb); (try clear ho0)))
 go_ret2
 exact ⟨_, by rfl, by exact Kd.R_nil _ _ _ _ _, by exact HB.out⟩
def block_numbers.l0 : Nat → List Int → List (S62) → Int → Int → Option (List Int)
 | 0, _, _, _, _ => none
 | k + 1, x3, x6, x7, x8 => if x8 < x7 then (if 0 ≤ x8 then (if x8 < (x6.length : Int) then (if ((rd_T62 x6 x8).f0 = true) then (block_numbers.l0 k x3 x6 x7 (wrap64 (x8 + 1))) else (if x3.length < 17592186044416 then (block_numbers.l0 k (x3 ++ [(rd_T62 x6 x8).f1]) x6 x7 (wrap64 (x8 + 1))) else (none))) else (none)) else (none)) else (some x3)
def block_numbers.f (k : Nat) (l0 : List (S62)) : Option (List Int) := block_numbers.l0 k ([] : List Int) l0 (l0.length : Int) 0
set_option maxHeartbeats 8000000 in
set_option maxRecDepth 100000 in
theorem block_numbers.calls (k : Nat) (A0 : Option Addr) (c0 : Nat) (l0 : List (S62)) (r : List Int) (w : World) (hr0 : Kd.C k62 w A0 l0.length l0) (hc0 : l0.length ≤ c0) (h : block_numbers.f k l0 = some r) :
 Calls Tryz.prog 104 #[.slice A0 l0.length c0] w fun e w' => ∃ v0_ : Value, e = .returned (v0_) ∧ Kd.R (Kd.int .i64) 2 w' w.heap.size (fun _ => True) v0_ r ∧ Below w.heap.size w w' := by
 have hu62 := Tryz.underlying62
 have HR0 := Aside0.mk hr0
 have HC0 := Aside0.mk hc0
 clear hr0 hc0
 have HB := Aside0.mk (Below.refl w.heap.size w)
 unfold block_numbers.f at h
 have H := h
 clear h
 have H' := Aside0.mk H
 clear H
 go_enter Tryz.func104, Tryz.ntmps104
 go_wp2
 go_loopg [3, 8] k (fun kq v3 v8 w' => ∃ (x3_1 : List Int) (x8_1 : Int), v8 = .int .i64 x8_1 ∧ Aside0 (block_numbers.l0 kq x3_1 l0 (l0.length : Int) x8_1 = some r) ∧ Aside0 (kq ≤ k) ∧ Aside0 (Kd.R (Kd.int .i64) 2 w' w.heap.size (fun _ => True) v3 x3_1) ∧ Aside0 (Below w.heap.size w w'))
 case atStart => exact ⟨(([] : List Int)), (0), (by rfl), H', ⟨Nat.le_refl _⟩, ⟨by exact Kd.R_nil _ _ _ _ _⟩, ⟨by exact HB.out⟩⟩
 case round =>
  clear H'
  obtain ⟨x3_1, x8_1, rfl, HA, HK1, HO_3, HB⟩ := hrel
  cases gk with
  | zero => exact absurd HA.out (by simp [block_numbers.l0])
  | succ k1 =>
   have H := HA.out
   clear HA
   simp only [block_numbers.l0] at H
   by_cases c2 : x8_1 < (l0.length : Int)
   ·rw [if_pos c2] at H
    have c2b0 : decide (x8_1 < (l0.length : Int)) = true := decide_eq_true c2
    clear c2
    by_cases c3 : 0 ≤ x8_1
    ·rw [if_pos c3] at H
     have c3b0 : decide (0 ≤ x8_1) = true := decide_eq_true c3
     clear c3
     by_cases c4 : x8_1 < (l0.length : Int)
     ·rw [if_pos c4] at H
      have c4b0 : decide (x8_1 < (l0.length : Int)) = true := decide_eq_true c4
      clear c4
      obtain ⟨bq5, hbq5⟩ : ∃ b_ : Bool, b_ = ((rd_T62 l0 x8_1).f0) := ⟨_, rfl⟩
      replace H : (if (bq5 = true) then (block_numbers.l0 k1 x3_1 l0 (l0.length : Int) (wrap64 (x8_1 + 1))) else (if x3_1.length < 17592186044416 then (block_numbers.l0 k1 (x3_1 ++ [(rd_T62 l0 x8_1).f1]) l0 (l0.length : Int) (wrap64 (x8_1 + 1))) else (none))) = some r := by rw [← hbq5] at H; exact H
      have Nbq5 := Aside0.mk hbq5
      clear hbq5
      by_cases c6 : (bq5 = true)
      ·subst c6
       have H1 : (block_numbers.l0 k1 x3_1 l0 (l0.length : Int) (wrap64 (x8_1 + 1))) = some r := by rw [if_pos rfl] at H; exact H
       clear H
       have H := H1
       clear H1
       have H' := Aside0.mk H
       clear H
       have p189 : 0 ≤ (x8_1 : Int) := of_decide_eq_true ‹_›
       have q189 : x8_1 < (l0.length : Int) := of_decide_eq_true ‹_›
       obtain ⟨ad189, A189_2, c189_2, e189, hx189_0, hx189_1, hx189_2, hl189_2, hi189_2⟩ := at_T62 HR0.out x8_1 p189 q189
       (try rw [← Nbq5.out] at hx189_0)
       cases e189
       replace hx189_0 := (HB.out.cell (World.block_lt_of_cell? w _ hx189_0)).trans hx189_0
       replace hx189_1 := (HB.out.cell (World.block_lt_of_cell? w _ hx189_1)).trans hx189_1
       replace hx189_2 := (HB.out.cell (World.block_lt_of_cell? w _ hx189_2)).trans hx189_2
       have HR189_2 := Aside0.mk hi189_2
       have HC189_2 := Aside0.mk hl189_2
       clear hi189_2 hl189_2
       replace p189 := eq_true p189
       replace q189 := eq_true q189
       go_wp2_with ((refine box_event ?hg (N := 5) ?hd (cs := #[.bool false, .int .i64 0, .slice none 0 0]) (t := 62) ?hr ?_; (case hd => rfl); (case hg => rfl); (case hr => (go_simp; done)); intro gb190 hg w7 hbox hb; have n0_ := Aside0.mk (Kd.R_below HO_3.out hb); have n1_ := Aside0.mk (below_step HB.out hb); have n2_ := Aside0.mk (hbox); have n3_ := Aside0.mk ((by rw [hg]; exact (below_size HB.out) : w.heap.size ≤ gb190)); have n4_ := Aside0.mk ((by rw [hg]; exact (below_size HB.out) : w.heap.size ≤ gb190)); revert n0_ n1_ n2_ n3_ n4_; clear HO_3 HB; intro HO_3 HB BK190 GW190 GE190; clear hb hbox hg; have hcz8_0 : w7.cell? ⟨gb190, 0, none⟩ = some (.bool false) := (blk_cell BK190.out 0).trans rfl; have hcz8_1 : w7.cell? ⟨gb190, 1, none⟩ = some (.int .i64 0) := (blk_cell BK190.out 1).trans rfl; have hcz8_2 : w7.cell? ⟨gb190, 2, none⟩ = some (.slice none 0 0) := (blk_cell BK190.out 2).trans rfl; have hfz8_0 := blk_frozen BK190.out 0; have hfz8_1 := blk_frozen BK190.out 1; have hfz8_2 := blk_frozen BK190.out 2))
       go_roundg k1
       case measure => have := HK1.out; omega
       case rel => exact ⟨(x3_1), (wrap64 (x8_1 + 1)), (by rfl), H', ⟨by have := HK1.out; omega⟩, ⟨by (with_reducible repeat (apply Kd.R_alloc)); exact Kd.R_mono (Kd.R_far (p := ⟨gb190, 2, none⟩) (Kd.R_far (p := ⟨gb190, 1, none⟩) (Kd.R_far (p := ⟨gb190, 0, none⟩) (Kd.R_types HO_3.out BK190.out (by decide)) (fun _ hk => hk.2) (.bool true)) (fun _ hk => hk.2) (.int .i64 ((rd_T62 l0 x8_1).f1))) (fun _ hk => hk.2) (.slice A189_2 ((rd_T62 l0 x8_1).f2).length c189_2)) (fun _ hk => trivial)⟩, ⟨by repeat ((with_reducible first | exact HB.out | refine below_set ?_ GE190.out))⟩⟩
      replace c6 := Bool.eq_false_iff.mpr c6
      subst c6
      have H1 : (if x3_1.length < 17592186044416 then (block_numbers.l0 k1 (x3_1 ++ [(rd_T62 l0 x8_1).f1]) l0 (l0.length : Int) (wrap64 (x8_1 + 1))) else (none)) = some r := by rw [if_neg (show ¬ (false = true) by decide)] at H; exact H
      clear H
      have H := H1
      clear H1
      by_cases c9 : x3_1.length < 17592186044416
      ·rw [if_pos c9] at H
       have LMc9 := Aside0.mk c9
       clear c9
       obtain ⟨y191, hy191⟩ : ∃ y_ : List Int, y_ = (x3_1 ++ [(rd_T62 l0 x8_1).f1]) := ⟨_, rfl⟩
       replace H : (block_numbers.l0 k1 y191 l0 (l0.length : Int) (wrap64 (x8_1 + 1))) = some r := by (rw [hy191]; with_reducible exact H)
       have Ny191 := Aside0.mk hy191
       clear hy191
       have H' := Aside0.mk H
       clear H
       have p189 : 0 ≤ (x8_1 : Int) := of_decide_eq_true ‹_›
       have q189 : x8_1 < (l0.length : Int) := of_decide_eq_true ‹_›
       obtain ⟨ad189, A189_2, c189_2, e189, hx189_0, hx189_1, hx189_2, hl189_2, hi189_2⟩ := at_T62 HR0.out x8_1 p189 q189
       (try rw [← Nbq5.out] at hx189_0)
       cases e189
       replace hx189_0 := (HB.out.cell (World.block_lt_of_cell? w _ hx189_0)).trans hx189_0
       replace hx189_1 := (HB.out.cell (World.block_lt_of_cell? w _ hx189_1)).trans hx189_1
       replace hx189_2 := (HB.out.cell (World.block_lt_of_cell? w _ hx189_2)).trans hx189_2
       have HR189_2 := Aside0.mk hi189_2
       have HC189_2 := Aside0.mk hl189_2
       clear hi189_2 hl189_2
       replace p189 := eq_true p189
       replace q189 := eq_true q189
       go_wp2_with (first | ((with_reducible refine gate_dst (N := 5) rfl ?_); refine box_event ?hg (N := 5) ?hd (cs := #[.bool false, .int .i64 0, .slice none 0 0]) (t := 62) ?hr ?_; (case hd => rfl); (case hg => rfl); (case hr => (go_simp; done)); intro gb190 hg w10 hbox hb; have n0_ := Aside0.mk (Kd.R_below HO_3.out hb); have n1_ := Aside0.mk (below_step HB.out hb); have n2_ := Aside0.mk (hbox); have n3_ := Aside0.mk ((by rw [hg]; exact (below_size HB.out) : w.heap.size ≤ gb190)); have n4_ := Aside0.mk ((by rw [hg]; exact (below_size HB.out) : w.heap.size ≤ gb190)); revert n0_ n1_ n2_ n3_ n4_; clear HO_3 HB; intro HO_3 HB BK190 GW190 GE190; clear hb hbox hg; have hcz11_0 : w10.cell? ⟨gb190, 0, none⟩ = some (.bool false) := (blk_cell BK190.out 0).trans rfl; have hcz11_1 : w10.cell? ⟨gb190, 1, none⟩ = some (.int .i64 0) := (blk_cell BK190.out 1).trans rfl; have hcz11_2 : w10.cell? ⟨gb190, 2, none⟩ = some (.slice none 0 0) := (blk_cell BK190.out 2).trans rfl; have hfz11_0 := blk_frozen BK190.out 0; have hfz11_1 := blk_frozen BK190.out 1; have hfz11_2 := blk_frozen BK190.out 2) | ((with_reducible refine gate_builtin (b := .append) (xs := #[.tmp 15, .tmp 18]) rfl ?_); at_builtin; refine Kd.R_append (Kd.int .i64) (w0 := w) w.heap.size rfl (.tmp 15) (.tmp 18) 114 2 (.int .i64 0) 8 rfl Tryz.underlying114 info2 rfl (by decide) (by omega) u3 x3_1 ((rd_T62 l0 x8_1).f1) [.int .i64 ((rd_T62 l0 x8_1).f1)] (fun _ => True) (fun _ => False) rfl (by (go_simp; done)) ?aP (fun _ hk => hk.elim) ?aF ?aO ?aB ?aS ?aL ?_; (case aP => exact rfl); (case aB => exact (by repeat ((with_reducible first | exact HB.out | refine below_set ?_ GE190.out)))); (case aF => exact (fun _ _ => trivial)); (case aO => exact (by (with_reducible repeat (apply Kd.R_alloc)); exact Kd.R_mono (Kd.R_far (p := ⟨gb190, 2, none⟩) (Kd.R_far (p := ⟨gb190, 1, none⟩) (Kd.R_far (p := ⟨gb190, 0, none⟩) (Kd.R_types HO_3.out BK190.out (by decide)) (fun _ hk => hk.2) (.bool false)) (fun _ hk => hk.2) (.int .i64 ((rd_T62 l0 x8_1).f1))) (fun _ hk => hk.2) (.slice A189_2 ((rd_T62 l0 x8_1).f2).length c189_2)) (fun _ hk => trivial))); (case aS => exact (below_size (by repeat ((with_reducible first | exact HB.out | refine below_set ?_ GE190.out))))); (case aL => have := LMc9.out; omega); intro v192 w12 ho hb hg hat; rw [← Ny191.out] at ho; have n0_ := Aside0.mk (blk_grown (g := gb190) (o := .cells #[.bool false, .int .i64 ((rd_T62 l0 x8_1).f1), .slice A189_2 ((rd_T62 l0 x8_1).f2).length c189_2] 62 (0, 0)) (by (with_reducible repeat (refine blk_drewN ?_ _)); refine blk_put (cs := #[.bool false, .int .i64 ((rd_T62 l0 x8_1).f1), .slice none 0 0]) ?_ 2 _ rfl; (with_reducible repeat (refine blk_drewN ?_ _)); refine blk_put (cs := #[.bool false, .int .i64 0, .slice none 0 0]) ?_ 1 _ rfl; (with_reducible repeat (refine blk_drewN ?_ _)); refine blk_put (cs := #[.bool false, .int .i64 0, .slice none 0 0]) ?_ 0 _ rfl; (with_reducible repeat (refine blk_drewN ?_ _)); exact BK190.out) hg (Kd.R_ne HO_3.out BK190.out (by decide))); have n1_ := Aside0.mk (hb); have n2_ := Aside0.mk (ho); revert n0_ n1_ n2_; clear BK190 HB HO_3; intro BK190 HB HO193; clear ho hb hg hat))
       go_roundg k1
       case measure => have := HK1.out; omega
       case rel => exact ⟨(y191), (wrap64 (x8_1 + 1)), (by rfl), H', ⟨by have := HK1.out; omega⟩, ⟨by (with_reducible repeat (apply Kd.R_alloc)); exact HO193.out⟩, ⟨by exact HB.out⟩⟩
      rw [if_neg c9] at H
      exact absurd H (by simp)
     rw [if_neg c4] at H
     exact absurd H (by simp)
    rw [if_neg c3] at H
    exact absurd H (by simp)
   rw [if_neg c2] at H
   have c2b0 : decide (x8_1 < (l0.length : Int)) = false := decide_eq_false c2
   clear c2
   obtain rfl := Option.some.inj H
   go_wp2
   go_ret
   exact ⟨_, by rfl, by (with_reducible repeat (apply Kd.R_alloc)); exact HO_3.out, by exact HB.out⟩
def slices_Min_int64_int64.l0 : Nat → List Int → Int → Int → Option (Int)
 | 0, _, _, _ => none
 | k + 1, x0, x3, x4 => if x4 < (x0.length : Int) then (if 0 ≤ x4 then (slices_Min_int64_int64.l0 k x0 (mn x3 (rd x0 x4)) (wrap64 (x4 + 1))) else (none)) else (some x3)
def slices_Min_int64_int64.f (k : Nat) (l0 : List Int) : Option (Int) := if (l0.length : Int) < 1 then (none) else (if 0 < (l0.length : Int) then (slices_Min_int64_int64.l0 k l0 (rd l0 0) 1) else (none))
set_option maxHeartbeats 8000000 in
set_option maxRecDepth 100000 in
theorem slices_Min_int64_int64.calls (k : Nat) (A0 : Option Addr) (c0 : Nat) (l0 : List Int) (r : Int) (w : World) (hr0 : Kd.C (Kd.int .i64) w A0 l0.length l0) (hc0 : l0.length ≤ c0) (h : slices_Min_int64_int64.f k l0 = some r) :
 Calls Tryz.prog 136 #[.slice A0 l0.length c0] w fun e w' => e = .returned (.int .i64 r) ∧ Below w.heap.size w w' := by
 have HR0 := Aside0.mk hr0
 have HC0 := Aside0.mk hc0
 clear hr0 hc0
 have HB := Aside0.mk (Below.refl w.heap.size w)
 unfold slices_Min_int64_int64.f at h
 have H := h
 clear h
 by_cases c2 : (l0.length : Int) < 1
 ·rw [if_pos c2] at H
  exact absurd H (by simp)
 rw [if_neg c2] at H
 have c2b0 : decide ((l0.length : Int) < 1) = false := decide_eq_false c2
 have c2b1 : decide (l0.length < 1) = false := decide_eq_false (by omega)
 clear c2
 by_cases c3 : 0 < (l0.length : Int)
 ·rw [if_pos c3] at H
  have c3b0 : decide (0 < (l0.length : Int)) = true := decide_eq_true c3
  have c3b1 : decide (0 < l0.length) = true := decide_eq_true (by omega)
  clear c3
  have H' := Aside0.mk H
  clear H
  have p194 : 0 ≤ (0 : Int) := (by omega)
  have q194 : 0 < (l0.length : Int) := of_decide_eq_true ‹_›
  obtain ⟨ad194, e194, hx194_0⟩ := Kd.at_int HR0.out 0 p194 q194
  cases e194
  have qi194 : (0 < l0.length) = True := eq_true (by omega)
  (try rw [show ((0 : Int)).toNat = 0 from rfl] at hx194_0)
  (try rw [Addr.add_zero'] at hx194_0)
  replace p194 := eq_true p194
  replace q194 := eq_true q194
  go_enter Tryz.func136, Tryz.ntmps136
  go_wp2
  go_loopg [3, 4] k (fun kq v3 v4 w' => ∃ (x3_1 : Int) (x4_1 : Int), v3 = .int .i64 x3_1 ∧ v4 = .int .i64 x4_1 ∧ Aside0 (slices_Min_int64_int64.l0 kq l0 x3_1 x4_1 = some r) ∧ Aside0 (kq ≤ k) ∧ Aside0 (Below w.heap.size w w'))
  case atStart => exact ⟨(rd l0 0), (1), (by rfl), (by rfl), H', ⟨Nat.le_refl _⟩, ⟨by exact HB.out⟩⟩
  case round =>
   clear H'
   try clear c2b0
   try clear c2b1
   try clear c3b0
   try clear c3b1
   try clear hx194_0
   try clear p194
   try clear q194
   obtain ⟨x3_1, x4_1, rfl, rfl, HA, HK1, HB⟩ := hrel
   cases gk with
   | zero => exact absurd HA.out (by simp [slices_Min_int64_int64.l0])
   | succ k1 =>
    have H := HA.out
    clear HA
    simp only [slices_Min_int64_int64.l0] at H
    by_cases c4 : x4_1 < (l0.length : Int)
    ·rw [if_pos c4] at H
     have c4b0 : decide (x4_1 < (l0.length : Int)) = true := decide_eq_true c4
     clear c4
     by_cases c5 : 0 ≤ x4_1
     ·rw [if_pos c5] at H
      have c5b0 : decide (0 ≤ x4_1) = true := decide_eq_true c5
      clear c5
      obtain ⟨ji6, hji6⟩ : ∃ j_ : Int, (mn x3_1 (rd l0 x4_1)) = j_ := ⟨_, rfl⟩
      replace H : (slices_Min_int64_int64.l0 k1 l0 ji6 (wrap64 (x4_1 + 1))) = some r := by (rw [hji6] at H; exact H)
      have hji6_ : (if (rd l0 x4_1) < x3_1 then (rd l0 x4_1) else x3_1) = ji6 := hji6
      have H' := Aside0.mk H
      clear H
      have p195 : 0 ≤ (x4_1 : Int) := of_decide_eq_true ‹_›
      have q195 : x4_1 < (l0.length : Int) := of_decide_eq_true ‹_›
      obtain ⟨ad195, e195, hx195_0⟩ := Kd.at_int HR0.out x4_1 p195 q195
      obtain rfl : ad194 = ad195 := (by injection e195)
      replace hx195_0 := (HB.out.cell (World.block_lt_of_cell? w _ hx195_0)).trans hx195_0
      replace p195 := eq_true p195
      replace q195 := eq_true q195
      go_wp2
      go_roundg k1
      case measure => have := HK1.out; omega
      case rel => exact ⟨(ji6), (wrap64 (x4_1 + 1)), (by rfl), (by rfl), H', ⟨by have := HK1.out; omega⟩, ⟨by exact HB.out⟩⟩
     rw [if_neg c5] at H
     exact absurd H (by simp)
    rw [if_neg c4] at H
    have c4b0 : decide (x4_1 < (l0.length : Int)) = false := decide_eq_false c4
    clear c4
    obtain rfl := Option.some.inj H
    go_wp2
    go_ret
    exact ⟨by rfl, by exact HB.out⟩
 rw [if_neg c3] at H
 exact absurd H (by simp)
def block_texts.l0 : Nat → List (List Int) → List (S62) → Int → Int → Option ((List (List Int)))
 | 0, _, _, _, _ => none
 | k + 1, x3, x6, x7, x8 => if x8 < x7 then (if 0 ≤ x8 then (if x8 < (x6.length : Int) then (if ((rd_T62 x6 x8).f0 = true) then (block_texts.l0 k x3 x6 x7 (wrap64 (x8 + 1))) else (if x3.length < 5864062014805 then (block_texts.l0 k (x3 ++ [(rd_T62 x6 x8).f2]) x6 x7 (wrap64 (x8 + 1))) else (none))) else (none)) else (none)) else (some x3)
def block_texts.f (k : Nat) (l0 : List (S62)) : Option ((List (List Int))) := block_texts.l0 k ([] : List (List Int)) l0 (l0.length : Int) 0
set_option maxHeartbeats 8000000 in
set_option maxRecDepth 100000 in
theorem block_texts.calls (k : Nat) (P0_ : Nat → Prop) (A0 : Option Addr) (c0 : Nat) (l0 : List (S62)) (r : List (List Int)) (w : World) (hs0 : Kd.V k62 62 w w.heap.size (fun k_ => P0_ k_) (.slice A0 l0.length c0) l0) (h : block_texts.f k l0 = some r) :
 Calls Tryz.prog 107 #[.slice A0 l0.length c0] w fun e w' => ∃ v0_ : Value, e = .returned (v0_) ∧ Kd.N (Kd.slice 5 (Kd.int .u8)) 24 w' w.heap.size (fun k_ => (P0_ k_ ∨ w.heap.size ≤ k_)) v0_ r ∧ Below w.heap.size w w' := by
 have hu62 := Tryz.underlying62
 have HO0 := Aside0.mk (show Kd.V k62 62 w w.heap.size (fun k_ => (P0_ k_ ∨ w.heap.size ≤ k_)) (.slice A0 l0.length c0) l0 from Kd.V_mono hs0 (fun k_ hk => .inl hk))
 have HB := Aside0.mk (Below.refl w.heap.size w)
 unfold block_texts.f at h
 have H := h
 clear h
 have H' := Aside0.mk H
 clear H
 go_enter Tryz.func107, Tryz.ntmps107
 go_wp2
 go_loopg [3, 8] k (fun kq v3 v8 w' => ∃ (x3_1 : List (List Int)) (x8_1 : Int), v8 = .int .i64 x8_1 ∧ Aside0 (block_texts.l0 kq x3_1 l0 (l0.length : Int) x8_1 = some r) ∧ Aside0 (kq ≤ k) ∧ Aside0 (Kd.N (Kd.slice 5 (Kd.int .u8)) 24 w' w.heap.size (fun k_ => (P0_ k_ ∨ w.heap.size ≤ k_)) v3 x3_1) ∧ Aside0 (Kd.V k62 62 w' w.heap.size (fun k_ => (P0_ k_ ∨ w.heap.size ≤ k_) ∧ some k_ ≠ (v3 : Value).ownBlock) (.slice A0 l0.length c0) l0) ∧ Aside0 (Below w.heap.size w w'))
 case atStart => exact ⟨(([] : List (List Int))), (0), (by rfl), H', ⟨Nat.le_refl _⟩, ⟨by exact Kd.N_nil _ _ _ _ _⟩, ⟨by (with_reducible repeat (apply Kd.V_alloc)); exact Kd.V_mono HO0.out (fun _ hk => ⟨hk, (by simp [Value.ownBlock])⟩)⟩, ⟨by exact HB.out⟩⟩
 case round =>
  clear H'
  obtain ⟨x3_1, x8_1, rfl, HA, HK1, HO_3, HO_6, HB⟩ := hrel
  cases gk with
  | zero => exact absurd HA.out (by simp [block_texts.l0])
  | succ k1 =>
   have H := HA.out
   clear HA
   simp only [block_texts.l0] at H
   by_cases c2 : x8_1 < (l0.length : Int)
   ·rw [if_pos c2] at H
    have c2b0 : decide (x8_1 < (l0.length : Int)) = true := decide_eq_true c2
    clear c2
    by_cases c3 : 0 ≤ x8_1
    ·rw [if_pos c3] at H
     have c3b0 : decide (0 ≤ x8_1) = true := decide_eq_true c3
     clear c3
     by_cases c4 : x8_1 < (l0.length : Int)
     ·rw [if_pos c4] at H
      have c4b0 : decide (x8_1 < (l0.length : Int)) = true := decide_eq_true c4
      clear c4
      obtain ⟨bq5, hbq5⟩ : ∃ b_ : Bool, b_ = ((rd_T62 l0 x8_1).f0) := ⟨_, rfl⟩
      replace H : (if (bq5 = true) then (block_texts.l0 k1 x3_1 l0 (l0.length : Int) (wrap64 (x8_1 + 1))) else (if x3_1.length < 5864062014805 then (block_texts.l0 k1 (x3_1 ++ [(rd_T62 l0 x8_1).f2]) l0 (l0.length : Int) (wrap64 (x8_1 + 1))) else (none))) = some r := by rw [← hbq5] at H; exact H
      have Nbq5 := Aside0.mk hbq5
      clear hbq5
      by_cases c6 : (bq5 = true)
      ·subst c6
       have H1 : (block_texts.l0 k1 x3_1 l0 (l0.length : Int) (wrap64 (x8_1 + 1))) = some r := by rw [if_pos rfl] at H; exact H
       clear H
       have H := H1
       clear H1
       have H' := Aside0.mk H
       clear H
       have p266 : 0 ≤ (x8_1 : Int) := of_decide_eq_true ‹_›
       have q266 : x8_1 < (l0.length : Int) := of_decide_eq_true ‹_›
       obtain ⟨ad266, A266_2, c266_2, e266, hx266_0, hx266_1, hx266_2, hl266_2, hi266_2⟩ := at_T62 (Kd.V_reads' HO_6.out).2.2 x8_1 p266 q266
       (try rw [← Nbq5.out] at hx266_0)
       cases e266
       obtain ⟨ce266, hce266, hMe266, hcc266⟩ := Kd.V_get HO_6.out z62 x8_1 p266 q266
       obtain ⟨ua266_2, uc266_2, rfl, ul266_2, ge266_2⟩ := k62_openF hMe266
       have hv266_2 := hcc266 2 _ rfl
       rw [add_field _ _ 2 (by omega)] at hv266_2
       replace hv266_2 := Option.some.inj (hv266_2.symm.trans hx266_2)
       injection hv266_2 with hva_ hvn_ hvc_
       rw [hva_] at ge266_2
       rw [hvc_] at ul266_2
       have HL266_2 := Aside0.mk (show Kd.V (Kd.int .u8) 5 _ w.heap.size _ _ ((rd_T62 l0 x8_1).f2) from Kd.V_mk ul266_2 ge266_2)
       clear hva_ hvn_ hvc_ ge266_2 ul266_2
       clear hcc266 hce266
       have HR266_2 := Aside0.mk hi266_2
       have HC266_2 := Aside0.mk hl266_2
       clear hi266_2 hl266_2
       replace p266 := eq_true p266
       replace q266 := eq_true q266
       go_wp2_with ((refine box_event ?hg (N := 5) ?hd (cs := #[.bool false, .int .i64 0, .slice none 0 0]) (t := 62) ?hr ?_; (case hd => rfl); (case hg => rfl); (case hr => (go_simp; done)); intro gb267 hg w7 hbox hb; have n0_ := Aside0.mk (Kd.N_below (Kd.N_elderB HO_3.out gb267 (Nat.le_of_eq hg.symm)) hb); have n1_ := Aside0.mk (Kd.V_below (Kd.V_elderB HO_6.out gb267 (Nat.le_of_eq hg.symm)) hb); have n2_ := Aside0.mk (Kd.V_below (Kd.V_elderB HL266_2.out gb267 (Nat.le_of_eq hg.symm)) hb); have n3_ := Aside0.mk (Kd.C_below HR266_2.out hb); have n4_ := Aside0.mk (below_step HB.out hb); have n5_ := Aside0.mk (hbox); have n6_ := Aside0.mk ((by rw [hg]; exact (below_size HB.out) : w.heap.size ≤ gb267)); have n7_ := Aside0.mk ((by rw [hg]; exact (below_size HB.out) : w.heap.size ≤ gb267)); revert n0_ n1_ n2_ n3_ n4_ n5_ n6_ n7_; clear HO_3 HO_6 HL266_2 HR266_2 HB; intro HO_3 HO_6 HL266_2 HR266_2 HB BK267 GW267 GE267; clear hb hbox hg; have hcz8_0 : w7.cell? ⟨gb267, 0, none⟩ = some (.bool false) := (blk_cell BK267.out 0).trans rfl; have hcz8_1 : w7.cell? ⟨gb267, 1, none⟩ = some (.int .i64 0) := (blk_cell BK267.out 1).trans rfl; have hcz8_2 : w7.cell? ⟨gb267, 2, none⟩ = some (.slice none 0 0) := (blk_cell BK267.out 2).trans rfl; have hfz8_0 := blk_frozen BK267.out 0; have hfz8_1 := blk_frozen BK267.out 1; have hfz8_2 := blk_frozen BK267.out 2))
       go_roundg k1
       case measure => have := HK1.out; omega
       case rel => exact ⟨(x3_1), (wrap64 (x8_1 + 1)), (by rfl), H', ⟨by have := HK1.out; omega⟩, ⟨by (with_reducible repeat (apply Kd.N_alloc)); exact Kd.N_mono (Kd.N_far (p := ⟨gb267, 2, none⟩) (Kd.N_far (p := ⟨gb267, 1, none⟩) (Kd.N_far (p := ⟨gb267, 0, none⟩) (Kd.N_mono HO_3.out (fun k_ hk => (⟨hk, hk.2⟩ : _ ∧ k_ ≠ gb267))) (fun _ hk => hk.2) (.bool true)) (fun _ hk => hk.2) (.int .i64 ((rd_T62 l0 x8_1).f1))) (fun _ hk => hk.2) (.slice A266_2 ((rd_T62 l0 x8_1).f2).length c266_2)) (fun _ hk => hk.1.1)⟩, ⟨by (with_reducible repeat (apply Kd.V_alloc)); exact Kd.V_mono (Kd.V_far (p := ⟨gb267, 2, none⟩) (Kd.V_far (p := ⟨gb267, 1, none⟩) (Kd.V_far (p := ⟨gb267, 0, none⟩) (Kd.V_mono HO_6.out (fun k_ hk => (⟨hk, hk.2⟩ : _ ∧ k_ ≠ gb267))) (fun _ hk => hk.2) (.bool true)) (fun _ hk => hk.2) (.int .i64 ((rd_T62 l0 x8_1).f1))) (fun _ hk => hk.2) (.slice A266_2 ((rd_T62 l0 x8_1).f2).length c266_2)) (fun _ hk => ⟨hk.1.1.1, hk.1.1.2⟩)⟩, ⟨by repeat ((with_reducible first | exact HB.out | refine below_set ?_ GE267.out))⟩⟩
      replace c6 := Bool.eq_false_iff.mpr c6
      subst c6
      have H1 : (if x3_1.length < 5864062014805 then (block_texts.l0 k1 (x3_1 ++ [(rd_T62 l0 x8_1).f2]) l0 (l0.length : Int) (wrap64 (x8_1 + 1))) else (none)) = some r := by rw [if_neg (show ¬ (false = true) by decide)] at H; exact H
      clear H
      have H := H1
      clear H1
      by_cases c9 : x3_1.length < 5864062014805
      ·rw [if_pos c9] at H
       have LMc9 := Aside0.mk c9
       clear c9
       obtain ⟨y268, hy268⟩ : ∃ y_ : List (List Int), y_ = (x3_1 ++ [(rd_T62 l0 x8_1).f2]) := ⟨_, rfl⟩
       replace H : (block_texts.l0 k1 y268 l0 (l0.length : Int) (wrap64 (x8_1 + 1))) = some r := by (rw [hy268]; with_reducible exact H)
       have Ny268 := Aside0.mk hy268
       clear hy268
       have H' := Aside0.mk H
       clear H
       have p266 : 0 ≤ (x8_1 : Int) := of_decide_eq_true ‹_›
       have q266 : x8_1 < (l0.length : Int) := of_decide_eq_true ‹_›
       obtain ⟨ad266, A266_2, c266_2, e266, hx266_0, hx266_1, hx266_2, hl266_2, hi266_2⟩ := at_T62 (Kd.V_reads' HO_6.out).2.2 x8_1 p266 q266
       (try rw [← Nbq5.out] at hx266_0)
       cases e266
       obtain ⟨ce266, hce266, hMe266, hcc266⟩ := Kd.V_get HO_6.out z62 x8_1 p266 q266
       obtain ⟨ua266_2, uc266_2, rfl, ul266_2, ge266_2⟩ := k62_openF hMe266
       have hv266_2 := hcc266 2 _ rfl
       rw [add_field _ _ 2 (by omega)] at hv266_2
       replace hv266_2 := Option.some.inj (hv266_2.symm.trans hx266_2)
       injection hv266_2 with hva_ hvn_ hvc_
       rw [hva_] at ge266_2
       rw [hvc_] at ul266_2
       have HL266_2 := Aside0.mk (show Kd.V (Kd.int .u8) 5 _ w.heap.size _ _ ((rd_T62 l0 x8_1).f2) from Kd.V_mk ul266_2 ge266_2)
       clear hva_ hvn_ hvc_ ge266_2 ul266_2
       clear hcc266 hce266
       have HR266_2 := Aside0.mk hi266_2
       have HC266_2 := Aside0.mk hl266_2
       clear hi266_2 hl266_2
       replace p266 := eq_true p266
       replace q266 := eq_true q266
       go_wp2_with (first | ((with_reducible refine gate_dst (N := 5) rfl ?_); refine box_event ?hg (N := 5) ?hd (cs := #[.bool false, .int .i64 0, .slice none 0 0]) (t := 62) ?hr ?_; (case hd => rfl); (case hg => rfl); (case hr => (go_simp; done)); intro gb267 hg w10 hbox hb; have n0_ := Aside0.mk (Kd.N_below (Kd.N_elderB HO_3.out gb267 (Nat.le_of_eq hg.symm)) hb); have n1_ := Aside0.mk (Kd.V_below (Kd.V_elderB HO_6.out gb267 (Nat.le_of_eq hg.symm)) hb); have n2_ := Aside0.mk (Kd.V_below (Kd.V_elderB HL266_2.out gb267 (Nat.le_of_eq hg.symm)) hb); have n3_ := Aside0.mk (Kd.C_below HR266_2.out hb); have n4_ := Aside0.mk (below_step HB.out hb); have n5_ := Aside0.mk (hbox); have n6_ := Aside0.mk ((by rw [hg]; exact (below_size HB.out) : w.heap.size ≤ gb267)); have n7_ := Aside0.mk ((by rw [hg]; exact (below_size HB.out) : w.heap.size ≤ gb267)); revert n0_ n1_ n2_ n3_ n4_ n5_ n6_ n7_; clear HO_3 HO_6 HL266_2 HR266_2 HB; intro HO_3 HO_6 HL266_2 HR266_2 HB BK267 GW267 GE267; clear hb hbox hg; have hcz11_0 : w10.cell? ⟨gb267, 0, none⟩ = some (.bool false) := (blk_cell BK267.out 0).trans rfl; have hcz11_1 : w10.cell? ⟨gb267, 1, none⟩ = some (.int .i64 0) := (blk_cell BK267.out 1).trans rfl; have hcz11_2 : w10.cell? ⟨gb267, 2, none⟩ = some (.slice none 0 0) := (blk_cell BK267.out 2).trans rfl; have hfz11_0 := blk_frozen BK267.out 0; have hfz11_1 := blk_frozen BK267.out 1; have hfz11_2 := blk_frozen BK267.out 2) | ((with_reducible refine gate_store (t := 62) (p := 5) rfl ?_); refine store_event (t := 62) (p := 5) (v := ?vo_w12) (w1 := (((w10.setCell ⟨gb267, 0, none⟩ (.bool false)).setCell ⟨gb267, 1, none⟩ (.int .i64 ((rd_T62 l0 x8_1).f1))).setCell ⟨gb267, 2, none⟩ (.slice A266_2 ((rd_T62 l0 x8_1).f2).length c266_2))) ?hg ?ho ?hn ?hr ?_; (case ho => rfl); (case hg => rfl); (case hn => rfl); (case hr => (go_simp; done)); intro w12 hw; have n0_ : Aside0 (Kd.N (Kd.slice 5 (Kd.int .u8)) 24 w12 w.heap.size (fun k_ => (P0_ k_ ∨ w.heap.size ≤ k_) ∧ k_ ≠ gb267) u3 x3_1) := ⟨(by rw [hw]; exact (by (with_reducible repeat (apply Kd.N_alloc)); exact Kd.N_mono (Kd.N_far (p := ⟨gb267, 2, none⟩) (Kd.N_far (p := ⟨gb267, 1, none⟩) (Kd.N_far (p := ⟨gb267, 0, none⟩) (Kd.N_mono HO_3.out (fun k_ hk => (⟨hk, hk.2⟩ : _ ∧ k_ ≠ gb267))) (fun _ hk => hk.2) (.bool false)) (fun _ hk => hk.2) (.int .i64 ((rd_T62 l0 x8_1).f1))) (fun _ hk => hk.2) (.slice A266_2 ((rd_T62 l0 x8_1).f2).length c266_2)) (fun _ hk => ⟨hk.1.1, hk.1.2⟩)))⟩; have n1_ : Aside0 (Kd.V k62 62 w12 w.heap.size (fun k_ => (P0_ k_ ∨ w.heap.size ≤ k_) ∧ some k_ ≠ (u3 : Value).ownBlock ∧ k_ ≠ gb267) (.slice (some ad266) l0.length c0) l0) := ⟨(by rw [hw]; exact (by (with_reducible repeat (apply Kd.V_alloc)); exact Kd.V_mono (Kd.V_far (p := ⟨gb267, 2, none⟩) (Kd.V_far (p := ⟨gb267, 1, none⟩) (Kd.V_far (p := ⟨gb267, 0, none⟩) (Kd.V_mono HO_6.out (fun k_ hk => (⟨hk, hk.2⟩ : _ ∧ k_ ≠ gb267))) (fun _ hk => hk.2) (.bool false)) (fun _ hk => hk.2) (.int .i64 ((rd_T62 l0 x8_1).f1))) (fun _ hk => hk.2) (.slice A266_2 ((rd_T62 l0 x8_1).f2).length c266_2)) (fun _ hk => ⟨hk.1.1.1, ⟨hk.1.1.2, hk.1.2⟩⟩)))⟩; have n2_ : Aside0 (Kd.V (Kd.int .u8) 5 w12 w.heap.size (fun k_ => (P0_ k_ ∨ w.heap.size ≤ k_) ∧ some k_ ≠ (u3 : Value).ownBlock ∧ k_ ≠ gb267) (.slice A266_2 ((rd_T62 l0 x8_1).f2).length c266_2) ((rd_T62 l0 x8_1).f2)) := ⟨(by rw [hw]; exact (by (with_reducible repeat (apply Kd.V_alloc)); exact Kd.V_mono (Kd.V_far (p := ⟨gb267, 2, none⟩) (Kd.V_far (p := ⟨gb267, 1, none⟩) (Kd.V_far (p := ⟨gb267, 0, none⟩) (Kd.V_mono HL266_2.out (fun k_ hk => (⟨hk, hk.2⟩ : _ ∧ k_ ≠ gb267))) (fun _ hk => hk.2) (.bool false)) (fun _ hk => hk.2) (.int .i64 ((rd_T62 l0 x8_1).f1))) (fun _ hk => hk.2) (.slice A266_2 ((rd_T62 l0 x8_1).f2).length c266_2)) (fun _ hk => ⟨hk.1.1.1, ⟨hk.1.1.2, hk.1.2⟩⟩)))⟩; have n3_ : Aside0 (w12.heap[gb267]? = some (.cells #[.bool false, .int .i64 ((rd_T62 l0 x8_1).f1), .slice A266_2 ((rd_T62 l0 x8_1).f2).length c266_2] 62 (0, 0))) := ⟨(by rw [hw]; exact (by (with_reducible repeat (refine blk_drewN ?_ _)); refine blk_put (cs := #[.bool false, .int .i64 ((rd_T62 l0 x8_1).f1), .slice none 0 0]) ?_ 2 _ rfl; (with_reducible repeat (refine blk_drewN ?_ _)); refine blk_put (cs := #[.bool false, .int .i64 0, .slice none 0 0]) ?_ 1 _ rfl; (with_reducible repeat (refine blk_drewN ?_ _)); refine blk_put (cs := #[.bool false, .int .i64 0, .slice none 0 0]) ?_ 0 _ rfl; (with_reducible repeat (refine blk_drewN ?_ _)); exact BK267.out))⟩; have n4_ : Aside0 (Below w.heap.size w w12) := ⟨(by rw [hw]; exact (by repeat ((with_reducible first | exact HB.out | refine below_set ?_ GE267.out))))⟩; revert n0_ n1_ n2_ n3_ n4_; clear hw HO_3 HO_6 HL266_2 BK267 HB; intro HO_3 HO_6 HL266_2 BK267 HB; have hcz13_0 : w12.cell? ⟨gb267, 0, none⟩ = some (.bool false) := (blk_cell BK267.out 0).trans rfl; have hcz13_1 : w12.cell? ⟨gb267, 1, none⟩ = some (.int .i64 ((rd_T62 l0 x8_1).f1)) := (blk_cell BK267.out 1).trans rfl; have hcz13_2 : w12.cell? ⟨gb267, 2, none⟩ = some (.slice A266_2 ((rd_T62 l0 x8_1).f2).length c266_2) := (blk_cell BK267.out 2).trans rfl; have hfz13_0 := blk_frozen BK267.out 0; have hfz13_1 := blk_frozen BK267.out 1; have hfz13_2 := blk_frozen BK267.out 2) | ((with_reducible refine gate_builtin (b := .append) (xs := #[.tmp 15, .tmp 18]) rfl ?_); at_builtin; refine Kd.N_append (Kd.slice 5 (Kd.int .u8)) (w0 := w) w.heap.size rfl (.tmp 15) (.tmp 18) 42 24 (.slice none 0 0) 24 rfl Tryz.underlying42 info24 rfl (by decide) (by omega) u3 x3_1 ((rd_T62 l0 x8_1).f2) [.slice A266_2 ((rd_T62 l0 x8_1).f2).length c266_2] (fun k_ => (P0_ k_ ∨ w.heap.size ≤ k_) ∧ k_ ≠ gb267) (fun k_ => ((fun k_ => (P0_ k_ ∨ w.heap.size ≤ k_) ∧ k_ ≠ gb267)) k_ ∧ some k_ ≠ (u3 : Value).ownBlock) rfl rfl ?aP (fun _ hk => hk) ?aF ?aO ?aB ?aS ?aL ?_; (case aP => exact (Kd.FK_slice_mk (Kd.V_reads' (Kd.V_mono (ok' := (fun k_ => ((fun k_ => (P0_ k_ ∨ w.heap.size ≤ k_) ∧ k_ ≠ gb267)) k_ ∧ some k_ ≠ (u3 : Value).ownBlock)) (HL266_2.out) (fun k_ hk => ⟨⟨hk.1, hk.2.2⟩, hk.2.1⟩))).2.1 (Kd.V_F (Kd.V_mono (ok' := (fun k_ => ((fun k_ => (P0_ k_ ∨ w.heap.size ≤ k_) ∧ k_ ≠ gb267)) k_ ∧ some k_ ≠ (u3 : Value).ownBlock)) (HL266_2.out) (fun k_ hk => ⟨⟨hk.1, hk.2.2⟩, hk.2.1⟩))))); (case aB => exact HB.out); (case aF => exact (fun k_ hk => ⟨(.inr (Nat.le_trans (below_size HB.out) hk)), Kd.freshB (g := gb267) (o := .cells #[.bool false, .int .i64 ((rd_T62 l0 x8_1).f1), .slice A266_2 ((rd_T62 l0 x8_1).f2).length c266_2] 62 (0, 0)) (by (with_reducible repeat (refine blk_drewN ?_ _)); exact BK267.out) k_ hk⟩)); (case aO => exact HO_3.out); (case aS => exact (below_size HB.out)); (case aL => have := LMc9.out; omega); intro v269 w14 ho hb hg hat; rw [← Ny268.out] at ho; have n0_ := Aside0.mk (Kd.V_afterv (ok := (fun k_ => (P0_ k_ ∨ w.heap.size ≤ k_) ∧ k_ ≠ gb267)) (by (with_reducible repeat (apply Kd.V_alloc)); exact Kd.V_mono HO_6.out (fun _ hk => ⟨⟨hk.1, hk.2.2⟩, hk.2.1⟩)) hg hat); have n1_ := Aside0.mk (Kd.V_afterv (ok := (fun k_ => (P0_ k_ ∨ w.heap.size ≤ k_) ∧ k_ ≠ gb267)) (by (with_reducible repeat (apply Kd.V_alloc)); exact Kd.V_mono HL266_2.out (fun _ hk => ⟨⟨hk.1, hk.2.2⟩, hk.2.1⟩)) hg hat); have n2_ := Aside0.mk (blk_grown (g := gb267) (o := .cells #[.bool false, .int .i64 ((rd_T62 l0 x8_1).f1), .slice A266_2 ((rd_T62 l0 x8_1).f2).length c266_2] 62 (0, 0)) (by (with_reducible repeat (refine blk_drewN ?_ _)); exact BK267.out) hg (Kd.N_ne HO_3.out BK267.out (by decide))); have n3_ := Aside0.mk (hb); have n4_ := Aside0.mk (ho); revert n0_ n1_ n2_ n3_ n4_; clear HO_6 HL266_2 BK267 HB HO_3; intro HO_6 HL266_2 BK267 HB HO270; clear ho hb hg hat))
       go_roundg k1
       case measure => have := HK1.out; omega
       case rel => exact ⟨(y268), (wrap64 (x8_1 + 1)), (by rfl), H', ⟨by have := HK1.out; omega⟩, ⟨by (with_reducible repeat (apply Kd.N_alloc)); exact Kd.N_mono HO270.out (fun _ hk => hk.1)⟩, ⟨by (with_reducible repeat (apply Kd.V_alloc)); exact Kd.V_mono HO_6.out (fun _ hk => ⟨hk.1.1, hk.2⟩)⟩, ⟨by exact HB.out⟩⟩
      rw [if_neg c9] at H
      exact absurd H (by simp)
     rw [if_neg c4] at H
     exact absurd H (by simp)
    rw [if_neg c3] at H
    exact absurd H (by simp)
   rw [if_neg c2] at H
   have c2b0 : decide (x8_1 < (l0.length : Int)) = false := decide_eq_false c2
   clear c2
   obtain rfl := Option.some.inj H
   go_wp2
   go_ret
   exact ⟨_, by rfl, by (with_reducible repeat (apply Kd.N_alloc)); exact HO_3.out, by exact HB.out⟩
def prefix_shared.l0 : Nat → List Int → List Int → Int → Option (Int)
 | 0, _, _, _ => none
 | k + 1, x0, x1, x5 => if x5 < (mn (x0.length : Int) (x1.length : Int)) then (if 0 ≤ x5 then (if x5 < (x0.length : Int) then (if x5 < (x1.length : Int) then (if (rd x0 x5) = (rd x1 x5) then (prefix_shared.l0 k x0 x1 (wrap64 (x5 + 1))) else (some x5)) else (none)) else (none)) else (none)) else (some x5)
def prefix_shared.f (k : Nat) (l0 : List Int) (l1 : List Int) : Option (Int) := prefix_shared.l0 k l0 l1 0
set_option maxHeartbeats 8000000 in
set_option maxRecDepth 100000 in
theorem prefix_shared.calls (k : Nat) (A0 : Option Addr) (c0 : Nat) (l0 : List Int) (A1 : Option Addr) (c1 : Nat) (l1 : List Int) (r : Int) (w : World) (hr0 : Kd.C (Kd.int .u8) w A0 l0.length l0) (hc0 : l0.length ≤ c0) (hr1 : Kd.C (Kd.int .u8) w A1 l1.length l1) (hc1 : l1.length ≤ c1) (h : prefix_shared.f k l0 l1 = some r) :
 Calls Tryz.prog 138 #[.slice A0 l0.length c0, .slice A1 l1.length c1] w fun e w' => e = .returned (.int .i64 r) ∧ Below w.heap.size w w' := by
 have HR0 := Aside0.mk hr0
 have HC0 := Aside0.mk hc0
 clear hr0 hc0
 have HR1 := Aside0.mk hr1
 have HC1 := Aside0.mk hc1
 clear hr1 hc1
 have HB := Aside0.mk (Below.refl w.heap.size w)
 unfold prefix_shared.f at h
 have H := h
 clear h
 have H' := Aside0.mk H
 clear H
 go_enter Tryz.func138, Tryz.ntmps138
 go_wp2
 repeat (go_quiet (fail); skip)
 go_loopg [5] k (fun kq v5 w' => ∃ (x5_1 : Int), v5 = .int .i64 x5_1 ∧ Aside0 (prefix_shared.l0 kq l0 l1 x5_1 = some r) ∧ Aside0 (kq ≤ k) ∧ Aside0 (Below w.heap.size w w'))
 case atStart => exact ⟨(0), (by rfl), H', ⟨Nat.le_refl _⟩, ⟨by exact HB.out⟩⟩
 case round =>
  clear H'
  obtain ⟨x5_1, rfl, HA, HK1, HB⟩ := hrel
  cases gk with
  | zero => exact absurd HA.out (by simp [prefix_shared.l0])
  | succ k1 =>
   have H := HA.out
   clear HA
   simp only [prefix_shared.l0] at H
   obtain ⟨ji3, hji3⟩ : ∃ j_ : Int, (mn (l0.length : Int) (l1.length : Int)) = j_ := ⟨_, rfl⟩
   replace H : (if x5_1 < (ji3) then (if 0 ≤ x5_1 then (if x5_1 < (l0.length : Int) then (if x5_1 < (l1.length : Int) then (if (rd l0 x5_1) = (rd l1 x5_1) then (prefix_shared.l0 k1 l0 l1 (wrap64 (x5_1 + 1))) else (some x5_1)) else (none)) else (none)) else (none)) else (some x5_1)) = some r := by (rw [hji3] at H; exact H)
   have hji3_ : (if (l1.length : Int) < (l0.length : Int) then (l1.length : Int) else (l0.length : Int)) = ji3 := hji3
   have hji3_n : (if l1.length < l0.length then (l1.length : Int) else (l0.length : Int)) = ji3 := by simpa only [Int.ofNat_lt] using hji3_
   by_cases c4 : x5_1 < (ji3)
   ·rw [if_pos c4] at H
    have c4b0 : decide (x5_1 < (ji3)) = true := decide_eq_true c4
    clear c4
    by_cases c5 : 0 ≤ x5_1
    ·rw [if_pos c5] at H
     have c5b0 : decide (0 ≤ x5_1) = true := decide_eq_true c5
     clear c5
     by_cases c6 : x5_1 < (l0.length : Int)
     ·rw [if_pos c6] at H
      have c6b0 : decide (x5_1 < (l0.length : Int)) = true := decide_eq_true c6
      clear c6
      by_cases c7 : x5_1 < (l1.length : Int)
      ·rw [if_pos c7] at H
       have c7b0 : decide (x5_1 < (l1.length : Int)) = true := decide_eq_true c7
       clear c7
       by_cases c8 : (rd l0 x5_1) = (rd l1 x5_1)
       ·rw [if_pos c8] at H
        have c8b0 : ((rd l0 x5_1) == (rd l1 x5_1)) = true := beq_iff_eq.mpr c8
        have c8b1 : ((rd l0 x5_1) != (rd l1 x5_1)) = false := bne_eq_false_iff_eq.mpr c8
        clear c8
        have H' := Aside0.mk H
        clear H
        have p271 : 0 ≤ (x5_1 : Int) := of_decide_eq_true ‹_›
        have q271 : x5_1 < (l0.length : Int) := of_decide_eq_true ‹_›
        obtain ⟨ad271, e271, hx271_0⟩ := Kd.at_int HR0.out x5_1 p271 q271
        cases e271
        replace hx271_0 := (HB.out.cell (World.block_lt_of_cell? w _ hx271_0)).trans hx271_0
        replace p271 := eq_true p271
        replace q271 := eq_true q271
        have p272 : 0 ≤ (x5_1 : Int) := of_decide_eq_true ‹_›
        have q272 : x5_1 < (l1.length : Int) := of_decide_eq_true ‹_›
        obtain ⟨ad272, e272, hx272_0⟩ := Kd.at_int HR1.out x5_1 p272 q272
        cases e272
        replace hx272_0 := (HB.out.cell (World.block_lt_of_cell? w _ hx272_0)).trans hx272_0
        replace p272 := eq_true p272
        replace q272 := eq_true q272
        go_wp2
        repeat (go_quiet (fail); try go_wp2)
        go_roundg k1
        case measure => have := HK1.out; omega
        case rel => exact ⟨(wrap64 (x5_1 + 1)), (by rfl), H', ⟨by have := HK1.out; omega⟩, ⟨by repeat ((with_reducible first | exact HB.out | apply pw_below_drewN))⟩⟩
       rw [if_neg c8] at H
       have c8b0 : ((rd l0 x5_1) == (rd l1 x5_1)) = false := beq_eq_false_iff_ne.mpr c8
       have c8b1 : ((rd l0 x5_1) != (rd l1 x5_1)) = true := bne_iff_ne.mpr c8
       obtain rfl := Option.some.inj H
       have p271 : 0 ≤ (x5_1 : Int) := of_decide_eq_true ‹_›
       have q271 : x5_1 < (l0.length : Int) := of_decide_eq_true ‹_›
       obtain ⟨ad271, e271, hx271_0⟩ := Kd.at_int HR0.out x5_1 p271 q271
       cases e271
       replace hx271_0 := (HB.out.cell (World.block_lt_of_cell? w _ hx271_0)).trans hx271_0
       replace p271 := eq_true p271
       replace q271 := eq_true q271
       have p272 : 0 ≤ (x5_1 : Int) := of_decide_eq_true ‹_›
       have q272 : x5_1 < (l1.length : Int) := of_decide_eq_true ‹_›
       obtain ⟨ad272, e272, hx272_0⟩ := Kd.at_int HR1.out x5_1 p272 q272
       cases e272
       replace hx272_0 := (HB.out.cell (World.block_lt_of_cell? w _ hx272_0)).trans hx272_0
       replace p272 := eq_true p272
       replace q272 := eq_true q272
       go_wp2
       repeat (go_quiet (fail); try go_wp2)
       go_ret
       exact ⟨by rfl, by repeat ((with_reducible first | exact HB.out | apply pw_below_drewN))⟩
      rw [if_neg c7] at H
      exact absurd H (by simp)
     rw [if_neg c6] at H
     exact absurd H (by simp)
    rw [if_neg c5] at H
    exact absurd H (by simp)
   rw [if_neg c4] at H
   have c4b0 : decide (x5_1 < (ji3)) = false := decide_eq_false c4
   clear c4
   obtain rfl := Option.some.inj H
   go_wp2
   repeat (go_quiet (fail); try go_wp2)
   go_ret
   exact ⟨by rfl, by repeat ((with_reducible first | exact HB.out | apply pw_below_drewN))⟩
def vint_PutList.l0 : Nat → List Int → List Int → Int → Int → Option (List Int)
 | 0, _, _, _, _ => none
 | k + 1, x3, x10, x11, x12 => if x12 < x11 then (if 0 ≤ x12 then (if x12 < (x10.length : Int) then ((vint_Put.f k (rd x10 x12)).bind fun t277 => (if x3.length + t277.length < 140737488355328 then (vint_PutList.l0 k (x3 ++ t277) x10 x11 (wrap64 (x12 + 1))) else (none))) else (none)) else (none)) else (some x3)
def vint_PutList.f (k : Nat) (l0 : List Int) : Option (List Int) := (vint_Put.f k (IntKind.u64.wrap ((l0.length : Int)))).bind fun t273 => (vint_PutList.l0 k t273 l0 (l0.length : Int) 0)
set_option maxHeartbeats 8000000 in
set_option maxRecDepth 100000 in
theorem vint_PutList.calls (k : Nat) (A0 : Option Addr) (c0 : Nat) (l0 : List Int) (r : List Int) (w : World) (hr0 : Kd.C (Kd.int .u64) w A0 l0.length l0) (hc0 : l0.length ≤ c0) (h : vint_PutList.f k l0 = some r) :
 Calls Tryz.prog 139 #[.slice A0 l0.length c0] w fun e w' => ∃ v0_ : Value, e = .returned (v0_) ∧ Kd.R (Kd.int .u8) 5 w' w.heap.size (fun _ => True) v0_ r ∧ Below w.heap.size w w' := by
 have HR0 := Aside0.mk hr0
 have HC0 := Aside0.mk hc0
 clear hr0 hc0
 have HB := Aside0.mk (Below.refl w.heap.size w)
 unfold vint_PutList.f at h
 have H := h
 clear h
 replace H := Option.bind_eq_some_iff.mp H
 obtain ⟨t273, A20, H⟩ := H
 (try dsimp only at H)
 have A2 := Aside0.mk A20
 clear A20
 have H' := Aside0.mk H
 clear H
 go_enter Tryz.func139, Tryz.ntmps139
 go_wp2_with ((refine goL_ Tryz.func71 #[.int .u64 (IntKind.u64.wrap ((l0.length : Int)))] ?_; (with_reducible refine (vint_Put.calls k (IntKind.u64.wrap ((l0.length : Int))) t273 _ A2.out).mono ?_); rintro e w3 ⟨v274, rfl, ho0, hb⟩; refine ⟨_, rfl, ?_⟩; have n0_ := Aside0.mk (Kd.R_lower ho0 (below_size HB.out)); have n1_ := Aside0.mk (below_step HB.out hb); revert n0_ n1_; clear HB; intro HO275 HB; (try clear hb); (try clear ho0)))
 go_loopg [3, 12] k (fun kq v3 v12 w' => ∃ (x3_1 : List Int) (x12_1 : Int), v12 = .int .i64 x12_1 ∧ Aside0 (vint_PutList.l0 kq x3_1 l0 (l0.length : Int) x12_1 = some r) ∧ Aside0 (kq ≤ k) ∧ Aside0 (Kd.R (Kd.int .u8) 5 w' w.heap.size (fun _ => True) v3 x3_1) ∧ Aside0 (Below w.heap.size w w'))
 case atStart => exact ⟨(t273), (0), (by rfl), H', ⟨Nat.le_refl _⟩, ⟨by (with_reducible repeat (apply Kd.R_alloc)); exact HO275.out⟩, ⟨by exact HB.out⟩⟩
 case round =>
  clear H'
  obtain ⟨x3_1, x12_1, rfl, HA, HK1, HO_3, HB⟩ := hrel
  cases gk with
  | zero => exact absurd HA.out (by simp [vint_PutList.l0])
  | succ k1 =>
   have H := HA.out
   clear HA
   simp only [vint_PutList.l0] at H
   by_cases c4 : x12_1 < (l0.length : Int)
   ·rw [if_pos c4] at H
    have c4b0 : decide (x12_1 < (l0.length : Int)) = true := decide_eq_true c4
    clear c4
    by_cases c5 : 0 ≤ x12_1
    ·rw [if_pos c5] at H
     have c5b0 : decide (0 ≤ x12_1) = true := decide_eq_true c5
     clear c5
     by_cases c6 : x12_1 < (l0.length : Int)
     ·rw [if_pos c6] at H
      have c6b0 : decide (x12_1 < (l0.length : Int)) = true := decide_eq_true c6
      clear c6
      replace H := Option.bind_eq_some_iff.mp H
      obtain ⟨t277, A70, H⟩ := H
      (try dsimp only at H)
      have A7 := Aside0.mk A70
      clear A70
      by_cases c8 : x3_1.length + t277.length < 140737488355328
      ·rw [if_pos c8] at H
       have LMc8 := Aside0.mk c8
       clear c8
       obtain ⟨y280, hy280⟩ : ∃ y_ : List Int, y_ = (x3_1 ++ t277) := ⟨_, rfl⟩
       replace H : (vint_PutList.l0 k1 y280 l0 (l0.length : Int) (wrap64 (x12_1 + 1))) = some r := by (rw [hy280]; with_reducible exact H)
       have Ny280 := Aside0.mk hy280
       clear hy280
       have H' := Aside0.mk H
       clear H
       have p276 : 0 ≤ (x12_1 : Int) := of_decide_eq_true ‹_›
       have q276 : x12_1 < (l0.length : Int) := of_decide_eq_true ‹_›
       obtain ⟨ad276, e276, hx276_0⟩ := Kd.at_int HR0.out x12_1 p276 q276
       cases e276
       replace hx276_0 := (HB.out.cell (World.block_lt_of_cell? w _ hx276_0)).trans hx276_0
       replace p276 := eq_true p276
       replace q276 := eq_true q276
       go_wp2_with (first | ((with_reducible refine gate_callee (f := 71) rfl ?_); refine goL_ Tryz.func71 #[.int .u64 (rd l0 x12_1)] ?_; (with_reducible refine (vint_Put.calls k1 (rd l0 x12_1) t277 _ A7.out).mono ?_); rintro e w9 ⟨v278, rfl, ho0, hb⟩; refine ⟨_, rfl, ?_⟩; have n0_ := Aside0.mk (Kd.R_elder' HO_3.out (Kd.R_base ho0) hb); have n1_ := Aside0.mk (Kd.R_lower (Kd.R_new' ho0 (Kd.R_lt HO_3.out)) (below_size HB.out)); have n2_ := Aside0.mk (below_step HB.out hb); revert n0_ n1_ n2_; clear HO_3 HB; intro HO_3 HO279 HB; (try clear hb); (try clear ho0); obtain ⟨Ao11, co11, eo11⟩ := Kd.R_slice HO279.out; subst eo11) | ((with_reducible refine gate_builtin (b := .append) (xs := #[.tmp 16, .tmp 18]) rfl ?_); at_builtin; refine Kd.R_append_rows (Kd.int .u8) (w0 := w) w.heap.size rfl (.tmp 16) (.tmp 18) 24 5 (.int .u8 0) 1 rfl Tryz.underlying24 info5 rfl (by decide) (by omega) u3 x3_1 t277 _ _ _ (fun k_ => some k_ ≠ (.slice Ao11 t277.length co11 : Value).ownBlock) (fun _ => False) rfl rfl ?aO ?aR (fun _ _ h => h) (fun _ h => h.elim) ?aF ?aB ?aS ?aL ?_; (case aR => repeat (exact (Kd.R_reads' HO279.out).2.2)); (case aB => exact HB.out); (case aF => exact (fun k_ hk => Kd.fresh' (Kd.R_lt HO279.out) k_ hk)); (case aO => exact (by (with_reducible repeat (apply Kd.R_alloc)); exact Kd.R_mono HO_3.out (fun _ hk => hk.2))); (case aS => exact (below_size HB.out)); (case aL => have := LMc8.out; omega); intro v281 w10 ho hb hg hat; rw [← Ny280.out] at ho; have n0_ := Aside0.mk (Kd.R_after (ok := (fun _ => True)) HO279.out hg hat); have n1_ := Aside0.mk (hb); have n2_ := Aside0.mk (ho); revert n0_ n1_ n2_; clear HO279 HB HO_3; intro HO279 HB HO282; clear ho hb hg hat))
       go_roundg k1
       case measure => have := HK1.out; omega
       case rel => exact ⟨(y280), (wrap64 (x12_1 + 1)), (by rfl), H', ⟨by have := HK1.out; omega⟩, ⟨by (with_reducible repeat (apply Kd.R_alloc)); exact Kd.R_mono HO282.out (fun _ hk => trivial)⟩, ⟨by exact HB.out⟩⟩
      rw [if_neg c8] at H
      exact absurd H (by simp)
     rw [if_neg c6] at H
     exact absurd H (by simp)
    rw [if_neg c5] at H
    exact absurd H (by simp)
   rw [if_neg c4] at H
   have c4b0 : decide (x12_1 < (l0.length : Int)) = false := decide_eq_false c4
   clear c4
   obtain rfl := Option.some.inj H
   go_wp2
   go_ret
   exact ⟨_, by rfl, by (with_reducible repeat (apply Kd.R_alloc)); exact HO_3.out, by exact HB.out⟩
def prefix_Encode.l0 : Nat → List (List Int) → List Int → List (List Int) → Int → Int → Option (List Int × Int)
 | 0, _, _, _, _, _ => none
 | k + 1, x0, x4, x15, x16, x17 => if x17 < x16 then (if 0 ≤ x17 then (if x17 < (x15.length : Int) then (if ((rd_L1 x15 x17).length : Int) > 200 then (some (([] : List Int), 4)) else (if (Int.tmod x17 16) > 0 then (if 0 ≤ (wrap64 (x17 - 1)) then (if (wrap64 (x17 - 1)) < (x0.length : Int) then ((prefix_shared.f k (rd_L1 x0 (wrap64 (x17 - 1))) (rd_L1 x15 x17)).bind fun t288 => ((vint_PutList.f k (([IntKind.u64.wrap (t288), IntKind.u64.wrap (wrap64 (((rd_L1 x15 x17).length : Int) - t288))] : List Int))).bind fun t292 => (if 1 ≤ (t292.length : Int) then ((some (t292.drop 1 : List Int)).bind fun y295 => (if x4.length + y295.length < 140737488355328 then ((some (x4 ++ y295 : List Int)).bind fun y299 => (if 0 ≤ t288 then (if t288 ≤ ((rd_L1 x15 x17).length : Int) then (if y299.length + ((rd_L1 x15 x17).drop (t288 : Int).toNat).length < 140737488355328 then (prefix_Encode.l0 k x0 (y299 ++ ((rd_L1 x15 x17).drop (t288 : Int).toNat)) x15 x16 (wrap64 (x17 + 1))) else (none)) else (none)) else (none))) else (none))) else (none)))) else (none)) else (none)) else ((vint_PutList.f k (([0, IntKind.u64.wrap (wrap64 (((rd_L1 x15 x17).length : Int) - 0))] : List Int))).bind fun t309 => (if 1 ≤ (t309.length : Int) then ((some (t309.drop 1 : List Int)).bind fun y312 => (if x4.length + y312.length < 140737488355328 then ((some (x4 ++ y312 : List Int)).bind fun y316 => (if 0 ≤ ((rd_L1 x15 x17).length : Int) then (if y316.length + ((rd_L1 x15 x17).drop 0).length < 140737488355328 then (prefix_Encode.l0 k x0 (y316 ++ ((rd_L1 x15 x17).drop 0)) x15 x16 (wrap64 (x17 + 1))) else (none)) else (none))) else (none))) else (none))))) else (none)) else (none)) else (some (x4, 0))
def prefix_Encode.f (k : Nat) (l0 : List (List Int)) : Option (List Int × Int) := if (l0.length : Int) > 4096 then (some (([] : List Int), 4)) else ((vint_Put.f k (IntKind.u64.wrap ((l0.length : Int)))).bind fun t283 => (prefix_Encode.l0 k l0 t283 l0 (l0.length : Int) 0))
set_option maxHeartbeats 8000000 in
set_option maxRecDepth 100000 in
theorem prefix_Encode.calls (k : Nat) (A0 : Option Addr) (c0 : Nat) (l0 : List (List Int)) (r1 : List Int) (r2 : Int) (w : World) (hr0 : Kd.C (Kd.slice 5 (Kd.int .u8)) w A0 l0.length l0) (hc0 : l0.length ≤ c0) (h : prefix_Encode.f k l0 = some (r1, r2)) :
 Calls Tryz.prog 108 #[.slice A0 l0.length c0] w fun e w' => ∃ v0_ : Value, e = .returned (.tuple #[v0_, .int .i64 r2]) ∧ Kd.R (Kd.int .u8) 5 w' w.heap.size (fun _ => True) v0_ r1 ∧ Below w.heap.size w w' := by
 have HR0 := Aside0.mk hr0
 have HC0 := Aside0.mk hc0
 clear hr0 hc0
 have HB := Aside0.mk (Below.refl w.heap.size w)
 unfold prefix_Encode.f at h
 have H := h
 clear h
 by_cases c2 : (l0.length : Int) > 4096
 ·rw [if_pos c2] at H
  have c2b0 : decide (4096 < (l0.length : Int)) = true := decide_eq_true c2
  have c2b1 : decide (4096 < l0.length) = true := decide_eq_true (by omega)
  clear c2
  simp only [Option.some.injEq, Prod.mk.injEq] at H
  obtain ⟨rfl, rfl⟩ := H
  go_enter Tryz.func108, Tryz.ntmps108
  go_wp2
  go_ret2
  exact ⟨_, by rfl, by exact Kd.R_nil _ _ _ _ _, by exact HB.out⟩
 rw [if_neg c2] at H
 have c2b0 : decide (4096 < (l0.length : Int)) = false := decide_eq_false c2
 have c2b1 : decide (4096 < l0.length) = false := decide_eq_false (by omega)
 clear c2
 replace H := Option.bind_eq_some_iff.mp H
 obtain ⟨t283, A30, H⟩ := H
 (try dsimp only at H)
 have A3 := Aside0.mk A30
 clear A30
 have H' := Aside0.mk H
 clear H
 go_enter Tryz.func108, Tryz.ntmps108
 go_wp2_with ((refine goL_ Tryz.func71 #[.int .u64 (IntKind.u64.wrap ((l0.length : Int)))] ?_; (with_reducible refine (vint_Put.calls k (IntKind.u64.wrap ((l0.length : Int))) t283 _ A3.out).mono ?_); rintro e w4 ⟨v284, rfl, ho0, hb⟩; refine ⟨_, rfl, ?_⟩; have n0_ := Aside0.mk (Kd.R_lower ho0 (below_size HB.out)); have n1_ := Aside0.mk (below_step HB.out hb); revert n0_ n1_; clear HB; intro HO285 HB; (try clear hb); (try clear ho0)))
 go_loopg [4, 17] k (fun kq v4 v17 w' => ∃ (x4_1 : List Int) (x17_1 : Int), v17 = .int .i64 x17_1 ∧ Aside0 (prefix_Encode.l0 kq l0 x4_1 l0 (l0.length : Int) x17_1 = some (r1, r2)) ∧ Aside0 (kq ≤ k) ∧ Aside0 (Kd.R (Kd.int .u8) 5 w' w.heap.size (fun _ => True) v4 x4_1) ∧ Aside0 (Below w.heap.size w w'))
 case atStart => exact ⟨(t283), (0), (by rfl), H', ⟨Nat.le_refl _⟩, ⟨by (with_reducible repeat (apply Kd.R_alloc)); exact HO285.out⟩, ⟨by exact HB.out⟩⟩
 case round =>
  clear H'
  try clear c2b0
  try clear c2b1
  obtain ⟨x4_1, x17_1, rfl, HA, HK1, HO_4, HB⟩ := hrel
  cases gk with
  | zero => exact absurd HA.out (by simp [prefix_Encode.l0])
  | succ k1 =>
   have H := HA.out
   clear HA
   simp only [prefix_Encode.l0] at H
   by_cases c5 : x17_1 < (l0.length : Int)
   ·rw [if_pos c5] at H
    have c5b0 : decide (x17_1 < (l0.length : Int)) = true := decide_eq_true c5
    clear c5
    by_cases c6 : 0 ≤ x17_1
    ·rw [if_pos c6] at H
     have c6b0 : decide (0 ≤ x17_1) = true := decide_eq_true c6
     clear c6
     by_cases c7 : x17_1 < (l0.length : Int)
     ·rw [if_pos c7] at H
      have c7b0 : decide (x17_1 < (l0.length : Int)) = true := decide_eq_true c7
      clear c7
      by_cases c8 : ((rd_L1 l0 x17_1).length : Int) > 200
      ·rw [if_pos c8] at H
       have c8b0 : decide (200 < ((rd_L1 l0 x17_1).length : Int)) = true := decide_eq_true c8
       have c8b1 : decide (200 < (rd_L1 l0 x17_1).length) = true := decide_eq_true (by omega)
       clear c8
       simp only [Option.some.injEq, Prod.mk.injEq] at H
       obtain ⟨rfl, rfl⟩ := H
       have p286 : 0 ≤ (x17_1 : Int) := of_decide_eq_true ‹_›
       have q286 : x17_1 < (l0.length : Int) := of_decide_eq_true ‹_›
       obtain ⟨ad286, A286_0, c286_0, e286, hx286_0, hl286_0, hi286_0⟩ := at_L1 HR0.out x17_1 p286 q286
       cases e286
       replace hx286_0 := (HB.out.cell (World.block_lt_of_cell? w _ hx286_0)).trans hx286_0
       have HR286_0 := Aside0.mk hi286_0
       have HC286_0 := Aside0.mk hl286_0
       clear hi286_0 hl286_0
       replace p286 := eq_true p286
       replace q286 := eq_true q286
       go_wp2
       go_ret2
       exact ⟨_, by rfl, by exact Kd.R_nil _ _ _ _ _, by exact HB.out⟩
      rw [if_neg c8] at H
      have c8b0 : decide (200 < ((rd_L1 l0 x17_1).length : Int)) = false := decide_eq_false c8
      have c8b1 : decide (200 < (rd_L1 l0 x17_1).length) = false := decide_eq_false (by omega)
      clear c8
      by_cases c9 : (Int.tmod x17_1 16) > 0
      ·rw [if_pos c9] at H
       have c9b0 : decide (0 < (Int.tmod x17_1 16)) = true := decide_eq_true c9
       clear c9
       obtain ⟨ji10, hji10⟩ : ∃ j_ : Int, (wrap64 (x17_1 - 1)) = j_ := ⟨_, rfl⟩
       replace H : (if 0 ≤ (ji10) then (if (ji10) < (l0.length : Int) then ((prefix_shared.f k1 (rd_L1 l0 (ji10)) (rd_L1 l0 x17_1)).bind fun t288 => ((vint_PutList.f k1 (([IntKind.u64.wrap (t288), IntKind.u64.wrap (wrap64 (((rd_L1 l0 x17_1).length : Int) - t288))] : List Int))).bind fun t292 => (if 1 ≤ (t292.length : Int) then ((some (t292.drop 1 : List Int)).bind fun y295 => (if x4_1.length + y295.length < 140737488355328 then ((some (x4_1 ++ y295 : List Int)).bind fun y299 => (if 0 ≤ t288 then (if t288 ≤ ((rd_L1 l0 x17_1).length : Int) then (if y299.length + ((rd_L1 l0 x17_1).drop (t288 : Int).toNat).length < 140737488355328 then (prefix_Encode.l0 k1 l0 (y299 ++ ((rd_L1 l0 x17_1).drop (t288 : Int).toNat)) l0 (l0.length : Int) (wrap64 (x17_1 + 1))) else (none)) else (none)) else (none))) else (none))) else (none)))) else (none)) else (none)) = some (r1, r2) := by (rw [hji10] at H; exact H)
       have hji10w : (IntKind.i64.wrap (x17_1 - 1)) = ji10 := (i64_w _).trans hji10
       by_cases c11 : 0 ≤ (ji10)
       ·rw [if_pos c11] at H
        have c11b0 : decide (0 ≤ (ji10)) = true := decide_eq_true c11
        clear c11
        by_cases c12 : (ji10) < (l0.length : Int)
        ·rw [if_pos c12] at H
         have c12b0 : decide ((ji10) < (l0.length : Int)) = true := decide_eq_true c12
         clear c12
         replace H := Option.bind_eq_some_iff.mp H
         obtain ⟨t288, A130, H⟩ := H
         (try dsimp only at H)
         have A13 := Aside0.mk A130
         clear A130
         obtain ⟨y289, hy289⟩ : ∃ y_ : List Int, y_ = (([IntKind.u64.wrap (t288), IntKind.u64.wrap (wrap64 (((rd_L1 l0 x17_1).length : Int) - t288))] : List Int)) := ⟨_, rfl⟩
         replace H : ((vint_PutList.f k1 y289).bind fun t292 => (if 1 ≤ (t292.length : Int) then ((some (t292.drop 1 : List Int)).bind fun y295 => (if x4_1.length + y295.length < 140737488355328 then ((some (x4_1 ++ y295 : List Int)).bind fun y299 => (if 0 ≤ t288 then (if t288 ≤ ((rd_L1 l0 x17_1).length : Int) then (if y299.length + ((rd_L1 l0 x17_1).drop (t288 : Int).toNat).length < 140737488355328 then (prefix_Encode.l0 k1 l0 (y299 ++ ((rd_L1 l0 x17_1).drop (t288 : Int).toNat)) l0 (l0.length : Int) (wrap64 (x17_1 + 1))) else (none)) else (none)) else (none))) else (none))) else (none))) = some (r1, r2) := by (rw [hy289]; with_reducible exact H)
         have Ny289 := Aside0.mk hy289
         clear hy289
         replace H := Option.bind_eq_some_iff.mp H
         obtain ⟨t292, A140, H⟩ := H
         (try dsimp only at H)
         have A14 := Aside0.mk A140
         clear A140
         by_cases c15 : 1 ≤ (t292.length : Int)
         ·rw [if_pos c15] at H
          have c15b0 := eq_true c15
          have c15b1 : decide (1 ≤ (t292.length : Int)) = true := decide_eq_true c15
          clear c15
          obtain ⟨y295, hy295⟩ : ∃ y_ : List Int, y_ = (t292.drop 1) := ⟨_, rfl⟩
          replace H : (if x4_1.length + y295.length < 140737488355328 then ((some (x4_1 ++ y295 : List Int)).bind fun y299 => (if 0 ≤ t288 then (if t288 ≤ ((rd_L1 l0 x17_1).length : Int) then (if y299.length + ((rd_L1 l0 x17_1).drop (t288 : Int).toNat).length < 140737488355328 then (prefix_Encode.l0 k1 l0 (y299 ++ ((rd_L1 l0 x17_1).drop (t288 : Int).toNat)) l0 (l0.length : Int) (wrap64 (x17_1 + 1))) else (none)) else (none)) else (none))) else (none)) = some (r1, r2) := by (have H2_ := (Option.bind_some _ _).symm.trans H; rw [hy295]; with_reducible exact H2_)
          have Ny295 := Aside0.mk hy295
          clear hy295
          by_cases c16 : x4_1.length + y295.length < 140737488355328
          ·rw [if_pos c16] at H
           have LMc16 := Aside0.mk c16
           clear c16
           obtain ⟨y299, hy299⟩ : ∃ y_ : List Int, y_ = (x4_1 ++ y295) := ⟨_, rfl⟩
           replace H : (if 0 ≤ t288 then (if t288 ≤ ((rd_L1 l0 x17_1).length : Int) then (if y299.length + ((rd_L1 l0 x17_1).drop (t288 : Int).toNat).length < 140737488355328 then (prefix_Encode.l0 k1 l0 (y299 ++ ((rd_L1 l0 x17_1).drop (t288 : Int).toNat)) l0 (l0.length : Int) (wrap64 (x17_1 + 1))) else (none)) else (none)) else (none)) = some (r1, r2) := by (have H2_ := (Option.bind_some _ _).symm.trans H; rw [hy299]; with_reducible exact H2_)
           have Ny299 := Aside0.mk hy299
           clear hy299
           by_cases c17 : 0 ≤ t288
           ·rw [if_pos c17] at H
            have c17b0 := eq_true c17
            have c17b1 : decide (0 ≤ t288) = true := decide_eq_true c17
            clear c17
            by_cases c18 : t288 ≤ ((rd_L1 l0 x17_1).length : Int)
            ·rw [if_pos c18] at H
             have c18b0 := eq_true c18
             have c18b1 : decide (t288 ≤ ((rd_L1 l0 x17_1).length : Int)) = true := decide_eq_true c18
             clear c18
             by_cases c19 : y299.length + ((rd_L1 l0 x17_1).drop (t288 : Int).toNat).length < 140737488355328
             ·rw [if_pos c19] at H
              have LMc19 := Aside0.mk c19
              clear c19
              obtain ⟨y303, hy303⟩ : ∃ y_ : List Int, y_ = (y299 ++ ((rd_L1 l0 x17_1).drop (t288 : Int).toNat)) := ⟨_, rfl⟩
              replace H : (prefix_Encode.l0 k1 l0 y303 l0 (l0.length : Int) (wrap64 (x17_1 + 1))) = some (r1, r2) := by (rw [hy303]; with_reducible exact H)
              have Ny303 := Aside0.mk hy303
              clear hy303
              have H' := Aside0.mk H
              clear H
              have p286 : 0 ≤ (x17_1 : Int) := of_decide_eq_true ‹_›
              have q286 : x17_1 < (l0.length : Int) := of_decide_eq_true ‹_›
              obtain ⟨ad286, A286_0, c286_0, e286, hx286_0, hl286_0, hi286_0⟩ := at_L1 HR0.out x17_1 p286 q286
              cases e286
              replace hx286_0 := (HB.out.cell (World.block_lt_of_cell? w _ hx286_0)).trans hx286_0
              have HR286_0 := Aside0.mk hi286_0
              have HC286_0 := Aside0.mk hl286_0
              clear hi286_0 hl286_0
              replace p286 := eq_true p286
              replace q286 := eq_true q286
              have p287 : 0 ≤ ((ji10) : Int) := of_decide_eq_true ‹_›
              have q287 : (ji10) < (l0.length : Int) := of_decide_eq_true ‹_›
              obtain ⟨ad287, A287_0, c287_0, e287, hx287_0, hl287_0, hi287_0⟩ := at_L1 HR0.out (ji10) p287 q287
              obtain rfl : ad286 = ad287 := (by injection e287)
              replace hx287_0 := (HB.out.cell (World.block_lt_of_cell? w _ hx287_0)).trans hx287_0
              have HR287_0 := Aside0.mk hi287_0
              have HC287_0 := Aside0.mk hl287_0
              clear hi287_0 hl287_0
              replace p287 := eq_true p287
              replace q287 := eq_true q287
              go_wp2_with (first | ((with_reducible refine gate_callee (f := 138) rfl ?_); refine goL_ Tryz.func138 #[.slice A287_0 (rd_L1 l0 (ji10)).length c287_0, .slice A286_0 (rd_L1 l0 x17_1).length c286_0] ?_; (with_reducible refine (prefix_shared.calls k1 _ _ (rd_L1 l0 (ji10)) _ _ (rd_L1 l0 x17_1) t288 _ (Kd.C_below HR287_0.out HB.out) (HC287_0.out) (Kd.C_below HR286_0.out HB.out) (HC286_0.out) A13.out).mono ?_); rintro e w20 ⟨rfl, hb⟩; refine ⟨_, rfl, ?_⟩; have n0_ := Aside0.mk (Kd.R_below HO_4.out hb); have n1_ := Aside0.mk (below_step HB.out hb); revert n0_ n1_; clear HO_4 HB; intro HO_4 HB; (try clear hb)) | ((with_reducible refine gate_dst (N := 43) rfl ?_); refine Kd.R_lit (Kd.int .u64) _ 69 ?hg (N := 43) ?hd (xs := ([IntKind.u64.wrap (t288), IntKind.u64.wrap (wrap64 (((rd_L1 l0 x17_1).length : Int) - t288))] : List Int)) (inner := [.int .u64 (IntKind.u64.wrap (t288)), .int .u64 (IntKind.u64.wrap (wrap64 (((rd_L1 l0 x17_1).length : Int) - t288)))]) (ok := fun _ => True) (okp := fun _ => True) ?hr ?hp (fun _ hk => hk) trivial (Below.refl _ _) (Nat.le_refl _) (by simp) ?_; (case hd => rfl); (case hg => rfl); (case hr => (go_simp; done)); (case hp => exact (Reps.one (show Kd.M (Kd.int .u64) _ _ _ (IntKind.u64.wrap (t288)) [.int .u64 (IntKind.u64.wrap (t288))] from rfl) (Reps.one (show Kd.M (Kd.int .u64) _ _ _ (IntKind.u64.wrap (wrap64 (((rd_L1 l0 x17_1).length : Int) - t288))) [.int .u64 (IntKind.u64.wrap (wrap64 (((rd_L1 l0 x17_1).length : Int) - t288)))] from rfl) (Reps.none _ _)))); intro v290 w21 ho22 hb hg_ hnew_; clear hg_ hnew_; (rw [← Ny289.out] at ho22); have n0_ := Aside0.mk (Kd.R_below HO_4.out hb); have n1_ := Aside0.mk (Kd.R_lower ho22 (below_size HB.out)); have n2_ := Aside0.mk (below_step HB.out hb); revert n0_ n1_ n2_; clear HO_4 HB; intro HO_4 HO291 HB; clear hb ho22; obtain ⟨Ao23, co23, eo23⟩ := Kd.R_slice HO291.out; subst eo23) | ((with_reducible refine gate_callee (f := 139) rfl ?_); refine goL_ Tryz.func139 #[.slice Ao23 y289.length co23] ?_; (with_reducible refine (vint_PutList.calls k1 _ _ y289 t292 _ ?side1 ?side2 A14.out).mono ?_); (case side1 => repeat (exact (Kd.R_reads' HO291.out).2.2)); (case side2 => exact (Kd.R_reads' HO291.out).2.1); rintro e w24 ⟨v293, rfl, ho0, hb⟩; refine ⟨_, rfl, ?_⟩; have n0_ := Aside0.mk (Kd.R_elder' HO_4.out (Kd.R_base ho0) hb); have n1_ := Aside0.mk (Kd.R_below HO291.out hb); have n2_ := Aside0.mk (Kd.R_lower (Kd.R_new' ho0 (Kd.R_lt HO_4.out)) (below_size HB.out)); have n3_ := Aside0.mk (below_step HB.out hb); revert n0_ n1_ n2_ n3_; clear HO_4 HO291 HB; intro HO_4 HO291 HO294 HB; (try clear hb); (try clear ho0); obtain ⟨Ao26, co26, eo26⟩ := Kd.R_slice HO294.out; subst eo26; have q25 : (1 : Int) ≤ ((t292.length : Int) : Int) := of_decide_eq_true ‹_›; obtain ⟨i025, hi025, _, hsz25, _⟩ := info_parts info5; have hroom25 : t292.length ≤ co26 := (Kd.R_reads' HO294.out).2.1; have hC25 : Kd.C (Kd.int .u8) _ Ao26 t292.length t292 := (Kd.R_reads' HO294.out).2.2; have hcut25 := cut_from (P := Tryz.prog) 24 5 .i64 Tryz.underlying24 hi025 1 hsz25 Ao26 t292.length co26 1 (by omega) q25; have hr25 := Kd.C_drop (m := (1 : Int).toNat) (c := co26) hC25 (by omega) hroom25; obtain ⟨A25, hA25⟩ : ∃ Az_, Az_ = (if co26 = (1 : Int).toNat then Ao26 else (Ao26 : Option Addr).map (·.add ((1 : Int).toNat * 1))) := ⟨_, rfl⟩; obtain ⟨c25, hc25⟩ : ∃ cz_, cz_ = co26 - (1 : Int).toNat := ⟨_, rfl⟩; have hy25 : y295.length = t292.length - (1 : Int).toNat := (by rw [Ny295.out, List.length_drop] <;> omega); rw [show (t292).drop (1 : Int).toNat = y295 from Ny295.out.symm] at hr25; replace hr25 : Kd.C (Kd.int .u8) _ A25 y295.length y295 := (by rw [hA25]; exact hr25); rw [← hy25, ← hA25, ← hc25] at hcut25; have HR298 := Aside0.mk hr25; have HC298 := Aside0.mk (show y295.length ≤ c25 from by rw [hy25, hc25]; exact Nat.sub_le_sub_right hroom25 _); clear hr25 hC25 hroom25 hi025 hsz25 hc25; have KY25 := Aside0.mk hy25; have KA25 := Aside0.mk hA25; clear hy25 hA25; have KL25 := Aside0.mk (show 1 ≤ t292.length from by omega); replace q25 := eq_true q25) | ((with_reducible refine gate_builtin (b := .append) (xs := #[.tmp 35, .tmp 45]) rfl ?_); at_builtin; refine Kd.R_append_rows (Kd.int .u8) (w0 := w) w.heap.size rfl (.tmp 35) (.tmp 45) 24 5 (.int .u8 0) 1 rfl Tryz.underlying24 info5 rfl (by decide) (by omega) u4 x4_1 y295 _ _ _ (fun k_ => some k_ ≠ (.slice Ao26 t292.length co26 : Value).ownBlock) (fun _ => False) rfl rfl ?aO ?aR (fun _ _ h => h) (fun _ h => h.elim) ?aF ?aB ?aS ?aL ?_; (case aR => repeat ((exact (by repeat (exact HR298.out))))); (case aB => exact HB.out); (case aF => exact (fun k_ hk => Kd.fresh' (Kd.R_lt HO294.out) k_ hk)); (case aO => exact (by (with_reducible repeat (apply Kd.R_alloc)); exact Kd.R_mono HO_4.out (fun _ hk => hk.2))); (case aS => exact (below_size HB.out)); (case aL => have := LMc16.out; omega); intro v300 w27 ho hb hg hat; rw [← Ny299.out] at ho; have n0_ := Aside0.mk (Kd.R_over' HO291.out (Kd.R_typed HO_4.out) (by decide) hg); have n1_ := Aside0.mk (Kd.R_after (ok := (fun _ => True)) HO294.out hg hat); have n2_ := Aside0.mk (hb); have n3_ := Aside0.mk ((show Kd.C (Kd.int .u8) w27 A25 y295.length y295 from by rw [Ny295.out, KA25.out]; exact Kd.C_drop (m := 1) (c := co26) ((Kd.R_reads' (Kd.R_after (ok := (fun _ => True)) HO294.out hg hat)).2.2) KL25.out ((Kd.R_reads' (Kd.R_after (ok := (fun _ => True)) HO294.out hg hat)).2.1))); have n4_ := Aside0.mk (ho); revert n0_ n1_ n2_ n3_ n4_; clear HO291 HO294 HB HR298 HO_4; intro HO291 HO294 HB HR298 HO301; clear ho hb hg hat; obtain ⟨i028, hi028, _, hsz28, _⟩ := info_parts info5; obtain ⟨A28, hcut28, hA28, hC28⟩ := print_drop_of (P := Tryz.prog) (Value.int .u8) 0 24 5 .i64 Tryz.underlying24 hi028 hsz28 A286_0 c286_0 (rd_L1 l0 x17_1) t288 (of_decide_eq_true ‹_›) (of_decide_eq_true ‹_›) HC286_0.out; have HR302 := Aside0.mk (Kd.C_of_reads (h1 := fun _ => rfl) (hA28 _ (Kd.reads_of_C HR286_0.out))); have HC302 := Aside0.mk hC28; clear hA28 hC28 hi028 hsz28) | ((with_reducible refine gate_builtin (b := .append) (xs := #[.tmp 47, .tmp 50]) rfl ?_); at_builtin; refine Kd.R_append_rows (Kd.int .u8) (w0 := w) w.heap.size rfl (.tmp 47) (.tmp 50) 24 5 (.int .u8 0) 1 rfl Tryz.underlying24 info5 rfl (by decide) (by omega) v300 y299 ((rd_L1 l0 x17_1).drop (t288 : Int).toNat) _ _ _ (fun k_ => some k_ ≠ (.slice Ao26 t292.length co26 : Value).ownBlock) (fun _ => False) rfl rfl ?aO ?aR (fun _ _ h => h) (fun _ h => h.elim) ?aF ?aB ?aS ?aL ?_; (case aR => (rw [← show ((rd_L1 l0 x17_1).drop (t288 : Int).toNat).length = ((rd_L1 l0 x17_1).length - t288.toNat) from List.length_drop]; repeat (exact (Kd.C_below HR302.out HB.out)))); (case aB => exact HB.out); (case aF => exact (fun k_ hk => Kd.fresh' (Kd.R_lt HO294.out) k_ hk)); (case aO => exact HO301.out); (case aS => exact (below_size HB.out)); (case aL => have := LMc19.out; have hlx_ := (show ((rd_L1 l0 x17_1).drop (t288 : Int).toNat).length = ((rd_L1 l0 x17_1).length - t288.toNat) from List.length_drop); omega); intro v304 w29 ho hb hg hat; rw [← Ny303.out] at ho; have n0_ := Aside0.mk (Kd.R_over' HO291.out (Kd.R_typed HO301.out) (by decide) hg); have n1_ := Aside0.mk (Kd.R_after (ok := (fun _ => True)) HO294.out hg hat); have n2_ := Aside0.mk (hb); have n3_ := Aside0.mk ((show Kd.C (Kd.int .u8) w29 A25 y295.length y295 from by rw [Ny295.out, KA25.out]; exact Kd.C_drop (m := 1) (c := co26) ((Kd.R_reads' (Kd.R_after (ok := (fun _ => True)) HO294.out hg hat)).2.2) KL25.out ((Kd.R_reads' (Kd.R_after (ok := (fun _ => True)) HO294.out hg hat)).2.1))); have n4_ := Aside0.mk (ho); revert n0_ n1_ n2_ n3_ n4_; clear HO291 HO294 HB HR298 HO301; intro HO291 HO294 HB HR298 HO305; clear ho hb hg hat))
              go_roundg k1
              case measure => have := HK1.out; omega
              case rel => exact ⟨(y303), (wrap64 (x17_1 + 1)), (by rfl), H', ⟨by have := HK1.out; omega⟩, ⟨by (with_reducible repeat (apply Kd.R_alloc)); exact Kd.R_mono HO305.out (fun _ hk => trivial)⟩, ⟨by exact HB.out⟩⟩
             rw [if_neg c19] at H
             exact absurd H (by simp)
            rw [if_neg c18] at H
            exact absurd H (by simp)
           rw [if_neg c17] at H
           exact absurd H (by simp)
          rw [if_neg c16] at H
          exact absurd H (by simp)
         rw [if_neg c15] at H
         exact absurd H (by simp)
        rw [if_neg c12] at H
        exact absurd H (by simp)
       rw [if_neg c11] at H
       exact absurd H (by simp)
      rw [if_neg c9] at H
      have c9b0 : decide (0 < (Int.tmod x17_1 16)) = false := decide_eq_false c9
      clear c9
      obtain ⟨y306, hy306⟩ : ∃ y_ : List Int, y_ = (([0, IntKind.u64.wrap (wrap64 (((rd_L1 l0 x17_1).length : Int) - 0))] : List Int)) := ⟨_, rfl⟩
      replace H : ((vint_PutList.f k1 y306).bind fun t309 => (if 1 ≤ (t309.length : Int) then ((some (t309.drop 1 : List Int)).bind fun y312 => (if x4_1.length + y312.length < 140737488355328 then ((some (x4_1 ++ y312 : List Int)).bind fun y316 => (if 0 ≤ ((rd_L1 l0 x17_1).length : Int) then (if y316.length + ((rd_L1 l0 x17_1).drop 0).length < 140737488355328 then (prefix_Encode.l0 k1 l0 (y316 ++ ((rd_L1 l0 x17_1).drop 0)) l0 (l0.length : Int) (wrap64 (x17_1 + 1))) else (none)) else (none))) else (none))) else (none))) = some (r1, r2) := by (rw [hy306]; with_reducible exact H)
      have Ny306 := Aside0.mk hy306
      clear hy306
      replace H := Option.bind_eq_some_iff.mp H
      obtain ⟨t309, A300, H⟩ := H
      (try dsimp only at H)
      have A30 := Aside0.mk A300
      clear A300
      by_cases c31 : 1 ≤ (t309.length : Int)
      ·rw [if_pos c31] at H
       have c31b0 := eq_true c31
       have c31b1 : decide (1 ≤ (t309.length : Int)) = true := decide_eq_true c31
       clear c31
       obtain ⟨y312, hy312⟩ : ∃ y_ : List Int, y_ = (t309.drop 1) := ⟨_, rfl⟩
       replace H : (if x4_1.length + y312.length < 140737488355328 then ((some (x4_1 ++ y312 : List Int)).bind fun y316 => (if 0 ≤ ((rd_L1 l0 x17_1).length : Int) then (if y316.length + ((rd_L1 l0 x17_1).drop 0).length < 140737488355328 then (prefix_Encode.l0 k1 l0 (y316 ++ ((rd_L1 l0 x17_1).drop 0)) l0 (l0.length : Int) (wrap64 (x17_1 + 1))) else (none)) else (none))) else (none)) = some (r1, r2) := by (have H2_ := (Option.bind_some _ _).symm.trans H; rw [hy312]; with_reducible exact H2_)
       have Ny312 := Aside0.mk hy312
       clear hy312
       by_cases c32 : x4_1.length + y312.length < 140737488355328
       ·rw [if_pos c32] at H
        have LMc32 := Aside0.mk c32
        clear c32
        obtain ⟨y316, hy316⟩ : ∃ y_ : List Int, y_ = (x4_1 ++ y312) := ⟨_, rfl⟩
        replace H : (if 0 ≤ ((rd_L1 l0 x17_1).length : Int) then (if y316.length + ((rd_L1 l0 x17_1).drop 0).length < 140737488355328 then (prefix_Encode.l0 k1 l0 (y316 ++ ((rd_L1 l0 x17_1).drop 0)) l0 (l0.length : Int) (wrap64 (x17_1 + 1))) else (none)) else (none)) = some (r1, r2) := by (have H2_ := (Option.bind_some _ _).symm.trans H; rw [hy316]; with_reducible exact H2_)
        have Ny316 := Aside0.mk hy316
        clear hy316
        by_cases c33 : 0 ≤ ((rd_L1 l0 x17_1).length : Int)
        ·rw [if_pos c33] at H
         have c33b0 := eq_true c33
         have c33b1 : decide (0 ≤ ((rd_L1 l0 x17_1).length : Int)) = true := decide_eq_true c33
         clear c33
         by_cases c34 : y316.length + ((rd_L1 l0 x17_1).drop 0).length < 140737488355328
         ·rw [if_pos c34] at H
          have LMc34 := Aside0.mk c34
          clear c34
          obtain ⟨y320, hy320⟩ : ∃ y_ : List Int, y_ = (y316 ++ ((rd_L1 l0 x17_1).drop 0)) := ⟨_, rfl⟩
          replace H : (prefix_Encode.l0 k1 l0 y320 l0 (l0.length : Int) (wrap64 (x17_1 + 1))) = some (r1, r2) := by (rw [hy320]; with_reducible exact H)
          have Ny320 := Aside0.mk hy320
          clear hy320
          have H' := Aside0.mk H
          clear H
          have p286 : 0 ≤ (x17_1 : Int) := of_decide_eq_true ‹_›
          have q286 : x17_1 < (l0.length : Int) := of_decide_eq_true ‹_›
          obtain ⟨ad286, A286_0, c286_0, e286, hx286_0, hl286_0, hi286_0⟩ := at_L1 HR0.out x17_1 p286 q286
          cases e286
          replace hx286_0 := (HB.out.cell (World.block_lt_of_cell? w _ hx286_0)).trans hx286_0
          have HR286_0 := Aside0.mk hi286_0
          have HC286_0 := Aside0.mk hl286_0
          clear hi286_0 hl286_0
          replace p286 := eq_true p286
          replace q286 := eq_true q286
          go_wp2_with (first | ((with_reducible refine gate_dst (N := 43) rfl ?_); refine Kd.R_lit (Kd.int .u64) _ 69 ?hg (N := 43) ?hd (xs := ([0, IntKind.u64.wrap (wrap64 (((rd_L1 l0 x17_1).length : Int) - 0))] : List Int)) (inner := [.int .u64 0, .int .u64 (IntKind.u64.wrap (wrap64 (((rd_L1 l0 x17_1).length : Int) - 0)))]) (ok := fun _ => True) (okp := fun _ => True) ?hr ?hp (fun _ hk => hk) trivial (Below.refl _ _) (Nat.le_refl _) (by simp) ?_; (case hd => rfl); (case hg => rfl); (case hr => (go_simp; done)); (case hp => exact (Reps.one (show Kd.M (Kd.int .u64) _ _ _ 0 [.int .u64 0] from rfl) (Reps.one (show Kd.M (Kd.int .u64) _ _ _ (IntKind.u64.wrap (wrap64 (((rd_L1 l0 x17_1).length : Int) - 0))) [.int .u64 (IntKind.u64.wrap (wrap64 (((rd_L1 l0 x17_1).length : Int) - 0)))] from rfl) (Reps.none _ _)))); intro v307 w35 ho36 hb hg_ hnew_; clear hg_ hnew_; (rw [← Ny306.out] at ho36); have n0_ := Aside0.mk (Kd.R_below HO_4.out hb); have n1_ := Aside0.mk (Kd.R_lower ho36 (below_size HB.out)); have n2_ := Aside0.mk (below_step HB.out hb); revert n0_ n1_ n2_; clear HO_4 HB; intro HO_4 HO308 HB; clear hb ho36; obtain ⟨Ao37, co37, eo37⟩ := Kd.R_slice HO308.out; subst eo37) | ((with_reducible refine gate_callee (f := 139) rfl ?_); refine goL_ Tryz.func139 #[.slice Ao37 y306.length co37] ?_; (with_reducible refine (vint_PutList.calls k1 _ _ y306 t309 _ ((Kd.R_reads' HO308.out).2.2) ((Kd.R_reads' HO308.out).2.1) A30.out).mono ?_); rintro e w38 ⟨v310, rfl, ho0, hb⟩; refine ⟨_, rfl, ?_⟩; have n0_ := Aside0.mk (Kd.R_elder' HO_4.out (Kd.R_base ho0) hb); have n1_ := Aside0.mk (Kd.R_below HO308.out hb); have n2_ := Aside0.mk (Kd.R_lower (Kd.R_new' ho0 (Kd.R_lt HO_4.out)) (below_size HB.out)); have n3_ := Aside0.mk (below_step HB.out hb); revert n0_ n1_ n2_ n3_; clear HO_4 HO308 HB; intro HO_4 HO308 HO311 HB; (try clear hb); (try clear ho0); obtain ⟨Ao40, co40, eo40⟩ := Kd.R_slice HO311.out; subst eo40; have q39 : (1 : Int) ≤ ((t309.length : Int) : Int) := of_decide_eq_true ‹_›; obtain ⟨i039, hi039, _, hsz39, _⟩ := info_parts info5; have hroom39 : t309.length ≤ co40 := (Kd.R_reads' HO311.out).2.1; have hC39 : Kd.C (Kd.int .u8) _ Ao40 t309.length t309 := (Kd.R_reads' HO311.out).2.2; have hcut39 := cut_from (P := Tryz.prog) 24 5 .i64 Tryz.underlying24 hi039 1 hsz39 Ao40 t309.length co40 1 (by omega) q39; have hr39 := Kd.C_drop (m := (1 : Int).toNat) (c := co40) hC39 (by omega) hroom39; obtain ⟨A39, hA39⟩ : ∃ Az_, Az_ = (if co40 = (1 : Int).toNat then Ao40 else (Ao40 : Option Addr).map (·.add ((1 : Int).toNat * 1))) := ⟨_, rfl⟩; obtain ⟨c39, hc39⟩ : ∃ cz_, cz_ = co40 - (1 : Int).toNat := ⟨_, rfl⟩; have hy39 : y312.length = t309.length - (1 : Int).toNat := (by rw [Ny312.out, List.length_drop] <;> omega); rw [show (t309).drop (1 : Int).toNat = y312 from Ny312.out.symm] at hr39; replace hr39 : Kd.C (Kd.int .u8) _ A39 y312.length y312 := (by rw [hA39]; exact hr39); rw [← hy39, ← hA39, ← hc39] at hcut39; have HR315 := Aside0.mk hr39; have HC315 := Aside0.mk (show y312.length ≤ c39 from by rw [hy39, hc39]; exact Nat.sub_le_sub_right hroom39 _); clear hr39 hC39 hroom39 hi039 hsz39 hc39; have KY39 := Aside0.mk hy39; have KA39 := Aside0.mk hA39; clear hy39 hA39; have KL39 := Aside0.mk (show 1 ≤ t309.length from by omega); replace q39 := eq_true q39) | ((with_reducible refine gate_builtin (b := .append) (xs := #[.tmp 35, .tmp 45]) rfl ?_); at_builtin; refine Kd.R_append_rows (Kd.int .u8) (w0 := w) w.heap.size rfl (.tmp 35) (.tmp 45) 24 5 (.int .u8 0) 1 rfl Tryz.underlying24 info5 rfl (by decide) (by omega) u4 x4_1 y312 _ _ _ (fun k_ => some k_ ≠ (.slice Ao40 t309.length co40 : Value).ownBlock) (fun _ => False) rfl rfl ?aO ?aR (fun _ _ h => h) (fun _ h => h.elim) ?aF ?aB ?aS ?aL ?_; (case aR => repeat ((exact (by repeat (exact HR315.out))))); (case aB => exact HB.out); (case aF => exact (fun k_ hk => Kd.fresh' (Kd.R_lt HO311.out) k_ hk)); (case aO => exact (by (with_reducible repeat (apply Kd.R_alloc)); exact Kd.R_mono HO_4.out (fun _ hk => hk.2))); (case aS => exact (below_size HB.out)); (case aL => have := LMc32.out; omega); intro v317 w41 ho hb hg hat; rw [← Ny316.out] at ho; have n0_ := Aside0.mk (Kd.R_over' HO308.out (Kd.R_typed HO_4.out) (by decide) hg); have n1_ := Aside0.mk (Kd.R_after (ok := (fun _ => True)) HO311.out hg hat); have n2_ := Aside0.mk (hb); have n3_ := Aside0.mk ((show Kd.C (Kd.int .u8) w41 A39 y312.length y312 from by rw [Ny312.out, KA39.out]; exact Kd.C_drop (m := 1) (c := co40) ((Kd.R_reads' (Kd.R_after (ok := (fun _ => True)) HO311.out hg hat)).2.2) KL39.out ((Kd.R_reads' (Kd.R_after (ok := (fun _ => True)) HO311.out hg hat)).2.1))); have n4_ := Aside0.mk (ho); revert n0_ n1_ n2_ n3_ n4_; clear HO308 HO311 HB HR315 HO_4; intro HO308 HO311 HB HR315 HO318; clear ho hb hg hat; obtain ⟨i042, hi042, _, hsz42, _⟩ := info_parts info5; obtain ⟨A42, hcut42, hA42, hC42⟩ := print_drop_of (P := Tryz.prog) (Value.int .u8) 0 24 5 .i64 Tryz.underlying24 hi042 hsz42 A286_0 c286_0 (rd_L1 l0 x17_1) 0 (by omega) (of_decide_eq_true ‹_›) HC286_0.out; have HR319 := Aside0.mk (Kd.C_of_reads (h1 := fun _ => rfl) (hA42 _ (Kd.reads_of_C HR286_0.out))); have HC319 := Aside0.mk hC42; clear hA42 hC42 hi042 hsz42) | ((with_reducible refine gate_builtin (b := .append) (xs := #[.tmp 47, .tmp 50]) rfl ?_); at_builtin; refine Kd.R_append_rows (Kd.int .u8) (w0 := w) w.heap.size rfl (.tmp 47) (.tmp 50) 24 5 (.int .u8 0) 1 rfl Tryz.underlying24 info5 rfl (by decide) (by omega) v317 y316 ((rd_L1 l0 x17_1).drop 0) _ _ _ (fun k_ => some k_ ≠ (.slice Ao40 t309.length co40 : Value).ownBlock) (fun _ => False) rfl rfl ?aO ?aR (fun _ _ h => h) (fun _ h => h.elim) ?aF ?aB ?aS ?aL ?_; (case aR => (repeat (exact (Kd.C_below HR319.out HB.out)))); (case aB => exact HB.out); (case aF => exact (fun k_ hk => Kd.fresh' (Kd.R_lt HO311.out) k_ hk)); (case aO => exact HO318.out); (case aS => exact (below_size HB.out)); (case aL => have := LMc34.out; have hlx_ := (show ((rd_L1 l0 x17_1).drop 0).length = ((rd_L1 l0 x17_1).length - 0) from List.length_drop); omega); intro v321 w43 ho hb hg hat; rw [← Ny320.out] at ho; have n0_ := Aside0.mk (Kd.R_over' HO308.out (Kd.R_typed HO318.out) (by decide) hg); have n1_ := Aside0.mk (Kd.R_after (ok := (fun _ => True)) HO311.out hg hat); have n2_ := Aside0.mk (hb); have n3_ := Aside0.mk ((show Kd.C (Kd.int .u8) w43 A39 y312.length y312 from by rw [Ny312.out, KA39.out]; exact Kd.C_drop (m := 1) (c := co40) ((Kd.R_reads' (Kd.R_after (ok := (fun _ => True)) HO311.out hg hat)).2.2) KL39.out ((Kd.R_reads' (Kd.R_after (ok := (fun _ => True)) HO311.out hg hat)).2.1))); have n4_ := Aside0.mk (ho); revert n0_ n1_ n2_ n3_ n4_; clear HO308 HO311 HB HR315 HO318; intro HO308 HO311 HB HR315 HO322; clear ho hb hg hat))
          go_roundg k1
          case measure => have := HK1.out; omega
          case rel => exact ⟨(y320), (wrap64 (x17_1 + 1)), (by rfl), H', ⟨by have := HK1.out; omega⟩, ⟨by (with_reducible repeat (apply Kd.R_alloc)); exact Kd.R_mono HO322.out (fun _ hk => trivial)⟩, ⟨by exact HB.out⟩⟩
         rw [if_neg c34] at H
         exact absurd H (by simp)
        rw [if_neg c33] at H
        exact absurd H (by simp)
       rw [if_neg c32] at H
       exact absurd H (by simp)
      rw [if_neg c31] at H
      exact absurd H (by simp)
     rw [if_neg c7] at H
     exact absurd H (by simp)
    rw [if_neg c6] at H
    exact absurd H (by simp)
   rw [if_neg c5] at H
   have c5b0 : decide (x17_1 < (l0.length : Int)) = false := decide_eq_false c5
   clear c5
   simp only [Option.some.injEq, Prod.mk.injEq] at H
   obtain ⟨rfl, rfl⟩ := H
   go_wp2
   go_ret2
   exact ⟨_, by rfl, by (with_reducible repeat (apply Kd.R_alloc)); exact HO_4.out, by exact HB.out⟩
def block_plain.l0 : Nat → Int → List Int → List (S62) → Int → Int → Option (List Int)
 | 0, _, _, _, _, _ => none
 | k + 1, x0, x5, x8, x9, x10 => if x10 < x9 then (if 0 ≤ x10 then (if x10 < (x8.length : Int) then (if (rd_T62 x8 x10).f0 = true then (block_plain.l0 k x0 x5 x8 x9 (wrap64 (x10 + 1))) else ((cell_Number.f x0).bind fun t325 => (if t325 = true then ((bits_Fold.f ((rd_T62 x8 x10).f1)).bind fun t326 => ((vint_Put.f k t326).bind fun t327 => (if x5.length + t327.length < 140737488355328 then (block_plain.l0 k x0 (x5 ++ t327) x8 x9 (wrap64 (x10 + 1))) else (none)))) else ((vint_Put.f k (IntKind.u64.wrap ((((rd_T62 x8 x10).f2).length : Int)))).bind fun t333 => (if x5.length + t333.length < 140737488355328 then ((some (x5 ++ t333 : List Int)).bind fun y336 => (if y336.length + ((rd_T62 x8 x10).f2).length < 140737488355328 then (block_plain.l0 k x0 (y336 ++ ((rd_T62 x8 x10).f2)) x8 x9 (wrap64 (x10 + 1))) else (none))) else (none)))))) else (none)) else (none)) else (some x5)
def block_plain.f (k : Nat) (a0 : Int) (l1 : List (S62)) : Option (List Int) := block_plain.l0 k a0 ([] : List Int) l1 (l1.length : Int) 0
def block_plain.T5 : Bool × List (List Nat × List Nat) := (true, [([], []), ([], []), ([1], [1]), ([2], [2]), ([3], [3]), ([4], [4]), ([0, 5, 5], [0, 5]), ([], []), ([7], [7]), ([6, 8, 6], [6, 8]), ([9, 9, 0, 1, 2, 3, 4, 5, 6, 7, 8, 9], [0, 9])])
def block_plain.B5 : List Nat := [0, 0, 2, 6, 14, 30, 63, 0, 128, 511, 1023]
theorem block_plain.tab5 : rtab .any (opsOf Tryz.f109 5) = block_plain.T5 := by kernel_rfl
theorem block_plain.bits5 : waitsOk block_plain.T5.2 block_plain.B5 = true := by kernel_rfl
set_option maxHeartbeats 8000000 in
set_option maxRecDepth 100000 in
theorem block_plain.calls (k : Nat) (a0 : Int) (A1 : Option Addr) (c1 : Nat) (l1 : List (S62)) (r : List Int) (w : World) (hr1 : Kd.C k62 w A1 l1.length l1) (hc1 : l1.length ≤ c1) (h : block_plain.f k a0 l1 = some r) :
 Calls Tryz.prog 109 #[.int .i64 a0, .slice A1 l1.length c1] w fun e w' => ∃ v0_ : Value, e = .returned (v0_) ∧ Kd.R (Kd.int .u8) 5 w' w.heap.size (fun _ => True) v0_ r ∧ Below w.heap.size w w' := by
 have hu62 := Tryz.underlying62
 have HR1 := Aside0.mk hr1
 have HC1 := Aside0.mk hc1
 clear hr1 hc1
 have HB := Aside0.mk (Below.refl w.heap.size w)
 unfold block_plain.f at h
 have H := h
 clear h
 have H' := Aside0.mk H
 clear H
 go_enter Tryz.func109, Tryz.ntmps109
 go_wp2
 go_loopg [5, 10] k (fun kq v5 v10 w' => ∃ (x5_1 : List Int) (x10_1 : Int), v10 = .int .i64 x10_1 ∧ Aside0 (block_plain.l0 kq a0 x5_1 l1 (l1.length : Int) x10_1 = some r) ∧ Aside0 (kq ≤ k) ∧ Aside0 (Kd.R (Kd.int .u8) 5 w' w.heap.size (fun _ => True) v5 x5_1) ∧ Aside0 (Below w.heap.size w w'))
 case atStart => exact ⟨(([] : List Int)), (0), (by rfl), H', ⟨Nat.le_refl _⟩, ⟨by exact Kd.R_nil _ _ _ _ _⟩, ⟨by exact HB.out⟩⟩
 case round =>
  clear H'
  obtain ⟨x5_1, x10_1, rfl, HA, HK1, HO_5, HB⟩ := hrel
  cases gk with
  | zero => exact absurd HA.out (by simp [block_plain.l0])
  | succ k1 =>
   have H := HA.out
   clear HA
   simp only [block_plain.l0] at H
   by_cases c3 : x10_1 < (l1.length : Int)
   ·rw [if_pos c3] at H
    have c3b0 : decide (x10_1 < (l1.length : Int)) = true := decide_eq_true c3
    clear c3
    by_cases c4 : 0 ≤ x10_1
    ·rw [if_pos c4] at H
     have c4b0 : decide (0 ≤ x10_1) = true := decide_eq_true c4
     clear c4
     by_cases c5 : x10_1 < (l1.length : Int)
     ·rw [if_pos c5] at H
      have c5b0 : decide (x10_1 < (l1.length : Int)) = true := decide_eq_true c5
      clear c5
      obtain ⟨bq6, hbq6⟩ : ∃ b_ : Bool, b_ = ((rd_T62 l1 x10_1).f0) := ⟨_, rfl⟩
      replace H : (if bq6 = true then (block_plain.l0 k1 a0 x5_1 l1 (l1.length : Int) (wrap64 (x10_1 + 1))) else ((cell_Number.f a0).bind fun t325 => (if t325 = true then ((bits_Fold.f ((rd_T62 l1 x10_1).f1)).bind fun t326 => ((vint_Put.f k1 t326).bind fun t327 => (if x5_1.length + t327.length < 140737488355328 then (block_plain.l0 k1 a0 (x5_1 ++ t327) l1 (l1.length : Int) (wrap64 (x10_1 + 1))) else (none)))) else ((vint_Put.f k1 (IntKind.u64.wrap ((((rd_T62 l1 x10_1).f2).length : Int)))).bind fun t333 => (if x5_1.length + t333.length < 140737488355328 then ((some (x5_1 ++ t333 : List Int)).bind fun y336 => (if y336.length + ((rd_T62 l1 x10_1).f2).length < 140737488355328 then (block_plain.l0 k1 a0 (y336 ++ ((rd_T62 l1 x10_1).f2)) l1 (l1.length : Int) (wrap64 (x10_1 + 1))) else (none))) else (none)))))) = some r := by rw [← hbq6] at H; exact H
      have Nbq6 := Aside0.mk hbq6
      clear hbq6
      by_cases c7 : bq6 = true
      ·subst c7
       have H1 : (block_plain.l0 k1 a0 x5_1 l1 (l1.length : Int) (wrap64 (x10_1 + 1))) = some r := by rw [if_pos rfl] at H; exact H
       clear H
       have H := H1
       clear H1
       have H' := Aside0.mk H
       clear H
       have p323 : 0 ≤ (x10_1 : Int) := of_decide_eq_true ‹_›
       have q323 : x10_1 < (l1.length : Int) := of_decide_eq_true ‹_›
       obtain ⟨ad323, A323_2, c323_2, e323, hx323_0, hx323_1, hx323_2, hl323_2, hi323_2⟩ := at_T62 HR1.out x10_1 p323 q323
       (try rw [← Nbq6.out] at hx323_0)
       cases e323
       replace hx323_0 := (HB.out.cell (World.block_lt_of_cell? w _ hx323_0)).trans hx323_0
       replace hx323_1 := (HB.out.cell (World.block_lt_of_cell? w _ hx323_1)).trans hx323_1
       replace hx323_2 := (HB.out.cell (World.block_lt_of_cell? w _ hx323_2)).trans hx323_2
       have HR323_2 := Aside0.mk hi323_2
       have HC323_2 := Aside0.mk hl323_2
       clear hi323_2 hl323_2
       replace p323 := eq_true p323
       replace q323 := eq_true q323
       go_wp2_with ((refine box_event ?hg (N := 7) ?hd (cs := #[.bool false, .int .i64 0, .slice none 0 0]) (t := 62) ?hr ?_; (case hd => rfl); (case hg => rfl); (case hr => (go_simp; done)); intro gb324 hg w8 hbox hb; have n0_ := Aside0.mk (Kd.R_below HO_5.out hb); have n1_ := Aside0.mk (below_step HB.out hb); have n2_ := Aside0.mk (hbox); have n3_ := Aside0.mk ((by rw [hg]; exact (below_size HB.out) : w.heap.size ≤ gb324)); have n4_ := Aside0.mk ((by rw [hg]; exact (below_size HB.out) : w.heap.size ≤ gb324)); revert n0_ n1_ n2_ n3_ n4_; clear HO_5 HB; intro HO_5 HB BK324 GW324 GE324; clear hb hbox hg; have hcz9_0 : w8.cell? ⟨gb324, 0, none⟩ = some (.bool false) := (blk_cell BK324.out 0).trans rfl; have hcz9_1 : w8.cell? ⟨gb324, 1, none⟩ = some (.int .i64 0) := (blk_cell BK324.out 1).trans rfl; have hcz9_2 : w8.cell? ⟨gb324, 2, none⟩ = some (.slice none 0 0) := (blk_cell BK324.out 2).trans rfl; have hfz9_0 := blk_frozen BK324.out 0; have hfz9_1 := blk_frozen BK324.out 1; have hfz9_2 := blk_frozen BK324.out 2))
       go_roundg k1
       case measure => have := HK1.out; omega
       case rel => exact ⟨(x5_1), (wrap64 (x10_1 + 1)), (by rfl), H', ⟨by have := HK1.out; omega⟩, ⟨by (with_reducible repeat (apply Kd.R_alloc)); exact Kd.R_mono (Kd.R_far (p := ⟨gb324, 2, none⟩) (Kd.R_far (p := ⟨gb324, 1, none⟩) (Kd.R_far (p := ⟨gb324, 0, none⟩) (Kd.R_types HO_5.out BK324.out (by decide)) (fun _ hk => hk.2) (.bool true)) (fun _ hk => hk.2) (.int .i64 ((rd_T62 l1 x10_1).f1))) (fun _ hk => hk.2) (.slice A323_2 ((rd_T62 l1 x10_1).f2).length c323_2)) (fun _ hk => trivial)⟩, ⟨by repeat ((with_reducible first | exact HB.out | refine below_set ?_ GE324.out))⟩⟩
      replace c7 := Bool.eq_false_iff.mpr c7
      subst c7
      have H1 : ((cell_Number.f a0).bind fun t325 => (if t325 = true then ((bits_Fold.f ((rd_T62 l1 x10_1).f1)).bind fun t326 => ((vint_Put.f k1 t326).bind fun t327 => (if x5_1.length + t327.length < 140737488355328 then (block_plain.l0 k1 a0 (x5_1 ++ t327) l1 (l1.length : Int) (wrap64 (x10_1 + 1))) else (none)))) else ((vint_Put.f k1 (IntKind.u64.wrap ((((rd_T62 l1 x10_1).f2).length : Int)))).bind fun t333 => (if x5_1.length + t333.length < 140737488355328 then ((some (x5_1 ++ t333 : List Int)).bind fun y336 => (if y336.length + ((rd_T62 l1 x10_1).f2).length < 140737488355328 then (block_plain.l0 k1 a0 (y336 ++ ((rd_T62 l1 x10_1).f2)) l1 (l1.length : Int) (wrap64 (x10_1 + 1))) else (none))) else (none))))) = some r := by rw [if_neg (show ¬ (false = true) by decide)] at H; exact H
      clear H
      have H := H1
      clear H1
      replace H := Option.bind_eq_some_iff.mp H
      obtain ⟨t325, A100, H⟩ := H
      (try dsimp only at H)
      have A10 := Aside0.mk A100
      clear A100
      by_cases c11 : t325 = true
      ·subst c11
       have H1 : ((bits_Fold.f ((rd_T62 l1 x10_1).f1)).bind fun t326 => ((vint_Put.f k1 t326).bind fun t327 => (if x5_1.length + t327.length < 140737488355328 then (block_plain.l0 k1 a0 (x5_1 ++ t327) l1 (l1.length : Int) (wrap64 (x10_1 + 1))) else (none)))) = some r := by rw [if_pos rfl] at H; exact H
       clear H
       have H := H1
       clear H1
       replace H := Option.bind_eq_some_iff.mp H
       obtain ⟨t326, A120, H⟩ := H
       (try dsimp only at H)
       have A12 := Aside0.mk A120
       clear A120
       replace H := Option.bind_eq_some_iff.mp H
       obtain ⟨t327, A130, H⟩ := H
       (try dsimp only at H)
       have A13 := Aside0.mk A130
       clear A130
       by_cases c14 : x5_1.length + t327.length < 140737488355328
       ·rw [if_pos c14] at H
        have LMc14 := Aside0.mk c14
        clear c14
        obtain ⟨y330, hy330⟩ : ∃ y_ : List Int, y_ = (x5_1 ++ t327) := ⟨_, rfl⟩
        replace H : (block_plain.l0 k1 a0 y330 l1 (l1.length : Int) (wrap64 (x10_1 + 1))) = some r := by (rw [hy330]; with_reducible exact H)
        have Ny330 := Aside0.mk hy330
        clear hy330
        have H' := Aside0.mk H
        clear H
        have p323 : 0 ≤ (x10_1 : Int) := of_decide_eq_true ‹_›
        have q323 : x10_1 < (l1.length : Int) := of_decide_eq_true ‹_›
        obtain ⟨ad323, A323_2, c323_2, e323, hx323_0, hx323_1, hx323_2, hl323_2, hi323_2⟩ := at_T62 HR1.out x10_1 p323 q323
        (try rw [← Nbq6.out] at hx323_0)
        cases e323
        replace hx323_0 := (HB.out.cell (World.block_lt_of_cell? w _ hx323_0)).trans hx323_0
        replace hx323_1 := (HB.out.cell (World.block_lt_of_cell? w _ hx323_1)).trans hx323_1
        replace hx323_2 := (HB.out.cell (World.block_lt_of_cell? w _ hx323_2)).trans hx323_2
        have HR323_2 := Aside0.mk hi323_2
        have HC323_2 := Aside0.mk hl323_2
        clear hi323_2 hl323_2
        replace p323 := eq_true p323
        replace q323 := eq_true q323
        go_wp2_with (first | ((with_reducible refine gate_dst (N := 7) rfl ?_); refine box_event ?hg (N := 7) ?hd (cs := #[.bool false, .int .i64 0, .slice none 0 0]) (t := 62) ?hr ?_; (case hd => rfl); (case hg => rfl); (case hr => (go_simp; done)); intro gb324 hg w15 hbox hb; have n0_ := Aside0.mk (Kd.R_below HO_5.out hb); have n1_ := Aside0.mk (below_step HB.out hb); have n2_ := Aside0.mk (hbox); have n3_ := Aside0.mk ((by rw [hg]; exact (below_size HB.out) : w.heap.size ≤ gb324)); have n4_ := Aside0.mk ((by rw [hg]; exact (below_size HB.out) : w.heap.size ≤ gb324)); revert n0_ n1_ n2_ n3_ n4_; clear HO_5 HB; intro HO_5 HB BK324 GW324 GE324; clear hb hbox hg; have hcz16_0 : w15.cell? ⟨gb324, 0, none⟩ = some (.bool false) := (blk_cell BK324.out 0).trans rfl; have hcz16_1 : w15.cell? ⟨gb324, 1, none⟩ = some (.int .i64 0) := (blk_cell BK324.out 1).trans rfl; have hcz16_2 : w15.cell? ⟨gb324, 2, none⟩ = some (.slice none 0 0) := (blk_cell BK324.out 2).trans rfl; have hfz16_0 := blk_frozen BK324.out 0; have hfz16_1 := blk_frozen BK324.out 1; have hfz16_2 := blk_frozen BK324.out 2) | ((with_reducible refine gate_callee (f := 69) rfl ?_); refine goL_ Tryz.func69 #[.int .i64 a0] ?_; (with_reducible refine (cell_Number.calls a0 true _ A10.out).mono ?_); rintro e w' ⟨rfl, ⟨nd, rfl⟩⟩; refine ⟨_, rfl, ?_⟩) | ((with_reducible refine gate_callee (f := 135) rfl ?_); refine goL_ Tryz.func135 #[.int .i64 ((rd_T62 l1 x10_1).f1)] ?_; (with_reducible refine (bits_Fold.calls ((rd_T62 l1 x10_1).f1) t326 _ A12.out).mono ?_); rintro e w' ⟨rfl, ⟨nd, rfl⟩⟩; refine ⟨_, rfl, ?_⟩) | ((with_reducible refine gate_callee (f := 71) rfl ?_); refine goL_ Tryz.func71 #[.int .u64 t326] ?_; (with_reducible refine (vint_Put.calls k1 t326 t327 _ A13.out).mono ?_); rintro e w17 ⟨v328, rfl, ho0, hb⟩; refine ⟨_, rfl, ?_⟩; have n0_ := Aside0.mk (Kd.R_elder' (by (with_reducible repeat (apply Kd.R_drewN)); exact (Kd.R_mono (Kd.R_far (p := ⟨gb324, 2, none⟩) (Kd.R_far (p := ⟨gb324, 1, none⟩) (Kd.R_far (p := ⟨gb324, 0, none⟩) (Kd.R_types HO_5.out BK324.out (by decide)) (fun _ hk => hk.2) (.bool false)) (fun _ hk => hk.2) (.int .i64 ((rd_T62 l1 x10_1).f1))) (fun _ hk => hk.2) (.slice A323_2 ((rd_T62 l1 x10_1).f2).length c323_2)) (fun _ h_ => h_.1))) (Kd.R_base ho0) hb); have n1_ := Aside0.mk (Kd.R_lower (Kd.R_new' ho0 (Kd.R_lt (by (with_reducible repeat (apply Kd.R_drewN)); exact (Kd.R_mono (Kd.R_far (p := ⟨gb324, 2, none⟩) (Kd.R_far (p := ⟨gb324, 1, none⟩) (Kd.R_far (p := ⟨gb324, 0, none⟩) (Kd.R_types HO_5.out BK324.out (by decide)) (fun _ hk => hk.2) (.bool false)) (fun _ hk => hk.2) (.int .i64 ((rd_T62 l1 x10_1).f1))) (fun _ hk => hk.2) (.slice A323_2 ((rd_T62 l1 x10_1).f2).length c323_2)) (fun _ h_ => h_.1))))) (below_size (by repeat ((with_reducible first | exact HB.out | apply pw_below_drewN | refine below_set ?_ GE324.out))))); have n2_ := Aside0.mk (blk_below (g := gb324) (o := .cells #[.bool false, .int .i64 ((rd_T62 l1 x10_1).f1), .slice A323_2 ((rd_T62 l1 x10_1).f2).length c323_2] 62 (0, 0)) (by (with_reducible repeat (refine blk_drewN ?_ _)); refine blk_put (cs := #[.bool false, .int .i64 ((rd_T62 l1 x10_1).f1), .slice none 0 0]) ?_ 2 _ rfl; (with_reducible repeat (refine blk_drewN ?_ _)); refine blk_put (cs := #[.bool false, .int .i64 0, .slice none 0 0]) ?_ 1 _ rfl; (with_reducible repeat (refine blk_drewN ?_ _)); refine blk_put (cs := #[.bool false, .int .i64 0, .slice none 0 0]) ?_ 0 _ rfl; (with_reducible repeat (refine blk_drewN ?_ _)); exact BK324.out) hb); have n3_ := Aside0.mk (below_step (by repeat ((with_reducible first | exact HB.out | apply pw_below_drewN | refine below_set ?_ GE324.out))) hb); revert n0_ n1_ n2_ n3_; clear HO_5 BK324 HB; intro HO_5 HO329 BK324 HB; (try clear hb); (try clear ho0); obtain ⟨Ao19, co19, eo19⟩ := Kd.R_slice HO329.out; subst eo19) | ((with_reducible refine gate_builtin (b := .append) (xs := #[.tmp 30, .tmp 34]) rfl ?_); at_builtin; refine Kd.R_append_rows (Kd.int .u8) (w0 := w) w.heap.size rfl (.tmp 30) (.tmp 34) 24 5 (.int .u8 0) 1 rfl Tryz.underlying24 info5 rfl (by decide) (by omega) u5 x5_1 t327 _ _ _ (fun k_ => some k_ ≠ (.slice Ao19 t327.length co19 : Value).ownBlock) (fun _ => False) rfl rfl ?aO ?aR (fun _ _ h => h) (fun _ h => h.elim) ?aF ?aB ?aS ?aL ?_; (case aR => repeat (exact (Kd.R_reads' HO329.out).2.2)); (case aB => exact HB.out); (case aF => exact (fun k_ hk => Kd.fresh' (Kd.R_lt HO329.out) k_ hk)); (case aO => exact (by (with_reducible repeat (apply Kd.R_alloc)); exact Kd.R_mono HO_5.out (fun _ hk => hk.2))); (case aS => exact (below_size HB.out)); (case aL => have := LMc14.out; omega); intro v331 w18 ho hb hg hat; rw [← Ny330.out] at ho; have n0_ := Aside0.mk (blk_grown (g := gb324) (o := .cells #[.bool false, .int .i64 ((rd_T62 l1 x10_1).f1), .slice A323_2 ((rd_T62 l1 x10_1).f2).length c323_2] 62 (0, 0)) (by (with_reducible repeat (refine blk_drewN ?_ _)); exact BK324.out) hg (Kd.R_ne HO_5.out BK324.out (by decide))); have n1_ := Aside0.mk (Kd.R_after (ok := (fun _ => True)) HO329.out hg hat); have n2_ := Aside0.mk (hb); have n3_ := Aside0.mk (ho); revert n0_ n1_ n2_ n3_; clear BK324 HO329 HB HO_5; intro BK324 HO329 HB HO332; clear ho hb hg hat))
        go_roundg k1
        case measure => have := HK1.out; omega
        case rel => exact ⟨(y330), (wrap64 (x10_1 + 1)), (by rfl), H', ⟨by have := HK1.out; omega⟩, ⟨by (with_reducible repeat (apply Kd.R_alloc)); exact Kd.R_mono HO332.out (fun _ hk => trivial)⟩, ⟨by exact HB.out⟩⟩
       rw [if_neg c14] at H
       exact absurd H (by simp)
      replace c11 := Bool.eq_false_iff.mpr c11
      subst c11
      have H1 : ((vint_Put.f k1 (IntKind.u64.wrap ((((rd_T62 l1 x10_1).f2).length : Int)))).bind fun t333 => (if x5_1.length + t333.length < 140737488355328 then ((some (x5_1 ++ t333 : List Int)).bind fun y336 => (if y336.length + ((rd_T62 l1 x10_1).f2).length < 140737488355328 then (block_plain.l0 k1 a0 (y336 ++ ((rd_T62 l1 x10_1).f2)) l1 (l1.length : Int) (wrap64 (x10_1 + 1))) else (none))) else (none))) = some r := by rw [if_neg (show ¬ (false = true) by decide)] at H; exact H
      clear H
      have H := H1
      clear H1
      replace H := Option.bind_eq_some_iff.mp H
      obtain ⟨t333, A200, H⟩ := H
      (try dsimp only at H)
      have A20 := Aside0.mk A200
      clear A200
      by_cases c21 : x5_1.length + t333.length < 140737488355328
      ·rw [if_pos c21] at H
       have LMc21 := Aside0.mk c21
       clear c21
       obtain ⟨y336, hy336⟩ : ∃ y_ : List Int, y_ = (x5_1 ++ t333) := ⟨_, rfl⟩
       replace H : (if y336.length + ((rd_T62 l1 x10_1).f2).length < 140737488355328 then (block_plain.l0 k1 a0 (y336 ++ ((rd_T62 l1 x10_1).f2)) l1 (l1.length : Int) (wrap64 (x10_1 + 1))) else (none)) = some r := by (have H2_ := (Option.bind_some _ _).symm.trans H; rw [hy336]; with_reducible exact H2_)
       have Ny336 := Aside0.mk hy336
       clear hy336
       by_cases c22 : y336.length + ((rd_T62 l1 x10_1).f2).length < 140737488355328
       ·rw [if_pos c22] at H
        have LMc22 := Aside0.mk c22
        clear c22
        obtain ⟨y339, hy339⟩ : ∃ y_ : List Int, y_ = (y336 ++ ((rd_T62 l1 x10_1).f2)) := ⟨_, rfl⟩
        replace H : (block_plain.l0 k1 a0 y339 l1 (l1.length : Int) (wrap64 (x10_1 + 1))) = some r := by (rw [hy339]; with_reducible exact H)
        have Ny339 := Aside0.mk hy339
        clear hy339
        have H' := Aside0.mk H
        clear H
        have p323 : 0 ≤ (x10_1 : Int) := of_decide_eq_true ‹_›
        have q323 : x10_1 < (l1.length : Int) := of_decide_eq_true ‹_›
        obtain ⟨ad323, A323_2, c323_2, e323, hx323_0, hx323_1, hx323_2, hl323_2, hi323_2⟩ := at_T62 HR1.out x10_1 p323 q323
        (try rw [← Nbq6.out] at hx323_0)
        cases e323
        replace hx323_0 := (HB.out.cell (World.block_lt_of_cell? w _ hx323_0)).trans hx323_0
        replace hx323_1 := (HB.out.cell (World.block_lt_of_cell? w _ hx323_1)).trans hx323_1
        replace hx323_2 := (HB.out.cell (World.block_lt_of_cell? w _ hx323_2)).trans hx323_2
        have HR323_2 := Aside0.mk hi323_2
        have HC323_2 := Aside0.mk hl323_2
        clear hi323_2 hl323_2
        replace p323 := eq_true p323
        replace q323 := eq_true q323
        try go_wp2_with (first | ((with_reducible refine gate_dst (N := 7) rfl ?_); refine box_event ?hg (N := 7) ?hd (cs := #[.bool false, .int .i64 0, .slice none 0 0]) (t := 62) ?hr ?_; (case hd => rfl); (case hg => rfl); (case hr => (go_simp; done)); intro gb324 hg w23 hbox hb; have n0_ := Aside0.mk (Kd.R_below HO_5.out hb); have n1_ := Aside0.mk (below_step HB.out hb); have n2_ := Aside0.mk (hbox); have n3_ := Aside0.mk ((by rw [hg]; exact (below_size HB.out) : w.heap.size ≤ gb324)); have n4_ := Aside0.mk ((by rw [hg]; exact (below_size HB.out) : w.heap.size ≤ gb324)); revert n0_ n1_ n2_ n3_ n4_; clear HO_5 HB; intro HO_5 HB BK324 GW324 GE324; clear hb hbox hg; have hcz24_0 : w23.cell? ⟨gb324, 0, none⟩ = some (.bool false) := (blk_cell BK324.out 0).trans rfl; have hcz24_1 : w23.cell? ⟨gb324, 1, none⟩ = some (.int .i64 0) := (blk_cell BK324.out 1).trans rfl; have hcz24_2 : w23.cell? ⟨gb324, 2, none⟩ = some (.slice none 0 0) := (blk_cell BK324.out 2).trans rfl; have hfz24_0 := blk_frozen BK324.out 0; have hfz24_1 := blk_frozen BK324.out 1; have hfz24_2 := blk_frozen BK324.out 2) | ((with_reducible refine gate_callee (f := 69) rfl ?_); refine goL_ Tryz.func69 #[.int .i64 a0] ?_; (with_reducible refine (cell_Number.calls a0 false _ A10.out).mono ?_); rintro e w' ⟨rfl, ⟨nd, rfl⟩⟩; refine ⟨_, rfl, ?_⟩))
        have n0_ : Aside0 (Kd.R (Kd.int .u8) 5 (((w23.setCell ⟨gb324, 0, none⟩ (.bool false)).setCell ⟨gb324, 1, none⟩ (.int .i64 ((rd_T62 l1 x10_1).f1))).setCell ⟨gb324, 2, none⟩ (.slice A323_2 ((rd_T62 l1 x10_1).f2).length c323_2)) w.heap.size (fun _ => True) u5 x5_1) := ⟨by (with_reducible repeat (apply Kd.R_alloc)); exact Kd.R_mono (Kd.R_far (p := ⟨gb324, 2, none⟩) (Kd.R_far (p := ⟨gb324, 1, none⟩) (Kd.R_far (p := ⟨gb324, 0, none⟩) (Kd.R_types HO_5.out BK324.out (by decide)) (fun _ hk => hk.2) (.bool false)) (fun _ hk => hk.2) (.int .i64 ((rd_T62 l1 x10_1).f1))) (fun _ hk => hk.2) (.slice A323_2 ((rd_T62 l1 x10_1).f2).length c323_2)) (fun _ hk => trivial)⟩
        have n1_ : Aside0 ((((w23.setCell ⟨gb324, 0, none⟩ (.bool false)).setCell ⟨gb324, 1, none⟩ (.int .i64 ((rd_T62 l1 x10_1).f1))).setCell ⟨gb324, 2, none⟩ (.slice A323_2 ((rd_T62 l1 x10_1).f2).length c323_2)).heap[gb324]? = some (.cells #[.bool false, .int .i64 ((rd_T62 l1 x10_1).f1), .slice A323_2 ((rd_T62 l1 x10_1).f2).length c323_2] 62 (0, 0))) := ⟨by (with_reducible repeat (refine blk_drewN ?_ _)); refine blk_put (cs := #[.bool false, .int .i64 ((rd_T62 l1 x10_1).f1), .slice none 0 0]) ?_ 2 _ rfl; (with_reducible repeat (refine blk_drewN ?_ _)); refine blk_put (cs := #[.bool false, .int .i64 0, .slice none 0 0]) ?_ 1 _ rfl; (with_reducible repeat (refine blk_drewN ?_ _)); refine blk_put (cs := #[.bool false, .int .i64 0, .slice none 0 0]) ?_ 0 _ rfl; (with_reducible repeat (refine blk_drewN ?_ _)); exact BK324.out⟩
        have n2_ : Aside0 (Below w.heap.size w (((w23.setCell ⟨gb324, 0, none⟩ (.bool false)).setCell ⟨gb324, 1, none⟩ (.int .i64 ((rd_T62 l1 x10_1).f1))).setCell ⟨gb324, 2, none⟩ (.slice A323_2 ((rd_T62 l1 x10_1).f2).length c323_2))) := ⟨by repeat ((with_reducible first | exact HB.out | refine below_set ?_ GE324.out))⟩
        (try clear HO_5)
        (try clear BK324)
        (try clear HB)
        generalize (((w23.setCell ⟨gb324, 0, none⟩ (.bool false)).setCell ⟨gb324, 1, none⟩ (.int .i64 ((rd_T62 l1 x10_1).f1))).setCell ⟨gb324, 2, none⟩ (.slice A323_2 ((rd_T62 l1 x10_1).f2).length c323_2)) = w25 at n0_ n1_ n2_ ⊢
        have HO_5 := n0_
        have BK324 := n1_
        have HB := n2_
        clear n0_ n1_ n2_
        (try (rw [drewN_self w25]; generalize hq_ : World.drewN w25 _ = w25; have n0_ : Aside0 (Kd.R (Kd.int .u8) 5 w25 w.heap.size (fun _ => True) u5 x5_1) := ⟨by rw [← hq_]; exact (by (with_reducible repeat (apply Kd.R_drewN)); exact HO_5.out)⟩; have n1_ : Aside0 (w25.heap[gb324]? = some (.cells #[.bool false, .int .i64 ((rd_T62 l1 x10_1).f1), .slice A323_2 ((rd_T62 l1 x10_1).f2).length c323_2] 62 (0, 0))) := ⟨by rw [← hq_]; exact (by (with_reducible repeat (refine blk_drewN ?_ _)); exact BK324.out)⟩; have n2_ : Aside0 (Below w.heap.size w w25) := ⟨by rw [← hq_]; exact (by repeat ((with_reducible first | exact HB.out | apply pw_below_drewN)))⟩; clear HO_5 BK324 HB hq_; have HO_5 := n0_; have BK324 := n1_; have HB := n2_; clear n0_ n1_ n2_))
        have n0_ := Aside0.mk (Kd.R_drew HO_5.out)
        have n1_ := Aside0.mk (blk_drew BK324.out)
        have n2_ := Aside0.mk (below_drew1 HB.out)
        clear HO_5
        clear BK324
        clear HB
        have HO_5 := n0_
        have BK324 := n1_
        have HB := n2_
        clear n0_ n1_ n2_
        refine start_ (n := 11) (S := fun w' => w'.cell? ⟨gb324, 0, none⟩ = some (.bool false) ∧ w'.cell? ⟨gb324, 1, none⟩ = some (.int .i64 ((rd_T62 l1 x10_1).f1)) ∧ w'.cell? ⟨gb324, 2, none⟩ = some (.slice A323_2 ((rd_T62 l1 x10_1).f2).length c323_2)) (ds := []) #[false, false, false, false, false, false, false, false, false, false, false] (by kernel_rfl) rfl rfl ⟨(blk_cell BK324.out 0).trans rfl, (blk_cell BK324.out 1).trans rfl, (blk_cell BK324.out 2).trans rfl⟩ (fun hHeld => ?_); refine with_tabW block_plain.tab5 block_plain.bits5 (fun HT_ HW_ => ?_)
        generalize w25.drew = w26 at HO_5 BK324 HB hHeld ⊢
        refine pu_ 0 14 HT_ ?_; refine pu_ 1 15 HT_ ?_; refine pu_ 7 21 HT_ ?_
        refine take_ (i := 2) (N := some 16) (v := ?_) (a' := ?_) #[true, true, true, false, false, false, false, true, false, false, false] rfl rfl (take_ofW HT_.out HW_.out (by kernel_rfl)) (fun _ _ _ h => h) (Or.inl ⟨by rfl, ?_⟩) hHeld ?_ ?_
        rotate_left
        ·rintro w' ⟨s0, s1, s2⟩
         go_simp
         with_reducible rfl
        rotate_left
        ·simp only [Act.put, List.setIfInBounds_toArray, List.set_cons_zero, List.set_cons_succ, i64_w, i32_w]
         rfl
        refine pu_ 3 17 HT_ ?_; refine pu_ 4 18 HT_ ?_
        refine take_ (i := 8) (N := some 22) (v := ?_) (a' := ?_) #[true, true, true, true, true, false, false, true, true, false, false] rfl rfl (take_ofW HT_.out HW_.out (by kernel_rfl)) (fun _ _ _ h => h) (Or.inl ⟨by rfl, ?_⟩) hHeld ?_ ?_
        rotate_left
        ·rintro w' ⟨s0, s1, s2⟩
         go_simp
         with_reducible rfl
        rotate_left
        ·simp only [Act.put, List.setIfInBounds_toArray, List.set_cons_zero, List.set_cons_succ, i64_w, i32_w]
         rfl
        refine on_ 5 19 HT_ (fun K hK => ?_)
        refine goe_ Tryz.func71 #[.int .u64 (IntKind.u64.wrap ((((rd_T62 l1 x10_1).f2).length : Int)))] ?_
        with_reducible refine (vint_Put.calls k1 (IntKind.u64.wrap ((((rd_T62 l1 x10_1).f2).length : Int))) t333 _ A20.out).mono ?_
        rintro e w27 ⟨v334, rfl, ho0, hb⟩
        refine ⟨_, rfl, ?_⟩
        have n0_ := Aside0.mk (Kd.R_elder' HO_5.out (Kd.R_base ho0) hb)
        have n1_ := Aside0.mk (Kd.R_lower (Kd.R_new' ho0 (Kd.R_lt HO_5.out)) (below_size HB.out))
        have n2_ := Aside0.mk (blk_below (g := gb324) (o := .cells #[.bool false, .int .i64 ((rd_T62 l1 x10_1).f1), .slice A323_2 ((rd_T62 l1 x10_1).f2).length c323_2] 62 (0, 0)) (by (with_reducible repeat (refine blk_drewN ?_ _)); exact BK324.out) hb)
        have n3_ := Aside0.mk (below_step HB.out hb)
        clear HO_5
        clear BK324
        clear HB
        have HO_5 := n0_
        have HO335 := n1_
        have BK324 := n2_
        have HB := n3_
        clear n0_ n1_ n2_ n3_
        (try clear hb)
        (try clear ho0)
        obtain ⟨Ao29, co29, eo29⟩ := Kd.R_slice HO335.out
        (subst eo29)
        refine hK.out _ _ ⟨(blk_cell BK324.out 0).trans rfl, (blk_cell BK324.out 1).trans rfl, (blk_cell BK324.out 2).trans rfl⟩ (fun hHeld => ?_)
        clear hK K
        refine nor_ ?_
        refine on_ 6 20 HT_ (fun K hK => ?_)
        refine Kd.R_append_rows_step (Kd.int .u8) (w0 := w) w.heap.size (by rfl) (.tmp 14) (.tmp 19) 24 5 (.int .u8 0) 1 rfl Tryz.underlying24 info5 rfl (by decide) (by omega) u5 x5_1 t333 _ _ _ (fun k_ => some k_ ≠ (.slice Ao29 t333.length co29 : Value).ownBlock) (fun _ => False) rfl rfl ?aO ?aR (fun _ _ h => h) (fun _ h => h.elim) ?aF ?aB ?aS ?aL ?_
        (case aR => repeat (exact (Kd.R_reads' HO335.out).2.2))
        (case aB => exact HB.out)
        (case aF => exact (fun k_ hk => Kd.fresh' (Kd.R_lt HO335.out) k_ hk))
        (case aO => exact (by (with_reducible repeat (apply Kd.R_alloc)); exact Kd.R_mono HO_5.out (fun _ hk => hk.2)))
        (case aS => exact (below_size HB.out))
        (case aL => have := LMc21.out; omega)
        intro v337 w28 ho hb hg hat
        rw [← Ny336.out] at ho
        have n0_ := Aside0.mk (blk_grown (g := gb324) (o := .cells #[.bool false, .int .i64 ((rd_T62 l1 x10_1).f1), .slice A323_2 ((rd_T62 l1 x10_1).f2).length c323_2] 62 (0, 0)) (by (with_reducible repeat (refine blk_drewN ?_ _)); exact BK324.out) hg (Kd.R_ne HO_5.out BK324.out (by decide)))
        have n1_ := Aside0.mk (Kd.R_after (ok := (fun _ => True)) HO335.out hg hat)
        have n2_ := Aside0.mk (hb)
        have n3_ := Aside0.mk (ho)
        clear BK324
        clear HO335
        clear HB
        clear HO_5
        have BK324 := n0_
        have HO335 := n1_
        have HB := n2_
        have HO338 := n3_
        clear n0_ n1_ n2_ n3_
        clear ho hb hg hat
        refine hK.out _ _ ⟨(blk_cell BK324.out 0).trans rfl, (blk_cell BK324.out 1).trans rfl, (blk_cell BK324.out 2).trans rfl⟩ (fun hHeld => ?_)
        clear hK K
        refine nor_ ?_
        refine on_ 9 23 HT_ (fun K hK => ?_)
        refine Kd.R_append_rows_step (Kd.int .u8) (w0 := w) w.heap.size (by rfl) (.tmp 20) (.tmp 22) 24 5 (.int .u8 0) 1 rfl Tryz.underlying24 info5 rfl (by decide) (by omega) v337 y336 ((rd_T62 l1 x10_1).f2) _ _ _ (fun k_ => some k_ ≠ (.slice Ao29 t333.length co29 : Value).ownBlock) (fun _ => False) rfl rfl ?aO ?aR (fun _ _ h => h) (fun _ h => h.elim) ?aF ?aB ?aS ?aL ?_
        (case aR => repeat (exact (Kd.C_below HR323_2.out HB.out)))
        (case aB => exact HB.out)
        (case aF => exact (fun k_ hk => Kd.fresh' (Kd.R_lt HO335.out) k_ hk))
        (case aO => exact HO338.out)
        (case aS => exact (below_size HB.out))
        (case aL => have := LMc22.out; omega)
        intro v340 w30 ho hb hg hat
        rw [← Ny339.out] at ho
        have n0_ := Aside0.mk (blk_grown (g := gb324) (o := .cells #[.bool false, .int .i64 ((rd_T62 l1 x10_1).f1), .slice A323_2 ((rd_T62 l1 x10_1).f2).length c323_2] 62 (0, 0)) (by (with_reducible repeat (refine blk_drewN ?_ _)); exact BK324.out) hg (Kd.R_ne HO338.out BK324.out (by decide)))
        have n1_ := Aside0.mk (Kd.R_after (ok := (fun _ => True)) HO335.out hg hat)
        have n2_ := Aside0.mk (hb)
        have n3_ := Aside0.mk (ho)
        clear BK324
        clear HO335
        clear HB
        clear HO338
        have BK324 := n0_
        have HO335 := n1_
        have HB := n2_
        have HO341 := n3_
        clear n0_ n1_ n2_ n3_
        clear ho hb hg hat
        refine hK.out _ _ ⟨(blk_cell BK324.out 0).trans rfl, (blk_cell BK324.out 1).trans rfl, (blk_cell BK324.out 2).trans rfl⟩ (fun hHeld => ?_)
        clear hK K
        refine nor_ ?_
        refine pu_ 10 5 HT_ ?_
        refine done_ (done_of HT_.out (by kernel_rfl)) ?_
        try go_wp2
        go_roundg k1
        case measure => have := HK1.out; omega
        case rel => exact ⟨(y339), (wrap64 (x10_1 + 1)), (by rfl), H', ⟨by have := HK1.out; omega⟩, ⟨by (with_reducible repeat (apply Kd.R_alloc)); exact Kd.R_mono HO341.out (fun _ hk => trivial)⟩, ⟨by exact HB.out⟩⟩
       rw [if_neg c22] at H
       exact absurd H (by simp)
      rw [if_neg c21] at H
      exact absurd H (by simp)
     rw [if_neg c5] at H
     exact absurd H (by simp)
    rw [if_neg c4] at H
    exact absurd H (by simp)
   rw [if_neg c3] at H
   have c3b0 : decide (x10_1 < (l1.length : Int)) = false := decide_eq_false c3
   clear c3
   obtain rfl := Option.some.inj H
   go_wp2
   go_ret
   exact ⟨_, by rfl, by (with_reducible repeat (apply Kd.R_alloc)); exact HO_5.out, by exact HB.out⟩
def crc_step.f (a0 : Int) : Option (Int) := if (Go.bits .and .u32 a0 1) = 0 then (some (a0 / 2)) else (some (Go.bits .xor .u32 (a0 / 2) 2197175160))
set_option maxHeartbeats 8000000 in
set_option maxRecDepth 100000 in
theorem crc_step.calls (a0 : Int) (r : Int) (w : World) (h : crc_step.f a0 = some r) :
 Calls Tryz.prog 154 #[.int .u32 a0] w fun e w' => e = .returned (.int .u32 r) ∧ Drawn0 w w' := by
 unfold crc_step.f at h
 have H := h
 clear h
 by_cases c2 : (Go.bits .and .u32 a0 1) = 0
 ·rw [if_pos c2] at H
  have c2b0 : ((Go.bits .and .u32 a0 1) == 0) = true := beq_iff_eq.mpr c2
  have c2b1 : ((Go.bits .and .u32 a0 1) != 0) = false := bne_eq_false_iff_eq.mpr c2
  clear c2
  obtain rfl := Option.some.inj H
  go_enter Tryz.func154, Tryz.ntmps154
  go_wp2
  go_ret
  exact ⟨by rfl, by repeat (exact Drawn0.refl _)⟩
 rw [if_neg c2] at H
 have c2b0 : ((Go.bits .and .u32 a0 1) == 0) = false := beq_eq_false_iff_ne.mpr c2
 have c2b1 : ((Go.bits .and .u32 a0 1) != 0) = true := bne_iff_ne.mpr c2
 obtain rfl := Option.some.inj H
 go_enter Tryz.func154, Tryz.ntmps154
 go_wp2
 go_ret
 exact ⟨by rfl, by repeat (exact Drawn0.refl _)⟩
def crc_feed.l0 : Nat → Int → Int → Option (Int)
 | 0, _, _ => none
 | k + 1, x0, x9 => if x9 < 8 then ((crc_step.f x0).bind fun t373 => (crc_feed.l0 k t373 (wrap64 (x9 + 1)))) else (some x0)
def crc_feed.f (k : Nat) (a0 : Int) (a1 : Int) : Option (Int) := crc_feed.l0 k (Go.bits .xor .u32 a0 ((a1) % 4294967296)) 0
set_option maxHeartbeats 8000000 in
set_option maxRecDepth 100000 in
theorem crc_feed.calls (k : Nat) (a0 : Int) (a1 : Int) (r : Int) (w : World) (h : crc_feed.f k a0 a1 = some r) :
 Calls Tryz.prog 146 #[.int .u32 a0, .int .u8 a1] w fun e w' => e = .returned (.int .u32 r) ∧ Drawn0 w w' := by
 unfold crc_feed.f at h
 have H := h
 clear h
 have H' := Aside0.mk H
 clear H
 go_enter Tryz.func146, Tryz.ntmps146
 go_wp2
 go_loopg [0, 9] k (fun kq v0 v9 w' => ∃ (x0_1 : Int) (x9_1 : Int), v0 = .int .u32 x0_1 ∧ v9 = .int .i64 x9_1 ∧ Aside0 (crc_feed.l0 kq x0_1 x9_1 = some r) ∧ Aside0 (kq ≤ k) ∧ Drawn0 w w')
 case atStart => exact ⟨(Go.bits .xor .u32 a0 ((a1) % 4294967296)), (0), (by rfl), (by rfl), H', ⟨Nat.le_refl _⟩, by repeat (exact Drawn0.refl _)⟩
 case round =>
  clear H'
  obtain ⟨x0_1, x9_1, rfl, rfl, HA, HK1, ⟨m1, rfl⟩⟩ := hrel
  cases gk with
  | zero => exact absurd HA.out (by simp [crc_feed.l0])
  | succ k1 =>
   have H := HA.out
   clear HA
   simp only [crc_feed.l0] at H
   by_cases c3 : x9_1 < 8
   ·rw [if_pos c3] at H
    have c3b0 : decide (x9_1 < 8) = true := decide_eq_true c3
    clear c3
    replace H := Option.bind_eq_some_iff.mp H
    obtain ⟨t373, A40, H⟩ := H
    (try dsimp only at H)
    have A4 := Aside0.mk A40
    clear A40
    have H' := Aside0.mk H
    clear H
    go_wp2_with ((refine goL_ Tryz.func154 #[.int .u32 x0_1] ?_; (with_reducible refine (crc_step.calls x0_1 t373 _ A4.out).mono ?_); rintro e w' ⟨rfl, ⟨nd, rfl⟩⟩; refine ⟨_, rfl, ?_⟩))
    go_roundg k1
    case measure => have := HK1.out; omega
    case rel => exact ⟨(t373), (wrap64 (x9_1 + 1)), (by rfl), (by rfl), H', ⟨by have := HK1.out; omega⟩, by repeat (first | exact Drawn0.refl _ | apply Drawn0.step)⟩
   rw [if_neg c3] at H
   have c3b0 : decide (x9_1 < 8) = false := decide_eq_false c3
   clear c3
   obtain rfl := Option.some.inj H
   go_wp2
   go_ret
   exact ⟨by rfl, by repeat (first | exact Drawn0.refl _ | apply Drawn0.step)⟩
def crc_Extend.l0 : Nat → Int → List Int → Int → Int → Option (Int)
 | 0, _, _, _, _ => none
 | k + 1, x5, x10, x11, x12 => if x12 < x11 then (if 0 ≤ x12 then (if x12 < (x10.length : Int) then ((crc_feed.f k x5 (rd x10 x12)).bind fun t375 => (crc_Extend.l0 k t375 x10 x11 (wrap64 (x12 + 1)))) else (none)) else (none)) else (some (Go.bits .xor .u32 4294967295 x5))
def crc_Extend.f (k : Nat) (a0 : Int) (l1 : List Int) : Option (Int) := crc_Extend.l0 k (Go.bits .xor .u32 4294967295 a0) l1 (l1.length : Int) 0
set_option maxHeartbeats 8000000 in
set_option maxRecDepth 100000 in
theorem crc_Extend.calls (k : Nat) (a0 : Int) (A1 : Option Addr) (c1 : Nat) (l1 : List Int) (r : Int) (w : World) (hr1 : Kd.C (Kd.int .u8) w A1 l1.length l1) (hc1 : l1.length ≤ c1) (h : crc_Extend.f k a0 l1 = some r) :
 Calls Tryz.prog 120 #[.int .u32 a0, .slice A1 l1.length c1] w fun e w' => e = .returned (.int .u32 r) ∧ Drawn0 w w' := by
 have HR1 := Aside0.mk hr1
 have HC1 := Aside0.mk hc1
 clear hr1 hc1
 unfold crc_Extend.f at h
 have H := h
 clear h
 have H' := Aside0.mk H
 clear H
 go_enter Tryz.func120, Tryz.ntmps120
 go_wp2
 go_loopg [5, 12] k (fun kq v5 v12 w' => ∃ (x5_1 : Int) (x12_1 : Int), v5 = .int .u32 x5_1 ∧ v12 = .int .i64 x12_1 ∧ Aside0 (crc_Extend.l0 kq x5_1 l1 (l1.length : Int) x12_1 = some r) ∧ Aside0 (kq ≤ k) ∧ Drawn0 w w')
 case atStart => exact ⟨(Go.bits .xor .u32 4294967295 a0), (0), (by rfl), (by rfl), H', ⟨Nat.le_refl _⟩, by repeat (exact Drawn0.refl _)⟩
 case round =>
  clear H'
  obtain ⟨x5_1, x12_1, rfl, rfl, HA, HK1, ⟨m1, rfl⟩⟩ := hrel
  cases gk with
  | zero => exact absurd HA.out (by simp [crc_Extend.l0])
  | succ k1 =>
   have H := HA.out
   clear HA
   simp only [crc_Extend.l0] at H
   by_cases c3 : x12_1 < (l1.length : Int)
   ·rw [if_pos c3] at H
    have c3b0 : decide (x12_1 < (l1.length : Int)) = true := decide_eq_true c3
    clear c3
    by_cases c4 : 0 ≤ x12_1
    ·rw [if_pos c4] at H
     have c4b0 : decide (0 ≤ x12_1) = true := decide_eq_true c4
     clear c4
     by_cases c5 : x12_1 < (l1.length : Int)
     ·rw [if_pos c5] at H
      have c5b0 : decide (x12_1 < (l1.length : Int)) = true := decide_eq_true c5
      clear c5
      replace H := Option.bind_eq_some_iff.mp H
      obtain ⟨t375, A60, H⟩ := H
      (try dsimp only at H)
      have A6 := Aside0.mk A60
      clear A60
      have H' := Aside0.mk H
      clear H
      have p374 : 0 ≤ (x12_1 : Int) := of_decide_eq_true ‹_›
      have q374 : x12_1 < (l1.length : Int) := of_decide_eq_true ‹_›
      obtain ⟨ad374, e374, hx374_0⟩ := Kd.at_int HR1.out x12_1 p374 q374
      cases e374
      replace p374 := eq_true p374
      replace q374 := eq_true q374
      go_wp2_with ((refine goL_ Tryz.func146 #[.int .u32 x5_1, .int .u8 (rd l1 x12_1)] ?_; (with_reducible refine (crc_feed.calls k1 x5_1 (rd l1 x12_1) t375 _ A6.out).mono ?_); rintro e w' ⟨rfl, ⟨nd, rfl⟩⟩; refine ⟨_, rfl, ?_⟩))
      go_roundg k1
      case measure => have := HK1.out; omega
      case rel => exact ⟨(t375), (wrap64 (x12_1 + 1)), (by rfl), (by rfl), H', ⟨by have := HK1.out; omega⟩, by repeat (first | exact Drawn0.refl _ | apply Drawn0.step)⟩
     rw [if_neg c5] at H
     exact absurd H (by simp)
    rw [if_neg c4] at H
    exact absurd H (by simp)
   rw [if_neg c3] at H
   have c3b0 : decide (x12_1 < (l1.length : Int)) = false := decide_eq_false c3
   clear c3
   obtain rfl := Option.some.inj H
   go_wp2
   go_ret
   exact ⟨by rfl, by repeat (first | exact Drawn0.refl _ | apply Drawn0.step)⟩
def crc_Sum.l0 : Nat → Int → List (List Int) → Int → Int → Option (Int)
 | 0, _, _, _, _ => none
 | k + 1, x3, x6, x7, x8 => if x8 < x7 then (if 0 ≤ x8 then (if x8 < (x6.length : Int) then ((crc_Extend.f k x3 (rd_L1 x6 x8)).bind fun t377 => (crc_Sum.l0 k t377 x6 x7 (wrap64 (x8 + 1)))) else (none)) else (none)) else (some x3)
def crc_Sum.f (k : Nat) (l0 : List (List Int)) : Option (Int) := crc_Sum.l0 k 0 l0 (l0.length : Int) 0
set_option maxHeartbeats 8000000 in
set_option maxRecDepth 100000 in
theorem crc_Sum.calls (k : Nat) (A0 : Option Addr) (c0 : Nat) (l0 : List (List Int)) (r : Int) (w : World) (hr0 : Kd.C (Kd.slice 5 (Kd.int .u8)) w A0 l0.length l0) (hc0 : l0.length ≤ c0) (h : crc_Sum.f k l0 = some r) :
 Calls Tryz.prog 81 #[.slice A0 l0.length c0] w fun e w' => e = .returned (.int .u32 r) ∧ Drawn0 w w' := by
 have HR0 := Aside0.mk hr0
 have HC0 := Aside0.mk hc0
 clear hr0 hc0
 unfold crc_Sum.f at h
 have H := h
 clear h
 have H' := Aside0.mk H
 clear H
 go_enter Tryz.func81, Tryz.ntmps81
 go_wp2
 go_loopg [3, 8] k (fun kq v3 v8 w' => ∃ (x3_1 : Int) (x8_1 : Int), v3 = .int .u32 x3_1 ∧ v8 = .int .i64 x8_1 ∧ Aside0 (crc_Sum.l0 kq x3_1 l0 (l0.length : Int) x8_1 = some r) ∧ Aside0 (kq ≤ k) ∧ Drawn0 w w')
 case atStart => exact ⟨(0), (0), (by rfl), (by rfl), H', ⟨Nat.le_refl _⟩, by repeat (exact Drawn0.refl _)⟩
 case round =>
  clear H'
  obtain ⟨x3_1, x8_1, rfl, rfl, HA, HK1, ⟨m1, rfl⟩⟩ := hrel
  cases gk with
  | zero => exact absurd HA.out (by simp [crc_Sum.l0])
  | succ k1 =>
   have H := HA.out
   clear HA
   simp only [crc_Sum.l0] at H
   by_cases c2 : x8_1 < (l0.length : Int)
   ·rw [if_pos c2] at H
    have c2b0 : decide (x8_1 < (l0.length : Int)) = true := decide_eq_true c2
    clear c2
    by_cases c3 : 0 ≤ x8_1
    ·rw [if_pos c3] at H
     have c3b0 : decide (0 ≤ x8_1) = true := decide_eq_true c3
     clear c3
     by_cases c4 : x8_1 < (l0.length : Int)
     ·rw [if_pos c4] at H
      have c4b0 : decide (x8_1 < (l0.length : Int)) = true := decide_eq_true c4
      clear c4
      replace H := Option.bind_eq_some_iff.mp H
      obtain ⟨t377, A50, H⟩ := H
      (try dsimp only at H)
      have A5 := Aside0.mk A50
      clear A50
      have H' := Aside0.mk H
      clear H
      have p376 : 0 ≤ (x8_1 : Int) := of_decide_eq_true ‹_›
      have q376 : x8_1 < (l0.length : Int) := of_decide_eq_true ‹_›
      obtain ⟨ad376, A376_0, c376_0, e376, hx376_0, hl376_0, hi376_0⟩ := at_L1 HR0.out x8_1 p376 q376
      cases e376
      have HR376_0 := Aside0.mk hi376_0
      have HC376_0 := Aside0.mk hl376_0
      clear hi376_0 hl376_0
      replace p376 := eq_true p376
      replace q376 := eq_true q376
      go_wp2_with ((refine goL_ Tryz.func120 #[.int .u32 x3_1, .slice A376_0 (rd_L1 l0 x8_1).length c376_0] ?_; (with_reducible refine (crc_Extend.calls k1 x3_1 _ _ (rd_L1 l0 x8_1) t377 _ ?side1 ?side2 A5.out).mono ?_); (case side1 => repeat (exact HR376_0.out)); (case side2 => exact HC376_0.out); rintro e w' ⟨rfl, ⟨nd, rfl⟩⟩; refine ⟨_, rfl, ?_⟩))
      go_roundg k1
      case measure => have := HK1.out; omega
      case rel => exact ⟨(t377), (wrap64 (x8_1 + 1)), (by rfl), (by rfl), H', ⟨by have := HK1.out; omega⟩, by repeat (first | exact Drawn0.refl _ | apply Drawn0.step)⟩
     rw [if_neg c4] at H
     exact absurd H (by simp)
    rw [if_neg c3] at H
    exact absurd H (by simp)
   rw [if_neg c2] at H
   have c2b0 : decide (x8_1 < (l0.length : Int)) = false := decide_eq_false c2
   clear c2
   obtain rfl := Option.some.inj H
   go_wp2
   go_ret
   exact ⟨by rfl, by repeat (first | exact Drawn0.refl _ | apply Drawn0.step)⟩
end Go.Proofs.YtjbhaepkldgfnaaGreat.S
namespace Go.Proofs.YtjbhaepkldgfnaaGreat.S
open Go.RowKit Go.Proofs.YtjbhaepkldgfnaaGreatW.PrintWords Go.Proofs.YtjbhaepkldgfnaaGreatW.PrintLast Go.Proofs.YtjbhaepkldgfnaaGreatW.PrintMore
set_option linter.unusedVariables false
set_option linter.unusedSimpArgs false
def tail4 (s : Int) : List Int := [s % 256, s / 256 % 256, s / 65536 % 256, s / 16777216 % 256]
set_option maxHeartbeats 2000000 in
set_option maxRecDepth 100000 in
theorem crc_tail.calls (a0 : Int) (w : World) :
 Calls Tryz.prog 80 #[.int .u32 a0] w fun e w' => e = .returned (.agg #[.int .u8 (a0 % 256), .int .u8 (a0 / 256 % 256), .int .u8 (a0 / 65536 % 256), .int .u8 (a0 / 16777216 % 256)]) ∧ Below w.heap.size w w' := by
 go_enter Tryz.func80, Tryz.ntmps80
 go_wp2
 exact bodyPost_ret (v := .agg #[.int .u8 (a0 % 256), .int .u8 (a0 / 256 % 256), .int .u8 (a0 / 65536 % 256), .int .u8 (a0 / 16777216 % 256)]) (by simp [results, Tryz.results80, go_sem]) rfl ⟨rfl, (Below.refl _ _).alloc (Nat.le_refl _) _⟩
theorem C_single {W : World} {g n : Nat} {A0 : Option Addr} {c0 : Nat} {l0 : List Int} (hn : l0.length = n) (hg : W.heap[g]? = some (.cells #[.slice A0 n c0] 24 (0, 0))) (hr : Kd.C (Kd.int .u8) W A0 l0.length l0) (hc : l0.length ≤ c0) :
 Kd.C (Kd.slice 5 (Kd.int .u8)) W (some ⟨g, 0, none⟩) 1 [l0] := by
 subst hn
 refine ⟨rfl, by omega, fun _ => ⟨⟨g, 0, none⟩, rfl, fun j p hj => ?_⟩⟩
 have hj0 : j = 0 := by
  have := (List.getElem?_eq_some_iff.1 hj).1
  simp at this
  exact this
 subst hj0
 have hp : l0 = p := by simpa using hj
 subst hp
 refine ⟨[.slice A0 l0.length c0], rfl, ⟨A0, c0, rfl, hc, hr⟩, fun i u hu => ?_⟩
 cases i with
 | zero =>
  have hv : Value.slice A0 l0.length c0 = u := by simpa using hu
  subst hv
  simp [World.cell?, Addr.add, hg]
 | succ i => simp at hu
theorem C_tail {W : World} {g t : Nat} {s : Int} (hg : W.heap[g]? = some (.cells #[.int .u8 (s % 256), .int .u8 (s / 256 % 256), .int .u8 (s / 65536 % 256), .int .u8 (s / 16777216 % 256)] t (0, 0))) : Kd.C (Kd.int .u8) W (some ⟨g, 0, none⟩) 4 (tail4 s) := by
 refine Kd.C_of_reads (d := (0 : Int)) ⟨rfl, by omega, fun _ => ⟨_, rfl, fun j hj => ?_⟩⟩
 rw [add_plain]
 rcases j with _ | _ | _ | _ | j
 ·simp [World.cell?, hg, tail4]
 ·simp [World.cell?, hg, tail4]
 ·simp [World.cell?, hg, tail4]
 ·simp [World.cell?, hg, tail4]
 omega
theorem run_make0 {P : Program} {W : World} {o : Oper} {a : Act} {t e : Nat} {x y : Operand} {n : Nat} (ho : o.op = .makeSlice t x y) (hx : a.eval x = .int .i64 0) {m : Int} (hy : a.eval y = .int .i64 m) (hm : m = (n : Int)) (ht : P.underlying t = some (.slice e))
 {z : Value} {bytes : Nat} (hinfo : (P.info? e).map (fun i => (i.zero, i.size, i.bytes)) = some (some z, 1, bytes)) (hl : n * bytes ≤ 281474976710656) (hn : n ≤ 9223372036854775807) :
 (execOp a.eval o).run P W = .ok (.value (.slice (some ⟨W.heap.size, 0, none⟩) 0 n)) (W.alloc (.cells (madeCells z.cells n) e)) := by
 subst hm
 obtain ⟨i0, hi, hzz⟩ := Option.map_eq_some_iff.1 hinfo
 simp only [Prod.mk.injEq] at hzz
 obtain ⟨hz0, hz1, hz2⟩ := hzz
 have hr := run_make (P := P) W t e i0 z ht hi hz0 .i64 .i64 0 (n : Int) (by omega) (by omega)
  (by
   have h3 : ((i0.bytes * n : Nat) : Int) ≤ 281474976710656 := by rw [hz2, Nat.mul_comm]; omega
   rwa [Int.natCast_mul] at h3) (by omega)
 simp only [Int.toNat_natCast, Int.toNat_zero] at hr
 rw [hz1, Nat.mul_one] at hr
 simp [execOp, ho, hx, hy, hr]
theorem R_made0 {W : World} {base n : Nat} (hb : base ≤ W.heap.size) (hn : n ≤ 9223372036854775807) (z : Array Value) : Kd.R (Kd.int .u8) 5 (W.alloc (.cells (madeCells z n) 5)) base (fun _ => True) (.slice (some ⟨W.heap.size, 0, none⟩) 0 n) [] :=
 Kd.R_of_own (enc := Value.int .u8) ⟨rfl, .inr ⟨W.heap.size, n, _, rfl, hb, heap_alloc_new W _, Nat.zero_le _, by unfold maxLen; omega, by rw [Nat.mul_one]; exact size_madeCells _ _, by simp [encs]⟩⟩ (fun _ _ => trivial)
def crc_Seal.T2 : Bool × List (List Nat × List Nat) := (true, [([], []), ([0], [0]), ([1], [1]), ([2], [2]), ([], []), ([3, 4], [3, 4]), ([], []), ([5, 6, 5], [5, 6]), ([7, 7, 0, 1, 2, 3, 4, 5, 6, 7], [7])])
def crc_Seal.B2 : List Nat := [0, 1, 3, 7, 0, 31, 0, 127, 255]
theorem crc_Seal.tab2 : rtab .any (opsOf Tryz.f74 2) = crc_Seal.T2 := by kernel_rfl
theorem crc_Seal.bits2 : waitsOk crc_Seal.T2.2 crc_Seal.B2 = true := by kernel_rfl
def crc_Seal.f (k : Nat) (l0 : List Int) : Option (List Int) := if l0.length ≤ 140737488355320 then (crc_Sum.f k [l0]).bind fun s => some (l0 ++ tail4 s) else none
set_option maxHeartbeats 2000000 in
set_option maxRecDepth 100000 in
theorem crc_Seal.calls (k : Nat) (A0 : Option Addr) (c0 : Nat) (l0 : List Int) (r : List Int) (w : World) (hr0 : Kd.C (Kd.int .u8) w A0 l0.length l0) (hc0 : l0.length ≤ c0) (h : crc_Seal.f k l0 = some r) :
 Calls Tryz.prog 74 #[.slice A0 l0.length c0] w fun e w' => ∃ v0_ : Value, e = .returned (v0_) ∧ Kd.R (Kd.int .u8) 5 w' w.heap.size (fun _ => True) v0_ r ∧ Below w.heap.size w w' := by
 have HR0 := Aside0.mk hr0
 have HC0 := Aside0.mk hc0
 clear hr0 hc0
 unfold crc_Seal.f at h
 split at h
 case isFalse => cases h
 rename_i hlen
 have HL := Aside0.mk hlen
 clear hlen
 obtain ⟨s, hs, h⟩ := Option.bind_eq_some_iff.1 h
 injection h with h
 have Hr := Aside0.mk h
 have A1 := Aside0.mk hs
 clear h hs
 go_enter Tryz.func74, Tryz.ntmps74
 go_wp2_with fail
 refine (crc_Sum.calls k _ _ [l0] s _ (C_single (g := w.heap.size) (A0 := A0) (c0 := c0) rfl (heap_alloc_new w _) (Kd.C_below HR0.out (below_alloc (Below.refl _ _) _)) HC0.out) (Nat.le_refl _) A1.out).mono ?_
 rintro e w1 ⟨rfl, ⟨nd, rfl⟩⟩
 go_wp2_with fail
 refine (crc_tail.calls s _).mono ?_
 rintro e w2 ⟨rfl, hb⟩
 have HB := Aside0.mk (below_step (pw_below_drewN (below_alloc (Below.refl w.heap.size w) (.cells #[.slice A0 l0.length c0] 24)) nd) hb)
 clear hb
 go_wp2_with fail
 have HG := Aside0.mk (heap_alloc_new w2 (.cells #[.int .u8 (s % 256), .int .u8 (s / 256 % 256), .int .u8 (s / 65536 % 256), .int .u8 (s / 16777216 % 256)] 105))
 have HB2 := Aside0.mk (below_alloc HB.out (.cells #[.int .u8 (s % 256), .int .u8 (s / 256 % 256), .int .u8 (s / 65536 % 256), .int .u8 (s / 16777216 % 256)] 105))
 have HB0 := HB
 clear HB
 obtain ⟨g, hg⟩ : ∃ g, g = w2.heap.size := ⟨_, rfl⟩
 rw [← hg] at HG
 rw [← hg]
 have HGE := Aside0.mk (show w.heap.size ≤ g from by rw [hg]; exact HB0.out.size)
 clear HB0
 clear hg
 generalize w2.alloc _ = w3 at HG HB2 ⊢
 refine start_ (n := 9) (S := fun _ => True) (ds := []) #[false, false, false, false, false, false, false, false, false] (by kernel_rfl) rfl rfl trivial (fun hHeld => ?_)
 refine with_tabW crc_Seal.tab2 crc_Seal.bits2 (fun HT_ HW_ => ?_)
 generalize hw4 : w3.drew = w4
 have HG4 : Aside0 (w4.heap[g]? = some (.cells #[.int .u8 (s % 256), .int .u8 (s / 256 % 256), .int .u8 (s / 65536 % 256), .int .u8 (s / 16777216 % 256)] 105 (0, 0))) := ⟨by rw [← hw4]; exact HG.out⟩
 have HB := Aside0.mk (show Below w.heap.size w w4 from by rw [← hw4]; exact below_drew HB2.out)
 clear hw4 HG HB2 hHeld
 refine pu_ 0 8 HT_ ?_; refine pu_ 1 9 HT_ ?_; refine pu_ 2 10 HT_ ?_; refine pu_ 4 12 HT_ ?_; refine pu_ 6 14 HT_ ?_
 have hq0 : (0 : Int) ≤ wrap64 ((l0.length : Int) + 4) := by have := HL.out; unfold wrap64; omega
 have hq : (wrap64 ((l0.length : Int) + 4)) = ((l0.length + 4 : Nat) : Int) := by have := HL.out; unfold wrap64; omega
 have hlt : l0.length + 4 ≤ 140737488355328 := by have := HL.out; omega
 have HQ := Aside0.mk hq
 clear hq hq0
 refine on_ 3 11 HT_ (fun K hK => ?_)
 refine value_ rfl rfl (run_make0 (n := l0.length + 4) (by rfl) (by rfl) (by rfl) HQ.out Tryz.underlying24 info5 (by omega) (by omega)) ?_
 refine hK _ _ trivial (fun _ => ?_)
 have HO := Aside0.mk (R_made0 (W := w4) (n := l0.length + 4) HB.out.size (by omega) (Value.int .u8 0).cells)
 have HG5 := Aside0.mk (blk_alloc HG4.out (.cells (madeCells (Value.int .u8 0).cells (l0.length + 4)) 5))
 have HB5 := Aside0.mk (below_alloc HB.out (.cells (madeCells (Value.int .u8 0).cells (l0.length + 4)) 5))
 have HN := Aside0.mk (show (Value.slice (some ⟨w4.heap.size, 0, none⟩) 0 (l0.length + 4)).ownBlock ≠ some g from fun e => by injection e with e; have := blk_lt HG4.out; subst e; exact Nat.lt_irrefl _ this)
 have HL0 := HL
 clear hlt HQ HL HG4 HB
 generalize hv : Value.slice (some ⟨w4.heap.size, 0, none⟩) 0 (l0.length + 4) = v at HO HN ⊢
 clear hv
 generalize w4.alloc _ = w5 at HO HG5 HB5 ⊢
 refine norm_ (show Act.put _ (some 11) v = _ from by simp only [Act.put, List.setIfInBounds_toArray, List.set_cons_zero, List.set_cons_succ]; rfl) ?_
 refine on_ 5 13 HT_ (fun K hK => ?_)
 refine Kd.R_append_rows_step (Kd.int .u8) (w0 := w) w.heap.size rfl (.tmp 11) (.tmp 12) 24 5 (.int .u8 0) 1 rfl Tryz.underlying24 info5 rfl (by decide) (by omega) v [] l0 A0 l0.length c0 (fun _ => True) (fun _ => False) rfl rfl HO.out (Kd.C_below HR0.out HB5.out) (fun _ _ hh => hh) (fun _ hk => hk.elim) (fun _ _ => trivial) HB5.out HB5.out.size (by have := HL0.out; simp; omega) ?_
 intro v1 w6 ho hb hg hat
 refine hK _ _ trivial (fun _ => ?_)
 have HG6 := Aside0.mk (blk_grown HG5.out hg (fun e => HN.out e.symm))
 have HN1 := Aside0.mk (show v1.ownBlock ≠ some g from by
  rcases hat with e | ⟨b, e, hb2⟩
  ·rw [e]; exact HN.out
  rw [e]; intro e2; injection e2 with e2; have := blk_lt HG5.out; omega)
 have HO1 := Aside0.mk ho
 have HB6 := Aside0.mk hb
 clear ho hb hg hat HN HG5 HB5 HO
 refine norm_ (show Act.put _ (some 13) v1 = _ from by simp only [Act.put, List.setIfInBounds_toArray, List.set_cons_zero, List.set_cons_succ]; rfl) ?_
 refine on_ 7 15 HT_ (fun K hK => ?_)
 refine Kd.R_append_rows_step (Kd.int .u8) (w0 := w) w.heap.size rfl (.tmp 13) (.tmp 14) 24 5 (.int .u8 0) 1 rfl Tryz.underlying24 info5 rfl (by decide) (by omega) v1 ([] ++ l0) (tail4 s) (some ⟨g, 0, none⟩) 4 4 (fun _ => True) (fun _ => False) rfl rfl HO1.out (C_tail HG6.out) (fun _ _ hh => hh) (fun _ hk => hk.elim) (fun _ _ => trivial) HB6.out HB6.out.size (by have := HL0.out; simp; omega) ?_
 intro v2 w7 ho hb hg hat
 refine hK _ _ trivial (fun _ => ?_)
 clear hg hat
 refine norm_ (show Act.put _ (some 15) v2 = _ from by simp only [Act.put, List.setIfInBounds_toArray, List.set_cons_zero, List.set_cons_succ]; rfl) ?_
 refine pu_ 8 2 HT_ ?_
 refine done_ (done_of HT_.out (by kernel_rfl)) ?_
 rw [List.nil_append, Hr.out] at ho
 have HO2 := Aside0.mk ho
 have HB7 := Aside0.mk hb
 clear ho hb
 go_wp2
 go_ret
 exact ⟨_, rfl, HO2.out, HB7.out⟩
theorem C_cells' {w : World} {k : IntKind} {A : Option Addr} {n : Nat} {l : List Int} (h : Kd.C (Kd.int k) w A n l) : n ≤ 9223372036854775807 ∧ l.length = n := ⟨h.2.1, h.1⟩
def crc_Sealed.T2 : Bool × List (List Nat × List Nat) := (true, [([], []), ([0], [0]), ([1], [1]), ([2], [2]), ([2], [2]), ([3, 4, 2], [2, 3, 4]), ([5, 2], [2, 5]), ([6, 2, 2], [2, 6]), ([7, 7, 2], [2, 7]), ([2], [2]), ([2], [2]), ([9, 10, 2], [2, 9, 10]), ([11, 2], [2, 11]), ([12, 2], [2, 12]), ([8, 13, 2], [2, 8, 13]), ([2, 14], [2, 14]), ([15, 8, 0, 1, 2, 3, 4, 5, 6, 7, 8, 9, 10, 11, 12, 13, 14, 15], [15])])
def crc_Sealed.B2 : List Nat := [0, 1, 3, 7, 7, 31, 63, 127, 255, 7, 7, 1543, 3591, 7687, 16383, 32767, 65535]
theorem crc_Sealed.tab2 : rtab .any (opsOf Tryz.f44 2) = crc_Sealed.T2 := by kernel_rfl
theorem crc_Sealed.bits2 : waitsOk crc_Sealed.T2.2 crc_Sealed.B2 = true := by kernel_rfl
def crc_Sealed.f (k : Nat) (l0 : List Int) : Option Bool := if 4 ≤ l0.length then (crc_Sum.f k [l0.take (l0.length - 4)]).bind fun s => some (decide (tail4 s = l0.drop (l0.length - 4))) else some false
theorem equalIn_arr4 (d : Nat) (w : World) (a0 a1 a2 a3 b0 b1 b2 b3 : Int) : (Op.equalIn (d + 2) 105 (.agg #[.int .u8 a0, .int .u8 a1, .int .u8 a2, .int .u8 a3]) (.agg #[.int .u8 b0, .int .u8 b1, .int .u8 b2, .int .u8 b3])).run Tryz.prog w = .ok (a0 == b0 && (a1 == b1 && (a2 == b2 && a3 == b3))) w := by
 have h5 := Tryz.underlying5
 rw [Op.equalIn]
 simp [run_underlying Tryz.underlying105, go_sem]
 rw [show List.range' 0 4 = [0, 1, 2, 3] from rfl]
 have ha := Tryz.isAgg5
 have he : ∀ (a b : Int) (w : World), (Op.equalIn (d + 1) 5 (.int .u8 a) (.int .u8 b)).run Tryz.prog w = .ok (a == b) w := fun a b w => run_equalIn_int w d 5 .u8 .u8 a b h5
 by_cases h0 : a0 = b0 <;> by_cases h1 : a1 = b1 <;> by_cases h2 : a2 = b2 <;> by_cases h3 : a3 = b3 <;>
  simp [List.forIn_cons, Sem.run_bind, ha, he, h0, h1, h2, h3, Result.andThen]
theorem load4 {P : Program} {w : World} {ty : TypeId} {p : Addr} {c0 c1 c2 c3 : Value} {d : TypeDesc} (hu : P.underlying ty = some d) (hd : (match d with | .struct _ | .array _ _ => true | _ => false) = true) (hi : (P.info? ty).map (·.size) = some 4)
 (h0 : w.cell? p = some c0) (h1 : w.cell? (p.add 1) = some c1) (h2 : w.cell? (p.add 2) = some c2) (h3 : w.cell? (p.add 3) = some c3) : (loadVar ty p).run P w = .ok (.agg #[c0, c1, c2, c3]) w := by
 have hl : (loadCells p 4).run P w = .ok #[c0, c1, c2, c3] w :=
  run_loadCells_list (P := P) w p [c0, c1, c2, c3] (fun j v hv => by
   rcases j with _ | _ | _ | _ | j
   ·simp at hv; subst hv; simpa [Addr.add] using h0
   ·simp at hv; subst hv; exact h1
   ·simp at hv; subst hv; exact h2
   ·simp at hv; subst hv; exact h3
   simp at hv)
 cases hq : P.info? ty with
 | none => simp [hq] at hi
 | some i =>
  have hs : i.size = 4 := by simpa [hq] using hi
  have hagg : (isAgg ty).run P w = .ok true w := by
   unfold isAgg
   rw [Sem.run_bind, run_underlying hu w]
   cases d <;> simp_all
  simp [loadVar, Sem.run_bind, hagg, sizeOf, typeInfo, hq, hs, hl]
set_option maxHeartbeats 4000000 in
set_option maxRecDepth 100000 in
theorem crc_Sealed.calls (k : Nat) (A0 : Option Addr) (c0 : Nat) (l0 : List Int) (r : Bool) (w : World) (hr0 : Kd.C (Kd.int .u8) w A0 l0.length l0) (hc0 : l0.length ≤ c0) (h : crc_Sealed.f k l0 = some r) :
 Calls Tryz.prog 44 #[.slice A0 l0.length c0] w fun e w' => e = .returned (.bool r) ∧ Below w.heap.size w w' := by
 have HR0 := Aside0.mk hr0
 have HC0 := Aside0.mk hc0
 have HB := Aside0.mk (Below.refl w.heap.size w)
 have hlen := (C_cells' hr0).1
 clear hr0 hc0
 unfold crc_Sealed.f at h
 split at h
 ·rename_i h4
  obtain ⟨s, hs, h⟩ := Option.bind_eq_some_iff.1 h
  injection h with h
  obtain ⟨m, hm⟩ : ∃ m, l0.length = m + 4 := ⟨l0.length - 4, by omega⟩
  have e3 : wrap64 ((l0.length : Int) - 4) = (m : Int) := by unfold wrap64; omega
  have hsub : l0.length - 4 = m := by omega
  rw [hsub] at hs h
  have Hr := Aside0.mk h
  have A1 := Aside0.mk hs
  obtain ⟨ad, had, hcell⟩ := (Kd.reads_of_C (d := (0 : Int)) HR0.out).2.2 (by omega)
  subst had
  obtain ⟨i0, hi0, _, hsz, _⟩ := info_parts info5
  have hcut1 := cut_to (P := Tryz.prog) 24 5 .i64 Tryz.underlying24 hi0 (some ad) l0.length c0 (m : Int) (by omega) (by omega) HC0.out
  have hcut2 := cut_from (P := Tryz.prog) 24 5 .i64 Tryz.underlying24 hi0 1 hsz (some ad) l0.length c0 (m : Int) (by omega) (by omega)
  have hcm : c0 ≠ m := by have := HC0.out; omega
  have h44 : l0.length - m = 4 := by omega
  simp only [Int.toNat_natCast, Nat.mul_one, if_neg hcm, Option.map_some, h44] at hcut1 hcut2
  have hx0 : w.cell? (ad.add m) = some (.int .u8 (l0.getD m 0)) := hcell m (by omega)
  have hx1 : w.cell? ((ad.add m).add 1) = some (.int .u8 (l0.getD (m + 1) 0)) := by rw [add_add]; exact hcell (m + 1) (by omega)
  have hx2 : w.cell? ((ad.add m).add 2) = some (.int .u8 (l0.getD (m + 2) 0)) := by rw [add_add]; exact hcell (m + 2) (by omega)
  have hx3 : w.cell? ((ad.add m).add 3) = some (.int .u8 (l0.getD (m + 3) 0)) := by rw [add_add]; exact hcell (m + 3) (by omega)
  have hdrop : l0.drop m = [l0.getD m 0, l0.getD (m + 1) 0, l0.getD (m + 2) 0, l0.getD (m + 3) 0] := by
   apply List.ext_getElem?
   intro j
   rw [List.getElem?_drop]
   rcases j with _ | _ | _ | _ | j
   ·simp [List.getD_eq_getElem?_getD, List.getElem?_eq_getElem (show m < l0.length by omega)]
   ·simp [List.getD_eq_getElem?_getD, List.getElem?_eq_getElem (show m + 1 < l0.length by omega)]
   ·simp [List.getD_eq_getElem?_getD, List.getElem?_eq_getElem (show m + 2 < l0.length by omega)]
   ·simp [List.getD_eq_getElem?_getD, List.getElem?_eq_getElem (show m + 3 < l0.length by omega)]
   simp; omega
  have HT : Aside0 (r = (s % 256 == l0.getD m 0 && (s / 256 % 256 == l0.getD (m + 1) 0 && (s / 65536 % 256 == l0.getD (m + 2) 0 && s / 16777216 % 256 == l0.getD (m + 3) 0)))) := ⟨by
   rw [← Hr.out, hdrop, Bool.eq_iff_iff]
   simp [tail4]⟩
  have HK : Aside0 (Kd.C (Kd.int .u8) w (some ad) (l0.take m).length (l0.take m)) := ⟨Kd.C_of_reads (d := (0 : Int)) (by
   have h2 := ReadsOf.take_ (Kd.reads_of_C (d := (0 : Int)) HR0.out) m (by omega)
   have h3 : (l0.take m).length = m := by rw [List.length_take]; omega
   rw [h3]; exact h2)⟩
  have HM : Aside0 ((l0.take m).length = m) := ⟨by rw [List.length_take]; omega⟩
  have HMC : Aside0 ((l0.take m).length ≤ c0) := ⟨by have := HC0.out; rw [HM.out]; omega⟩
  generalize l0.getD m 0 = x0 at hx0 HT
  generalize l0.getD (m + 1) 0 = x1 at hx1 HT
  generalize l0.getD (m + 2) 0 = x2 at hx2 HT
  generalize l0.getD (m + 3) 0 = x3 at hx3 HT
  have Hx0 := Aside0.mk hx0
  have Hx1 := Aside0.mk hx1
  have Hx2 := Aside0.mk hx2
  have Hx3 := Aside0.mk hx3
  have harr : ∀ W, (Instr.arrayAt 105 (.slice (some (ad.add m)) 4 (c0 - m))).run Tryz.prog W = .ok (.pointer (some (ad.add m))) W := fun W => by simp [Instr.arrayAt, run_underlying Tryz.underlying105, Result.andThen]
  clear hx0 hx1 hx2 hx3 hdrop hcell hcm h44 hm hsub hi0 hsz Hr HR0 HC0 h hs h4 hlen
  have E3 := Aside0.mk e3
  clear e3
  go_enter Tryz.func44, Tryz.ntmps44
  go_wp2_with fail
  rw [E3.out]
  clear E3
  refine start_ (n := 17) (S := fun w' => w'.cell? (ad.add m) = some (.int .u8 x0) ∧ w'.cell? ((ad.add m).add 1) = some (.int .u8 x1) ∧ w'.cell? ((ad.add m).add 2) = some (.int .u8 x2) ∧ w'.cell? ((ad.add m).add 3) = some (.int .u8 x3)) (ds := []) #[false, false, false, false, false, false, false, false, false, false, false, false, false, false, false, false, false] (by kernel_rfl) rfl rfl ⟨Hx0.out, Hx1.out, Hx2.out, Hx3.out⟩ (fun hHeld => ?_)
  refine with_tabW crc_Sealed.tab2 crc_Sealed.bits2 (fun HT_ HW_ => ?_)
  have HB1 : Aside0 (Below w.heap.size w w.drew) := ⟨below_drew (Below.refl _ _)⟩
  generalize w.drew = w1 at HB1 hHeld ⊢
  refine pu_ 0 7 HT_ ?_; refine pu_ 1 8 HT_ ?_; refine pu_ 2 9 HT_ ?_; refine pu_ 3 10 HT_ ?_; refine pu_ 4 11 HT_ ?_; refine pu_ 5 12 HT_ ?_; refine pu_ 9 16 HT_ ?_; refine pu_ 10 17 HT_ ?_; refine pu_ 11 18 HT_ ?_; refine pu_ 12 19 HT_ ?_
  refine take_ (i := 13) (N := some 20) (v := ?_) (a' := ?_) #[true, true, true, true, true, true, false, false, false, true, true, true, true, true, false, false, false] rfl rfl (take_ofW HT_.out HW_.out (by kernel_rfl)) (fun _ _ _ h => h) (Or.inl ⟨by rfl, ?_⟩) hHeld ?_ ?_
  rotate_left
  ·rintro w' ⟨s0, s1, s2, s3⟩
   have t1 : w'.cell? ⟨(ad.add m).block, (ad.add m).off + 1, none⟩ = some (.int .u8 x1) := s1
   have t2 : w'.cell? ⟨(ad.add m).block, (ad.add m).off + 2, none⟩ = some (.int .u8 x2) := s2
   have t3 : w'.cell? ⟨(ad.add m).block, (ad.add m).off + 3, none⟩ = some (.int .u8 x3) := s3
   go_simp
   with_reducible rfl
  rotate_left
  ·simp only [Act.put, List.setIfInBounds_toArray, List.set_cons_zero, List.set_cons_succ, i64_w, i32_w]
   rfl
  refine on_ 6 13 HT_ (fun K hK => ?_)
  refine value_ (w1 := w1.alloc (.cells #[.slice (some ad) m c0] 24)) (v := .slice (some ⟨w1.heap.size, 0, none⟩) 1 1) (by rfl) rfl (by (go_simp; done)) ?_
  have HB2 : Aside0 (Below w.heap.size w (w1.alloc (.cells #[.slice (some ad) m c0] 24))) := ⟨below_alloc HB1.out _⟩
  have HG : Aside0 ((w1.alloc (.cells #[.slice (some ad) m c0] 24)).heap[w1.heap.size]? = some (.cells #[.slice (some ad) m c0] 24 (0, 0))) := ⟨heap_alloc_new _ _⟩
  refine hK _ _ ⟨pw_cell_below HB2.out Hx0.out, pw_cell_below HB2.out Hx1.out, pw_cell_below HB2.out Hx2.out, pw_cell_below HB2.out Hx3.out⟩ (fun _ => ?_)
  clear hK
  refine norm_ (show Act.put _ (some 13) _ = _ from by simp only [Act.put, List.setIfInBounds_toArray, List.set_cons_zero, List.set_cons_succ]; rfl) ?_
  generalize w1.alloc _ = w2 at HB2 HG ⊢
  generalize w1.heap.size = g at HG ⊢
  clear HB1
  refine on_ 7 14 HT_ (fun K hK => ?_)
  refine goes_ Tryz.func81 (by kernel_rfl) rfl #[.slice (some ⟨g, 0, none⟩) 1 1] (by rfl) rfl rfl (by simp only [List.map_toArray, List.map_cons, List.map_nil]; rfl) ?_
  refine (crc_Sum.calls k _ _ [l0.take m] s _ (C_single (A0 := some ad) (c0 := c0) HM.out HG.out (Kd.C_below HK.out HB2.out) HMC.out) (Nat.le_refl _) A1.out).mono ?_
  rintro e w3 ⟨rfl, ⟨nd, rfl⟩⟩
  refine ⟨_, rfl, ?_⟩
  have HB3 : Aside0 (Below w.heap.size w (w2.drewN nd)) := ⟨pw_below_drewN HB2.out nd⟩
  refine hK _ _ ⟨pw_cell_below HB3.out Hx0.out, pw_cell_below HB3.out Hx1.out, pw_cell_below HB3.out Hx2.out, pw_cell_below HB3.out Hx3.out⟩ (fun _ => ?_)
  clear hK
  refine norm_ (show Act.put _ (some 14) _ = _ from by simp only [Act.put, List.setIfInBounds_toArray, List.set_cons_zero, List.set_cons_succ]; rfl) ?_
  generalize w2.drewN nd = w3 at HB3 ⊢
  clear HB2 HG
  refine on_ 8 15 HT_ (fun K hK => ?_)
  refine goes_ Tryz.func80 (by kernel_rfl) rfl #[.int .u32 s] (by rfl) rfl rfl (by simp only [List.map_toArray, List.map_cons, List.map_nil]; rfl) ?_
  refine (crc_tail.calls s _).mono ?_
  rintro e w4 ⟨rfl, hb⟩
  refine ⟨_, rfl, ?_⟩
  have HB4 : Aside0 (Below w.heap.size w w4) := ⟨below_step HB3.out hb⟩
  refine hK _ _ ⟨pw_cell_below HB4.out Hx0.out, pw_cell_below HB4.out Hx1.out, pw_cell_below HB4.out Hx2.out, pw_cell_below HB4.out Hx3.out⟩ (fun _ => ?_)
  clear hK hb HB3
  refine norm_ (show Act.put _ (some 15) _ = _ from by simp only [Act.put, List.setIfInBounds_toArray, List.set_cons_zero, List.set_cons_succ]; rfl) ?_
  have heq : ∀ W, (Op.equalIn 10000 105 (.agg #[.int .u8 (s % 256), .int .u8 (s / 256 % 256), .int .u8 (s / 65536 % 256), .int .u8 (s / 16777216 % 256)]) (.agg #[.int .u8 x0, .int .u8 x1, .int .u8 x2, .int .u8 x3])).run Tryz.prog W = .ok r W := fun W => by rw [HT.out]; exact equalIn_arr4 9998 W _ _ _ _ _ _ _ _
  refine pu_ 14 21 HT_ ?_; refine pu_ 15 22 HT_ ?_; refine pu_ 16 2 HT_ ?_
  refine done_ (done_of HT_.out (by kernel_rfl)) ?_
  go_wp2
  go_ret
  exact ⟨rfl, HB4.out⟩
 rename_i h4
 injection h with h
 subst h
 have h4' : l0.length < 4 := by omega
 obtain ⟨x, hx⟩ : ∃ x : Int, x = wrap64 ((l0.length : Int) - 4) := ⟨_, rfl⟩
 have hneg : x < 0 := by rw [hx]; unfold wrap64; omega
 have hx' := Aside0.mk hx
 clear hx hlen h4 h4' HR0 HC0
 go_enter Tryz.func44, Tryz.ntmps44
 go_wp2_with fail
 rw [← hx'.out]
 clear hx'
 have hnn : ¬ (0 : Int) ≤ x := by omega
 refine start_ (n := 17) (S := fun _ => True) (ds := []) #[false, false, false, false, false, false, false, false, false, false, false, false, false, false, false, false, false] (by kernel_rfl) rfl rfl trivial (fun hHeld => ?_)
 refine with_tabW crc_Sealed.tab2 crc_Sealed.bits2 (fun HT_ HW_ => ?_)
 have HB1 : Aside0 (Below w.heap.size w w.drew) := ⟨below_drew (Below.refl _ _)⟩
 generalize w.drew = w1 at HB1 hHeld ⊢
 refine pu_ 0 7 HT_ ?_; refine pu_ 1 8 HT_ ?_; refine pu_ 2 9 HT_ ?_
 refine pure_ (i := 3) (N := some 10) (v := undef) (a' := ?_) #[true, true, true, true, false, false, false, false, false, false, false, false, false, false, false, false, false] rfl rfl (any_of HT_.out (by kernel_rfl)) (fun _ _ _ h => h) (Or.inr ⟨by rfl, rfl⟩) ?_ ?_
 rotate_left
 ·simp only [Act.put, List.setIfInBounds_toArray, List.set_cons_zero, List.set_cons_succ, i64_w, i32_w]
  rfl
 refine pure_ (i := 4) (N := some 11) (v := undef) (a' := ?_) #[true, true, true, true, true, false, false, false, false, false, false, false, false, false, false, false, false] rfl rfl (any_of HT_.out (by kernel_rfl)) (fun _ _ _ h => h) (Or.inr ⟨by rfl, rfl⟩) ?_ ?_
 rotate_left
 ·simp only [Act.put, List.setIfInBounds_toArray, List.set_cons_zero, List.set_cons_succ, i64_w, i32_w]
  rfl
 refine pure_ (i := 5) (N := some 12) (v := undef) (a' := ?_) #[true, true, true, true, true, true, false, false, false, false, false, false, false, false, false, false, false] rfl rfl (any_of HT_.out (by kernel_rfl)) (fun _ _ _ h => h) (Or.inr ⟨by rfl, rfl⟩) ?_ ?_
 rotate_left
 ·simp only [Act.put, List.setIfInBounds_toArray, List.set_cons_zero, List.set_cons_succ, i64_w, i32_w]
  rfl
 refine pure_ (i := 9) (N := some 16) (v := undef) (a' := ?_) #[true, true, true, true, true, true, false, false, false, true, false, false, false, false, false, false, false] rfl rfl (any_of HT_.out (by kernel_rfl)) (fun _ _ _ h => h) (Or.inr ⟨by rfl, rfl⟩) ?_ ?_
 rotate_left
 ·simp only [Act.put, List.setIfInBounds_toArray, List.set_cons_zero, List.set_cons_succ, i64_w, i32_w]
  rfl
 refine pure_ (i := 10) (N := some 17) (v := undef) (a' := ?_) #[true, true, true, true, true, true, false, false, false, true, true, false, false, false, false, false, false] rfl rfl (any_of HT_.out (by kernel_rfl)) (fun _ _ _ h => h) (Or.inr ⟨by rfl, rfl⟩) ?_ ?_
 rotate_left
 ·simp only [Act.put, List.setIfInBounds_toArray, List.set_cons_zero, List.set_cons_succ, i64_w, i32_w]
  rfl
 refine pure_ (i := 11) (N := some 18) (v := undef) (a' := ?_) #[true, true, true, true, true, true, false, false, false, true, true, true, false, false, false, false, false] rfl rfl (any_of HT_.out (by kernel_rfl)) (fun _ _ _ h => h) (Or.inr ⟨by rfl, rfl⟩) ?_ ?_
 rotate_left
 ·simp only [Act.put, List.setIfInBounds_toArray, List.set_cons_zero, List.set_cons_succ, i64_w, i32_w]
  rfl
 refine pure_ (i := 12) (N := some 19) (v := undef) (a' := ?_) #[true, true, true, true, true, true, false, false, false, true, true, true, true, false, false, false, false] rfl rfl (any_of HT_.out (by kernel_rfl)) (fun _ _ _ h => h) (Or.inr ⟨by rfl, rfl⟩) ?_ ?_
 rotate_left
 ·simp only [Act.put, List.setIfInBounds_toArray, List.set_cons_zero, List.set_cons_succ, i64_w, i32_w]
  rfl
 refine pure_ (i := 13) (N := some 20) (v := undef) (a' := ?_) #[true, true, true, true, true, true, false, false, false, true, true, true, true, true, false, false, false] rfl rfl (any_of HT_.out (by kernel_rfl)) (fun _ _ _ h => h) (Or.inr ⟨by rfl, rfl⟩) ?_ ?_
 rotate_left
 ·simp only [Act.put, List.setIfInBounds_toArray, List.set_cons_zero, List.set_cons_succ, i64_w, i32_w]
  rfl
 refine on_ 6 13 HT_ (fun K hK => ?_)
 refine off_ (by rfl) ?_
 refine hK _ _ trivial (fun _ => ?_)
 clear hK
 refine norm_ (show Act.put _ (some 13) _ = _ from by simp only [Act.put, List.setIfInBounds_toArray, List.set_cons_zero, List.set_cons_succ]; rfl) ?_
 refine on_ 7 14 HT_ (fun K hK => ?_)
 refine off_ (by rfl) ?_
 refine hK _ _ trivial (fun _ => ?_)
 clear hK
 refine norm_ (show Act.put _ (some 14) _ = _ from by simp only [Act.put, List.setIfInBounds_toArray, List.set_cons_zero, List.set_cons_succ]; rfl) ?_
 refine on_ 8 15 HT_ (fun K hK => ?_)
 refine off_ (by rfl) ?_
 refine hK _ _ trivial (fun _ => ?_)
 clear hK
 refine norm_ (show Act.put _ (some 15) _ = _ from by simp only [Act.put, List.setIfInBounds_toArray, List.set_cons_zero, List.set_cons_succ]; rfl) ?_
 refine pure_ (i := 14) (N := some 21) (v := undef) (a' := ?_) #[true, true, true, true, true, true, true, true, true, true, true, true, true, true, true, false, false] rfl rfl (any_of HT_.out (by kernel_rfl)) (fun _ _ _ h => h) (Or.inr ⟨by rfl, rfl⟩) ?_ ?_
 rotate_left
 ·simp only [Act.put, List.setIfInBounds_toArray, List.set_cons_zero, List.set_cons_succ, i64_w, i32_w]
  rfl
 refine pu_ 15 22 HT_ ?_; refine pu_ 16 2 HT_ ?_
 refine done_ (done_of HT_.out (by kernel_rfl)) ?_
 go_wp2
 go_ret
 exact ⟨rfl, HB1.out⟩
end Go.Proofs.YtjbhaepkldgfnaaGreat.S
namespace Go.Proofs.YtjbhaepkldgfnaaGreat.S
open Go.RowKit Go.Proofs.YtjbhaepkldgfnaaGreatW.PrintWords Go.Proofs.YtjbhaepkldgfnaaGreatW.PrintLast Go.Proofs.YtjbhaepkldgfnaaGreatW.PrintMore
attribute [local go_sem] max2_int min2_int max_two min_two max_three min_three max_four min_four
set_option linter.unusedVariables false
set_option linter.unusedSimpArgs false
mutual
def vint_Get.j0 : Nat → List Int → Int → Bool → Option (Int × Int × Int)
 | 0, _, _, _ => none
 | k + 1, x0, x1, x17 => if x17 = true then (some (0, 0, 1)) else (vint_Get.l0 k x0 x1 0 0)
def vint_Get.l0 : Nat → List Int → Int → Int → Int → Option (Int × Int × Int)
 | 0, _, _, _, _ => none
 | k + 1, x0, x1, x7, x8 => if x8 ≥ (wrap64 ((x0.length : Int) - x1)) then (some (0, 0, 2)) else (if 0 ≤ (wrap64 (x1 + x8)) then (if (wrap64 (x1 + x8)) < (x0.length : Int) then (if x8 = 9 then (vint_Get.j2 k x0 x1 x7 x8 (rd x0 (wrap64 (x1 + x8))) (decide ((rd x0 (wrap64 (x1 + x8))) > 1))) else (vint_Get.j2 k x0 x1 x7 x8 (rd x0 (wrap64 (x1 + x8))) false)) else (none)) else (none))
def vint_Get.j2 : Nat → List Int → Int → Int → Int → Int → Bool → Option (Int × Int × Int)
 | 0, _, _, _, _, _, _ => none
 | k + 1, x0, x1, x7, x8, x9, x37 => if x37 = true then (some (0, 0, 20)) else (if 0 ≤ (IntKind.u64.wrap (wrap64 (7 * x8))) then (if x9 ≥ 128 then (vint_Get.l0 k x0 x1 (Go.bits .or .u64 x7 (shl .u64 (IntKind.u64.wrap (Go.bits .and .u8 x9 127)) (IntKind.u64.wrap (wrap64 (7 * x8))))) (wrap64 (x8 + 1))) else (if x9 = 0 then (if x8 > 0 then (some (0, 0, 5)) else (some (Go.bits .or .u64 x7 (shl .u64 (IntKind.u64.wrap (Go.bits .and .u8 x9 127)) (IntKind.u64.wrap (wrap64 (7 * x8)))), wrap64 ((wrap64 (x1 + x8)) + 1), 0))) else (some (Go.bits .or .u64 x7 (shl .u64 (IntKind.u64.wrap (Go.bits .and .u8 x9 127)) (IntKind.u64.wrap (wrap64 (7 * x8)))), wrap64 ((wrap64 (x1 + x8)) + 1), 0)))) else (none))
end
def vint_Get.f (k : Nat) (l0 : List Int) (a1 : Int) : Option (Int × Int × Int) := if a1 < 0 then (vint_Get.j0 k l0 a1 true) else (vint_Get.j0 k l0 a1 (decide (a1 > (l0.length : Int))))
set_option maxHeartbeats 8000000 in
set_option maxRecDepth 100000 in
theorem vint_Get.calls (k : Nat) (A0 : Option Addr) (c0 : Nat) (l0 : List Int) (a1 : Int) (r1 : Int) (r2 : Int) (r3 : Int) (w : World) (hr0 : Kd.C (Kd.int .u8) w A0 l0.length l0) (hc0 : l0.length ≤ c0) (h : vint_Get.f k l0 a1 = some (r1, r2, r3)) :
 Calls Tryz.prog 45 #[.slice A0 l0.length c0, .int .i64 a1] w fun e w' => e = .returned (.tuple #[.int .u64 r1, .int .i64 r2, .int .i64 r3]) ∧ Drawn0 w w' := by
 have HR0 := Aside0.mk hr0
 have HC0 := Aside0.mk hc0
 clear hr0 hc0
 unfold vint_Get.f at h
 have H := h
 clear h
 have HC3 := Aside0.mk H
 clear H
 go_enter Tryz.func45, Tryz.ntmps45
 go_upto_region 1 with (fail)
 go_cut [17] (fun v17 wc => ∃ (kq : Nat) (x17_2 : Bool), v17 = .bool x17_2 ∧ Aside0 (vint_Get.j0 kq l0 a1 x17_2 = some (r1, r2, r3)) ∧ Aside0 (kq ≤ k) ∧ Drawn0 w wc)
 case first =>
  have H := HC3.out
  clear HC3
  by_cases c4 : a1 < 0
  ·rw [if_pos c4] at H
   have c4b0 : decide (a1 < 0) = true := decide_eq_true c4
   clear c4
   have H' := Aside0.mk H
   clear H
   go_wp2
   go_meet
   case rel => exact ⟨_, (true), (by rfl), H', ⟨by omega⟩, by repeat (exact Drawn0.refl _)⟩
  rw [if_neg c4] at H
  have c4b0 : decide (a1 < 0) = false := decide_eq_false c4
  clear c4
  have H' := Aside0.mk H
  clear H
  go_wp2
  go_meet
  case rel => exact ⟨_, (decide (a1 > (l0.length : Int))), (by rfl), H', ⟨by omega⟩, by repeat (exact Drawn0.refl _)⟩
 case rest =>
  clear HC3
  obtain ⟨kq, x17_2, rfl, HA, HJ2, ⟨mc2, rfl⟩⟩ := hcut
  cases kq with
  | zero => exact absurd HA.out (by simp [vint_Get.j0])
  | succ kj2 =>
   have H := HA.out
   clear HA
   simp only [vint_Get.j0] at H
   by_cases c5 : x17_2 = true
   ·subst c5
    have H1 : (some (0, 0, 1)) = some (r1, r2, r3) := by rw [if_pos rfl] at H; exact H
    clear H
    have H := H1
    clear H1
    simp only [Option.some.injEq, Prod.mk.injEq] at H
    obtain ⟨rfl, rfl, rfl⟩ := H
    go_wp2
    go_ret3
    exact ⟨by rfl, by repeat (first | exact Drawn0.refl _ | apply Drawn0.step)⟩
   replace c5 := Bool.eq_false_iff.mpr c5
   subst c5
   have H1 : (vint_Get.l0 kj2 l0 a1 0 0) = some (r1, r2, r3) := by rw [if_neg (show ¬ (false = true) by decide)] at H; exact H
   clear H
   have H := H1
   clear H1
   have H' := Aside0.mk H
   clear H
   go_wp2
   go_loopg [7, 8] kj2 (fun kq v7 v8 w' => ∃ (x7_2 : Int) (x8_2 : Int), v7 = .int .u64 x7_2 ∧ v8 = .int .i64 x8_2 ∧ Aside0 (vint_Get.l0 kq l0 a1 x7_2 x8_2 = some (r1, r2, r3)) ∧ Aside0 (kq ≤ kj2) ∧ Drawn0 w w')
   case atStart => exact ⟨(0), (0), (by rfl), (by rfl), H', ⟨Nat.le_refl _⟩, by repeat (first | exact Drawn0.refl _ | apply Drawn0.step)⟩
   case round =>
    clear H'
    obtain ⟨x7_2, x8_2, rfl, rfl, HA, HK2, ⟨m2, rfl⟩⟩ := hrel
    cases gk with
    | zero => exact absurd HA.out (by simp [vint_Get.l0])
    | succ k2 =>
     have H := HA.out
     clear HA
     simp only [vint_Get.l0] at H
     by_cases c6 : x8_2 ≥ (wrap64 ((l0.length : Int) - a1))
     ·rw [if_pos c6] at H
      have c6b0 : decide ((wrap64 ((l0.length : Int) - a1)) ≤ x8_2) = true := decide_eq_true c6
      clear c6
      simp only [Option.some.injEq, Prod.mk.injEq] at H
      obtain ⟨rfl, rfl, rfl⟩ := H
      go_wp2
      go_ret3
      exact ⟨by rfl, by repeat (first | exact Drawn0.refl _ | apply Drawn0.step)⟩
     rw [if_neg c6] at H
     have c6b0 : decide ((wrap64 ((l0.length : Int) - a1)) ≤ x8_2) = false := decide_eq_false c6
     clear c6
     obtain ⟨ji7, hji7⟩ : ∃ j_ : Int, (wrap64 (a1 + x8_2)) = j_ := ⟨_, rfl⟩
     replace H : (if 0 ≤ (ji7) then (if (ji7) < (l0.length : Int) then (if x8_2 = 9 then (vint_Get.j2 k2 l0 a1 x7_2 x8_2 (rd l0 (ji7)) (decide ((rd l0 (ji7)) > 1))) else (vint_Get.j2 k2 l0 a1 x7_2 x8_2 (rd l0 (ji7)) false)) else (none)) else (none)) = some (r1, r2, r3) := by (rw [hji7] at H; exact H)
     have hji7w : (IntKind.i64.wrap (a1 + x8_2)) = ji7 := (i64_w _).trans hji7
     by_cases c8 : 0 ≤ (ji7)
     ·rw [if_pos c8] at H
      have c8b0 : decide (0 ≤ (ji7)) = true := decide_eq_true c8
      clear c8
      by_cases c9 : (ji7) < (l0.length : Int)
      ·rw [if_pos c9] at H
       have c9b0 : decide ((ji7) < (l0.length : Int)) = true := decide_eq_true c9
       clear c9
       have HC10 := Aside0.mk H
       clear H
       have p410 : 0 ≤ ((ji7) : Int) := of_decide_eq_true ‹_›
       have q410 : (ji7) < (l0.length : Int) := of_decide_eq_true ‹_›
       obtain ⟨ad410, e410, hx410_0⟩ := Kd.at_int HR0.out (ji7) p410 q410
       cases e410
       replace p410 := eq_true p410
       replace q410 := eq_true q410
       go_upto_region 9 with (fail)
       go_cut [37] (fun v37 wc => ∃ (kq : Nat) (x37_9 : Bool), v37 = .bool x37_9 ∧ Aside0 (vint_Get.j2 kq l0 a1 x7_2 x8_2 (rd l0 (ji7)) x37_9 = some (r1, r2, r3)) ∧ Aside0 (kq ≤ k2) ∧ Drawn0 w wc)
       case first =>
        have H := HC10.out
        clear HC10
        by_cases c11 : x8_2 = 9
        ·rw [if_pos c11] at H
         have c11b0 : (x8_2 == 9) = true := beq_iff_eq.mpr c11
         have c11b1 : (x8_2 != 9) = false := bne_eq_false_iff_eq.mpr c11
         clear c11
         have H' := Aside0.mk H
         clear H
         go_wp2
         go_meet
         case rel => exact ⟨_, (decide ((rd l0 (ji7)) > 1)), (by rfl), H', ⟨by have := HJ2.out; have := HK2.out; omega⟩, by repeat (first | exact Drawn0.refl _ | apply Drawn0.step)⟩
        rw [if_neg c11] at H
        have c11b0 : (x8_2 == 9) = false := beq_eq_false_iff_ne.mpr c11
        have c11b1 : (x8_2 != 9) = true := bne_iff_ne.mpr c11
        have H' := Aside0.mk H
        clear H
        go_wp2
        go_meet
        case rel => exact ⟨_, (false), (by rfl), H', ⟨by have := HJ2.out; have := HK2.out; omega⟩, by repeat (first | exact Drawn0.refl _ | apply Drawn0.step)⟩
       case rest =>
        clear HC10
        try clear c6b0
        try clear c8b0
        try clear c9b0
        try clear hx410_0
        try clear p410
        try clear q410
        obtain ⟨kq, x37_9, rfl, HA, HJ9, ⟨mc9, rfl⟩⟩ := hcut
        cases kq with
        | zero => exact absurd HA.out (by simp [vint_Get.j2])
        | succ kj9 =>
         have H := HA.out
         clear HA
         simp only [vint_Get.j2] at H
         by_cases c12 : x37_9 = true
         ·subst c12
          have H1 : (some (0, 0, 20)) = some (r1, r2, r3) := by rw [if_pos rfl] at H; exact H
          clear H
          have H := H1
          clear H1
          simp only [Option.some.injEq, Prod.mk.injEq] at H
          obtain ⟨rfl, rfl, rfl⟩ := H
          go_wp2
          go_ret3
          exact ⟨by rfl, by repeat (first | exact Drawn0.refl _ | apply Drawn0.step)⟩
         replace c12 := Bool.eq_false_iff.mpr c12
         subst c12
         have H1 : (if 0 ≤ (IntKind.u64.wrap (wrap64 (7 * x8_2))) then (if (rd l0 (ji7)) ≥ 128 then (vint_Get.l0 kj9 l0 a1 (Go.bits .or .u64 x7_2 (shl .u64 (IntKind.u64.wrap (Go.bits .and .u8 (rd l0 (ji7)) 127)) (IntKind.u64.wrap (wrap64 (7 * x8_2))))) (wrap64 (x8_2 + 1))) else (if (rd l0 (ji7)) = 0 then (if x8_2 > 0 then (some (0, 0, 5)) else (some (Go.bits .or .u64 x7_2 (shl .u64 (IntKind.u64.wrap (Go.bits .and .u8 (rd l0 (ji7)) 127)) (IntKind.u64.wrap (wrap64 (7 * x8_2)))), wrap64 ((wrap64 (a1 + x8_2)) + 1), 0))) else (some (Go.bits .or .u64 x7_2 (shl .u64 (IntKind.u64.wrap (Go.bits .and .u8 (rd l0 (ji7)) 127)) (IntKind.u64.wrap (wrap64 (7 * x8_2)))), wrap64 ((wrap64 (a1 + x8_2)) + 1), 0)))) else (none)) = some (r1, r2, r3) := by rw [if_neg (show ¬ (false = true) by decide)] at H; exact H
         clear H
         have H := H1
         clear H1
         obtain ⟨ji13, hji13⟩ : ∃ j_ : Int, (IntKind.u64.wrap (wrap64 (7 * x8_2))) = j_ := ⟨_, rfl⟩
         replace H : (if 0 ≤ (ji13) then (if (rd l0 (ji7)) ≥ 128 then (vint_Get.l0 kj9 l0 a1 (Go.bits .or .u64 x7_2 (shl .u64 (IntKind.u64.wrap (Go.bits .and .u8 (rd l0 (ji7)) 127)) (ji13))) (wrap64 (x8_2 + 1))) else (if (rd l0 (ji7)) = 0 then (if x8_2 > 0 then (some (0, 0, 5)) else (some (Go.bits .or .u64 x7_2 (shl .u64 (IntKind.u64.wrap (Go.bits .and .u8 (rd l0 (ji7)) 127)) (ji13)), wrap64 ((wrap64 (a1 + x8_2)) + 1), 0))) else (some (Go.bits .or .u64 x7_2 (shl .u64 (IntKind.u64.wrap (Go.bits .and .u8 (rd l0 (ji7)) 127)) (ji13)), wrap64 ((wrap64 (a1 + x8_2)) + 1), 0)))) else (none)) = some (r1, r2, r3) := by (rw [hji13] at H; exact H)
         by_cases c14 : 0 ≤ (ji13)
         ·rw [if_pos c14] at H
          have c14b0 := eq_true c14
          have c14b1 : decide (0 ≤ (ji13)) = true := decide_eq_true c14
          clear c14
          obtain ⟨ji15, hji15⟩ : ∃ j_ : Int, (shl .u64 (IntKind.u64.wrap (Go.bits .and .u8 (rd l0 (ji7)) 127)) (ji13)) = j_ := ⟨_, rfl⟩
          replace H : (if (rd l0 (ji7)) ≥ 128 then (vint_Get.l0 kj9 l0 a1 (Go.bits .or .u64 x7_2 (ji15)) (wrap64 (x8_2 + 1))) else (if (rd l0 (ji7)) = 0 then (if x8_2 > 0 then (some (0, 0, 5)) else (some (Go.bits .or .u64 x7_2 (ji15), wrap64 ((wrap64 (a1 + x8_2)) + 1), 0))) else (some (Go.bits .or .u64 x7_2 (ji15), wrap64 ((wrap64 (a1 + x8_2)) + 1), 0)))) = some (r1, r2, r3) := by (rw [hji15] at H; exact H)
          have hji15_ : (IntKind.u64.wrap ((IntKind.u64.wrap (Go.bits .and .u8 (rd l0 (ji7)) 127)) * 2 ^ min (ji13).toNat 64)) = ji15 := hji15
          have hji15z : (ji13) ≤ 64 → (IntKind.u64.wrap ((IntKind.u64.wrap (Go.bits .and .u8 (rd l0 (ji7)) 127)) * 2 ^ (ji13).toNat)) = ji15 := shl_small hji15
          by_cases c16 : (rd l0 (ji7)) ≥ 128
          ·rw [if_pos c16] at H
           have c16b0 : decide (128 ≤ (rd l0 (ji7))) = true := decide_eq_true c16
           clear c16
           have H' := Aside0.mk H
           clear H
           go_wp2
           go_roundg kj9
           case measure => have := HJ2.out; have := HK2.out; have := HJ9.out; omega
           case rel => exact ⟨(Go.bits .or .u64 x7_2 (ji15)), (wrap64 (x8_2 + 1)), (by rfl), (by rfl), H', ⟨by have := HJ2.out; have := HK2.out; have := HJ9.out; omega⟩, by repeat (first | exact Drawn0.refl _ | apply Drawn0.step)⟩
          rw [if_neg c16] at H
          have c16b0 : decide (128 ≤ (rd l0 (ji7))) = false := decide_eq_false c16
          clear c16
          by_cases c17 : (rd l0 (ji7)) = 0
          ·rw [if_pos c17] at H
           have c17b0 : ((rd l0 (ji7)) == 0) = true := beq_iff_eq.mpr c17
           have c17b1 : ((rd l0 (ji7)) != 0) = false := bne_eq_false_iff_eq.mpr c17
           clear c17
           by_cases c18 : x8_2 > 0
           ·rw [if_pos c18] at H
            have c18b0 : decide (0 < x8_2) = true := decide_eq_true c18
            clear c18
            simp only [Option.some.injEq, Prod.mk.injEq] at H
            obtain ⟨rfl, rfl, rfl⟩ := H
            go_wp2
            go_ret3
            exact ⟨by rfl, by repeat (first | exact Drawn0.refl _ | apply Drawn0.step)⟩
           rw [if_neg c18] at H
           have c18b0 : decide (0 < x8_2) = false := decide_eq_false c18
           clear c18
           simp only [Option.some.injEq, Prod.mk.injEq] at H
           obtain ⟨rfl, rfl, rfl⟩ := H
           go_wp2
           go_ret3
           exact ⟨by (simp only [← hji7, ← hji13, ← hji15] <;> (rfl)), by repeat (first | exact Drawn0.refl _ | apply Drawn0.step)⟩
          rw [if_neg c17] at H
          have c17b0 : ((rd l0 (ji7)) == 0) = false := beq_eq_false_iff_ne.mpr c17
          have c17b1 : ((rd l0 (ji7)) != 0) = true := bne_iff_ne.mpr c17
          simp only [Option.some.injEq, Prod.mk.injEq] at H
          obtain ⟨rfl, rfl, rfl⟩ := H
          go_wp2
          go_ret3
          exact ⟨by (simp only [← hji7, ← hji13, ← hji15] <;> (rfl)), by repeat (first | exact Drawn0.refl _ | apply Drawn0.step)⟩
         rw [if_neg c14] at H
         exact absurd H (by simp)
      rw [if_neg c9] at H
      exact absurd H (by simp)
     rw [if_neg c8] at H
     exact absurd H (by simp)
def bits_read.l0 : Nat → List Int → Int → Int → Int → Int → Option (Int)
 | 0, _, _, _, _, _ => none
 | k + 1, x0, x1, x2, x7, x8 => if x8 < x2 then (if 0 ≤ (x1 / 8) then (if (x1 / 8) < (x0.length : Int) then (if 0 ≤ (IntKind.u64.wrap (Go.bits .and .i64 x1 7)) then (if 0 ≤ (IntKind.u64.wrap (mn (wrap64 (8 - (Go.bits .and .i64 x1 7))) (wrap64 (x2 - x8)))) then (if 0 ≤ (IntKind.u64.wrap (x8)) then (bits_read.l0 k x0 (wrap64 (x1 + (mn (wrap64 (8 - (Go.bits .and .i64 x1 7))) (wrap64 (x2 - x8))))) x2 (Go.bits .or .u64 x7 (shl .u64 (Go.bits .and .u64 (IntKind.u64.wrap (shr .u8 (rd x0 (x1 / 8)) (IntKind.u64.wrap (Go.bits .and .i64 x1 7)))) (IntKind.u64.wrap ((shl .u64 1 (IntKind.u64.wrap (mn (wrap64 (8 - (Go.bits .and .i64 x1 7))) (wrap64 (x2 - x8))))) - 1))) (IntKind.u64.wrap (x8)))) (wrap64 (x8 + (mn (wrap64 (8 - (Go.bits .and .i64 x1 7))) (wrap64 (x2 - x8)))))) else (none)) else (none)) else (none)) else (none)) else (none)) else (some x7)
def bits_read.f (k : Nat) (l0 : List Int) (a1 : Int) (a2 : Int) : Option (Int) := bits_read.l0 k l0 a1 a2 0 0
set_option maxHeartbeats 8000000 in
set_option maxRecDepth 100000 in
theorem bits_read.calls (k : Nat) (A0 : Option Addr) (c0 : Nat) (l0 : List Int) (a1 : Int) (a2 : Int) (r : Int) (w : World) (hr0 : Kd.C (Kd.int .u8) w A0 l0.length l0) (hc0 : l0.length ≤ c0) (h : bits_read.f k l0 a1 a2 = some r) :
 Calls Tryz.prog 123 #[.slice A0 l0.length c0, .int .i64 a1, .int .i64 a2] w fun e w' => e = .returned (.int .u64 r) ∧ Below w.heap.size w w' := by
 have HR0 := Aside0.mk hr0
 have HC0 := Aside0.mk hc0
 clear hr0 hc0
 have HB := Aside0.mk (Below.refl w.heap.size w)
 unfold bits_read.f at h
 have H := h
 clear h
 have H' := Aside0.mk H
 clear H
 go_enter Tryz.func123, Tryz.ntmps123
 go_wp2
 go_loopg [1, 7, 8] k (fun kq v1 v7 v8 w' => ∃ (x1_1 : Int) (x7_1 : Int) (x8_1 : Int), v1 = .int .i64 x1_1 ∧ v7 = .int .u64 x7_1 ∧ v8 = .int .i64 x8_1 ∧ Aside0 (bits_read.l0 kq l0 x1_1 a2 x7_1 x8_1 = some r) ∧ Aside0 (kq ≤ k) ∧ Aside0 (Below w.heap.size w w'))
 case atStart => exact ⟨(a1), (0), (0), (by rfl), (by rfl), (by rfl), H', ⟨Nat.le_refl _⟩, ⟨by exact HB.out⟩⟩
 case round =>
  clear H'
  obtain ⟨x1_1, x7_1, x8_1, rfl, rfl, rfl, HA, HK1, HB⟩ := hrel
  cases gk with
  | zero => exact absurd HA.out (by simp [bits_read.l0])
  | succ k1 =>
   have H := HA.out
   clear HA
   simp only [bits_read.l0] at H
   by_cases c4 : x8_1 < a2
   ·rw [if_pos c4] at H
    have c4b0 : decide (x8_1 < a2) = true := decide_eq_true c4
    clear c4
    obtain ⟨ji5, hji5⟩ : ∃ j_ : Int, (mn (wrap64 (8 - (Go.bits .and .i64 x1_1 7))) (wrap64 (a2 - x8_1))) = j_ := ⟨_, rfl⟩
    replace H : (if 0 ≤ (x1_1 / 8) then (if (x1_1 / 8) < (l0.length : Int) then (if 0 ≤ (IntKind.u64.wrap (Go.bits .and .i64 x1_1 7)) then (if 0 ≤ (IntKind.u64.wrap (ji5)) then (if 0 ≤ (IntKind.u64.wrap (x8_1)) then (bits_read.l0 k1 l0 (wrap64 (x1_1 + (ji5))) a2 (Go.bits .or .u64 x7_1 (shl .u64 (Go.bits .and .u64 (IntKind.u64.wrap (shr .u8 (rd l0 (x1_1 / 8)) (IntKind.u64.wrap (Go.bits .and .i64 x1_1 7)))) (IntKind.u64.wrap ((shl .u64 1 (IntKind.u64.wrap (ji5))) - 1))) (IntKind.u64.wrap (x8_1)))) (wrap64 (x8_1 + (ji5)))) else (none)) else (none)) else (none)) else (none)) else (none)) = some r := by (rw [hji5] at H; exact H)
    have hji5_ : (if (wrap64 (a2 - x8_1)) < (wrap64 (8 - (Go.bits .and .i64 x1_1 7))) then (wrap64 (a2 - x8_1)) else (wrap64 (8 - (Go.bits .and .i64 x1_1 7)))) = ji5 := hji5
    obtain ⟨ji6, hji6⟩ : ∃ j_ : Int, (x1_1 / 8) = j_ := ⟨_, rfl⟩
    replace H : (if 0 ≤ (ji6) then (if (ji6) < (l0.length : Int) then (if 0 ≤ (IntKind.u64.wrap (Go.bits .and .i64 x1_1 7)) then (if 0 ≤ (IntKind.u64.wrap (ji5)) then (if 0 ≤ (IntKind.u64.wrap (x8_1)) then (bits_read.l0 k1 l0 (wrap64 (x1_1 + (ji5))) a2 (Go.bits .or .u64 x7_1 (shl .u64 (Go.bits .and .u64 (IntKind.u64.wrap (shr .u8 (rd l0 (ji6)) (IntKind.u64.wrap (Go.bits .and .i64 x1_1 7)))) (IntKind.u64.wrap ((shl .u64 1 (IntKind.u64.wrap (ji5))) - 1))) (IntKind.u64.wrap (x8_1)))) (wrap64 (x8_1 + (ji5)))) else (none)) else (none)) else (none)) else (none)) else (none)) = some r := by (rw [hji6] at H; exact H)
    by_cases c7 : 0 ≤ (ji6)
    ·rw [if_pos c7] at H
     have c7b0 : decide (0 ≤ (ji6)) = true := decide_eq_true c7
     clear c7
     by_cases c8 : (ji6) < (l0.length : Int)
     ·rw [if_pos c8] at H
      have c8b0 : decide ((ji6) < (l0.length : Int)) = true := decide_eq_true c8
      clear c8
      obtain ⟨ji9, hji9⟩ : ∃ j_ : Int, (IntKind.u64.wrap (Go.bits .and .i64 x1_1 7)) = j_ := ⟨_, rfl⟩
      replace H : (if 0 ≤ (ji9) then (if 0 ≤ (IntKind.u64.wrap (ji5)) then (if 0 ≤ (IntKind.u64.wrap (x8_1)) then (bits_read.l0 k1 l0 (wrap64 (x1_1 + (ji5))) a2 (Go.bits .or .u64 x7_1 (shl .u64 (Go.bits .and .u64 (IntKind.u64.wrap (shr .u8 (rd l0 (ji6)) (ji9))) (IntKind.u64.wrap ((shl .u64 1 (IntKind.u64.wrap (ji5))) - 1))) (IntKind.u64.wrap (x8_1)))) (wrap64 (x8_1 + (ji5)))) else (none)) else (none)) else (none)) = some r := by (rw [hji9] at H; exact H)
      by_cases c10 : 0 ≤ (ji9)
      ·rw [if_pos c10] at H
       have c10b0 := eq_true c10
       have c10b1 : decide (0 ≤ (ji9)) = true := decide_eq_true c10
       clear c10
       obtain ⟨ji11, hji11⟩ : ∃ j_ : Int, (shr .u8 (rd l0 (ji6)) (ji9)) = j_ := ⟨_, rfl⟩
       replace H : (if 0 ≤ (IntKind.u64.wrap (ji5)) then (if 0 ≤ (IntKind.u64.wrap (x8_1)) then (bits_read.l0 k1 l0 (wrap64 (x1_1 + (ji5))) a2 (Go.bits .or .u64 x7_1 (shl .u64 (Go.bits .and .u64 (IntKind.u64.wrap (ji11)) (IntKind.u64.wrap ((shl .u64 1 (IntKind.u64.wrap (ji5))) - 1))) (IntKind.u64.wrap (x8_1)))) (wrap64 (x8_1 + (ji5)))) else (none)) else (none)) = some r := by (rw [hji11] at H; exact H)
       have hji11_ : ((rd l0 (ji6)) / 2 ^ min (ji9).toNat 8) = ji11 := hji11
       have hji11z : (ji9) ≤ 8 → ((rd l0 (ji6)) / 2 ^ (ji9).toNat) = ji11 := shr_small hji11
       obtain ⟨ji12, hji12⟩ : ∃ j_ : Int, (IntKind.u64.wrap (ji5)) = j_ := ⟨_, rfl⟩
       replace H : (if 0 ≤ (ji12) then (if 0 ≤ (IntKind.u64.wrap (x8_1)) then (bits_read.l0 k1 l0 (wrap64 (x1_1 + (ji5))) a2 (Go.bits .or .u64 x7_1 (shl .u64 (Go.bits .and .u64 (IntKind.u64.wrap (ji11)) (IntKind.u64.wrap ((shl .u64 1 (ji12)) - 1))) (IntKind.u64.wrap (x8_1)))) (wrap64 (x8_1 + (ji5)))) else (none)) else (none)) = some r := by (rw [hji12] at H; exact H)
       by_cases c13 : 0 ≤ (ji12)
       ·rw [if_pos c13] at H
        have c13b0 := eq_true c13
        have c13b1 : decide (0 ≤ (ji12)) = true := decide_eq_true c13
        clear c13
        obtain ⟨ji14, hji14⟩ : ∃ j_ : Int, (shl .u64 1 (ji12)) = j_ := ⟨_, rfl⟩
        replace H : (if 0 ≤ (IntKind.u64.wrap (x8_1)) then (bits_read.l0 k1 l0 (wrap64 (x1_1 + (ji5))) a2 (Go.bits .or .u64 x7_1 (shl .u64 (Go.bits .and .u64 (IntKind.u64.wrap (ji11)) (IntKind.u64.wrap ((ji14) - 1))) (IntKind.u64.wrap (x8_1)))) (wrap64 (x8_1 + (ji5)))) else (none)) = some r := by (rw [hji14] at H; exact H)
        have hji14_ : (IntKind.u64.wrap (1 * 2 ^ min (ji12).toNat 64)) = ji14 := hji14
        have hji14z : (ji12) ≤ 64 → (IntKind.u64.wrap (1 * 2 ^ (ji12).toNat)) = ji14 := shl_small hji14
        have hji14u : (IntKind.u64.wrap (2 ^ min (ji12).toNat 64)) = ji14 := by have h_ := hji14_; rw [Int.one_mul] at h_; exact h_
        have hji14v : (ji12) ≤ 64 → (IntKind.u64.wrap (2 ^ (ji12).toNat)) = ji14 := fun hle_ => by have h_ := hji14z hle_; rw [Int.one_mul] at h_; exact h_
        obtain ⟨ji15, hji15⟩ : ∃ j_ : Int, (IntKind.u64.wrap (x8_1)) = j_ := ⟨_, rfl⟩
        replace H : (if 0 ≤ (ji15) then (bits_read.l0 k1 l0 (wrap64 (x1_1 + (ji5))) a2 (Go.bits .or .u64 x7_1 (shl .u64 (Go.bits .and .u64 (IntKind.u64.wrap (ji11)) (IntKind.u64.wrap ((ji14) - 1))) (ji15))) (wrap64 (x8_1 + (ji5)))) else (none)) = some r := by (rw [hji15] at H; exact H)
        by_cases c16 : 0 ≤ (ji15)
        ·rw [if_pos c16] at H
         have c16b0 := eq_true c16
         have c16b1 : decide (0 ≤ (ji15)) = true := decide_eq_true c16
         clear c16
         obtain ⟨ji17, hji17⟩ : ∃ j_ : Int, (shl .u64 (Go.bits .and .u64 (IntKind.u64.wrap (ji11)) (IntKind.u64.wrap ((ji14) - 1))) (ji15)) = j_ := ⟨_, rfl⟩
         replace H : (bits_read.l0 k1 l0 (wrap64 (x1_1 + (ji5))) a2 (Go.bits .or .u64 x7_1 (ji17)) (wrap64 (x8_1 + (ji5)))) = some r := by (rw [hji17] at H; exact H)
         have hji17_ : (IntKind.u64.wrap ((Go.bits .and .u64 (IntKind.u64.wrap (ji11)) (IntKind.u64.wrap ((ji14) - 1))) * 2 ^ min (ji15).toNat 64)) = ji17 := hji17
         have hji17z : (ji15) ≤ 64 → (IntKind.u64.wrap ((Go.bits .and .u64 (IntKind.u64.wrap (ji11)) (IntKind.u64.wrap ((ji14) - 1))) * 2 ^ (ji15).toNat)) = ji17 := shl_small hji17
         have H' := Aside0.mk H
         clear H
         have p411 : 0 ≤ ((ji6) : Int) := of_decide_eq_true ‹_›
         have q411 : (ji6) < (l0.length : Int) := of_decide_eq_true ‹_›
         obtain ⟨ad411, e411, hx411_0⟩ := Kd.at_int HR0.out (ji6) p411 q411
         cases e411
         replace hx411_0 := (HB.out.cell (World.block_lt_of_cell? w _ hx411_0)).trans hx411_0
         replace p411 := eq_true p411
         replace q411 := eq_true q411
         go_wp2
         go_roundg k1
         case measure => have := HK1.out; omega
         case rel => exact ⟨(wrap64 (x1_1 + (ji5))), (Go.bits .or .u64 x7_1 (ji17)), (wrap64 (x8_1 + (ji5))), (by rfl), (by rfl), (by rfl), H', ⟨by have := HK1.out; omega⟩, ⟨by exact HB.out⟩⟩
        rw [if_neg c16] at H
        exact absurd H (by simp)
       rw [if_neg c13] at H
       exact absurd H (by simp)
      rw [if_neg c10] at H
      exact absurd H (by simp)
     rw [if_neg c8] at H
     exact absurd H (by simp)
    rw [if_neg c7] at H
    exact absurd H (by simp)
   rw [if_neg c4] at H
   have c4b0 : decide (x8_1 < a2) = false := decide_eq_false c4
   clear c4
   obtain rfl := Option.some.inj H
   go_wp2
   go_ret
   exact ⟨by rfl, by exact HB.out⟩
end Go.Proofs.YtjbhaepkldgfnaaGreat.S
