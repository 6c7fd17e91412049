/- A part of the proof of BlockOnly (the last text says what is proved, and of what): contracts of Go functions, made by a program of this work over the kit's print, the print's words that they use, and plain laws. No condition. -/
import Derived.Test.YtjbhaepkldgfnaaGreatC7
import Derived.Test.YtjbhaepkldgfnaaGreatC4
import Derived.Maps.Views
import Derived.Sort.KeysCollected
import Derived.Lib.Bytealg
import Derived.Test.YtjbhaepkldgfnaaGreatC5
import Derived.Test.YtjbhaepkldgfnaaGreatC8
import Derived.Test.YtjbhaepkldgfnaaGreatC2
import Derived.Test.YtjbhaepkldgfnaaGreatC6
import Derived.KernelRfl
namespace Go.Proofs.YtjbhaepkldgfnaaGreat.L
open Go Go.RowKit Go.Maps Go.Proofs.YtjbhaepkldgfnaaGreat.S Go.Proofs.YtjbhaepkldgfnaaGreatW.PrintWords Go.Proofs.YtjbhaepkldgfnaaGreatW.PrintLast Go.Proofs.YtjbhaepkldgfnaaGreatW.PrintMore
set_option linter.unusedVariables false
set_option linter.unusedSimpArgs false
theorem ints_bs {s : List Int} (h : Bytes s) : dI_ints (dI_bs s) = s := by
 unfold dI_ints dI_bs
 rw [List.map_map]
 have : ∀ x ∈ s, ((fun y : UInt8 => ((y.toNat : Nat) : Int)) ∘ fun n : Int => UInt8.ofNat n.toNat) x = x := by
  intro x hx
  obtain ⟨h0, h1⟩ := h x hx
  simp only [Function.comp_apply, UInt8.toNat_ofNat']
  omega
 rw [List.map_congr_left this, List.map_id']
theorem cmp_pos : ∀ a b : List UInt8, Lib.compareBytes a b > 0 → b < a := by
 intro a
 induction a with
 | nil => intro b h; cases b <;> simp [Lib.compareBytes] at h
 | cons x a ih =>
  intro b h
  cases b with
  | nil => exact List.nil_lt_cons _ _
  | cons y b =>
   simp only [Lib.compareBytes] at h
   rw [List.cons_lt_cons_iff]
   split at h
   ·omega
   ·split at h
    ·left; assumption
    ·right
     rename_i h1 h2
     refine ⟨?_, ih b h⟩
     rw [UInt8.lt_iff_toNat_lt] at h1 h2
     exact UInt8.toNat_inj.1 (by omega)
theorem keyLit (s : List UInt8) : WideAt.IsKeyLit (.string s) := trivial
theorem nodup_of {K : List (List UInt8)} (hK : K.Pairwise (· < ·)) : K.Nodup := by
 refine List.Pairwise.imp (R := (· < ·)) ?_ hK
 intro a b h e
 subst e
 exact List.lt_irrefl a h
theorem D1_map (l : List (List Int)) : IsMap (dI_D1 l) := by
 have : ∀ (l : List (List Int)) (D : DataW Unit), IsMap D → IsMap (l.foldl (fun D s => D.put (.string (dI_bs s)) (dI_i 0)) D) := by
  intro l
  induction l with
  | nil => intro D h; exact h
  | cons s l ih => intro D h; exact ih _ (h.put _ _)
 exact this l _ isMap_empty
theorem D1_tidy (l : List (List Int)) : Tidy (dI_D1 l) := by
 have : ∀ (l : List (List Int)) (D : DataW Unit), Tidy D → Tidy (l.foldl (fun D s => D.put (.string (dI_bs s)) (dI_i 0)) D) := by
  intro l
  induction l with
  | nil => intro D h; exact h
  | cons s l ih => intro D h; exact ih _ (h.put (keyLit _) _)
 exact this l _ tidy_empty
theorem D1_keys (l : List (List Int)) : ∃ es, dI_D1 l = .map es ∧ ∀ p ∈ es, ∃ x, p.1 = .string x := by
 have : ∀ (l : List (List Int)) (D : DataW Unit), (∃ es, D = .map es ∧ ∀ p ∈ es, ∃ x, p.1 = .string x) → ∃ es, (l.foldl (fun D s => D.put (.string (dI_bs s)) (dI_i 0)) D) = .map es ∧ ∀ p ∈ es, ∃ x, p.1 = .string x := by
  intro l
  induction l with
  | nil => intro D h; exact h
  | cons s l ih =>
   intro D h
   refine ih _ ?_
   obtain ⟨es, rfl, h⟩ := h
   refine ⟨_, rfl, fun p hp => ?_⟩
   have hp' := (WideShapes.insert_perm _ _).mem_iff.1 hp
   rcases List.mem_cons.1 hp' with rfl | hp'
   ·exact ⟨_, rfl⟩
   ·exact h p (List.mem_filter.1 hp').1
 exact this l _ ⟨[], rfl, fun p hp => by simp at hp⟩
theorem D1_has (l : List (List Int)) (x : List UInt8) : has (dI_D1 l) (.string x) = true ↔ ∃ s ∈ l, dI_bs s = x := by
 have : ∀ (l : List (List Int)) (D : DataW Unit), IsMap D → (has (l.foldl (fun D s => D.put (.string (dI_bs s)) (dI_i 0)) D) (.string x) = true ↔ has D (.string x) = true ∨ ∃ s ∈ l, dI_bs s = x) := by
  intro l
  induction l with
  | nil => intro D h; simp
  | cons s l ih =>
   intro D h
   rw [List.foldl_cons, ih _ (h.put _ _)]
   by_cases hx : dI_bs s = x
   ·subst hx
    rw [has_put_same h (keyLit _)]
    simp
   ·rw [has_put_other (fun e => hx (by injection e with e; exact e.symm))]
    constructor
    ·rintro (h | ⟨t, ht, e⟩)
     ·exact .inl h
     ·exact .inr ⟨t, by simp [ht], e⟩
    ·rintro (h | ⟨t, ht, e⟩)
     ·exact .inl h
     ·rcases List.mem_cons.1 ht with rfl | ht
      ·exact absurd e hx
      ·exact .inr ⟨t, ht, e⟩
 have h := this l (.map []) isMap_empty
 simpa [dI_D1, has] using h
theorem keys_eq (l : List (List Int)) (K : List (List UInt8)) (hK : K.Pairwise (· < ·)) (hm : ∀ x, x ∈ K ↔ ∃ s ∈ l, dI_bs s = x) : dI_keys l = K := by
 obtain ⟨es, he, hes⟩ := D1_keys l
 obtain ⟨es', he', hp⟩ := D1_tidy l
 obtain rfl : es = es' := by rw [he] at he'; injection he'
 have hnd := nodup_of hK
 have hperm : K.Perm (strKeys (dI_D1 l)) := by
  rw [he]
  exact perm_strKeys hp hes hnd (fun x => by rw [hm x, ← he, D1_has])
 have hs : K.mergeSort (fun x y => decide (x ≤ y)) = K := by
  refine List.mergeSort_of_pairwise (hK.imp ?_)
  intro a b h
  simp only [decide_eq_true_eq]
  exact List.le_of_lt h
 unfold dI_keys
 rw [← hs]
 exact (mergeSort_of_perm hperm).symm
theorem fold_other (x : List UInt8) (z : DataW Unit) : ∀ (K : List (List UInt8)) (j : Nat) (D : DataW Unit), x ∉ K → ((K.zipIdx j).foldl (fun D p => D.put (.string p.1) (dI_i p.2)) D).atKey (.string x) z = D.atKey (.string x) z := by
 intro K
 induction K with
 | nil => intro j D _; rfl
 | cons y K ih =>
  intro j D h
  rw [List.zipIdx_cons, List.foldl_cons, ih _ _ (fun h' => h (List.mem_cons_of_mem _ h'))]
  exact atKey_put_other (fun e => h (by injection e with e; rw [e]; exact List.mem_cons_self)) _ _
theorem fold_at (z : DataW Unit) : ∀ (K : List (List UInt8)) (j : Nat) (D : DataW Unit) (u : Nat) (hu : u < K.length), IsMap D → K.Nodup → ((K.zipIdx j).foldl (fun D p => D.put (.string p.1) (dI_i p.2)) D).atKey (.string K[u]) z = dI_i ((j + u : Nat) : Int) := by
 intro K
 induction K with
 | nil => intro j D u hu; simp at hu
 | cons y K ih =>
  intro j D u hu hD hnd
  obtain ⟨hy, hnd'⟩ := List.nodup_cons.1 hnd
  rw [List.zipIdx_cons, List.foldl_cons]
  cases u with
  | zero =>
   rw [List.getElem_cons_zero, fold_other y z K _ _ hy]
   exact atKey_put_same hD (keyLit _) _ _
  | succ u =>
   rw [List.getElem_cons_succ, ih (j + 1) _ u (by simpa using hu) (hD.put _ _) hnd', show j + 1 + u = j + (u + 1) by omega]
theorem code_eq (l : List (List Int)) (K : List (List UInt8)) (hK : dI_keys l = K) (hnd : K.Nodup) (s : List Int) (u : Nat) (hu : u < K.length) (hs : dI_bs s = K[u]) : dI_code l s = (u : Int) := by
 unfold dI_code dI_D2
 rw [hK, List.take_length, hs, fold_at _ K 0 _ u hu (D1_map l) hnd]
 simp [dI_i, dI_num]
theorem Index_eq (E : List (List Int)) (us : List Nat) (hE : (E.map dI_bs).Pairwise (· < ·)) (hb : ∀ s ∈ E, s.length ≤ 200 ∧ Bytes s) (hu : ∀ u ∈ us, u < E.length) (hused : ∀ j, j < E.length → j ∈ us) (hl : us.length ≤ 4096) :
 dict_Index.f (us.map fun u => E.getD u []) = some (E, ints us, 0) := by
 have hget : ∀ u, u < E.length → E.getD u [] ∈ E := fun u h => by rw [List.getD_eq_getElem?_getD, List.getElem?_eq_getElem h]; exact List.getElem_mem h
 have hkeys : dI_keys (us.map fun u => E.getD u []) = E.map dI_bs := by
  refine keys_eq _ _ hE fun x => ⟨fun hx => ?_, ?_⟩
  ·obtain ⟨s, hs, rfl⟩ := List.mem_map.1 hx
   obtain ⟨j, hj, rfl⟩ := List.mem_iff_getElem.1 hs
   exact ⟨E[j], List.mem_map.2 ⟨j, hused j hj, by rw [List.getD_eq_getElem?_getD, List.getElem?_eq_getElem hj]; rfl⟩, rfl⟩
  ·rintro ⟨s, hs, rfl⟩
   obtain ⟨u, hum, rfl⟩ := List.mem_map.1 hs
   exact List.mem_map.2 ⟨_, hget u (hu u hum), rfl⟩
 have hnd := nodup_of hE
 unfold dict_Index.f
 rw [if_neg (by rw [List.length_map]; omega), if_pos]
 ·rw [hkeys]
  congr 2
  ·rw [List.map_map]
   have : ∀ s ∈ E, (dI_ints ∘ dI_bs) s = s := fun s hs => ints_bs (hb s hs).2
   rw [List.map_congr_left this, List.map_id']
  ·congr 1
   rw [List.map_map]
   unfold ints
   refine List.map_congr_left fun u hum => ?_
   have hlt := hu u hum
   refine code_eq _ _ hkeys hnd _ u (by rw [List.length_map]; exact hlt) ?_
   show dI_bs (E.getD u []) = _
   rw [List.getElem_map, List.getD_eq_getElem?_getD, List.getElem?_eq_getElem hlt]
   rfl
 ·rw [List.all_eq_true]
  intro s hs
  obtain ⟨u, hum, rfl⟩ := List.mem_map.1 hs
  exact decide_eq_true (hb _ (hget u (hu u hum))).1
end Go.Proofs.YtjbhaepkldgfnaaGreat.L
namespace Go.Proofs.YtjbhaepkldgfnaaGreat.L
open Go Go.RowKit Go.Proofs.YtjbhaepkldgfnaaGreat.S Go.Proofs.YtjbhaepkldgfnaaGreatW.PrintWords Go.Proofs.YtjbhaepkldgfnaaGreatW.PrintLast Go.Proofs.YtjbhaepkldgfnaaGreatW.PrintMore
set_option linter.unusedVariables false
set_option linter.unusedSimpArgs false
def entB (E : List (List Int)) : List Int := E.flatMap fun s => putS s.length ++ s
def dwidthS (n : Nat) : Nat := widthS [n - 1]
def dictS (E : List (List Int)) (us : List Nat) : List Int :=
 putS E.length ++ (entB E ++ (putS us.length ++ digs ((dwidthS E.length * us.length + 7) / 8) (cat (dwidthS E.length) us)))
theorem entB_snoc (E : List (List Int)) (s : List Int) : entB (E ++ [s]) = entB E ++ (putS s.length ++ s) := by simp [entB, List.flatMap_append]
theorem entB_len {E : List (List Int)} (h : ∀ s ∈ E, s.length ≤ 200 ∧ Bytes s) : (entB E).length ≤ 210 * E.length := by
 induction E with
 | nil => simp [entB]
 | cons s E ih =>
  have h1 := h s (by simp)
  have h2 := ih (fun t ht => h t (by simp [ht]))
  have h3 := putS_len10 (n := s.length) (by omega)
  simp only [entB, List.flatMap_cons, List.length_append, List.length_cons] at h2 ⊢
  omega
theorem dwidth (n : Nat) (hn : n ≤ 4096) : Ev (fun k => dict_width.f k (n : Int)) (dwidthS n : Int) := by
 have e : IntKind.u64.wrap (mx (wrap64 ((n : Int) - 1)) 0) = ((n - 1 : Nat) : Int) := by
  have h1 : wrap64 ((n : Int) - 1) = (n : Int) - 1 := w64 (by omega) (by omega)
  have h2 : mx ((n : Int) - 1) 0 = ((n - 1 : Nat) : Int) := by unfold mx; split <;> omega
  rw [h1, h2]
  exact u64n _ (by omega)
 have hw := Width [n - 1] (fun u hu => by rw [List.mem_singleton.1 hu]; omega) (by simp)
 unfold dict_width.f
 simp only [e]
 refine Ev.bind hw ?_
 exact Ev.some_ _
theorem dwidth_le (n : Nat) (hn : n ≤ 4096) : dwidthS n ≤ 64 := widthS_le (Nat.le_refl _) (fun u hu => by rw [List.mem_singleton.1 hu]; omega)
theorem dwidth_lt {n u : Nat} (hn : n ≤ 4096) (hu : u < n) : u < 2 ^ dwidthS n := by
 have := widthS_lt (us := [n - 1]) (fun u hu => by rw [List.mem_singleton.1 hu]; omega) (n - 1) (by simp)
 exact Nat.lt_of_le_of_lt (by omega) this
theorem dictEnc_l1 (E : List (List Int)) (hE : E.length ≤ 4096) (us : List Nat) (hu : ∀ u ∈ us, u < E.length) (hl : us.length ≤ 4096) (pre : List Int) (hpre : pre.length ≤ 1000000) : ∀ (d i : Nat), d + i = us.length →
 Ev (fun k => dict_Encode.l1 k E pre (ints (us.take i) ++ List.replicate d 0) (ints us) (us.length : Int) (i : Int)) (pre ++ putS us.length ++ digs ((dwidthS E.length * us.length + 7) / 8) (cat (dwidthS E.length) us), 0) := by
 intro d
 induction d with
 | zero =>
  intro i hi
  have hw := dwidth_le E.length hE
  have hwn : dwidthS E.length * us.length ≤ 64 * 4096 := Nat.mul_le_mul hw hl
  have hp := Pack (dwidthS E.length) hw us (fun u h => dwidth_lt hE (hu u h)) hl
  have h10 := putS_len10 (n := us.length) (by omega)
  have c1 : pre.length + (putS us.length).length < 140737488355328 := by omega
  have c2 : (pre ++ putS us.length).length + (digs ((dwidthS E.length * us.length + 7) / 8) (cat (dwidthS E.length) us)).length < 140737488355328 := by rw [List.length_append, digs_len]; omega
  have hu64 := u64n us.length (by omega)
  refine Ev.succ ?_
  simp only [dict_Encode.l1, if_neg (show ¬ (i : Int) < (us.length : Int) by omega), List.replicate_zero, List.append_nil]
  rw [List.take_of_length_le (by omega)]
  refine Ev.bind (dwidth E.length hE) ?_
  refine Ev.bind hp ?_
  simp only [ints_len, hu64]
  refine Ev.bind (Put us.length (by omega)) ?_
  simp only [if_pos c1, Option.bind_some, if_pos c2]
  exact Ev.some_ _
 | succ d ih =>
  intro i hi
  have hlt : i < us.length := by omega
  have hih := ih (i + 1) (by omega)
  have hub := hu _ (getD_mem hlt)
  have htl : (us.take i).length = i := by rw [List.length_take]; omega
  have hset := set_ints (us.take i) d (us.getD i 0)
  rw [htl, ← take_succ_getD us i hlt] at hset
  have c1 : (i : Int) < (us.length : Int) := by omega
  have c2 : (0 : Int) ≤ (i : Int) := by omega
  have c3 : (i : Int) < (((ints (us.take i) ++ List.replicate (d + 1) 0).length : Nat) : Int) := by rw [List.length_append, ints_len, htl, List.length_replicate]; omega
  have hu64 := u64n (us.getD i 0) (by omega)
  have hw := w64i i (by omega)
  refine Ev.succ ?_
  simp only [dict_Encode.l1, if_pos c1, if_pos c2, if_pos c3, ints_len, ints_rd, hu64, hw, Int.toNat_natCast, hset]
  exact hih
theorem dictEnc_l0 (E : List (List Int)) (hE : E.length ≤ 4096) (hb : ∀ s ∈ E, s.length ≤ 200 ∧ Bytes s) (us : List Nat) (hu : ∀ u ∈ us, u < E.length) (hl : us.length ≤ 4096) (pre : List Int) (hpre : pre.length ≤ 10) : ∀ (d i : Nat), d + i = E.length →
 Ev (fun k => dict_Encode.l0 k E (ints us) (pre ++ entB (E.take i)) E (E.length : Int) (i : Int)) (pre ++ entB E ++ putS us.length ++ digs ((dwidthS E.length * us.length + 7) / 8) (cat (dwidthS E.length) us), 0) := by
 intro d
 induction d with
 | zero =>
  intro i hi
  have hL := entB_len hb
  have := dictEnc_l1 E hE us hu hl (pre ++ entB E) (by rw [List.length_append]; omega) us.length 0 rfl
  refine Ev.succ ?_
  simp only [dict_Encode.l0, if_neg (show ¬ (i : Int) < (E.length : Int) by omega), ints_len, Int.toNat_natCast, if_pos (show (0 : Int) ≤ (us.length : Int) by omega), if_pos (show us.length ≤ 35184372088832 by omega)]
  rw [List.take_of_length_le (by omega)]
  simpa [ints] using this
 | succ d ih =>
  intro i hi
  have hlt : i < E.length := by omega
  have hmem : rd_L1 E (i : Int) ∈ E := by rw [rdL1_nat, List.getD_eq_getElem?_getD, List.getElem?_eq_getElem hlt]; exact List.getElem_mem hlt
  have hs1 := (hb _ hmem).1
  have hL := entB_len (E := E.take i) (fun s h => hb s (List.mem_of_mem_take h))
  rw [List.length_take] at hL
  have hih := ih (i + 1) (by omega)
  rw [take_succ_L1 E i hlt, entB_snoc] at hih
  have h10 := putS_len10 (n := (rd_L1 E (i : Int)).length) (by omega)
  have c1 : (i : Int) < (E.length : Int) := by omega
  have c2 : (0 : Int) ≤ (i : Int) := by omega
  have c3 : (pre ++ entB (E.take i)).length + (putS (rd_L1 E (i : Int)).length).length < 140737488355328 := by rw [List.length_append]; omega
  have c4 : (pre ++ entB (E.take i) ++ putS (rd_L1 E (i : Int)).length).length + (rd_L1 E (i : Int)).length < 140737488355328 := by rw [List.length_append, List.length_append]; omega
  have hw := w64i i (by omega)
  have hu64 := u64n (rd_L1 E (i : Int)).length (by omega)
  refine Ev.succ ?_
  simp only [dict_Encode.l0, if_pos c1, if_pos c2, hu64, hw]
  refine Ev.bind (Put _ (by omega)) ?_
  simp only [if_pos c3, Option.bind_some, if_pos c4]
  simpa [List.append_assoc] using hih
structure IsDict (E : List (List Int)) (us : List Nat) : Prop where
 order : (E.map dI_bs).Pairwise (· < ·)
 bytes : ∀ s ∈ E, s.length ≤ 200 ∧ Bytes s
 below : ∀ u ∈ us, u < E.length
 used : ∀ j, j < E.length → j ∈ us
 many : E.length ≤ 4096
 len : us.length ≤ 4096
def textsOf (E : List (List Int)) (us : List Nat) : List (List Int) := us.map fun u => E.getD u []
theorem dictEncode (E : List (List Int)) (us : List Nat) (h : IsDict E us) : Ev (fun k => dict_Encode.f k (textsOf E us)) (dictS E us, 0) := by
 have hI := Index_eq E us h.order h.bytes h.below h.used h.len
 unfold dict_Encode.f textsOf
 have hm := h.many
 have hu64 := u64n E.length (by omega)
 simp only [hI, Option.bind_some, if_true, hu64]
 refine Ev.bind (Put _ (by omega)) ?_
 have := dictEnc_l0 E hm h.bytes us h.below h.len (putS E.length) (putS_len10 (by omega)) E.length 0 rfl
 simpa [entB, dictS, List.append_assoc] using this
theorem entry (l : List Int) (hb : Bytes l) (hl : l.length ≤ 140737488355328) (a : Nat) (ha : a ≤ l.length) (last : List Int) (first : Bool) :
 ∃ r, Ev (fun k => dict_entry.f k l (a : Int) last first) r ∧ ((∃ e, e ≠ 0 ∧ r = ([], 0, e)) ∨ ∃ (s : List Int) (a' : Nat), r = (s, (a' : Int), 0) ∧ a' ≤ l.length ∧ s.length ≤ 200 ∧ Bytes s ∧ l.drop a = putS s.length ++ s ++ l.drop a' ∧ (first = false → dI_bs last < dI_bs s)) := by
 obtain ⟨r1, hr1, hg1⟩ := Get l hb hl a ha
 rcases hg1 with ⟨e, he, rfl⟩ | ⟨n, s1, hn, hd1, rfl⟩
 ·refine ⟨([], 0, e), Ev.bind hr1 ?_, .inl ⟨e, he, rfl⟩⟩
  simp only [if_neg he]
  exact Ev.some_ _
 ·have hle1 := drop_le hd1 (putS_pos n)
  have hds1 := drop_put hd1
  by_cases h200 : (n : Int) > 200
  ·refine ⟨([], 0, 4), Ev.bind hr1 ?_, .inl ⟨4, by decide, rfl⟩⟩
   simp only [if_true, if_pos h200]
   exact Ev.some_ _
  ·have hn63 : n < 9223372036854775808 := by omega
   have hl63 : l.length < 9223372036854775808 := by omega
   by_cases hsh : n > l.length - (a + (putS n).length)
   ·have c1 : (n : Int) > ((l.length - (a + (putS n).length) : Nat) : Int) := by omega
    refine ⟨([], 0, 2), Ev.bind hr1 ?_, .inl ⟨2, by decide, rfl⟩⟩
    simp only [if_true, if_neg h200, w64n n hn63, w64s _ _ hle1 hl63, if_pos c1]
    exact Ev.some_ _
   ·obtain ⟨b, hbdef⟩ : ∃ b, b = a + (putS n).length := ⟨_, rfl⟩
    rw [← hbdef] at hr1 hle1 hds1 hsh
    obtain ⟨s, hs⟩ : ∃ s, s = (l.drop b).take n := ⟨_, rfl⟩
    have hsl : s.length = n := by rw [hs, List.length_take, List.length_drop]; omega
    have hsb : Bytes s := by rw [hs]; exact (hb.drop _).take _
    have hsum : b + n < 9223372036854775808 := by omega
    have c1 : ¬ (n : Int) > ((l.length - b : Nat) : Int) := by omega
    have c2 : (0 : Int) ≤ (b : Int) := by omega
    have c3 : (b : Int) ≤ ((b + n : Nat) : Int) := by omega
    have c4 : ((b + n : Nat) : Int) ≤ (l.length : Int) := by omega
    have step : ∀ q, Ev (fun k => if first = true then (some (s, ((b + n : Nat) : Int), 0)) else ((bytes_Compare.f s last).bind fun t516 => (if t516 ≤ 0 then (some (([] : List Int), 0, 5)) else (some (s, ((b + n : Nat) : Int), 0))))) q → Ev (fun k => dict_entry.f k l (a : Int) last first) q := by
     intro q hq
     refine Ev.bind hr1 ?_
     simp only [if_true, if_neg h200, w64n n hn63, w64s _ _ hle1 hl63, if_neg c1, if_pos c2, w64a b n hsum, if_pos c3, if_pos c4, Int.toNat_natCast, Option.bind_some, piece, ← hs]
     exact hq
    have hda : l.drop a = putS s.length ++ s ++ l.drop (b + n) := by
     rw [hd1, ← hds1, hsl, hs, List.append_assoc, ← piece_split]
    have hbn : b + n ≤ l.length := by omega
    cases first with
    | true =>
     refine ⟨(s, ((b + n : Nat) : Int), 0), step _ ?_, .inr ⟨s, b + n, rfl, hbn, by omega, hsb, hda, by simp⟩⟩
     simp only [if_true]
     exact Ev.some_ _
    | false =>
     simp only [if_neg Bool.false_ne_true, bytes_Compare.f, Option.bind_some] at step
     by_cases hc : Lib.compareBytes (Lib.bytesOf s) (Lib.bytesOf last) ≤ 0
     ·refine ⟨([], 0, 5), step _ ?_, .inl ⟨5, by decide, rfl⟩⟩
      simp only [if_pos hc]
      exact Ev.some_ _
     ·refine ⟨(s, ((b + n : Nat) : Int), 0), step _ ?_, .inr ⟨s, b + n, rfl, hbn, by omega, hsb, hda, fun _ => cmp_pos _ _ (Int.not_le.1 hc)⟩⟩
      simp only [if_neg hc]
      exact Ev.some_ _
def usedS (m : Nat) (us : List Nat) : List Bool := (List.range m).map fun j => decide (j ∈ us)
theorem usedS_set (m : Nat) (us : List Nat) (u : Nat) (hu : u < m) : (usedS m us).set u true = usedS m (us ++ [u]) := by
 refine List.ext_getElem (by simp [usedS]) fun j h1 h2 => ?_
 rw [List.getElem_set]
 simp only [usedS, List.getElem_map, List.getElem_range]
 by_cases h : u = j
 ·subst h; simp
 ·rw [if_neg h]
  have hju : ¬ j = u := fun e => h e.symm
  simp [hju]
theorem usedS_nil (m : Nat) : usedS m [] = List.replicate m false := by
 refine List.ext_getElem (by simp [usedS]) fun j h1 h2 => ?_
 simp [usedS]
theorem dictTexts_l0 (E : List (List Int)) (hE : E.length ≤ 4096) (hb : ∀ s ∈ E, s.length ≤ 200 ∧ Bytes s) (us : List Nat) (hl : us.length ≤ 4096) : ∀ (d i : Nat), d + i = us.length → (∀ u ∈ us.take i, u < E.length) →
 ∃ r, Ev (fun k => dict_texts.l0 k E (usedS E.length (us.take i)) (textsOf E (us.take i) ++ List.replicate d []) (ints us) (us.length : Int) (i : Int)) r ∧ (r = ([], 5) ∨ r = (textsOf E us, 0) ∧ (∀ u ∈ us, u < E.length) ∧ ∀ j, j < E.length → j ∈ us) := by
 intro d
 induction d with
 | zero =>
  intro i hi hu
  rw [List.take_of_length_le (by omega)] at hu ⊢
  have hC := ContainsB (usedS E.length us) false (by simp [usedS]; omega)
  by_cases hf : false ∈ usedS E.length us
  ·refine ⟨([], 5), Ev.succ ?_, .inl rfl⟩
   simp only [dict_texts.l0, if_neg (show ¬ (i : Int) < (us.length : Int) by omega)]
   refine Ev.bind hC ?_
   simp only [decide_eq_true hf, if_true]
   exact Ev.some_ _
  ·refine ⟨(textsOf E us, 0), Ev.succ ?_, .inr ⟨rfl, hu, fun j hj => ?_⟩⟩
   ·simp only [dict_texts.l0, if_neg (show ¬ (i : Int) < (us.length : Int) by omega), List.replicate_zero, List.append_nil]
    refine Ev.bind hC ?_
    simp only [decide_eq_false hf, if_neg Bool.false_ne_true]
    exact Ev.some_ _
   ·refine Decidable.byContradiction fun hn => hf ?_
    exact List.mem_map.2 ⟨j, List.mem_range.2 hj, decide_eq_false hn⟩
 | succ d ih =>
  intro i hi hu
  have hlt : i < us.length := by omega
  have c1 : (i : Int) < (us.length : Int) := by omega
  have c2 : (0 : Int) ≤ (i : Int) := by omega
  have hEu := u64n E.length (by omega)
  by_cases hbig : E.length ≤ us.getD i 0
  ·have c3 : ((us.getD i 0 : Nat) : Int) ≥ (E.length : Int) := by omega
   refine ⟨([], 5), Ev.succ ?_, .inl rfl⟩
   simp only [dict_texts.l0, if_pos c1, if_pos c2, ints_len, ints_rd, hEu, if_pos c3]
   exact Ev.some_ _
  ·have htl : (us.take i).length = i := by rw [List.length_take]; omega
   have hget : E.getD (us.getD i 0) [] ∈ E := by rw [List.getD_eq_getElem?_getD (l := E), List.getElem?_eq_getElem (show us.getD i 0 < E.length by omega)]; exact List.getElem_mem _
   have hs := (hb _ hget).1
   have hcl : bytes_Clone.f (E.getD (us.getD i 0) []) = some (E.getD (us.getD i 0) []) := by unfold bytes_Clone.f; rw [if_pos (by omega)]
   have hset : (textsOf E (us.take i) ++ List.replicate (d + 1) []).set i (E.getD (us.getD i 0) []) = textsOf E (us.take (i + 1)) ++ List.replicate d [] := by
    have hl2 : (textsOf E (us.take i)).length = i := by rw [textsOf, List.length_map, htl]
    rw [List.set_append_right _ _ (by omega), hl2, Nat.sub_self, List.replicate_succ, List.set_cons_zero, take_succ_getD us i hlt]
    simp [textsOf, List.map_append]
   have hus := usedS_set E.length (us.take i) (us.getD i 0) (by omega)
   rw [← take_succ_getD us i hlt] at hus
   have c3 : ¬ ((us.getD i 0 : Nat) : Int) ≥ (E.length : Int) := by omega
   have c4 : (0 : Int) ≤ ((us.getD i 0 : Nat) : Int) := by omega
   have c5 : ((us.getD i 0 : Nat) : Int) < (((usedS E.length (us.take i)).length : Nat) : Int) := by simp only [usedS, List.length_map, List.length_range]; omega
   have c6 : ((us.getD i 0 : Nat) : Int) < (E.length : Int) := by omega
   have c7 : (i : Int) < (((textsOf E (us.take i) ++ List.replicate (d + 1) []).length : Nat) : Int) := by rw [List.length_append, textsOf, List.length_map, htl, List.length_replicate]; omega
   obtain ⟨r, hr, hg⟩ := ih (i + 1) (by omega) (by
    intro u hm
    rw [take_succ_getD us i hlt] at hm
    rcases List.mem_append.1 hm with hm | hm
    ·exact hu u hm
    ·rw [List.mem_singleton.1 hm]; omega)
   have hw := w64i i (by omega)
   refine ⟨r, Ev.succ ?_, hg⟩
   simp only [dict_texts.l0, if_pos c1, if_pos c2, ints_len, ints_rd, hEu, if_neg c3, if_pos c4, if_pos c5, if_pos c6, rdL1_nat, hcl, Option.bind_some, if_pos c7, hw, Int.toNat_natCast, hus, hset]
   exact hr
theorem pairwise_snoc {E : List (List Int)} {s : List Int} (hE : (E.map dI_bs).Pairwise (· < ·)) (h : E = [] ∨ dI_bs (E.getLastD []) < dI_bs s) : ((E ++ [s]).map dI_bs).Pairwise (· < ·) := by
 rw [List.map_append, List.pairwise_append]
 refine ⟨hE, by simp, ?_⟩
 intro x hx y hy
 simp only [List.map_cons, List.map_nil, List.mem_singleton] at hy
 subst hy
 rcases h with rfl | h
 ·simp at hx
 rcases snoc_cases E with rfl | ⟨E', t, rfl⟩
 ·simp at hx
 rw [List.getLastD_concat] at h
 rw [List.map_append, List.mem_append] at hx
 rcases hx with hx | hx
 ·rw [List.map_append, List.pairwise_append] at hE
  have h1 : x < dI_bs t := hE.2.2 x hx (dI_bs t) (by simp)
  exact List.lt_of_le_of_lt (List.le_of_lt h1) h
 ·simp only [List.map_cons, List.map_nil, List.mem_singleton] at hx
  rw [hx]; exact h
theorem dictDec_l0 (l : List Int) (hb : Bytes l) (hl : l.length ≤ 140737488355328) (n a0 : Nat) (hn : n ≤ 4096) : ∀ (d i a : Nat) (E : List (List Int)), d + i = n → a ≤ l.length → E.length = i → (E.map dI_bs).Pairwise (· < ·) → (∀ s ∈ E, s.length ≤ 200 ∧ Bytes s) → l.drop a0 = entB E ++ l.drop a →
 ∃ r, Ev (fun k => dict_Decode.l0 k l (a : Int) E (E.getLastD []) (n : Int) (i : Int)) r ∧ Told r fun ss => ∃ E us, ss = textsOf E us ∧ IsDict E us ∧ E.length = n ∧ l.drop a0 = entB E ++ (putS us.length ++ digs ((dwidthS E.length * us.length + 7) / 8) (cat (dwidthS E.length) us)) := by
 intro d
 induction d with
 | zero =>
  intro i a E hi ha hEl hE hEb hd
  obtain ⟨r1, hr1, hg1⟩ := Get l hb hl a ha
  have c0 : ¬ (i : Int) < (n : Int) := by omega
  have step : ∀ q, Ev (fun k => if r1.2.2 = 0 then (if r1.1 > 4096 then (some (([] : List (List Int)), 4)) else (if 0 ≤ r1.2.1 then (if r1.2.1 ≤ (l.length : Int) then ((dict_width.f k (E.length : Int)).bind fun t552 => ((bits_Unpack.f k (l.drop (r1.2.1 : Int).toNat) t552 (wrap64 (r1.1))).bind fun bt553 => (if bt553.2 = 0 then ((dict_texts.f k E bt553.1).bind fun bt557 => (some (bt557.1, bt557.2))) else (some (([] : List (List Int)), bt553.2))))) else (none)) else (none))) else (some (([] : List (List Int)), r1.2.2))) q → Ev (fun k => dict_Decode.l0 k l (a : Int) E (E.getLastD []) (n : Int) (i : Int)) q := by
   intro q hq
   refine Ev.succ ?_
   simp only [dict_Decode.l0, if_neg c0]
   exact Ev.bind hr1 hq
  rcases hg1 with ⟨e, he, rfl⟩ | ⟨c, s1, hc, hd1, rfl⟩
  ·refine ⟨([], e), step _ ?_, .inl ⟨e, he, rfl⟩⟩
   simp only [if_neg he]
   exact Ev.some_ _
  ·have hle := drop_le hd1 (putS_pos c)
   have hds := drop_put hd1
   by_cases hm : (c : Int) > 4096
   ·refine ⟨([], 4), step _ ?_, .inl ⟨4, by decide, rfl⟩⟩
    simp only [if_true, if_pos hm]
    exact Ev.some_ _
   ·have hc63 : c < 9223372036854775808 := by omega
    have hc4 : c ≤ 4096 := by omega
    have hE4 : E.length ≤ 4096 := by omega
    simp only [if_true, if_neg hm, if_pos (show (0 : Int) ≤ ((a + (putS c).length : Nat) : Int) by omega), if_pos (show ((a + (putS c).length : Nat) : Int) ≤ (l.length : Int) by omega), Int.toNat_natCast, w64n c hc63] at step
    obtain ⟨r2, hr2, hg2⟩ := Unpack_got (l.drop (a + (putS c).length)) (hb.drop _) (by rw [List.length_drop]; omega) (dwidthS E.length) c (dwidth_le _ hE4) hc4
    rcases hg2 with ⟨e, he, rfl⟩ | ⟨us, hul, hut, hbe, rfl⟩
    ·refine ⟨([], e), step _ (Ev.bind (dwidth _ hE4) (Ev.bind hr2 ?_)), .inl ⟨e, he, rfl⟩⟩
     simp only [if_neg he]
     exact Ev.some_ _
    ·obtain ⟨r3, hr3, hg3⟩ := dictTexts_l0 E hE4 hEb us (by omega) us.length 0 rfl (by simp)
     have c1 : (0 : Int) ≤ (E.length : Int) := by omega
     have c2 : E.length ≤ 281474976710656 := by omega
     have c3 : (0 : Int) ≤ (us.length : Int) := by omega
     have c4 : us.length ≤ 11728124029610 := by omega
     have hT : Ev (fun k => dict_texts.f k E (ints us)) r3 := by
      simp only [List.take_zero, usedS_nil, show textsOf E [] = [] from rfl, List.nil_append] at hr3
      unfold dict_texts.f
      simp only [ints_len, Int.toNat_natCast, if_pos c1, if_pos c2, if_pos c3, if_pos c4]
      exact hr3
     refine ⟨r3, step _ (Ev.bind (dwidth _ hE4) (Ev.bind hr2 ?_)), ?_⟩
     ·simp only [if_true]
      exact Ev.bind hT (Ev.some_ _)
     ·rcases hg3 with rfl | ⟨rfl, hu, hused⟩
      ·exact .inl ⟨5, by decide, rfl⟩
      ·refine .inr ⟨_, rfl, E, us, rfl, ⟨hE, hEb, hu, hused, hE4, by omega⟩, by omega, ?_⟩
       rw [hd, hd1, ← hds, hbe, hul]
 | succ d ih =>
  intro i a E hi ha hEl hE hEb hd
  obtain ⟨r1, hr1, hg1⟩ := entry l hb hl a ha (E.getLastD []) (decide (i = 0))
  have c1 : (i : Int) < (n : Int) := by omega
  have hbeq : ((i : Int) == 0) = decide (i = 0) := by
   by_cases h : i = 0
   ·subst h; rfl
   ·rw [decide_eq_false h]; simp; omega
  have c2 : E.length < 5864062014805 := by omega
  have hi64 : i + 1 < 18446744073709551616 := by omega
  have hu : IntKind.u64.wrap ((i : Int) + 1) = ((i + 1 : Nat) : Int) := by rw [show (i : Int) + 1 = ((i + 1 : Nat) : Int) by omega]; exact u64n _ hi64
  rcases hg1 with ⟨e, he, rfl⟩ | ⟨s, a', rfl, ha', hsl, hsb, hda, hord⟩
  ·refine ⟨([], e), Ev.succ ?_, .inl ⟨e, he, rfl⟩⟩
   simp only [dict_Decode.l0, if_pos c1, hbeq]
   refine Ev.bind hr1 ?_
   simp only [if_neg he]
   exact Ev.some_ _
  ·have hE2 := pairwise_snoc (s := s) hE (by
    by_cases h : i = 0
    ·left; exact List.eq_nil_of_length_eq_zero (by omega)
    ·right; exact hord (decide_eq_false h))
   obtain ⟨r, hr, ht⟩ := ih (i + 1) a' (E ++ [s]) (by omega) ha' (by rw [List.length_append]; simp [hEl]) hE2 (fun t ht => by
    rcases List.mem_append.1 ht with ht | ht
    ·exact hEb t ht
    ·rw [List.mem_singleton.1 ht]; exact ⟨hsl, hsb⟩) (by rw [entB_snoc, hd, hda]; simp only [List.append_assoc])
   refine ⟨r, Ev.succ ?_, ht⟩
   simp only [dict_Decode.l0, if_pos c1, hbeq]
   refine Ev.bind hr1 ?_
   simp only [if_true, if_pos c2, hu]
   rw [List.getLastD_concat] at hr
   exact hr
theorem dictDecode (l : List Int) (hb : Bytes l) (hl : l.length ≤ 140737488355328) :
 ∃ r, Ev (fun k => dict_Decode.f k l) r ∧ Told r fun ss => ∃ E us, ss = textsOf E us ∧ IsDict E us ∧ l = dictS E us := by
 obtain ⟨r1, hr1, hg1⟩ := Get l hb hl 0 (by omega)
 rcases hg1 with ⟨e, he, rfl⟩ | ⟨n, s, hn, hdn, rfl⟩
 ·refine ⟨([], e), Ev.bind hr1 ?_, .inl ⟨e, he, rfl⟩⟩
  simp only [if_neg he]
  exact Ev.some_ _
 ·by_cases hm : (n : Int) > 4096
  ·refine ⟨([], 4), Ev.bind hr1 ?_, .inl ⟨4, by decide, rfl⟩⟩
   simp only [if_pos hm, if_true]
   exact Ev.some_ _
  ·have hle := drop_le hdn (putS_pos n)
   have hds := drop_put hdn
   obtain ⟨r, hr, ht⟩ := dictDec_l0 l hb hl n (0 + (putS n).length) (by omega) n 0 (0 + (putS n).length) [] (by omega) hle rfl (by simp) (by simp) (by simp [entB])
   refine ⟨r, Ev.bind hr1 ?_, ?_⟩
   ·simp only [if_neg hm, if_true]
    exact hr
   ·rcases ht with ht | ⟨vs, e, E, us, h1, h2, h3, h4⟩
    ·exact .inl ht
    ·refine .inr ⟨vs, e, E, us, h1, h2, ?_⟩
     rw [hds] at h4
     simp only [List.drop_zero] at hdn
     rw [hdn, h4, ← h3]
     rfl
def numK (kind : Int) : Bool := decide (1 ≤ kind ∧ kind ≤ 6)
theorem Number (kind : Int) : cell_Number.f kind = some (numK kind) := by
 unfold cell_Number.f numK
 split
 ·rename_i h; congr 1; simp only [decide_eq_decide]; omega
 ·rename_i h; rw [decide_eq_false (by omega)]
def fitsS (kind codec : Int) : Bool := if codec = 1 then true else if codec = 2 ∨ codec = 3 then numK kind else if codec = 4 ∨ codec = 5 then !numK kind else false
theorem fits (kind codec : Int) : Ev (fun k => block_fits.f k kind codec) (fitsS kind codec) := by
 unfold block_fits.f fitsS
 by_cases h1 : codec = 1
 ·simp only [if_pos h1]; exact Ev.some_ _
 simp only [if_neg h1]
 by_cases h2 : codec = 2
 ·simp only [if_pos h2, h2, beq_self_eq_true]
  refine Ev.succ ?_
  simp only [block_fits.j0, if_true, Number, Option.bind_some, if_pos (Or.inl rfl : (2 : Int) = 2 ∨ (2 : Int) = 3)]
  exact Ev.some_ _
 simp only [if_neg h2]
 refine Ev.succ ?_
 by_cases h3 : codec = 3
 ·have : (codec == 3) = true := by simpa using h3
  simp only [block_fits.j0, this, if_true, Number, Option.bind_some, if_pos (Or.inr h3 : codec = 2 ∨ codec = 3)]
  exact Ev.some_ _
 have : (codec == 3) = false := by simpa using h3
 simp only [block_fits.j0, this, if_neg Bool.false_ne_true, Number, Option.bind_some, if_neg (show ¬ (codec = 2 ∨ codec = 3) by omega)]
 by_cases h4 : codec = 4
 ·simp only [if_pos h4, if_pos (Or.inl h4 : codec = 4 ∨ codec = 5)]; exact Ev.some_ _
 by_cases h5 : codec = 5
 ·simp only [if_neg h4, if_pos h5, if_pos (Or.inr h5 : codec = 4 ∨ codec = 5)]; exact Ev.some_ _
 simp only [if_neg h4, if_neg h5, if_neg (show ¬ (codec = 4 ∨ codec = 5) by omega)]
 exact Ev.some_ _
def nullN (c : S62) : Nat := if c.f0 = true then 1 else 0
def bitsOf (cs : List S62) : List Nat := cs.map nullN
def nullB (us : List Nat) : List Int := if ∀ u ∈ us, u = 0 then [0] else 1 :: digs ((1 * us.length + 7) / 8) (cat 1 us)
theorem bitsOf_lt (cs : List S62) : ∀ u ∈ bitsOf cs, u < 2 ^ 1 := by
 intro u hu
 obtain ⟨c, _, rfl⟩ := List.mem_map.1 hu
 unfold nullN
 split <;> decide
theorem nulls_l0 (cs : List S62) (hl : cs.length ≤ 4096) : ∀ (d i : Nat) (some_ : Int), d + i = cs.length → (some_ = 0 ↔ ∀ u ∈ bitsOf (cs.take i), u = 0) →
 Ev (fun k => block_nulls.l0 k (ints (bitsOf (cs.take i)) ++ List.replicate d 0) some_ cs (cs.length : Int) (i : Int)) (nullB (bitsOf cs)) := by
 intro d
 induction d with
 | zero =>
  intro i some_ hi hs
  rw [List.take_of_length_le (by omega)] at hs ⊢
  have hbl : (bitsOf cs).length = cs.length := by simp [bitsOf]
  refine Ev.succ ?_
  simp only [block_nulls.l0, if_neg (show ¬ (i : Int) < (cs.length : Int) by omega), List.replicate_zero, List.append_nil]
  unfold nullB
  by_cases h0 : some_ = 0
  ·simp only [if_pos h0, if_pos (hs.1 h0)]
   exact Ev.some_ _
  ·simp only [if_neg h0, if_neg (fun h => h0 (hs.2 h))]
   refine Ev.bind (Pack 1 (by decide) (bitsOf cs) (bitsOf_lt cs) (by omega)) ?_
   have c1 : ([1] : List Int).length + (digs ((1 * (bitsOf cs).length + 7) / 8) (cat 1 (bitsOf cs))).length < 140737488355328 := by rw [digs_len]; simp only [List.length_singleton]; omega
   simp only [Option.bind_some, if_pos c1]
   exact Ev.some_ _
 | succ d ih =>
  intro i some_ hi hs
  have hlt : i < cs.length := by omega
  have htl : (bitsOf (cs.take i)).length = i := by simp [bitsOf]; omega
  have c1 : (i : Int) < (cs.length : Int) := by omega
  have c2 : (0 : Int) ≤ (i : Int) := by omega
  have c3 : (i : Int) < (((ints (bitsOf (cs.take i)) ++ List.replicate (d + 1) 0).length : Nat) : Int) := by rw [List.length_append, ints_len, htl, List.length_replicate]; omega
  have hset := set_ints (bitsOf (cs.take i)) d 1
  rw [htl] at hset
  have hw := w64i i (by omega)
  have htk : bitsOf (cs.take (i + 1)) = bitsOf (cs.take i) ++ [nullN (rd_T62 cs (i : Int))] := by rw [take_succ_T62 cs i hlt]; simp [bitsOf, List.map_append]
  refine Ev.succ ?_
  simp only [block_nulls.l0, if_pos c1, if_pos c2, if_pos c3, hw]
  by_cases hf : (rd_T62 cs (i : Int)).f0 = true
  ·have hn : nullN (rd_T62 cs (i : Int)) = 1 := by unfold nullN; rw [if_pos hf]
   simp only [if_pos hf, Int.toNat_natCast]
   have := ih (i + 1) 1 (by omega) (by rw [htk, hn]; simp)
   rw [htk, hn] at this
   rw [show (1 : Int) = ((1 : Nat) : Int) from rfl, hset]
   exact this
  ·have hn : nullN (rd_T62 cs (i : Int)) = 0 := by unfold nullN; rw [if_neg hf]
   simp only [if_neg hf]
   have := ih (i + 1) some_ (by omega) (by
    rw [htk, hn, hs]
    constructor
    ·intro h u hu
     rcases List.mem_append.1 hu with hu | hu
     ·exact h u hu
     ·exact List.mem_singleton.1 hu
    ·intro h u hu
     exact h u (List.mem_append_left _ hu))
   rw [htk, hn] at this
   refine Ev.congr (fun k => ?_) this
   congr 1
   simp [ints, List.map_append, List.replicate_succ]
theorem nulls (cs : List S62) (hl : cs.length ≤ 4096) : Ev (fun k => block_nulls.f k cs) (nullB (bitsOf cs)) := by
 unfold block_nulls.f
 simp only [Int.toNat_natCast, if_pos (show (0 : Int) ≤ (cs.length : Int) by omega), if_pos (show cs.length ≤ 35184372088832 by omega)]
 have := nulls_l0 cs hl cs.length 0 0 rfl (by simp [bitsOf])
 simpa [bitsOf, ints] using this
theorem readNulls (l : List Int) (hb : Bytes l) (hl : l.length ≤ 140737488355328) (n : Nat) (hn : n ≤ 4096) :
 ∃ r, Ev (fun k => block_readNulls.f k l (n : Int)) r ∧ ((∃ e xs ys, e ≠ 0 ∧ r = (xs, ys, e)) ∨ ∃ us rest, r = (ints us, rest, 0) ∧ us.length = n ∧ (∀ u ∈ us, u < 2) ∧ Bytes rest ∧ l = nullB us ++ rest) := by
 cases l with
 | nil =>
  refine ⟨([], [], 2), ?_, .inl ⟨2, [], [], by decide, rfl⟩⟩
  unfold block_readNulls.f
  simp only [List.length_nil, if_pos (show ((0 : Nat) : Int) = 0 from rfl)]
  exact Ev.some_ _
 | cons x l =>
  obtain ⟨hx0, hx1⟩ := hb x (by simp)
  obtain ⟨b, rfl⟩ := Int.eq_ofNat_of_zero_le hx0
  have hb' : Bytes l := fun y hy => hb y (by simp [hy])
  simp only [List.length_cons] at hl
  have c1 : ¬ (((l.length + 1 : Nat) : Int) = 0) := by omega
  have c2 : (0 : Int) < ((l.length + 1 : Nat) : Int) := by omega
  have c3 : (1 : Int) ≤ ((l.length + 1 : Nat) : Int) := by omega
  by_cases hb1 : (b : Int) > 1
  ·refine ⟨([], [], 5), ?_, .inl ⟨5, [], [], by decide, rfl⟩⟩
   unfold block_readNulls.f
   simp only [List.length_cons, if_neg c1, if_pos c2, rd_cons_zero, if_pos hb1]
   exact Ev.some_ _
  by_cases hb0 : (b : Int) = 0
  ·refine ⟨(List.replicate n 0, l, 0), ?_, .inr ⟨List.replicate n 0, l, by simp [ints], by simp, fun u hu => by rw [(List.mem_replicate.1 hu).2]; decide, hb', ?_⟩⟩
   ·unfold block_readNulls.f
    simp only [List.length_cons, if_neg c1, if_pos c2, rd_cons_zero, if_neg hb1, if_pos hb0, if_pos (show (0 : Int) ≤ (n : Int) by omega), Int.toNat_natCast, if_pos (show n ≤ 35184372088832 by omega), if_pos c3, List.drop_succ_cons, List.drop_zero]
    exact Ev.some_ _
   ·unfold nullB
    rw [if_pos (fun u hu => (List.mem_replicate.1 hu).2), hb0]
    rfl
  ·have hb1' : b = 1 := by omega
   subst hb1'
   have hn7 : n + 7 < 9223372036854775808 := by omega
   have hsz : (n + 7) / 8 < 9223372036854775808 := by omega
   have hl63 : l.length + 1 < 9223372036854775808 := by omega
   have e1 : wrap64 (((l.length + 1 : Nat) : Int) - 1) = (l.length : Int) := w64s (l.length + 1) 1 (by omega) (by omega)
   have e2 : wrap64 (Int.tdiv (wrap64 ((n : Int) + 7)) 8) = (((n + 7) / 8 : Nat) : Int) := by
    rw [show (7 : Int) = ((7 : Nat) : Int) from rfl, w64a n 7 hn7, Int.tdiv_eq_ediv_of_nonneg (Int.natCast_nonneg _)]
    exact w64n _ hsz
   by_cases hsh : l.length < (n + 7) / 8
   ·have c4 : (l.length : Int) < (((n + 7) / 8 : Nat) : Int) := by omega
    refine ⟨([], [], 2), ?_, .inl ⟨2, [], [], by decide, rfl⟩⟩
    unfold block_readNulls.f
    simp only [List.length_cons, if_neg c1, if_pos c2, rd_cons_zero, if_neg hb1, if_neg hb0, e1, e2, if_pos c4]
    exact Ev.some_ _
   ·have c4 : ¬ (l.length : Int) < (((n + 7) / 8 : Nat) : Int) := by omega
    have c5 : (1 : Int) ≤ ((1 + (n + 7) / 8 : Nat) : Int) := by omega
    have c6 : ((1 + (n + 7) / 8 : Nat) : Int) ≤ ((l.length + 1 : Nat) : Int) := by omega
    have c7 : (0 : Int) ≤ ((1 + (n + 7) / 8 : Nat) : Int) := by omega
    have hs1 : 1 + (n + 7) / 8 < 9223372036854775808 := by omega
    have hlen : (l.take ((n + 7) / 8)).length = (n + 7) / 8 := by rw [List.length_take]; omega
    have e3 : wrap64 (1 + (((n + 7) / 8 : Nat) : Int)) = ((1 + (n + 7) / 8 : Nat) : Int) := w64a 1 ((n + 7) / 8) hs1
    obtain ⟨r, hr, hg⟩ := Unpack_got (l.take ((n + 7) / 8)) (hb'.take _) (by rw [hlen]; omega) 1 n (by decide) hn
    have hcut : (((1 : Nat) : Int) :: l).drop (1 + (n + 7) / 8) = l.drop ((n + 7) / 8) := by rw [Nat.add_comm, List.drop_succ_cons]
    have step : ∀ q, Ev (fun k => if r.2 = 0 then ((bits_Width.f k r.1).bind fun t440 => (if t440 = 0 then some (r.1, l.drop ((n + 7) / 8), 5) else some (r.1, l.drop ((n + 7) / 8), r.2))) else some (r.1, l.drop ((n + 7) / 8), r.2)) q → Ev (fun k => block_readNulls.f k (((1 : Nat) : Int) :: l) (n : Int)) q := by
     intro q hq
     unfold block_readNulls.f
     simp only [List.length_cons, if_neg c1, if_pos c2, rd_cons_zero, if_neg hb1, if_neg hb0, e1, e2, if_neg c4, e3, if_pos c5, if_pos c6, if_pos c7, Int.toNat_natCast, hcut]
     rw [show ((((1 : Nat) : Int) :: l).take (1 + (n + 7) / 8)).drop 1 = l.take ((n + 7) / 8) by rw [Nat.add_comm]; rfl]
     exact Ev.bind hr hq
    rcases hg with ⟨e, he, rfl⟩ | ⟨us, hul, hut, hbe, rfl⟩
    ·refine ⟨([], l.drop ((n + 7) / 8), e), step _ ?_, .inl ⟨e, _, _, he, rfl⟩⟩
     simp only [if_neg he]
     exact Ev.some_ _
    ·have hu64 : ∀ u ∈ us, u < 2 ^ 64 := fun u hu => Nat.lt_trans (hut u hu) (by decide)
     have hW := Width us hu64 (by omega)
     simp only [if_true] at step
     by_cases hw0 : widthS us = 0
     ·refine ⟨(ints us, l.drop ((n + 7) / 8), 5), step _ (Ev.bind hW ?_), .inl ⟨5, _, _, by decide, rfl⟩⟩
      simp only [hw0, if_pos (show ((0 : Nat) : Int) = 0 from rfl)]
      exact Ev.some_ _
     ·refine ⟨(ints us, l.drop ((n + 7) / 8), 0), step _ (Ev.bind hW ?_), .inr ⟨us, _, rfl, hul, fun u hu => hut u hu, hb'.drop _, ?_⟩⟩
      ·simp only [if_neg (show ¬ (widthS us : Int) = 0 by omega)]
       exact Ev.some_ _
      ·have hne : ¬ ∀ u ∈ us, u = 0 := by
        intro h
        have := widthS_le (us := us) (w := 0) (by decide) (fun u hu => by rw [h u hu]; decide)
        omega
       unfold nullB
       rw [if_neg hne, hul, Nat.one_mul, List.cons_append]
       rw [Nat.one_mul] at hbe
       rw [← hbe, List.take_append_drop]
       rfl
def plainOne (kind : Int) (c : S62) : List Int := if numK kind = true then putS (foldS c.f1) else putS c.f2.length ++ c.f2
def plainB (kind : Int) (cs : List S62) : List Int := cs.flatMap (plainOne kind)
def PlainOk (c : S62) : Prop := I64 c.f1 ∧ c.f2.length ≤ 200
theorem plainB_snoc (kind : Int) (cs : List S62) (c : S62) : plainB kind (cs ++ [c]) = plainB kind cs ++ plainOne kind c := by simp [plainB, List.flatMap_append]
theorem plainOne_len {kind : Int} {c : S62} (h : PlainOk c) : (plainOne kind c).length ≤ 210 := by
 have h1 := putS_len10 (foldS_lt h.1)
 have h2 := putS_len10 (n := c.f2.length) (by have := h.2; omega)
 have h3 := h.2
 unfold plainOne
 split
 ·omega
 ·rw [List.length_append]; omega
theorem plainB_len {kind : Int} {cs : List S62} (h : ∀ c ∈ cs, PlainOk c) : (plainB kind cs).length ≤ 210 * cs.length := by
 induction cs with
 | nil => simp [plainB]
 | cons c cs ih =>
  have h1 := plainOne_len (kind := kind) (h c (by simp))
  have h2 := ih (fun x hx => h x (by simp [hx]))
  simp only [plainB, List.flatMap_cons, List.length_append, List.length_cons] at h2 ⊢
  omega
theorem there_len (cs : List S62) : (there cs).length ≤ cs.length := List.length_filter_le _ _
theorem plain_l0 (kind : Int) (cs : List S62) (hl : cs.length ≤ 4096) (hok : ∀ c ∈ there cs, PlainOk c) : ∀ (d i : Nat), d + i = cs.length →
 Ev (fun k => block_plain.l0 k kind (plainB kind (there (cs.take i))) cs (cs.length : Int) (i : Int)) (plainB kind (there cs)) := by
 intro d
 induction d with
 | zero =>
  intro i hi
  refine Ev.succ ?_
  simp only [block_plain.l0, if_neg (show ¬ (i : Int) < (cs.length : Int) by omega)]
  rw [List.take_of_length_le (by omega)]
  exact Ev.some_ _
 | succ d ih =>
  intro i hi
  have hlt : i < cs.length := by omega
  have hih := ih (i + 1) (by omega)
  rw [take_succ_T62 cs i hlt, there_snoc] at hih
  have c1 : (i : Int) < (cs.length : Int) := by omega
  have c2 : (0 : Int) ≤ (i : Int) := by omega
  have hw := w64i i (by omega)
  have hmem : rd_T62 cs (i : Int) ∈ cs := by rw [rdT62_nat, List.getD_eq_getElem?_getD, List.getElem?_eq_getElem hlt]; exact List.getElem_mem hlt
  have hsub : ∀ c ∈ there (cs.take i), PlainOk c := fun c hc => hok c (by
   obtain ⟨h1, h2⟩ := List.mem_filter.1 hc
   exact List.mem_filter.2 ⟨List.mem_of_mem_take h1, h2⟩)
  have hL := plainB_len (kind := kind) hsub
  have hT := there_len (cs.take i)
  rw [List.length_take] at hT
  refine Ev.succ ?_
  simp only [block_plain.l0, if_pos c1, if_pos c2, hw]
  by_cases hf : (rd_T62 cs (i : Int)).f0 = true
  ·simp only [if_pos hf, List.append_nil] at hih ⊢
   exact hih
  ·simp only [if_neg hf, Number, Option.bind_some] at hih ⊢
   rw [plainB_snoc] at hih
   have hc := hok (rd_T62 cs (i : Int)) (List.mem_filter.2 ⟨hmem, by simpa using hf⟩)
   unfold plainOne at hih
   by_cases hn : numK kind = true
   ·have h1 := putS_len10 (foldS_lt hc.1)
    have c3 : (plainB kind (there (cs.take i))).length + (putS (foldS (rd_T62 cs (i : Int)).f1)).length < 140737488355328 := by omega
    simp only [if_pos hn, Fold hc.1, Option.bind_some] at hih ⊢
    refine Ev.bind (Put _ (foldS_lt hc.1)) ?_
    simp only [if_pos c3]
    exact hih
   ·have h2 := hc.2
    have h1 := putS_len10 (n := (rd_T62 cs (i : Int)).f2.length) (by omega)
    have c3 : (plainB kind (there (cs.take i))).length + (putS (rd_T62 cs (i : Int)).f2.length).length < 140737488355328 := by omega
    have c4 : (plainB kind (there (cs.take i)) ++ putS (rd_T62 cs (i : Int)).f2.length).length + (rd_T62 cs (i : Int)).f2.length < 140737488355328 := by rw [List.length_append]; omega
    have hu := u64n (rd_T62 cs (i : Int)).f2.length (by omega)
    simp only [if_neg hn, hu] at hih ⊢
    refine Ev.bind (Put _ (by omega)) ?_
    simp only [if_pos c3, Option.bind_some, if_pos c4]
    simpa [List.append_assoc] using hih
theorem plain (kind : Int) (cs : List S62) (hl : cs.length ≤ 4096) (hok : ∀ c ∈ there cs, PlainOk c) : Ev (fun k => block_plain.f k kind cs) (plainB kind (there cs)) := plain_l0 kind cs hl hok cs.length 0 rfl
theorem readPlain_l0 (kind : Int) (l : List Int) (hb : Bytes l) (hl : l.length ≤ 140737488355328) (n : Nat) (hn : n ≤ 4096) : ∀ (d i a : Nat) (out : List S62), d + i = n → a ≤ l.length → out.length = i → (∀ c ∈ out, PlainOk c ∧ c.f0 = false) → l = plainB kind out ++ l.drop a →
 ∃ r, Ev (fun k => block_readPlain.l0 k kind l out (a : Int) (n : Int) (i : Int)) r ∧ Told r fun cs => cs.length = n ∧ (∀ c ∈ cs, PlainOk c ∧ c.f0 = false) ∧ l = plainB kind cs := by
 intro d
 induction d with
 | zero =>
  intro i a out hi ha hol ho hd
  by_cases hlt : a < l.length
  ·refine ⟨([], 3), Ev.succ ?_, .inl ⟨3, by decide, rfl⟩⟩
   simp only [block_readPlain.l0, if_neg (show ¬ (i : Int) < (n : Int) by omega), if_pos (show (a : Int) < (l.length : Int) by omega)]
   exact Ev.some_ _
  ·refine ⟨(out, 0), Ev.succ ?_, .inr ⟨out, rfl, by omega, ho, by rw [List.drop_of_length_le (l := l) (i := a) (by omega), List.append_nil] at hd; exact hd⟩⟩
   simp only [block_readPlain.l0, if_neg (show ¬ (i : Int) < (n : Int) by omega), if_neg (show ¬ (a : Int) < (l.length : Int) by omega)]
   exact Ev.some_ _
 | succ d ih =>
  intro i a out hi ha hol ho hd
  have c1 : (i : Int) < (n : Int) := by omega
  have c2 : out.length < 3518437208883 := by omega
  have hi63 : i < 9223372036854775807 := by omega
  obtain ⟨r1, hr1, hg1⟩ := Get l hb hl a ha
  rcases hg1 with ⟨e, he, rfl⟩ | ⟨u, s1, hu, hd1, rfl⟩
  ·refine ⟨([], e), Ev.succ ?_, .inl ⟨e, he, rfl⟩⟩
   simp only [block_readPlain.l0, if_pos c1]
   refine Ev.bind hr1 ?_
   simp only [if_neg he]
   exact Ev.some_ _
  ·have hle1 := drop_le hd1 (putS_pos u)
   have hds1 := drop_put hd1
   by_cases hk : numK kind = true
   ·obtain ⟨r, hr, ht⟩ := ih (i + 1) (a + (putS u).length) (out ++ [⟨false, unfoldS u, []⟩]) (by omega) hle1 (by rw [List.length_append]; simp [hol]) (fun c hc => by
     rcases List.mem_append.1 hc with hc | hc
     ·exact ho c hc
     ·rw [List.mem_singleton.1 hc]; exact ⟨⟨unfoldS_in hu, by simp⟩, rfl⟩) (by
      rw [plainB_snoc, show plainOne kind (⟨false, unfoldS u, []⟩ : S62) = putS u by unfold plainOne; rw [if_pos hk, fold_unfold]]
      rw [List.append_assoc, hds1, ← hd1]
      exact hd)
    refine ⟨r, Ev.succ ?_, ht⟩
    simp only [block_readPlain.l0, if_pos c1]
    refine Ev.bind hr1 ?_
    simp only [if_true, Number, Option.bind_some, if_pos hk, Unfold hu, if_pos c2, w64i i hi63]
    exact hr
   ·by_cases h200 : (u : Int) > 200
    ·refine ⟨([], 4), Ev.succ ?_, .inl ⟨4, by decide, rfl⟩⟩
     simp only [block_readPlain.l0, if_pos c1]
     refine Ev.bind hr1 ?_
     simp only [if_true, Number, Option.bind_some, if_neg hk, if_pos h200]
     exact Ev.some_ _
    ·obtain ⟨b, hbdef⟩ : ∃ b, b = a + (putS u).length := ⟨_, rfl⟩
     rw [← hbdef] at hr1 hle1 hds1
     have hn63 : u < 9223372036854775808 := by omega
     have hl63 : l.length < 9223372036854775808 := by omega
     by_cases hsh : u > l.length - b
     ·have c3 : (u : Int) > ((l.length - b : Nat) : Int) := by omega
      refine ⟨([], 2), Ev.succ ?_, .inl ⟨2, by decide, rfl⟩⟩
      simp only [block_readPlain.l0, if_pos c1]
      refine Ev.bind hr1 ?_
      simp only [if_true, Number, Option.bind_some, if_neg hk, if_neg h200, w64n u hn63, w64s _ _ hle1 hl63, if_pos c3]
      exact Ev.some_ _
     ·obtain ⟨s, hs⟩ : ∃ s, s = (l.drop b).take u := ⟨_, rfl⟩
      have hsl : s.length = u := by rw [hs, List.length_take, List.length_drop]; omega
      have hsum : b + u < 9223372036854775808 := by omega
      have c3 : ¬ (u : Int) > ((l.length - b : Nat) : Int) := by omega
      have c4 : (0 : Int) ≤ (b : Int) := by omega
      have c5 : (b : Int) ≤ ((b + u : Nat) : Int) := by omega
      have c6 : ((b + u : Nat) : Int) ≤ (l.length : Int) := by omega
      have hbu : b + u ≤ l.length := by omega
      have hcl : bytes_Clone.f s = some s := by unfold bytes_Clone.f; rw [if_pos (by omega)]
      obtain ⟨r, hr, ht⟩ := ih (i + 1) (b + u) (out ++ [⟨false, 0, s⟩]) (by omega) hbu (by rw [List.length_append]; simp [hol]) (fun c hc => by
       rcases List.mem_append.1 hc with hc | hc
       ·exact ho c hc
       ·rw [List.mem_singleton.1 hc]; exact ⟨⟨⟨show (-9223372036854775808 : Int) ≤ 0 by decide, show (0 : Int) < 9223372036854775808 by decide⟩, by show s.length ≤ 200; omega⟩, rfl⟩) (by
        rw [plainB_snoc, show plainOne kind (⟨false, 0, s⟩ : S62) = putS u ++ s by unfold plainOne; rw [if_neg hk, hsl]]
        rw [List.append_assoc, List.append_assoc, hs, ← piece_split, hds1, ← hd1]
        exact hd)
      refine ⟨r, Ev.succ ?_, ht⟩
      simp only [block_readPlain.l0, if_pos c1]
      refine Ev.bind hr1 ?_
      simp only [if_true, Number, Option.bind_some, if_neg hk, if_neg h200, w64n u hn63, w64s _ _ hle1 hl63, if_neg c3, if_pos c4, w64a b u hsum, if_pos c5, if_pos c6, Int.toNat_natCast, piece, ← hs, hcl, if_pos c2, w64i i hi63]
      exact hr
theorem readPlain (kind : Int) (l : List Int) (hb : Bytes l) (hl : l.length ≤ 140737488355328) (n : Nat) (hn : n ≤ 4096) :
 ∃ r, Ev (fun k => block_readPlain.f k kind l (n : Int)) r ∧ Told r fun cs => cs.length = n ∧ (∀ c ∈ cs, PlainOk c ∧ c.f0 = false) ∧ l = plainB kind cs :=
 readPlain_l0 kind l hb hl n hn n 0 0 [] rfl (by omega) rfl (by simp) (by simp [plainB])
def BodyOf (kind codec : Int) (l : List Int) (vs : List S62) : Prop := (∀ c ∈ vs, c.f0 = false) ∧ ∀ cs : List S62, cs.length ≤ 4096 → there cs = vs → Ev (fun k => block_body.f k kind codec cs) (l, 0)
theorem f1_cN (vs : List Int) : (vs.map cN).map (·.f1) = vs := by rw [List.map_map]; exact (List.map_congr_left (fun _ _ => rfl)).trans (List.map_id' _)
theorem f2_cT (vs : List (List Int)) : (vs.map cT).map (·.f2) = vs := by rw [List.map_map]; exact (List.map_congr_left (fun _ _ => rfl)).trans (List.map_id' _)
def ToldB {α : Type} (r : List α × Int) (Q : List α → Prop) : Prop := (∃ e xs, e ≠ 0 ∧ r = (xs, e)) ∨ ∃ xs, r = (xs, 0) ∧ Q xs
theorem bodyEnd (vs : List S62) (n : Nat) (Q : List S62 → Prop) (e : Int) (h : e = 0 → Q vs) : ∃ r, Ev (fun _ => (if e = 0 then (if (vs.length : Int) = (n : Int) then (some (vs, e)) else (some (vs, 5))) else (some (vs, e)))) r ∧ ToldB r fun vs => vs.length = n ∧ Q vs := by
 by_cases he : e = 0
 ·subst he
  by_cases hln : (vs.length : Int) = (n : Int)
  ·exact ⟨(vs, 0), by simp only [if_true, if_pos hln]; exact Ev.some_ _, .inr ⟨vs, rfl, by omega, h rfl⟩⟩
  ·exact ⟨(vs, 5), by simp only [if_true, if_neg hln]; exact Ev.some_ _, .inl ⟨5, vs, by decide, rfl⟩⟩
 ·exact ⟨(vs, e), by simp only [if_neg he]; exact Ev.some_ _, .inl ⟨e, vs, he, rfl⟩⟩
theorem readBody (kind codec : Int) (hc : codec = 1 ∨ codec = 2 ∨ codec = 3 ∨ codec = 4 ∨ codec = 5) (l : List Int) (hb : Bytes l) (hl : l.length ≤ 140737488355328) (n : Nat) (hn : n ≤ 4096) :
 ∃ r, Ev (fun k => block_readBodyV.f k kind codec l (n : Int)) r ∧ ToldB r fun vs => vs.length = n ∧ BodyOf kind codec l vs := by
 unfold block_readBodyV.f block_readBody.f
 have numbersCase : ∀ (dec : Nat → Option (List Int × Int)) (r : List Int × Int), Ev dec r → (Told r fun vs => vs.length ≤ 4096 ∧ BodyOf kind codec l (vs.map cN)) → ∃ q, Ev (fun k => (dec k).bind fun bt601 => ((block_fromNumbers.f k bt601.1 bt601.2).bind fun bt605 => (if bt605.2 = 0 then (if (bt605.1.length : Int) = (n : Int) then (some (bt605.1, bt605.2)) else (some (bt605.1, 5))) else (some (bt605.1, bt605.2))))) q ∧ ToldB q fun vs => vs.length = n ∧ BodyOf kind codec l vs := by
  intro dec r hr ht
  rcases ht with ⟨e, he, rfl⟩ | ⟨vs, rfl, h1, h2⟩
  ·obtain ⟨q, hq, ht⟩ := bodyEnd ([] : List S62) n (BodyOf kind codec l) e (fun h => absurd h he)
   exact ⟨q, Ev.bind hr (Ev.bind (fromNumbers [] e (by simp)) hq), ht⟩
  ·obtain ⟨q, hq, ht⟩ := bodyEnd (vs.map cN) n (BodyOf kind codec l) 0 (fun _ => h2)
   exact ⟨q, Ev.bind hr (Ev.bind (fromNumbers vs 0 h1) hq), ht⟩
 have textsCase : ∀ (dec : Nat → Option (List (List Int) × Int)) (r : List (List Int) × Int), Ev dec r → (Told r fun vs => vs.length ≤ 4096 ∧ BodyOf kind codec l (vs.map cT)) → ∃ q, Ev (fun k => (dec k).bind fun bt601 => ((block_fromTexts.f k bt601.1 bt601.2).bind fun bt605 => (if bt605.2 = 0 then (if (bt605.1.length : Int) = (n : Int) then (some (bt605.1, bt605.2)) else (some (bt605.1, 5))) else (some (bt605.1, bt605.2))))) q ∧ ToldB q fun vs => vs.length = n ∧ BodyOf kind codec l vs := by
  intro dec r hr ht
  rcases ht with ⟨e, he, rfl⟩ | ⟨vs, rfl, h1, h2⟩
  ·obtain ⟨q, hq, ht⟩ := bodyEnd ([] : List S62) n (BodyOf kind codec l) e (fun h => absurd h he)
   exact ⟨q, Ev.bind hr (Ev.bind (fromTexts [] e (by simp)) hq), ht⟩
  ·obtain ⟨q, hq, ht⟩ := bodyEnd (vs.map cT) n (BodyOf kind codec l) 0 (fun _ => h2)
   exact ⟨q, Ev.bind hr (Ev.bind (fromTexts vs 0 h1) hq), ht⟩
 have allN : ∀ vs : List Int, ∀ c ∈ vs.map cN, c.f0 = false := fun vs c hc => by obtain ⟨v, _, rfl⟩ := List.mem_map.1 hc; rfl
 have allT : ∀ vs : List (List Int), ∀ c ∈ vs.map cT, c.f0 = false := fun vs c hc => by obtain ⟨v, _, rfl⟩ := List.mem_map.1 hc; rfl
 rcases hc with rfl | rfl | rfl | rfl | rfl
 ·obtain ⟨r, hr, ht⟩ := readPlain kind l hb hl n hn
  refine ⟨r, ?_, ?_⟩
  ·simp only [if_true]
   exact Ev.bind hr (Ev.some_ _)
  ·rcases ht with ⟨e, he, rfl⟩ | ⟨cs, rfl, h1, h2, h3⟩
   ·exact .inl ⟨e, [], he, rfl⟩
   ·refine .inr ⟨cs, rfl, h1, fun c hc => (h2 c hc).2, fun cs' hl' ht => ?_⟩
    unfold block_body.f
    simp only [if_neg (show ¬ (1 : Int) = 2 by decide), if_neg (show ¬ (1 : Int) = 3 by decide), if_neg (show ¬ (1 : Int) = 4 by decide), if_neg (show ¬ (1 : Int) = 5 by decide)]
    refine Ev.bind (plain kind cs' hl' (fun c hc => by rw [ht] at hc; exact (h2 c hc).1)) ?_
    rw [ht, ← h3]
    exact Ev.some_ _
 ·obtain ⟨r, hr, ht⟩ := runsDecode l hb hl
  simp only [if_neg (show ¬ (2 : Int) = 1 by decide), if_true]
  refine numbersCase _ r hr ?_
  rcases ht with ht | ⟨vs, rfl, h1, h2, h3⟩
  ·exact .inl ht
  ·refine .inr ⟨vs, rfl, h1, allN vs, fun cs hl' ht => ?_⟩
   unfold block_body.f
   simp only [if_true]
   refine Ev.bind (numbers cs hl') ?_
   rw [ht, f1_cN]
   refine Ev.bind (runsEncode vs h2 h1) ?_
   rw [← h3]
   exact Ev.some_ _
 ·obtain ⟨r, hr, ht⟩ := packDecode l hb hl
  simp only [if_neg (show ¬ (3 : Int) = 1 by decide), if_neg (show ¬ (3 : Int) = 2 by decide), if_true]
  refine numbersCase _ r hr ?_
  rcases ht with ht | ⟨vs, rfl, h1, h2, h3⟩
  ·exact .inl ht
  ·refine .inr ⟨vs, rfl, h1, allN vs, fun cs hl' ht => ?_⟩
   unfold block_body.f
   simp only [if_neg (show ¬ (3 : Int) = 2 by decide), if_true]
   refine Ev.bind (numbers cs hl') ?_
   rw [ht, f1_cN]
   refine Ev.bind (packEncode vs h2 h1) ?_
   rw [← h3]
   exact Ev.some_ _
 ·obtain ⟨r, hr, ht⟩ := dictDecode l hb hl
  simp only [if_neg (show ¬ (4 : Int) = 1 by decide), if_neg (show ¬ (4 : Int) = 2 by decide), if_neg (show ¬ (4 : Int) = 3 by decide), if_true]
  refine textsCase _ r hr ?_
  rcases ht with ht | ⟨vs, rfl, E, us, h1, h2, h3⟩
  ·exact .inl ht
  ·refine .inr ⟨vs, rfl, by rw [h1, textsOf, List.length_map]; exact h2.len, allT vs, fun cs hl' ht => ?_⟩
   unfold block_body.f
   simp only [if_neg (show ¬ (4 : Int) = 2 by decide), if_neg (show ¬ (4 : Int) = 3 by decide), if_true]
   refine Ev.bind (texts cs hl') ?_
   rw [ht, f2_cT, h1]
   refine Ev.bind (dictEncode E us h2) ?_
   rw [← h3]
   exact Ev.some_ _
 ·obtain ⟨r, hr, ht⟩ := prefDecode l hb hl
  simp only [if_neg (show ¬ (5 : Int) = 1 by decide), if_neg (show ¬ (5 : Int) = 2 by decide), if_neg (show ¬ (5 : Int) = 3 by decide), if_neg (show ¬ (5 : Int) = 4 by decide)]
  refine textsCase _ r hr ?_
  rcases ht with ht | ⟨vs, rfl, h1, h2, h3⟩
  ·exact .inl ht
  ·refine .inr ⟨vs, rfl, h1, allT vs, fun cs hl' ht => ?_⟩
   unfold block_body.f
   simp only [if_neg (show ¬ (5 : Int) = 2 by decide), if_neg (show ¬ (5 : Int) = 3 by decide), if_neg (show ¬ (5 : Int) = 4 by decide), if_true]
   refine Ev.bind (texts cs hl') ?_
   rw [ht, f2_cT]
   refine Ev.bind (prefEncode vs (fun s hs => (h2 s hs).1) h1) ?_
   rw [← h3]
   exact Ev.some_ _
def stepS (s : Int) : Int := if Go.bits .and .u32 s 1 = 0 then s / 2 else Go.bits .xor .u32 (s / 2) 2197175160
def stepsS : Nat → Int → Int
 | 0, s => s
 | n + 1, s => stepsS n (stepS s)
def feedS (s c : Int) : Int := stepsS 8 (Go.bits .xor .u32 s (c % 4294967296))
def sumS (l : List Int) : Int := Go.bits .xor .u32 4294967295 (l.foldl feedS (Go.bits .xor .u32 4294967295 0))
def sealS (l : List Int) : List Int := l ++ tail4 (sumS l)
theorem step_eq (s : Int) : crc_step.f s = some (stepS s) := by unfold crc_step.f stepS; split <;> rfl
theorem feed_l0 : ∀ (d i : Nat) (s : Int), d + i = 8 → Ev (fun k => crc_feed.l0 k s (i : Int)) (stepsS d s) := by
 intro d
 induction d with
 | zero =>
  intro i s hi
  refine Ev.succ ?_
  simp only [crc_feed.l0, if_neg (show ¬ (i : Int) < 8 by omega)]
  exact Ev.some_ _
 | succ d ih =>
  intro i s hi
  refine Ev.succ ?_
  simp only [crc_feed.l0, if_pos (show (i : Int) < 8 by omega), step_eq, Option.bind_some, w64i i (by omega)]
  exact ih (i + 1) _ (by omega)
theorem feed (s c : Int) : Ev (fun k => crc_feed.f k s c) (feedS s c) := feed_l0 8 0 _ rfl
theorem Extend_l0 (l : List Int) (hl : l.length ≤ 140737488355328) (s0 : Int) : ∀ (d i : Nat), d + i = l.length → Ev (fun k => crc_Extend.l0 k ((l.take i).foldl feedS s0) l (l.length : Int) (i : Int)) (Go.bits .xor .u32 4294967295 (l.foldl feedS s0)) := by
 intro d
 induction d with
 | zero =>
  intro i hi
  refine Ev.succ ?_
  simp only [crc_Extend.l0, if_neg (show ¬ (i : Int) < (l.length : Int) by omega)]
  rw [List.take_of_length_le (by omega)]
  exact Ev.some_ _
 | succ d ih =>
  intro i hi
  have hih := ih (i + 1) (by omega)
  rw [take_succ_rd l i (by omega), List.foldl_append] at hih
  refine Ev.succ ?_
  simp only [crc_Extend.l0, if_pos (show (i : Int) < (l.length : Int) by omega), if_pos (show (0 : Int) ≤ (i : Int) by omega), w64i i (by omega)]
  exact Ev.bind (feed _ _) hih
theorem Sum1 (l : List Int) (hl : l.length ≤ 140737488355328) : Ev (fun k => crc_Sum.f k [l]) (sumS l) := by
 have hE : Ev (fun k => crc_Extend.f k 0 l) (sumS l) := Extend_l0 l hl _ l.length 0 rfl
 unfold crc_Sum.f
 refine Ev.succ ?_
 simp only [crc_Sum.l0, List.length_singleton, if_pos (show (0 : Int) < ((1 : Nat) : Int) by decide), if_pos (show (0 : Int) ≤ 0 from Int.le_refl 0), show rd_L1 [l] 0 = l from rfl, show wrap64 ((0 : Int) + 1) = 1 from w64i 0 (by omega)]
 refine Ev.bind hE ?_
 refine Ev.succ ?_
 simp only [crc_Sum.l0, if_neg (show ¬ (1 : Int) < ((1 : Nat) : Int) by decide)]
 exact Ev.some_ _
theorem Seal (l : List Int) (hl : l.length ≤ 140737488355320) : Ev (fun k => crc_Seal.f k l) (sealS l) := by
 unfold crc_Seal.f
 simp only [if_pos hl]
 exact Ev.bind (Sum1 l (by omega)) (Ev.some_ _)
theorem Sealed (l : List Int) (hl : l.length ≤ 140737488355328) : Ev (fun k => crc_Sealed.f k l) (if 4 ≤ l.length then decide (tail4 (sumS (l.take (l.length - 4))) = l.drop (l.length - 4)) else false) := by
 unfold crc_Sealed.f
 by_cases h : 4 ≤ l.length
 ·simp only [if_pos h]
  exact Ev.bind (Sum1 _ (by rw [List.length_take]; omega)) (Ev.some_ _)
 ·simp only [if_neg h]
  exact Ev.some_ _
theorem known_some (kind : Int) : ∃ b, cell_known.f kind = some b := by unfold cell_known.f; split <;> exact ⟨_, rfl⟩
theorem holds_some (kind v : Int) : ∃ b, cell_holds.f kind v = some b := by
 unfold cell_holds.f
 split
 ·exact ⟨_, rfl⟩
 split
 ·exact ⟨_, rfl⟩
 split
 ·unfold bits_Narrow.f
  split
  ·exact ⟨_, rfl⟩
  split
  ·exact ⟨_, rfl⟩
  split
  ·exact ⟨_, rfl⟩
  split
  ·exact ⟨_, rfl⟩
  ·exact ⟨_, rfl⟩
 ·rename_i h
  rw [u64_wrap] at h
  omega
theorem text_some (kind : Int) (l : List Int) : ∃ b, cell_text.f kind l = some b := by
 unfold cell_text.f
 split
 ·exact ⟨_, rfl⟩
 split
 ·unfold bytes_IndexByte.f
  simp only [Option.bind_some]
  split <;> exact ⟨_, rfl⟩
 ·exact ⟨_, rfl⟩
theorem Check_j3 (kind : Int) (x : Bool) (a : Bool) (v : Int) (l : List Int) : ∃ c, Ev (fun k => cell_Check.j3 k kind x a v l) c := by
 obtain ⟨h, hh⟩ := holds_some kind v
 obtain ⟨t, ht⟩ := text_some kind l
 cases x with
 | true => exact ⟨50, Ev.succ (by simp only [cell_Check.j3, if_true]; exact Ev.some_ _)⟩
 | false =>
  by_cases hn : numK kind = true
  ·cases h with
   | true => exact ⟨0, Ev.succ (by simp only [cell_Check.j3, if_neg Bool.false_ne_true, Number, Option.bind_some, if_pos hn, hh, if_true]; exact Ev.some_ _)⟩
   | false => exact ⟨52, Ev.succ (by simp only [cell_Check.j3, if_neg Bool.false_ne_true, Number, Option.bind_some, if_pos hn, hh]; exact Ev.some_ _)⟩
  ·exact ⟨t, Ev.succ (by simp only [cell_Check.j3, if_neg Bool.false_ne_true, Number, Option.bind_some, if_neg hn, ht]; exact Ev.some_ _)⟩
theorem Check_j2 (kind : Int) (x : Bool) (a : Bool) (v : Int) (l : List Int) : ∃ c, Ev (fun k => cell_Check.j2 k kind x a v l) c := by
 cases x with
 | true =>
  obtain ⟨c, hc⟩ := Check_j3 kind true a v l
  exact ⟨c, Ev.succ (by simp only [cell_Check.j2, if_true]; exact hc)⟩
 | false =>
  by_cases hn : numK kind = true
  ·obtain ⟨c, hc⟩ := Check_j3 kind false a v l
   exact ⟨c, Ev.succ (by simp only [cell_Check.j2, if_neg Bool.false_ne_true, Number, Option.bind_some, if_pos hn]; exact hc)⟩
  ·obtain ⟨c, hc⟩ := Check_j3 kind (v != 0) a v l
   exact ⟨c, Ev.succ (by simp only [cell_Check.j2, if_neg Bool.false_ne_true, Number, Option.bind_some, if_neg hn]; exact hc)⟩
theorem Check_j1 (kind : Int) (x : Bool) (a : Bool) (v : Int) (l : List Int) : ∃ c, Ev (fun k => cell_Check.j1 k kind x a v l) c := by
 cases x with
 | true => exact ⟨50, Ev.succ (by simp only [cell_Check.j1, if_true]; exact Ev.some_ _)⟩
 | false =>
  cases a with
  | true => exact ⟨0, Ev.succ (by simp only [cell_Check.j1, if_neg Bool.false_ne_true, if_true]; exact Ev.some_ _)⟩
  | false =>
   by_cases hn : numK kind = true
   ·obtain ⟨c, hc⟩ := Check_j2 kind (decide ((l.length : Int) > 0)) false v l
    exact ⟨c, Ev.succ (by simp only [cell_Check.j1, if_neg Bool.false_ne_true, Number, Option.bind_some, if_pos hn]; exact hc)⟩
   ·obtain ⟨c, hc⟩ := Check_j2 kind false false v l
    exact ⟨c, Ev.succ (by simp only [cell_Check.j1, if_neg Bool.false_ne_true, Number, Option.bind_some, if_neg hn]; exact hc)⟩
theorem Check_j0 (kind : Int) (x : Bool) (a : Bool) (v : Int) (l : List Int) : ∃ c, Ev (fun k => cell_Check.j0 k kind x a v l) c := by
 cases x with
 | true => exact ⟨51, Ev.succ (by simp only [cell_Check.j0, if_true]; exact Ev.some_ _)⟩
 | false =>
  cases a with
  | true =>
   by_cases hv : v = 0
   ·obtain ⟨c, hc⟩ := Check_j1 kind (decide ((l.length : Int) > 0)) true v l
    exact ⟨c, Ev.succ (by simp only [cell_Check.j0, if_neg Bool.false_ne_true, if_true, if_pos hv]; exact hc)⟩
   ·obtain ⟨c, hc⟩ := Check_j1 kind true true v l
    exact ⟨c, Ev.succ (by simp only [cell_Check.j0, if_neg Bool.false_ne_true, if_true, if_neg hv]; exact hc)⟩
  | false =>
   obtain ⟨c, hc⟩ := Check_j1 kind false false v l
   exact ⟨c, Ev.succ (by simp only [cell_Check.j0, if_neg Bool.false_ne_true]; exact hc)⟩
theorem Check_ends (kind : Int) (b a : Bool) (v : Int) (l : List Int) : ∃ c, Ev (fun k => cell_Check.f k kind b a v l) c := by
 obtain ⟨t, ht⟩ := known_some kind
 unfold cell_Check.f
 cases t with
 | false => exact ⟨1, by simp only [ht, Option.bind_some, if_neg Bool.false_ne_true]; exact Ev.some_ _⟩
 | true =>
  cases a with
  | true =>
   obtain ⟨c, hc⟩ := Check_j0 kind (!b) true v l
   exact ⟨c, by simp only [ht, Option.bind_some, if_true]; exact hc⟩
  | false =>
   obtain ⟨c, hc⟩ := Check_j0 kind false false v l
   exact ⟨c, by simp only [ht, Option.bind_some, if_true, if_neg Bool.false_ne_true]; exact hc⟩
theorem check_l0 (kind : Int) (cs : List S62) (hl : cs.length ≤ 140737488355328) : ∀ (d i : Nat), d + i = cs.length → ∃ c, Ev (fun k => block_check.l0 k kind cs (cs.length : Int) (i : Int)) c := by
 intro d
 induction d with
 | zero =>
  intro i hi
  exact ⟨0, Ev.succ (by simp only [block_check.l0, if_neg (show ¬ (i : Int) < (cs.length : Int) by omega)]; exact Ev.some_ _)⟩
 | succ d ih =>
  intro i hi
  obtain ⟨e, he⟩ := Check_ends kind true (rd_T62 cs (i : Int)).f0 (rd_T62 cs (i : Int)).f1 (rd_T62 cs (i : Int)).f2
  obtain ⟨c, hc⟩ := ih (i + 1) (by omega)
  have c1 : (i : Int) < (cs.length : Int) := by omega
  have c2 : (0 : Int) ≤ (i : Int) := by omega
  have hw := w64i i (by omega)
  by_cases h0 : e = 0
  ·refine ⟨c, Ev.succ ?_⟩
   simp only [block_check.l0, if_pos c1, if_pos c2, hw]
   refine Ev.bind he ?_
   simp only [if_pos h0]
   exact hc
  ·refine ⟨e, Ev.succ ?_⟩
   simp only [block_check.l0, if_pos c1, if_pos c2, hw]
   refine Ev.bind he ?_
   simp only [if_neg h0]
   exact Ev.some_ _
theorem check_ends (kind : Int) (cs : List S62) (hl : cs.length ≤ 140737488355328) : ∃ c, Ev (fun k => block_check.f k kind cs) c := by
 unfold block_check.f
 by_cases h : (cs.length : Int) > 4096
 ·exact ⟨4, by simp only [if_pos h]; exact Ev.some_ _⟩
 ·obtain ⟨c, hc⟩ := check_l0 kind cs hl cs.length 0 rfl
  exact ⟨c, by simp only [if_neg h]; exact hc⟩
def blockS (codec : Int) (us : List Nat) (body : List Int) : List Int := codec :: (putS us.length ++ (nullB us ++ body))
theorem write (kind codec : Int) (hc : 0 ≤ codec ∧ codec ≤ 255) (cs : List S62) (hl : cs.length ≤ 4096) (body : List Int) (hbody : Ev (fun k => block_body.f k kind codec cs) (body, 0)) (hlen : (blockS codec (bitsOf cs) body).length + 4 ≤ 65000) :
 Ev (fun k => block_write.f k kind codec cs) (sealS (blockS codec (bitsOf cs) body), 0) := by
 have hbl : (bitsOf cs).length = cs.length := by simp [bitsOf]
 have h10 := putS_len10 (n := cs.length) (by omega)
 simp only [blockS, hbl, List.length_cons, List.length_append] at hlen
 have hn64 : cs.length < 18446744073709551616 := by omega
 have hcm : codec % 256 = codec := by omega
 have c1 : ([codec] : List Int).length + (putS cs.length).length < 140737488355328 := by simp only [List.length_singleton]; omega
 have c2 : ([codec] ++ putS cs.length : List Int).length + (nullB (bitsOf cs)).length < 140737488355328 := by simp only [List.length_append, List.length_singleton]; omega
 have c3 : ([codec] ++ putS cs.length ++ nullB (bitsOf cs) : List Int).length + body.length < 140737488355328 := by simp only [List.length_append, List.length_singleton]; omega
 have b1 : ([codec] ++ putS cs.length ++ nullB (bitsOf cs) : List Int).length + body.length < 9223372036854775808 := by omega
 have b2 : ([codec] ++ putS cs.length ++ nullB (bitsOf cs) : List Int).length + body.length + 4 < 9223372036854775808 := by simp only [List.length_append, List.length_singleton]; omega
 have c4 : ¬ ((([codec] ++ putS cs.length ++ nullB (bitsOf cs) : List Int).length + body.length + 4 : Nat) : Int) > 65000 := by simp only [List.length_append, List.length_singleton]; omega
 have hS := Seal ([codec] ++ putS cs.length ++ nullB (bitsOf cs) ++ body) (by simp only [List.length_append, List.length_singleton]; omega)
 have hform : [codec] ++ putS cs.length ++ nullB (bitsOf cs) ++ body = blockS codec (bitsOf cs) body := by simp [blockS, hbl]
 have hu := u64n cs.length hn64
 have e1 : wrap64 ((wrap64 ((([codec] ++ putS cs.length ++ nullB (bitsOf cs) : List Int).length : Int) + (body.length : Int))) + 4) = ((([codec] ++ putS cs.length ++ nullB (bitsOf cs) : List Int).length + body.length + 4 : Nat) : Int) := by
  rw [w64a _ _ b1]
  exact w64a _ 4 b2
 unfold block_write.f
 simp only [Option.bind_some, hu, hcm]
 refine Ev.bind (Put _ hn64) ?_
 simp only [if_pos c1]
 refine Ev.bind (nulls cs hl) ?_
 simp only [if_pos c2]
 refine Ev.bind hbody ?_
 simp only [if_true, e1, decide_eq_false c4]
 refine Ev.succ ?_
 simp only [block_write.j0, if_neg Bool.false_ne_true, if_true, if_pos c3]
 refine Ev.bind hS ?_
 rw [hform]
 exact Ev.some_ _
theorem badKind (kind : Int) : block_badKind.f kind = some (decide (kind < 1 ∨ kind > 8)) := by
 unfold block_badKind.f
 by_cases h : kind < 1
 ·rw [if_pos h, decide_eq_true (.inl h)]
 ·rw [if_neg h]
  congr 1
  simp only [decide_eq_decide]
  omega
theorem Encode (kind codec : Int) (hk : 1 ≤ kind ∧ kind ≤ 8) (hf : fitsS kind codec = true) (cs : List S62) (hcheck : Ev (fun k => block_check.f k kind cs) 0) (r : List Int × Int) (hw : Ev (fun k => block_write.f k kind codec cs) r) : Ev (fun k => block_Encode.f k kind codec cs) r := by
 unfold block_Encode.f
 simp only [badKind, Option.bind_some, decide_eq_false (show ¬ (kind < 1 ∨ kind > 8) by omega), if_neg Bool.false_ne_true]
 refine Ev.bind (fits kind codec) ?_
 simp only [hf, if_true]
 refine Ev.bind hcheck ?_
 simp only [if_true]
 exact Ev.bind hw (Ev.some_ _)
def zc (us : List Nat) : Nat := (us.map fun u => 1 - u).sum
def merge : List Nat → List S62 → List S62
 | [], _ => []
 | u :: us, vs => if u = 0 then vs.headD z62 :: merge us vs.tail else ⟨true, 0, []⟩ :: merge us vs
theorem merge_len : ∀ (us : List Nat) (vs : List S62), (merge us vs).length = us.length := by
 intro us
 induction us with
 | nil => intro vs; rfl
 | cons u us ih => intro vs; simp only [merge]; split <;> simp [ih]
theorem merge_there : ∀ (us : List Nat) (vs : List S62), (∀ u ∈ us, u < 2) → (∀ v ∈ vs, v.f0 = false) → vs.length = zc us → there (merge us vs) = vs ∧ bitsOf (merge us vs) = us := by
 intro us
 induction us with
 | nil =>
  intro vs _ _ h
  simp [zc] at h
  subst h
  exact ⟨rfl, rfl⟩
 | cons u us ih =>
  intro vs hu hv h
  have hu2 := hu u (by simp)
  have hus : ∀ x ∈ us, x < 2 := fun x hx => hu x (by simp [hx])
  simp only [zc, List.map_cons, List.sum_cons] at h
  simp only [merge]
  by_cases h0 : u = 0
  ·subst h0
   cases vs with
   | nil => simp at h; omega
   | cons v vs =>
    have hv0 := hv v (by simp)
    obtain ⟨h1, h2⟩ := ih vs hus (fun x hx => hv x (by simp [hx])) (by simp only [List.length_cons] at h; unfold zc; omega)
    simp only [if_true, List.headD_cons, List.tail_cons]
    refine ⟨?_, ?_⟩
    ·show (v :: merge us vs).filter _ = _
     rw [List.filter_cons, hv0]
     simp only [Bool.not_false, if_true]
     congr 1
    ·show nullN v :: bitsOf (merge us vs) = _
     rw [h2]
     unfold nullN
     rw [hv0]
     rfl
  ·have h1 : u = 1 := by omega
   subst h1
   obtain ⟨h1, h2⟩ := ih vs hus hv (by unfold zc; omega)
   simp only [if_neg h0]
   refine ⟨?_, ?_⟩
   ·show ((⟨true, 0, []⟩ : S62) :: merge us vs).filter _ = _
    rw [List.filter_cons]
    simp only [Bool.not_true, if_neg Bool.false_ne_true]
    exact h1
   ·show nullN ⟨true, 0, []⟩ :: bitsOf (merge us vs) = _
    rw [h2]
    rfl
theorem decL1 (kind : Int) (us : List Nat) (hl : us.length ≤ 4096) (hu : ∀ u ∈ us, u < 2) (r : List S62 × Int) : ∀ (us2 us1 : List Nat) (vs2 pre : List S62), us = us1 ++ us2 → pre.length = us1.length → vs2.length = zc us2 →
 Ev (fun k => (block_check.f k kind (pre ++ merge us2 vs2)).bind fun t675 => (if t675 = 0 then (some (pre ++ merge us2 vs2, 0)) else (some (([] : List (S62)), t675)))) r →
 Ev (fun k => block_Decode.l1 k kind vs2 (pre ++ List.replicate us2.length z62) (ints us) (us.length : Int) (us1.length : Int)) r := by
 intro us2
 induction us2 with
 | nil =>
  intro us1 vs2 pre he hp hv hr
  have hle : us1.length = us.length := by rw [he]; simp
  refine Ev.succ ?_
  simp only [block_Decode.l1, if_neg (show ¬ (us1.length : Int) < (us.length : Int) by omega)]
  exact hr
 | cons u us2 ih =>
  intro us1 vs2 pre he hp hv hr
  have hlen : us.length = us1.length + (us2.length + 1) := by rw [he]; simp
  have hrd : rd (ints us) (us1.length : Int) = (u : Int) := by rw [ints_rd, he]; simp
  have hu2 := hu u (by rw [he]; simp)
  have c1 : (us1.length : Int) < (us.length : Int) := by omega
  have c2 : (0 : Int) ≤ (us1.length : Int) := by omega
  have c3 : (us1.length : Int) < (((pre ++ List.replicate (us2.length + 1) z62).length : Nat) : Int) := by simp only [List.length_append, List.length_replicate]; omega
  have hz : rd_T62 (pre ++ List.replicate (us2.length + 1) z62) (us1.length : Int) = z62 := by rw [rdT62_nat, ← hp]; simp
  have hset : ∀ c : S62, (pre ++ List.replicate (us2.length + 1) z62).set us1.length c = (pre ++ [c]) ++ List.replicate us2.length z62 := by
   intro c
   rw [← hp, List.set_append_right _ _ (Nat.le_refl _), Nat.sub_self, List.replicate_succ, List.set_cons_zero, List.append_assoc]
   rfl
  have hset2 : ∀ c c' : S62, ((pre ++ [c]) ++ List.replicate us2.length z62).set us1.length c' = (pre ++ [c']) ++ List.replicate us2.length z62 := by
   intro c c'
   rw [← hp, List.append_assoc, List.set_append_right _ _ (Nat.le_refl _), Nat.sub_self, List.append_assoc]
   rfl
  have hw := w64i us1.length (by omega)
  simp only [zc, List.map_cons, List.sum_cons] at hv
  refine Ev.succ ?_
  simp only [block_Decode.l1, List.length_cons, if_pos c1, if_pos c2, ints_len, if_pos c3, hrd, hz, Option.bind_some, Int.toNat_natCast, hset, hset2, hw]
  simp only [merge] at hr
  by_cases h0 : u = 0
  ·subst h0
   cases vs2 with
   | nil => simp at hv; omega
   | cons v vs2 =>
    simp only [List.length_cons] at hv
    have c4 : (0 : Int) < ((vs2.length + 1 : Nat) : Int) := by omega
    have c5 : (1 : Int) ≤ ((vs2.length + 1 : Nat) : Int) := by omega
    simp only [if_true, List.headD_cons, List.tail_cons] at hr
    have := ih (us1 ++ [0]) vs2 (pre ++ [v]) (by rw [he]; simp) (by simp [hp]) (by unfold zc; omega) (by simpa [List.append_assoc] using hr)
    simp only [if_pos (show ((0 : Nat) : Int) = 0 from rfl), List.length_cons, if_pos c4, if_pos c5, List.drop_succ_cons, List.drop_zero]
    have hv0 : rd_T62 (v :: vs2) 0 = v := rfl
    rw [hv0]
    simp only [List.length_append, List.length_singleton] at this
    exact this
  ·have h1 : u = 1 := by omega
   subst h1
   simp only [if_neg h0] at hr
   have := ih (us1 ++ [1]) vs2 (pre ++ [⟨true, 0, []⟩]) (by rw [he]; simp) (by simp [hp]) (by unfold zc; omega) (by simpa [List.append_assoc] using hr)
   simp only [if_neg (show ¬ ((1 : Nat) : Int) = 0 by decide)]
   simp only [List.length_append, List.length_singleton] at this
   have hb : (((1 : Nat) : Int) == 1) = true := by decide
   rw [hb]
   exact this
theorem zc_snoc (us : List Nat) (u : Nat) : zc (us ++ [u]) = zc us + (1 - u) := by simp [zc]
theorem zc_le (us : List Nat) : zc us ≤ us.length := by
 induction us with
 | nil => simp [zc]
 | cons u us ih => simp only [zc, List.map_cons, List.sum_cons, List.length_cons] at ih ⊢; omega
theorem decL0 (kind codec : Int) (us : List Nat) (hl : us.length ≤ 4096) (hu : ∀ u ∈ us, u < 2) (rest : List Int) (r : List S62 × Int)
 (hr : Ev (fun k => (block_readBodyV.f k kind codec rest (zc us : Int)).bind fun bt659 => (if bt659.2 = 0 then (block_Decode.l1 k kind bt659.1 (List.replicate us.length z62) (ints us) (us.length : Int) 0) else (some (([] : List (S62)), bt659.2)))) r) : ∀ (d i : Nat), d + i = us.length →
 Ev (fun k => block_Decode.l0 k kind codec (us.length : Int) (ints us) rest (zc (us.take i) : Int) (ints us) (us.length : Int) (i : Int)) r := by
 intro d
 induction d with
 | zero =>
  intro i hi
  refine Ev.succ ?_
  simp only [block_Decode.l0, if_neg (show ¬ (i : Int) < (us.length : Int) by omega), ints_len, Int.toNat_natCast, if_pos (show (0 : Int) ≤ (us.length : Int) by omega), if_pos (show us.length ≤ 7036874417766 by omega)]
  rw [List.take_of_length_le (by omega)]
  exact hr
 | succ d ih =>
  intro i hi
  have hlt : i < us.length := by omega
  have hih := ih (i + 1) (by omega)
  have hub := hu _ (getD_mem hlt)
  rw [take_succ_getD us i hlt, zc_snoc] at hih
  have hzl := zc_le (us.take i)
  rw [List.length_take] at hzl
  have c1 : (i : Int) < (us.length : Int) := by omega
  have c2 : (0 : Int) ≤ (i : Int) := by omega
  have hi63 : i < 9223372036854775807 := by omega
  have h1 : 1 - us.getD i 0 < 18446744073709551616 := by omega
  have h2 : 1 - us.getD i 0 < 9223372036854775808 := by omega
  have h3 : zc (us.take i) + (1 - us.getD i 0) < 9223372036854775808 := by omega
  have e0 : (1 : Int) - ((us.getD i 0 : Nat) : Int) = ((1 - us.getD i 0 : Nat) : Int) := by omega
  refine Ev.succ ?_
  simp only [block_Decode.l0, if_pos c1, if_pos c2, ints_len, ints_rd, e0, u64n _ h1, w64n _ h2, w64a _ _ h3, w64i i hi63]
  exact hih
theorem fitsS_codec {kind codec : Int} (h : fitsS kind codec = true) : codec = 1 ∨ codec = 2 ∨ codec = 3 ∨ codec = 4 ∨ codec = 5 := by
 unfold fitsS at h
 split at h
 ·omega
 split at h
 ·omega
 split at h
 ·omega
 ·exact absurd h Bool.false_ne_true
theorem Decode_got (kind : Int) (l : List Int) (hb : Bytes l) (hl : l.length ≤ 140737488355328) :
 ∃ r, Ev (fun k => block_Decode.f k kind l) r ∧ Told r fun cs => 5 ≤ l.length ∧ Ev (fun k => block_Encode.f k kind (wrap64 (rd l 0)) cs) (l, 0) := by
 have err : ∀ e : Int, e ≠ 0 → Told (([] : List S62), e) fun cs => 5 ≤ l.length ∧ Ev (fun k => block_Encode.f k kind (wrap64 (rd l 0)) cs) (l, 0) := fun e he => .inl ⟨e, he, rfl⟩
 by_cases hk : kind < 1 ∨ kind > 8
 ·refine ⟨([], 1), ?_, err 1 (by decide)⟩
  unfold block_Decode.f
  simp only [badKind, Option.bind_some, decide_eq_true hk, if_true]
  exact Ev.some_ _
 have stepK : ∀ q, Ev (fun k => (if (l.length : Int) > 65000 then (some (([] : List (S62)), 4)) else ((crc_Sealed.f k l).bind fun t634 => (if t634 = true then (if (l.length : Int) = 4 then (some (([] : List (S62)), 2)) else (if 0 < (l.length : Int) then ((block_fits.f k kind (wrap64 (rd l 0))).bind fun t636 => (if t636 = true then (if 0 ≤ (wrap64 ((l.length : Int) - 4)) then (if (wrap64 ((l.length : Int) - 4)) ≤ (l.length : Int) then ((some (l.take ((wrap64 ((l.length : Int) - 4)) : Int).toNat : List Int)).bind fun y638 => ((vint_Get.f k y638 1).bind fun bt643 => (if bt643.2.2 = 0 then (if bt643.1 > 4096 then (some (([] : List (S62)), 4)) else (if 0 ≤ bt643.2.1 then (if bt643.2.1 ≤ (y638.length : Int) then ((block_readNulls.f k (y638.drop (bt643.2.1 : Int).toNat) (wrap64 (bt643.1))).bind fun bt651 => (if bt651.2.2 = 0 then (block_Decode.l0 k kind (wrap64 (rd l 0)) bt643.1 bt651.1 bt651.2.1 0 bt651.1 (bt651.1.length : Int) 0) else (some (([] : List (S62)), bt651.2.2)))) else (none)) else (none))) else (some (([] : List (S62)), bt643.2.2))))) else (none)) else (none)) else (some (([] : List (S62)), 120)))) else (none))) else (some (([] : List (S62)), 6)))))) q → Ev (fun k => block_Decode.f k kind l) q := by
  intro q hq
  unfold block_Decode.f
  simp only [badKind, Option.bind_some, decide_eq_false hk, if_neg Bool.false_ne_true]
  simp only [Option.bind_some] at hq
  exact hq
 by_cases hlong : (l.length : Int) > 65000
 ·refine ⟨([], 4), stepK _ ?_, err 4 (by decide)⟩
  simp only [if_pos hlong]
  exact Ev.some_ _
 have hS := Sealed l hl
 by_cases hseal : ¬ (if 4 ≤ l.length then decide (tail4 (sumS (l.take (l.length - 4))) = l.drop (l.length - 4)) else false) = true
 ·refine ⟨([], 6), stepK _ ?_, err 6 (by decide)⟩
  simp only [if_neg hlong]
  refine Ev.bind hS ?_
  simp only [if_neg hseal]
  exact Ev.some_ _
 replace hseal := Decidable.not_not.1 hseal
 have h4 : 4 ≤ l.length := by
  refine Decidable.byContradiction fun h => ?_
  rw [if_neg h] at hseal
  exact Bool.false_ne_true hseal
 have htail : tail4 (sumS (l.take (l.length - 4))) = l.drop (l.length - 4) := by
  rw [if_pos h4] at hseal
  exact of_decide_eq_true hseal
 by_cases h44 : (l.length : Int) = 4
 ·refine ⟨([], 2), stepK _ ?_, err 2 (by decide)⟩
  simp only [if_neg hlong]
  refine Ev.bind hS ?_
  simp only [if_pos hseal, if_pos h44]
  exact Ev.some_ _
 have h5 : 5 ≤ l.length := by omega
 obtain ⟨c, hc0, hc1, hrd⟩ : ∃ c : Nat, c ≤ 255 ∧ (c : Int) ≤ 255 ∧ rd l 0 = (c : Int) := by
  cases l with
  | nil => simp at h5
  | cons x l =>
   obtain ⟨h0, h1⟩ := hb x (by simp)
   obtain ⟨c, rfl⟩ := Int.eq_ofNat_of_zero_le h0
   exact ⟨c, by omega, h1, rfl⟩
 have hwc : wrap64 (rd l 0) = (c : Int) := by rw [hrd]; exact w64n c (by omega)
 rw [hwc] at stepK ⊢
 have c0 : (0 : Int) < (l.length : Int) := by omega
 cases hfit : fitsS kind (c : Int) with
 | false =>
  refine ⟨([], 120), stepK _ ?_, .inl ⟨120, by decide, rfl⟩⟩
  simp only [if_neg hlong]
  refine Ev.bind hS ?_
  simp only [if_pos hseal, if_neg h44, if_pos c0]
  refine Ev.bind (fits kind c) ?_
  simp only [hfit, if_neg Bool.false_ne_true]
  exact Ev.some_ _
 | true =>
  obtain ⟨y, hy⟩ : ∃ y, y = l.take (l.length - 4) := ⟨_, rfl⟩
  have hyl : y.length = l.length - 4 := by rw [hy, List.length_take]; omega
  have hyb : Bytes y := by rw [hy]; exact hb.take _
  have e4 : wrap64 ((l.length : Int) - 4) = ((l.length - 4 : Nat) : Int) := w64s l.length 4 h4 (by omega)
  have c1 : (0 : Int) ≤ ((l.length - 4 : Nat) : Int) := by omega
  have c2 : ((l.length - 4 : Nat) : Int) ≤ (l.length : Int) := by omega
  have hy1 : 1 ≤ y.length := by omega
  have hyhead : y = (c : Int) :: y.drop 1 := by
   rw [hy]
   cases l with
   | nil => simp at h5
   | cons x l =>
    simp only [List.length_cons] at h5 ⊢
    rw [show l.length + 1 - 4 = l.length - 4 + 1 by omega, List.take_succ_cons, List.drop_succ_cons, List.drop_zero]
    congr 1
  have hyL : y.length ≤ 140737488355328 := by omega
  obtain ⟨r1, hr1, hg1⟩ := Get y hyb hyL 1 hy1
  have stepG : ∀ q, Ev (fun k => (if r1.2.2 = 0 then (if r1.1 > 4096 then (some (([] : List (S62)), 4)) else (if 0 ≤ r1.2.1 then (if r1.2.1 ≤ (y.length : Int) then ((block_readNulls.f k (y.drop (r1.2.1 : Int).toNat) (wrap64 (r1.1))).bind fun bt651 => (if bt651.2.2 = 0 then (block_Decode.l0 k kind (c : Int) r1.1 bt651.1 bt651.2.1 0 bt651.1 (bt651.1.length : Int) 0) else (some (([] : List (S62)), bt651.2.2)))) else (none)) else (none))) else (some (([] : List (S62)), r1.2.2)))) q → Ev (fun k => block_Decode.f k kind l) q := by
   intro q hq
   refine stepK _ ?_
   simp only [if_neg hlong]
   refine Ev.bind hS ?_
   simp only [if_pos hseal, if_neg h44, if_pos c0]
   refine Ev.bind (fits kind c) ?_
   simp only [hfit, if_true, e4, if_pos c1, if_pos c2, Int.toNat_natCast, Option.bind_some, ← hy]
   exact Ev.bind hr1 hq
  rcases hg1 with ⟨e, he, rfl⟩ | ⟨n, s1, hn, hd1, rfl⟩
  ·refine ⟨([], e), stepG _ ?_, .inl ⟨e, he, rfl⟩⟩
   simp only [if_neg he]
   exact Ev.some_ _
  have hle1 := drop_le hd1 (putS_pos n)
  have hds1 := drop_put hd1
  by_cases hm : (n : Int) > 4096
  ·refine ⟨([], 4), stepG _ ?_, .inl ⟨4, by decide, rfl⟩⟩
   simp only [if_true, if_pos hm]
   exact Ev.some_ _
  have hn63 : n < 9223372036854775808 := by omega
  have hn4 : n ≤ 4096 := by omega
  have c3 : (0 : Int) ≤ ((1 + (putS n).length : Nat) : Int) := by omega
  have c4 : ((1 + (putS n).length : Nat) : Int) ≤ (y.length : Int) := by omega
  obtain ⟨r2, hr2, hg2⟩ := readNulls (y.drop (1 + (putS n).length)) (hyb.drop _) (by rw [List.length_drop]; omega) n hn4
  have stepN : ∀ q, Ev (fun k => (if r2.2.2 = 0 then (block_Decode.l0 k kind (c : Int) (n : Int) r2.1 r2.2.1 0 r2.1 (r2.1.length : Int) 0) else (some (([] : List (S62)), r2.2.2)))) q → Ev (fun k => block_Decode.f k kind l) q := by
   intro q hq
   refine stepG _ ?_
   simp only [if_true, if_neg hm, if_pos c3, if_pos c4, Int.toNat_natCast, w64n n hn63]
   exact Ev.bind hr2 hq
  rcases hg2 with ⟨e, xs, ys, he, rfl⟩ | ⟨us, rest, rfl, hul, hu2, hrb, hnull⟩
  ·refine ⟨([], e), stepN _ ?_, .inl ⟨e, he, rfl⟩⟩
   simp only [if_neg he]
   exact Ev.some_ _
  have hzl := zc_le us
  have hrestl : rest.length ≤ y.length := by
   have h1 : (y.drop (1 + (putS n).length)).length = (nullB us).length + rest.length := by rw [hnull, List.length_append]
   rw [List.length_drop] at h1
   omega
  obtain ⟨r3, hr3, hg3⟩ := readBody kind (c : Int) (fitsS_codec hfit) rest hrb (by omega) (zc us) (by omega)
  have stepB : ∀ q, Ev (fun k => (if r3.2 = 0 then (block_Decode.l1 k kind r3.1 (List.replicate us.length z62) (ints us) (us.length : Int) 0) else (some (([] : List (S62)), r3.2)))) q → Ev (fun k => block_Decode.f k kind l) q := by
   intro q hq
   refine stepN _ ?_
   simp only [if_true, ints_len]
   have := decL0 kind (c : Int) us (by omega) hu2 rest q (Ev.bind hr3 hq) us.length 0 rfl
   rw [← hul]
   exact this
  rcases hg3 with ⟨e, xs, he, rfl⟩ | ⟨vs, rfl, hvl, hv0, hbody⟩
  ·refine ⟨([], e), stepB _ ?_, .inl ⟨e, he, rfl⟩⟩
   simp only [if_neg he]
   exact Ev.some_ _
  obtain ⟨hth, hbits⟩ := merge_there us vs hu2 hv0 hvl
  have hml := merge_len us vs
  obtain ⟨e, he⟩ := check_ends kind (merge us vs) (by omega)
  have stepC : ∀ q, Ev (fun k => (block_check.f k kind (merge us vs)).bind fun t675 => (if t675 = 0 then (some (merge us vs, 0)) else (some (([] : List (S62)), t675)))) q → Ev (fun k => block_Decode.f k kind l) q := by
   intro q hq
   refine stepB _ ?_
   simp only [if_true]
   have := decL1 kind us (by omega) hu2 q us [] vs [] rfl rfl hvl (by simpa using hq)
   simpa using this
  by_cases he0 : e = 0
  ·subst he0
   refine ⟨(merge us vs, 0), stepC _ (Ev.bind he ?_), .inr ⟨_, rfl, h5, ?_⟩⟩
   ·simp only [if_true]
    exact Ev.some_ _
   ·have hform : blockS (c : Int) (bitsOf (merge us vs)) rest = y := by
     unfold blockS
     rw [hbits, hul, ← hnull, hds1, ← hd1]
     exact hyhead.symm
    have hbd := hbody (merge us vs) (by omega) hth
    have hw := write kind (c : Int) ⟨by omega, hc1⟩ (merge us vs) (by omega) rest hbd (by rw [hform]; omega)
    have hseal2 : sealS (blockS (c : Int) (bitsOf (merge us vs)) rest) = l := by
     rw [hform]
     unfold sealS
     rw [hy, htail, List.take_append_drop]
    rw [hseal2] at hw
    exact Encode kind (c : Int) (by omega) hfit (merge us vs) he _ hw
  ·refine ⟨([], e), stepC _ (Ev.bind he ?_), .inl ⟨e, he0, rfl⟩⟩
   simp only [if_neg he0]
   exact Ev.some_ _
end Go.Proofs.YtjbhaepkldgfnaaGreat.L
namespace Go.Proofs.YtjbhaepkldgfnaaGreat.Pure
open Go Go.RowKit Go.Proofs.YtjbhaepkldgfnaaGreat.S Go.Proofs.YtjbhaepkldgfnaaGreat.L
set_option linter.unusedVariables false
set_option linter.unusedSimpArgs false
theorem alive_all (k : Nat) : stoalaw12_alive.f (k + 200) = some true := by kernel_rfl
theorem alive : Ev (fun k => stoalaw12_alive.f k) true := ⟨200, fun k hk => by
 obtain ⟨d, rfl⟩ : ∃ d, k = d + 200 := ⟨k - 200, by omega⟩
 exact alive_all d⟩
theorem byte_wf {x : Int} (h : (Lit.int .u8 x).wf = true) : 0 ≤ x ∧ x ≤ 255 := by
 simp [Lit.wf, IntKind.min, IntKind.max, IntKind.signed, IntKind.bits] at h
 omega
theorem BlockOnly : stoalaw12_BlockOnly.Pure := by
 intro a0 l1 h0 hl hsz hb
 have hbytes : Bytes l1 := fun x hx => byte_wf (hb x hx)
 refine Ev.get ?_
 obtain ⟨r, hr, ht⟩ := Decode_got a0 l1 hbytes (by omega)
 unfold stoalaw12_BlockOnly.f
 refine Ev.bind alive ?_
 simp only [if_true]
 refine Ev.bind (Copy l1 (by omega)) ?_
 refine Ev.bind hr ?_
 rcases ht with ⟨e, he, rfl⟩ | ⟨cs, rfl, h5, henc⟩
 ·simp only [if_neg he, List.length_nil]
  exact Ev.some_ _
 ·have c1 : ¬ (l1.length : Int) < 5 := by omega
  have c2 : (0 : Int) < (l1.length : Int) := by omega
  simp only [if_true, if_neg c1, if_pos c2]
  refine Ev.bind henc ?_
  simp only [if_true]
  have hS := Same l1 l1 (by omega)
  rw [decide_eq_true rfl] at hS
  exact Ev.bind hS (Ev.some_ _)
end Go.Proofs.YtjbhaepkldgfnaaGreat.Pure
