/- A part of the proof of BlockOnly (the last text says what is proved, and of what): contracts of Go functions, made by a program of this work over the kit's print, the print's words that they use, and plain laws. No condition. -/
import Derived.Shelf.Small.Bits
import Derived.Shelf.Strconv.Itoa0
import Derived.Shelf.Sort.Plain
import Derived.Shelf.Slices.In.SortNone
import Derived.Shelf.Bytes.SlIndexAt
import Derived.Shelf.Bytes.SlSearch0
import Derived.Ground.SlbCloneProg
import Derived.Shelf.Bytes.SlClone
import Derived.Shelf.Bytes.SlEqualAll
import Derived.Shelf.Bytes.Small
import Derived.Shelf.Bytes.IndexByte
import Derived.Shelf.SlGeneric
import Derived.Shelf.SlIter.Nil
import Derived.Shelf.SortM.Plain
import Derived.Shelf.SortM.SortNone
import Derived.Ground.GgzProg
import Derived.Ground.SlgmProg
import Derived.Test.YtjbhaepkldgfnaaGreatProg
import Derived.Test.YtjbhaepkldgfnaaGreatC2
import Derived.Laws.Externs
import Derived.Lib.BytesEntry
import Derived.Lib.Bytealg
import Derived.Maps.Own
import Derived.Maps.OwnOps
import Derived.Maps.OwnSet
import Derived.Lib.ConvBytes
import Derived.Test.YtjbhaepkldgfnaaGreatC3
namespace Go.Proofs
open Go.Shelf
def Tryz.lays129_ren : Go.Shelf.Ren := ⟨fun | 129 => 124 | n => n, fun | 53 => 69 | 3 => 3 | 4 => 4 | 46 => 108 | 5 => 5 | 9 => 9 | n => n, fun | n => n⟩
theorem Tryz.lays129 : Go.Proofs.Lays.n129 Tryz.prog Tryz.lays129_ren := {
 mixed := by kernel_rfl
 f129 := Tryz.func124.trans (congrArg some (by kernel_rfl))
 t3 := Tryz.underlying3
 a3 := Tryz.isAgg3
 z3 := Tryz.sizeOf3
 v3 := Tryz.zeroValue3
 t4 := Tryz.underlying4
 a4 := Tryz.isAgg4
 z4 := Tryz.sizeOf4
 v4 := Tryz.zeroValue4
 t5 := Tryz.underlying5
 a5 := Tryz.isAgg5
 z5 := Tryz.sizeOf5
 v5 := Tryz.zeroValue5
 t9 := Tryz.underlying9
 a9 := Tryz.isAgg9
 z9 := Tryz.sizeOf9
 v9 := Tryz.zeroValue9
 t46 := Tryz.underlying108
 a46 := Tryz.isAgg108
 z46 := Tryz.sizeOf108
 v46 := Tryz.zeroValue108
 t53 := Tryz.underlying69
 a53 := Tryz.isAgg69
 z53 := Tryz.sizeOf69
 v53 := Tryz.zeroValue69 }
theorem Tryz.bits_Len64 (x : Int) (w : World) (h0 : 0 ≤ x) (h1 : x ≤ 18446744073709551615) :
 Calls Tryz.prog 124 #[.int .u64 x] w fun e w' => e = .returned (.int .i64 (Lib.bitLen x.toNat)) ∧ w' = w := Any.bits_Len64 Tryz.lays129 x w h0 h1
open Go.Sort Go.RowKit in
open Go.RowKit Go.Sort in
open Go.RowKit Go.Lib in
open Go.Proofs Go.RowKit Go.Lib in
open Go.Proofs Go.RowKit Go.Lib in
def Tryz.laysSlK4_ren : Go.Shelf.Ren := ⟨fun | 4 => 61 | n => n, fun | 22 => 24 | 4 => 4 | 5 => 5 | n => n, fun | n => n⟩
theorem Tryz.laysSlK4 : Go.Proofs.SlLaysK.n4 Tryz.prog Tryz.laysSlK4_ren := {
 mixed := by kernel_rfl
 f4 := Tryz.func61.trans (congrArg some (by kernel_rfl))
 t4 := Tryz.underlying4
 a4 := Tryz.isAgg4
 z4 := Tryz.sizeOf4
 v4 := Tryz.zeroValue4
 t22 := Tryz.underlying24
 a22 := Tryz.isAgg24
 z22 := Tryz.sizeOf24
 v22 := Tryz.zeroValue24
 t5 := Tryz.underlying5
 i5 := by kernel_rfl }
open Go.RowKit Go.Lib in
theorem Tryz.bytes_Clone_at (a : Addr) (n c : Nat) (xs : List Int) (w : World) (hx : xs.length = n) (hbig : n ≤ 140737488355328) (hc : ∀ i, i < n → w.cell? (a.add i) = some (.int .u8 (xs.getD i 0))) :
 Calls Tryz.prog 61 #[.slice (some a) n c] w fun e w' => ∃ v', e = .returned v' ∧ w'.ownsRow w.heap.size 5 1 v' n (xs.map (Value.int .u8)) ∧ v' ≠ .slice none 0 0 ∧ Below w.heap.size w w' := Any.bytes_Clone_at Tryz.laysSlK4 a n c xs w hx hbig hc
open Go.RowKit Go.Lib in
theorem Tryz.bytes_Clone_nil (n c : Nat) (w : World) :
 Calls Tryz.prog 61 #[.slice none n c] w fun e w' => e = .returned (.slice none 0 0) ∧ w' = w := Any.bytes_Clone_nil Tryz.laysSlK4 n c w
def Tryz.keys151_ren : Go.Shelf.Ren := ⟨fun | 7 => 151 | 10 => 159 | n => n, fun | 23 => 182 | 26 => 9 | 3 => 3 | 28 => 186 | 0 => 0 | 27 => 185 | 33 => 194 | 4 => 4 | n => n, fun | n => n⟩
theorem Tryz.keys151 : Go.Proofs.SlLaysZ.n7 Tryz.prog Tryz.keys151_ren := {
 mixed := by kernel_rfl
 f7 := ⟨Tryz.f151.name, by decide, Tryz.func151.trans (congrArg some (by kernel_rfl))⟩
 f10 := ⟨Tryz.f159.name, by decide, Tryz.func159.trans (congrArg some (by kernel_rfl))⟩
 t0 := Tryz.underlying0
 a0 := Tryz.isAgg0
 z0 := Tryz.sizeOf0
 v0 := Tryz.zeroValue0
 t4 := Tryz.underlying4
 a4 := Tryz.isAgg4
 z4 := Tryz.sizeOf4
 v4 := Tryz.zeroValue4
 t23 := Tryz.underlying182
 a23 := Tryz.isAgg182
 z23 := Tryz.sizeOf182
 v23 := Tryz.zeroValue182
 t26 := Tryz.underlying9
 a26 := Tryz.isAgg9
 z26 := Tryz.sizeOf9
 v26 := Tryz.zeroValue9
 t27 := Tryz.underlying185
 a27 := Tryz.isAgg185
 z27 := Tryz.sizeOf185
 v27 := Tryz.zeroValue185
 t28 := Tryz.underlying186
 a28 := Tryz.isAgg186
 z28 := Tryz.sizeOf186
 v28 := Tryz.zeroValue186
 t33 := Tryz.underlying194
 a33 := Tryz.isAgg194
 z33 := Tryz.sizeOf194
 v33 := Tryz.zeroValue194 }
def Tryz.sorted150_ren : Go.Shelf.Ren := ⟨fun | 6 => 150 | 8 => 157 | 9 => 158 | 11 => 160 | 13 => 162 | 12 => 161 | 23 => 172 | 24 => 124 | 14 => 163 | 15 => 164 | 16 => 165 | 17 => 166 | 18 => 167 | 19 => 168 | 20 => 169 | 21 => 170 | 22 => 171 | 25 => 173 | 26 => 174 | 27 => 175 | 28 => 176 | 29 => 177 | 30 => 178 | 31 => 179 | n => n, fun | 26 => 9 | 28 => 186 | 24 => 183 | 0 => 0 | 3 => 3 | 37 => 108 | 48 => 39 | 50 => 69 | 4 => 4 | 40 => 200 | 39 => 199 | 45 => 205 | 5 => 5 | 9 => 9 | 51 => 208 | 55 => 212 | 57 => 214 | 58 => 215 | 33 => 194 | n => n, fun | n => n⟩
theorem Tryz.sorted150 : Go.Proofs.SlLaysZ.n6 Tryz.prog Tryz.sorted150_ren := {
 mixed := by kernel_rfl
 f6 := ⟨Tryz.f150.name, by decide, Tryz.func150.trans (congrArg some (by kernel_rfl))⟩
 f8 := ⟨Tryz.f157.name, by decide, Tryz.func157.trans (congrArg some (by kernel_rfl))⟩
 f11 := ⟨Tryz.f160.name, by decide, Tryz.func160.trans (congrArg some (by kernel_rfl))⟩
 t0 := Tryz.underlying0
 a0 := Tryz.isAgg0
 z0 := Tryz.sizeOf0
 v0 := Tryz.zeroValue0
 t24 := Tryz.underlying183
 a24 := Tryz.isAgg183
 z24 := Tryz.sizeOf183
 v24 := Tryz.zeroValue183
 t26 := Tryz.underlying9
 a26 := Tryz.isAgg9
 z26 := Tryz.sizeOf9
 v26 := Tryz.zeroValue9
 t28 := Tryz.underlying186
 a28 := Tryz.isAgg186
 z28 := Tryz.sizeOf186
 v28 := Tryz.zeroValue186
 i26 := by kernel_rfl }
def Tryz.sort158_ren : Go.Shelf.Ren := ⟨fun | 6 => 158 | 8 => 162 | 9 => 161 | 19 => 172 | 20 => 124 | 21 => 163 | 22 => 164 | 23 => 165 | 24 => 166 | 25 => 167 | 26 => 168 | 27 => 169 | 28 => 170 | 29 => 171 | 36 => 173 | 31 => 174 | 32 => 175 | 37 => 176 | 38 => 177 | 39 => 178 | 41 => 179 | n => n, fun | 27 => 183 | 29 => 9 | 3 => 3 | 32 => 108 | 26 => 183 | 0 => 0 | 44 => 39 | 46 => 69 | 4 => 4 | 36 => 200 | 35 => 199 | 41 => 205 | 5 => 5 | 9 => 9 | 53 => 208 | 57 => 212 | 63 => 214 | 64 => 215 | n => n, fun | n => n⟩
theorem Tryz.sort158 : Go.Proofs.SlLaysM.n6 Tryz.prog Tryz.sort158_ren := {
 mixed := by kernel_rfl
 f6 := ⟨Tryz.f158.name, by decide, Tryz.func158.trans (congrArg some (by kernel_rfl))⟩
 f8 := Tryz.func162.trans (congrArg some (by kernel_rfl))
 f9 := ⟨Tryz.f161.name, by decide, Tryz.func161.trans (congrArg some (by kernel_rfl))⟩
 f19 := Tryz.func172.trans (congrArg some (by kernel_rfl))
 f20 := Tryz.func124.trans (congrArg some (by kernel_rfl))
 f21 := ⟨Tryz.f163.name, by decide, Tryz.func163.trans (congrArg some (by kernel_rfl))⟩
 f22 := ⟨Tryz.f164.name, by decide, Tryz.func164.trans (congrArg some (by kernel_rfl))⟩
 f23 := ⟨Tryz.f165.name, by decide, Tryz.func165.trans (congrArg some (by kernel_rfl))⟩
 f24 := ⟨Tryz.f166.name, by decide, Tryz.func166.trans (congrArg some (by kernel_rfl))⟩
 f25 := ⟨Tryz.f167.name, by decide, Tryz.func167.trans (congrArg some (by kernel_rfl))⟩
 f26 := ⟨Tryz.f168.name, by decide, Tryz.func168.trans (congrArg some (by kernel_rfl))⟩
 f27 := ⟨Tryz.f169.name, by decide, Tryz.func169.trans (congrArg some (by kernel_rfl))⟩
 f28 := ⟨Tryz.f170.name, by decide, Tryz.func170.trans (congrArg some (by kernel_rfl))⟩
 f29 := ⟨Tryz.f171.name, by decide, Tryz.func171.trans (congrArg some (by kernel_rfl))⟩
 f31 := Tryz.func174.trans (congrArg some (by kernel_rfl))
 f32 := Tryz.func175.trans (congrArg some (by kernel_rfl))
 f36 := ⟨Tryz.f173.name, by decide, Tryz.func173.trans (congrArg some (by kernel_rfl))⟩
 f37 := ⟨Tryz.f176.name, by decide, Tryz.func176.trans (congrArg some (by kernel_rfl))⟩
 f38 := ⟨Tryz.f177.name, by decide, Tryz.func177.trans (congrArg some (by kernel_rfl))⟩
 f39 := ⟨Tryz.f178.name, by decide, Tryz.func178.trans (congrArg some (by kernel_rfl))⟩
 f41 := ⟨Tryz.f179.name, by decide, Tryz.func179.trans (congrArg some (by kernel_rfl))⟩
 t0 := Tryz.underlying0
 a0 := Tryz.isAgg0
 z0 := Tryz.sizeOf0
 v0 := Tryz.zeroValue0
 t3 := Tryz.underlying3
 a3 := Tryz.isAgg3
 z3 := Tryz.sizeOf3
 v3 := Tryz.zeroValue3
 t4 := Tryz.underlying4
 a4 := Tryz.isAgg4
 z4 := Tryz.sizeOf4
 v4 := Tryz.zeroValue4
 t5 := Tryz.underlying5
 a5 := Tryz.isAgg5
 z5 := Tryz.sizeOf5
 v5 := Tryz.zeroValue5
 t9 := Tryz.underlying9
 a9 := Tryz.isAgg9
 z9 := Tryz.sizeOf9
 v9 := Tryz.zeroValue9
 t26 := Tryz.underlying183
 a26 := Tryz.isAgg183
 z26 := Tryz.sizeOf183
 v26 := Tryz.zeroValue183
 t27 := Tryz.underlying183
 a27 := Tryz.isAgg183
 z27 := Tryz.sizeOf183
 v27 := Tryz.zeroValue183
 t29 := Tryz.underlying9
 a29 := Tryz.isAgg9
 z29 := Tryz.sizeOf9
 v29 := Tryz.zeroValue9
 t32 := Tryz.underlying108
 a32 := Tryz.isAgg108
 z32 := Tryz.sizeOf108
 v32 := Tryz.zeroValue108
 t35 := Tryz.underlying199
 a35 := Tryz.isAgg199
 z35 := Tryz.sizeOf199
 v35 := Tryz.zeroValue199
 t36 := Tryz.underlying200
 a36 := Tryz.isAgg200
 z36 := Tryz.sizeOf200
 v36 := Tryz.zeroValue200
 t41 := Tryz.underlying205
 a41 := Tryz.isAgg205
 z41 := Tryz.sizeOf205
 v41 := Tryz.zeroValue205
 t44 := Tryz.underlying39
 a44 := Tryz.isAgg39
 z44 := Tryz.sizeOf39
 v44 := Tryz.zeroValue39
 t46 := Tryz.underlying69
 a46 := Tryz.isAgg69
 z46 := Tryz.sizeOf69
 v46 := Tryz.zeroValue69
 t53 := Tryz.underlying208
 a53 := Tryz.isAgg208
 z53 := Tryz.sizeOf208
 v53 := Tryz.zeroValue208
 t57 := Tryz.underlying212
 a57 := Tryz.isAgg212
 z57 := Tryz.sizeOf212
 v57 := Tryz.zeroValue212
 t63 := Tryz.underlying214
 a63 := Tryz.isAgg214
 z63 := Tryz.sizeOf214
 v63 := Tryz.zeroValue214
 t64 := Tryz.underlying215
 a64 := Tryz.isAgg215
 z64 := Tryz.sizeOf215
 v64 := Tryz.zeroValue215 }
end Go.Proofs
namespace Go.Proofs.YtjbhaepkldgfnaaGreat.S
open Go.RowKit Go.Proofs.YtjbhaepkldgfnaaGreatW.PrintWords Go.Proofs.YtjbhaepkldgfnaaGreatW.PrintLast Go.Proofs.YtjbhaepkldgfnaaGreatW.PrintMore
set_option linter.unusedVariables false
theorem C_cells {w : World} {k : IntKind} {A : Option Addr} {n : Nat} {l : List Int} (h : Kd.C (Kd.int k) w A n l) : l.length = n ∧ n ≤ 9223372036854775807 ∧ ∀ a, A = some a → ∀ i, i < n → w.cell? (a.add i) = some (.int k (l.getD i 0)) := by
 have hr : ReadsInt w k A n l := Kd.reads_of_C (d := (0 : Int)) h
 refine ⟨hr.1, hr.2.1, fun a e i hi => ?_⟩
 obtain ⟨ad, e', hc⟩ := hr.2.2 (by omega)
 rw [e] at e'
 injection e' with e'
 subst e'
 exact hc i hi
def bits_Len64.f (a0 : Int) : Option Int := if 0 ≤ a0 ∧ a0 ≤ 18446744073709551615 then some (Lib.bitLen a0.toNat) else none
theorem bits_Len64.calls (a0 : Int) (r : Int) (w : World) (h : bits_Len64.f a0 = some r) :
 Calls Tryz.prog 124 #[.int .u64 a0] w fun e w' => e = .returned (.int .i64 r) ∧ Drawn0 w w' := by
 unfold bits_Len64.f at h
 split at h
 ·rename_i hb
  injection h with h
  subst h
  refine (Tryz.bits_Len64 a0 w hb.1 hb.2).mono ?_
  rintro e w' ⟨rfl, rfl⟩
  exact ⟨rfl, Drawn0.refl _⟩
 cases h
def bytes_Clone.f (l0 : List Int) : Option (List Int) := if l0.length ≤ 140737488355328 then some l0 else none
theorem bytes_Clone.calls (A0 : Option Addr) (c0 : Nat) (l0 : List Int) (r : List Int) (w : World) (hr0 : Kd.C (Kd.int .u8) w A0 l0.length l0) (hc0 : l0.length ≤ c0) (h : bytes_Clone.f l0 = some r) :
 Calls Tryz.prog 61 #[.slice A0 l0.length c0] w fun e w' => ∃ v0_ : Value, e = .returned (v0_) ∧ Kd.R (Kd.int .u8) 5 w' w.heap.size (fun _ => True) v0_ r ∧ Below w.heap.size w w' := by
 unfold bytes_Clone.f at h
 split at h
 ·rename_i hb
  injection h with h
  subst h
  obtain ⟨_, _, hc⟩ := C_cells hr0
  cases A0 with
  | none =>
   have hl : l0 = [] := by
    have hr : ReadsInt w .u8 none l0.length l0 := Kd.reads_of_C (d := (0 : Int)) hr0
    rcases Nat.eq_zero_or_pos l0.length with h0 | h0
    ·exact List.length_eq_zero_iff.1 h0
    obtain ⟨ad, e, _⟩ := hr.2.2 h0
    cases e
   subst hl
   refine (Tryz.bytes_Clone_nil _ _ w).mono ?_
   rintro e w' ⟨rfl, rfl⟩
   exact ⟨_, rfl, Kd.R_nil _ _ _ _ _, Below.refl _ _⟩
  | some a =>
   refine (Tryz.bytes_Clone_at a _ _ l0 w rfl hb (hc a rfl)).mono ?_
   rintro e w' ⟨v', rfl, ho, _, hbl⟩
   exact ⟨v', rfl, Kd.R_of_own (enc := Value.int .u8) ho (fun _ _ => trivial), hbl⟩
 cases h
theorem run_bytesOf_C {P : Program} {w : World} {A : Option Addr} {n c : Nat} {l : List Int} (h : Kd.C (Kd.int .u8) w A n l) :
 (Extern.Bytes.bytesOf (.slice A n c)).run P w = .ok ⟨(Lib.bytesOf l).toArray⟩ w := by
 obtain ⟨hl, _, hc⟩ := C_cells h
 cases A with
 | none =>
  have hl0 : l = [] := by
   have hr : ReadsInt w .u8 none n l := Kd.reads_of_C (d := (0 : Int)) h
   rcases Nat.eq_zero_or_pos n with h0 | h0
   ·exact List.length_eq_zero_iff.1 (by omega)
   obtain ⟨ad, e, _⟩ := hr.2.2 h0
   cases e
  subst hl0
  rfl
 | some a =>
  have hl2 := Lib.run_loadBytesX (P := P) w l a .empty (fun j x hj => by
   have hjl : j < l.length := (List.getElem?_eq_some_iff.1 hj).1
   rw [hc a rfl j (by omega), List.getD_eq_getElem?_getD, hj]
   rfl)
  rw [hl] at hl2
  have he : (⟨ByteArray.empty.data ++ (Lib.bytesOf l).toArray⟩ : ByteArray) = ⟨(Lib.bytesOf l).toArray⟩ := by
   apply ByteArray.ext
   show (#[] : Array UInt8) ++ (Lib.bytesOf l).toArray = (Lib.bytesOf l).toArray
   simp
  rw [he] at hl2
  exact hl2
theorem run_indexByte_C {P : Program} {w : World} {A : Option Addr} {n c : Nat} {l : List Int} (h : Kd.C (Kd.int .u8) w A n l) (cv : Int) :
 (Extern.BytealgIndexByte.indexByte #[.slice A n c, .int .u8 cv]).run P w = .ok (.int .i64 (Lib.indexByte (Lib.bytesOf l) cv.toNat.toUInt8)) w := by
 have hl := run_bytesOf_C (P := P) (c := c) h
 have hs := Lib.run_indexByteString (P := P) ⟨(Lib.bytesOf l).toArray⟩ cv w
 change Sem.run P (do
  let b ← Extern.Bytes.bytesOf (.slice A n c)
  let c ← Extern.Bytes.asByte (.int .u8 cv)
  match (List.range b.size).find? fun i => b[i]! == c with
  | some i => pure (goInt i)
  | none => pure (goInt (-1))) w = _
 change Sem.run P (do
  let b ← Extern.Bytes.bytesOf (.string ⟨(Lib.bytesOf l).toArray⟩)
  let c ← Extern.Bytes.asByte (.int .u8 cv)
  match (List.range b.size).find? fun i => b[i]! == c with
  | some i => pure (goInt i)
  | none => pure (goInt (-1))) w = _ at hs
 have h0 : (Extern.Bytes.bytesOf (.string ⟨(Lib.bytesOf l).toArray⟩)).run P w = .ok ⟨(Lib.bytesOf l).toArray⟩ w := rfl
 rw [Sem.run_bind, h0] at hs
 rw [Sem.run_bind, hl]
 exact hs
theorem run_compare_C {P : Program} {w : World} {A B : Option Addr} {n c m d : Nat} {l k : List Int} (h : Kd.C (Kd.int .u8) w A n l) (h2 : Kd.C (Kd.int .u8) w B m k) :
 (Extern.BytealgCompare.compare #[.slice A n c, .slice B m d]).run P w = .ok (.int .i64 (Lib.compareBytes (Lib.bytesOf l) (Lib.bytesOf k))) w := by
 change Sem.run P (do pure (goInt (Extern.BytealgCompare.cmp (← Extern.Bytes.bytesOf (.slice A n c)) (← Extern.Bytes.bytesOf (.slice B m d))))) w = _
 rw [Sem.run_bind, run_bytesOf_C h]
 simp only [Result.andThen]
 rw [Sem.run_bind, run_bytesOf_C h2]
 simp only [Result.andThen]
 rw [Lib.cmp_eq]
 rfl
def bytes_IndexByte.f (l0 : List Int) (a1 : Int) : Option Int := some (Lib.indexByte (Lib.bytesOf l0) a1.toNat.toUInt8)
set_option maxHeartbeats 2000000 in
set_option maxRecDepth 1000000 in
theorem bytes_IndexByte.calls (A0 : Option Addr) (c0 : Nat) (l0 : List Int) (a1 : Int) (r : Int) (w : World) (hr0 : Kd.C (Kd.int .u8) w A0 l0.length l0) (hc0 : l0.length ≤ c0) (h : bytes_IndexByte.f l0 a1 = some r) :
 Calls Tryz.prog 132 #[.slice A0 l0.length c0, .int .u8 a1] w fun e w' => e = .returned (.int .i64 r) ∧ Drawn0 w w' := by
 injection h with h
 subst h
 have hx := run_indexByte_C (P := Tryz.prog) (c := c0) hr0 a1
 clear hr0
 go_enter Tryz.func132, Tryz.ntmps132
 go_wp2
 rw [run_callFunc_extern Tryz.func149 (by kernel_rfl) (by kernel_rfl) (by kernel_rfl) (e := Extern.BytealgIndexByte.indexByte) (by kernel_rfl), hx]
 simp only [Result.andThen]
 rw [Oper.upon_value]
 go_wp2
 go_ret
 exact ⟨rfl, Drawn0.refl _⟩
def bytes_Compare.f (l0 l1 : List Int) : Option Int := some (Lib.compareBytes (Lib.bytesOf l0) (Lib.bytesOf l1))
set_option maxHeartbeats 2000000 in
set_option maxRecDepth 1000000 in
theorem bytes_Compare.calls (A0 : Option Addr) (c0 : Nat) (l0 : List Int) (A1 : Option Addr) (c1 : Nat) (l1 : List Int) (r : Int) (w : World) (hr0 : Kd.C (Kd.int .u8) w A0 l0.length l0) (hc0 : l0.length ≤ c0) (hr1 : Kd.C (Kd.int .u8) w A1 l1.length l1) (hc1 : l1.length ≤ c1) (h : bytes_Compare.f l0 l1 = some r) :
 Calls Tryz.prog 54 #[.slice A0 l0.length c0, .slice A1 l1.length c1] w fun e w' => e = .returned (.int .i64 r) ∧ Drawn0 w w' := by
 injection h with h
 subst h
 have hx := run_compare_C (P := Tryz.prog) (c := c0) (d := c1) hr0 hr1
 clear hr0 hr1
 go_enter Tryz.func54, Tryz.ntmps54
 go_wp2
 rw [run_callFunc_extern Tryz.func97 (by kernel_rfl) (by kernel_rfl) (by kernel_rfl) (e := Extern.BytealgCompare.compare) (by kernel_rfl), hx]
 simp only [Result.andThen]
 rw [Oper.upon_value]
 go_wp2
 go_ret
 exact ⟨rfl, Drawn0.refl _⟩
end Go.Proofs.YtjbhaepkldgfnaaGreat.S
namespace Go.Proofs.YtjbhaepkldgfnaaGreat.S
open Go.RowKit Go.Proofs.YtjbhaepkldgfnaaGreatW.PrintWords Go.Proofs.YtjbhaepkldgfnaaGreatW.PrintLast Go.Proofs.YtjbhaepkldgfnaaGreatW.PrintMore
attribute [local go_sem] max2_int min2_int max_two min_two max_three min_three max_four min_four
set_option linter.unusedVariables false
set_option linter.unusedSimpArgs false
def cell_text.f (a0 : Int) (l1 : List Int) : Option (Int) := if (l1.length : Int) > 200 then (some 4) else (if a0 = 7 then ((bytes_IndexByte.f l1 0).bind fun t104 => (if t104 ≥ 0 then (some 5) else (some 0))) else (some 0))
set_option maxHeartbeats 8000000 in
set_option maxRecDepth 100000 in
theorem cell_text.calls (a0 : Int) (A1 : Option Addr) (c1 : Nat) (l1 : List Int) (r : Int) (w : World) (hr1 : Kd.C (Kd.int .u8) w A1 l1.length l1) (hc1 : l1.length ≤ c1) (h : cell_text.f a0 l1 = some r) :
 Calls Tryz.prog 100 #[.int .i64 a0, .slice A1 l1.length c1] w fun e w' => e = .returned (.int .i64 r) ∧ Drawn0 w w' := by
 have HR1 := Aside0.mk hr1
 have HC1 := Aside0.mk hc1
 clear hr1 hc1
 unfold cell_text.f at h
 have H := h
 clear h
 by_cases c3 : (l1.length : Int) > 200
 ·rw [if_pos c3] at H
  have c3b0 : decide (200 < (l1.length : Int)) = true := decide_eq_true c3
  have c3b1 : decide (200 < l1.length) = true := decide_eq_true (by omega)
  clear c3
  obtain rfl := Option.some.inj H
  go_enter Tryz.func100, Tryz.ntmps100
  go_wp2
  go_ret
  exact ⟨by rfl, by repeat (exact Drawn0.refl _)⟩
 rw [if_neg c3] at H
 have c3b0 : decide (200 < (l1.length : Int)) = false := decide_eq_false c3
 have c3b1 : decide (200 < l1.length) = false := decide_eq_false (by omega)
 clear c3
 by_cases c4 : a0 = 7
 ·rw [if_pos c4] at H
  have c4b0 : (a0 == 7) = true := beq_iff_eq.mpr c4
  have c4b1 : (a0 != 7) = false := bne_eq_false_iff_eq.mpr c4
  clear c4
  replace H := Option.bind_eq_some_iff.mp H
  obtain ⟨t104, A50, H⟩ := H
  (try dsimp only at H)
  have A5 := Aside0.mk A50
  clear A50
  by_cases c6 : t104 ≥ 0
  ·rw [if_pos c6] at H
   have c6b0 : decide (0 ≤ t104) = true := decide_eq_true c6
   clear c6
   obtain rfl := Option.some.inj H
   go_enter Tryz.func100, Tryz.ntmps100
   go_wp2_with ((go_at_call 132; (with_reducible refine (bytes_IndexByte.calls _ _ l1 0 t104 _ (HR1.out) (HC1.out) A5.out).mono ?_); rintro e w' ⟨rfl, ⟨nd, rfl⟩⟩))
   go_ret
   exact ⟨by rfl, by repeat (first | exact Drawn0.refl _ | apply Drawn0.step)⟩
  rw [if_neg c6] at H
  have c6b0 : decide (0 ≤ t104) = false := decide_eq_false c6
  clear c6
  obtain rfl := Option.some.inj H
  go_enter Tryz.func100, Tryz.ntmps100
  go_wp2_with ((go_at_call 132; (with_reducible refine (bytes_IndexByte.calls _ _ l1 0 t104 _ (HR1.out) (HC1.out) A5.out).mono ?_); rintro e w' ⟨rfl, ⟨nd, rfl⟩⟩))
  go_ret
  exact ⟨by rfl, by repeat (first | exact Drawn0.refl _ | apply Drawn0.step)⟩
 rw [if_neg c4] at H
 have c4b0 : (a0 == 7) = false := beq_eq_false_iff_ne.mpr c4
 have c4b1 : (a0 != 7) = true := bne_iff_ne.mpr c4
 obtain rfl := Option.some.inj H
 go_enter Tryz.func100, Tryz.ntmps100
 go_wp2
 go_ret
 exact ⟨by rfl, by repeat (exact Drawn0.refl _)⟩
mutual
def cell_Check.j0 : Nat → Int → Bool → Bool → Int → List Int → Option (Int)
 | 0, _, _, _, _, _ => none
 | k + 1, x0, x11, x108000, x108001, x108002 => if x11 = true then (some 51) else (if x108000 = true then (if x108001 = 0 then (cell_Check.j1 k x0 (decide ((x108002.length : Int) > 0)) x108000 x108001 x108002) else (cell_Check.j1 k x0 true x108000 x108001 x108002)) else (cell_Check.j1 k x0 false x108000 x108001 x108002))
def cell_Check.j1 : Nat → Int → Bool → Bool → Int → List Int → Option (Int)
 | 0, _, _, _, _, _ => none
 | k + 1, x0, x18, x108000, x108001, x108002 => if x18 = true then (some 50) else (if x108000 = true then (some 0) else ((cell_Number.f x0).bind fun t109 => (if t109 = true then (cell_Check.j2 k x0 (decide ((x108002.length : Int) > 0)) x108000 x108001 x108002) else (cell_Check.j2 k x0 false x108000 x108001 x108002))))
def cell_Check.j2 : Nat → Int → Bool → Bool → Int → List Int → Option (Int)
 | 0, _, _, _, _, _ => none
 | k + 1, x0, x35, x108000, x108001, x108002 => if x35 = true then (cell_Check.j3 k x0 x35 x108000 x108001 x108002) else ((cell_Number.f x0).bind fun t110 => (if t110 = true then (cell_Check.j3 k x0 false x108000 x108001 x108002) else (cell_Check.j3 k x0 (x108001 != 0) x108000 x108001 x108002)))
def cell_Check.j3 : Nat → Int → Bool → Bool → Int → List Int → Option (Int)
 | 0, _, _, _, _, _ => none
 | k + 1, x0, x35, x108000, x108001, x108002 => if x35 = true then (some 50) else ((cell_Number.f x0).bind fun t111 => (if t111 = true then ((cell_holds.f x0 x108001).bind fun t112 => (if t112 = true then (some 0) else (some 52))) else ((cell_text.f x0 x108002).bind fun t113 => (some t113))))
end
def cell_Check.f (k : Nat) (a0 : Int) (a1 : Bool) (a2_0 : Bool) (a2_1 : Int) (l2_2 : List Int) : Option (Int) := (cell_known.f a0).bind fun t108 => (if t108 = true then (if a2_0 = true then (cell_Check.j0 k a0 (!a1) a2_0 a2_1 l2_2) else (cell_Check.j0 k a0 false a2_0 a2_1 l2_2)) else (some 1))
set_option maxHeartbeats 8000000 in
set_option maxRecDepth 100000 in
theorem cell_Check.calls (k : Nat) (a0 : Int) (a1 : Bool) (a2_0 : Bool) (a2_1 : Int) (A2_2 : Option Addr) (c2_2 : Nat) (l2_2 : List Int) (r : Int) (w : World) (hr2_2 : Kd.C (Kd.int .u8) w A2_2 l2_2.length l2_2) (hc2_2 : l2_2.length ≤ c2_2) (h : cell_Check.f k a0 a1 a2_0 a2_1 l2_2 = some r) :
 Calls Tryz.prog 70 #[.int .i64 a0, .bool a1, .agg #[.bool a2_0, .int .i64 a2_1, .slice A2_2 l2_2.length c2_2]] w fun e w' => e = .returned (.int .i64 r) ∧ Below w.heap.size w w' := by
 have hu62 := Tryz.underlying62
 have HR2_2 := Aside0.mk hr2_2
 have HC2_2 := Aside0.mk hc2_2
 clear hr2_2 hc2_2
 have HB := Aside0.mk (Below.refl w.heap.size w)
 unfold cell_Check.f at h
 have H := h
 clear h
 replace H := Option.bind_eq_some_iff.mp H
 obtain ⟨t108, A40, H⟩ := H
 (try dsimp only at H)
 have A4 := Aside0.mk A40
 clear A40
 by_cases c5 : t108 = true
 ·subst c5
  have H1 : (if a2_0 = true then (cell_Check.j0 k a0 (!a1) a2_0 a2_1 l2_2) else (cell_Check.j0 k a0 false a2_0 a2_1 l2_2)) = some r := by rw [if_pos rfl] at H; exact H
  clear H
  have H := H1
  clear H1
  have HC6 := Aside0.mk H
  clear H
  go_enter Tryz.func70, Tryz.ntmps70
  go_upto_region 3 with (first | ((with_reducible refine gate_dst (N := 5) rfl ?_); (try (refine gate_guard (by rfl) ?_; dsimp only)); refine box_event ?hg (N := 5) ?hd (cs := #[.bool a2_0, .int .i64 a2_1, .slice A2_2 l2_2.length c2_2]) (t := 62) ?hr ?_; (case hd => rfl); (case hg => rfl); (case hr => (go_simp; done)); intro gb107 hg w7 hbox hb; have n0_ := Aside0.mk (below_step HB.out hb); have n1_ := Aside0.mk (hbox); have n2_ := Aside0.mk ((by rw [hg]; exact (below_size HB.out) : w.heap.size ≤ gb107)); have n3_ := Aside0.mk ((by rw [hg]; exact (below_size HB.out) : w.heap.size ≤ gb107)); revert n0_ n1_ n2_ n3_; clear HB; intro HB BK107 GW107 GE107; clear hb hbox hg) | ((with_reducible refine gate_callee (f := 99) rfl ?_); refine goL_ Tryz.func99 #[.int .i64 a0] ?_; (with_reducible refine (cell_known.calls a0 true _ A4.out).mono ?_); rintro e w' ⟨rfl, ⟨nd, rfl⟩⟩; refine ⟨_, rfl, ?_⟩))
  go_cut [11] (fun v11 wc => ∃ (kq : Nat) (x11_5 : Bool), v11 = .bool x11_5 ∧ Aside0 (cell_Check.j0 kq a0 x11_5 a2_0 a2_1 l2_2 = some r) ∧ Aside0 (kq ≤ k) ∧ Aside0 (wc.heap[gb107]? = some (.cells #[.bool a2_0, .int .i64 a2_1, (.slice A2_2 l2_2.length c2_2)] 62 (0, 0))) ∧ Aside0 (Below w.heap.size w wc))
  case first =>
   have H := HC6.out
   clear HC6
   by_cases c8 : a2_0 = true
   ·subst c8
    have H1 : (cell_Check.j0 k a0 (!a1) true a2_1 l2_2) = some r := by rw [if_pos rfl] at H; exact H
    clear H
    have H := H1
    clear H1
    have H' := Aside0.mk H
    clear H
    have hcz9_0 : w7.cell? ⟨gb107, 0, none⟩ = some (.bool true) := (blk_cell BK107.out 0).trans rfl
    have hcz9_1 : w7.cell? ⟨gb107, 1, none⟩ = some (.int .i64 a2_1) := (blk_cell BK107.out 1).trans rfl
    have hcz9_2 : w7.cell? ⟨gb107, 2, none⟩ = some (.slice A2_2 l2_2.length c2_2) := (blk_cell BK107.out 2).trans rfl
    have hfz9_0 := blk_frozen BK107.out 0
    have hfz9_1 := blk_frozen BK107.out 1
    have hfz9_2 := blk_frozen BK107.out 2
    go_wp2
    go_meet
    case rel => exact ⟨_, (!a1), (by rfl), H', ⟨by omega⟩, ⟨by (with_reducible repeat (refine blk_drewN ?_ _)); exact BK107.out⟩, ⟨by repeat ((with_reducible first | exact HB.out | apply pw_below_drewN))⟩⟩
   replace c8 := Bool.eq_false_iff.mpr c8
   subst c8
   have H1 : (cell_Check.j0 k a0 false false a2_1 l2_2) = some r := by rw [if_neg (show ¬ (false = true) by decide)] at H; exact H
   clear H
   have H := H1
   clear H1
   have H' := Aside0.mk H
   clear H
   have hcz10_0 : w7.cell? ⟨gb107, 0, none⟩ = some (.bool false) := (blk_cell BK107.out 0).trans rfl
   have hcz10_1 : w7.cell? ⟨gb107, 1, none⟩ = some (.int .i64 a2_1) := (blk_cell BK107.out 1).trans rfl
   have hcz10_2 : w7.cell? ⟨gb107, 2, none⟩ = some (.slice A2_2 l2_2.length c2_2) := (blk_cell BK107.out 2).trans rfl
   have hfz10_0 := blk_frozen BK107.out 0
   have hfz10_1 := blk_frozen BK107.out 1
   have hfz10_2 := blk_frozen BK107.out 2
   go_wp2
   go_meet
   case rel => exact ⟨_, (false), (by rfl), H', ⟨by omega⟩, ⟨by (with_reducible repeat (refine blk_drewN ?_ _)); exact BK107.out⟩, ⟨by repeat ((with_reducible first | exact HB.out | apply pw_below_drewN))⟩⟩
  case rest =>
   clear HC6
   obtain ⟨kq, x11_5, rfl, HA, HJ5, BK107, HB⟩ := hcut
   cases kq with
   | zero => exact absurd HA.out (by simp [cell_Check.j0])
   | succ kj5 =>
    have H := HA.out
    clear HA
    simp only [cell_Check.j0] at H
    by_cases c11 : x11_5 = true
    ·subst c11
     have H1 : (some 51) = some r := by rw [if_pos rfl] at H; exact H
     clear H
     have H := H1
     clear H1
     obtain rfl := Option.some.inj H
     go_wp2
     go_ret
     exact ⟨by rfl, by exact HB.out⟩
    replace c11 := Bool.eq_false_iff.mpr c11
    subst c11
    have H1 : (if a2_0 = true then (if a2_1 = 0 then (cell_Check.j1 kj5 a0 (decide ((l2_2.length : Int) > 0)) a2_0 a2_1 l2_2) else (cell_Check.j1 kj5 a0 true a2_0 a2_1 l2_2)) else (cell_Check.j1 kj5 a0 false a2_0 a2_1 l2_2)) = some r := by rw [if_neg (show ¬ (false = true) by decide)] at H; exact H
    clear H
    have H := H1
    clear H1
    have HC12 := Aside0.mk H
    clear H
    go_upto_region 5 with (fail)
    go_cut [18] (fun v18 wc => ∃ (kq : Nat) (x18_11 : Bool), v18 = .bool x18_11 ∧ Aside0 (cell_Check.j1 kq a0 x18_11 a2_0 a2_1 l2_2 = some r) ∧ Aside0 (kq ≤ kj5) ∧ Aside0 (wc.heap[gb107]? = some (.cells #[.bool a2_0, .int .i64 a2_1, (.slice A2_2 l2_2.length c2_2)] 62 (0, 0))) ∧ Aside0 (Below w.heap.size w wc))
    case first =>
     have H := HC12.out
     clear HC12
     by_cases c13 : a2_0 = true
     ·subst c13
      have H1 : (if a2_1 = 0 then (cell_Check.j1 kj5 a0 (decide ((l2_2.length : Int) > 0)) true a2_1 l2_2) else (cell_Check.j1 kj5 a0 true true a2_1 l2_2)) = some r := by rw [if_pos rfl] at H; exact H
      clear H
      have H := H1
      clear H1
      by_cases c14 : a2_1 = 0
      ·rw [if_pos c14] at H
       have c14b0 : (a2_1 == 0) = true := beq_iff_eq.mpr c14
       have c14b1 : (a2_1 != 0) = false := bne_eq_false_iff_eq.mpr c14
       clear c14
       have H' := Aside0.mk H
       clear H
       have hcz15_0 : wc.cell? ⟨gb107, 0, none⟩ = some (.bool true) := (blk_cell BK107.out 0).trans rfl
       have hcz15_1 : wc.cell? ⟨gb107, 1, none⟩ = some (.int .i64 a2_1) := (blk_cell BK107.out 1).trans rfl
       have hcz15_2 : wc.cell? ⟨gb107, 2, none⟩ = some (.slice A2_2 l2_2.length c2_2) := (blk_cell BK107.out 2).trans rfl
       have hfz15_0 := blk_frozen BK107.out 0
       have hfz15_1 := blk_frozen BK107.out 1
       have hfz15_2 := blk_frozen BK107.out 2
       go_wp2
       go_meet
       case rel => exact ⟨_, (decide ((l2_2.length : Int) > 0)), (by (simp; done)), H', ⟨by have := HJ5.out; omega⟩, ⟨by (with_reducible repeat (refine blk_drewN ?_ _)); exact BK107.out⟩, ⟨by exact HB.out⟩⟩
      rw [if_neg c14] at H
      have c14b0 : (a2_1 == 0) = false := beq_eq_false_iff_ne.mpr c14
      have c14b1 : (a2_1 != 0) = true := bne_iff_ne.mpr c14
      have H' := Aside0.mk H
      clear H
      have hcz16_0 : wc.cell? ⟨gb107, 0, none⟩ = some (.bool true) := (blk_cell BK107.out 0).trans rfl
      have hcz16_1 : wc.cell? ⟨gb107, 1, none⟩ = some (.int .i64 a2_1) := (blk_cell BK107.out 1).trans rfl
      have hcz16_2 : wc.cell? ⟨gb107, 2, none⟩ = some (.slice A2_2 l2_2.length c2_2) := (blk_cell BK107.out 2).trans rfl
      have hfz16_0 := blk_frozen BK107.out 0
      have hfz16_1 := blk_frozen BK107.out 1
      have hfz16_2 := blk_frozen BK107.out 2
      go_wp2
      go_meet
      case rel => exact ⟨_, (true), (by rfl), H', ⟨by have := HJ5.out; omega⟩, ⟨by (with_reducible repeat (refine blk_drewN ?_ _)); exact BK107.out⟩, ⟨by exact HB.out⟩⟩
     replace c13 := Bool.eq_false_iff.mpr c13
     subst c13
     have H1 : (cell_Check.j1 kj5 a0 false false a2_1 l2_2) = some r := by rw [if_neg (show ¬ (false = true) by decide)] at H; exact H
     clear H
     have H := H1
     clear H1
     have H' := Aside0.mk H
     clear H
     have hcz17_0 : wc.cell? ⟨gb107, 0, none⟩ = some (.bool false) := (blk_cell BK107.out 0).trans rfl
     have hcz17_1 : wc.cell? ⟨gb107, 1, none⟩ = some (.int .i64 a2_1) := (blk_cell BK107.out 1).trans rfl
     have hcz17_2 : wc.cell? ⟨gb107, 2, none⟩ = some (.slice A2_2 l2_2.length c2_2) := (blk_cell BK107.out 2).trans rfl
     have hfz17_0 := blk_frozen BK107.out 0
     have hfz17_1 := blk_frozen BK107.out 1
     have hfz17_2 := blk_frozen BK107.out 2
     go_wp2
     go_meet
     case rel => exact ⟨_, (false), (by rfl), H', ⟨by have := HJ5.out; omega⟩, ⟨by (with_reducible repeat (refine blk_drewN ?_ _)); exact BK107.out⟩, ⟨by exact HB.out⟩⟩
    case rest =>
     clear HC12
     obtain ⟨kq, x18_11, rfl, HA, HJ11, BK107, HB⟩ := hcut
     cases kq with
     | zero => exact absurd HA.out (by simp [cell_Check.j1])
     | succ kj11 =>
      have H := HA.out
      clear HA
      simp only [cell_Check.j1] at H
      by_cases c18 : x18_11 = true
      ·subst c18
       have H1 : (some 50) = some r := by rw [if_pos rfl] at H; exact H
       clear H
       have H := H1
       clear H1
       obtain rfl := Option.some.inj H
       go_wp2
       go_ret
       exact ⟨by rfl, by exact HB.out⟩
      replace c18 := Bool.eq_false_iff.mpr c18
      subst c18
      have H1 : (if a2_0 = true then (some 0) else ((cell_Number.f a0).bind fun t109 => (if t109 = true then (cell_Check.j2 kj11 a0 (decide ((l2_2.length : Int) > 0)) a2_0 a2_1 l2_2) else (cell_Check.j2 kj11 a0 false a2_0 a2_1 l2_2)))) = some r := by rw [if_neg (show ¬ (false = true) by decide)] at H; exact H
      clear H
      have H := H1
      clear H1
      by_cases c19 : a2_0 = true
      ·subst c19
       have H1 : (some 0) = some r := by rw [if_pos rfl] at H; exact H
       clear H
       have H := H1
       clear H1
       obtain rfl := Option.some.inj H
       have hcz20_0 : wc.cell? ⟨gb107, 0, none⟩ = some (.bool true) := (blk_cell BK107.out 0).trans rfl
       have hcz20_1 : wc.cell? ⟨gb107, 1, none⟩ = some (.int .i64 a2_1) := (blk_cell BK107.out 1).trans rfl
       have hcz20_2 : wc.cell? ⟨gb107, 2, none⟩ = some (.slice A2_2 l2_2.length c2_2) := (blk_cell BK107.out 2).trans rfl
       have hfz20_0 := blk_frozen BK107.out 0
       have hfz20_1 := blk_frozen BK107.out 1
       have hfz20_2 := blk_frozen BK107.out 2
       go_wp2
       go_ret
       exact ⟨by rfl, by exact HB.out⟩
      replace c19 := Bool.eq_false_iff.mpr c19
      subst c19
      have H1 : ((cell_Number.f a0).bind fun t109 => (if t109 = true then (cell_Check.j2 kj11 a0 (decide ((l2_2.length : Int) > 0)) false a2_1 l2_2) else (cell_Check.j2 kj11 a0 false false a2_1 l2_2))) = some r := by rw [if_neg (show ¬ (false = true) by decide)] at H; exact H
      clear H
      have H := H1
      clear H1
      have HC21 := Aside0.mk H
      clear H
      have hcz22_0 : wc.cell? ⟨gb107, 0, none⟩ = some (.bool false) := (blk_cell BK107.out 0).trans rfl
      have hcz22_1 : wc.cell? ⟨gb107, 1, none⟩ = some (.int .i64 a2_1) := (blk_cell BK107.out 1).trans rfl
      have hcz22_2 : wc.cell? ⟨gb107, 2, none⟩ = some (.slice A2_2 l2_2.length c2_2) := (blk_cell BK107.out 2).trans rfl
      have hfz22_0 := blk_frozen BK107.out 0
      have hfz22_1 := blk_frozen BK107.out 1
      have hfz22_2 := blk_frozen BK107.out 2
      go_upto_region 9 with (fail)
      go_cut [35] (fun v35 wc => ∃ (kq : Nat) (x35_20 : Bool), v35 = .bool x35_20 ∧ Aside0 (cell_Check.j2 kq a0 x35_20 false a2_1 l2_2 = some r) ∧ Aside0 (kq ≤ kj11) ∧ Aside0 (wc.heap[gb107]? = some (.cells #[.bool false, .int .i64 a2_1, (.slice A2_2 l2_2.length c2_2)] 62 (0, 0))) ∧ Aside0 (Below w.heap.size w wc))
      case first =>
       have H := HC21.out
       clear HC21
       replace H := Option.bind_eq_some_iff.mp H
       obtain ⟨t109, A230, H⟩ := H
       (try dsimp only at H)
       have A23 := Aside0.mk A230
       clear A230
       by_cases c24 : t109 = true
       ·subst c24
        have H1 : (cell_Check.j2 kj11 a0 (decide ((l2_2.length : Int) > 0)) false a2_1 l2_2) = some r := by rw [if_pos rfl] at H; exact H
        clear H
        have H := H1
        clear H1
        have H' := Aside0.mk H
        clear H
        go_wp2_with ((refine goL_ Tryz.func69 #[.int .i64 a0] ?_; (with_reducible refine (cell_Number.calls a0 true _ A23.out).mono ?_); rintro e w' ⟨rfl, ⟨nd, rfl⟩⟩; refine ⟨_, rfl, ?_⟩; have hcz25_0 : wc.cell? ⟨gb107, 0, none⟩ = some (.bool false) := (blk_cell BK107.out 0).trans rfl; have hcz25_1 : wc.cell? ⟨gb107, 1, none⟩ = some (.int .i64 a2_1) := (blk_cell BK107.out 1).trans rfl; have hcz25_2 : wc.cell? ⟨gb107, 2, none⟩ = some (.slice A2_2 l2_2.length c2_2) := (blk_cell BK107.out 2).trans rfl; have hfz25_0 := blk_frozen BK107.out 0; have hfz25_1 := blk_frozen BK107.out 1; have hfz25_2 := blk_frozen BK107.out 2))
        go_meet
        case rel => exact ⟨_, (decide ((l2_2.length : Int) > 0)), (by (simp; done)), H', ⟨by have := HJ5.out; have := HJ11.out; omega⟩, ⟨by (with_reducible repeat (refine blk_drewN ?_ _)); exact BK107.out⟩, ⟨by repeat ((with_reducible first | exact HB.out | apply pw_below_drewN))⟩⟩
       replace c24 := Bool.eq_false_iff.mpr c24
       subst c24
       have H1 : (cell_Check.j2 kj11 a0 false false a2_1 l2_2) = some r := by rw [if_neg (show ¬ (false = true) by decide)] at H; exact H
       clear H
       have H := H1
       clear H1
       have H' := Aside0.mk H
       clear H
       go_wp2_with ((refine goL_ Tryz.func69 #[.int .i64 a0] ?_; (with_reducible refine (cell_Number.calls a0 false _ A23.out).mono ?_); rintro e w' ⟨rfl, ⟨nd, rfl⟩⟩; refine ⟨_, rfl, ?_⟩))
       go_meet
       case rel => exact ⟨_, (false), (by rfl), H', ⟨by have := HJ5.out; have := HJ11.out; omega⟩, ⟨by (with_reducible repeat (refine blk_drewN ?_ _)); exact BK107.out⟩, ⟨by repeat ((with_reducible first | exact HB.out | apply pw_below_drewN))⟩⟩
      case rest =>
       clear HC21
       try clear hcz22_0
       try clear hcz22_1
       try clear hcz22_2
       try clear hfz22_0
       try clear hfz22_1
       try clear hfz22_2
       obtain ⟨kq, x35_20, rfl, HA, HJ20, BK107, HB⟩ := hcut
       cases kq with
       | zero => exact absurd HA.out (by simp [cell_Check.j2])
       | succ kj20 =>
        have H := HA.out
        clear HA
        simp only [cell_Check.j2] at H
        have HC26 := Aside0.mk H
        clear H
        go_upto_if 35 with (fail)
        go_cut [35] (fun v35 wc => ∃ (kq : Nat) (x35_25 : Bool), v35 = .bool x35_25 ∧ Aside0 (cell_Check.j3 kq a0 x35_25 false a2_1 l2_2 = some r) ∧ Aside0 (kq ≤ kj20) ∧ Aside0 (wc.heap[gb107]? = some (.cells #[.bool false, .int .i64 a2_1, (.slice A2_2 l2_2.length c2_2)] 62 (0, 0))) ∧ Aside0 (Below w.heap.size w wc))
        case first =>
         have H := HC26.out
         clear HC26
         by_cases c27 : x35_20 = true
         ·subst c27
          have H1 : (cell_Check.j3 kj20 a0 true false a2_1 l2_2) = some r := by rw [if_pos rfl] at H; exact H
          clear H
          have H := H1
          clear H1
          have H' := Aside0.mk H
          clear H
          go_wp2
          go_meet
          case rel => exact ⟨_, (true), (by rfl), H', ⟨by have := HJ5.out; have := HJ11.out; have := HJ20.out; omega⟩, ⟨by (with_reducible repeat (refine blk_drewN ?_ _)); exact BK107.out⟩, ⟨by exact HB.out⟩⟩
         replace c27 := Bool.eq_false_iff.mpr c27
         subst c27
         have H1 : ((cell_Number.f a0).bind fun t110 => (if t110 = true then (cell_Check.j3 kj20 a0 false false a2_1 l2_2) else (cell_Check.j3 kj20 a0 (a2_1 != 0) false a2_1 l2_2))) = some r := by rw [if_neg (show ¬ (false = true) by decide)] at H; exact H
         clear H
         have H := H1
         clear H1
         replace H := Option.bind_eq_some_iff.mp H
         obtain ⟨t110, A280, H⟩ := H
         (try dsimp only at H)
         have A28 := Aside0.mk A280
         clear A280
         by_cases c29 : t110 = true
         ·subst c29
          have H1 : (cell_Check.j3 kj20 a0 false false a2_1 l2_2) = some r := by rw [if_pos rfl] at H; exact H
          clear H
          have H := H1
          clear H1
          have H' := Aside0.mk H
          clear H
          go_wp2_with ((refine goL_ Tryz.func69 #[.int .i64 a0] ?_; (with_reducible refine (cell_Number.calls a0 true _ A28.out).mono ?_); rintro e w' ⟨rfl, ⟨nd, rfl⟩⟩; refine ⟨_, rfl, ?_⟩))
          go_meet
          case rel => exact ⟨_, (false), (by rfl), H', ⟨by have := HJ5.out; have := HJ11.out; have := HJ20.out; omega⟩, ⟨by (with_reducible repeat (refine blk_drewN ?_ _)); exact BK107.out⟩, ⟨by repeat ((with_reducible first | exact HB.out | apply pw_below_drewN))⟩⟩
         replace c29 := Bool.eq_false_iff.mpr c29
         subst c29
         have H1 : (cell_Check.j3 kj20 a0 (a2_1 != 0) false a2_1 l2_2) = some r := by rw [if_neg (show ¬ (false = true) by decide)] at H; exact H
         clear H
         have H := H1
         clear H1
         have H' := Aside0.mk H
         clear H
         go_wp2_with ((refine goL_ Tryz.func69 #[.int .i64 a0] ?_; (with_reducible refine (cell_Number.calls a0 false _ A28.out).mono ?_); rintro e w' ⟨rfl, ⟨nd, rfl⟩⟩; refine ⟨_, rfl, ?_⟩; have hcz30_0 : wc.cell? ⟨gb107, 0, none⟩ = some (.bool false) := (blk_cell BK107.out 0).trans rfl; have hcz30_1 : wc.cell? ⟨gb107, 1, none⟩ = some (.int .i64 a2_1) := (blk_cell BK107.out 1).trans rfl; have hcz30_2 : wc.cell? ⟨gb107, 2, none⟩ = some (.slice A2_2 l2_2.length c2_2) := (blk_cell BK107.out 2).trans rfl; have hfz30_0 := blk_frozen BK107.out 0; have hfz30_1 := blk_frozen BK107.out 1; have hfz30_2 := blk_frozen BK107.out 2))
         go_meet
         case rel => exact ⟨_, ((a2_1 != 0)), (by rfl), H', ⟨by have := HJ5.out; have := HJ11.out; have := HJ20.out; omega⟩, ⟨by (with_reducible repeat (refine blk_drewN ?_ _)); exact BK107.out⟩, ⟨by repeat ((with_reducible first | exact HB.out | apply pw_below_drewN))⟩⟩
        case rest =>
         clear HC26
         obtain ⟨kq, x35_25, rfl, HA, HJ25, BK107, HB⟩ := hcut
         cases kq with
         | zero => exact absurd HA.out (by simp [cell_Check.j3])
         | succ kj25 =>
          have H := HA.out
          clear HA
          simp only [cell_Check.j3] at H
          by_cases c31 : x35_25 = true
          ·subst c31
           have H1 : (some 50) = some r := by rw [if_pos rfl] at H; exact H
           clear H
           have H := H1
           clear H1
           obtain rfl := Option.some.inj H
           go_wp2
           go_ret
           exact ⟨by rfl, by exact HB.out⟩
          replace c31 := Bool.eq_false_iff.mpr c31
          subst c31
          have H1 : ((cell_Number.f a0).bind fun t111 => (if t111 = true then ((cell_holds.f a0 a2_1).bind fun t112 => (if t112 = true then (some 0) else (some 52))) else ((cell_text.f a0 l2_2).bind fun t113 => (some t113)))) = some r := by rw [if_neg (show ¬ (false = true) by decide)] at H; exact H
          clear H
          have H := H1
          clear H1
          replace H := Option.bind_eq_some_iff.mp H
          obtain ⟨t111, A320, H⟩ := H
          (try dsimp only at H)
          have A32 := Aside0.mk A320
          clear A320
          by_cases c33 : t111 = true
          ·subst c33
           have H1 : ((cell_holds.f a0 a2_1).bind fun t112 => (if t112 = true then (some 0) else (some 52))) = some r := by rw [if_pos rfl] at H; exact H
           clear H
           have H := H1
           clear H1
           replace H := Option.bind_eq_some_iff.mp H
           obtain ⟨t112, A340, H⟩ := H
           (try dsimp only at H)
           have A34 := Aside0.mk A340
           clear A340
           by_cases c35 : t112 = true
           ·subst c35
            have H1 : (some 0) = some r := by rw [if_pos rfl] at H; exact H
            clear H
            have H := H1
            clear H1
            obtain rfl := Option.some.inj H
            go_wp2_with (first | ((with_reducible refine gate_callee (f := 69) rfl ?_); refine goL_ Tryz.func69 #[.int .i64 a0] ?_; (with_reducible refine (cell_Number.calls a0 true _ A32.out).mono ?_); rintro e w' ⟨rfl, ⟨nd, rfl⟩⟩; refine ⟨_, rfl, ?_⟩; have hcz36_0 : wc.cell? ⟨gb107, 0, none⟩ = some (.bool false) := (blk_cell BK107.out 0).trans rfl; have hcz36_1 : wc.cell? ⟨gb107, 1, none⟩ = some (.int .i64 a2_1) := (blk_cell BK107.out 1).trans rfl; have hcz36_2 : wc.cell? ⟨gb107, 2, none⟩ = some (.slice A2_2 l2_2.length c2_2) := (blk_cell BK107.out 2).trans rfl; have hfz36_0 := blk_frozen BK107.out 0; have hfz36_1 := blk_frozen BK107.out 1; have hfz36_2 := blk_frozen BK107.out 2) | ((with_reducible refine gate_callee (f := 101) rfl ?_); refine goL_ Tryz.func101 #[.int .i64 a0, .int .i64 a2_1] ?_; (with_reducible refine (cell_holds.calls a0 a2_1 true _ A34.out).mono ?_); rintro e w' ⟨rfl, ⟨nd, rfl⟩⟩; refine ⟨_, rfl, ?_⟩))
            go_ret
            exact ⟨by rfl, by repeat ((with_reducible first | exact HB.out | apply pw_below_drewN))⟩
           replace c35 := Bool.eq_false_iff.mpr c35
           subst c35
           have H1 : (some 52) = some r := by rw [if_neg (show ¬ (false = true) by decide)] at H; exact H
           clear H
           have H := H1
           clear H1
           obtain rfl := Option.some.inj H
           go_wp2_with (first | ((with_reducible refine gate_callee (f := 69) rfl ?_); refine goL_ Tryz.func69 #[.int .i64 a0] ?_; (with_reducible refine (cell_Number.calls a0 true _ A32.out).mono ?_); rintro e w' ⟨rfl, ⟨nd, rfl⟩⟩; refine ⟨_, rfl, ?_⟩; have hcz37_0 : wc.cell? ⟨gb107, 0, none⟩ = some (.bool false) := (blk_cell BK107.out 0).trans rfl; have hcz37_1 : wc.cell? ⟨gb107, 1, none⟩ = some (.int .i64 a2_1) := (blk_cell BK107.out 1).trans rfl; have hcz37_2 : wc.cell? ⟨gb107, 2, none⟩ = some (.slice A2_2 l2_2.length c2_2) := (blk_cell BK107.out 2).trans rfl; have hfz37_0 := blk_frozen BK107.out 0; have hfz37_1 := blk_frozen BK107.out 1; have hfz37_2 := blk_frozen BK107.out 2) | ((with_reducible refine gate_callee (f := 101) rfl ?_); refine goL_ Tryz.func101 #[.int .i64 a0, .int .i64 a2_1] ?_; (with_reducible refine (cell_holds.calls a0 a2_1 false _ A34.out).mono ?_); rintro e w' ⟨rfl, ⟨nd, rfl⟩⟩; refine ⟨_, rfl, ?_⟩))
           go_ret
           exact ⟨by rfl, by repeat ((with_reducible first | exact HB.out | apply pw_below_drewN))⟩
          replace c33 := Bool.eq_false_iff.mpr c33
          subst c33
          have H1 : ((cell_text.f a0 l2_2).bind fun t113 => (some t113)) = some r := by rw [if_neg (show ¬ (false = true) by decide)] at H; exact H
          clear H
          have H := H1
          clear H1
          replace H := Option.bind_eq_some_iff.mp H
          obtain ⟨t113, A380, H⟩ := H
          (try dsimp only at H)
          have A38 := Aside0.mk A380
          clear A380
          obtain rfl := Option.some.inj H
          go_wp2_with (first | ((with_reducible refine gate_callee (f := 69) rfl ?_); refine goL_ Tryz.func69 #[.int .i64 a0] ?_; (with_reducible refine (cell_Number.calls a0 false _ A32.out).mono ?_); rintro e w' ⟨rfl, ⟨nd, rfl⟩⟩; refine ⟨_, rfl, ?_⟩; have hcz39_0 : wc.cell? ⟨gb107, 0, none⟩ = some (.bool false) := (blk_cell BK107.out 0).trans rfl; have hcz39_1 : wc.cell? ⟨gb107, 1, none⟩ = some (.int .i64 a2_1) := (blk_cell BK107.out 1).trans rfl; have hcz39_2 : wc.cell? ⟨gb107, 2, none⟩ = some (.slice A2_2 l2_2.length c2_2) := (blk_cell BK107.out 2).trans rfl; have hfz39_0 := blk_frozen BK107.out 0; have hfz39_1 := blk_frozen BK107.out 1; have hfz39_2 := blk_frozen BK107.out 2) | ((with_reducible refine gate_callee (f := 100) rfl ?_); refine goL_ Tryz.func100 #[.int .i64 a0, .slice A2_2 l2_2.length c2_2] ?_; (with_reducible refine (cell_text.calls a0 _ _ l2_2 t113 _ (by repeat ((exact (Kd.C_below HR2_2.out (by repeat ((with_reducible first | exact HB.out | apply pw_below_drewN))))))) (HC2_2.out) A38.out).mono ?_); rintro e w' ⟨rfl, ⟨nd, rfl⟩⟩; refine ⟨_, rfl, ?_⟩))
          go_ret
          exact ⟨by rfl, by repeat ((with_reducible first | exact HB.out | apply pw_below_drewN))⟩
 replace c5 := Bool.eq_false_iff.mpr c5
 subst c5
 have H1 : (some 1) = some r := by rw [if_neg (show ¬ (false = true) by decide)] at H; exact H
 clear H
 have H := H1
 clear H1
 obtain rfl := Option.some.inj H
 go_enter Tryz.func70, Tryz.ntmps70
 go_wp2_with (first | ((with_reducible refine gate_dst (N := 5) rfl ?_); (try (refine gate_guard (by rfl) ?_; dsimp only)); refine box_event ?hg (N := 5) ?hd (cs := #[.bool a2_0, .int .i64 a2_1, .slice A2_2 l2_2.length c2_2]) (t := 62) ?hr ?_; (case hd => rfl); (case hg => rfl); (case hr => (go_simp; done)); intro gb107 hg w40 hbox hb; have n0_ := Aside0.mk (below_step HB.out hb); have n1_ := Aside0.mk (hbox); have n2_ := Aside0.mk ((by rw [hg]; exact (below_size HB.out) : w.heap.size ≤ gb107)); have n3_ := Aside0.mk ((by rw [hg]; exact (below_size HB.out) : w.heap.size ≤ gb107)); revert n0_ n1_ n2_ n3_; clear HB; intro HB BK107 GW107 GE107; clear hb hbox hg) | ((with_reducible refine gate_callee (f := 99) rfl ?_); refine goL_ Tryz.func99 #[.int .i64 a0] ?_; (with_reducible refine (cell_known.calls a0 false _ A4.out).mono ?_); rintro e w' ⟨rfl, ⟨nd, rfl⟩⟩; refine ⟨_, rfl, ?_⟩))
 go_ret
 exact ⟨by rfl, by repeat ((with_reducible first | exact HB.out | apply pw_below_drewN))⟩
def block_check.l0 : Nat → Int → List (S62) → Int → Int → Option (Int)
 | 0, _, _, _, _ => none
 | k + 1, x0, x11, x12, x13 => if x13 < x12 then (if 0 ≤ x13 then (if x13 < (x11.length : Int) then ((cell_Check.f k x0 true ((rd_T62 x11 x13).f0) ((rd_T62 x11 x13).f1) ((rd_T62 x11 x13).f2)).bind fun t116 => (if t116 = 0 then (block_check.l0 k x0 x11 x12 (wrap64 (x13 + 1))) else (some t116))) else (none)) else (none)) else (some 0)
def block_check.f (k : Nat) (a0 : Int) (l1 : List (S62)) : Option (Int) := if (l1.length : Int) > 4096 then (some 4) else (block_check.l0 k a0 l1 (l1.length : Int) 0)
set_option maxHeartbeats 8000000 in
set_option maxRecDepth 100000 in
theorem block_check.calls (k : Nat) (a0 : Int) (A1 : Option Addr) (c1 : Nat) (l1 : List (S62)) (r : Int) (w : World) (hr1 : Kd.C k62 w A1 l1.length l1) (hc1 : l1.length ≤ c1) (h : block_check.f k a0 l1 = some r) :
 Calls Tryz.prog 39 #[.int .i64 a0, .slice A1 l1.length c1] w fun e w' => e = .returned (.int .i64 r) ∧ Below w.heap.size w w' := by
 have hu62 := Tryz.underlying62
 have HR1 := Aside0.mk hr1
 have HC1 := Aside0.mk hc1
 clear hr1 hc1
 have HB := Aside0.mk (Below.refl w.heap.size w)
 unfold block_check.f at h
 have H := h
 clear h
 by_cases c3 : (l1.length : Int) > 4096
 ·rw [if_pos c3] at H
  have c3b0 : decide (4096 < (l1.length : Int)) = true := decide_eq_true c3
  have c3b1 : decide (4096 < l1.length) = true := decide_eq_true (by omega)
  clear c3
  obtain rfl := Option.some.inj H
  go_enter Tryz.func39, Tryz.ntmps39
  go_wp2
  go_ret
  exact ⟨by rfl, by exact HB.out⟩
 rw [if_neg c3] at H
 have c3b0 : decide (4096 < (l1.length : Int)) = false := decide_eq_false c3
 have c3b1 : decide (4096 < l1.length) = false := decide_eq_false (by omega)
 clear c3
 have H' := Aside0.mk H
 clear H
 go_enter Tryz.func39, Tryz.ntmps39
 go_wp2
 go_loopg [13] k (fun kq v13 w' => ∃ (x13_1 : Int), v13 = .int .i64 x13_1 ∧ Aside0 (block_check.l0 kq a0 l1 (l1.length : Int) x13_1 = some r) ∧ Aside0 (kq ≤ k) ∧ Aside0 (Below w.heap.size w w'))
 case atStart => exact ⟨(0), (by rfl), H', ⟨Nat.le_refl _⟩, ⟨by exact HB.out⟩⟩
 case round =>
  clear H'
  try clear c3b0
  try clear c3b1
  obtain ⟨x13_1, rfl, HA, HK1, HB⟩ := hrel
  cases gk with
  | zero => exact absurd HA.out (by simp [block_check.l0])
  | succ k1 =>
   have H := HA.out
   clear HA
   simp only [block_check.l0] at H
   by_cases c4 : x13_1 < (l1.length : Int)
   ·rw [if_pos c4] at H
    have c4b0 : decide (x13_1 < (l1.length : Int)) = true := decide_eq_true c4
    clear c4
    by_cases c5 : 0 ≤ x13_1
    ·rw [if_pos c5] at H
     have c5b0 : decide (0 ≤ x13_1) = true := decide_eq_true c5
     clear c5
     by_cases c6 : x13_1 < (l1.length : Int)
     ·rw [if_pos c6] at H
      have c6b0 : decide (x13_1 < (l1.length : Int)) = true := decide_eq_true c6
      clear c6
      replace H := Option.bind_eq_some_iff.mp H
      obtain ⟨t116, A70, H⟩ := H
      (try dsimp only at H)
      have A7 := Aside0.mk A70
      clear A70
      by_cases c8 : t116 = 0
      ·rw [if_pos c8] at H
       have c8b0 : (t116 == 0) = true := beq_iff_eq.mpr c8
       have c8b1 : (t116 != 0) = false := bne_eq_false_iff_eq.mpr c8
       clear c8
       have H' := Aside0.mk H
       clear H
       have p114 : 0 ≤ (x13_1 : Int) := of_decide_eq_true ‹_›
       have q114 : x13_1 < (l1.length : Int) := of_decide_eq_true ‹_›
       obtain ⟨ad114, A114_2, c114_2, e114, hx114_0, hx114_1, hx114_2, hl114_2, hi114_2⟩ := at_T62 HR1.out x13_1 p114 q114
       cases e114
       replace hx114_0 := (HB.out.cell (World.block_lt_of_cell? w _ hx114_0)).trans hx114_0
       replace hx114_1 := (HB.out.cell (World.block_lt_of_cell? w _ hx114_1)).trans hx114_1
       replace hx114_2 := (HB.out.cell (World.block_lt_of_cell? w _ hx114_2)).trans hx114_2
       have HR114_2 := Aside0.mk hi114_2
       have HC114_2 := Aside0.mk hl114_2
       clear hi114_2 hl114_2
       replace p114 := eq_true p114
       replace q114 := eq_true q114
       go_wp2_with (first | ((with_reducible refine gate_dst (N := 6) rfl ?_); refine box_event ?hg (N := 6) ?hd (cs := #[.bool false, .int .i64 0, .slice none 0 0]) (t := 62) ?hr ?_; (case hd => rfl); (case hg => rfl); (case hr => (go_simp; done)); intro gb115 hg w9 hbox hb; have n0_ := Aside0.mk (below_step HB.out hb); have n1_ := Aside0.mk (hbox); have n2_ := Aside0.mk ((by rw [hg]; exact (below_size HB.out) : w.heap.size ≤ gb115)); have n3_ := Aside0.mk ((by rw [hg]; exact (below_size HB.out) : w.heap.size ≤ gb115)); revert n0_ n1_ n2_ n3_; clear HB; intro HB BK115 GW115 GE115; clear hb hbox hg; have hcz10_0 : w9.cell? ⟨gb115, 0, none⟩ = some (.bool false) := (blk_cell BK115.out 0).trans rfl; have hcz10_1 : w9.cell? ⟨gb115, 1, none⟩ = some (.int .i64 0) := (blk_cell BK115.out 1).trans rfl; have hcz10_2 : w9.cell? ⟨gb115, 2, none⟩ = some (.slice none 0 0) := (blk_cell BK115.out 2).trans rfl; have hfz10_0 := blk_frozen BK115.out 0; have hfz10_1 := blk_frozen BK115.out 1; have hfz10_2 := blk_frozen BK115.out 2) | ((with_reducible refine gate_callee (f := 70) rfl ?_); refine goL_ Tryz.func70 #[.int .i64 a0, .bool true, .agg #[.bool ((rd_T62 l1 x13_1).f0), .int .i64 ((rd_T62 l1 x13_1).f1), .slice A114_2 ((rd_T62 l1 x13_1).f2).length c114_2]] ?_; (with_reducible refine (cell_Check.calls k1 a0 true ((rd_T62 l1 x13_1).f0) ((rd_T62 l1 x13_1).f1) _ _ ((rd_T62 l1 x13_1).f2) t116 _ (by exact Kd.C_below HR114_2.out (by repeat ((with_reducible first | exact HB.out | refine below_set ?_ GE115.out)))) (HC114_2.out) A7.out).mono ?_); rintro e w11 ⟨rfl, hb⟩; refine ⟨_, rfl, ?_⟩; have n0_ := Aside0.mk (blk_below (g := gb115) (o := .cells #[.bool ((rd_T62 l1 x13_1).f0), .int .i64 ((rd_T62 l1 x13_1).f1), .slice A114_2 ((rd_T62 l1 x13_1).f2).length c114_2] 62 (0, 0)) (by (with_reducible repeat (refine blk_drewN ?_ _)); refine blk_put (cs := #[.bool ((rd_T62 l1 x13_1).f0), .int .i64 ((rd_T62 l1 x13_1).f1), .slice none 0 0]) ?_ 2 _ rfl; (with_reducible repeat (refine blk_drewN ?_ _)); refine blk_put (cs := #[.bool ((rd_T62 l1 x13_1).f0), .int .i64 0, .slice none 0 0]) ?_ 1 _ rfl; (with_reducible repeat (refine blk_drewN ?_ _)); refine blk_put (cs := #[.bool false, .int .i64 0, .slice none 0 0]) ?_ 0 _ rfl; (with_reducible repeat (refine blk_drewN ?_ _)); exact BK115.out) hb); have n1_ := Aside0.mk (below_step (by repeat ((with_reducible first | exact HB.out | refine below_set ?_ GE115.out))) hb); revert n0_ n1_; clear BK115 HB; intro BK115 HB; (try clear hb)))
       go_roundg k1
       case measure => have := HK1.out; omega
       case rel => exact ⟨(wrap64 (x13_1 + 1)), (by rfl), H', ⟨by have := HK1.out; omega⟩, ⟨by exact HB.out⟩⟩
      rw [if_neg c8] at H
      have c8b0 : (t116 == 0) = false := beq_eq_false_iff_ne.mpr c8
      have c8b1 : (t116 != 0) = true := bne_iff_ne.mpr c8
      obtain rfl := Option.some.inj H
      have p114 : 0 ≤ (x13_1 : Int) := of_decide_eq_true ‹_›
      have q114 : x13_1 < (l1.length : Int) := of_decide_eq_true ‹_›
      obtain ⟨ad114, A114_2, c114_2, e114, hx114_0, hx114_1, hx114_2, hl114_2, hi114_2⟩ := at_T62 HR1.out x13_1 p114 q114
      cases e114
      replace hx114_0 := (HB.out.cell (World.block_lt_of_cell? w _ hx114_0)).trans hx114_0
      replace hx114_1 := (HB.out.cell (World.block_lt_of_cell? w _ hx114_1)).trans hx114_1
      replace hx114_2 := (HB.out.cell (World.block_lt_of_cell? w _ hx114_2)).trans hx114_2
      have HR114_2 := Aside0.mk hi114_2
      have HC114_2 := Aside0.mk hl114_2
      clear hi114_2 hl114_2
      replace p114 := eq_true p114
      replace q114 := eq_true q114
      go_wp2_with (first | ((with_reducible refine gate_dst (N := 6) rfl ?_); refine box_event ?hg (N := 6) ?hd (cs := #[.bool false, .int .i64 0, .slice none 0 0]) (t := 62) ?hr ?_; (case hd => rfl); (case hg => rfl); (case hr => (go_simp; done)); intro gb115 hg w12 hbox hb; have n0_ := Aside0.mk (below_step HB.out hb); have n1_ := Aside0.mk (hbox); have n2_ := Aside0.mk ((by rw [hg]; exact (below_size HB.out) : w.heap.size ≤ gb115)); have n3_ := Aside0.mk ((by rw [hg]; exact (below_size HB.out) : w.heap.size ≤ gb115)); revert n0_ n1_ n2_ n3_; clear HB; intro HB BK115 GW115 GE115; clear hb hbox hg; have hcz13_0 : w12.cell? ⟨gb115, 0, none⟩ = some (.bool false) := (blk_cell BK115.out 0).trans rfl; have hcz13_1 : w12.cell? ⟨gb115, 1, none⟩ = some (.int .i64 0) := (blk_cell BK115.out 1).trans rfl; have hcz13_2 : w12.cell? ⟨gb115, 2, none⟩ = some (.slice none 0 0) := (blk_cell BK115.out 2).trans rfl; have hfz13_0 := blk_frozen BK115.out 0; have hfz13_1 := blk_frozen BK115.out 1; have hfz13_2 := blk_frozen BK115.out 2) | ((with_reducible refine gate_callee (f := 70) rfl ?_); refine goL_ Tryz.func70 #[.int .i64 a0, .bool true, .agg #[.bool ((rd_T62 l1 x13_1).f0), .int .i64 ((rd_T62 l1 x13_1).f1), .slice A114_2 ((rd_T62 l1 x13_1).f2).length c114_2]] ?_; (with_reducible refine (cell_Check.calls k1 a0 true ((rd_T62 l1 x13_1).f0) ((rd_T62 l1 x13_1).f1) _ _ ((rd_T62 l1 x13_1).f2) t116 _ (by exact Kd.C_below HR114_2.out (by repeat ((with_reducible first | exact HB.out | refine below_set ?_ GE115.out)))) (HC114_2.out) A7.out).mono ?_); rintro e w14 ⟨rfl, hb⟩; refine ⟨_, rfl, ?_⟩; have n0_ := Aside0.mk (blk_below (g := gb115) (o := .cells #[.bool ((rd_T62 l1 x13_1).f0), .int .i64 ((rd_T62 l1 x13_1).f1), .slice A114_2 ((rd_T62 l1 x13_1).f2).length c114_2] 62 (0, 0)) (by (with_reducible repeat (refine blk_drewN ?_ _)); refine blk_put (cs := #[.bool ((rd_T62 l1 x13_1).f0), .int .i64 ((rd_T62 l1 x13_1).f1), .slice none 0 0]) ?_ 2 _ rfl; (with_reducible repeat (refine blk_drewN ?_ _)); refine blk_put (cs := #[.bool ((rd_T62 l1 x13_1).f0), .int .i64 0, .slice none 0 0]) ?_ 1 _ rfl; (with_reducible repeat (refine blk_drewN ?_ _)); refine blk_put (cs := #[.bool false, .int .i64 0, .slice none 0 0]) ?_ 0 _ rfl; (with_reducible repeat (refine blk_drewN ?_ _)); exact BK115.out) hb); have n1_ := Aside0.mk (below_step (by repeat ((with_reducible first | exact HB.out | refine below_set ?_ GE115.out))) hb); revert n0_ n1_; clear BK115 HB; intro BK115 HB; (try clear hb)))
      go_ret
      exact ⟨by rfl, by exact HB.out⟩
     rw [if_neg c6] at H
     exact absurd H (by simp)
    rw [if_neg c5] at H
    exact absurd H (by simp)
   rw [if_neg c4] at H
   have c4b0 : decide (x13_1 < (l1.length : Int)) = false := decide_eq_false c4
   clear c4
   obtain rfl := Option.some.inj H
   go_wp2
   go_ret
   exact ⟨by rfl, by exact HB.out⟩
def bits_Width.l0 : Nat → Int → List Int → Int → Int → Option (Int)
 | 0, _, _, _, _ => none
 | k + 1, x3, x6, x7, x8 => if x8 < x7 then (if 0 ≤ x8 then (if x8 < (x6.length : Int) then (bits_Width.l0 k (Go.bits .or .u64 x3 (rd x6 x8)) x6 x7 (wrap64 (x8 + 1))) else (none)) else (none)) else ((bits_Len64.f x3).bind fun t124 => (some t124))
def bits_Width.f (k : Nat) (l0 : List Int) : Option (Int) := bits_Width.l0 k 0 l0 (l0.length : Int) 0
set_option maxHeartbeats 8000000 in
set_option maxRecDepth 100000 in
theorem bits_Width.calls (k : Nat) (A0 : Option Addr) (c0 : Nat) (l0 : List Int) (r : Int) (w : World) (hr0 : Kd.C (Kd.int .u64) w A0 l0.length l0) (hc0 : l0.length ≤ c0) (h : bits_Width.f k l0 = some r) :
 Calls Tryz.prog 83 #[.slice A0 l0.length c0] w fun e w' => e = .returned (.int .i64 r) ∧ Drawn0 w w' := by
 have HR0 := Aside0.mk hr0
 have HC0 := Aside0.mk hc0
 clear hr0 hc0
 unfold bits_Width.f at h
 have H := h
 clear h
 have H' := Aside0.mk H
 clear H
 go_enter Tryz.func83, Tryz.ntmps83
 go_wp2
 go_loopg [3, 8] k (fun kq v3 v8 w' => ∃ (x3_1 : Int) (x8_1 : Int), v3 = .int .u64 x3_1 ∧ v8 = .int .i64 x8_1 ∧ Aside0 (bits_Width.l0 kq x3_1 l0 (l0.length : Int) x8_1 = some r) ∧ Aside0 (kq ≤ k) ∧ Drawn0 w w')
 case atStart => exact ⟨(0), (0), (by rfl), (by rfl), H', ⟨Nat.le_refl _⟩, by repeat (exact Drawn0.refl _)⟩
 case round =>
  clear H'
  obtain ⟨x3_1, x8_1, rfl, rfl, HA, HK1, ⟨m1, rfl⟩⟩ := hrel
  cases gk with
  | zero => exact absurd HA.out (by simp [bits_Width.l0])
  | succ k1 =>
   have H := HA.out
   clear HA
   simp only [bits_Width.l0] at H
   by_cases c2 : x8_1 < (l0.length : Int)
   ·rw [if_pos c2] at H
    have c2b0 : decide (x8_1 < (l0.length : Int)) = true := decide_eq_true c2
    clear c2
    by_cases c3 : 0 ≤ x8_1
    ·rw [if_pos c3] at H
     have c3b0 : decide (0 ≤ x8_1) = true := decide_eq_true c3
     clear c3
     by_cases c4 : x8_1 < (l0.length : Int)
     ·rw [if_pos c4] at H
      have c4b0 : decide (x8_1 < (l0.length : Int)) = true := decide_eq_true c4
      clear c4
      have H' := Aside0.mk H
      clear H
      have p123 : 0 ≤ (x8_1 : Int) := of_decide_eq_true ‹_›
      have q123 : x8_1 < (l0.length : Int) := of_decide_eq_true ‹_›
      obtain ⟨ad123, e123, hx123_0⟩ := Kd.at_int HR0.out x8_1 p123 q123
      cases e123
      replace p123 := eq_true p123
      replace q123 := eq_true q123
      go_wp2
      go_roundg k1
      case measure => have := HK1.out; omega
      case rel => exact ⟨(Go.bits .or .u64 x3_1 (rd l0 x8_1)), (wrap64 (x8_1 + 1)), (by rfl), (by rfl), H', ⟨by have := HK1.out; omega⟩, by repeat (first | exact Drawn0.refl _ | apply Drawn0.step)⟩
     rw [if_neg c4] at H
     exact absurd H (by simp)
    rw [if_neg c3] at H
    exact absurd H (by simp)
   rw [if_neg c2] at H
   have c2b0 : decide (x8_1 < (l0.length : Int)) = false := decide_eq_false c2
   clear c2
   replace H := Option.bind_eq_some_iff.mp H
   obtain ⟨t124, A50, H⟩ := H
   (try dsimp only at H)
   have A5 := Aside0.mk A50
   clear A50
   obtain rfl := Option.some.inj H
   go_wp2_with ((refine goL_ Tryz.func124 #[.int .u64 x3_1] ?_; (with_reducible refine (bits_Len64.calls x3_1 t124 _ A5.out).mono ?_); rintro e w' ⟨rfl, ⟨nd, rfl⟩⟩; refine ⟨_, rfl, ?_⟩))
   go_ret
   exact ⟨by rfl, by repeat (first | exact Drawn0.refl _ | apply Drawn0.step)⟩
mutual
def bits_Pack.l0 : Nat → Int → List Int → Int → List Int → Int → Int → Option (List Int × Int)
 | 0, _, _, _, _, _, _ => none
 | k + 1, x0, x6, x7, x29, x30, x31 => if x31 < x30 then (if 0 ≤ x31 then (if x31 < (x29.length : Int) then (bits_Pack.l1 k x0 x6 x7 (rd x29 x31) x0 x29 x30 x31) else (none)) else (none)) else (some (x6, 0))
def bits_Pack.l1 : Nat → Int → List Int → Int → Int → Int → List Int → Int → Int → Option (List Int × Int)
 | 0, _, _, _, _, _, _, _, _ => none
 | k + 1, x0, x6, x7, x9, x10, x29, x30, x31 => if x10 > 0 then (if 0 ≤ (x7 / 8) then (if (x7 / 8) < (x6.length : Int) then (if 0 ≤ (IntKind.u64.wrap (mn (wrap64 (8 - (Go.bits .and .i64 x7 7))) x10)) then (if 0 ≤ (IntKind.u64.wrap (Go.bits .and .i64 x7 7)) then (bits_Pack.l1 k x0 (x6.set ((x7 / 8) : Int).toNat (Go.bits .or .u8 (rd x6 (x7 / 8)) (shl .u8 ((Go.bits .and .u64 x9 (IntKind.u64.wrap ((shl .u64 1 (IntKind.u64.wrap (mn (wrap64 (8 - (Go.bits .and .i64 x7 7))) x10))) - 1))) % 256) (IntKind.u64.wrap (Go.bits .and .i64 x7 7))))) (wrap64 (x7 + (mn (wrap64 (8 - (Go.bits .and .i64 x7 7))) x10))) (shr .u64 x9 (IntKind.u64.wrap (mn (wrap64 (8 - (Go.bits .and .i64 x7 7))) x10))) (wrap64 (x10 - (mn (wrap64 (8 - (Go.bits .and .i64 x7 7))) x10))) x29 x30 x31) else (none)) else (none)) else (none)) else (none)) else (bits_Pack.l0 k x0 x6 x7 x29 x30 (wrap64 (x31 + 1)))
end
def bits_Pack.f (k : Nat) (a0 : Int) (l1 : List Int) : Option (List Int × Int) := (bits_badWidth.f a0).bind fun t125 => (if t125 = true then (some (([] : List Int), 1)) else (if (l1.length : Int) > 4096 then (some (([] : List Int), 4)) else ((bits_Width.f k l1).bind fun t126 => (if t126 > a0 then (some (([] : List Int), 10)) else ((bits_need.f a0 (l1.length : Int)).bind fun t127 => (if 0 ≤ t127 then (if (t127 : Int).toNat ≤ 281474976710656 then (bits_Pack.l0 k a0 (List.replicate (t127 : Int).toNat 0) 0 l1 (l1.length : Int) 0) else (none)) else (none)))))))
set_option maxHeartbeats 8000000 in
set_option maxRecDepth 100000 in
theorem bits_Pack.calls (k : Nat) (a0 : Int) (A1 : Option Addr) (c1 : Nat) (l1 : List Int) (r1 : List Int) (r2 : Int) (w : World) (hr1 : Kd.C (Kd.int .u64) w A1 l1.length l1) (hc1 : l1.length ≤ c1) (h : bits_Pack.f k a0 l1 = some (r1, r2)) :
 Calls Tryz.prog 102 #[.int .i64 a0, .slice A1 l1.length c1] w fun e w' => ∃ v0_ : Value, e = .returned (.tuple #[v0_, .int .i64 r2]) ∧ Kd.R (Kd.int .u8) 5 w' w.heap.size (fun _ => True) v0_ r1 ∧ Below w.heap.size w w' := by
 have HR1 := Aside0.mk hr1
 have HC1 := Aside0.mk hc1
 clear hr1 hc1
 have HB := Aside0.mk (Below.refl w.heap.size w)
 unfold bits_Pack.f at h
 have H := h
 clear h
 replace H := Option.bind_eq_some_iff.mp H
 obtain ⟨t125, A30, H⟩ := H
 (try dsimp only at H)
 have A3 := Aside0.mk A30
 clear A30
 by_cases c4 : t125 = true
 ·subst c4
  have H1 : (some (([] : List Int), 1)) = some (r1, r2) := by rw [if_pos rfl] at H; exact H
  clear H
  have H := H1
  clear H1
  simp only [Option.some.injEq, Prod.mk.injEq] at H
  obtain ⟨rfl, rfl⟩ := H
  go_enter Tryz.func102, Tryz.ntmps102
  go_wp2_with ((refine goL_ Tryz.func121 #[.int .i64 a0] ?_; (with_reducible refine (bits_badWidth.calls a0 true _ A3.out).mono ?_); rintro e w' ⟨rfl, ⟨nd, rfl⟩⟩; refine ⟨_, rfl, ?_⟩))
  go_ret2
  exact ⟨_, by rfl, by exact Kd.R_nil _ _ _ _ _, by repeat ((with_reducible first | exact HB.out | apply pw_below_drewN))⟩
 replace c4 := Bool.eq_false_iff.mpr c4
 subst c4
 have H1 : (if (l1.length : Int) > 4096 then (some (([] : List Int), 4)) else ((bits_Width.f k l1).bind fun t126 => (if t126 > a0 then (some (([] : List Int), 10)) else ((bits_need.f a0 (l1.length : Int)).bind fun t127 => (if 0 ≤ t127 then (if (t127 : Int).toNat ≤ 281474976710656 then (bits_Pack.l0 k a0 (List.replicate (t127 : Int).toNat 0) 0 l1 (l1.length : Int) 0) else (none)) else (none)))))) = some (r1, r2) := by rw [if_neg (show ¬ (false = true) by decide)] at H; exact H
 clear H
 have H := H1
 clear H1
 by_cases c5 : (l1.length : Int) > 4096
 ·rw [if_pos c5] at H
  have c5b0 : decide (4096 < (l1.length : Int)) = true := decide_eq_true c5
  have c5b1 : decide (4096 < l1.length) = true := decide_eq_true (by omega)
  clear c5
  simp only [Option.some.injEq, Prod.mk.injEq] at H
  obtain ⟨rfl, rfl⟩ := H
  go_enter Tryz.func102, Tryz.ntmps102
  go_wp2_with ((refine goL_ Tryz.func121 #[.int .i64 a0] ?_; (with_reducible refine (bits_badWidth.calls a0 false _ A3.out).mono ?_); rintro e w' ⟨rfl, ⟨nd, rfl⟩⟩; refine ⟨_, rfl, ?_⟩))
  go_ret2
  exact ⟨_, by rfl, by exact Kd.R_nil _ _ _ _ _, by repeat ((with_reducible first | exact HB.out | apply pw_below_drewN))⟩
 rw [if_neg c5] at H
 have c5b0 : decide (4096 < (l1.length : Int)) = false := decide_eq_false c5
 have c5b1 : decide (4096 < l1.length) = false := decide_eq_false (by omega)
 clear c5
 replace H := Option.bind_eq_some_iff.mp H
 obtain ⟨t126, A60, H⟩ := H
 (try dsimp only at H)
 have A6 := Aside0.mk A60
 clear A60
 by_cases c7 : t126 > a0
 ·rw [if_pos c7] at H
  have c7b0 : decide (a0 < t126) = true := decide_eq_true c7
  clear c7
  simp only [Option.some.injEq, Prod.mk.injEq] at H
  obtain ⟨rfl, rfl⟩ := H
  go_enter Tryz.func102, Tryz.ntmps102
  go_wp2_with (first | ((with_reducible refine gate_callee (f := 121) rfl ?_); refine goL_ Tryz.func121 #[.int .i64 a0] ?_; (with_reducible refine (bits_badWidth.calls a0 false _ A3.out).mono ?_); rintro e w' ⟨rfl, ⟨nd, rfl⟩⟩; refine ⟨_, rfl, ?_⟩) | ((with_reducible refine gate_callee (f := 83) rfl ?_); refine goL_ Tryz.func83 #[.slice A1 l1.length c1] ?_; (with_reducible refine (bits_Width.calls k _ _ l1 t126 _ ?side1 ?side2 A6.out).mono ?_); (case side1 => repeat (exact HR1.out)); (case side2 => exact HC1.out); rintro e w' ⟨rfl, ⟨nd, rfl⟩⟩; refine ⟨_, rfl, ?_⟩))
  go_ret2
  exact ⟨_, by rfl, by exact Kd.R_nil _ _ _ _ _, by repeat ((with_reducible first | exact HB.out | apply pw_below_drewN))⟩
 rw [if_neg c7] at H
 have c7b0 : decide (a0 < t126) = false := decide_eq_false c7
 clear c7
 replace H := Option.bind_eq_some_iff.mp H
 obtain ⟨t127, A80, H⟩ := H
 (try dsimp only at H)
 have A8 := Aside0.mk A80
 clear A80
 by_cases c9 : 0 ≤ t127
 ·rw [if_pos c9] at H
  have c9b0 := eq_true c9
  have c9b1 : decide (0 ≤ t127) = true := decide_eq_true c9
  clear c9
  by_cases c10 : (t127 : Int).toNat ≤ 281474976710656
  ·rw [if_pos c10] at H
   have c10b0 := eq_true c10
   have c10b1 : decide ((t127 : Int).toNat ≤ 281474976710656) = true := decide_eq_true c10
   clear c10
   obtain ⟨y128, hy128⟩ : ∃ y_ : List Int, y_ = (List.replicate (t127 : Int).toNat 0) := ⟨_, rfl⟩
   replace H : (bits_Pack.l0 k a0 y128 0 l1 (l1.length : Int) 0) = some (r1, r2) := by (rw [hy128]; with_reducible exact H)
   have Ny128 := Aside0.mk hy128
   clear hy128
   have H' := Aside0.mk H
   clear H
   go_enter Tryz.func102, Tryz.ntmps102
   go_wp2_with (first | ((with_reducible refine gate_callee (f := 121) rfl ?_); refine goL_ Tryz.func121 #[.int .i64 a0] ?_; (with_reducible refine (bits_badWidth.calls a0 false _ A3.out).mono ?_); rintro e w' ⟨rfl, ⟨nd, rfl⟩⟩; refine ⟨_, rfl, ?_⟩) | ((with_reducible refine gate_callee (f := 83) rfl ?_); refine goL_ Tryz.func83 #[.slice A1 l1.length c1] ?_; (with_reducible refine (bits_Width.calls k _ _ l1 t126 _ ?side1 ?side2 A6.out).mono ?_); (case side1 => repeat (exact HR1.out)); (case side2 => exact HC1.out); rintro e w' ⟨rfl, ⟨nd, rfl⟩⟩; refine ⟨_, rfl, ?_⟩) | ((with_reducible refine gate_callee (f := 122) rfl ?_); refine goL_ Tryz.func122 #[.int .i64 a0, .int .i64 (l1.length : Int)] ?_; (with_reducible refine (bits_need.calls a0 (l1.length : Int) t127 _ A8.out).mono ?_); rintro e w' ⟨rfl, ⟨nd, rfl⟩⟩; refine ⟨_, rfl, ?_⟩) | ((with_reducible refine gate_dst (N := 28) rfl ?_); refine Kd.R_make (Kd.int .u8) _ 5 rfl (N := 28) rfl 24 _ _ rfl t127 rfl rfl Tryz.underlying24 (.int .u8 0) 1 info5 rfl (by decide) (by omega) 0 (ok := fun _ => True) (okp := fun _ => True) rfl (fun _ hk => hk) trivial (of_decide_eq_true ‹_›) (Nat.le_trans (Nat.mul_le_mul_right _ (of_decide_eq_true ‹_› : t127.toNat ≤ 281474976710656)) (by omega)) (Below.refl _ _) (Nat.le_refl _) ?_; intro v129 w11 ho12 hb hg_ hnew_; clear hg_ hnew_; (rw [← Ny128.out] at ho12); have n0_ := Aside0.mk (Kd.R_lower ho12 (below_size (by repeat ((with_reducible first | exact HB.out | apply pw_below_drewN))))); have n1_ := Aside0.mk (below_step (by repeat ((with_reducible first | exact HB.out | apply pw_below_drewN))) hb); revert n0_ n1_; clear HB; intro HO130 HB; clear hb ho12))
   go_loopg [7, 31] k (fun kq v7 v31 w' => ∃ (x6_1 : List Int) (x7_1 : Int) (x31_1 : Int), v7 = .int .i64 x7_1 ∧ v31 = .int .i64 x31_1 ∧ Aside0 (bits_Pack.l0 kq a0 x6_1 x7_1 l1 (l1.length : Int) x31_1 = some (r1, r2)) ∧ Aside0 (kq ≤ k) ∧ Aside0 (Kd.R (Kd.int .u8) 5 w' w.heap.size (fun _ => True) v129 x6_1) ∧ Aside0 (Below w.heap.size w w'))
   case atStart => exact ⟨(y128), (0), (0), (by rfl), (by rfl), H', ⟨Nat.le_refl _⟩, ⟨by (with_reducible repeat (apply Kd.R_alloc)); exact HO130.out⟩, ⟨by exact HB.out⟩⟩
   case round =>
    clear H'
    try clear c5b0
    try clear c5b1
    try clear c7b0
    try clear c9b0
    try clear c9b1
    try clear c10b0
    try clear c10b1
    obtain ⟨x6_1, x7_1, x31_1, rfl, rfl, HA, HK1, HO_6, HB⟩ := hrel
    cases gk with
    | zero => exact absurd HA.out (by simp [bits_Pack.l0])
    | succ k1 =>
     have H := HA.out
     clear HA
     simp only [bits_Pack.l0] at H
     by_cases c13 : x31_1 < (l1.length : Int)
     ·rw [if_pos c13] at H
      have c13b0 : decide (x31_1 < (l1.length : Int)) = true := decide_eq_true c13
      clear c13
      by_cases c14 : 0 ≤ x31_1
      ·rw [if_pos c14] at H
       have c14b0 : decide (0 ≤ x31_1) = true := decide_eq_true c14
       clear c14
       by_cases c15 : x31_1 < (l1.length : Int)
       ·rw [if_pos c15] at H
        have c15b0 : decide (x31_1 < (l1.length : Int)) = true := decide_eq_true c15
        clear c15
        have H' := Aside0.mk H
        clear H
        have p131 : 0 ≤ (x31_1 : Int) := of_decide_eq_true ‹_›
        have q131 : x31_1 < (l1.length : Int) := of_decide_eq_true ‹_›
        obtain ⟨ad131, e131, hx131_0⟩ := Kd.at_int HR1.out x31_1 p131 q131
        cases e131
        replace hx131_0 := (HB.out.cell (World.block_lt_of_cell? w _ hx131_0)).trans hx131_0
        replace p131 := eq_true p131
        replace q131 := eq_true q131
        go_wp2
        go_loopg [7, 9, 10] k1 (fun kq v7 v9 v10 w' => ∃ (x6_2 : List Int) (x7_2 : Int) (x9_2 : Int) (x10_2 : Int), v7 = .int .i64 x7_2 ∧ v9 = .int .u64 x9_2 ∧ v10 = .int .i64 x10_2 ∧ Aside0 (bits_Pack.l1 kq a0 x6_2 x7_2 x9_2 x10_2 l1 (l1.length : Int) x31_1 = some (r1, r2)) ∧ Aside0 (kq ≤ k1) ∧ Aside0 (Kd.R (Kd.int .u8) 5 w' w.heap.size (fun _ => True) v129 x6_2) ∧ Aside0 (Below w.heap.size w w'))
        case atStart => exact ⟨(x6_1), (x7_1), (rd l1 x31_1), (a0), (by rfl), (by rfl), (by rfl), H', ⟨Nat.le_refl _⟩, ⟨by (with_reducible repeat (apply Kd.R_alloc)); exact HO_6.out⟩, ⟨by exact HB.out⟩⟩
        case round =>
         clear H'
         try clear c13b0
         try clear c14b0
         try clear c15b0
         try clear hx131_0
         try clear p131
         try clear q131
         obtain ⟨x6_2, x7_2, x9_2, x10_2, rfl, rfl, rfl, HA, HK2, HO_6, HB⟩ := hrel
         cases gk with
         | zero => exact absurd HA.out (by simp [bits_Pack.l1])
         | succ k2 =>
          have H := HA.out
          clear HA
          simp only [bits_Pack.l1] at H
          by_cases c16 : x10_2 > 0
          ·rw [if_pos c16] at H
           have c16b0 : decide (0 < x10_2) = true := decide_eq_true c16
           clear c16
           obtain ⟨ji17, hji17⟩ : ∃ j_ : Int, (mn (wrap64 (8 - (Go.bits .and .i64 x7_2 7))) x10_2) = j_ := ⟨_, rfl⟩
           replace H : (if 0 ≤ (x7_2 / 8) then (if (x7_2 / 8) < (x6_2.length : Int) then (if 0 ≤ (IntKind.u64.wrap (ji17)) then (if 0 ≤ (IntKind.u64.wrap (Go.bits .and .i64 x7_2 7)) then (bits_Pack.l1 k2 a0 (x6_2.set ((x7_2 / 8) : Int).toNat (Go.bits .or .u8 (rd x6_2 (x7_2 / 8)) (shl .u8 ((Go.bits .and .u64 x9_2 (IntKind.u64.wrap ((shl .u64 1 (IntKind.u64.wrap (ji17))) - 1))) % 256) (IntKind.u64.wrap (Go.bits .and .i64 x7_2 7))))) (wrap64 (x7_2 + (ji17))) (shr .u64 x9_2 (IntKind.u64.wrap (ji17))) (wrap64 (x10_2 - (ji17))) l1 (l1.length : Int) x31_1) else (none)) else (none)) else (none)) else (none)) = some (r1, r2) := by (rw [hji17] at H; exact H)
           have hji17_ : (if x10_2 < (wrap64 (8 - (Go.bits .and .i64 x7_2 7))) then x10_2 else (wrap64 (8 - (Go.bits .and .i64 x7_2 7)))) = ji17 := hji17
           obtain ⟨ji18, hji18⟩ : ∃ j_ : Int, (x7_2 / 8) = j_ := ⟨_, rfl⟩
           replace H : (if 0 ≤ (ji18) then (if (ji18) < (x6_2.length : Int) then (if 0 ≤ (IntKind.u64.wrap (ji17)) then (if 0 ≤ (IntKind.u64.wrap (Go.bits .and .i64 x7_2 7)) then (bits_Pack.l1 k2 a0 (x6_2.set ((ji18) : Int).toNat (Go.bits .or .u8 (rd x6_2 (ji18)) (shl .u8 ((Go.bits .and .u64 x9_2 (IntKind.u64.wrap ((shl .u64 1 (IntKind.u64.wrap (ji17))) - 1))) % 256) (IntKind.u64.wrap (Go.bits .and .i64 x7_2 7))))) (wrap64 (x7_2 + (ji17))) (shr .u64 x9_2 (IntKind.u64.wrap (ji17))) (wrap64 (x10_2 - (ji17))) l1 (l1.length : Int) x31_1) else (none)) else (none)) else (none)) else (none)) = some (r1, r2) := by (rw [hji18] at H; exact H)
           by_cases c19 : 0 ≤ (ji18)
           ·rw [if_pos c19] at H
            have c19b0 : decide (0 ≤ (ji18)) = true := decide_eq_true c19
            clear c19
            by_cases c20 : (ji18) < (x6_2.length : Int)
            ·rw [if_pos c20] at H
             have c20b0 : decide ((ji18) < (x6_2.length : Int)) = true := decide_eq_true c20
             clear c20
             obtain ⟨ji21, hji21⟩ : ∃ j_ : Int, (IntKind.u64.wrap (ji17)) = j_ := ⟨_, rfl⟩
             replace H : (if 0 ≤ (ji21) then (if 0 ≤ (IntKind.u64.wrap (Go.bits .and .i64 x7_2 7)) then (bits_Pack.l1 k2 a0 (x6_2.set ((ji18) : Int).toNat (Go.bits .or .u8 (rd x6_2 (ji18)) (shl .u8 ((Go.bits .and .u64 x9_2 (IntKind.u64.wrap ((shl .u64 1 (ji21)) - 1))) % 256) (IntKind.u64.wrap (Go.bits .and .i64 x7_2 7))))) (wrap64 (x7_2 + (ji17))) (shr .u64 x9_2 (ji21)) (wrap64 (x10_2 - (ji17))) l1 (l1.length : Int) x31_1) else (none)) else (none)) = some (r1, r2) := by (rw [hji21] at H; exact H)
             by_cases c22 : 0 ≤ (ji21)
             ·rw [if_pos c22] at H
              have c22b0 := eq_true c22
              have c22b1 : decide (0 ≤ (ji21)) = true := decide_eq_true c22
              clear c22
              obtain ⟨ji23, hji23⟩ : ∃ j_ : Int, (shl .u64 1 (ji21)) = j_ := ⟨_, rfl⟩
              replace H : (if 0 ≤ (IntKind.u64.wrap (Go.bits .and .i64 x7_2 7)) then (bits_Pack.l1 k2 a0 (x6_2.set ((ji18) : Int).toNat (Go.bits .or .u8 (rd x6_2 (ji18)) (shl .u8 ((Go.bits .and .u64 x9_2 (IntKind.u64.wrap ((ji23) - 1))) % 256) (IntKind.u64.wrap (Go.bits .and .i64 x7_2 7))))) (wrap64 (x7_2 + (ji17))) (shr .u64 x9_2 (ji21)) (wrap64 (x10_2 - (ji17))) l1 (l1.length : Int) x31_1) else (none)) = some (r1, r2) := by (rw [hji23] at H; exact H)
              have hji23_ : (IntKind.u64.wrap (1 * 2 ^ min (ji21).toNat 64)) = ji23 := hji23
              have hji23z : (ji21) ≤ 64 → (IntKind.u64.wrap (1 * 2 ^ (ji21).toNat)) = ji23 := shl_small hji23
              have hji23u : (IntKind.u64.wrap (2 ^ min (ji21).toNat 64)) = ji23 := by have h_ := hji23_; rw [Int.one_mul] at h_; exact h_
              have hji23v : (ji21) ≤ 64 → (IntKind.u64.wrap (2 ^ (ji21).toNat)) = ji23 := fun hle_ => by have h_ := hji23z hle_; rw [Int.one_mul] at h_; exact h_
              obtain ⟨ji24, hji24⟩ : ∃ j_ : Int, (IntKind.u64.wrap (Go.bits .and .i64 x7_2 7)) = j_ := ⟨_, rfl⟩
              replace H : (if 0 ≤ (ji24) then (bits_Pack.l1 k2 a0 (x6_2.set ((ji18) : Int).toNat (Go.bits .or .u8 (rd x6_2 (ji18)) (shl .u8 ((Go.bits .and .u64 x9_2 (IntKind.u64.wrap ((ji23) - 1))) % 256) (ji24)))) (wrap64 (x7_2 + (ji17))) (shr .u64 x9_2 (ji21)) (wrap64 (x10_2 - (ji17))) l1 (l1.length : Int) x31_1) else (none)) = some (r1, r2) := by (rw [hji24] at H; exact H)
              by_cases c25 : 0 ≤ (ji24)
              ·rw [if_pos c25] at H
               have c25b0 := eq_true c25
               have c25b1 : decide (0 ≤ (ji24)) = true := decide_eq_true c25
               clear c25
               obtain ⟨ji26, hji26⟩ : ∃ j_ : Int, (shl .u8 ((Go.bits .and .u64 x9_2 (IntKind.u64.wrap ((ji23) - 1))) % 256) (ji24)) = j_ := ⟨_, rfl⟩
               replace H : (bits_Pack.l1 k2 a0 (x6_2.set ((ji18) : Int).toNat (Go.bits .or .u8 (rd x6_2 (ji18)) (ji26))) (wrap64 (x7_2 + (ji17))) (shr .u64 x9_2 (ji21)) (wrap64 (x10_2 - (ji17))) l1 (l1.length : Int) x31_1) = some (r1, r2) := by (rw [hji26] at H; exact H)
               have hji26_ : (IntKind.u8.wrap (((Go.bits .and .u64 x9_2 (IntKind.u64.wrap ((ji23) - 1))) % 256) * 2 ^ min (ji24).toNat 8)) = ji26 := hji26
               have hji26z : (ji24) ≤ 8 → (IntKind.u8.wrap (((Go.bits .and .u64 x9_2 (IntKind.u64.wrap ((ji23) - 1))) % 256) * 2 ^ (ji24).toNat)) = ji26 := shl_small hji26
               obtain ⟨y133, hy133⟩ : ∃ y_ : List Int, y_ = (x6_2.set ((ji18) : Int).toNat (Go.bits .or .u8 (rd x6_2 (ji18)) (ji26))) := ⟨_, rfl⟩
               replace H : (bits_Pack.l1 k2 a0 y133 (wrap64 (x7_2 + (ji17))) (shr .u64 x9_2 (ji21)) (wrap64 (x10_2 - (ji17))) l1 (l1.length : Int) x31_1) = some (r1, r2) := by (rw [hy133]; with_reducible exact H)
               have Ny133 := Aside0.mk hy133
               clear hy133
               have c28b0 := eq_true (of_decide_eq_true ‹_› : 0 ≤ (ji21))
               obtain ⟨ji29, hji29⟩ : ∃ j_ : Int, (shr .u64 x9_2 (ji21)) = j_ := ⟨_, rfl⟩
               replace H : (bits_Pack.l1 k2 a0 y133 (wrap64 (x7_2 + (ji17))) ji29 (wrap64 (x10_2 - (ji17))) l1 (l1.length : Int) x31_1) = some (r1, r2) := by (rw [hji29] at H; exact H)
               have hji29_ : (x9_2 / 2 ^ min (ji21).toNat 64) = ji29 := hji29
               have hji29z : (ji21) ≤ 64 → (x9_2 / 2 ^ (ji21).toNat) = ji29 := shr_small hji29
               have H' := Aside0.mk H
               clear H
               obtain ⟨Ao30, co30, eo30⟩ := Kd.R_slice HO_6.out
               subst eo30
               have p132 : 0 ≤ ((ji18) : Int) := of_decide_eq_true ‹_›
               have q132 : (ji18) < (x6_2.length : Int) := of_decide_eq_true ‹_›
               obtain ⟨ad132, e132, hx132_0⟩ := Kd.at_int (Kd.R_reads' HO_6.out).2.2 (ji18) p132 q132
               cases e132
               replace p132 := eq_true p132
               replace q132 := eq_true q132
               have p27 : 0 ≤ ((ji18) : Int) := of_decide_eq_true ‹_›
               have q27 : ((ji18) : Int) < ((x6_2.length : Int) : Int) := of_decide_eq_true ‹_›
               obtain ⟨go27, co27, eo27, gb27, gl27, cl27, HG27⟩ := Kd.R_form HO_6.out (by omega)
               (cases eo27)
               have GB27 := Aside0.mk gb27
               have GG27 := Aside0.mk HG27
               clear gb27 gl27 HG27
               (simp only [add_plain] at hx132_0)
               obtain ⟨hx27_0, hf27_0⟩ := Kd.R_celln 0 HO_6.out ((ji18) : Int) p27 q27
               replace p27 := eq_true p27
               replace q27 := eq_true q27
               have HP31 := Kd.R_putg HO_6.out ((ji18) : Int) (Go.bits .or .u8 (rd x6_2 (ji18)) (ji26))
               go_wp2_with ((refine store_event (t := 5) (p := 60) (v := ?vo_w32) (w1 := (wr.setCell ⟨go27, ((ji18) : Int).toNat, none⟩ (.int .u8 (Go.bits .or .u8 (rd x6_2 (ji18)) (ji26))))) ?hg ?ho ?hn ?hr ?_; (case ho => rfl); (case hg => rfl); (case hn => rfl); (case hr => (go_simp; done)); intro w32 hw; have hg : wr.grownBy w32 (some go27) := (by rw [hw]; exact HP31.2); have hp_ : Kd.R (Kd.int .u8) 5 w32 w.heap.size (fun _ => True) (.slice (some ⟨go27, 0, none⟩) x6_2.length co30) y133 := (by rw [hw, Ny133.out]; exact HP31.1); clear HP31; have n0_ := Aside0.mk (hp_); have n1_ := Aside0.mk ((by rw [hw]; exact below_set (HB.out) GB27.out : Below w.heap.size w w32)); revert n0_ n1_; clear HO_6 HB; intro HO_6 HB; clear hg hw hp_))
               go_roundg k2
               case measure => have := HK1.out; have := HK2.out; omega
               case rel => exact ⟨(y133), (wrap64 (x7_2 + (ji17))), (ji29), (wrap64 (x10_2 - (ji17))), (by rfl), (by rfl), (by rfl), H', ⟨by have := HK1.out; have := HK2.out; omega⟩, ⟨by (with_reducible repeat (apply Kd.R_alloc)); exact HO_6.out⟩, ⟨by exact HB.out⟩⟩
              rw [if_neg c25] at H
              exact absurd H (by simp)
             rw [if_neg c22] at H
             exact absurd H (by simp)
            rw [if_neg c20] at H
            exact absurd H (by simp)
           rw [if_neg c19] at H
           exact absurd H (by simp)
          rw [if_neg c16] at H
          have c16b0 : decide (0 < x10_2) = false := decide_eq_false c16
          clear c16
          have H' := Aside0.mk H
          clear H
          go_wp2
          go_roundg k2
          case measure => have := HK1.out; have := HK2.out; omega
          case rel => exact ⟨(x6_2), (x7_2), (wrap64 (x31_1 + 1)), (by rfl), (by rfl), H', ⟨by have := HK1.out; have := HK2.out; omega⟩, ⟨by (with_reducible repeat (apply Kd.R_alloc)); exact HO_6.out⟩, ⟨by exact HB.out⟩⟩
       rw [if_neg c15] at H
       exact absurd H (by simp)
      rw [if_neg c14] at H
      exact absurd H (by simp)
     rw [if_neg c13] at H
     have c13b0 : decide (x31_1 < (l1.length : Int)) = false := decide_eq_false c13
     clear c13
     simp only [Option.some.injEq, Prod.mk.injEq] at H
     obtain ⟨rfl, rfl⟩ := H
     go_wp2
     go_ret2
     exact ⟨_, by rfl, by (with_reducible repeat (apply Kd.R_alloc)); exact HO_6.out, by exact HB.out⟩
  rw [if_neg c10] at H
  exact absurd H (by simp)
 rw [if_neg c9] at H
 exact absurd H (by simp)
def block_nulls.l0 : Nat → List Int → Int → List (S62) → Int → Int → Option (List Int)
 | 0, _, _, _, _, _ => none
 | k + 1, x3, x4, x12, x13, x14 => if x14 < x13 then (if 0 ≤ x14 then (if x14 < (x12.length : Int) then (if (rd_T62 x12 x14).f0 = true then (if x14 < (x3.length : Int) then (block_nulls.l0 k (x3.set (x14 : Int).toNat 1) 1 x12 x13 (wrap64 (x14 + 1))) else (none)) else (block_nulls.l0 k x3 x4 x12 x13 (wrap64 (x14 + 1)))) else (none)) else (none)) else (if x4 = 0 then (some (([0] : List Int))) else ((bits_Pack.f k 1 x3).bind fun bt143 => ((some (([1] : List Int) : List Int)).bind fun y147 => (if y147.length + bt143.1.length < 140737488355328 then (some (y147 ++ bt143.1)) else (none)))))
def block_nulls.f (k : Nat) (l0 : List (S62)) : Option (List Int) := if 0 ≤ (l0.length : Int) then (if ((l0.length : Int) : Int).toNat ≤ 35184372088832 then (block_nulls.l0 k (List.replicate ((l0.length : Int) : Int).toNat 0) 0 l0 (l0.length : Int) 0) else (none)) else (none)
set_option maxHeartbeats 8000000 in
set_option maxRecDepth 100000 in
theorem block_nulls.calls (k : Nat) (A0 : Option Addr) (c0 : Nat) (l0 : List (S62)) (r : List Int) (w : World) (hr0 : Kd.C k62 w A0 l0.length l0) (hc0 : l0.length ≤ c0) (h : block_nulls.f k l0 = some r) :
 Calls Tryz.prog 72 #[.slice A0 l0.length c0] w fun e w' => ∃ v0_ : Value, e = .returned (v0_) ∧ Kd.R (Kd.int .u8) 5 w' w.heap.size (fun _ => True) v0_ r ∧ Below w.heap.size w w' := by
 have hu62 := Tryz.underlying62
 have HR0 := Aside0.mk hr0
 have HC0 := Aside0.mk hc0
 clear hr0 hc0
 have HB := Aside0.mk (Below.refl w.heap.size w)
 unfold block_nulls.f at h
 have H := h
 clear h
 by_cases c2 : 0 ≤ (l0.length : Int)
 ·rw [if_pos c2] at H
  have c2b0 := eq_true c2
  have c2b1 : decide (0 ≤ (l0.length : Int)) = true := decide_eq_true c2
  clear c2
  by_cases c3 : ((l0.length : Int) : Int).toNat ≤ 35184372088832
  ·rw [if_pos c3] at H
   have c3b0 := eq_true c3
   have c3b1 : decide (((l0.length : Int) : Int).toNat ≤ 35184372088832) = true := decide_eq_true c3
   clear c3
   obtain ⟨y134, hy134⟩ : ∃ y_ : List Int, y_ = (List.replicate ((l0.length : Int) : Int).toNat 0) := ⟨_, rfl⟩
   replace H : (block_nulls.l0 k y134 0 l0 (l0.length : Int) 0) = some r := by (rw [hy134]; with_reducible exact H)
   have Ny134 := Aside0.mk hy134
   clear hy134
   have H' := Aside0.mk H
   clear H
   go_enter Tryz.func72, Tryz.ntmps72
   go_wp2_with ((refine Kd.R_make (Kd.int .u64) _ 69 rfl (N := 11) rfl 72 _ _ rfl (l0.length : Int) rfl rfl Tryz.underlying72 (.int .u64 0) 8 info69 rfl (by decide) (by omega) 0 (ok := fun _ => True) (okp := fun _ => True) rfl (fun _ hk => hk) trivial (of_decide_eq_true ‹_›) (Nat.le_trans (Nat.mul_le_mul_right _ (of_decide_eq_true ‹_› : (l0.length : Int).toNat ≤ 35184372088832)) (by omega)) (Below.refl _ _) (Nat.le_refl _) ?_; intro v135 w4 ho5 hb hg_ hnew_; clear hg_ hnew_; (rw [← Ny134.out] at ho5); have n0_ := Aside0.mk (Kd.R_lower ho5 (below_size HB.out)); have n1_ := Aside0.mk (below_step HB.out hb); revert n0_ n1_; clear HB; intro HO136 HB; clear hb ho5))
   go_loopg [4, 14] k (fun kq v4 v14 w' => ∃ (x3_1 : List Int) (x4_1 : Int) (x14_1 : Int), v4 = .int .u8 x4_1 ∧ v14 = .int .i64 x14_1 ∧ Aside0 (block_nulls.l0 kq x3_1 x4_1 l0 (l0.length : Int) x14_1 = some r) ∧ Aside0 (kq ≤ k) ∧ Aside0 (Kd.R (Kd.int .u64) 69 w' w.heap.size (fun _ => True) v135 x3_1) ∧ Aside0 (Below w.heap.size w w'))
   case atStart => exact ⟨(y134), (0), (0), (by rfl), (by rfl), H', ⟨Nat.le_refl _⟩, ⟨by (with_reducible repeat (apply Kd.R_alloc)); exact HO136.out⟩, ⟨by exact HB.out⟩⟩
   case round =>
    clear H'
    try clear c2b0
    try clear c2b1
    try clear c3b0
    try clear c3b1
    obtain ⟨x3_1, x4_1, x14_1, rfl, rfl, HA, HK1, HO_3, HB⟩ := hrel
    cases gk with
    | zero => exact absurd HA.out (by simp [block_nulls.l0])
    | succ k1 =>
     have H := HA.out
     clear HA
     simp only [block_nulls.l0] at H
     by_cases c6 : x14_1 < (l0.length : Int)
     ·rw [if_pos c6] at H
      have c6b0 : decide (x14_1 < (l0.length : Int)) = true := decide_eq_true c6
      clear c6
      by_cases c7 : 0 ≤ x14_1
      ·rw [if_pos c7] at H
       have c7b0 : decide (0 ≤ x14_1) = true := decide_eq_true c7
       clear c7
       by_cases c8 : x14_1 < (l0.length : Int)
       ·rw [if_pos c8] at H
        have c8b0 : decide (x14_1 < (l0.length : Int)) = true := decide_eq_true c8
        clear c8
        obtain ⟨bq9, hbq9⟩ : ∃ b_ : Bool, b_ = ((rd_T62 l0 x14_1).f0) := ⟨_, rfl⟩
        replace H : (if bq9 = true then (if x14_1 < (x3_1.length : Int) then (block_nulls.l0 k1 (x3_1.set (x14_1 : Int).toNat 1) 1 l0 (l0.length : Int) (wrap64 (x14_1 + 1))) else (none)) else (block_nulls.l0 k1 x3_1 x4_1 l0 (l0.length : Int) (wrap64 (x14_1 + 1)))) = some r := by rw [← hbq9] at H; exact H
        have Nbq9 := Aside0.mk hbq9
        clear hbq9
        by_cases c10 : bq9 = true
        ·subst c10
         have H1 : (if x14_1 < (x3_1.length : Int) then (block_nulls.l0 k1 (x3_1.set (x14_1 : Int).toNat 1) 1 l0 (l0.length : Int) (wrap64 (x14_1 + 1))) else (none)) = some r := by rw [if_pos rfl] at H; exact H
         clear H
         have H := H1
         clear H1
         by_cases c11 : x14_1 < (x3_1.length : Int)
         ·rw [if_pos c11] at H
          have c11b0 : decide (x14_1 < (x3_1.length : Int)) = true := decide_eq_true c11
          clear c11
          obtain ⟨y139, hy139⟩ : ∃ y_ : List Int, y_ = (x3_1.set (x14_1 : Int).toNat 1) := ⟨_, rfl⟩
          replace H : (block_nulls.l0 k1 y139 1 l0 (l0.length : Int) (wrap64 (x14_1 + 1))) = some r := by (rw [hy139]; with_reducible exact H)
          have Ny139 := Aside0.mk hy139
          clear hy139
          have H' := Aside0.mk H
          clear H
          have p137 : 0 ≤ (x14_1 : Int) := of_decide_eq_true ‹_›
          have q137 : x14_1 < (l0.length : Int) := of_decide_eq_true ‹_›
          obtain ⟨ad137, A137_2, c137_2, e137, hx137_0, hx137_1, hx137_2, hl137_2, hi137_2⟩ := at_T62 HR0.out x14_1 p137 q137
          (try rw [← Nbq9.out] at hx137_0)
          cases e137
          replace hx137_0 := (HB.out.cell (World.block_lt_of_cell? w _ hx137_0)).trans hx137_0
          replace hx137_1 := (HB.out.cell (World.block_lt_of_cell? w _ hx137_1)).trans hx137_1
          replace hx137_2 := (HB.out.cell (World.block_lt_of_cell? w _ hx137_2)).trans hx137_2
          have HR137_2 := Aside0.mk hi137_2
          have HC137_2 := Aside0.mk hl137_2
          clear hi137_2 hl137_2
          replace p137 := eq_true p137
          replace q137 := eq_true q137
          go_wp2_with (first | ((with_reducible refine gate_dst (N := 6) rfl ?_); refine box_event ?hg (N := 6) ?hd (cs := #[.bool false, .int .i64 0, .slice none 0 0]) (t := 62) ?hr ?_; (case hd => rfl); (case hg => rfl); (case hr => (go_simp; done)); intro gb138 hg w13 hbox hb; have n0_ := Aside0.mk (Kd.R_below HO_3.out hb); have n1_ := Aside0.mk (below_step HB.out hb); have n2_ := Aside0.mk (hbox); have n3_ := Aside0.mk ((by rw [hg]; exact (below_size HB.out) : w.heap.size ≤ gb138)); have n4_ := Aside0.mk ((by rw [hg]; exact (below_size HB.out) : w.heap.size ≤ gb138)); revert n0_ n1_ n2_ n3_ n4_; clear HO_3 HB; intro HO_3 HB BK138 GW138 GE138; clear hb hbox hg; have hcz14_0 : w13.cell? ⟨gb138, 0, none⟩ = some (.bool false) := (blk_cell BK138.out 0).trans rfl; have hcz14_1 : w13.cell? ⟨gb138, 1, none⟩ = some (.int .i64 0) := (blk_cell BK138.out 1).trans rfl; have hcz14_2 : w13.cell? ⟨gb138, 2, none⟩ = some (.slice none 0 0) := (blk_cell BK138.out 2).trans rfl; have hfz14_0 := blk_frozen BK138.out 0; have hfz14_1 := blk_frozen BK138.out 1; have hfz14_2 := blk_frozen BK138.out 2) | ((with_reducible refine gate_store (t := 62) (p := 6) rfl ?_); refine store_event (t := 62) (p := 6) (v := ?vo_w15) (w1 := (((w13.setCell ⟨gb138, 0, none⟩ (.bool true)).setCell ⟨gb138, 1, none⟩ (.int .i64 ((rd_T62 l0 x14_1).f1))).setCell ⟨gb138, 2, none⟩ (.slice A137_2 ((rd_T62 l0 x14_1).f2).length c137_2))) ?hg ?ho ?hn ?hr ?_; (case ho => rfl); (case hg => rfl); (case hn => rfl); (case hr => (go_simp; done)); intro w15 hw; have n0_ : Aside0 (Kd.R (Kd.int .u64) 69 w15 w.heap.size (fun _ => True) v135 x3_1) := ⟨(by rw [hw]; exact (by (with_reducible repeat (apply Kd.R_alloc)); exact Kd.R_mono (Kd.R_far (p := ⟨gb138, 2, none⟩) (Kd.R_far (p := ⟨gb138, 1, none⟩) (Kd.R_far (p := ⟨gb138, 0, none⟩) (Kd.R_types HO_3.out BK138.out (by decide)) (fun _ hk => hk.2) (.bool true)) (fun _ hk => hk.2) (.int .i64 ((rd_T62 l0 x14_1).f1))) (fun _ hk => hk.2) (.slice A137_2 ((rd_T62 l0 x14_1).f2).length c137_2)) (fun _ hk => trivial)))⟩; have n1_ : Aside0 (w15.heap[gb138]? = some (.cells #[.bool true, .int .i64 ((rd_T62 l0 x14_1).f1), .slice A137_2 ((rd_T62 l0 x14_1).f2).length c137_2] 62 (0, 0))) := ⟨(by rw [hw]; exact (by (with_reducible repeat (refine blk_drewN ?_ _)); refine blk_put (cs := #[.bool true, .int .i64 ((rd_T62 l0 x14_1).f1), .slice none 0 0]) ?_ 2 _ rfl; (with_reducible repeat (refine blk_drewN ?_ _)); refine blk_put (cs := #[.bool true, .int .i64 0, .slice none 0 0]) ?_ 1 _ rfl; (with_reducible repeat (refine blk_drewN ?_ _)); refine blk_put (cs := #[.bool false, .int .i64 0, .slice none 0 0]) ?_ 0 _ rfl; (with_reducible repeat (refine blk_drewN ?_ _)); exact BK138.out))⟩; have n2_ : Aside0 (Below w.heap.size w w15) := ⟨(by rw [hw]; exact (by repeat ((with_reducible first | exact HB.out | refine below_set ?_ GE138.out))))⟩; revert n0_ n1_ n2_; clear hw HO_3 BK138 HB; intro HO_3 BK138 HB; have hcz16_0 : w15.cell? ⟨gb138, 0, none⟩ = some (.bool true) := (blk_cell BK138.out 0).trans rfl; have hcz16_1 : w15.cell? ⟨gb138, 1, none⟩ = some (.int .i64 ((rd_T62 l0 x14_1).f1)) := (blk_cell BK138.out 1).trans rfl; have hcz16_2 : w15.cell? ⟨gb138, 2, none⟩ = some (.slice A137_2 ((rd_T62 l0 x14_1).f2).length c137_2) := (blk_cell BK138.out 2).trans rfl; have hfz16_0 := blk_frozen BK138.out 0; have hfz16_1 := blk_frozen BK138.out 1; have hfz16_2 := blk_frozen BK138.out 2; have p12 : 0 ≤ (x14_1 : Int) := of_decide_eq_true ‹_›; have q12 : (x14_1 : Int) < ((x3_1.length : Int) : Int) := of_decide_eq_true ‹_›; obtain ⟨go12, co12, eo12, gb12, gl12, cl12, HG12⟩ := Kd.R_form HO_3.out (by omega); (cases eo12); have GB12 := Aside0.mk gb12; have GG12 := Aside0.mk HG12; clear gb12 gl12 HG12; obtain ⟨hx12_0, hf12_0⟩ := Kd.R_celln 0 HO_3.out (x14_1 : Int) p12 q12; replace p12 := eq_true p12; replace q12 := eq_true q12; obtain ⟨hy17_, hz17_⟩ := Kd.R_celln 0 HO_3.out (x14_1 : Int) (of_decide_eq_true ‹_›) (of_decide_eq_true ‹_›); have HP17 := Kd.R_putg HO_3.out (x14_1 : Int) 1) | ((with_reducible refine gate_store (t := 69) (p := 23) rfl ?_); refine store_event (t := 69) (p := 23) (v := ?vo_w18) (w1 := (w15.setCell ⟨go12, (x14_1 : Int).toNat, none⟩ (.int .u64 1))) ?hg ?ho ?hn ?hr ?_; (case ho => rfl); (case hg => rfl); (case hn => rfl); (case hr => (go_simp; done)); intro w18 hw; have hg : w15.grownBy w18 (some go12) := (by rw [hw]; exact HP17.2); have hp_ : Kd.R (Kd.int .u64) 69 w18 w.heap.size (fun _ => True) (.slice (some ⟨go12, 0, none⟩) x3_1.length co12) y139 := (by rw [hw, Ny139.out]; exact HP17.1); clear HP17; have n0_ := Aside0.mk (hp_); have n1_ := Aside0.mk (blk_grown (g := gb138) (o := .cells #[.bool true, .int .i64 ((rd_T62 l0 x14_1).f1), .slice A137_2 ((rd_T62 l0 x14_1).f2).length c137_2] 62 (0, 0)) (by (with_reducible repeat (refine blk_drewN ?_ _)); exact BK138.out) hg (Kd.R_ne HO_3.out BK138.out (by decide))); have n2_ := Aside0.mk ((by rw [hw]; exact below_set (HB.out) GB12.out : Below w.heap.size w w18)); revert n0_ n1_ n2_; clear HO_3 BK138 HB; intro HO_3 BK138 HB; clear hg hw hp_))
          go_roundg k1
          case measure => have := HK1.out; omega
          case rel => exact ⟨(y139), (1), (wrap64 (x14_1 + 1)), (by rfl), (by rfl), H', ⟨by have := HK1.out; omega⟩, ⟨by (with_reducible repeat (apply Kd.R_alloc)); exact HO_3.out⟩, ⟨by exact HB.out⟩⟩
         rw [if_neg c11] at H
         exact absurd H (by simp)
        replace c10 := Bool.eq_false_iff.mpr c10
        subst c10
        have H1 : (block_nulls.l0 k1 x3_1 x4_1 l0 (l0.length : Int) (wrap64 (x14_1 + 1))) = some r := by rw [if_neg (show ¬ (false = true) by decide)] at H; exact H
        clear H
        have H := H1
        clear H1
        have H' := Aside0.mk H
        clear H
        have p137 : 0 ≤ (x14_1 : Int) := of_decide_eq_true ‹_›
        have q137 : x14_1 < (l0.length : Int) := of_decide_eq_true ‹_›
        obtain ⟨ad137, A137_2, c137_2, e137, hx137_0, hx137_1, hx137_2, hl137_2, hi137_2⟩ := at_T62 HR0.out x14_1 p137 q137
        (try rw [← Nbq9.out] at hx137_0)
        cases e137
        replace hx137_0 := (HB.out.cell (World.block_lt_of_cell? w _ hx137_0)).trans hx137_0
        replace hx137_1 := (HB.out.cell (World.block_lt_of_cell? w _ hx137_1)).trans hx137_1
        replace hx137_2 := (HB.out.cell (World.block_lt_of_cell? w _ hx137_2)).trans hx137_2
        have HR137_2 := Aside0.mk hi137_2
        have HC137_2 := Aside0.mk hl137_2
        clear hi137_2 hl137_2
        replace p137 := eq_true p137
        replace q137 := eq_true q137
        go_wp2_with ((refine box_event ?hg (N := 6) ?hd (cs := #[.bool false, .int .i64 0, .slice none 0 0]) (t := 62) ?hr ?_; (case hd => rfl); (case hg => rfl); (case hr => (go_simp; done)); intro gb138 hg w19 hbox hb; have n0_ := Aside0.mk (Kd.R_below HO_3.out hb); have n1_ := Aside0.mk (below_step HB.out hb); have n2_ := Aside0.mk (hbox); have n3_ := Aside0.mk ((by rw [hg]; exact (below_size HB.out) : w.heap.size ≤ gb138)); have n4_ := Aside0.mk ((by rw [hg]; exact (below_size HB.out) : w.heap.size ≤ gb138)); revert n0_ n1_ n2_ n3_ n4_; clear HO_3 HB; intro HO_3 HB BK138 GW138 GE138; clear hb hbox hg; have hcz20_0 : w19.cell? ⟨gb138, 0, none⟩ = some (.bool false) := (blk_cell BK138.out 0).trans rfl; have hcz20_1 : w19.cell? ⟨gb138, 1, none⟩ = some (.int .i64 0) := (blk_cell BK138.out 1).trans rfl; have hcz20_2 : w19.cell? ⟨gb138, 2, none⟩ = some (.slice none 0 0) := (blk_cell BK138.out 2).trans rfl; have hfz20_0 := blk_frozen BK138.out 0; have hfz20_1 := blk_frozen BK138.out 1; have hfz20_2 := blk_frozen BK138.out 2))
        go_roundg k1
        case measure => have := HK1.out; omega
        case rel => exact ⟨(x3_1), (x4_1), (wrap64 (x14_1 + 1)), (by rfl), (by rfl), H', ⟨by have := HK1.out; omega⟩, ⟨by (with_reducible repeat (apply Kd.R_alloc)); exact Kd.R_mono (Kd.R_far (p := ⟨gb138, 2, none⟩) (Kd.R_far (p := ⟨gb138, 1, none⟩) (Kd.R_far (p := ⟨gb138, 0, none⟩) (Kd.R_types HO_3.out BK138.out (by decide)) (fun _ hk => hk.2) (.bool false)) (fun _ hk => hk.2) (.int .i64 ((rd_T62 l0 x14_1).f1))) (fun _ hk => hk.2) (.slice A137_2 ((rd_T62 l0 x14_1).f2).length c137_2)) (fun _ hk => trivial)⟩, ⟨by repeat ((with_reducible first | exact HB.out | refine below_set ?_ GE138.out))⟩⟩
       rw [if_neg c8] at H
       exact absurd H (by simp)
      rw [if_neg c7] at H
      exact absurd H (by simp)
     rw [if_neg c6] at H
     have c6b0 : decide (x14_1 < (l0.length : Int)) = false := decide_eq_false c6
     clear c6
     by_cases c21 : x4_1 = 0
     ·rw [if_pos c21] at H
      have c21b0 : (x4_1 == 0) = true := beq_iff_eq.mpr c21
      have c21b1 : (x4_1 != 0) = false := bne_eq_false_iff_eq.mpr c21
      clear c21
      obtain ⟨y140, hy140⟩ : ∃ y_ : List Int, y_ = (([0] : List Int)) := ⟨_, rfl⟩
      replace H : (some y140) = some r := by (rw [hy140]; with_reducible exact H)
      have Ny140 := Aside0.mk hy140
      clear hy140
      obtain rfl := Option.some.inj H
      go_wp2_with ((refine Kd.R_lit (Kd.int .u8) _ 5 ?hg (N := 27) ?hd (xs := ([0] : List Int)) (inner := [.int .u8 0]) (ok := fun _ => True) (okp := fun _ => True) ?hr ?hp (fun _ hk => hk) trivial (Below.refl _ _) (Nat.le_refl _) (by simp) ?_; (case hd => rfl); (case hg => rfl); (case hr => (go_simp; done)); (case hp => exact (Reps.one (show Kd.M (Kd.int .u8) _ _ _ 0 [.int .u8 0] from rfl) (Reps.none _ _))); intro v141 w22 ho23 hb hg_ hnew_; clear hg_ hnew_; (rw [← Ny140.out] at ho23); have n0_ := Aside0.mk (Kd.R_below HO_3.out hb); have n1_ := Aside0.mk (Kd.R_lower ho23 (below_size HB.out)); have n2_ := Aside0.mk (below_step HB.out hb); revert n0_ n1_ n2_; clear HO_3 HB; intro HO_3 HO142 HB; clear hb ho23))
      go_ret
      exact ⟨_, by rfl, by (with_reducible repeat (apply Kd.R_alloc)); exact HO142.out, by exact HB.out⟩
     rw [if_neg c21] at H
     have c21b0 : (x4_1 == 0) = false := beq_eq_false_iff_ne.mpr c21
     have c21b1 : (x4_1 != 0) = true := bne_iff_ne.mpr c21
     replace H := Option.bind_eq_some_iff.mp H
     obtain ⟨⟨t143, t144⟩, A240, H⟩ := H
     (try dsimp only at H)
     have A24 := Aside0.mk A240
     clear A240
     obtain ⟨y147, hy147⟩ : ∃ y_ : List Int, y_ = (([1] : List Int)) := ⟨_, rfl⟩
     replace H : (if y147.length + t143.length < 140737488355328 then (some (y147 ++ t143)) else (none)) = some r := by (have H2_ := (Option.bind_some _ _).symm.trans H; rw [hy147]; with_reducible exact H2_)
     have Ny147 := Aside0.mk hy147
     clear hy147
     by_cases c25 : y147.length + t143.length < 140737488355328
     ·rw [if_pos c25] at H
      have LMc25 := Aside0.mk c25
      clear c25
      obtain ⟨y150, hy150⟩ : ∃ y_ : List Int, y_ = (y147 ++ t143) := ⟨_, rfl⟩
      replace H : (some y150) = some r := by (rw [hy150]; with_reducible exact H)
      have Ny150 := Aside0.mk hy150
      clear hy150
      obtain rfl := Option.some.inj H
      obtain ⟨Ao26, co26, eo26⟩ := Kd.R_slice HO_3.out
      subst eo26
      go_wp2_with (first | ((with_reducible refine gate_callee (f := 102) rfl ?_); refine goL_ Tryz.func102 #[.int .i64 1, .slice Ao26 x3_1.length co26] ?_; (with_reducible refine (bits_Pack.calls k1 1 _ _ x3_1 t143 t144 _ ((Kd.R_reads' HO_3.out).2.2) ((Kd.R_reads' HO_3.out).2.1) A24.out).mono ?_); rintro e w27 ⟨v145, rfl, ho0, hb⟩; refine ⟨_, rfl, ?_⟩; have n0_ := Aside0.mk (Kd.R_below HO_3.out hb); have n1_ := Aside0.mk (Kd.R_lower ho0 (below_size HB.out)); have n2_ := Aside0.mk (below_step HB.out hb); revert n0_ n1_ n2_; clear HO_3 HB; intro HO_3 HO146 HB; (try clear hb); (try clear ho0)) | ((with_reducible refine gate_dst (N := 33) rfl ?_); refine Kd.R_lit (Kd.int .u8) _ 5 ?hg (N := 33) ?hd (xs := ([1] : List Int)) (inner := [.int .u8 1]) (ok := fun _ => True) (okp := fun _ => True) ?hr ?hp (fun _ hk => hk) trivial (Below.refl _ _) (Nat.le_refl _) (by simp) ?_; (case hd => rfl); (case hg => rfl); (case hr => (go_simp; done)); (case hp => exact (Reps.one (show Kd.M (Kd.int .u8) _ _ _ 1 [.int .u8 1] from rfl) (Reps.none _ _))); intro v148 w28 ho29 hb hg_ hnew_; clear hg_ hnew_; (rw [← Ny147.out] at ho29); have n0_ := Aside0.mk (Kd.R_below HO_3.out hb); have n1_ := Aside0.mk (Kd.R_elder' HO146.out (Kd.R_base ho29) hb); have n2_ := Aside0.mk (Kd.R_lower (Kd.R_new' ho29 (Kd.R_lt HO146.out)) (below_size HB.out)); have n3_ := Aside0.mk (below_step HB.out hb); revert n0_ n1_ n2_ n3_; clear HO_3 HO146 HB; intro HO_3 HO146 HO149 HB; clear hb ho29; obtain ⟨Ao31, co31, eo31⟩ := Kd.R_slice HO146.out; subst eo31) | ((with_reducible refine gate_builtin (b := .append) (xs := #[.tmp 33, .tmp 34]) rfl ?_); at_builtin; refine Kd.R_append_rows (Kd.int .u8) (w0 := w) w.heap.size rfl (.tmp 33) (.tmp 34) 24 5 (.int .u8 0) 1 rfl Tryz.underlying24 info5 rfl (by decide) (by omega) v148 y147 t143 _ _ _ (fun k_ => some k_ ≠ (.slice Ao31 t143.length co31 : Value).ownBlock) (fun _ => False) rfl rfl ?aO ?aR (fun _ _ h => h) (fun _ h => h.elim) ?aF ?aB ?aS ?aL ?_; (case aR => repeat (exact (Kd.R_reads' HO146.out).2.2)); (case aB => exact HB.out); (case aF => exact (fun k_ hk => Kd.fresh' (Kd.R_lt HO146.out) k_ hk)); (case aO => exact (by (with_reducible repeat (apply Kd.R_alloc)); exact Kd.R_mono HO149.out (fun _ hk => hk.2))); (case aS => exact (below_size HB.out)); (case aL => have := LMc25.out; omega); intro v151 w30 ho hb hg hat; rw [← Ny150.out] at ho; have n0_ := Aside0.mk (Kd.R_over' HO_3.out (Kd.R_typed HO149.out) (by decide) hg); have n1_ := Aside0.mk (Kd.R_after (ok := (fun _ => True)) HO146.out hg hat); have n2_ := Aside0.mk (hb); have n3_ := Aside0.mk (ho); revert n0_ n1_ n2_ n3_; clear HO_3 HO146 HB HO149; intro HO_3 HO146 HB HO152; clear ho hb hg hat))
      go_ret
      exact ⟨_, by rfl, by (with_reducible repeat (apply Kd.R_alloc)); exact Kd.R_mono HO152.out (fun _ hk => trivial), by exact HB.out⟩
     rw [if_neg c25] at H
     exact absurd H (by simp)
  rw [if_neg c3] at H
  exact absurd H (by simp)
 rw [if_neg c2] at H
 exact absurd H (by simp)
def packed_Encode.l0 : Nat → List Int → Int → List Int → List Int → Int → Int → Option (List Int × Int)
 | 0, _, _, _, _, _, _ => none
 | k + 1, x4, x5, x6, x28, x29, x30 => if x30 < x29 then (if 0 ≤ x30 then (if x30 < (x28.length : Int) then (if x30 < (x6.length : Int) then (packed_Encode.l0 k x4 x5 (x6.set (x30 : Int).toNat (IntKind.u64.wrap ((IntKind.u64.wrap (rd x28 x30)) - (IntKind.u64.wrap (x5))))) x28 x29 (wrap64 (x30 + 1))) else (none)) else (none)) else (none)) else ((bits_Width.f k x6).bind fun t205 => ((bits_Pack.f k t205 x6).bind fun bt206 => ((bits_Fold.f x5).bind fun t210 => ((vint_Put.f k t210).bind fun t211 => (if x4.length + t211.length < 140737488355328 then ((some (x4 ++ t211 : List Int)).bind fun y214 => (if y214.length < 140737488355328 then ((some (y214 ++ [(t205) % 256] : List Int)).bind fun y217 => (if y217.length + bt206.1.length < 140737488355328 then (some ((y217 ++ bt206.1), bt206.2)) else (none))) else (none))) else (none))))))
def packed_Encode.f (k : Nat) (l0 : List Int) : Option (List Int × Int) := if (l0.length : Int) > 4096 then (some (([] : List Int), 4)) else ((vint_Put.f k (IntKind.u64.wrap ((l0.length : Int)))).bind fun t196 => (if (l0.length : Int) = 0 then (some (t196, 0)) else ((slices_Min_int64_int64.f k l0).bind fun t199 => (if 0 ≤ (l0.length : Int) then (if ((l0.length : Int) : Int).toNat ≤ 35184372088832 then (packed_Encode.l0 k t196 t199 (List.replicate ((l0.length : Int) : Int).toNat 0) l0 (l0.length : Int) 0) else (none)) else (none)))))
set_option maxHeartbeats 8000000 in
set_option maxRecDepth 100000 in
theorem packed_Encode.calls (k : Nat) (A0 : Option Addr) (c0 : Nat) (l0 : List Int) (r1 : List Int) (r2 : Int) (w : World) (hr0 : Kd.C (Kd.int .i64) w A0 l0.length l0) (hc0 : l0.length ≤ c0) (h : packed_Encode.f k l0 = some (r1, r2)) :
 Calls Tryz.prog 105 #[.slice A0 l0.length c0] w fun e w' => ∃ v0_ : Value, e = .returned (.tuple #[v0_, .int .i64 r2]) ∧ Kd.R (Kd.int .u8) 5 w' w.heap.size (fun _ => True) v0_ r1 ∧ Below w.heap.size w w' := by
 have HR0 := Aside0.mk hr0
 have HC0 := Aside0.mk hc0
 clear hr0 hc0
 have HB := Aside0.mk (Below.refl w.heap.size w)
 unfold packed_Encode.f at h
 have H := h
 clear h
 by_cases c2 : (l0.length : Int) > 4096
 ·rw [if_pos c2] at H
  have c2b0 : decide (4096 < (l0.length : Int)) = true := decide_eq_true c2
  have c2b1 : decide (4096 < l0.length) = true := decide_eq_true (by omega)
  clear c2
  simp only [Option.some.injEq, Prod.mk.injEq] at H
  obtain ⟨rfl, rfl⟩ := H
  go_enter Tryz.func105, Tryz.ntmps105
  go_wp2
  go_ret2
  exact ⟨_, by rfl, by exact Kd.R_nil _ _ _ _ _, by exact HB.out⟩
 rw [if_neg c2] at H
 have c2b0 : decide (4096 < (l0.length : Int)) = false := decide_eq_false c2
 have c2b1 : decide (4096 < l0.length) = false := decide_eq_false (by omega)
 clear c2
 replace H := Option.bind_eq_some_iff.mp H
 obtain ⟨t196, A30, H⟩ := H
 (try dsimp only at H)
 have A3 := Aside0.mk A30
 clear A30
 by_cases c4 : (l0.length : Int) = 0
 ·rw [if_pos c4] at H
  have c4b0 : ((l0.length : Int) == 0) = true := beq_iff_eq.mpr c4
  have c4b1 : ((l0.length : Int) != 0) = false := bne_eq_false_iff_eq.mpr c4
  clear c4
  simp only [Option.some.injEq, Prod.mk.injEq] at H
  obtain ⟨rfl, rfl⟩ := H
  go_enter Tryz.func105, Tryz.ntmps105
  go_wp2_with ((refine goL_ Tryz.func71 #[.int .u64 (IntKind.u64.wrap ((l0.length : Int)))] ?_; (with_reducible refine (vint_Put.calls k (IntKind.u64.wrap ((l0.length : Int))) t196 _ A3.out).mono ?_); rintro e w5 ⟨v197, rfl, ho0, hb⟩; refine ⟨_, rfl, ?_⟩; have n0_ := Aside0.mk (Kd.R_lower ho0 (below_size HB.out)); have n1_ := Aside0.mk (below_step HB.out hb); revert n0_ n1_; clear HB; intro HO198 HB; (try clear hb); (try clear ho0)))
  go_ret2
  exact ⟨_, by rfl, by (with_reducible repeat (apply Kd.R_alloc)); exact HO198.out, by exact HB.out⟩
 rw [if_neg c4] at H
 have c4b0 : ((l0.length : Int) == 0) = false := beq_eq_false_iff_ne.mpr c4
 have c4b1 : ((l0.length : Int) != 0) = true := bne_iff_ne.mpr c4
 have c4b2 : ¬ (l0 = []) := fun h_ => c4 (by rw [h_]; rfl)
 replace H := Option.bind_eq_some_iff.mp H
 obtain ⟨t199, A60, H⟩ := H
 (try dsimp only at H)
 have A6 := Aside0.mk A60
 clear A60
 by_cases c7 : 0 ≤ (l0.length : Int)
 ·rw [if_pos c7] at H
  have c7b0 := eq_true c7
  have c7b1 : decide (0 ≤ (l0.length : Int)) = true := decide_eq_true c7
  clear c7
  by_cases c8 : ((l0.length : Int) : Int).toNat ≤ 35184372088832
  ·rw [if_pos c8] at H
   have c8b0 := eq_true c8
   have c8b1 : decide (((l0.length : Int) : Int).toNat ≤ 35184372088832) = true := decide_eq_true c8
   clear c8
   obtain ⟨y200, hy200⟩ : ∃ y_ : List Int, y_ = (List.replicate ((l0.length : Int) : Int).toNat 0) := ⟨_, rfl⟩
   replace H : (packed_Encode.l0 k t196 t199 y200 l0 (l0.length : Int) 0) = some (r1, r2) := by (rw [hy200]; with_reducible exact H)
   have Ny200 := Aside0.mk hy200
   clear hy200
   have H' := Aside0.mk H
   clear H
   go_enter Tryz.func105, Tryz.ntmps105
   go_wp2_with (first | ((with_reducible refine gate_callee (f := 71) rfl ?_); refine goL_ Tryz.func71 #[.int .u64 (IntKind.u64.wrap ((l0.length : Int)))] ?_; (with_reducible refine (vint_Put.calls k (IntKind.u64.wrap ((l0.length : Int))) t196 _ A3.out).mono ?_); rintro e w9 ⟨v197, rfl, ho0, hb⟩; refine ⟨_, rfl, ?_⟩; have n0_ := Aside0.mk (Kd.R_lower ho0 (below_size HB.out)); have n1_ := Aside0.mk (below_step HB.out hb); revert n0_ n1_; clear HB; intro HO198 HB; (try clear hb); (try clear ho0)) | ((with_reducible refine gate_callee (f := 136) rfl ?_); refine goL_ Tryz.func136 #[.slice A0 l0.length c0] ?_; (with_reducible refine (slices_Min_int64_int64.calls k _ _ l0 t199 _ (Kd.C_below HR0.out HB.out) (HC0.out) A6.out).mono ?_); rintro e w10 ⟨rfl, hb⟩; refine ⟨_, rfl, ?_⟩; have n0_ := Aside0.mk (Kd.R_below HO198.out hb); have n1_ := Aside0.mk (below_step HB.out hb); revert n0_ n1_; clear HO198 HB; intro HO198 HB; (try clear hb)) | ((with_reducible refine gate_dst (N := 27) rfl ?_); refine Kd.R_make (Kd.int .u64) _ 69 rfl (N := 27) rfl 72 _ _ rfl (l0.length : Int) rfl rfl Tryz.underlying72 (.int .u64 0) 8 info69 rfl (by decide) (by omega) 0 (ok := fun _ => True) (okp := fun _ => True) rfl (fun _ hk => hk) trivial (of_decide_eq_true ‹_›) (Nat.le_trans (Nat.mul_le_mul_right _ (of_decide_eq_true ‹_› : (l0.length : Int).toNat ≤ 35184372088832)) (by omega)) (Below.refl _ _) (Nat.le_refl _) ?_; intro v201 w11 ho12 hb hg_ hnew_; clear hg_ hnew_; (rw [← Ny200.out] at ho12); have n0_ := Aside0.mk (Kd.R_below HO198.out hb); have n1_ := Aside0.mk (Kd.R_lower ho12 (below_size HB.out)); have n2_ := Aside0.mk (below_step HB.out hb); revert n0_ n1_ n2_; clear HO198 HB; intro HO198 HO202 HB; clear hb ho12))
   go_loopg [30] k (fun kq v30 w' => ∃ (x6_1 : List Int) (x30_1 : Int), v30 = .int .i64 x30_1 ∧ Aside0 (packed_Encode.l0 kq t196 t199 x6_1 l0 (l0.length : Int) x30_1 = some (r1, r2)) ∧ Aside0 (kq ≤ k) ∧ Aside0 (Kd.R (Kd.int .u8) 5 w' w.heap.size (fun _ => True) v197 t196) ∧ Aside0 (Kd.R (Kd.int .u64) 69 w' w.heap.size (fun _ => True) v201 x6_1) ∧ Aside0 (Below w.heap.size w w'))
   case atStart => exact ⟨(y200), (0), (by rfl), H', ⟨Nat.le_refl _⟩, ⟨by (with_reducible repeat (apply Kd.R_alloc)); exact HO198.out⟩, ⟨by (with_reducible repeat (apply Kd.R_alloc)); exact HO202.out⟩, ⟨by exact HB.out⟩⟩
   case round =>
    clear H'
    try clear c2b0
    try clear c2b1
    try clear c4
    try clear c4b0
    try clear c4b1
    try clear c4b2
    try clear c7b0
    try clear c7b1
    try clear c8b0
    try clear c8b1
    obtain ⟨x6_1, x30_1, rfl, HA, HK1, HO_4, HO_6, HB⟩ := hrel
    cases gk with
    | zero => exact absurd HA.out (by simp [packed_Encode.l0])
    | succ k1 =>
     have H := HA.out
     clear HA
     simp only [packed_Encode.l0] at H
     by_cases c13 : x30_1 < (l0.length : Int)
     ·rw [if_pos c13] at H
      have c13b0 : decide (x30_1 < (l0.length : Int)) = true := decide_eq_true c13
      clear c13
      by_cases c14 : 0 ≤ x30_1
      ·rw [if_pos c14] at H
       have c14b0 : decide (0 ≤ x30_1) = true := decide_eq_true c14
       clear c14
       by_cases c15 : x30_1 < (l0.length : Int)
       ·rw [if_pos c15] at H
        have c15b0 : decide (x30_1 < (l0.length : Int)) = true := decide_eq_true c15
        clear c15
        by_cases c16 : x30_1 < (x6_1.length : Int)
        ·rw [if_pos c16] at H
         have c16b0 : decide (x30_1 < (x6_1.length : Int)) = true := decide_eq_true c16
         clear c16
         obtain ⟨y204, hy204⟩ : ∃ y_ : List Int, y_ = (x6_1.set (x30_1 : Int).toNat (IntKind.u64.wrap ((IntKind.u64.wrap (rd l0 x30_1)) - (IntKind.u64.wrap (t199))))) := ⟨_, rfl⟩
         replace H : (packed_Encode.l0 k1 t196 t199 y204 l0 (l0.length : Int) (wrap64 (x30_1 + 1))) = some (r1, r2) := by (rw [hy204]; with_reducible exact H)
         have Ny204 := Aside0.mk hy204
         clear hy204
         have H' := Aside0.mk H
         clear H
         have p203 : 0 ≤ (x30_1 : Int) := of_decide_eq_true ‹_›
         have q203 : x30_1 < (l0.length : Int) := of_decide_eq_true ‹_›
         obtain ⟨ad203, e203, hx203_0⟩ := Kd.at_int HR0.out x30_1 p203 q203
         cases e203
         replace hx203_0 := (HB.out.cell (World.block_lt_of_cell? w _ hx203_0)).trans hx203_0
         replace p203 := eq_true p203
         replace q203 := eq_true q203
         have p17 : 0 ≤ (x30_1 : Int) := of_decide_eq_true ‹_›
         have q17 : (x30_1 : Int) < ((x6_1.length : Int) : Int) := of_decide_eq_true ‹_›
         obtain ⟨go17, co17, eo17, gb17, gl17, cl17, HG17⟩ := Kd.R_form HO_6.out (by omega)
         (cases eo17)
         have GB17 := Aside0.mk gb17
         have GG17 := Aside0.mk HG17
         clear gb17 gl17 HG17
         obtain ⟨hx17_0, hf17_0⟩ := Kd.R_celln 0 HO_6.out (x30_1 : Int) p17 q17
         replace p17 := eq_true p17
         replace q17 := eq_true q17
         have HP18 := Kd.R_putg HO_6.out (x30_1 : Int) (IntKind.u64.wrap ((IntKind.u64.wrap (rd l0 x30_1)) - (IntKind.u64.wrap (t199))))
         go_wp2_with ((refine store_event (t := 69) (p := 42) (v := ?vo_w19) (w1 := (wr.setCell ⟨go17, (x30_1 : Int).toNat, none⟩ (.int .u64 (IntKind.u64.wrap ((IntKind.u64.wrap (rd l0 x30_1)) - (IntKind.u64.wrap (t199))))))) ?hg ?ho ?hn ?hr ?_; (case ho => rfl); (case hg => rfl); (case hn => rfl); (case hr => (go_simp; done)); intro w19 hw; have hg : wr.grownBy w19 (some go17) := (by rw [hw]; exact HP18.2); have hp_ : Kd.R (Kd.int .u64) 69 w19 w.heap.size (fun _ => True) (.slice (some ⟨go17, 0, none⟩) x6_1.length co17) y204 := (by rw [hw, Ny204.out]; exact HP18.1); clear HP18; have n0_ := Aside0.mk (Kd.R_over' (v := (.slice (some ⟨go17, 0, none⟩) x6_1.length co17)) HO_4.out (Kd.R_typed HO_6.out) (by decide) hg); have n1_ := Aside0.mk (hp_); have n2_ := Aside0.mk ((by rw [hw]; exact below_set (HB.out) GB17.out : Below w.heap.size w w19)); revert n0_ n1_ n2_; clear HO_4 HO_6 HB; intro HO_4 HO_6 HB; clear hg hw hp_))
         go_roundg k1
         case measure => have := HK1.out; omega
         case rel => exact ⟨(y204), (wrap64 (x30_1 + 1)), (by rfl), H', ⟨by have := HK1.out; omega⟩, ⟨by (with_reducible repeat (apply Kd.R_alloc)); exact HO_4.out⟩, ⟨by (with_reducible repeat (apply Kd.R_alloc)); exact HO_6.out⟩, ⟨by exact HB.out⟩⟩
        rw [if_neg c16] at H
        exact absurd H (by simp)
       rw [if_neg c15] at H
       exact absurd H (by simp)
      rw [if_neg c14] at H
      exact absurd H (by simp)
     rw [if_neg c13] at H
     have c13b0 : decide (x30_1 < (l0.length : Int)) = false := decide_eq_false c13
     clear c13
     replace H := Option.bind_eq_some_iff.mp H
     obtain ⟨t205, A200, H⟩ := H
     (try dsimp only at H)
     have A20 := Aside0.mk A200
     clear A200
     replace H := Option.bind_eq_some_iff.mp H
     obtain ⟨⟨t206, t207⟩, A210, H⟩ := H
     (try dsimp only at H)
     have A21 := Aside0.mk A210
     clear A210
     replace H := Option.bind_eq_some_iff.mp H
     obtain ⟨t210, A220, H⟩ := H
     (try dsimp only at H)
     have A22 := Aside0.mk A220
     clear A220
     replace H := Option.bind_eq_some_iff.mp H
     obtain ⟨t211, A230, H⟩ := H
     (try dsimp only at H)
     have A23 := Aside0.mk A230
     clear A230
     by_cases c24 : t196.length + t211.length < 140737488355328
     ·rw [if_pos c24] at H
      have LMc24 := Aside0.mk c24
      clear c24
      obtain ⟨y214, hy214⟩ : ∃ y_ : List Int, y_ = (t196 ++ t211) := ⟨_, rfl⟩
      replace H : (if y214.length < 140737488355328 then ((some (y214 ++ [(t205) % 256] : List Int)).bind fun y217 => (if y217.length + t206.length < 140737488355328 then (some ((y217 ++ t206), t207)) else (none))) else (none)) = some (r1, r2) := by (have H2_ := (Option.bind_some _ _).symm.trans H; rw [hy214]; with_reducible exact H2_)
      have Ny214 := Aside0.mk hy214
      clear hy214
      by_cases c25 : y214.length < 140737488355328
      ·rw [if_pos c25] at H
       have LMc25 := Aside0.mk c25
       clear c25
       obtain ⟨y217, hy217⟩ : ∃ y_ : List Int, y_ = (y214 ++ [(t205) % 256]) := ⟨_, rfl⟩
       replace H : (if y217.length + t206.length < 140737488355328 then (some ((y217 ++ t206), t207)) else (none)) = some (r1, r2) := by (have H2_ := (Option.bind_some _ _).symm.trans H; rw [hy217]; with_reducible exact H2_)
       have Ny217 := Aside0.mk hy217
       clear hy217
       by_cases c26 : y217.length + t206.length < 140737488355328
       ·rw [if_pos c26] at H
        have LMc26 := Aside0.mk c26
        clear c26
        obtain ⟨y220, hy220⟩ : ∃ y_ : List Int, y_ = (y217 ++ t206) := ⟨_, rfl⟩
        replace H : (some (y220, t207)) = some (r1, r2) := by (rw [hy220]; with_reducible exact H)
        have Ny220 := Aside0.mk hy220
        clear hy220
        simp only [Option.some.injEq, Prod.mk.injEq] at H
        obtain ⟨rfl, rfl⟩ := H
        obtain ⟨Ao27, co27, eo27⟩ := Kd.R_slice HO_6.out
        subst eo27
        go_wp2_with (first | ((with_reducible refine gate_callee (f := 83) rfl ?_); refine goL_ Tryz.func83 #[.slice Ao27 x6_1.length co27] ?_; (with_reducible refine (bits_Width.calls k1 _ _ x6_1 t205 _ ((Kd.R_reads' HO_6.out).2.2) ((Kd.R_reads' HO_6.out).2.1) A20.out).mono ?_); rintro e w' ⟨rfl, ⟨nd, rfl⟩⟩; refine ⟨_, rfl, ?_⟩) | ((with_reducible refine gate_callee (f := 102) rfl ?_); refine goL_ Tryz.func102 #[.int .i64 t205, .slice Ao27 x6_1.length co27] ?_; (with_reducible refine (bits_Pack.calls k1 t205 _ _ x6_1 t206 t207 _ ?side1 ?side2 A21.out).mono ?_); (case side1 => repeat (exact (Kd.R_reads' HO_6.out).2.2)); (case side2 => exact (Kd.R_reads' HO_6.out).2.1); rintro e w28 ⟨v208, rfl, ho0, hb⟩; refine ⟨_, rfl, ?_⟩; have n0_ := Aside0.mk (Kd.R_elder' (by (with_reducible repeat (apply Kd.R_drewN)); exact HO_4.out) (Kd.R_base ho0) hb); have n1_ := Aside0.mk (Kd.R_below (by (with_reducible repeat (apply Kd.R_drewN)); exact HO_6.out) hb); have n2_ := Aside0.mk (Kd.R_lower (Kd.R_new' ho0 (Kd.R_lt (by (with_reducible repeat (apply Kd.R_drewN)); exact HO_4.out))) (below_size (by repeat ((with_reducible first | exact HB.out | apply pw_below_drewN))))); have n3_ := Aside0.mk (below_step (by repeat ((with_reducible first | exact HB.out | apply pw_below_drewN))) hb); revert n0_ n1_ n2_ n3_; clear HO_4 HO_6 HB; intro HO_4 HO_6 HO209 HB; (try clear hb); (try clear ho0)) | ((with_reducible refine gate_callee (f := 135) rfl ?_); refine goL_ Tryz.func135 #[.int .i64 t199] ?_; (with_reducible refine (bits_Fold.calls t199 t210 _ A22.out).mono ?_); rintro e w' ⟨rfl, ⟨nd, rfl⟩⟩; refine ⟨_, rfl, ?_⟩) | ((with_reducible refine gate_callee (f := 71) rfl ?_); refine goL_ Tryz.func71 #[.int .u64 t210] ?_; (with_reducible refine (vint_Put.calls k1 t210 t211 _ A23.out).mono ?_); rintro e w29 ⟨v212, rfl, ho0, hb⟩; refine ⟨_, rfl, ?_⟩; have n0_ := Aside0.mk (Kd.R_elder' (by (with_reducible repeat (apply Kd.R_drewN)); exact HO_4.out) (Kd.R_base ho0) hb); have n1_ := Aside0.mk (Kd.R_below (by (with_reducible repeat (apply Kd.R_drewN)); exact HO_6.out) hb); have n2_ := Aside0.mk (Kd.R_elder' (by (with_reducible repeat (apply Kd.R_drewN)); exact HO209.out) (Kd.R_base ho0) hb); have n3_ := Aside0.mk (Kd.R_lower (Kd.R_new' (Kd.R_new' ho0 (Kd.R_lt (by (with_reducible repeat (apply Kd.R_drewN)); exact HO_4.out))) (Kd.R_lt (by (with_reducible repeat (apply Kd.R_drewN)); exact HO209.out))) (below_size (by repeat ((with_reducible first | exact HB.out | apply pw_below_drewN))))); have n4_ := Aside0.mk (below_step (by repeat ((with_reducible first | exact HB.out | apply pw_below_drewN))) hb); revert n0_ n1_ n2_ n3_ n4_; clear HO_4 HO_6 HO209 HB; intro HO_4 HO_6 HO209 HO213 HB; (try clear hb); (try clear ho0); obtain ⟨Ao31, co31, eo31⟩ := Kd.R_slice HO213.out; subst eo31) | ((with_reducible refine gate_builtin (b := .append) (xs := #[.tmp 52, .tmp 55]) rfl ?_); at_builtin; refine Kd.R_append_rows (Kd.int .u8) (w0 := w) w.heap.size rfl (.tmp 52) (.tmp 55) 24 5 (.int .u8 0) 1 rfl Tryz.underlying24 info5 rfl (by decide) (by omega) v197 t196 t211 _ _ _ (fun k_ => some k_ ≠ (v208 : Value).ownBlock ∧ some k_ ≠ (.slice Ao31 t211.length co31 : Value).ownBlock) (fun _ => False) rfl rfl ?aO ?aR (fun _ _ h => h) (fun _ h => h.elim) ?aF ?aB ?aS ?aL ?_; (case aR => repeat (exact (Kd.R_reads' HO213.out).2.2)); (case aB => exact HB.out); (case aF => exact (fun k_ hk => ⟨Kd.fresh' (Kd.R_lt HO209.out) k_ hk, Kd.fresh' (Kd.R_lt HO213.out) k_ hk⟩)); (case aO => exact (by (with_reducible repeat (apply Kd.R_alloc)); exact Kd.R_mono HO_4.out (fun _ hk => ⟨hk.1.2, hk.2⟩))); (case aS => exact (below_size HB.out)); (case aL => have := LMc24.out; omega); intro v215 w30 ho hb hg hat; rw [← Ny214.out] at ho; have n0_ := Aside0.mk (Kd.R_over' HO_6.out (Kd.R_typed HO_4.out) (by decide) hg); have n1_ := Aside0.mk (Kd.R_after (ok := (fun k_ => some k_ ≠ (.slice Ao31 t211.length co31 : Value).ownBlock)) (by (with_reducible repeat (apply Kd.R_alloc)); exact Kd.R_mono HO209.out (fun _ hk => ⟨hk.2, hk.1.2⟩)) hg hat); have n2_ := Aside0.mk (Kd.R_after (ok := (fun k_ => some k_ ≠ (v208 : Value).ownBlock)) (by (with_reducible repeat (apply Kd.R_alloc)); exact Kd.R_mono HO213.out (fun _ hk => ⟨hk.2, hk.1.2⟩)) hg hat); have n3_ := Aside0.mk (hb); have n4_ := Aside0.mk (ho); revert n0_ n1_ n2_ n3_ n4_; clear HO_6 HO209 HO213 HB HO_4; intro HO_6 HO209 HO213 HB HO216; clear ho hb hg hat) | ((with_reducible refine gate_builtin (b := .append) (xs := #[.tmp 57, .tmp 60]) rfl ?_); at_builtin; refine Kd.R_append (Kd.int .u8) (w0 := w) w.heap.size rfl (.tmp 57) (.tmp 60) 24 5 (.int .u8 0) 1 rfl Tryz.underlying24 info5 rfl (by decide) (by omega) v215 y214 ((t205) % 256) [.int .u8 ((t205) % 256)] (fun k_ => some k_ ≠ (v208 : Value).ownBlock ∧ some k_ ≠ (.slice Ao31 t211.length co31 : Value).ownBlock) (fun _ => False) rfl rfl ?aP (fun _ hk => hk.elim) ?aF ?aO ?aB ?aS ?aL ?_; (case aP => exact rfl); (case aB => exact HB.out); (case aF => exact (fun k_ hk => ⟨Kd.fresh' (Kd.R_lt HO209.out) k_ hk, Kd.fresh' (Kd.R_lt HO213.out) k_ hk⟩)); (case aO => exact HO216.out); (case aS => exact (below_size HB.out)); (case aL => have := LMc25.out; omega); intro v218 w32 ho hb hg hat; rw [← Ny217.out] at ho; have n0_ := Aside0.mk (Kd.R_over' HO_6.out (Kd.R_typed HO216.out) (by decide) hg); have n1_ := Aside0.mk (Kd.R_after (ok := (fun k_ => some k_ ≠ (.slice Ao31 t211.length co31 : Value).ownBlock)) HO209.out hg hat); have n2_ := Aside0.mk (Kd.R_after (ok := (fun k_ => some k_ ≠ (v208 : Value).ownBlock)) HO213.out hg hat); have n3_ := Aside0.mk (hb); have n4_ := Aside0.mk (ho); revert n0_ n1_ n2_ n3_ n4_; clear HO_6 HO209 HO213 HB HO216; intro HO_6 HO209 HO213 HB HO219; clear ho hb hg hat; obtain ⟨Ao34, co34, eo34⟩ := Kd.R_slice HO209.out; subst eo34) | ((with_reducible refine gate_builtin (b := .append) (xs := #[.tmp 61, .tmp 62]) rfl ?_); at_builtin; refine Kd.R_append_rows (Kd.int .u8) (w0 := w) w.heap.size rfl (.tmp 61) (.tmp 62) 24 5 (.int .u8 0) 1 rfl Tryz.underlying24 info5 rfl (by decide) (by omega) v218 y217 t206 _ _ _ (fun k_ => some k_ ≠ (.slice Ao34 t206.length co34 : Value).ownBlock ∧ some k_ ≠ (.slice Ao31 t211.length co31 : Value).ownBlock) (fun _ => False) rfl rfl ?aO ?aR (fun _ _ h => h) (fun _ h => h.elim) ?aF ?aB ?aS ?aL ?_; (case aR => repeat (exact (Kd.R_reads' HO209.out).2.2)); (case aB => exact HB.out); (case aF => exact (fun k_ hk => ⟨Kd.fresh' (Kd.R_lt HO209.out) k_ hk, Kd.fresh' (Kd.R_lt HO213.out) k_ hk⟩)); (case aO => exact HO219.out); (case aS => exact (below_size HB.out)); (case aL => have := LMc26.out; omega); intro v221 w33 ho hb hg hat; rw [← Ny220.out] at ho; have n0_ := Aside0.mk (Kd.R_over' HO_6.out (Kd.R_typed HO219.out) (by decide) hg); have n1_ := Aside0.mk (Kd.R_after (ok := (fun k_ => some k_ ≠ (.slice Ao31 t211.length co31 : Value).ownBlock)) HO209.out hg hat); have n2_ := Aside0.mk (Kd.R_after (ok := (fun k_ => some k_ ≠ (.slice Ao34 t206.length co34 : Value).ownBlock)) HO213.out hg hat); have n3_ := Aside0.mk (hb); have n4_ := Aside0.mk (ho); revert n0_ n1_ n2_ n3_ n4_; clear HO_6 HO209 HO213 HB HO219; intro HO_6 HO209 HO213 HB HO222; clear ho hb hg hat))
        go_ret2
        exact ⟨_, by rfl, by (with_reducible repeat (apply Kd.R_alloc)); exact Kd.R_mono HO222.out (fun _ hk => trivial), by exact HB.out⟩
       rw [if_neg c26] at H
       exact absurd H (by simp)
      rw [if_neg c25] at H
      exact absurd H (by simp)
     rw [if_neg c24] at H
     exact absurd H (by simp)
  rw [if_neg c8] at H
  exact absurd H (by simp)
 rw [if_neg c7] at H
 exact absurd H (by simp)
def dict_width.f (k : Nat) (a0 : Int) : Option (Int) := (bits_Width.f k (([IntKind.u64.wrap (mx (wrap64 (a0 - 1)) 0)] : List Int))).bind fun t226 => (some t226)
set_option maxHeartbeats 8000000 in
set_option maxRecDepth 100000 in
theorem dict_width.calls (k : Nat) (a0 : Int) (r : Int) (w : World) (h : dict_width.f k a0 = some r) :
 Calls Tryz.prog 129 #[.int .i64 a0] w fun e w' => e = .returned (.int .i64 r) ∧ Below w.heap.size w w' := by
 have HB := Aside0.mk (Below.refl w.heap.size w)
 unfold dict_width.f at h
 have H := h
 clear h
 obtain ⟨ji2, hji2⟩ : ∃ j_ : Int, (mx (wrap64 (a0 - 1)) 0) = j_ := ⟨_, rfl⟩
 replace H : ((bits_Width.f k (([IntKind.u64.wrap (ji2)] : List Int))).bind fun t226 => (some t226)) = some r := by (rw [hji2] at H; exact H)
 (try (have hji2l : 0 ≤ ji2 := by (rw [← hji2]; unfold mx; (repeat' split) <;> omega)))
 (try (have hji2m : 0 ≤ ji2 := by omega))
 have hji2_ : (if (wrap64 (a0 - 1)) < 0 then 0 else (wrap64 (a0 - 1))) = ji2 := hji2
 obtain ⟨y223, hy223⟩ : ∃ y_ : List Int, y_ = (([IntKind.u64.wrap (ji2)] : List Int)) := ⟨_, rfl⟩
 replace H : ((bits_Width.f k y223).bind fun t226 => (some t226)) = some r := by (rw [hy223]; with_reducible exact H)
 have Ny223 := Aside0.mk hy223
 clear hy223
 replace H := Option.bind_eq_some_iff.mp H
 obtain ⟨t226, A30, H⟩ := H
 (try dsimp only at H)
 have A3 := Aside0.mk A30
 clear A30
 obtain rfl := Option.some.inj H
 go_enter Tryz.func129, Tryz.ntmps129
 go_wp2_with (first | ((with_reducible refine gate_dst (N := 7) rfl ?_); refine Kd.R_lit (Kd.int .u64) _ 69 ?hg (N := 7) ?hd (xs := ([IntKind.u64.wrap (ji2)] : List Int)) (inner := [.int .u64 (IntKind.u64.wrap (ji2))]) (ok := fun _ => True) (okp := fun _ => True) ?hr ?hp (fun _ hk => hk) trivial (Below.refl _ _) (Nat.le_refl _) (by simp) ?_; (case hd => rfl); (case hg => rfl); (case hr => (go_simp; done)); (case hp => exact (Reps.one (show Kd.M (Kd.int .u64) _ _ _ (IntKind.u64.wrap (ji2)) [.int .u64 (IntKind.u64.wrap (ji2))] from rfl) (Reps.none _ _))); intro v224 w4 ho5 hb hg_ hnew_; clear hg_ hnew_; (rw [← Ny223.out] at ho5); have n0_ := Aside0.mk (Kd.R_lower ho5 (below_size HB.out)); have n1_ := Aside0.mk (below_step HB.out hb); revert n0_ n1_; clear HB; intro HO225 HB; clear hb ho5; obtain ⟨Ao6, co6, eo6⟩ := Kd.R_slice HO225.out; subst eo6) | ((with_reducible refine gate_callee (f := 83) rfl ?_); refine goL_ Tryz.func83 #[.slice Ao6 y223.length co6] ?_; (with_reducible refine (bits_Width.calls k _ _ y223 t226 _ ((Kd.R_reads' HO225.out).2.2) ((Kd.R_reads' HO225.out).2.1) A3.out).mono ?_); rintro e w' ⟨rfl, ⟨nd, rfl⟩⟩; refine ⟨_, rfl, ?_⟩))
 go_ret
 exact ⟨by rfl, by repeat ((with_reducible first | exact HB.out | apply pw_below_drewN))⟩
end Go.Proofs.YtjbhaepkldgfnaaGreat.S
namespace Go.Proofs
open Go.RowKit Go.Maps Go.Sort Go.Shelf
theorem Tryz.sorts150 (m : Nat) : AnyZ.SortsIn Tryz.prog Tryz.sorted150_ren Fence.wide m :=
  ⟨fun blk off cap ss W hH hblk hsz => callsIn_wide.2 (AnyM.slices_Sort_string Tryz.sort158 blk off cap ss W hH hblk hsz),
   fun p cap W => callsIn_wide.2 (AnyM.slices_Sort_string_none Tryz.sort158 p cap W)⟩
theorem Tryz.maps_Keys_151 (mb : Option Nat) (W : World) : CallsIn Fence.wide 5 Tryz.prog 151 #[.map mb] W fun e w' => e = .returned (.func (.func 159) #[] #[.pointer (some ⟨W.heap.size, 0, none⟩)]) ∧ w' = W.alloc (.cells #[.map mb] 182) :=
  AnyZ.keys_in Tryz.keys151 Fence.wide 5 trivial rfl mb W
set_option maxHeartbeats 1000000 in
theorem Tryz.slices_Sorted_keys_150_151 {H : Type} (b nn : Nat) (D0 : DataW H) (R : Value → Option (DataW H × List MemPlace)) (w : World) (hown : w.ownsMap Tryz.prog 9 R b nn D0) (hmax : Maps.size D0 ≤ maxLen) (hbytes : Maps.size D0 * 16 ≤ 140737488355328) :
    CallsIn Fence.wide 5 Tryz.prog 150 #[.func (.func 159) #[] #[.pointer (some ⟨w.heap.size, 0, none⟩)]] (w.alloc (.cells #[.map (some b)] 182)) fun e w' => ∃ (v : Value) (ss : List (List UInt8)), e = .returned v ∧ ss.Perm (strKeys D0) ∧
      w'.ownsRow (w.alloc (.cells #[.map (some b)] 182)).heap.size 9 1 v ss.length ((ss.mergeSort (fun x y => decide (x ≤ y))).map encStr) ∧ (v = .slice none 0 0 ↔ ss = []) ∧ Below (w.alloc (.cells #[.map (some b)] 182)).heap.size (w.alloc (.cells #[.map (some b)] 182)) w' := by
  have hbl := hown.lt
  have hseq : SeqGives Fence.wide 2 Tryz.prog 159 #[.pointer (some ⟨w.heap.size, 0, none⟩)] encStr (fun ss => ss.Perm (strKeys D0)) (Maps.size D0) (w.alloc (.cells #[.map (some b)] 182)) :=
    AnyZ.keys_gives (ρ := Tryz.keys151_ren) { Tryz.keys151 with } Fence.wide _ trivial rfl (by omega) w.heap.size b nn D0 _ (by simp) (by simp) (by
      obtain ⟨es, clock, hb, Ft, hs, hD⟩ := hown
      exact ⟨es, clock, (Below.heap_alloc _ _ b hbl).trans hb, Ft, hs, hD⟩)
  exact AnyZ.sorted_in Tryz.sorted150 Fence.wide 5 trivial trivial trivial trivial rfl (by omega) (Tryz.sorts150 _) (enters_of Tryz.func158 (by kernel_rfl) rfl) 159 #[.pointer (some ⟨w.heap.size, 0, none⟩)] trivial (enters_of Tryz.func159 (by kernel_rfl) rfl) _ _ hmax hbytes _ hseq
end Go.Proofs
namespace Go.Proofs.YtjbhaepkldgfnaaGreat.S
open Go.RowKit Go.Proofs.YtjbhaepkldgfnaaGreatW.PrintWords Go.Proofs.YtjbhaepkldgfnaaGreatW.PrintLast Go.Proofs.YtjbhaepkldgfnaaGreatW.PrintMore
set_option linter.unusedVariables false
set_option linter.unusedSimpArgs false
def dI_bs (s : List Int) : List UInt8 := s.map fun n => UInt8.ofNat n.toNat
def dI_i (c : Int) : DataW Unit := .lit (.int .i64 c)
def dI_D1 (l : List (List Int)) : DataW Unit := l.foldl (fun D s => D.put (.string (dI_bs s)) (dI_i 0)) (.map [])
def dI_keys (l : List (List Int)) : List (List UInt8) := (strKeys (dI_D1 l)).mergeSort (fun x y => decide (x ≤ y))
def dI_D2 (l : List (List Int)) (n : Nat) : DataW Unit := ((dI_keys l).take n).zipIdx.foldl (fun D p => D.put (.string p.1) (dI_i p.2)) (dI_D1 l)
def dI_num : DataW Unit → Int
  | .lit (.int _ c) => c
  | _ => 0
def dI_ints (b : List UInt8) : List Int := b.map fun x => (x.toNat : Int)
def dI_code (l : List (List Int)) (s : List Int) : Int := dI_num ((dI_D2 l (dI_keys l).length).atKey (.string (dI_bs s)) (dI_i 0))
def dict_Index.f (l0 : List (List Int)) : Option (List (List Int) × List Int × Int) :=
  if l0.length > 4096 then some ([], [], 4)
  else if l0.all (fun s => decide (s.length ≤ 200)) then some ((dI_keys l0).map dI_ints, l0.map (dI_code l0), 0)
  else some ([], [], 4)
theorem dI_D1_snoc (l : List (List Int)) (s : List Int) : dI_D1 (l ++ [s]) = (dI_D1 l).put (.string (dI_bs s)) (dI_i 0) := by simp [dI_D1, List.foldl_append]
theorem dI_key (s : List Int) (h : s.length ≤ 200) : keyOf Tryz.prog 9 (.string (strOfNums s)) = some (.string (dI_bs s)) := by
  have := Go.WideMaps.keyOf_string_mk (P := Tryz.prog) Tryz.underlying9 (s := strOfNums s) (by rw [strOfNums_size]; unfold maxLen; omega)
  rw [this, strOfNums_data]
  rfl
theorem dI_val (c : Int) (h0 : -9223372036854775808 ≤ c) (h1 : c ≤ 9223372036854775807) : plainElem (H := Unit) Tryz.prog 3 (.int .i64 c) = some (dI_i c, []) := plainElem_int Tryz.underlying3 (Go.WalkArith.wf_i64 ⟨h0, h1⟩)
theorem dI_callK (mb : Option Nat) (W : World) : Calls Tryz.prog 151 #[.map mb] W fun e w' => e = .returned (.func (.func 159) #[] #[.pointer (some ⟨W.heap.size, 0, none⟩)]) ∧ w' = W.alloc (.cells #[.map mb] 182) := callsIn_wide.1 (Tryz.maps_Keys_151 mb W)
theorem dI_two {wr w3 : World} {o1 o2 : Obj} (hb : Below ((wr.alloc o1).alloc o2).heap.size ((wr.alloc o1).alloc o2) w3) : (∀ k, k < wr.heap.size → w3.heap[k]? = wr.heap[k]?) ∧ w3.heap[wr.heap.size]? = some o1 := by
  refine ⟨fun k hk => ?_, ?_⟩
  · rw [hb.block k (by simp; omega), Below.heap_alloc _ _ k (by simp; omega), Below.heap_alloc _ _ k hk]
  rw [hb.block _ (by simp; omega), Below.heap_alloc _ _ _ (by simp), heap_alloc_new]
theorem dI_N0 {w3 : World} {base g : Nat} {ok : Nat → Prop} (hg : w3.heap[g]? = some (.cells #[] 24 (0, 0))) (hb : base ≤ g) (hok : ok g) : Kd.N (Kd.slice 5 (Kd.int .u8)) 24 w3 base ok (.slice (some ⟨g, 0, none⟩) 0 0) [] :=
  Kd.R_N ⟨fun k hk => by
    have : g = k := by simpa [Value.ownBlock] using hk
    exact this ▸ hok, [], ⟨by simp, .inr ⟨g, 0, #[], rfl, hb, hg, Nat.le_refl _, Nat.zero_le _, by simp, by simp⟩⟩, Reps.none _ _⟩
theorem dI_N_lt {α : Type} {d : Kd α} {e base : Nat} {ok : Nat → Prop} {w : World} {v : Value} {xs : List α} (h : Kd.N d e w base ok v xs) : ∀ k, v.ownBlock = some k → k < w.heap.size ∧ ok k := by
  obtain ⟨h0, rows, _, hr, _⟩ := h
  exact fun k hk => ⟨Kd.R_lt hr k hk, h0 k hk⟩
theorem dI_bytesF (W : World) (s : ByteArray) (hs : s.size ≤ 9223372036854775807) : Kd.F (Kd.int .u8) (Lib.bytesWorld W 5 s) (fun k => k = W.heap.size) (some ⟨W.heap.size, 0, none⟩) (bytesOf s).length (bytesOf s) := by
  intro W' hW
  have hb := hW W.heap.size rfl (by rw [Lib.bytesWorld_size]; omega)
  have hr := bytes_reads W 5 s hs
  rw [bytesOf_length]
  refine Kd.C_of_reads (d := (0 : Int)) ⟨hr.1, hr.2.1, fun h0 => ?_⟩
  obtain ⟨ad, he, hc⟩ := hr.2.2 h0
  injection he with he
  subst he
  refine ⟨_, rfl, fun j hj => ?_⟩
  have := hc j hj
  rw [World.cell?_of_block (w := Lib.bytesWorld W 5 s) (w' := W') (by rw [add_plain]; exact hb)]
  exact this
theorem dI_own_lt {W : World} {ad : Addr} {n c i : Nat} (h : (ad.add i).block < W.heap.size) : ∀ k, some k = (Value.slice (some ad) n c).ownBlock → k < W.heap.size := by
  intro k hk
  rw [add_block] at h
  have : ad.block = k := by simpa [Value.ownBlock] using hk.symm
  omega
theorem dI_bytesFK (W : World) (s : ByteArray) (hs : s.size ≤ maxLen) : Kd.FK (Kd.slice 5 (Kd.int .u8)) (Lib.bytesWorld W 5 s) (fun k => k = W.heap.size) (bytesOf s) [.slice (some ⟨W.heap.size, 0, none⟩) s.size (grownCap W s.size 0 5)] := by
  have h := Kd.FK_slice_mk (e := 5) (c := grownCap W s.size 0 5) (by rw [bytesOf_length]; exact grownCap_ge W s.size 0 5) (dI_bytesF W s (by unfold maxLen at hs; omega))
  rw [bytesOf_length] at h
  exact h
theorem dI_N_bytes {α : Type} {d : Kd α} {e base : Nat} {ok : Nat → Prop} {w : World} {v : Value} {xs : List α} (h : Kd.N d e w base ok v xs) (s : ByteArray) : Kd.N d e (Lib.bytesWorld w 5 s) base ok v xs := Kd.N_step h (fun k _ hk => Lib.bytesWorld_at_old w 5 s k hk)
def dI_kB (l : List (List Int)) : List ByteArray := (dI_keys l).map fun b => (⟨b.toArray⟩ : ByteArray)
theorem dI_kB_le (l : List (List Int)) : (dI_kB l).length ≤ Maps.size (dI_D1 l) := by
  unfold dI_kB dI_keys
  rw [List.length_map, List.length_mergeSort]
  generalize dI_D1 l = D
  cases D with
  | map es => simp [strKeys, Maps.size]
  | _ => simp [strKeys]
theorem dI_mk_len (l : List (List Int)) (i : Int) (h0 : 0 ≤ i) (h1 : i < (l.length : Int)) : ((l.take i.toNat).map (dI_code l) ++ List.replicate (l.length - i.toNat) 0).length = l.length := by simp; omega
theorem dI_code_of {l : List (List Int)} {s : List Int} {c : Int} (h : (dI_D2 l (dI_kB l).length).atKey (.string (dI_bs s)) (.lit (.int .i64 0)) = .lit (.int .i64 c)) : dI_code l s = c := by
  have e : (dI_kB l).length = (dI_keys l).length := by simp [dI_kB]
  unfold dI_code dI_i
  rw [← e, h]
  rfl
theorem dI_take (l : List (List Int)) (i : Int) (h0 : 0 ≤ i) (h1 : i < (l.length : Int)) : l.take (i + 1).toNat = l.take i.toNat ++ [rd_L1 l i] := by
  have e : (i + 1).toNat = i.toNat + 1 := by omega
  have hl : i.toNat < l.length := by omega
  rw [e, List.take_add_one]
  simp [rd_L1, List.getD_eq_getElem?_getD, List.getElem?_eq_getElem hl]
theorem dI_mk_set (l : List (List Int)) (i : Int) (h0 : 0 ≤ i) (h1 : i < (l.length : Int)) : ((l.take i.toNat).map (dI_code l) ++ List.replicate (l.length - i.toNat) 0).set i.toNat (dI_code l (rd_L1 l i)) = (l.take (i + 1).toNat).map (dI_code l) ++ List.replicate (l.length - (i + 1).toNat) 0 := by
  have hl : i.toNat < l.length := by omega
  have e : (i + 1).toNat = i.toNat + 1 := by omega
  have hlen : ((l.take i.toNat).map (dI_code l)).length = i.toNat := by simp; omega
  rw [List.set_append, if_neg (by omega), hlen, Nat.sub_self, show l.length - i.toNat = (l.length - (i.toNat + 1)) + 1 from by omega, List.replicate_succ, List.set_cons_zero, dI_take l i h0 h1, e]
  simp
theorem dI_kB_ints (l : List (List Int)) : (dI_kB l).map bytesOf = (dI_keys l).map dI_ints := by
  unfold dI_kB
  rw [List.map_map]
  rfl
theorem dI_callS (b nn : Nat) (l : List (List Int)) (w : World) (hown : w.ownsMap Tryz.prog 9 (plainElem Tryz.prog 3) b nn (dI_D1 l)) (hmax : Maps.size (dI_D1 l) ≤ 4096) (g : Nat) (hg : g = w.heap.size) (w2 : World) (hw2 : w2 = w.alloc (.cells #[.map (some b)] 182)) :
    Calls Tryz.prog 150 #[.func (.func 159) #[] #[.pointer (some ⟨g, 0, none⟩)]] w2 fun e w' => ∃ (v : Value), e = .returned v ∧
      Kd.R Kd.string 9 w' w2.heap.size (fun _ => True) v (dI_kB l) ∧ Below w2.heap.size w2 w' := by
  subst hg hw2
  refine (callsIn_wide.1 (Tryz.slices_Sorted_keys_150_151 b nn (dI_D1 l) (plainElem Tryz.prog 3) w hown (by unfold maxLen; omega) (by omega))).mono ?_
  rintro e w' ⟨v, ss, rfl, hS, hrow, hnil, hb⟩
  have hp : ss.mergeSort (fun x y => decide (x ≤ y)) = (strKeys (dI_D1 l)).mergeSort leB := mergeSort_of_perm hS
  refine ⟨v, rfl, ?_, hb⟩
  rw [hp] at hrow
  have hl : ss.length = (dI_kB l).length := by unfold dI_kB dI_keys; rw [List.length_map, List.length_mergeSort]; exact hS.length_eq
  rw [hl] at hrow
  refine Kd.R_of_own (enc := Value.string) ?_ (fun _ _ => trivial)
  have he : ((strKeys (dI_D1 l)).mergeSort leB).map Go.Proofs.encStr = encs Value.string (dI_kB l) := by
    simp [encs, dI_kB, dI_keys, Go.Proofs.encStr]
  rw [he] at hrow
  exact hrow
theorem dI_mapblk {b n : Nat} {D : DataW Unit} {w w1 : World} (h : w.ownsMap Tryz.prog 9 (plainElem Tryz.prog 3) b n D) (hb : w1.heap[b]? = w.heap[b]?) : w1.ownsMap Tryz.prog 9 (plainElem Tryz.prog 3) b n D := by
  obtain ⟨es, clock, h1, r⟩ := h
  exact ⟨es, clock, hb.trans h1, r⟩
theorem dI_keyB {b n : Nat} {l : List (List Int)} {w : World} (h : w.ownsMap Tryz.prog 9 (plainElem Tryz.prog 3) b n (dI_D1 l)) {s : ByteArray} (hs : s ∈ dI_kB l) : s.size ≤ maxLen := by
  obtain ⟨x, hx, rfl⟩ := List.mem_map.1 hs
  have := strKeys_le h Tryz.underlying9 x ((List.mergeSort_perm _ _).subset hx)
  simpa [ByteArray.size] using this
theorem dI_rdB (l : List (List Int)) (i : Int) (h0 : 0 ≤ i) (h1 : i < ((dI_kB l).length : Int)) : rdOf ByteArray.empty (dI_kB l) i ∈ dI_kB l ∧ (dI_kB l).take (i + 1).toNat = (dI_kB l).take i.toNat ++ [rdOf ByteArray.empty (dI_kB l) i] := by
  have e : (i + 1).toNat = i.toNat + 1 := by omega
  have hl : i.toNat < (dI_kB l).length := by omega
  have hr : rdOf ByteArray.empty (dI_kB l) i = (dI_kB l)[i.toNat] := by simp [rdOf, List.getD_eq_getElem?_getD, List.getElem?_eq_getElem hl]
  rw [hr]
  refine ⟨List.getElem_mem hl, ?_⟩
  rw [e, List.take_add_one, List.getElem?_eq_getElem hl]
  rfl
theorem dI_D2_step (l : List (List Int)) (i : Int) (h0 : 0 ≤ i) (h1 : i < ((dI_kB l).length : Int)) : dI_D2 l (i + 1).toNat = (dI_D2 l i.toNat).put (.string (rdOf ByteArray.empty (dI_kB l) i).data.toList) (dI_i i) := by
  have e : (i + 1).toNat = i.toNat + 1 := by omega
  have hl : i.toNat < (dI_keys l).length := by have : (dI_kB l).length = (dI_keys l).length := by simp [dI_kB]
                                               omega
  have hlen : ((dI_keys l).take i.toNat).length = i.toNat := by rw [List.length_take]; omega
  have hr : (rdOf ByteArray.empty (dI_kB l) i).data.toList = (dI_keys l)[i.toNat] := by simp [rdOf, dI_kB, List.getD_eq_getElem?_getD, List.getElem?_eq_getElem hl]
  unfold dI_D2
  rw [e, List.take_add_one, List.getElem?_eq_getElem hl, hr]
  simp only [Option.toList_some, List.zipIdx_append, List.foldl_append, hlen]
  simp only [List.zipIdx_cons, List.zipIdx_nil, List.foldl_cons, List.foldl_nil, Nat.zero_add]
  rw [show ((i.toNat : Nat) : Int) = i from by omega]
theorem dI_D2_zero (l : List (List Int)) : dI_D2 l 0 = dI_D1 l := by simp [dI_D2]
set_option maxHeartbeats 8000000 in
set_option maxRecDepth 100000 in
theorem dict_Index.callsL (A0 : Option Addr) (c0 : Nat) (l0 : List (List Int)) (w : World) (hr0 : Kd.C (Kd.slice 5 (Kd.int .u8)) w A0 l0.length l0) (hc0 : l0.length ≤ c0) (h : l0.length > 4096) :
    Calls Tryz.prog 137 #[.slice A0 l0.length c0] w fun e w' => ∃ v0_ v1_ : Value, e = .returned (.tuple #[v0_, v1_, .int .i64 4]) ∧ Kd.N (Kd.slice 5 (Kd.int .u8)) 24 w' w.heap.size (fun k_ => (w.heap.size ≤ k_) ∧ some k_ ≠ (v1_ : Value).ownBlock) v0_ [] ∧ Kd.R (Kd.int .i64) 3 w' w.heap.size (fun _ => True) v1_ [] ∧ Below w.heap.size w w' := by
  have HR0 := Aside0.mk hr0
  have HC0 := Aside0.mk hc0
  clear hr0 hc0
  have HB := Aside0.mk (Below.refl w.heap.size w)
  have c1 : decide (4096 < (l0.length : Int)) = true := decide_eq_true (by omega)
  have c1' : decide (4096 < l0.length) = true := decide_eq_true h
  clear h
  go_enter Tryz.func137, Tryz.ntmps137
  go_wp2
  go_ret3
  exact ⟨_, _, rfl, Kd.N_nil _ _ _ _ _, Kd.R_nil _ _ _ _ _, by repeat (exact HB.out)⟩
theorem dI_mem (l : List (List Int)) (i : Int) (h0 : 0 ≤ i) (h1 : i < (l.length : Int)) : rd_L1 l i ∈ l := by
  have hl : i.toNat < l.length := by omega
  simp [rd_L1, List.getD_eq_getElem?_getD, List.getElem?_eq_getElem hl]
set_option maxHeartbeats 8000000 in
set_option maxRecDepth 100000 in
theorem dict_Index.callsX (A0 : Option Addr) (c0 : Nat) (l0 : List (List Int)) (w : World) (hr0 : Kd.C (Kd.slice 5 (Kd.int .u8)) w A0 l0.length l0) (hc0 : l0.length ≤ c0) (hle : l0.length ≤ 4096) (hall : l0.all (fun s => decide (s.length ≤ 200)) = true) :
    Calls Tryz.prog 137 #[.slice A0 l0.length c0] w fun e w' => ∃ v0_ v1_ : Value, e = .returned (.tuple #[v0_, v1_, .int .i64 0]) ∧ Kd.N (Kd.slice 5 (Kd.int .u8)) 24 w' w.heap.size (fun k_ => (w.heap.size ≤ k_) ∧ some k_ ≠ (v1_ : Value).ownBlock) v0_ ((dI_keys l0).map dI_ints) ∧ Kd.R (Kd.int .i64) 3 w' w.heap.size (fun _ => True) v1_ (l0.map (dI_code l0)) ∧ Below w.heap.size w w' := by
  have HR0 := Aside0.mk hr0
  have HC0 := Aside0.mk hc0
  clear hr0 hc0
  have HB := Aside0.mk (Below.refl w.heap.size w)
  have HLE := Aside0.mk hle
  have HALL := Aside0.mk hall
  clear hall
  have c1 : decide (4096 < (l0.length : Int)) = false := decide_eq_false (by omega)
  have c1' : decide (4096 < l0.length) = false := decide_eq_false (by omega)
  clear hle
  have hmk : ∀ W, (Instr.makeMap 182 none).run Tryz.prog W = .ok (.map (some W.heap.size)) (W.alloc (.map #[] 0)) := run_makeMap 182
  go_enter Tryz.func137, Tryz.ntmps137
  go_wp2
  clear hmk
  try clear c1
  try clear c1'
  go_loopg [20] l0.length (fun kq v20 w' => ∃ (i : Int), v20 = .int .i64 i ∧ Aside0 (0 ≤ i) ∧ Aside0 (i.toNat + kq = l0.length) ∧ Aside0 ((l0.take i.toNat).all (fun s => decide (s.length ≤ 200)) = true) ∧ Aside0 (w'.ownsMap Tryz.prog 9 (plainElem Tryz.prog 3) w.heap.size i.toNat (dI_D1 (l0.take i.toNat))) ∧ Aside0 (Below w.heap.size w w'))
  case atStart => exact ⟨0, rfl, ⟨by omega⟩, ⟨by simp⟩, ⟨by simp⟩, ⟨World.ownsMap_made w Tryz.prog 9 _⟩, ⟨by repeat (first | exact HB.out | apply below_alloc)⟩⟩
  case round =>
    clear HB
    obtain ⟨i, rfl, H0, HI, HAL, HM, HB⟩ := hrel
    by_cases hlt : i < (l0.length : Int)
    · have c2 : decide (i < (l0.length : Int)) = true := decide_eq_true hlt
      have HLT := Aside0.mk hlt
      clear hlt
      obtain ⟨ad, As, cs, had, hx, hls, his⟩ := at_L1 HR0.out i H0.out (by have := HLT.out; omega)
      subst had
      have his' := Aside0.mk (Kd.C_below his HB.out)
      have hls' := Aside0.mk hls
      replace hx := (HB.out.cell (World.block_lt_of_cell? w _ hx)).trans hx
      have p0 : ((0 : Int) ≤ i) = True := eq_true H0.out
      have q0 : (i < (l0.length : Int)) = True := eq_true HLT.out
      clear his hls
      by_cases hs : (rd_L1 l0 i).length ≤ 200
      · have c3 : decide (200 < ((rd_L1 l0 i).length : Int)) = false := decide_eq_false (by omega)
        have c3' : decide (200 < (rd_L1 l0 i).length) = false := decide_eq_false (by omega)
        have HS := Aside0.mk hs
        clear hs
        have hcv := Kd.C_string (P := Tryz.prog) (dst := 9) Tryz.underlying24 Tryz.underlying5 Tryz.underlying9 (c := cs) his'.out
        go_wp2_with ((at_mapUpdate; refine wpList_mapUpdate_own _ rfl _ _ _ 182 rfl 9 3 (Go.Maps.string_keyed Tryz.underlying9) Tryz.underlying182 (plainElem Tryz.prog 3) w.heap.size i.toNat (dI_D1 (l0.take i.toNat)) rfl ?hm (by have := HLT.out; have := H0.out; have := HLE.out; unfold maxLen; omega) _ _ (.string (dI_bs (rd_L1 l0 i))) rfl rfl (dI_key _ HS.out) (dI_i 0) [] (dI_val 0 (by omega) (by omega)) ?_; (case hm => repeat (exact HM.out)); intro w9 hm9 hg9; have HM9 := Aside0.mk hm9; have HB9 := Aside0.mk (pw_below_grown (by repeat (exact HB.out)) (some w.heap.size) (by have := HM.out.lt; omega) hg9 (by intro k hk; injection hk with hk; omega)); clear hm9 hg9))
        go_roundg (gk - 1)
        case measure => have := HI.out; have := HLT.out; have := H0.out; omega
        case rel =>
          have hw1 : wrap64 (i + 1) = i + 1 := by have := HLT.out; have := HLE.out; have := H0.out; unfold wrap64; omega
          have htk : l0.take (i + 1).toNat = l0.take i.toNat ++ [rd_L1 l0 i] := dI_take l0 i H0.out HLT.out
          refine ⟨wrap64 (i + 1), rfl, ?_, ?_, ?_, ?_, HB9⟩
          all_goals rw [hw1]
          · exact ⟨by have := H0.out; omega⟩
          · exact ⟨by have := HI.out; have := HLT.out; have := H0.out; omega⟩
          · exact ⟨by rw [htk, List.all_append, HAL.out]; simp [HS.out]⟩
          exact ⟨by rw [htk, dI_D1_snoc]; exact (HM9.out.mono (by have := H0.out; omega))⟩
      exact absurd (List.all_eq_true.1 HALL.out (rd_L1 l0 i) (dI_mem l0 i H0.out HLT.out)) (by simp; omega)
    have c2 : decide (i < (l0.length : Int)) = false := decide_eq_false hlt
    have hin : i.toNat = l0.length := by have := HI.out; have := H0.out; omega
    clear hlt
    have HM1 := HM
    rw [hin, List.take_length] at HM1
    clear HI HAL HM H0 hin
    have hsz := Aside0.mk (World.ownsMap.size_le HM1.out)
    have HSM := Aside0.mk (Nat.le_trans (dI_kB_le l0) (Nat.le_trans hsz.out HLE.out))
    have HKS : Aside0 (∀ s ∈ dI_kB l0, s.size ≤ maxLen) := ⟨fun s hs => dI_keyB HM1.out hs⟩
    go_wp2_with (first | (go_at_call 151; refine (dI_callK _ _).mono ?_; rintro e w' ⟨rfl, rfl⟩) | (go_at_call 150; refine (dI_callS w.heap.size l0.length l0 (wr.alloc (.cells #[] 24)) ?hm (by have := hsz.out; have := HLE.out; omega) _ (by simp) _ rfl).mono ?_; (case hm => repeat (first | (with_reducible exact HM1.out) | (with_reducible apply World.ownsMap.alloc))); rintro e w3 ⟨vk, rfl, hrow, hb⟩; have HB3 := Aside0.mk (Below.trans (below_alloc (below_alloc HB.out (.cells #[] 24)) (.cells #[.map (some w.heap.size)] 182)) (hb.mono (by have := HB.out.size; simp; omega))); have HM3 := Aside0.mk (dI_mapblk HM1.out (w1 := w3) ((dI_two hb).1 _ HM1.out.lt)); have HG3 : Aside0 (w3.heap[wr.heap.size]? = some (.cells #[] 24 (0, 0))) := ⟨(dI_two hb).2⟩; have HGL := Aside0.mk HM1.out.lt; have HKB : Aside0 (∀ k, vk.ownBlock = some k → wr.heap.size < k) := ⟨fun k hk => by have := Kd.R_base hrow k hk; simp at this; omega⟩; have HKR := Aside0.mk hrow; clear hrow hb; obtain ⟨Ak, ck, eok⟩ := Kd.R_slice HKR.out; subst eok))
    clear HM1 HB
    have HB := HB3
    clear HB3
    go_loopg [8, 36] (dI_kB l0).length (fun kq v8 v36 w' => ∃ (x : Int), v36 = .int .i64 x ∧ Aside0 (0 ≤ x) ∧ Aside0 (x.toNat + kq = (dI_kB l0).length) ∧ Aside0 (Kd.N (Kd.slice 5 (Kd.int .u8)) 24 w' w.heap.size (fun k => w.heap.size < k ∧ some k ≠ (Value.slice Ak (dI_kB l0).length ck).ownBlock) v8 (((dI_kB l0).take x.toNat).map bytesOf)) ∧ Aside0 (w'.ownsMap Tryz.prog 9 (plainElem Tryz.prog 3) w.heap.size (l0.length + x.toNat) (dI_D2 l0 x.toNat)) ∧ Aside0 (Kd.F Kd.string w' (fun k => some k = (Value.slice Ak (dI_kB l0).length ck).ownBlock) Ak (dI_kB l0).length (dI_kB l0)) ∧ Aside0 (Below w.heap.size w w'))
    case atStart => exact ⟨0, by rfl, ⟨by omega⟩, ⟨by simp⟩, ⟨by simpa using dI_N0 HG3.out (by have := HGL.out; omega) ⟨HGL.out, fun e => Nat.lt_irrefl _ (HKB.out _ e.symm)⟩⟩, ⟨by simpa [dI_D2_zero] using HM3.out⟩, ⟨Kd.R_F (Kd.R_tight rfl HKR.out)⟩, HB⟩
    case round =>
      have HKM : Aside0 (∀ k, some k = (Value.slice Ak (dI_kB l0).length ck).ownBlock → w.heap.size < k) := ⟨fun k hk => Nat.lt_trans HGL.out (HKB.out k hk.symm)⟩
      clear HKB HGL HG3 HM3 HKR HB
      obtain ⟨x, rfl, H0, HI, HN, HM, HF, HB⟩ := hrel
      by_cases hlt : x < ((dI_kB l0).length : Int)
      · have c2 : decide (x < ((dI_kB l0).length : Int)) = true := decide_eq_true hlt
        have HLT := Aside0.mk hlt
        clear hlt
        obtain ⟨hmem, htk⟩ := dI_rdB l0 x H0.out HLT.out
        have hst := dI_D2_step l0 x H0.out HLT.out
        obtain ⟨ad, had, hx⟩ := Kd.at_string (Kd.F_now HF.out) x H0.out HLT.out
        subst had
        have hsB := HKS.out _ hmem
        obtain ⟨s, hs⟩ : ∃ s, s = rdOf ByteArray.empty (dI_kB l0) x := ⟨_, rfl⟩
        rw [← hs] at hx hst htk hsB
        have HST := Aside0.mk hst
        have HTK := Aside0.mk htk
        have HSB := Aside0.mk hsB
        clear hst htk hs hmem hsB
        have hcb : ∀ W, (convert 9 24 (.string s)).run Tryz.prog W = .ok (.slice (some ⟨W.heap.size, 0, none⟩) s.size (grownCap W s.size 0 5)) (Lib.bytesWorld W 5 s) := fun W => Lib.run_convert_string_bytes W 9 24 5 s Tryz.underlying9 Tryz.underlying24 Tryz.underlying5
        have p0 : ((0 : Int) ≤ x) = True := eq_true H0.out
        have q0 : (x < ((dI_kB l0).length : Int)) = True := eq_true HLT.out
        have HKW : Aside0 (∀ k, (fun k => some k = (Value.slice (some ad) (dI_kB l0).length ck).ownBlock) k → k < wr.heap.size) := ⟨dI_own_lt (World.block_lt_of_cell? wr _ hx)⟩
        go_wp2_with (first | ((with_reducible refine gate_builtin (b := .append) (xs := #[.tmp 41, .tmp 44]) rfl ?_); at_builtin; refine Kd.N_append (Kd.slice 5 (Kd.int .u8)) (w0 := w) (W := Lib.bytesWorld wr 5 s) w.heap.size rfl (.tmp 41) (.tmp 44) 42 24 (.slice none 0 0) 24 rfl Tryz.underlying42 info24 rfl (by decide) (by omega) u8 (((dI_kB l0).take x.toNat).map bytesOf) (bytesOf s) [.slice (some ⟨wr.heap.size, 0, none⟩) s.size (grownCap wr s.size 0 5)] (fun k => w.heap.size < k ∧ some k ≠ (Value.slice (some ad) (dI_kB l0).length ck).ownBlock) (fun k => k = wr.heap.size) rfl rfl ?aP ?aH ?aF ?aO ?aB ?aS ?aL ?_; (case aP => exact dI_bytesFK wr s HSB.out); (case aH => exact (fun k hk => by subst hk; exact ⟨⟨HM.out.lt, fun e => Nat.lt_irrefl _ (HKW.out _ e)⟩, fun e => Nat.lt_irrefl _ (dI_N_lt HN.out _ e.symm).1⟩)); (case aF => exact (fun k hk => by rw [Lib.bytesWorld_size] at hk; exact ⟨by have := HM.out.lt; omega, fun e => by have := HKW.out _ e; omega⟩)); (case aO => exact dI_N_bytes HN.out s); (case aB => exact bytes_below HB.out (Nat.le_of_lt HM.out.lt) 5 s); (case aS => exact (by rw [Lib.bytesWorld_size]; have := HM.out.lt; omega)); (case aL => exact (by have := HSM.out; have := HLT.out; have := H0.out; rw [List.length_map, List.length_take]; omega)); intro v9 w9 hn9 hb9 hg9 hat9; have HN9 := Aside0.mk hn9; have HB9 := Aside0.mk hb9; have HM9 := Aside0.mk (dI_mapblk HM.out (w1 := w9) ((hg9.block _ (by rw [Lib.bytesWorld_size]; have := HM.out.lt; omega) (fun e => Nat.lt_irrefl _ (dI_N_lt HN.out _ e.symm).2.1)).trans (Lib.bytesWorld_at_old wr 5 s _ HM.out.lt))); have HF9 := Aside0.mk (Kd.F_step HF.out (W1 := w9) (fun k hk hlt => (hg9.block k (by rw [Lib.bytesWorld_size]; omega) (fun e => (dI_N_lt HN.out k e.symm).2.2 hk)).trans (Lib.bytesWorld_at_old wr 5 s k hlt))); clear hn9 hb9 hg9 hat9) | (at_mapUpdate; refine wpList_mapUpdate_own _ rfl _ _ _ 182 rfl 9 3 (Go.Maps.string_keyed Tryz.underlying9) Tryz.underlying182 (plainElem Tryz.prog 3) w.heap.size (l0.length + x.toNat) (dI_D2 l0 x.toNat) rfl HM9.out (by have := HLT.out; have := HLE.out; have := H0.out; have := HSM.out; unfold maxLen; omega) _ _ (.string s.data.toList) rfl rfl (Go.WideMaps.keyOf_string_mk Tryz.underlying9 HSB.out) (dI_i x) [] (dI_val x (by have := H0.out; omega) (by have := HLT.out; have := HSM.out; omega)) ?_; intro w8 hm8 hg8; have HM8 := Aside0.mk hm8; have HB8 := Aside0.mk (pw_below_grown HB9.out (some w.heap.size) HB9.out.size hg8 (by intro k hk; injection hk with hk; omega)); have HN8 := Aside0.mk (Kd.N_grown HN9.out hg8 (fun k hk e => by injection e with e; have := hk.1; omega)); have HF8 := Aside0.mk (Kd.F_step HF9.out (W1 := w8) (fun k hk hlt => hg8.block k hlt (fun e => by injection e with e; have := HKM.out k hk; omega))); clear hm8 hg8))
        go_roundg (gk - 1)
        case measure => have := HI.out; have := HLT.out; have := H0.out; omega
        case rel =>
          have hw1 : wrap64 (x + 1) = x + 1 := by have := HLT.out; have := HSM.out; have := H0.out; unfold wrap64; omega
          refine ⟨wrap64 (x + 1), rfl, ?_, ?_, ?_, ?_, HF8, HB8⟩
          all_goals rw [hw1]
          · exact ⟨by have := H0.out; omega⟩
          · exact ⟨by have := HI.out; have := HLT.out; have := H0.out; omega⟩
          · exact ⟨by rw [HTK.out, List.map_append]; exact HN8.out⟩
          exact ⟨by rw [HST.out]; exact (HM8.out.mono (by have := H0.out; omega))⟩
      have c2 : decide (x < ((dI_kB l0).length : Int)) = false := decide_eq_false hlt
      have hin : x.toNat = (dI_kB l0).length := by have := HI.out; have := H0.out; omega
      have HM1 := HM
      have HN1 := HN
      rw [hin] at HM1 HN1
      rw [List.take_length] at HN1
      clear hin hlt HI HN HM HF H0
      have HNB := Aside0.mk (Kd.N_bound HN1.out)
      clear HN1
      go_wp2_with (((try (refine gate_guard (by rfl) ?_; dsimp only)); refine Kd.R_make (Kd.int .i64) (w0 := w) w.heap.size 3 rfl (N := 52) rfl 167 _ _ rfl (l0.length : Int) rfl rfl Tryz.underlying167 (.int .i64 0) 8 info3 rfl (by decide) (by omega) 0 (ok := fun _ => True) (okp := fun _ => True) rfl (fun _ hk => hk) trivial (by omega) (by have := HLE.out; omega) HB.out (by have := HM1.out.lt; omega) ?_; intro v9 w9 ho9 hb9 hg9 hnew9; have HM9 := Aside0.mk (HM1.out.kept hg9 (by simp)); have HN9 := Aside0.mk (Kd.N_mono (ok' := fun k_ => (w.heap.size ≤ k_) ∧ some k_ ≠ (v9 : Value).ownBlock) (Kd.N_grown HNB.out hg9 (fun k _ e => by cases e)) (fun k hk => ⟨Nat.le_of_lt hk.1.1, fun e => by obtain ⟨bb, e2, h3⟩ := hnew9; rw [e2] at e; injection e with e; have := hk.2; omega⟩)); have HC9 := Aside0.mk ho9; have HB9 := Aside0.mk hb9; have HMC9 : Aside0 (∀ k, v9.ownBlock = some k → k ≠ w.heap.size) := ⟨fun k e => by obtain ⟨bb, e2, h3⟩ := hnew9; rw [e2] at e; injection e with e; have := HM1.out.lt; omega⟩; clear ho9 hb9 hg9 hnew9))
      clear HNB HM1 HB HKS
      go_loopg [55] l0.length (fun kq v55 w' => ∃ (i : Int), v55 = .int .i64 i ∧ Aside0 (0 ≤ i) ∧ Aside0 (i.toNat + kq = l0.length) ∧ Aside0 (Kd.R (Kd.int .i64) 3 w' w.heap.size (fun _ => True) v9 ((l0.take i.toNat).map (dI_code l0) ++ List.replicate (l0.length - i.toNat) 0)) ∧ Aside0 (w'.ownsMap Tryz.prog 9 (plainElem Tryz.prog 3) w.heap.size (l0.length + (dI_kB l0).length) (dI_D2 l0 (dI_kB l0).length)) ∧ Aside0 (Kd.N (Kd.slice 5 (Kd.int .u8)) 24 w' w.heap.size (fun k_ => (w.heap.size ≤ k_) ∧ some k_ ≠ (v9 : Value).ownBlock) u8 ((dI_kB l0).map bytesOf)) ∧ Aside0 (Below w.heap.size w w'))
      case atStart => exact ⟨0, by rfl, ⟨by omega⟩, ⟨by simp⟩, ⟨by simpa using HC9.out⟩, HM9, HN9, HB9⟩
      case round =>
        clear HC9 HM9 HN9 HB9
        obtain ⟨i, rfl, H0, HI, HC, HM, HN, HB⟩ := hrel
        by_cases hlt : i < (l0.length : Int)
        · have c3 : decide (i < (l0.length : Int)) = true := decide_eq_true hlt
          have HLT := Aside0.mk hlt
          clear hlt
          obtain ⟨ad, As, cs, had, hx, hls, his⟩ := at_L1 HR0.out i H0.out (by have := HLT.out; omega)
          subst had
          have his' := Aside0.mk (Kd.C_below his HB.out)
          have hls' := Aside0.mk hls
          replace hx := (HB.out.cell (World.block_lt_of_cell? w _ hx)).trans hx
          have p0 : ((0 : Int) ≤ i) = True := eq_true H0.out
          have q0 : (i < (l0.length : Int)) = True := eq_true HLT.out
          clear his hls
          have HS := Aside0.mk (of_decide_eq_true (List.all_eq_true.1 HALL.out (rd_L1 l0 i) (dI_mem l0 i H0.out HLT.out)))
          have hcv := Kd.C_string (P := Tryz.prog) (dst := 9) Tryz.underlying24 Tryz.underlying5 Tryz.underlying9 (c := cs) his'.out
          have hlen := dI_mk_len l0 i H0.out HLT.out
          obtain ⟨gc, cc0, ec, gb, gl, _⟩ := Kd.R_form HC.out (by have := H0.out; have := HLT.out; omega)
          rw [hlen] at ec
          subst ec
          obtain ⟨hce, hfr⟩ := Kd.R_celln (d := (0 : Int)) HC.out i H0.out HLT.out
          have HGB := Aside0.mk gb
          have HLEN := Aside0.mk hlen
          have hgm := Aside0.mk (HMC9.out gc rfl)
          clear gb gl hlen
          go_wp2_with ((at_lookup; refine wpList_lookup_own_int _ rfl _ _ 182 rfl 9 3 .i64 (Go.Maps.string_keyed Tryz.underlying9) Tryz.underlying182 Tryz.underlying3 (Tryz.zeroValue3 _) w.heap.size _ (dI_D2 l0 (dI_kB l0).length) rfl HM.out _ (.string (dI_bs (rd_L1 l0 i))) rfl (dI_key _ HS.out) ?_; intro cv hat hwc; have HCV : Aside0 (dI_code l0 (rd_L1 l0 i) = cv) := ⟨dI_code_of hat⟩; clear hat hwc))
          go_roundg (gk - 1)
          case measure => have := HI.out; have := HLT.out; have := H0.out; omega
          case rel =>
            have hw1 : wrap64 (i + 1) = i + 1 := by have := HLT.out; have := HLE.out; have := H0.out; unfold wrap64; omega
            refine ⟨wrap64 (i + 1), rfl, ?_, ?_, ?_, ⟨dI_mapblk HM.out (Below.heap_setCell wr _ _ _ hgm.out.symm)⟩, ⟨Kd.N_step HN.out (fun k hk _ => Below.heap_setCell wr _ _ k (fun e => hk.2 (by rw [e]; rfl)))⟩, ⟨Below.setCell HB.out HGB.out _⟩⟩
            all_goals rw [hw1]
            · exact ⟨by have := H0.out; omega⟩
            · exact ⟨by have := HI.out; have := HLT.out; have := H0.out; omega⟩
            exact ⟨by have h := Kd.R_putn HC.out i cv; rw [← HCV.out, dI_mk_set l0 i H0.out HLT.out] at h; rw [← HCV.out]; exact h⟩
        have c3 : decide (i < (l0.length : Int)) = false := decide_eq_false hlt
        have hin : i.toNat = l0.length := by have := HI.out; have := H0.out; omega
        have HC1 := HC
        rw [hin, List.take_length, Nat.sub_self, List.replicate_zero, List.append_nil] at HC1
        have HE := Aside0.mk (dI_kB_ints l0)
        clear hin hlt HI HC H0
        go_wp2
        go_ret3
        exact ⟨_, _, rfl, by rw [← HE.out]; exact HN.out, HC1.out, HB.out⟩
set_option maxHeartbeats 8000000 in
set_option maxRecDepth 100000 in
theorem dict_Index.callsT (A0 : Option Addr) (c0 : Nat) (l0 : List (List Int)) (w : World) (hr0 : Kd.C (Kd.slice 5 (Kd.int .u8)) w A0 l0.length l0) (hc0 : l0.length ≤ c0) (hle : l0.length ≤ 4096) (hbad : ¬ l0.all (fun s => decide (s.length ≤ 200)) = true) :
    Calls Tryz.prog 137 #[.slice A0 l0.length c0] w fun e w' => ∃ v0_ v1_ : Value, e = .returned (.tuple #[v0_, v1_, .int .i64 4]) ∧ Kd.N (Kd.slice 5 (Kd.int .u8)) 24 w' w.heap.size (fun k_ => (w.heap.size ≤ k_) ∧ some k_ ≠ (v1_ : Value).ownBlock) v0_ [] ∧ Kd.R (Kd.int .i64) 3 w' w.heap.size (fun _ => True) v1_ [] ∧ Below w.heap.size w w' := by
  have HR0 := Aside0.mk hr0
  have HC0 := Aside0.mk hc0
  clear hr0 hc0
  have HB := Aside0.mk (Below.refl w.heap.size w)
  have HLE := Aside0.mk hle
  have HALL := Aside0.mk hbad
  clear hbad
  have c1 : decide (4096 < (l0.length : Int)) = false := decide_eq_false (by omega)
  have c1' : decide (4096 < l0.length) = false := decide_eq_false (by omega)
  clear hle
  have hmk : ∀ W, (Instr.makeMap 182 none).run Tryz.prog W = .ok (.map (some W.heap.size)) (W.alloc (.map #[] 0)) := run_makeMap 182
  go_enter Tryz.func137, Tryz.ntmps137
  go_wp2
  clear hmk
  try clear c1
  try clear c1'
  go_loopg [20] l0.length (fun kq v20 w' => ∃ (i : Int), v20 = .int .i64 i ∧ Aside0 (0 ≤ i) ∧ Aside0 (i.toNat + kq = l0.length) ∧ Aside0 ((l0.take i.toNat).all (fun s => decide (s.length ≤ 200)) = true) ∧ Aside0 (w'.ownsMap Tryz.prog 9 (plainElem Tryz.prog 3) w.heap.size i.toNat (dI_D1 (l0.take i.toNat))) ∧ Aside0 (Below w.heap.size w w'))
  case atStart => exact ⟨0, rfl, ⟨by omega⟩, ⟨by simp⟩, ⟨by simp⟩, ⟨World.ownsMap_made w Tryz.prog 9 _⟩, ⟨by repeat (first | exact HB.out | apply below_alloc)⟩⟩
  case round =>
    clear HB
    obtain ⟨i, rfl, H0, HI, HAL, HM, HB⟩ := hrel
    by_cases hlt : i < (l0.length : Int)
    · have c2 : decide (i < (l0.length : Int)) = true := decide_eq_true hlt
      have HLT := Aside0.mk hlt
      clear hlt
      obtain ⟨ad, As, cs, had, hx, hls, his⟩ := at_L1 HR0.out i H0.out (by have := HLT.out; omega)
      subst had
      have his' := Aside0.mk (Kd.C_below his HB.out)
      have hls' := Aside0.mk hls
      replace hx := (HB.out.cell (World.block_lt_of_cell? w _ hx)).trans hx
      have p0 : ((0 : Int) ≤ i) = True := eq_true H0.out
      have q0 : (i < (l0.length : Int)) = True := eq_true HLT.out
      clear his hls
      by_cases hs : (rd_L1 l0 i).length ≤ 200
      · have c3 : decide (200 < ((rd_L1 l0 i).length : Int)) = false := decide_eq_false (by omega)
        have c3' : decide (200 < (rd_L1 l0 i).length) = false := decide_eq_false (by omega)
        have HS := Aside0.mk hs
        clear hs
        have hcv := Kd.C_string (P := Tryz.prog) (dst := 9) Tryz.underlying24 Tryz.underlying5 Tryz.underlying9 (c := cs) his'.out
        go_wp2_with ((at_mapUpdate; refine wpList_mapUpdate_own _ rfl _ _ _ 182 rfl 9 3 (Go.Maps.string_keyed Tryz.underlying9) Tryz.underlying182 (plainElem Tryz.prog 3) w.heap.size i.toNat (dI_D1 (l0.take i.toNat)) rfl ?hm (by have := HLT.out; have := H0.out; have := HLE.out; unfold maxLen; omega) _ _ (.string (dI_bs (rd_L1 l0 i))) rfl rfl (dI_key _ HS.out) (dI_i 0) [] (dI_val 0 (by omega) (by omega)) ?_; (case hm => repeat (exact HM.out)); intro w9 hm9 hg9; have HM9 := Aside0.mk hm9; have HB9 := Aside0.mk (pw_below_grown (by repeat (exact HB.out)) (some w.heap.size) (by have := HM.out.lt; omega) hg9 (by intro k hk; injection hk with hk; omega)); clear hm9 hg9))
        go_roundg (gk - 1)
        case measure => have := HI.out; have := HLT.out; have := H0.out; omega
        case rel =>
          have hw1 : wrap64 (i + 1) = i + 1 := by have := HLT.out; have := HLE.out; have := H0.out; unfold wrap64; omega
          have htk : l0.take (i + 1).toNat = l0.take i.toNat ++ [rd_L1 l0 i] := dI_take l0 i H0.out HLT.out
          refine ⟨wrap64 (i + 1), rfl, ?_, ?_, ?_, ?_, HB9⟩
          all_goals rw [hw1]
          · exact ⟨by have := H0.out; omega⟩
          · exact ⟨by have := HI.out; have := HLT.out; have := H0.out; omega⟩
          · exact ⟨by rw [htk, List.all_append, HAL.out]; simp [HS.out]⟩
          exact ⟨by rw [htk, dI_D1_snoc]; exact (HM9.out.mono (by have := H0.out; omega))⟩
      have c3 : decide (200 < ((rd_L1 l0 i).length : Int)) = true := decide_eq_true (by omega)
      have c3' : decide (200 < (rd_L1 l0 i).length) = true := decide_eq_true (by omega)
      clear hs
      go_wp2
      go_ret3
      exact ⟨_, _, rfl, Kd.N_nil _ _ _ _ _, Kd.R_nil _ _ _ _ _, by repeat (exact HB.out)⟩
    exact absurd HAL.out (by have hin : i.toNat = l0.length := by have := HI.out; have := H0.out; omega
                             rw [hin, List.take_length]; exact HALL.out)
theorem dict_Index.calls (A0 : Option Addr) (c0 : Nat) (l0 : List (List Int)) (r1 : List (List Int)) (r2 : List Int) (r3 : Int) (w : World) (hr0 : Kd.C (Kd.slice 5 (Kd.int .u8)) w A0 l0.length l0) (hc0 : l0.length ≤ c0) (h : dict_Index.f l0 = some (r1, r2, r3)) :
    Calls Tryz.prog 137 #[.slice A0 l0.length c0] w fun e w' => ∃ v0_ v1_ : Value, e = .returned (.tuple #[v0_, v1_, .int .i64 r3]) ∧ Kd.N (Kd.slice 5 (Kd.int .u8)) 24 w' w.heap.size (fun k_ => (w.heap.size ≤ k_) ∧ some k_ ≠ (v1_ : Value).ownBlock) v0_ r1 ∧ Kd.R (Kd.int .i64) 3 w' w.heap.size (fun _ => True) v1_ r2 ∧ Below w.heap.size w w' := by
  unfold dict_Index.f at h
  split at h
  · rename_i h1
    simp only [Option.some.injEq, Prod.mk.injEq] at h
    obtain ⟨rfl, rfl, rfl⟩ := h
    exact dict_Index.callsL A0 c0 l0 w hr0 hc0 h1
  rename_i h1
  split at h
  · rename_i h2
    simp only [Option.some.injEq, Prod.mk.injEq] at h
    obtain ⟨rfl, rfl, rfl⟩ := h
    exact dict_Index.callsX A0 c0 l0 w hr0 hc0 (by omega) h2
  rename_i h2
  simp only [Option.some.injEq, Prod.mk.injEq] at h
  obtain ⟨rfl, rfl, rfl⟩ := h
  exact dict_Index.callsT A0 c0 l0 w hr0 hc0 (by omega) h2
end Go.Proofs.YtjbhaepkldgfnaaGreat.S
namespace Go.Proofs.YtjbhaepkldgfnaaGreat.S
open Go.RowKit Go.Proofs.YtjbhaepkldgfnaaGreatW.PrintWords Go.Proofs.YtjbhaepkldgfnaaGreatW.PrintLast Go.Proofs.YtjbhaepkldgfnaaGreatW.PrintMore
attribute [local go_sem] max2_int min2_int max_two min_two max_three min_three max_four min_four
set_option linter.unusedVariables false
set_option linter.unusedSimpArgs false
def block_readNulls.f (k : Nat) (l0 : List Int) (a1 : Int) : Option (List Int × List Int × Int) := if (l0.length : Int) = 0 then (some (([] : List Int), ([] : List Int), 2)) else (if 0 < (l0.length : Int) then (if (rd l0 0) > 1 then (some (([] : List Int), ([] : List Int), 5)) else (if (rd l0 0) = 0 then (if 0 ≤ a1 then (if (a1 : Int).toNat ≤ 35184372088832 then (if 1 ≤ (l0.length : Int) then (some ((List.replicate (a1 : Int).toNat 0), (l0.drop 1), 0)) else (none)) else (none)) else (none)) else (if (wrap64 ((l0.length : Int) - 1)) < (wrap64 (Int.tdiv (wrap64 (a1 + 7)) 8)) then (some (([] : List Int), ([] : List Int), 2)) else (if 1 ≤ (wrap64 (1 + (wrap64 (Int.tdiv (wrap64 (a1 + 7)) 8)))) then (if (wrap64 (1 + (wrap64 (Int.tdiv (wrap64 (a1 + 7)) 8)))) ≤ (l0.length : Int) then ((bits_Unpack.f k ((l0.take ((wrap64 (1 + (wrap64 (Int.tdiv (wrap64 (a1 + 7)) 8)))) : Int).toNat).drop 1) 1 a1).bind fun bt436 => (if bt436.2 = 0 then ((bits_Width.f k bt436.1).bind fun t440 => (if t440 = 0 then (if 0 ≤ (wrap64 (1 + (wrap64 (Int.tdiv (wrap64 (a1 + 7)) 8)))) then (some (bt436.1, (l0.drop ((wrap64 (1 + (wrap64 (Int.tdiv (wrap64 (a1 + 7)) 8)))) : Int).toNat), 5)) else (none)) else (if 0 ≤ (wrap64 (1 + (wrap64 (Int.tdiv (wrap64 (a1 + 7)) 8)))) then (some (bt436.1, (l0.drop ((wrap64 (1 + (wrap64 (Int.tdiv (wrap64 (a1 + 7)) 8)))) : Int).toNat), bt436.2)) else (none)))) else (if 0 ≤ (wrap64 (1 + (wrap64 (Int.tdiv (wrap64 (a1 + 7)) 8)))) then (some (bt436.1, (l0.drop ((wrap64 (1 + (wrap64 (Int.tdiv (wrap64 (a1 + 7)) 8)))) : Int).toNat), bt436.2)) else (none)))) else (none)) else (none))))) else (none))
def block_readNulls.T13 : Bool × List (List Nat × List Nat) := (true, [([], []), ([], []), ([], []), ([2], [2]), ([1, 3], [1, 3]), ([], []), ([0, 0], [0]), ([4, 6, 0, 1, 2, 3, 4, 6], [4]), ([5, 7, 0, 1, 2, 3, 4, 5, 6, 7], [5])])
def block_readNulls.B13 : List Nat := [0, 0, 0, 4, 14, 0, 1, 95, 255]
theorem block_readNulls.tab13 : rtab .any (opsOf Tryz.f46 13) = block_readNulls.T13 := by kernel_rfl
theorem block_readNulls.bits13 : waitsOk block_readNulls.T13.2 block_readNulls.B13 = true := by kernel_rfl
set_option maxHeartbeats 8000000 in
set_option maxRecDepth 100000 in
theorem block_readNulls.calls (k : Nat) (P0_ : Nat → Prop) (A0 : Option Addr) (c0 : Nat) (l0 : List Int) (a1 : Int) (r1 : List Int) (r2 : List Int) (r3 : Int) (w : World) (hs0 : Kd.V (Kd.int .u8) 5 w w.heap.size (fun k_ => P0_ k_) (.slice A0 l0.length c0) l0) (h : block_readNulls.f k l0 a1 = some (r1, r2, r3)) :
 Calls Tryz.prog 46 #[.slice A0 l0.length c0, .int .i64 a1] w fun e w' => ∃ v0_ v1_ : Value, e = .returned (.tuple #[v0_, v1_, .int .i64 r3]) ∧ Kd.R (Kd.int .u64) 69 w' w.heap.size (fun k_ => (w.heap.size ≤ k_)) v0_ r1 ∧ Kd.V (Kd.int .u8) 5 w' w.heap.size (fun k_ => (P0_ k_ ∨ w.heap.size ≤ k_) ∧ some k_ ≠ (v0_ : Value).ownBlock) v1_ r2 ∧ Below w.heap.size w w' := by
 have HO0 := Aside0.mk (show Kd.V (Kd.int .u8) 5 w w.heap.size (fun k_ => (P0_ k_ ∨ w.heap.size ≤ k_)) (.slice A0 l0.length c0) l0 from Kd.V_mono hs0 (fun k_ hk => .inl hk))
 have HB := Aside0.mk (Below.refl w.heap.size w)
 unfold block_readNulls.f at h
 have H := h
 clear h
 by_cases c3 : (l0.length : Int) = 0
 ·rw [if_pos c3] at H
  have c3b0 : ((l0.length : Int) == 0) = true := beq_iff_eq.mpr c3
  have c3b1 : ((l0.length : Int) != 0) = false := bne_eq_false_iff_eq.mpr c3
  clear c3
  simp only [Option.some.injEq, Prod.mk.injEq] at H
  obtain ⟨rfl, rfl, rfl⟩ := H
  go_enter Tryz.func46, Tryz.ntmps46
  go_wp2
  go_ret3
  exact ⟨_, _, by rfl, by exact Kd.R_nil _ _ _ _ _, (Kd.V_nil _ _ _ _ _), by exact HB.out⟩
 rw [if_neg c3] at H
 have c3b0 : ((l0.length : Int) == 0) = false := beq_eq_false_iff_ne.mpr c3
 have c3b1 : ((l0.length : Int) != 0) = true := bne_iff_ne.mpr c3
 have c3b2 : ¬ (l0 = []) := fun h_ => c3 (by rw [h_]; rfl)
 by_cases c4 : 0 < (l0.length : Int)
 ·rw [if_pos c4] at H
  have c4b0 : decide (0 < (l0.length : Int)) = true := decide_eq_true c4
  have c4b1 : decide (0 < l0.length) = true := decide_eq_true (by omega)
  clear c4
  by_cases c5 : (rd l0 0) > 1
  ·rw [if_pos c5] at H
   have c5b0 : decide (1 < (rd l0 0)) = true := decide_eq_true c5
   clear c5
   simp only [Option.some.injEq, Prod.mk.injEq] at H
   obtain ⟨rfl, rfl, rfl⟩ := H
   have p421 : 0 ≤ (0 : Int) := (by omega)
   have q421 : 0 < (l0.length : Int) := of_decide_eq_true ‹_›
   obtain ⟨ad421, e421, hx421_0⟩ := Kd.at_int (Kd.V_reads' HO0.out).2.2 0 p421 q421
   cases e421
   have qi421 : (0 < l0.length) = True := eq_true (by omega)
   (try rw [show ((0 : Int)).toNat = 0 from rfl] at hx421_0)
   (try rw [Addr.add_zero'] at hx421_0)
   replace p421 := eq_true p421
   replace q421 := eq_true q421
   go_enter Tryz.func46, Tryz.ntmps46
   go_wp2
   go_ret3
   exact ⟨_, _, by rfl, by exact Kd.R_nil _ _ _ _ _, (Kd.V_nil _ _ _ _ _), by exact HB.out⟩
  rw [if_neg c5] at H
  have c5b0 : decide (1 < (rd l0 0)) = false := decide_eq_false c5
  clear c5
  by_cases c6 : (rd l0 0) = 0
  ·rw [if_pos c6] at H
   have c6b0 : ((rd l0 0) == 0) = true := beq_iff_eq.mpr c6
   have c6b1 : ((rd l0 0) != 0) = false := bne_eq_false_iff_eq.mpr c6
   clear c6
   by_cases c7 : 0 ≤ a1
   ·rw [if_pos c7] at H
    have c7b0 := eq_true c7
    have c7b1 : decide (0 ≤ a1) = true := decide_eq_true c7
    clear c7
    by_cases c8 : (a1 : Int).toNat ≤ 35184372088832
    ·rw [if_pos c8] at H
     have c8b0 := eq_true c8
     have c8b1 : decide ((a1 : Int).toNat ≤ 35184372088832) = true := decide_eq_true c8
     clear c8
     obtain ⟨y423, hy423⟩ : ∃ y_ : List Int, y_ = (List.replicate (a1 : Int).toNat 0) := ⟨_, rfl⟩
     replace H : (if 1 ≤ (l0.length : Int) then (some (y423, (l0.drop 1), 0)) else (none)) = some (r1, r2, r3) := by (rw [hy423]; with_reducible exact H)
     have Ny423 := Aside0.mk hy423
     clear hy423
     by_cases c9 : 1 ≤ (l0.length : Int)
     ·rw [if_pos c9] at H
      have c9b0 := eq_true c9
      have c9b1 : decide (1 ≤ (l0.length : Int)) = true := decide_eq_true c9
      clear c9
      obtain ⟨y426, hy426⟩ : ∃ y_ : List Int, y_ = (l0.drop 1) := ⟨_, rfl⟩
      replace H : (some (y423, y426, 0)) = some (r1, r2, r3) := by (rw [hy426]; with_reducible exact H)
      have Ny426 := Aside0.mk hy426
      clear hy426
      simp only [Option.some.injEq, Prod.mk.injEq] at H
      obtain ⟨rfl, rfl, rfl⟩ := H
      have p421 : 0 ≤ (0 : Int) := (by omega)
      have q421 : 0 < (l0.length : Int) := of_decide_eq_true ‹_›
      obtain ⟨ad421, e421, hx421_0⟩ := Kd.at_int (Kd.V_reads' HO0.out).2.2 0 p421 q421
      cases e421
      have qi421 : (0 < l0.length) = True := eq_true (by omega)
      (try rw [show ((0 : Int)).toNat = 0 from rfl] at hx421_0)
      (try rw [Addr.add_zero'] at hx421_0)
      replace p421 := eq_true p421
      replace q421 := eq_true q421
      have p422 : 0 ≤ (0 : Int) := (by omega)
      have q422 : 0 < (l0.length : Int) := of_decide_eq_true ‹_›
      obtain ⟨ad422, e422, hx422_0⟩ := Kd.at_int (Kd.V_reads' HO0.out).2.2 0 p422 q422
      obtain rfl : ad421 = ad422 := (by injection e422)
      have qi422 : (0 < l0.length) = True := eq_true (by omega)
      (try rw [show ((0 : Int)).toNat = 0 from rfl] at hx422_0)
      (try rw [Addr.add_zero'] at hx422_0)
      replace p422 := eq_true p422
      replace q422 := eq_true q422
      go_enter Tryz.func46, Tryz.ntmps46
      try go_wp2
      have n0_ := Aside0.mk (Kd.V_drew HO0.out)
      have n1_ := Aside0.mk (below_drew1 HB.out)
      clear HO0
      clear HB
      have HO0 := n0_
      have HB := n1_
      clear n0_ n1_
      have q11 : (1 : Int) ≤ ((l0.length : Int) : Int) := of_decide_eq_true ‹_›
      obtain ⟨i011, hi011, _, hsz11, _⟩ := info_parts info5
      have hroom11 : l0.length ≤ c0 := (Kd.V_reads' HO0.out).2.1
      have hC11 : Kd.F (Kd.int .u8) _ _ (some ad421) l0.length l0 := (Kd.V_at (base := w.heap.size) HO0.out).2.2
      have hcut11 := cut_from (P := Tryz.prog) 24 5 .i64 Tryz.underlying24 hi011 1 hsz11 (some ad421) l0.length c0 1 (by omega) q11
      have hr11 := Kd.F_cut (m := (1 : Int).toNat) (c := c0) hC11 (by omega) hroom11
      obtain ⟨A11, hA11⟩ : ∃ Az_, Az_ = (if c0 = (1 : Int).toNat then (some ad421) else ((some ad421) : Option Addr).map (·.add ((1 : Int).toNat * 1))) := ⟨_, rfl⟩
      obtain ⟨c11, hc11⟩ : ∃ cz_, cz_ = c0 - (1 : Int).toNat := ⟨_, rfl⟩
      have hy11 : y426.length = l0.length - (1 : Int).toNat := (by rw [Ny426.out, List.length_drop] <;> omega)
      rw [show (l0).drop (1 : Int).toNat = y426 from Ny426.out.symm] at hr11
      replace hr11 : Kd.F (Kd.int .u8) _ _ A11 y426.length y426 := (by rw [hA11]; exact hr11)
      rw [← hy11, ← hA11, ← hc11] at hcut11
      have HO430 := Aside0.mk (show Kd.V (Kd.int .u8) 5 _ w.heap.size _ (.slice A11 y426.length c11) y426 from Kd.V_mk (by rw [hy11, hc11]; exact Nat.sub_le_sub_right hroom11 _) hr11)
      have HC430 := Aside0.mk (show y426.length ≤ c11 from by rw [hy11, hc11]; exact Nat.sub_le_sub_right hroom11 _)
      clear hr11 hC11 hroom11 hi011 hsz11 hc11
      have KY11 := Aside0.mk hy11
      have KA11 := Aside0.mk hA11
      clear hy11 hA11
      replace q11 := eq_true q11
      refine start_ (n := 7) (S := fun w' => True) (ds := []) #[false, false, false, false, false, false, false] (by kernel_rfl) rfl rfl trivial (fun hHeld => ?_)
      generalize w.drew = w10 at HO0 HB HO430 hHeld ⊢
      refine pure_ (i := 0) (N := some 22) (v := ?_) (a' := ?_) #[true, false, false, false, false, false, false] rfl rfl (by kernel_rfl) (fun _ _ _ h => h) (Or.inl ⟨by rfl, ?_⟩) ?_ ?_
      rotate_left
      ·intro w'
       go_simp
       with_reducible rfl
      rotate_left
      ·simp only [Act.put, List.setIfInBounds_toArray, List.set_cons_zero, List.set_cons_succ, i64_w, i32_w]
       rfl
      refine pure_ (i := 2) (N := some 24) (v := ?_) (a' := ?_) #[true, false, true, false, false, false, false] rfl rfl (by kernel_rfl) (fun _ _ _ h => h) (Or.inl ⟨by rfl, ?_⟩) ?_ ?_
      rotate_left
      ·intro w'
       go_simp
       with_reducible rfl
      rotate_left
      ·simp only [Act.put, List.setIfInBounds_toArray, List.set_cons_zero, List.set_cons_succ, i64_w, i32_w]
       rfl
      refine pure_ (i := 3) (N := some 25) (v := ?_) (a' := ?_) #[true, false, true, true, false, false, false] rfl rfl (by kernel_rfl) (fun _ _ _ h => h) (Or.inl ⟨by rfl, ?_⟩) ?_ ?_
      rotate_left
      ·intro w'
       go_simp
       with_reducible rfl
      rotate_left
      ·simp only [Act.put, List.setIfInBounds_toArray, List.set_cons_zero, List.set_cons_succ, i64_w, i32_w]
       rfl
      refine one_ (i := 1) (N := some 23) #[true, true, true, true, false, false, false] rfl rfl (by kernel_rfl) (by decide) (fun K hK => ?_)
      refine Kd.R_make_step (Kd.int .u64) _ 69 (by rfl) (N := 23) rfl 72 _ _ rfl a1 rfl rfl Tryz.underlying72 (.int .u64 0) 8 info69 rfl (by decide) (by omega) 0 (ok := fun _ => True) (okp := fun _ => True) rfl (fun _ hk => hk) trivial (of_decide_eq_true ‹_›) (Nat.le_trans (Nat.mul_le_mul_right _ (of_decide_eq_true ‹_› : a1.toNat ≤ 35184372088832)) (by omega)) (Below.refl _ _) (Nat.le_refl _) ?_
      intro v424 w12 ho13 hb hg_ hnew_
      clear hg_ hnew_
      (rw [← Ny423.out] at ho13)
      have n0_ := Aside0.mk (Kd.V_elder' HO0.out (Kd.R_base ho13) hb)
      have n1_ := Aside0.mk (Kd.V_elder' HO430.out (Kd.R_base ho13) hb)
      have n2_ := Aside0.mk (Kd.R_lower (Kd.R_newM (M := fun k_ => (w.heap.size ≤ k_)) ho13 (below_size HB.out) (fun k_ h_ => h_)) (below_size HB.out))
      have n3_ := Aside0.mk (below_step HB.out hb)
      clear HO0
      clear HO430
      clear HB
      have HO0 := n0_
      have HO430 := n1_
      have HO425 := n2_
      have HB := n3_
      clear n0_ n1_ n2_ n3_
      clear hb ho13
      refine hK.out _ _ trivial (fun hHeld => ?_)
      clear hK K
      refine norm_ (a' := ?_) ?_ ?_
      rotate_left
      ·show Act.put _ (some 23) _ = _
       simp only [Act.put, List.setIfInBounds_toArray, List.set_cons_zero, List.set_cons_succ, i64_w, i32_w]
       rfl
      refine pure_ (i := 4) (N := some 4) (v := ?_) (a' := ?_) #[true, true, true, true, true, false, false] rfl rfl (by kernel_rfl) (fun _ _ _ h => h) (Or.inl ⟨by rfl, ?_⟩) ?_ ?_
      rotate_left
      ·intro w'
       go_simp
       with_reducible rfl
      rotate_left
      ·simp only [Act.put, List.setIfInBounds_toArray, List.set_cons_zero, List.set_cons_succ, i64_w, i32_w]
       rfl
      refine pure_ (i := 5) (N := some 5) (v := ?_) (a' := ?_) #[true, true, true, true, true, true, false] rfl rfl (by kernel_rfl) (fun _ _ _ h => h) (Or.inl ⟨by rfl, ?_⟩) ?_ ?_
      rotate_left
      ·intro w'
       go_simp
       with_reducible rfl
      rotate_left
      ·simp only [Act.put, List.setIfInBounds_toArray, List.set_cons_zero, List.set_cons_succ, i64_w, i32_w]
       rfl
      refine pure_ (i := 6) (N := some 6) (v := ?_) (a' := ?_) #[true, true, true, true, true, true, true] rfl rfl (by kernel_rfl) (fun _ _ _ h => h) (Or.inl ⟨by rfl, ?_⟩) ?_ ?_
      rotate_left
      ·intro w'
       go_simp
       with_reducible rfl
      rotate_left
      ·simp only [Act.put, List.setIfInBounds_toArray, List.set_cons_zero, List.set_cons_succ, i64_w, i32_w]
       rfl
      refine done_ (by kernel_rfl) ?_
      try go_wp2
      go_ret3
      exact ⟨_, _, by rfl, by (with_reducible repeat (apply Kd.R_alloc)); exact Kd.R_mono HO425.out (fun _ hk => by exact hk.1), by (with_reducible repeat (apply Kd.V_alloc)); exact HO430.out, by exact HB.out⟩
     rw [if_neg c9] at H
     exact absurd H (by simp)
    rw [if_neg c8] at H
    exact absurd H (by simp)
   rw [if_neg c7] at H
   exact absurd H (by simp)
  rw [if_neg c6] at H
  have c6b0 : ((rd l0 0) == 0) = false := beq_eq_false_iff_ne.mpr c6
  have c6b1 : ((rd l0 0) != 0) = true := bne_iff_ne.mpr c6
  by_cases c14 : (wrap64 ((l0.length : Int) - 1)) < (wrap64 (Int.tdiv (wrap64 (a1 + 7)) 8))
  ·rw [if_pos c14] at H
   have c14b0 : decide ((wrap64 ((l0.length : Int) - 1)) < (wrap64 (Int.tdiv (wrap64 (a1 + 7)) 8))) = true := decide_eq_true c14
   clear c14
   simp only [Option.some.injEq, Prod.mk.injEq] at H
   obtain ⟨rfl, rfl, rfl⟩ := H
   have p421 : 0 ≤ (0 : Int) := (by omega)
   have q421 : 0 < (l0.length : Int) := of_decide_eq_true ‹_›
   obtain ⟨ad421, e421, hx421_0⟩ := Kd.at_int (Kd.V_reads' HO0.out).2.2 0 p421 q421
   cases e421
   have qi421 : (0 < l0.length) = True := eq_true (by omega)
   (try rw [show ((0 : Int)).toNat = 0 from rfl] at hx421_0)
   (try rw [Addr.add_zero'] at hx421_0)
   replace p421 := eq_true p421
   replace q421 := eq_true q421
   have p422 : 0 ≤ (0 : Int) := (by omega)
   have q422 : 0 < (l0.length : Int) := of_decide_eq_true ‹_›
   obtain ⟨ad422, e422, hx422_0⟩ := Kd.at_int (Kd.V_reads' HO0.out).2.2 0 p422 q422
   obtain rfl : ad421 = ad422 := (by injection e422)
   have qi422 : (0 < l0.length) = True := eq_true (by omega)
   (try rw [show ((0 : Int)).toNat = 0 from rfl] at hx422_0)
   (try rw [Addr.add_zero'] at hx422_0)
   replace p422 := eq_true p422
   replace q422 := eq_true q422
   go_enter Tryz.func46, Tryz.ntmps46
   go_wp2
   go_ret3
   exact ⟨_, _, by rfl, by exact Kd.R_nil _ _ _ _ _, (Kd.V_nil _ _ _ _ _), by exact HB.out⟩
  rw [if_neg c14] at H
  have c14b0 : decide ((wrap64 ((l0.length : Int) - 1)) < (wrap64 (Int.tdiv (wrap64 (a1 + 7)) 8))) = false := decide_eq_false c14
  clear c14
  by_cases c15 : 1 ≤ (wrap64 (1 + (wrap64 (Int.tdiv (wrap64 (a1 + 7)) 8))))
  ·rw [if_pos c15] at H
   have c15b0 := eq_true c15
   have c15b1 : decide (1 ≤ (wrap64 (1 + (wrap64 (Int.tdiv (wrap64 (a1 + 7)) 8))))) = true := decide_eq_true c15
   by_cases c16 : (wrap64 (1 + (wrap64 (Int.tdiv (wrap64 (a1 + 7)) 8)))) ≤ (l0.length : Int)
   ·rw [if_pos c16] at H
    have c16b0 := eq_true c16
    have c16b1 : decide ((wrap64 (1 + (wrap64 (Int.tdiv (wrap64 (a1 + 7)) 8)))) ≤ (l0.length : Int)) = true := decide_eq_true c16
    obtain ⟨y431, hy431⟩ : ∃ y_ : List Int, y_ = ((l0.take ((wrap64 (1 + (wrap64 (Int.tdiv (wrap64 (a1 + 7)) 8)))) : Int).toNat).drop 1) := ⟨_, rfl⟩
    replace H : ((bits_Unpack.f k y431 1 a1).bind fun bt436 => (if bt436.2 = 0 then ((bits_Width.f k bt436.1).bind fun t440 => (if t440 = 0 then (if 0 ≤ (wrap64 (1 + (wrap64 (Int.tdiv (wrap64 (a1 + 7)) 8)))) then (some (bt436.1, (l0.drop ((wrap64 (1 + (wrap64 (Int.tdiv (wrap64 (a1 + 7)) 8)))) : Int).toNat), 5)) else (none)) else (if 0 ≤ (wrap64 (1 + (wrap64 (Int.tdiv (wrap64 (a1 + 7)) 8)))) then (some (bt436.1, (l0.drop ((wrap64 (1 + (wrap64 (Int.tdiv (wrap64 (a1 + 7)) 8)))) : Int).toNat), bt436.2)) else (none)))) else (if 0 ≤ (wrap64 (1 + (wrap64 (Int.tdiv (wrap64 (a1 + 7)) 8)))) then (some (bt436.1, (l0.drop ((wrap64 (1 + (wrap64 (Int.tdiv (wrap64 (a1 + 7)) 8)))) : Int).toNat), bt436.2)) else (none)))) = some (r1, r2, r3) := by (rw [hy431]; with_reducible exact H)
    have Ny431 := Aside0.mk hy431
    clear hy431
    replace H := Option.bind_eq_some_iff.mp H
    obtain ⟨⟨t436, t437⟩, A170, H⟩ := H
    (try dsimp only at H)
    have A17 := Aside0.mk A170
    clear A170
    by_cases c18 : t437 = 0
    ·rw [if_pos c18] at H
     have c18b0 : (t437 == 0) = true := beq_iff_eq.mpr c18
     have c18b1 : (t437 != 0) = false := bne_eq_false_iff_eq.mpr c18
     clear c18
     replace H := Option.bind_eq_some_iff.mp H
     obtain ⟨t440, A190, H⟩ := H
     (try dsimp only at H)
     have A19 := Aside0.mk A190
     clear A190
     by_cases c20 : t440 = 0
     ·rw [if_pos c20] at H
      have c20b0 : (t440 == 0) = true := beq_iff_eq.mpr c20
      have c20b1 : (t440 != 0) = false := bne_eq_false_iff_eq.mpr c20
      clear c20
      obtain ⟨ji21, hji21⟩ : ∃ j_ : Int, (wrap64 (1 + (wrap64 (Int.tdiv (wrap64 (a1 + 7)) 8)))) = j_ := ⟨_, rfl⟩
      replace H : (if 0 ≤ (ji21) then (some (t436, (l0.drop ((ji21) : Int).toNat), 5)) else (none)) = some (r1, r2, r3) := by (rw [hji21] at H; exact H)
      (try rw [hji21] at c15b0)
      (try rw [hji21] at c15b1)
      (try rw [hji21] at c15)
      (try rw [hji21] at c16b0)
      (try rw [hji21] at c16b1)
      (try rw [hji21] at c16)
      (try rw [hji21] at Ny431)
      have hji21w : (IntKind.i64.wrap (1 + (wrap64 (Int.tdiv (wrap64 (a1 + 7)) 8)))) = ji21 := (i64_w _).trans hji21
      by_cases c22 : 0 ≤ (ji21)
      ·rw [if_pos c22] at H
       have c22b0 := eq_true c22
       have c22b1 : decide (0 ≤ (ji21)) = true := decide_eq_true c22
       clear c22
       have c23b0 := eq_true (of_decide_eq_true ‹_› : (ji21) ≤ (l0.length : Int))
       obtain ⟨y441, hy441⟩ : ∃ y_ : List Int, y_ = (l0.drop ((ji21) : Int).toNat) := ⟨_, rfl⟩
       replace H : (some (t436, y441, 5)) = some (r1, r2, r3) := by (rw [hy441]; with_reducible exact H)
       have Ny441 := Aside0.mk hy441
       clear hy441
       simp only [Option.some.injEq, Prod.mk.injEq] at H
       obtain ⟨rfl, rfl, rfl⟩ := H
       have p421 : 0 ≤ (0 : Int) := (by omega)
       have q421 : 0 < (l0.length : Int) := of_decide_eq_true ‹_›
       obtain ⟨ad421, e421, hx421_0⟩ := Kd.at_int (Kd.V_reads' HO0.out).2.2 0 p421 q421
       cases e421
       have qi421 : (0 < l0.length) = True := eq_true (by omega)
       (try rw [show ((0 : Int)).toNat = 0 from rfl] at hx421_0)
       (try rw [Addr.add_zero'] at hx421_0)
       replace p421 := eq_true p421
       replace q421 := eq_true q421
       have p422 : 0 ≤ (0 : Int) := (by omega)
       have q422 : 0 < (l0.length : Int) := of_decide_eq_true ‹_›
       obtain ⟨ad422, e422, hx422_0⟩ := Kd.at_int (Kd.V_reads' HO0.out).2.2 0 p422 q422
       obtain rfl : ad421 = ad422 := (by injection e422)
       have qi422 : (0 < l0.length) = True := eq_true (by omega)
       (try rw [show ((0 : Int)).toNat = 0 from rfl] at hx422_0)
       (try rw [Addr.add_zero'] at hx422_0)
       replace p422 := eq_true p422
       replace q422 := eq_true q422
       have q24 : ((ji21) : Int) ≤ ((l0.length : Int) : Int) := of_decide_eq_true ‹_›
       obtain ⟨i024, hi024, _, hsz24, _⟩ := info_parts info5
       have hroom24 : l0.length ≤ c0 := (Kd.V_reads' HO0.out).2.1
       have hC24 : Kd.F (Kd.int .u8) _ _ (some ad421) l0.length l0 := (Kd.V_at (base := w.heap.size) HO0.out).2.2
       have ql24 : (1 : Int) ≤ ((ji21) : Int) := of_decide_eq_true ‹_›
       have hcut24 := cut_mid (P := Tryz.prog) 24 5 .i64 .i64 Tryz.underlying24 hi024 1 hsz24 (some ad421) l0.length c0 1 (ji21) (by omega) ql24 q24 hroom24
       have hr24 := Kd.F_mid (lo := (1 : Int).toNat) (hi := ((ji21) : Int).toNat) (c := c0) hC24 (by omega) (by omega) hroom24
       obtain ⟨A24, hA24⟩ : ∃ Az_, Az_ = (if c0 = (1 : Int).toNat then (some ad421) else ((some ad421) : Option Addr).map (·.add ((1 : Int).toNat * 1))) := ⟨_, rfl⟩
       obtain ⟨c24, hc24⟩ : ∃ cz_, cz_ = c0 - (1 : Int).toNat := ⟨_, rfl⟩
       have hy24 : y431.length = ((ji21) : Int).toNat - (1 : Int).toNat := (by rw [Ny431.out, List.length_drop, List.length_take] <;> omega)
       rw [show ((l0).take ((ji21) : Int).toNat).drop (1 : Int).toNat = y431 from Ny431.out.symm] at hr24
       replace hr24 : Kd.F (Kd.int .u8) _ _ A24 y431.length y431 := (by rw [hA24]; exact hr24)
       rw [← hy24, ← hA24, ← hc24] at hcut24
       have HO435 := Aside0.mk (show Kd.V (Kd.int .u8) 5 _ w.heap.size _ (.slice A24 y431.length c24) y431 from Kd.V_mk (by rw [hy24, hc24]; exact Nat.sub_le_sub_right (Nat.le_trans (by omega) hroom24) _) hr24)
       have HC435 := Aside0.mk (show y431.length ≤ c24 from by rw [hy24, hc24]; exact Nat.sub_le_sub_right (Nat.le_trans (by omega) hroom24) _)
       clear hr24 hC24 hroom24 hi024 hsz24 hc24
       have KY24 := Aside0.mk hy24
       have KA24 := Aside0.mk hA24
       clear hy24 hA24
       replace q24 := eq_true q24
       go_enter Tryz.func46, Tryz.ntmps46
       try go_wp2_with (first | ((with_reducible refine gate_callee (f := 82) rfl ?_); refine goL_ Tryz.func82 #[.slice A24 y431.length c24, .int .i64 1, .int .i64 a1] ?_; (with_reducible refine (bits_Unpack.calls k _ _ y431 1 a1 t436 t437 _ ((Kd.V_reads' HO435.out).2.2) ((Kd.V_reads' HO435.out).2.1) A17.out).mono ?_); rintro e w25 ⟨v438, rfl, ho0, hb⟩; refine ⟨_, rfl, ?_⟩; have n0_ := Aside0.mk (Kd.V_elder' HO0.out (Kd.R_base ho0) hb); have n1_ := Aside0.mk (Kd.V_elder' HO435.out (Kd.R_base ho0) hb); have n2_ := Aside0.mk (Kd.R_lower (Kd.R_newM (M := fun k_ => (w.heap.size ≤ k_)) ho0 (below_size HB.out) (fun k_ h_ => h_)) (below_size HB.out)); have n3_ := Aside0.mk (below_step HB.out hb); revert n0_ n1_ n2_ n3_; clear HO0 HO435 HB; intro HO0 HO435 HO439 HB; (try clear hb); (try clear ho0); obtain ⟨Ao26, co26, eo26⟩ := Kd.R_slice HO439.out; subst eo26) | (go_at_call 83; (with_reducible refine (bits_Width.calls k _ _ t436 t440 _ ?side1 ?side2 A19.out).mono ?_); (case side1 => repeat (exact (Kd.R_reads' HO439.out).2.2)); (case side2 => exact (Kd.R_reads' HO439.out).2.1); rintro e w' ⟨rfl, ⟨nd, rfl⟩⟩))
       (try (rw [drewN_self w25]; generalize hq_ : World.drewN w25 _ = w25; have n0_ : Aside0 (Kd.V (Kd.int .u8) 5 w25 w.heap.size (fun k_ => (P0_ k_ ∨ w.heap.size ≤ k_) ∧ some k_ ≠ (.slice Ao26 t436.length co26 : Value).ownBlock) (.slice (some ad421) l0.length c0) l0) := ⟨by rw [← hq_]; exact (by (with_reducible repeat (apply Kd.V_drewN)); exact HO0.out)⟩; have n1_ : Aside0 (Kd.V (Kd.int .u8) 5 w25 w.heap.size (fun k_ => (P0_ k_ ∨ w.heap.size ≤ k_) ∧ some k_ ≠ (.slice Ao26 t436.length co26 : Value).ownBlock) (.slice A24 y431.length c24) y431) := ⟨by rw [← hq_]; exact (by (with_reducible repeat (apply Kd.V_drewN)); exact HO435.out)⟩; have n2_ : Aside0 (Kd.R (Kd.int .u64) 69 w25 w.heap.size (fun k_ => (w.heap.size ≤ k_)) (.slice Ao26 t436.length co26) t436) := ⟨by rw [← hq_]; exact (by (with_reducible repeat (apply Kd.R_drewN)); exact Kd.R_mono HO439.out (fun _ hk => by exact hk.1))⟩; have n3_ : Aside0 (Below w.heap.size w w25) := ⟨by rw [← hq_]; exact (by repeat ((with_reducible first | exact HB.out | apply pw_below_drewN)))⟩; clear HO0 HO435 HO439 HB hq_; have HO0 := n0_; have HO435 := n1_; have HO439 := n2_; have HB := n3_; clear n0_ n1_ n2_ n3_))
       have n0_ := Aside0.mk (Kd.V_drew HO0.out)
       have n1_ := Aside0.mk (Kd.V_drew HO435.out)
       have n2_ := Aside0.mk (Kd.R_drew HO439.out)
       have n3_ := Aside0.mk (below_drew1 HB.out)
       clear HO0
       clear HO435
       clear HO439
       clear HB
       have HO0 := n0_
       have HO435 := n1_
       have HO439 := n2_
       have HB := n3_
       clear n0_ n1_ n2_ n3_
       have q28 : ((ji21) : Int) ≤ ((l0.length : Int) : Int) := of_decide_eq_true ‹_›
       obtain ⟨i028, hi028, _, hsz28, _⟩ := info_parts info5
       have hroom28 : l0.length ≤ c0 := (Kd.V_reads' HO0.out).2.1
       have hC28 : Kd.F (Kd.int .u8) _ _ (some ad421) l0.length l0 := (Kd.V_at (base := w.heap.size) HO0.out).2.2
       have q028 : (0 : Int) ≤ ((ji21) : Int) := of_decide_eq_true ‹_›
       have hcut28 := cut_from (P := Tryz.prog) 24 5 .i64 Tryz.underlying24 hi028 1 hsz28 (some ad421) l0.length c0 (ji21) q028 q28
       have hr28 := Kd.F_cut (m := ((ji21) : Int).toNat) (c := c0) hC28 (by omega) hroom28
       obtain ⟨A28, hA28⟩ : ∃ Az_, Az_ = (if c0 = ((ji21) : Int).toNat then (some ad421) else ((some ad421) : Option Addr).map (·.add (((ji21) : Int).toNat * 1))) := ⟨_, rfl⟩
       obtain ⟨c28, hc28⟩ : ∃ cz_, cz_ = c0 - ((ji21) : Int).toNat := ⟨_, rfl⟩
       have hy28 : y441.length = l0.length - ((ji21) : Int).toNat := (by rw [Ny441.out, List.length_drop] <;> omega)
       rw [show (l0).drop ((ji21) : Int).toNat = y441 from Ny441.out.symm] at hr28
       replace hr28 : Kd.F (Kd.int .u8) _ _ A28 y441.length y441 := (by rw [hA28]; exact hr28)
       rw [← hy28, ← hA28, ← hc28] at hcut28
       have HO445 := Aside0.mk (show Kd.V (Kd.int .u8) 5 _ w.heap.size _ (.slice A28 y441.length c28) y441 from Kd.V_mk (by rw [hy28, hc28]; exact Nat.sub_le_sub_right hroom28 _) hr28)
       have HC445 := Aside0.mk (show y441.length ≤ c28 from by rw [hy28, hc28]; exact Nat.sub_le_sub_right hroom28 _)
       clear hr28 hC28 hroom28 hi028 hsz28 hc28
       have KY28 := Aside0.mk hy28
       have KA28 := Aside0.mk hA28
       clear hy28 hA28
       replace q28 := eq_true q28
       refine start_ (n := 9) (S := fun w' => True) (ds := []) #[false, false, false, false, false, false, false, false, false] (by kernel_rfl) rfl rfl trivial (fun hHeld => ?_); refine with_tabW block_readNulls.tab13 block_readNulls.bits13 (fun HT_ HW_ => ?_)
       generalize w25.drew = w27 at HO0 HO435 HO439 HB HO445 hHeld ⊢
       refine pure_ (i := 0) (N := some 50) (v := ?_) (a' := ?_) #[true, false, false, false, false, false, false, false, false] rfl rfl (any_of HT_.out (by kernel_rfl)) (fun _ _ _ h => h) (Or.inl ⟨by rfl, ?_⟩) ?_ ?_
       rotate_left
       ·intro w'
        go_simp
        with_reducible rfl
       rotate_left
       ·simp only [Act.put, List.setIfInBounds_toArray, List.set_cons_zero, List.set_cons_succ, i64_w, i32_w]
        rfl
       refine pure_ (i := 1) (N := some 51) (v := ?_) (a' := ?_) #[true, true, false, false, false, false, false, false, false] rfl rfl (any_of HT_.out (by kernel_rfl)) (fun _ _ _ h => h) (Or.inl ⟨by rfl, ?_⟩) ?_ ?_
       rotate_left
       ·intro w'
        go_simp
        with_reducible rfl
       rotate_left
       ·simp only [Act.put, List.setIfInBounds_toArray, List.set_cons_zero, List.set_cons_succ, i64_w, i32_w]
        rfl
       refine pure_ (i := 2) (N := some 52) (v := ?_) (a' := ?_) #[true, true, true, false, false, false, false, false, false] rfl rfl (any_of HT_.out (by kernel_rfl)) (fun _ _ _ h => h) (Or.inl ⟨by rfl, ?_⟩) ?_ ?_
       rotate_left
       ·intro w'
        go_simp
        with_reducible rfl
       rotate_left
       ·simp only [Act.put, List.setIfInBounds_toArray, List.set_cons_zero, List.set_cons_succ, i64_w, i32_w]
        rfl
       refine pure_ (i := 3) (N := some 53) (v := ?_) (a' := ?_) #[true, true, true, true, false, false, false, false, false] rfl rfl (any_of HT_.out (by kernel_rfl)) (fun _ _ _ h => h) (Or.inl ⟨by rfl, ?_⟩) ?_ ?_
       rotate_left
       ·intro w'
        go_simp
        with_reducible rfl
       rotate_left
       ·simp only [Act.put, List.setIfInBounds_toArray, List.set_cons_zero, List.set_cons_succ, i64_w, i32_w]
        rfl
       refine pure_ (i := 4) (N := some 54) (v := ?_) (a' := ?_) #[true, true, true, true, true, false, false, false, false] rfl rfl (any_of HT_.out (by kernel_rfl)) (fun _ _ _ h => h) (Or.inl ⟨by rfl, ?_⟩) ?_ ?_
       rotate_left
       ·intro w'
        go_simp
        with_reducible rfl
       rotate_left
       ·simp only [Act.put, List.setIfInBounds_toArray, List.set_cons_zero, List.set_cons_succ, i64_w, i32_w]
        rfl
       refine pure_ (i := 5) (N := some 55) (v := ?_) (a' := ?_) #[true, true, true, true, true, true, false, false, false] rfl rfl (any_of HT_.out (by kernel_rfl)) (fun _ _ _ h => h) (Or.inl ⟨by rfl, ?_⟩) ?_ ?_
       rotate_left
       ·intro w'
        go_simp
        with_reducible rfl
       rotate_left
       ·simp only [Act.put, List.setIfInBounds_toArray, List.set_cons_zero, List.set_cons_succ, i64_w, i32_w]
        rfl
       refine pure_ (i := 6) (N := some 4) (v := ?_) (a' := ?_) #[true, true, true, true, true, true, true, false, false] rfl rfl (any_of HT_.out (by kernel_rfl)) (fun _ _ _ h => h) (Or.inl ⟨by rfl, ?_⟩) ?_ ?_
       rotate_left
       ·intro w'
        go_simp
        with_reducible rfl
       rotate_left
       ·simp only [Act.put, List.setIfInBounds_toArray, List.set_cons_zero, List.set_cons_succ, i64_w, i32_w]
        rfl
       refine pure_ (i := 7) (N := some 5) (v := ?_) (a' := ?_) #[true, true, true, true, true, true, true, true, false] rfl rfl (any_of HT_.out (by kernel_rfl)) (fun _ _ _ h => h) (Or.inl ⟨by rfl, ?_⟩) ?_ ?_
       rotate_left
       ·intro w'
        go_simp
        with_reducible rfl
       rotate_left
       ·simp only [Act.put, List.setIfInBounds_toArray, List.set_cons_zero, List.set_cons_succ, i64_w, i32_w]
        rfl
       refine pure_ (i := 8) (N := some 6) (v := ?_) (a' := ?_) #[true, true, true, true, true, true, true, true, true] rfl rfl (any_of HT_.out (by kernel_rfl)) (fun _ _ _ h => h) (Or.inl ⟨by rfl, ?_⟩) ?_ ?_
       rotate_left
       ·intro w'
        go_simp
        with_reducible rfl
       rotate_left
       ·simp only [Act.put, List.setIfInBounds_toArray, List.set_cons_zero, List.set_cons_succ, i64_w, i32_w]
        rfl
       refine done_ (done_of HT_.out (by kernel_rfl)) ?_
       try go_wp2
       go_ret3
       exact ⟨_, _, by rfl, by (with_reducible repeat (apply Kd.R_alloc)); exact Kd.R_mono HO439.out (fun _ hk => by exact hk), by (with_reducible repeat (apply Kd.V_alloc)); exact HO445.out, by exact HB.out⟩
      rw [if_neg c22] at H
      exact absurd H (by simp)
     rw [if_neg c20] at H
     have c20b0 : (t440 == 0) = false := beq_eq_false_iff_ne.mpr c20
     have c20b1 : (t440 != 0) = true := bne_iff_ne.mpr c20
     obtain ⟨ji29, hji29⟩ : ∃ j_ : Int, (wrap64 (1 + (wrap64 (Int.tdiv (wrap64 (a1 + 7)) 8)))) = j_ := ⟨_, rfl⟩
     replace H : (if 0 ≤ (ji29) then (some (t436, (l0.drop ((ji29) : Int).toNat), t437)) else (none)) = some (r1, r2, r3) := by (rw [hji29] at H; exact H)
     (try rw [hji29] at c15b0)
     (try rw [hji29] at c15b1)
     (try rw [hji29] at c15)
     (try rw [hji29] at c16b0)
     (try rw [hji29] at c16b1)
     (try rw [hji29] at c16)
     (try rw [hji29] at Ny431)
     have hji29w : (IntKind.i64.wrap (1 + (wrap64 (Int.tdiv (wrap64 (a1 + 7)) 8)))) = ji29 := (i64_w _).trans hji29
     by_cases c30 : 0 ≤ (ji29)
     ·rw [if_pos c30] at H
      have c30b0 := eq_true c30
      have c30b1 : decide (0 ≤ (ji29)) = true := decide_eq_true c30
      clear c30
      have c31b0 := eq_true (of_decide_eq_true ‹_› : (ji29) ≤ (l0.length : Int))
      obtain ⟨y446, hy446⟩ : ∃ y_ : List Int, y_ = (l0.drop ((ji29) : Int).toNat) := ⟨_, rfl⟩
      replace H : (some (t436, y446, t437)) = some (r1, r2, r3) := by (rw [hy446]; with_reducible exact H)
      have Ny446 := Aside0.mk hy446
      clear hy446
      simp only [Option.some.injEq, Prod.mk.injEq] at H
      obtain ⟨rfl, rfl, rfl⟩ := H
      have p421 : 0 ≤ (0 : Int) := (by omega)
      have q421 : 0 < (l0.length : Int) := of_decide_eq_true ‹_›
      obtain ⟨ad421, e421, hx421_0⟩ := Kd.at_int (Kd.V_reads' HO0.out).2.2 0 p421 q421
      cases e421
      have qi421 : (0 < l0.length) = True := eq_true (by omega)
      (try rw [show ((0 : Int)).toNat = 0 from rfl] at hx421_0)
      (try rw [Addr.add_zero'] at hx421_0)
      replace p421 := eq_true p421
      replace q421 := eq_true q421
      have p422 : 0 ≤ (0 : Int) := (by omega)
      have q422 : 0 < (l0.length : Int) := of_decide_eq_true ‹_›
      obtain ⟨ad422, e422, hx422_0⟩ := Kd.at_int (Kd.V_reads' HO0.out).2.2 0 p422 q422
      obtain rfl : ad421 = ad422 := (by injection e422)
      have qi422 : (0 < l0.length) = True := eq_true (by omega)
      (try rw [show ((0 : Int)).toNat = 0 from rfl] at hx422_0)
      (try rw [Addr.add_zero'] at hx422_0)
      replace p422 := eq_true p422
      replace q422 := eq_true q422
      have q32 : ((ji29) : Int) ≤ ((l0.length : Int) : Int) := of_decide_eq_true ‹_›
      obtain ⟨i032, hi032, _, hsz32, _⟩ := info_parts info5
      have hroom32 : l0.length ≤ c0 := (Kd.V_reads' HO0.out).2.1
      have hC32 : Kd.F (Kd.int .u8) _ _ (some ad421) l0.length l0 := (Kd.V_at (base := w.heap.size) HO0.out).2.2
      have ql32 : (1 : Int) ≤ ((ji29) : Int) := of_decide_eq_true ‹_›
      have hcut32 := cut_mid (P := Tryz.prog) 24 5 .i64 .i64 Tryz.underlying24 hi032 1 hsz32 (some ad421) l0.length c0 1 (ji29) (by omega) ql32 q32 hroom32
      have hr32 := Kd.F_mid (lo := (1 : Int).toNat) (hi := ((ji29) : Int).toNat) (c := c0) hC32 (by omega) (by omega) hroom32
      obtain ⟨A32, hA32⟩ : ∃ Az_, Az_ = (if c0 = (1 : Int).toNat then (some ad421) else ((some ad421) : Option Addr).map (·.add ((1 : Int).toNat * 1))) := ⟨_, rfl⟩
      obtain ⟨c32, hc32⟩ : ∃ cz_, cz_ = c0 - (1 : Int).toNat := ⟨_, rfl⟩
      have hy32 : y431.length = ((ji29) : Int).toNat - (1 : Int).toNat := (by rw [Ny431.out, List.length_drop, List.length_take] <;> omega)
      rw [show ((l0).take ((ji29) : Int).toNat).drop (1 : Int).toNat = y431 from Ny431.out.symm] at hr32
      replace hr32 : Kd.F (Kd.int .u8) _ _ A32 y431.length y431 := (by rw [hA32]; exact hr32)
      rw [← hy32, ← hA32, ← hc32] at hcut32
      have HO435 := Aside0.mk (show Kd.V (Kd.int .u8) 5 _ w.heap.size _ (.slice A32 y431.length c32) y431 from Kd.V_mk (by rw [hy32, hc32]; exact Nat.sub_le_sub_right (Nat.le_trans (by omega) hroom32) _) hr32)
      have HC435 := Aside0.mk (show y431.length ≤ c32 from by rw [hy32, hc32]; exact Nat.sub_le_sub_right (Nat.le_trans (by omega) hroom32) _)
      clear hr32 hC32 hroom32 hi032 hsz32 hc32
      have KY32 := Aside0.mk hy32
      have KA32 := Aside0.mk hA32
      clear hy32 hA32
      replace q32 := eq_true q32
      go_enter Tryz.func46, Tryz.ntmps46
      try go_wp2_with (first | ((with_reducible refine gate_callee (f := 82) rfl ?_); refine goL_ Tryz.func82 #[.slice A32 y431.length c32, .int .i64 1, .int .i64 a1] ?_; (with_reducible refine (bits_Unpack.calls k _ _ y431 1 a1 t436 t437 _ ((Kd.V_reads' HO435.out).2.2) ((Kd.V_reads' HO435.out).2.1) A17.out).mono ?_); rintro e w33 ⟨v438, rfl, ho0, hb⟩; refine ⟨_, rfl, ?_⟩; have n0_ := Aside0.mk (Kd.V_elder' HO0.out (Kd.R_base ho0) hb); have n1_ := Aside0.mk (Kd.V_elder' HO435.out (Kd.R_base ho0) hb); have n2_ := Aside0.mk (Kd.R_lower (Kd.R_newM (M := fun k_ => (w.heap.size ≤ k_)) ho0 (below_size HB.out) (fun k_ h_ => h_)) (below_size HB.out)); have n3_ := Aside0.mk (below_step HB.out hb); revert n0_ n1_ n2_ n3_; clear HO0 HO435 HB; intro HO0 HO435 HO439 HB; (try clear hb); (try clear ho0); obtain ⟨Ao34, co34, eo34⟩ := Kd.R_slice HO439.out; subst eo34) | (go_at_call 83; (with_reducible refine (bits_Width.calls k _ _ t436 t440 _ ?side1 ?side2 A19.out).mono ?_); (case side1 => repeat (exact (Kd.R_reads' HO439.out).2.2)); (case side2 => exact (Kd.R_reads' HO439.out).2.1); rintro e w' ⟨rfl, ⟨nd, rfl⟩⟩))
      (try (rw [drewN_self w33]; generalize hq_ : World.drewN w33 _ = w33; have n0_ : Aside0 (Kd.V (Kd.int .u8) 5 w33 w.heap.size (fun k_ => (P0_ k_ ∨ w.heap.size ≤ k_) ∧ some k_ ≠ (.slice Ao34 t436.length co34 : Value).ownBlock) (.slice (some ad421) l0.length c0) l0) := ⟨by rw [← hq_]; exact (by (with_reducible repeat (apply Kd.V_drewN)); exact HO0.out)⟩; have n1_ : Aside0 (Kd.V (Kd.int .u8) 5 w33 w.heap.size (fun k_ => (P0_ k_ ∨ w.heap.size ≤ k_) ∧ some k_ ≠ (.slice Ao34 t436.length co34 : Value).ownBlock) (.slice A32 y431.length c32) y431) := ⟨by rw [← hq_]; exact (by (with_reducible repeat (apply Kd.V_drewN)); exact HO435.out)⟩; have n2_ : Aside0 (Kd.R (Kd.int .u64) 69 w33 w.heap.size (fun k_ => (w.heap.size ≤ k_)) (.slice Ao34 t436.length co34) t436) := ⟨by rw [← hq_]; exact (by (with_reducible repeat (apply Kd.R_drewN)); exact Kd.R_mono HO439.out (fun _ hk => by exact hk.1))⟩; have n3_ : Aside0 (Below w.heap.size w w33) := ⟨by rw [← hq_]; exact (by repeat ((with_reducible first | exact HB.out | apply pw_below_drewN)))⟩; clear HO0 HO435 HO439 HB hq_; have HO0 := n0_; have HO435 := n1_; have HO439 := n2_; have HB := n3_; clear n0_ n1_ n2_ n3_))
      have n0_ := Aside0.mk (Kd.V_drew HO0.out)
      have n1_ := Aside0.mk (Kd.V_drew HO435.out)
      have n2_ := Aside0.mk (Kd.R_drew HO439.out)
      have n3_ := Aside0.mk (below_drew1 HB.out)
      clear HO0
      clear HO435
      clear HO439
      clear HB
      have HO0 := n0_
      have HO435 := n1_
      have HO439 := n2_
      have HB := n3_
      clear n0_ n1_ n2_ n3_
      have q36 : ((ji29) : Int) ≤ ((l0.length : Int) : Int) := of_decide_eq_true ‹_›
      obtain ⟨i036, hi036, _, hsz36, _⟩ := info_parts info5
      have hroom36 : l0.length ≤ c0 := (Kd.V_reads' HO0.out).2.1
      have hC36 : Kd.F (Kd.int .u8) _ _ (some ad421) l0.length l0 := (Kd.V_at (base := w.heap.size) HO0.out).2.2
      have q036 : (0 : Int) ≤ ((ji29) : Int) := of_decide_eq_true ‹_›
      have hcut36 := cut_from (P := Tryz.prog) 24 5 .i64 Tryz.underlying24 hi036 1 hsz36 (some ad421) l0.length c0 (ji29) q036 q36
      have hr36 := Kd.F_cut (m := ((ji29) : Int).toNat) (c := c0) hC36 (by omega) hroom36
      obtain ⟨A36, hA36⟩ : ∃ Az_, Az_ = (if c0 = ((ji29) : Int).toNat then (some ad421) else ((some ad421) : Option Addr).map (·.add (((ji29) : Int).toNat * 1))) := ⟨_, rfl⟩
      obtain ⟨c36, hc36⟩ : ∃ cz_, cz_ = c0 - ((ji29) : Int).toNat := ⟨_, rfl⟩
      have hy36 : y446.length = l0.length - ((ji29) : Int).toNat := (by rw [Ny446.out, List.length_drop] <;> omega)
      rw [show (l0).drop ((ji29) : Int).toNat = y446 from Ny446.out.symm] at hr36
      replace hr36 : Kd.F (Kd.int .u8) _ _ A36 y446.length y446 := (by rw [hA36]; exact hr36)
      rw [← hy36, ← hA36, ← hc36] at hcut36
      have HO450 := Aside0.mk (show Kd.V (Kd.int .u8) 5 _ w.heap.size _ (.slice A36 y446.length c36) y446 from Kd.V_mk (by rw [hy36, hc36]; exact Nat.sub_le_sub_right hroom36 _) hr36)
      have HC450 := Aside0.mk (show y446.length ≤ c36 from by rw [hy36, hc36]; exact Nat.sub_le_sub_right hroom36 _)
      clear hr36 hC36 hroom36 hi036 hsz36 hc36
      have KY36 := Aside0.mk hy36
      have KA36 := Aside0.mk hA36
      clear hy36 hA36
      replace q36 := eq_true q36
      refine start_ (n := 9) (S := fun w' => True) (ds := []) #[false, false, false, false, false, false, false, false, false] (by kernel_rfl) rfl rfl trivial (fun hHeld => ?_); refine with_tabW block_readNulls.tab13 block_readNulls.bits13 (fun HT_ HW_ => ?_)
      generalize w33.drew = w35 at HO0 HO435 HO439 HB HO450 hHeld ⊢
      refine pure_ (i := 0) (N := some 50) (v := ?_) (a' := ?_) #[true, false, false, false, false, false, false, false, false] rfl rfl (any_of HT_.out (by kernel_rfl)) (fun _ _ _ h => h) (Or.inl ⟨by rfl, ?_⟩) ?_ ?_
      rotate_left
      ·intro w'
       go_simp
       with_reducible rfl
      rotate_left
      ·simp only [Act.put, List.setIfInBounds_toArray, List.set_cons_zero, List.set_cons_succ, i64_w, i32_w]
       rfl
      refine pure_ (i := 1) (N := some 51) (v := ?_) (a' := ?_) #[true, true, false, false, false, false, false, false, false] rfl rfl (any_of HT_.out (by kernel_rfl)) (fun _ _ _ h => h) (Or.inl ⟨by rfl, ?_⟩) ?_ ?_
      rotate_left
      ·intro w'
       go_simp
       with_reducible rfl
      rotate_left
      ·simp only [Act.put, List.setIfInBounds_toArray, List.set_cons_zero, List.set_cons_succ, i64_w, i32_w]
       rfl
      refine pure_ (i := 2) (N := some 52) (v := ?_) (a' := ?_) #[true, true, true, false, false, false, false, false, false] rfl rfl (any_of HT_.out (by kernel_rfl)) (fun _ _ _ h => h) (Or.inl ⟨by rfl, ?_⟩) ?_ ?_
      rotate_left
      ·intro w'
       go_simp
       with_reducible rfl
      rotate_left
      ·simp only [Act.put, List.setIfInBounds_toArray, List.set_cons_zero, List.set_cons_succ, i64_w, i32_w]
       rfl
      refine pure_ (i := 3) (N := some 53) (v := ?_) (a' := ?_) #[true, true, true, true, false, false, false, false, false] rfl rfl (any_of HT_.out (by kernel_rfl)) (fun _ _ _ h => h) (Or.inl ⟨by rfl, ?_⟩) ?_ ?_
      rotate_left
      ·intro w'
       go_simp
       with_reducible rfl
      rotate_left
      ·simp only [Act.put, List.setIfInBounds_toArray, List.set_cons_zero, List.set_cons_succ, i64_w, i32_w]
       rfl
      refine pure_ (i := 4) (N := some 54) (v := ?_) (a' := ?_) #[true, true, true, true, true, false, false, false, false] rfl rfl (any_of HT_.out (by kernel_rfl)) (fun _ _ _ h => h) (Or.inl ⟨by rfl, ?_⟩) ?_ ?_
      rotate_left
      ·intro w'
       go_simp
       with_reducible rfl
      rotate_left
      ·simp only [Act.put, List.setIfInBounds_toArray, List.set_cons_zero, List.set_cons_succ, i64_w, i32_w]
       rfl
      refine pure_ (i := 5) (N := some 55) (v := ?_) (a' := ?_) #[true, true, true, true, true, true, false, false, false] rfl rfl (any_of HT_.out (by kernel_rfl)) (fun _ _ _ h => h) (Or.inl ⟨by rfl, ?_⟩) ?_ ?_
      rotate_left
      ·intro w'
       go_simp
       with_reducible rfl
      rotate_left
      ·simp only [Act.put, List.setIfInBounds_toArray, List.set_cons_zero, List.set_cons_succ, i64_w, i32_w]
       rfl
      refine pure_ (i := 6) (N := some 4) (v := ?_) (a' := ?_) #[true, true, true, true, true, true, true, false, false] rfl rfl (any_of HT_.out (by kernel_rfl)) (fun _ _ _ h => h) (Or.inl ⟨by rfl, ?_⟩) ?_ ?_
      rotate_left
      ·intro w'
       go_simp
       with_reducible rfl
      rotate_left
      ·simp only [Act.put, List.setIfInBounds_toArray, List.set_cons_zero, List.set_cons_succ, i64_w, i32_w]
       rfl
      refine pure_ (i := 7) (N := some 5) (v := ?_) (a' := ?_) #[true, true, true, true, true, true, true, true, false] rfl rfl (any_of HT_.out (by kernel_rfl)) (fun _ _ _ h => h) (Or.inl ⟨by rfl, ?_⟩) ?_ ?_
      rotate_left
      ·intro w'
       go_simp
       with_reducible rfl
      rotate_left
      ·simp only [Act.put, List.setIfInBounds_toArray, List.set_cons_zero, List.set_cons_succ, i64_w, i32_w]
       rfl
      refine pure_ (i := 8) (N := some 6) (v := ?_) (a' := ?_) #[true, true, true, true, true, true, true, true, true] rfl rfl (any_of HT_.out (by kernel_rfl)) (fun _ _ _ h => h) (Or.inl ⟨by rfl, ?_⟩) ?_ ?_
      rotate_left
      ·intro w'
       go_simp
       with_reducible rfl
      rotate_left
      ·simp only [Act.put, List.setIfInBounds_toArray, List.set_cons_zero, List.set_cons_succ, i64_w, i32_w]
       rfl
      refine done_ (done_of HT_.out (by kernel_rfl)) ?_
      try go_wp2
      go_ret3
      exact ⟨_, _, by rfl, by (with_reducible repeat (apply Kd.R_alloc)); exact Kd.R_mono HO439.out (fun _ hk => by exact hk), by (with_reducible repeat (apply Kd.V_alloc)); exact HO450.out, by exact HB.out⟩
     rw [if_neg c30] at H
     exact absurd H (by simp)
    rw [if_neg c18] at H
    have c18b0 : (t437 == 0) = false := beq_eq_false_iff_ne.mpr c18
    have c18b1 : (t437 != 0) = true := bne_iff_ne.mpr c18
    obtain ⟨ji37, hji37⟩ : ∃ j_ : Int, (wrap64 (1 + (wrap64 (Int.tdiv (wrap64 (a1 + 7)) 8)))) = j_ := ⟨_, rfl⟩
    replace H : (if 0 ≤ (ji37) then (some (t436, (l0.drop ((ji37) : Int).toNat), t437)) else (none)) = some (r1, r2, r3) := by (rw [hji37] at H; exact H)
    (try rw [hji37] at c15b0)
    (try rw [hji37] at c15b1)
    (try rw [hji37] at c15)
    (try rw [hji37] at c16b0)
    (try rw [hji37] at c16b1)
    (try rw [hji37] at c16)
    (try rw [hji37] at Ny431)
    have hji37w : (IntKind.i64.wrap (1 + (wrap64 (Int.tdiv (wrap64 (a1 + 7)) 8)))) = ji37 := (i64_w _).trans hji37
    by_cases c38 : 0 ≤ (ji37)
    ·rw [if_pos c38] at H
     have c38b0 := eq_true c38
     have c38b1 : decide (0 ≤ (ji37)) = true := decide_eq_true c38
     clear c38
     have c39b0 := eq_true (of_decide_eq_true ‹_› : (ji37) ≤ (l0.length : Int))
     obtain ⟨y451, hy451⟩ : ∃ y_ : List Int, y_ = (l0.drop ((ji37) : Int).toNat) := ⟨_, rfl⟩
     replace H : (some (t436, y451, t437)) = some (r1, r2, r3) := by (rw [hy451]; with_reducible exact H)
     have Ny451 := Aside0.mk hy451
     clear hy451
     simp only [Option.some.injEq, Prod.mk.injEq] at H
     obtain ⟨rfl, rfl, rfl⟩ := H
     have p421 : 0 ≤ (0 : Int) := (by omega)
     have q421 : 0 < (l0.length : Int) := of_decide_eq_true ‹_›
     obtain ⟨ad421, e421, hx421_0⟩ := Kd.at_int (Kd.V_reads' HO0.out).2.2 0 p421 q421
     cases e421
     have qi421 : (0 < l0.length) = True := eq_true (by omega)
     (try rw [show ((0 : Int)).toNat = 0 from rfl] at hx421_0)
     (try rw [Addr.add_zero'] at hx421_0)
     replace p421 := eq_true p421
     replace q421 := eq_true q421
     have p422 : 0 ≤ (0 : Int) := (by omega)
     have q422 : 0 < (l0.length : Int) := of_decide_eq_true ‹_›
     obtain ⟨ad422, e422, hx422_0⟩ := Kd.at_int (Kd.V_reads' HO0.out).2.2 0 p422 q422
     obtain rfl : ad421 = ad422 := (by injection e422)
     have qi422 : (0 < l0.length) = True := eq_true (by omega)
     (try rw [show ((0 : Int)).toNat = 0 from rfl] at hx422_0)
     (try rw [Addr.add_zero'] at hx422_0)
     replace p422 := eq_true p422
     replace q422 := eq_true q422
     have q40 : ((ji37) : Int) ≤ ((l0.length : Int) : Int) := of_decide_eq_true ‹_›
     obtain ⟨i040, hi040, _, hsz40, _⟩ := info_parts info5
     have hroom40 : l0.length ≤ c0 := (Kd.V_reads' HO0.out).2.1
     have hC40 : Kd.F (Kd.int .u8) _ _ (some ad421) l0.length l0 := (Kd.V_at (base := w.heap.size) HO0.out).2.2
     have ql40 : (1 : Int) ≤ ((ji37) : Int) := of_decide_eq_true ‹_›
     have hcut40 := cut_mid (P := Tryz.prog) 24 5 .i64 .i64 Tryz.underlying24 hi040 1 hsz40 (some ad421) l0.length c0 1 (ji37) (by omega) ql40 q40 hroom40
     have hr40 := Kd.F_mid (lo := (1 : Int).toNat) (hi := ((ji37) : Int).toNat) (c := c0) hC40 (by omega) (by omega) hroom40
     obtain ⟨A40, hA40⟩ : ∃ Az_, Az_ = (if c0 = (1 : Int).toNat then (some ad421) else ((some ad421) : Option Addr).map (·.add ((1 : Int).toNat * 1))) := ⟨_, rfl⟩
     obtain ⟨c40, hc40⟩ : ∃ cz_, cz_ = c0 - (1 : Int).toNat := ⟨_, rfl⟩
     have hy40 : y431.length = ((ji37) : Int).toNat - (1 : Int).toNat := (by rw [Ny431.out, List.length_drop, List.length_take] <;> omega)
     rw [show ((l0).take ((ji37) : Int).toNat).drop (1 : Int).toNat = y431 from Ny431.out.symm] at hr40
     replace hr40 : Kd.F (Kd.int .u8) _ _ A40 y431.length y431 := (by rw [hA40]; exact hr40)
     rw [← hy40, ← hA40, ← hc40] at hcut40
     have HO435 := Aside0.mk (show Kd.V (Kd.int .u8) 5 _ w.heap.size _ (.slice A40 y431.length c40) y431 from Kd.V_mk (by rw [hy40, hc40]; exact Nat.sub_le_sub_right (Nat.le_trans (by omega) hroom40) _) hr40)
     have HC435 := Aside0.mk (show y431.length ≤ c40 from by rw [hy40, hc40]; exact Nat.sub_le_sub_right (Nat.le_trans (by omega) hroom40) _)
     clear hr40 hC40 hroom40 hi040 hsz40 hc40
     have KY40 := Aside0.mk hy40
     have KA40 := Aside0.mk hA40
     clear hy40 hA40
     replace q40 := eq_true q40
     go_enter Tryz.func46, Tryz.ntmps46
     try go_wp2_with ((refine goL_ Tryz.func82 #[.slice A40 y431.length c40, .int .i64 1, .int .i64 a1] ?_; (with_reducible refine (bits_Unpack.calls k _ _ y431 1 a1 t436 t437 _ ((Kd.V_reads' HO435.out).2.2) ((Kd.V_reads' HO435.out).2.1) A17.out).mono ?_); rintro e w41 ⟨v438, rfl, ho0, hb⟩; refine ⟨_, rfl, ?_⟩; have n0_ := Aside0.mk (Kd.V_elder' HO0.out (Kd.R_base ho0) hb); have n1_ := Aside0.mk (Kd.V_elder' HO435.out (Kd.R_base ho0) hb); have n2_ := Aside0.mk (Kd.R_lower (Kd.R_newM (M := fun k_ => (w.heap.size ≤ k_)) ho0 (below_size HB.out) (fun k_ h_ => h_)) (below_size HB.out)); have n3_ := Aside0.mk (below_step HB.out hb); revert n0_ n1_ n2_ n3_; clear HO0 HO435 HB; intro HO0 HO435 HO439 HB; (try clear hb); (try clear ho0)))
     have n0_ := Aside0.mk (Kd.V_drew HO0.out)
     have n1_ := Aside0.mk (Kd.V_drew HO435.out)
     have n2_ := Aside0.mk (Kd.R_drew HO439.out)
     have n3_ := Aside0.mk (below_drew1 HB.out)
     clear HO0
     clear HO435
     clear HO439
     clear HB
     have HO0 := n0_
     have HO435 := n1_
     have HO439 := n2_
     have HB := n3_
     clear n0_ n1_ n2_ n3_
     have q43 : ((ji37) : Int) ≤ ((l0.length : Int) : Int) := of_decide_eq_true ‹_›
     obtain ⟨i043, hi043, _, hsz43, _⟩ := info_parts info5
     have hroom43 : l0.length ≤ c0 := (Kd.V_reads' HO0.out).2.1
     have hC43 : Kd.F (Kd.int .u8) _ _ (some ad421) l0.length l0 := (Kd.V_at (base := w.heap.size) HO0.out).2.2
     have q043 : (0 : Int) ≤ ((ji37) : Int) := of_decide_eq_true ‹_›
     have hcut43 := cut_from (P := Tryz.prog) 24 5 .i64 Tryz.underlying24 hi043 1 hsz43 (some ad421) l0.length c0 (ji37) q043 q43
     have hr43 := Kd.F_cut (m := ((ji37) : Int).toNat) (c := c0) hC43 (by omega) hroom43
     obtain ⟨A43, hA43⟩ : ∃ Az_, Az_ = (if c0 = ((ji37) : Int).toNat then (some ad421) else ((some ad421) : Option Addr).map (·.add (((ji37) : Int).toNat * 1))) := ⟨_, rfl⟩
     obtain ⟨c43, hc43⟩ : ∃ cz_, cz_ = c0 - ((ji37) : Int).toNat := ⟨_, rfl⟩
     have hy43 : y451.length = l0.length - ((ji37) : Int).toNat := (by rw [Ny451.out, List.length_drop] <;> omega)
     rw [show (l0).drop ((ji37) : Int).toNat = y451 from Ny451.out.symm] at hr43
     replace hr43 : Kd.F (Kd.int .u8) _ _ A43 y451.length y451 := (by rw [hA43]; exact hr43)
     rw [← hy43, ← hA43, ← hc43] at hcut43
     have HO455 := Aside0.mk (show Kd.V (Kd.int .u8) 5 _ w.heap.size _ (.slice A43 y451.length c43) y451 from Kd.V_mk (by rw [hy43, hc43]; exact Nat.sub_le_sub_right hroom43 _) hr43)
     have HC455 := Aside0.mk (show y451.length ≤ c43 from by rw [hy43, hc43]; exact Nat.sub_le_sub_right hroom43 _)
     clear hr43 hC43 hroom43 hi043 hsz43 hc43
     have KY43 := Aside0.mk hy43
     have KA43 := Aside0.mk hA43
     clear hy43 hA43
     replace q43 := eq_true q43
     refine start_ (n := 9) (S := fun w' => True) (ds := []) #[false, false, false, false, false, false, false, false, false] (by kernel_rfl) rfl rfl trivial (fun hHeld => ?_); refine with_tabW block_readNulls.tab13 block_readNulls.bits13 (fun HT_ HW_ => ?_)
     generalize w41.drew = w42 at HO0 HO435 HO439 HB HO455 hHeld ⊢
     refine pure_ (i := 0) (N := some 50) (v := ?_) (a' := ?_) #[true, false, false, false, false, false, false, false, false] rfl rfl (any_of HT_.out (by kernel_rfl)) (fun _ _ _ h => h) (Or.inl ⟨by rfl, ?_⟩) ?_ ?_
     rotate_left
     ·intro w'
      go_simp
      with_reducible rfl
     rotate_left
     ·simp only [Act.put, List.setIfInBounds_toArray, List.set_cons_zero, List.set_cons_succ, i64_w, i32_w]
      rfl
     refine pure_ (i := 1) (N := some 51) (v := ?_) (a' := ?_) #[true, true, false, false, false, false, false, false, false] rfl rfl (any_of HT_.out (by kernel_rfl)) (fun _ _ _ h => h) (Or.inl ⟨by rfl, ?_⟩) ?_ ?_
     rotate_left
     ·intro w'
      go_simp
      with_reducible rfl
     rotate_left
     ·simp only [Act.put, List.setIfInBounds_toArray, List.set_cons_zero, List.set_cons_succ, i64_w, i32_w]
      rfl
     refine pure_ (i := 2) (N := some 52) (v := ?_) (a' := ?_) #[true, true, true, false, false, false, false, false, false] rfl rfl (any_of HT_.out (by kernel_rfl)) (fun _ _ _ h => h) (Or.inl ⟨by rfl, ?_⟩) ?_ ?_
     rotate_left
     ·intro w'
      go_simp
      with_reducible rfl
     rotate_left
     ·simp only [Act.put, List.setIfInBounds_toArray, List.set_cons_zero, List.set_cons_succ, i64_w, i32_w]
      rfl
     refine pure_ (i := 3) (N := some 53) (v := ?_) (a' := ?_) #[true, true, true, true, false, false, false, false, false] rfl rfl (any_of HT_.out (by kernel_rfl)) (fun _ _ _ h => h) (Or.inl ⟨by rfl, ?_⟩) ?_ ?_
     rotate_left
     ·intro w'
      go_simp
      with_reducible rfl
     rotate_left
     ·simp only [Act.put, List.setIfInBounds_toArray, List.set_cons_zero, List.set_cons_succ, i64_w, i32_w]
      rfl
     refine pure_ (i := 4) (N := some 54) (v := ?_) (a' := ?_) #[true, true, true, true, true, false, false, false, false] rfl rfl (any_of HT_.out (by kernel_rfl)) (fun _ _ _ h => h) (Or.inl ⟨by rfl, ?_⟩) ?_ ?_
     rotate_left
     ·intro w'
      go_simp
      with_reducible rfl
     rotate_left
     ·simp only [Act.put, List.setIfInBounds_toArray, List.set_cons_zero, List.set_cons_succ, i64_w, i32_w]
      rfl
     refine pure_ (i := 5) (N := some 55) (v := ?_) (a' := ?_) #[true, true, true, true, true, true, false, false, false] rfl rfl (any_of HT_.out (by kernel_rfl)) (fun _ _ _ h => h) (Or.inl ⟨by rfl, ?_⟩) ?_ ?_
     rotate_left
     ·intro w'
      go_simp
      with_reducible rfl
     rotate_left
     ·simp only [Act.put, List.setIfInBounds_toArray, List.set_cons_zero, List.set_cons_succ, i64_w, i32_w]
      rfl
     refine pure_ (i := 6) (N := some 4) (v := ?_) (a' := ?_) #[true, true, true, true, true, true, true, false, false] rfl rfl (any_of HT_.out (by kernel_rfl)) (fun _ _ _ h => h) (Or.inl ⟨by rfl, ?_⟩) ?_ ?_
     rotate_left
     ·intro w'
      go_simp
      with_reducible rfl
     rotate_left
     ·simp only [Act.put, List.setIfInBounds_toArray, List.set_cons_zero, List.set_cons_succ, i64_w, i32_w]
      rfl
     refine pure_ (i := 7) (N := some 5) (v := ?_) (a' := ?_) #[true, true, true, true, true, true, true, true, false] rfl rfl (any_of HT_.out (by kernel_rfl)) (fun _ _ _ h => h) (Or.inl ⟨by rfl, ?_⟩) ?_ ?_
     rotate_left
     ·intro w'
      go_simp
      with_reducible rfl
     rotate_left
     ·simp only [Act.put, List.setIfInBounds_toArray, List.set_cons_zero, List.set_cons_succ, i64_w, i32_w]
      rfl
     refine pure_ (i := 8) (N := some 6) (v := ?_) (a' := ?_) #[true, true, true, true, true, true, true, true, true] rfl rfl (any_of HT_.out (by kernel_rfl)) (fun _ _ _ h => h) (Or.inl ⟨by rfl, ?_⟩) ?_ ?_
     rotate_left
     ·intro w'
      go_simp
      with_reducible rfl
     rotate_left
     ·simp only [Act.put, List.setIfInBounds_toArray, List.set_cons_zero, List.set_cons_succ, i64_w, i32_w]
      rfl
     refine done_ (done_of HT_.out (by kernel_rfl)) ?_
     try go_wp2
     go_ret3
     exact ⟨_, _, by rfl, by (with_reducible repeat (apply Kd.R_alloc)); exact Kd.R_mono HO439.out (fun _ hk => by exact hk.1), by (with_reducible repeat (apply Kd.V_alloc)); exact HO455.out, by exact HB.out⟩
    rw [if_neg c38] at H
    exact absurd H (by simp)
   rw [if_neg c16] at H
   exact absurd H (by simp)
  rw [if_neg c15] at H
  exact absurd H (by simp)
 rw [if_neg c4] at H
 exact absurd H (by simp)
def block_readPlain.l0 : Nat → Int → List Int → List (S62) → Int → Int → Int → Option ((List (S62)) × Int)
 | 0, _, _, _, _, _, _ => none
 | k + 1, x0, x1, x8, x9, x13, x14 => if x14 < x13 then ((vint_Get.f k x1 x9).bind fun bt456 => (if bt456.2.2 = 0 then ((cell_Number.f x0).bind fun t459 => (if t459 = true then ((bits_Unfold.f bt456.1).bind fun t460 => (if x8.length < 3518437208883 then (block_readPlain.l0 k x0 x1 (x8 ++ [(⟨false, t460, ([] : List Int)⟩ : S62)]) bt456.2.1 x13 (wrap64 (x14 + 1))) else (none))) else (if bt456.1 > 200 then (some (([] : List (S62)), 4)) else (if (wrap64 (bt456.1)) > (wrap64 ((x1.length : Int) - bt456.2.1)) then (some (([] : List (S62)), 2)) else (if 0 ≤ bt456.2.1 then (if bt456.2.1 ≤ (wrap64 (bt456.2.1 + (wrap64 (bt456.1)))) then (if (wrap64 (bt456.2.1 + (wrap64 (bt456.1)))) ≤ (x1.length : Int) then ((bytes_Clone.f ((x1.take ((wrap64 (bt456.2.1 + (wrap64 (bt456.1)))) : Int).toNat).drop (bt456.2.1 : Int).toNat)).bind fun t465 => (if x8.length < 3518437208883 then (block_readPlain.l0 k x0 x1 (x8 ++ [(⟨false, 0, t465⟩ : S62)]) (wrap64 (bt456.2.1 + (wrap64 (bt456.1)))) x13 (wrap64 (x14 + 1))) else (none))) else (none)) else (none)) else (none)))))) else (some (([] : List (S62)), bt456.2.2)))) else (if x9 < (x1.length : Int) then (some (([] : List (S62)), 3)) else (some (x8, 0)))
def block_readPlain.f (k : Nat) (a0 : Int) (l1 : List Int) (a2 : Int) : Option ((List (S62)) × Int) := block_readPlain.l0 k a0 l1 ([] : List (S62)) 0 a2 0
set_option maxHeartbeats 8000000 in
set_option maxRecDepth 100000 in
theorem block_readPlain.calls (k : Nat) (a0 : Int) (A1 : Option Addr) (c1 : Nat) (l1 : List Int) (a2 : Int) (r1 : List (S62)) (r2 : Int) (w : World) (hr1 : Kd.C (Kd.int .u8) w A1 l1.length l1) (hc1 : l1.length ≤ c1) (h : block_readPlain.f k a0 l1 a2 = some (r1, r2)) :
 Calls Tryz.prog 84 #[.int .i64 a0, .slice A1 l1.length c1, .int .i64 a2] w fun e w' => ∃ v0_ : Value, e = .returned (.tuple #[v0_, .int .i64 r2]) ∧ Kd.S k62 62 w' w.heap.size (fun _ => True) v0_ r1 ∧ Below w.heap.size w w' := by
 have hu62 := Tryz.underlying62
 have HR1 := Aside0.mk hr1
 have HC1 := Aside0.mk hc1
 clear hr1 hc1
 have HB := Aside0.mk (Below.refl w.heap.size w)
 unfold block_readPlain.f at h
 have H := h
 clear h
 have H' := Aside0.mk H
 clear H
 go_enter Tryz.func84, Tryz.ntmps84
 go_wp2
 go_loopg [8, 9, 14] k (fun kq v8 v9 v14 w' => ∃ (x8_1 : List (S62)) (x9_1 : Int) (x14_1 : Int), v9 = .int .i64 x9_1 ∧ v14 = .int .i64 x14_1 ∧ Aside0 (block_readPlain.l0 kq a0 l1 x8_1 x9_1 a2 x14_1 = some (r1, r2)) ∧ Aside0 (kq ≤ k) ∧ Aside0 (Kd.S k62 62 w' w.heap.size (fun _ => True) v8 x8_1) ∧ Aside0 (Below w.heap.size w w'))
 case atStart => exact ⟨(([] : List (S62))), (0), (0), (by rfl), (by rfl), H', ⟨Nat.le_refl _⟩, ⟨by exact Kd.S_nil _ _ _ _ _⟩, ⟨by exact HB.out⟩⟩
 case round =>
  clear H'
  obtain ⟨x8_1, x9_1, x14_1, rfl, rfl, HA, HK1, HO_8, HB⟩ := hrel
  cases gk with
  | zero => exact absurd HA.out (by simp [block_readPlain.l0])
  | succ k1 =>
   have H := HA.out
   clear HA
   simp only [block_readPlain.l0] at H
   by_cases c4 : x14_1 < a2
   ·rw [if_pos c4] at H
    have c4b0 : decide (x14_1 < a2) = true := decide_eq_true c4
    clear c4
    replace H := Option.bind_eq_some_iff.mp H
    obtain ⟨⟨t456, t457, t458⟩, A50, H⟩ := H
    (try dsimp only at H)
    have A5 := Aside0.mk A50
    clear A50
    by_cases c6 : t458 = 0
    ·rw [if_pos c6] at H
     have c6b0 : (t458 == 0) = true := beq_iff_eq.mpr c6
     have c6b1 : (t458 != 0) = false := bne_eq_false_iff_eq.mpr c6
     clear c6
     replace H := Option.bind_eq_some_iff.mp H
     obtain ⟨t459, A70, H⟩ := H
     (try dsimp only at H)
     have A7 := Aside0.mk A70
     clear A70
     by_cases c8 : t459 = true
     ·subst c8
      have H1 : ((bits_Unfold.f t456).bind fun t460 => (if x8_1.length < 3518437208883 then (block_readPlain.l0 k1 a0 l1 (x8_1 ++ [(⟨false, t460, ([] : List Int)⟩ : S62)]) t457 a2 (wrap64 (x14_1 + 1))) else (none))) = some (r1, r2) := by rw [if_pos rfl] at H; exact H
      clear H
      have H := H1
      clear H1
      replace H := Option.bind_eq_some_iff.mp H
      obtain ⟨t460, A90, H⟩ := H
      (try dsimp only at H)
      have A9 := Aside0.mk A90
      clear A90
      by_cases c10 : x8_1.length < 3518437208883
      ·rw [if_pos c10] at H
       have LMc10 := Aside0.mk c10
       clear c10
       obtain ⟨y461, hy461⟩ : ∃ y_ : List (S62), y_ = (x8_1 ++ [(⟨false, t460, ([] : List Int)⟩ : S62)]) := ⟨_, rfl⟩
       replace H : (block_readPlain.l0 k1 a0 l1 y461 t457 a2 (wrap64 (x14_1 + 1))) = some (r1, r2) := by (rw [hy461]; with_reducible exact H)
       have Ny461 := Aside0.mk hy461
       clear hy461
       have H' := Aside0.mk H
       clear H
       go_wp2_with (first | ((with_reducible refine gate_callee (f := 45) rfl ?_); refine goL_ Tryz.func45 #[.slice A1 l1.length c1, .int .i64 x9_1] ?_; (with_reducible refine (vint_Get.calls k1 _ _ l1 x9_1 t456 t457 t458 _ (Kd.C_below HR1.out HB.out) (HC1.out) A5.out).mono ?_); rintro e w' ⟨rfl, ⟨nd, rfl⟩⟩; refine ⟨_, rfl, ?_⟩) | ((with_reducible refine gate_callee (f := 69) rfl ?_); refine goL_ Tryz.func69 #[.int .i64 a0] ?_; (with_reducible refine (cell_Number.calls a0 true _ A7.out).mono ?_); rintro e w' ⟨rfl, ⟨nd, rfl⟩⟩; refine ⟨_, rfl, ?_⟩) | ((with_reducible refine gate_callee (f := 125) rfl ?_); refine goL_ Tryz.func125 #[.int .u64 t456] ?_; (with_reducible refine (bits_Unfold.calls t456 t460 _ A9.out).mono ?_); rintro e w' ⟨rfl, ⟨nd, rfl⟩⟩; refine ⟨_, rfl, ?_⟩) | ((with_reducible refine gate_builtin (b := .append) (xs := #[.tmp 30, .tmp 34]) rfl ?_); at_builtin; refine Kd.S_append k62 (w0 := w) w.heap.size rfl (.tmp 30) (.tmp 34) 22 62 (.agg #[(.bool false), (.int .i64 0), (.slice none 0 0)]) 40 rfl Tryz.underlying22 info62 rfl (by decide) (by omega) u8 x8_1 (⟨false, t460, ([] : List Int)⟩ : S62) [.bool false, .int .i64 t460, .slice none 0 0] (fun _ => True) (fun _ => False) rfl rfl ?aP (fun k_ hk_ => hk_.elim) ?aF ?aO ?aB ?aS ?aL ?_; (case aP => exact k62_mkM _ _ _ (⟨false, t460, ([] : List Int)⟩ : S62) (Kd.R_nil _ _ _ _ _)); (case aB => exact (by repeat ((with_reducible first | exact HB.out | apply pw_below_drewN)))); (case aF => exact (fun _ _ => trivial)); (case aO => exact (by (with_reducible repeat (apply Kd.S_drewN)); exact Kd.S_mono HO_8.out (fun k_ hk => ⟨trivial, fun e_ => e_⟩))); (case aS => exact (below_size (by repeat ((with_reducible first | exact HB.out | apply pw_below_drewN))))); (case aL => have := LMc10.out; omega); intro v462 w11 ho hb hg hat; rw [← Ny461.out] at ho; have n0_ := Aside0.mk (hb); have n1_ := Aside0.mk (ho); revert n0_ n1_; clear HB HO_8; intro HB HO463; clear ho hb hg hat))
       go_roundg k1
       case measure => have := HK1.out; omega
       case rel => exact ⟨(y461), (t457), (wrap64 (x14_1 + 1)), (by rfl), (by rfl), H', ⟨by have := HK1.out; omega⟩, ⟨by (with_reducible repeat (apply Kd.S_alloc)); exact HO463.out⟩, ⟨by exact HB.out⟩⟩
      rw [if_neg c10] at H
      exact absurd H (by simp)
     replace c8 := Bool.eq_false_iff.mpr c8
     subst c8
     have H1 : (if t456 > 200 then (some (([] : List (S62)), 4)) else (if (wrap64 (t456)) > (wrap64 ((l1.length : Int) - t457)) then (some (([] : List (S62)), 2)) else (if 0 ≤ t457 then (if t457 ≤ (wrap64 (t457 + (wrap64 (t456)))) then (if (wrap64 (t457 + (wrap64 (t456)))) ≤ (l1.length : Int) then ((bytes_Clone.f ((l1.take ((wrap64 (t457 + (wrap64 (t456)))) : Int).toNat).drop (t457 : Int).toNat)).bind fun t465 => (if x8_1.length < 3518437208883 then (block_readPlain.l0 k1 a0 l1 (x8_1 ++ [(⟨false, 0, t465⟩ : S62)]) (wrap64 (t457 + (wrap64 (t456)))) a2 (wrap64 (x14_1 + 1))) else (none))) else (none)) else (none)) else (none)))) = some (r1, r2) := by rw [if_neg (show ¬ (false = true) by decide)] at H; exact H
     clear H
     have H := H1
     clear H1
     by_cases c12 : t456 > 200
     ·rw [if_pos c12] at H
      have c12b0 : decide (200 < t456) = true := decide_eq_true c12
      clear c12
      simp only [Option.some.injEq, Prod.mk.injEq] at H
      obtain ⟨rfl, rfl⟩ := H
      go_wp2_with (first | ((with_reducible refine gate_callee (f := 45) rfl ?_); refine goL_ Tryz.func45 #[.slice A1 l1.length c1, .int .i64 x9_1] ?_; (with_reducible refine (vint_Get.calls k1 _ _ l1 x9_1 t456 t457 t458 _ (Kd.C_below HR1.out HB.out) (HC1.out) A5.out).mono ?_); rintro e w' ⟨rfl, ⟨nd, rfl⟩⟩; refine ⟨_, rfl, ?_⟩) | ((with_reducible refine gate_callee (f := 69) rfl ?_); refine goL_ Tryz.func69 #[.int .i64 a0] ?_; (with_reducible refine (cell_Number.calls a0 false _ A7.out).mono ?_); rintro e w' ⟨rfl, ⟨nd, rfl⟩⟩; refine ⟨_, rfl, ?_⟩))
      go_ret2
      exact ⟨_, by rfl, by exact Kd.S_nil _ _ _ _ _, by repeat ((with_reducible first | exact HB.out | apply pw_below_drewN))⟩
     rw [if_neg c12] at H
     have c12b0 : decide (200 < t456) = false := decide_eq_false c12
     clear c12
     by_cases c13 : (wrap64 (t456)) > (wrap64 ((l1.length : Int) - t457))
     ·rw [if_pos c13] at H
      have c13b0 : decide ((wrap64 ((l1.length : Int) - t457)) < (wrap64 (t456))) = true := decide_eq_true c13
      clear c13
      simp only [Option.some.injEq, Prod.mk.injEq] at H
      obtain ⟨rfl, rfl⟩ := H
      go_wp2_with (first | ((with_reducible refine gate_callee (f := 45) rfl ?_); refine goL_ Tryz.func45 #[.slice A1 l1.length c1, .int .i64 x9_1] ?_; (with_reducible refine (vint_Get.calls k1 _ _ l1 x9_1 t456 t457 t458 _ (Kd.C_below HR1.out HB.out) (HC1.out) A5.out).mono ?_); rintro e w' ⟨rfl, ⟨nd, rfl⟩⟩; refine ⟨_, rfl, ?_⟩) | ((with_reducible refine gate_callee (f := 69) rfl ?_); refine goL_ Tryz.func69 #[.int .i64 a0] ?_; (with_reducible refine (cell_Number.calls a0 false _ A7.out).mono ?_); rintro e w' ⟨rfl, ⟨nd, rfl⟩⟩; refine ⟨_, rfl, ?_⟩))
      go_ret2
      exact ⟨_, by rfl, by exact Kd.S_nil _ _ _ _ _, by repeat ((with_reducible first | exact HB.out | apply pw_below_drewN))⟩
     rw [if_neg c13] at H
     have c13b0 : decide ((wrap64 ((l1.length : Int) - t457)) < (wrap64 (t456))) = false := decide_eq_false c13
     clear c13
     by_cases c14 : 0 ≤ t457
     ·rw [if_pos c14] at H
      have c14b0 := eq_true c14
      have c14b1 : decide (0 ≤ t457) = true := decide_eq_true c14
      clear c14
      by_cases c15 : t457 ≤ (wrap64 (t457 + (wrap64 (t456))))
      ·rw [if_pos c15] at H
       have c15b0 := eq_true c15
       have c15b1 : decide (t457 ≤ (wrap64 (t457 + (wrap64 (t456))))) = true := decide_eq_true c15
       by_cases c16 : (wrap64 (t457 + (wrap64 (t456)))) ≤ (l1.length : Int)
       ·rw [if_pos c16] at H
        have c16b0 := eq_true c16
        have c16b1 : decide ((wrap64 (t457 + (wrap64 (t456)))) ≤ (l1.length : Int)) = true := decide_eq_true c16
        replace H := Option.bind_eq_some_iff.mp H
        obtain ⟨t465, A170, H⟩ := H
        (try dsimp only at H)
        have A17 := Aside0.mk A170
        clear A170
        by_cases c18 : x8_1.length < 3518437208883
        ·rw [if_pos c18] at H
         have LMc18 := Aside0.mk c18
         clear c18
         obtain ⟨y468, hy468⟩ : ∃ y_ : List (S62), y_ = (x8_1 ++ [(⟨false, 0, t465⟩ : S62)]) := ⟨_, rfl⟩
         replace H : (block_readPlain.l0 k1 a0 l1 y468 (wrap64 (t457 + (wrap64 (t456)))) a2 (wrap64 (x14_1 + 1))) = some (r1, r2) := by (rw [hy468]; with_reducible exact H)
         have Ny468 := Aside0.mk hy468
         clear hy468
         have H' := Aside0.mk H
         clear H
         go_wp2_with (first | ((with_reducible refine gate_callee (f := 45) rfl ?_); refine goL_ Tryz.func45 #[.slice A1 l1.length c1, .int .i64 x9_1] ?_; (with_reducible refine (vint_Get.calls k1 _ _ l1 x9_1 t456 t457 t458 _ (Kd.C_below HR1.out HB.out) (HC1.out) A5.out).mono ?_); rintro e w' ⟨rfl, ⟨nd, rfl⟩⟩; refine ⟨_, rfl, ?_⟩) | ((with_reducible refine gate_callee (f := 69) rfl ?_); refine goL_ Tryz.func69 #[.int .i64 a0] ?_; (with_reducible refine (cell_Number.calls a0 false _ A7.out).mono ?_); rintro e w' ⟨rfl, ⟨nd, rfl⟩⟩; refine ⟨_, rfl, ?_⟩; obtain ⟨i019, hi019, _, hsz19, _⟩ := info_parts info5; obtain ⟨A19, hcut19, hA19, hC19⟩ := print_mid_of (P := Tryz.prog) (Value.int .u8) 0 24 5 .i64 .i64 Tryz.underlying24 hi019 hsz19 A1 c1 l1 t457 (wrap64 (t457 + (wrap64 (t456)))) (of_decide_eq_true ‹_›) (by omega) (of_decide_eq_true ‹_›) HC1.out; have HR464 := Aside0.mk (Kd.C_of_reads (h1 := fun _ => rfl) (hA19 _ (Kd.reads_of_C HR1.out))); have HC464 := Aside0.mk hC19; clear hA19 hC19 hi019 hsz19) | ((with_reducible refine gate_callee (f := 61) rfl ?_); refine goesL_ (some 57) rfl rfl Tryz.func61 (by kernel_rfl) rfl #[.slice A19 ((l1.take ((wrap64 (t457 + (wrap64 (t456)))) : Int).toNat).drop (t457 : Int).toNat).length (c1 - t457.toNat)] rfl (by (try simp only [List.map_toArray, List.map_cons, List.map_nil]); (rw [show ((l1.take ((wrap64 (t457 + (wrap64 (t456)))) : Int).toNat).drop (t457 : Int).toNat).length = ((wrap64 (t457 + (wrap64 (t456)))).toNat - t457.toNat) from (by rw [List.length_drop, List.length_take]; have h_ : ((wrap64 (t457 + (wrap64 (t456)))) : Int) ≤ (l1.length : Int) := of_decide_eq_true ‹_›; omega)] <;> rfl)) ?_; (with_reducible refine (bytes_Clone.calls _ _ ((l1.take ((wrap64 (t457 + (wrap64 (t456)))) : Int).toNat).drop (t457 : Int).toNat) t465 _ ?side1 ?side2 A17.out).mono ?_); (case side1 => repeat ((exact (Kd.C_below HR464.out (by repeat ((with_reducible first | exact HB.out | apply pw_below_drewN))))))); (case side2 => exact HC464.out); rintro e w20 ⟨v466, rfl, ho0, hb⟩; refine ⟨_, rfl, ?_⟩; have n0_ := Aside0.mk (Kd.S_elder' (by (with_reducible repeat (apply Kd.S_drewN)); exact HO_8.out) (Kd.R_base ho0) hb); have n1_ := Aside0.mk (Kd.R_lower ho0 (below_size (by repeat ((with_reducible first | exact HB.out | apply pw_below_drewN))))); have n2_ := Aside0.mk (below_step (by repeat ((with_reducible first | exact HB.out | apply pw_below_drewN))) hb); revert n0_ n1_ n2_; clear HO_8 HB; intro HO_8 HO467 HB; (try clear hb); (try clear ho0); obtain ⟨Ao21, co21, eo21⟩ := Kd.R_slice HO467.out; subst eo21) | ((with_reducible refine gate_builtin (b := .append) (xs := #[.tmp 52, .tmp 59]) rfl ?_); at_builtin; refine Kd.S_append k62 (w0 := w) w.heap.size rfl (.tmp 52) (.tmp 59) 22 62 (.agg #[(.bool false), (.int .i64 0), (.slice none 0 0)]) 40 rfl Tryz.underlying22 info62 rfl (by decide) (by omega) u8 x8_1 (⟨false, 0, t465⟩ : S62) [.bool false, .int .i64 0, .slice Ao21 t465.length co21] (fun _ => True) (fun k_ => some k_ = (.slice Ao21 t465.length co21 : Value).ownBlock) rfl rfl ?aP (fun k_ hk_ => ((Kd.R_mono (ok' := fun k_ => ((fun _ => True)) k_ ∧ some k_ ≠ (u8 : Value).ownBlock) (Kd.R_apart' (HO467.out) (Kd.S_typed HO_8.out) (by decide)) (fun k_ hk => ⟨trivial, hk.2⟩))).1 k_ hk_.symm) ?aF ?aO ?aB ?aS ?aL ?_; (case aP => exact k62_mkM _ _ _ (⟨false, 0, t465⟩ : S62) (Kd.R_mono (Kd.R_tight rfl (Kd.R_mono (ok' := fun k_ => ((fun _ => True)) k_ ∧ some k_ ≠ (u8 : Value).ownBlock) (Kd.R_apart' (HO467.out) (Kd.S_typed HO_8.out) (by decide)) (fun k_ hk => ⟨trivial, hk.2⟩))) (fun _ h_ => h_))); (case aB => exact HB.out); (case aF => exact (fun _ _ => trivial)); (case aO => exact (by (with_reducible repeat (apply Kd.S_alloc)); exact Kd.S_mono HO_8.out (fun k_ hk => ⟨trivial, fun e_ => hk.2 e_⟩))); (case aS => exact (below_size HB.out)); (case aL => have := LMc18.out; omega); intro v469 w22 ho hb hg hat; rw [← Ny468.out] at ho; have n0_ := Aside0.mk (hb); have n1_ := Aside0.mk (ho); revert n0_ n1_; clear HB HO_8 HO467; intro HB HO470; clear ho hb hg hat))
         go_roundg k1
         case measure => have := HK1.out; omega
         case rel => exact ⟨(y468), (wrap64 (t457 + (wrap64 (t456)))), (wrap64 (x14_1 + 1)), (by rfl), (by rfl), H', ⟨by have := HK1.out; omega⟩, ⟨by (with_reducible repeat (apply Kd.S_alloc)); exact HO470.out⟩, ⟨by exact HB.out⟩⟩
        rw [if_neg c18] at H
        exact absurd H (by simp)
       rw [if_neg c16] at H
       exact absurd H (by simp)
      rw [if_neg c15] at H
      exact absurd H (by simp)
     rw [if_neg c14] at H
     exact absurd H (by simp)
    rw [if_neg c6] at H
    have c6b0 : (t458 == 0) = false := beq_eq_false_iff_ne.mpr c6
    have c6b1 : (t458 != 0) = true := bne_iff_ne.mpr c6
    simp only [Option.some.injEq, Prod.mk.injEq] at H
    obtain ⟨rfl, rfl⟩ := H
    go_wp2_with ((refine goL_ Tryz.func45 #[.slice A1 l1.length c1, .int .i64 x9_1] ?_; (with_reducible refine (vint_Get.calls k1 _ _ l1 x9_1 t456 t457 t458 _ (Kd.C_below HR1.out HB.out) (HC1.out) A5.out).mono ?_); rintro e w' ⟨rfl, ⟨nd, rfl⟩⟩; refine ⟨_, rfl, ?_⟩))
    go_ret2
    exact ⟨_, by rfl, by exact Kd.S_nil _ _ _ _ _, by repeat ((with_reducible first | exact HB.out | apply pw_below_drewN))⟩
   rw [if_neg c4] at H
   have c4b0 : decide (x14_1 < a2) = false := decide_eq_false c4
   clear c4
   by_cases c23 : x9_1 < (l1.length : Int)
   ·rw [if_pos c23] at H
    have c23b0 : decide (x9_1 < (l1.length : Int)) = true := decide_eq_true c23
    clear c23
    simp only [Option.some.injEq, Prod.mk.injEq] at H
    obtain ⟨rfl, rfl⟩ := H
    go_wp2
    go_ret2
    exact ⟨_, by rfl, by exact Kd.S_nil _ _ _ _ _, by exact HB.out⟩
   rw [if_neg c23] at H
   have c23b0 : decide (x9_1 < (l1.length : Int)) = false := decide_eq_false c23
   clear c23
   simp only [Option.some.injEq, Prod.mk.injEq] at H
   obtain ⟨rfl, rfl⟩ := H
   go_wp2
   go_ret2
   exact ⟨_, by rfl, by (with_reducible repeat (apply Kd.S_alloc)); exact HO_8.out, by exact HB.out⟩
end Go.Proofs.YtjbhaepkldgfnaaGreat.S
