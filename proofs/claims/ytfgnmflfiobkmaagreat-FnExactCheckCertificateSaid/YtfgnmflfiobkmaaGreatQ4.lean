/-
  What is proved: for every certificate, the program's CheckCertificate answers as the reference's does and leaves the certificate as it was. Conditions: none.
-/
import Derived.Shelf.Sort.Plain
import Derived.Shelf.Slices.Turned
import Derived.Ground.Names2Prog
import Derived.Shelf.Slices.Clone
import Derived.Shelf.Slices.CompactI
import Derived.Shelf.Slices.Cells
import Derived.Test.YtfgnmflfiobkmaaGreatProg
import Derived.Test.YtfgnmflfiobkmaaGreatQ3
import Derived.Test.YtfgnmflfiobkmaaGreatQ1
import Derived.Shelf.Spec.SlicesGrow
import Derived.Laws.MakeOwn
import Derived.Laws.Slices
import Derived.Shelf.Slices.In.SortNone
set_option linter.unusedVariables false
set_option linter.unusedSimpArgs false
namespace Go.Proofs
open Go.Shelf
def Tryz.lays189_ren : Go.Shelf.Ren := ⟨fun | 189 => 94 | 125 => 135 | 257 => 134 | 128 => 183 | 129 => 184 | 294 => 174 | 295 => 175 | 296 => 176 | 297 => 177 | 298 => 178 | 299 => 179 | 216 => 180 | 300 => 181 | 301 => 182 | 328 => 211 | 329 => 212 | 330 => 213 | 331 => 214 | 332 => 215 | 215 => 216 | 343 => 238 | n => n, fun | 28 => 36 | 3 => 3 | 46 => 181 | 0 => 0 | 51 => 228 | 53 => 230 | 4 => 4 | 183 => 222 | 182 => 221 | 131 => 56 | 5 => 5 | 9 => 9 | 218 => 252 | 222 => 256 | 228 => 270 | 229 => 100 | n => n, fun | n => n⟩
theorem Tryz.lays189 : Go.Proofs.Lays.n189 Tryz.prog Tryz.lays189_ren := {
  mixed := by kernel_rfl
  f125 := Tryz.func135.trans (congrArg some (by kernel_rfl))
  f128 := Tryz.func183.trans (congrArg some (by kernel_rfl))
  f129 := Tryz.func184.trans (congrArg some (by kernel_rfl))
  f189 := Tryz.func94.trans (congrArg some (by kernel_rfl))
  f215 := Tryz.func216.trans (congrArg some (by kernel_rfl))
  f216 := Tryz.func180.trans (congrArg some (by kernel_rfl))
  f257 := Tryz.func134.trans (congrArg some (by kernel_rfl))
  f294 := Tryz.func174.trans (congrArg some (by kernel_rfl))
  f295 := Tryz.func175.trans (congrArg some (by kernel_rfl))
  f296 := Tryz.func176.trans (congrArg some (by kernel_rfl))
  f297 := Tryz.func177.trans (congrArg some (by kernel_rfl))
  f298 := Tryz.func178.trans (congrArg some (by kernel_rfl))
  f299 := Tryz.func179.trans (congrArg some (by kernel_rfl))
  f300 := Tryz.func181.trans (congrArg some (by kernel_rfl))
  f301 := Tryz.func182.trans (congrArg some (by kernel_rfl))
  f328 := Tryz.func211.trans (congrArg some (by kernel_rfl))
  f329 := Tryz.func212.trans (congrArg some (by kernel_rfl))
  f330 := Tryz.func213.trans (congrArg some (by kernel_rfl))
  f331 := Tryz.func214.trans (congrArg some (by kernel_rfl))
  f332 := Tryz.func215.trans (congrArg some (by kernel_rfl))
  f343 := Tryz.func238.trans (congrArg some (by kernel_rfl))
  t0 := Tryz.underlying0
  a0 := Tryz.isAgg0
  z0 := Tryz.sizeOf0
  v0 := Tryz.zeroValue0
  t3 := Tryz.underlying3
  a3 := Tryz.isAgg3
  z3 := Tryz.sizeOf3
  v3 := Tryz.zeroValue3
  t4 := Tryz.underlying4
  a4 := Tryz.isAgg4
  z4 := Tryz.sizeOf4
  v4 := Tryz.zeroValue4
  t5 := Tryz.underlying5
  a5 := Tryz.isAgg5
  z5 := Tryz.sizeOf5
  v5 := Tryz.zeroValue5
  t9 := Tryz.underlying9
  a9 := Tryz.isAgg9
  z9 := Tryz.sizeOf9
  v9 := Tryz.zeroValue9
  t28 := Tryz.underlying36
  a28 := Tryz.isAgg36
  z28 := Tryz.sizeOf36
  v28 := Tryz.zeroValue36
  t46 := Tryz.underlying181
  a46 := Tryz.isAgg181
  z46 := Tryz.sizeOf181
  v46 := Tryz.zeroValue181
  t51 := Tryz.underlying228
  a51 := Tryz.isAgg228
  z51 := Tryz.sizeOf228
  v51 := Tryz.zeroValue228
  t53 := Tryz.underlying230
  a53 := Tryz.isAgg230
  z53 := Tryz.sizeOf230
  v53 := Tryz.zeroValue230
  t131 := Tryz.underlying56
  a131 := Tryz.isAgg56
  z131 := Tryz.sizeOf56
  v131 := Tryz.zeroValue56
  t182 := Tryz.underlying221
  a182 := Tryz.isAgg221
  z182 := Tryz.sizeOf221
  v182 := Tryz.zeroValue221
  t183 := Tryz.underlying222
  a183 := Tryz.isAgg222
  z183 := Tryz.sizeOf222
  v183 := Tryz.zeroValue222
  t218 := Tryz.underlying252
  a218 := Tryz.isAgg252
  z218 := Tryz.sizeOf252
  v218 := Tryz.zeroValue252
  t222 := Tryz.underlying256
  a222 := Tryz.isAgg256
  z222 := Tryz.sizeOf256
  v222 := Tryz.zeroValue256
  t228 := Tryz.underlying270
  a228 := Tryz.isAgg270
  z228 := Tryz.sizeOf270
  v228 := Tryz.zeroValue270
  t229 := Tryz.underlying100
  a229 := Tryz.isAgg100
  z229 := Tryz.sizeOf100
  v229 := Tryz.zeroValue100 }
open Go.Sort Go.RowKit in
theorem Tryz.slices_Sort_int (blk off cap : Nat) (zs : List Int) (w : World) (hH : Holds (Value.int .i64) w blk off zs.toArray) (hblk : blk < w.heap.size) (hsz : zs.length < 4611686018427387904) :
    Calls Tryz.prog 94 #[.slice (some ⟨blk, off, none⟩) zs.length cap] w fun e w' =>
      e = .returned (.tuple #[]) ∧ ∃ n os, w' = grow (putRow (Value.int .i64) (Sort.ahead w n) blk off (zs.mergeSort fun x y => decide (x ≤ y)).toArray) os := Any.slices_Sort_int Tryz.lays189 blk off cap zs w hH hblk hsz
def Tryz.lays108_ren : Go.Shelf.Ren := ⟨fun | 108 => 204 | n => n, fun | 28 => 36 | 3 => 3 | 0 => 0 | 4 => 4 | n => n, fun | n => n⟩
def Tryz.lays107_ren : Go.Shelf.Ren := ⟨fun | 107 => 152 | 108 => 204 | n => n, fun | 28 => 36 | 3 => 3 | 4 => 4 | 0 => 0 | n => n, fun | n => n⟩
def Tryz.laysNm215_ren : Go.Shelf.Ren := ⟨fun | 15 => 164 | n => n, fun | 22 => 36 | 3 => 3 | 4 => 4 | n => n, fun | n => n⟩
def Tryz.laysNm220_ren : Go.Shelf.Ren := ⟨fun | 20 => 95 | n => n, fun | 22 => 36 | 3 => 3 | 4 => 4 | 0 => 0 | n => n, fun | n => n⟩
theorem Tryz.laysNm220 : Go.Proofs.Lays2.n20 Tryz.prog Tryz.laysNm220_ren := {
  mixed := by kernel_rfl
  f20 := Tryz.func95.trans (congrArg some (by kernel_rfl))
  t0 := Tryz.underlying0
  a0 := Tryz.isAgg0
  z0 := Tryz.sizeOf0
  v0 := Tryz.zeroValue0
  t3 := Tryz.underlying3
  a3 := Tryz.isAgg3
  z3 := Tryz.sizeOf3
  v3 := Tryz.zeroValue3
  t4 := Tryz.underlying4
  a4 := Tryz.isAgg4
  z4 := Tryz.sizeOf4
  v4 := Tryz.zeroValue4
  t22 := Tryz.underlying36
  a22 := Tryz.isAgg36
  z22 := Tryz.sizeOf36
  v22 := Tryz.zeroValue36
  i3 := by kernel_rfl }
open Go.RowKit Go.Lib Go.Sort in
theorem Tryz.slices_Compact_int (blk off cap : Nat) (zs : List Int) (w : World) (hH : Holds (Value.int .i64) w blk off zs.toArray) (hsz : zs.length ≤ 9223372036854775807) (hcap : zs.length ≤ cap) :
    Calls Tryz.prog 95 #[.slice (some ⟨blk, off, none⟩) zs.length cap] w fun e w' => e = .returned (.slice (some ⟨blk, off, none⟩) (Lib.compact zs).length cap) ∧ ∃ q, w' = putRow (Value.int .i64) (Sort.ahead w q) blk off (Lib.compact zs ++ List.replicate (zs.length - (Lib.compact zs).length) 0).toArray := Any.slices_Compact_int Tryz.laysNm220 blk off cap zs w hH hsz hcap
open Go.RowKit Go.Lib Go.Sort in
theorem Tryz.slices_Compact_int_empty (a : Option Addr) (cap : Nat) (w : World) :
    Calls Tryz.prog 95 #[.slice a 0 cap] w fun e w' => e = .returned (.slice a 0 cap) ∧ w' = w := Any.slices_Compact_int_empty Tryz.laysNm220 a cap w
end Go.Proofs
namespace Go.Proofs.YtfgnmflfiobkmaaGreat
open Go.RowKit
section
variable {α : Type}
theorem flatMap_idx {enc : α → List Value} {sz : Nat} (hsz : ∀ x, (enc x).length = sz) {l : List α} {j : Nat} (hj : j < l.length * sz) : ∃ x, l[j / sz]? = some x ∧ (l.flatMap enc)[j]? = (enc x)[j % sz]? := by
  have h0 : 0 < sz := by
    rcases Nat.eq_zero_or_pos sz with h | h
    · subst h; simp at hj
    · exact h
  have hk : j / sz < l.length := Nat.div_lt_of_lt_mul (by rw [Nat.mul_comm]; exact hj)
  refine ⟨l[j / sz], List.getElem?_eq_getElem hk, ?_⟩
  have hm : j % sz < (enc l[j / sz]).length := by rw [hsz]; exact Nat.mod_lt _ h0
  have h1 := flatMap_at hsz l (j / sz) _ (List.getElem?_eq_getElem hk) (j % sz) _ (List.getElem?_eq_getElem hm)
  rw [show j / sz * sz + j % sz = j from by rw [Nat.mul_comm]; exact Nat.div_add_mod j sz] at h1
  rw [h1, List.getElem?_eq_getElem hm]
theorem madeCells_enc {enc : α → List Value} {sz : Nat} (hsz : ∀ x, (enc x).length = sz) {z : Value} {z0 : α} (hz : z.cells.toList = enc z0) (n : Nat) : madeCells z.cells (n * sz) = ((List.replicate n z0).flatMap enc).toArray := by
  have hs : z.cells.size = sz := by rw [← hsz z0, ← hz]; simp
  apply Array.ext'
  apply List.ext_getElem?
  intro j
  by_cases hj : j < n * sz
  · obtain ⟨x, hx, h1⟩ := flatMap_idx hsz (l := List.replicate n z0) (j := j) (by simpa using hj)
    obtain rfl : x = z0 := (List.eq_of_mem_replicate (List.mem_of_getElem? hx))
    have h0 : 0 < sz := by
      rcases Nat.eq_zero_or_pos sz with h | h
      · subst h; simp at hj
      · exact h
    have hm : j % sz < z.cells.size := by rw [hs]; exact Nat.mod_lt _ h0
    rw [List.toList_toArray, h1, ← hz]
    simp only [madeCells, Array.getElem?_toList, Array.getElem?_map, Array.getElem?_range, hj, if_true, Option.map_some, hs]
    rw [getElem!_pos z.cells (j % sz) hm, Array.getElem?_eq_getElem hm]
  · rw [List.getElem?_eq_none (by simp [madeCells]; omega), List.toList_toArray, List.getElem?_eq_none (by rw [length_flatMap_enc hsz]; simp; omega)]
theorem splice_flat {enc : α → List Value} {sz : Nat} (hsz : ∀ x, (enc x).length = sz) : ∀ (l : List α) (k : Nat) (x : α), k < l.length → splice (l.flatMap enc) (k * sz) (enc x) = (l.set k x).flatMap enc
  | [], k, x, h => by simp at h
  | y :: l, 0, x, h => by
    simp only [splice, Nat.zero_mul, List.take_zero, List.nil_append, Nat.zero_add, List.flatMap_cons, List.set_cons_zero]
    rw [hsz, ← hsz y, List.drop_left]
  | y :: l, k + 1, x, h => by
    have ih := splice_flat hsz l k x (by simpa using h)
    unfold splice at ih ⊢
    have h1 : (k + 1) * sz = (enc y).length + k * sz := by rw [hsz, Nat.add_mul]; omega
    rw [h1]
    simp only [List.flatMap_cons, List.set_cons_succ]
    rw [List.take_length_add_append, show (enc y).length + k * sz + (enc x).length = (enc y).length + (k * sz + (enc x).length) from by omega, List.drop_length_add_append, List.append_assoc, List.append_assoc]
    rw [← ih, List.append_assoc]
end
section
variable {α : Type} {P : Program} {a : Act} {w : World} {n : Nat} {e : Env} {ty : TypeId} {pos : String} {af : Array Edge} {g : Option (Nat × Bool)} {d : Option Tmp}
theorem ef_makeSlice {T E sz bytes m : Nat} {x y : Operand} {enc : α → List Value} {z : Value} {z0 : α} (hf : Fr a n e) (hx : ev e x = some (.int .i64 (m : Int))) (hy : ev e y = some (.int .i64 (m : Int))) (hT : SliceT P T E) (hi : InfoT P E sz bytes) (hz : ZeroT P E z) (hz0 : z.cells.toList = enc z0) (hsz : ∀ x, (enc x).length = sz) (hb : bytes * m ≤ 281474976710656) (hm : m ≤ 4611686018427387904) :
    Ef P ⟨d, .makeSlice T x y, ty, pos, af, g⟩ a w (fun v w' => ∃ b, v = .slice (some ⟨b, 0, none⟩) m m ∧ w.heap.size ≤ b ∧ Below w.heap.size w w' ∧ Blk w' b E ((List.replicate m z0).flatMap enc)) := by
  obtain ⟨i, z1, hi1, hi2, hi3, hi4, hi5, hi6⟩ := hi
  obtain ⟨i', hi1', hz1⟩ := hz
  rw [hi1] at hi1'
  injection hi1' with hi1'
  subst hi1'
  rw [hi2] at hz1
  injection hz1 with hz1
  subst hz1
  have hb' : (i.bytes : Int) * (m : Int) ≤ 281474976710656 := by
    have h : ((i.bytes * m : Nat) : Int) ≤ 281474976710656 := by rw [hi4]; omega
    rwa [Int.natCast_mul] at h
  have hr := run_make (P := P) w T E i z1 hT hi1 hi2 .i64 .i64 m m (by omega) (Int.le_refl _) hb' (by omega)
  refine (Ef.of_run (v := .slice (some ⟨w.heap.size, 0, none⟩) m m) (w' := w.alloc (.cells ((List.replicate m z0).flatMap enc).toArray E)) ?_).mono fun v w' ⟨e1, e2⟩ => ?_
  · rw [hi3, Int.toNat_natCast, madeCells_enc hsz hz0] at hr
    simp [execOp, hf.ev hx, hf.ev hy, hr]
  · subst e1; subst e2
    exact ⟨_, rfl, Nat.le_refl _, (Below.refl _ _).alloc (Nat.le_refl _) _, blk_alloc w E _⟩
theorem ev_indexB {T E sz b m c k off : Nat} {x y : Operand} {i : Int} (hf : Fr a n e) (hx : ev e x = some (.slice (some ⟨b, 0, none⟩) m c)) (hy : ev e y = some (.int .i64 i)) (hT : SliceT P T E) (hs : SizeT P E sz) (hi : i = (k : Int)) (hk : k < m) (ho : k * sz = off) :
    Ev P ⟨d, .indexAddr T x y, ty, pos, af, g⟩ a w (.pointer (some ⟨b, off, none⟩)) := by
  have h := ev_index (P := P) (w := w) (d := d) (ty := ty) (pos := pos) (af := af) (g := g) hf hx hy hT hs hi hk
  rwa [addr_off, Nat.zero_add, ho] at h
theorem ef_storeF {t T b k sz : Nat} {x y : Operand} {v : Value} {enc : α → List Value} {l : List α} {u : α} (hf : Fr a n e) (hx : ev e x = some (.pointer (some ⟨b, k * sz, none⟩))) (hy : ev e y = some v) (hs : SizeT P t sz) (hb : Blk w b T (l.flatMap enc)) (hsz : ∀ x, (enc x).length = sz) (hone : ∀ x, (enc x).all one = true) (hv : v.cells.toList = enc u) (hk : k < l.length) :
    Ef P ⟨d, .store t x y, ty, pos, af, g⟩ a w (Stored w b T ((l.set k u).flatMap enc)) := by
  have hl : k * sz + sz ≤ (l.flatMap enc).length := by
    rw [length_flatMap_enc hsz]
    have := Nat.mul_le_mul_right sz (show k + 1 ≤ l.length by omega)
    rwa [Nat.add_mul, Nat.one_mul] at this
  exact ef_store (vs := enc u) hf hx hy hs hb hv (by rw [hsz]; simp) (hone u) (by rw [Nat.ble_eq]; exact hl) (splice_flat hsz l k u hk)
theorem ev_sliceTo {T E sz m c k : Nat} {x y : Operand} {A : Option Addr} {i : Int} (hf : Fr a n e) (hx : ev e x = some (.slice A m c)) (hy : ev e y = some (.int .i64 i)) (hT : SliceT P T E) (hs : SizeT P E sz) (hi : i = (k : Int)) (hk : k ≤ c) :
    Ev P ⟨d, .slice T x none (some y) none, ty, pos, af, g⟩ a w (.slice A k c) := fun w' _ => by
  subst hi
  have h0 : ∀ p : Addr, p.add 0 = p := fun p => by simp [Addr.add]
  simp [execOp, Instr.sliceAt, Instr.slice, Instr.sliceBounds, run_sliceBound, run_under hT, run_sizeOf' hs, hf.ev hx, hf.ev hy, hk, h0]
theorem ev_sliceFrom {T E sz m c k : Nat} {x y : Operand} {A : Option Addr} {i : Int} (hf : Fr a n e) (hx : ev e x = some (.slice A m c)) (hy : ev e y = some (.int .i64 i)) (hT : SliceT P T E) (hs : SizeT P E sz) (hi : i = (k : Int)) (hk : k ≤ m) :
    Ev P ⟨d, .slice T x (some y) none none, ty, pos, af, g⟩ a w (.slice (if c = k then A else A.map (·.add (k * sz))) (m - k) (c - k)) := fun w' _ => by
  subst hi
  simp [execOp, Instr.sliceAt, Instr.slice, Instr.sliceBounds, run_sliceBound, run_under hT, run_sizeOf' hs, hf.ev hx, hf.ev hy, hk]
end
section
variable {α : Type} {w : World} {B B0 : Nat} {E : TypeId} {sz : Nat} {enc : α → List Value} {A : Option Addr} {c : Nat} {l : List α}
theorem flatMap_take (hsz : ∀ x, (enc x).length = sz) (k : Nat) : (l.take k).flatMap enc = (l.flatMap enc).take (k * sz) := by
  conv => rhs; rw [← List.take_append_drop k l]
  rw [List.flatMap_append]
  by_cases hk : k ≤ l.length
  · have : ((l.take k).flatMap enc).length = k * sz := by rw [length_flatMap_enc hsz, List.length_take, Nat.min_eq_left hk]
    rw [← this, List.take_left]
  · rw [List.take_of_length_le (by omega), List.drop_of_length_le (by omega)]
    simp only [List.flatMap_nil, List.append_nil]
    rw [List.take_of_length_le (by rw [length_flatMap_enc hsz]; exact Nat.mul_le_mul_right _ (by omega))]
theorem flatMap_drop (hsz : ∀ x, (enc x).length = sz) (k : Nat) : (l.drop k).flatMap enc = (l.flatMap enc).drop (k * sz) := by
  conv => rhs; rw [← List.take_append_drop k l]
  rw [List.flatMap_append]
  by_cases hk : k ≤ l.length
  · have : ((l.take k).flatMap enc).length = k * sz := by rw [length_flatMap_enc hsz, List.length_take, Nat.min_eq_left hk]
    rw [← this, List.drop_left]
  · have h1 : l.drop k = [] := List.drop_of_length_le (by omega)
    rw [h1, List.flatMap_nil, List.append_nil, List.drop_of_length_le (by rw [length_flatMap_enc hsz, List.length_take]; exact Nat.mul_le_mul_right _ (by omega))]
theorem Rd.takeK (hsz : ∀ x, (enc x).length = sz) (h : Rd w B E enc A l) (k : Nat) : Rd w B E enc A (l.take k) := fun hl => by
  have hl' : l ≠ [] := by rintro rfl; simp at hl
  obtain ⟨b, off, cs, fz, h1, h2, h3, h4⟩ := h hl'
  refine ⟨b, off, cs, fz, h1, h2, h3, fun j v hj => h4 j v ?_⟩
  rw [flatMap_take hsz, List.getElem?_take] at hj
  split at hj
  · exact hj
  · cases hj
theorem Rd.dropK (hsz : ∀ x, (enc x).length = sz) (h : Rd w B E enc A l) (hc : l.length ≤ c) (k : Nat) : Rd w B E enc (if c = k then A else A.map (·.add (k * sz))) (l.drop k) := fun hl => by
  have hk : k < l.length := by
    rcases Nat.lt_or_ge k l.length with h' | h'
    · exact h'
    · exact absurd (List.drop_of_length_le h') hl
  have hl' : l ≠ [] := by rintro rfl; simp at hk
  obtain ⟨b, off, cs, fz, h1, h2, h3, h4⟩ := h hl'
  rw [if_neg (by omega), h1]
  refine ⟨b, off + k * sz, cs, fz, by rw [Option.map_some, addr_off], h2, h3, fun j v hj => ?_⟩
  rw [flatMap_drop hsz, List.getElem?_drop] at hj
  rw [Nat.add_assoc]
  exact h4 _ v hj
theorem ev_takeL {P : Program} {a : Act} {n : Nat} {e : Env} {ty : TypeId} {pos : String} {af : Array Edge} {g : Option (Nat × Bool)} {d : Option Tmp} {T k : Nat} {x y : Operand} {i : Int} (hf : Fr a n e) (hx : ev e x = some (.slice A l.length c)) (hy : ev e y = some (.int .i64 i)) (hT : SliceT P T E) (hs : SizeT P E sz) (hi : i = (k : Int)) (hk : k ≤ l.length) (hc : l.length ≤ c) :
    Ev P ⟨d, .slice T x none (some y) none, ty, pos, af, g⟩ a w (.slice A (l.take k).length c) := by
  rw [List.length_take, Nat.min_eq_left hk]
  exact ev_sliceTo hf hx hy hT hs hi (by omega)
theorem ev_dropL {P : Program} {a : Act} {n : Nat} {e : Env} {ty : TypeId} {pos : String} {af : Array Edge} {g : Option (Nat × Bool)} {d : Option Tmp} {T k : Nat} {x y : Operand} {i : Int} (hf : Fr a n e) (hx : ev e x = some (.slice A l.length c)) (hy : ev e y = some (.int .i64 i)) (hT : SliceT P T E) (hs : SizeT P E sz) (hi : i = (k : Int)) (hk : k ≤ l.length) :
    Ev P ⟨d, .slice T x (some y) none none, ty, pos, af, g⟩ a w (.slice (if c = k then A else A.map (·.add (k * sz))) (l.drop k).length (c - k)) := by
  rw [List.length_drop]
  exact ev_sliceFrom hf hx hy hT hs hi hk
theorem take_le (hc : l.length ≤ c) (k : Nat) : (l.take k).length ≤ c := Nat.le_trans (List.length_take_le' _ _) hc
theorem ev_cutL {P : Program} {a : Act} {n : Nat} {e : Env} {ty : TypeId} {pos : String} {af : Array Edge} {g : Option (Nat × Bool)} {d : Option Tmp} {T k m : Nat} {x y z : Operand} {i j : Int} (hf : Fr a n e) (hx : ev e x = some (.slice A l.length c)) (hy : ev e y = some (.int .i64 i)) (hz : ev e z = some (.int .i64 j)) (hT : SliceT P T E) (hs : SizeT P E sz) (hi : i = (k : Int)) (hj : j = (m : Int)) (hk : k ≤ m) (hm : m ≤ l.length) (hc : l.length ≤ c) :
    Ev P ⟨d, .slice T x (some y) (some z) none, ty, pos, af, g⟩ a w (.slice (if c = k then A else A.map (·.add (k * sz))) ((l.take m).drop k).length (c - k)) := fun w' _ => by
  subst hi; subst hj
  have h1 : m ≤ c := by omega
  have h2 : ((l.take m).drop k).length = m - k := by rw [List.length_drop, List.length_take, Nat.min_eq_left hm]
  rw [h2]
  simp [execOp, Instr.sliceAt, Instr.slice, Instr.sliceBounds, run_sliceBound, run_under hT, run_sizeOf' hs, hf.ev hx, hf.ev hy, hf.ev hz, hk, h1]
theorem Own.cap (h : Own w B0 E sz enc A c l) : l.length ≤ c := by
  rcases h.2 with ⟨h1, h2⟩ | ⟨g, cap, cur, h1, h2, h3, h4, h5, h6⟩
  · omega
  · injection h1 with _ _ h1
    omega
theorem Own.of_flat (hsz : ∀ x, (enc x).length = sz) {b m : Nat} (h : Blk w b E (l.flatMap enc)) (hb : B0 ≤ b) (hl : l.length = m) (hk : m ≤ maxLen) : Own w B0 E sz enc (some ⟨b, 0, none⟩) m l := Own.of_blkL hsz h hb rfl hl hk
end
theorem Kept.app {α : Type} {b B B0 : Nat} {w0 w w' : World} {E : TypeId} {sz : Nat} {enc : α → List Value} {A : Option Addr} {c : Nat} {l : List α} (h : Kept b B w0 w) (ho : Own w B0 E sz enc A c l) (hg : w.grownBy w' (Value.slice A l.length c).ownBlock) (hB : B ≤ B0) (hs : B ≤ w.heap.size) : Kept b B w0 w' :=
  ⟨hg.os.trans h.os, hg.tape.trans h.tape, hg.output.trans h.output, Nat.le_trans h.size hg.size, fun k hk hne => (hg.block k (by omega) fun hk' => by have := (ho.block hk'.symm).1; omega).trans (h.block k hk hne)⟩
theorem ef_append0 {α : Type} {P : Program} {a : Act} {w : World} {n : Nat} {e : Env} {ty : TypeId} {pos : String} {af : Array Edge} {g : Option (Nat × Bool)} {d : Option Tmp} {T E : TypeId} {sz bytes B b0 : Nat} {x y : Operand} {enc : α → List Value} {A2 : Option Addr} {c2 : Nat} {l2 : List α} (hf : Fr a n e) (hx : ev e x = some (.slice (some ⟨b0, 0, none⟩) 0 0)) (hy : ev e y = some (.slice A2 l2.length c2))
    (hT : SliceT P T E) (hi : InfoT P E sz bytes) (hsz : ∀ x, (enc x).length = sz) (hone : ∀ x, (enc x).all one = true) (hb : Blk w b0 E []) (hr : Rd w B E enc A2 l2) (h63 : l2.length ≤ maxLen) (hbytes : l2.length * bytes ≤ 140737488355328) :
    Ef P ⟨d, .call ⟨.builtin .append, #[x, y], #[T, T]⟩, ty, pos, af, g⟩ a w (fun v w' => ∃ A' c', v = .slice A' l2.length c' ∧ Own w' b0 E sz enc A' c' l2 ∧ Below w.heap.size w w') := by
  by_cases hl2 : l2 = []
  · subst hl2
    obtain ⟨i, z, hi1, hi2, hi3, hi4, hi5, hi6⟩ := hi
    have hrun : (Builtin.append_ #[T, T] ty #[.slice (some ⟨b0, 0, none⟩) 0 0, .slice A2 0 c2]).run P w = .ok (.slice (some ⟨b0, 0, none⟩) 0 0) w := by
      cases A2 <;> simp [Builtin.append_, run_under hT, sizeOf, typeInfo, hi1, Builtin.lenOf, Builtin.firstCells, loadCells, loadCellsFrom, storeCells]
    refine (Ef.of_run (v := .slice (some ⟨b0, 0, none⟩) 0 0) (w' := w) ?_).mono fun v w' ⟨e1, e2⟩ => ?_
    · simp only [List.length_nil] at hy
      simp [execOp, resolve, invoke, builtin, hf.ev hx, hf.ev hy, hrun]
    · subst e1; subst e2
      exact ⟨_, _, rfl, Own.empty hb (Nat.le_refl _), Below.refl _ _⟩
  · have hown : Own w b0 E sz enc (some ⟨b0, 0, none⟩) 0 ([] : List α) := Own.empty hb (Nat.le_refl _)
    obtain ⟨i, z, hi1, hi2, rfl, rfl, hi5, hi6⟩ := hi
    obtain ⟨b, off, cs, fz, rfl, h2, h3, h4⟩ := hr hl2
    have hlen2 := length_flatMap_enc hsz l2
    have hpos : 0 < l2.length := List.length_pos_iff.2 hl2
    have h := run_append_grow (P := P) w T ty E i z hT hi1 hi2 ⟨b0, 0, none⟩ 0 0 [] (by simp) (fun j u hu => by simp at hu)
      ⟨b, off, none⟩ l2.length c2 (l2.flatMap enc) hlen2 (fun j u hu => by
        have := h4 j u hu
        rw [addr_off]
        simp [World.cell?, h3, this])
      (by omega) (by simp only [maxLen] at h63; omega) (growslice_fits (by omega) (by simpa using hbytes))
    simp only [Nat.zero_add] at h
    refine (Ef.of_run (w' := w.drew.alloc (.cells (([] : List Value).toArray ++ (l2.flatMap enc).toArray ++ Builtin.zeroCells z.cells (grownCap w l2.length 0 E - l2.length)) E)) (v := .slice (some ⟨w.heap.size, 0, none⟩) l2.length (grownCap w l2.length 0 E)) ?_).mono fun v w' ⟨e1, e2⟩ => ?_
    · simp [execOp, resolve, invoke, builtin, hf.ev hx, hf.ev hy, h]
    · subst e1; subst e2
      have hb0 := hb.lt
      have hge := grownCap_ge w l2.length 0 E
      refine ⟨_, _, rfl, ?_, ((Below.refl _ _).drew).alloc (Nat.le_refl _) _⟩
      refine ⟨length_flatMap_enc hsz _, .inr ⟨w.heap.size, _, _, rfl, by omega, heap_alloc_new w.drew _, hge, grownCap_le_maxLen w _ _ E h63, ?_, ?_⟩⟩
      · simp only [Array.size_append, List.size_toArray, size_zeroCells, hi5, hlen2, List.length_nil, Nat.zero_add, ← Nat.add_mul]
        congr 1
        omega
      · rw [← hlen2]
        simp only [Array.toList_append, List.append_assoc, List.nil_append]
        exact List.take_left
end Go.Proofs.YtfgnmflfiobkmaaGreat
namespace Go.Proofs.YtfgnmflfiobkmaaGreat
open Go.RowKit Go.Sort
theorem putWorld_heap {w : World} {g n : Nat} {os : Array Obj} {cur : Array Value} {e : TypeId} {fr : Nat × Nat} (d : Array Int) (hb : w.heap[g]? = some (.cells cur e fr)) :
    (grow (putRow (Value.int .i64) (Sort.ahead w n) g 0 d) os).heap[g]? = some (.cells (putCells (Value.int .i64) 0 d cur) e fr) := by
  have hg : g < w.heap.size := (Array.getElem?_eq_some_iff.1 hb).1
  rw [heap_grow_old _ _ (by simpa using hg)]
  simp [putRow, mapBlock, Sort.ahead, Array.getElem?_modify, hb, onCells]
theorem putWorld_grown {w : World} {g n : Nat} {os : Array Obj} (d : Array Int) : w.grownBy (grow (putRow (Value.int .i64) (Sort.ahead w n) g 0 d) os) (some g) := by
  refine ⟨rfl, rfl, rfl, by simp, fun k hk hne => ?_⟩
  rw [heap_grow_old _ _ (by simpa using hk)]
  have : g ≠ k := fun e => hne (by rw [e])
  simp [putRow, mapBlock, Sort.ahead, Array.getElem?_modify, this]
theorem flat_encI (l : List Int) : l.flatMap encI = l.map (Value.int .i64) := by
  induction l with
  | nil => rfl
  | cons x l ih => simp only [List.flatMap_cons, List.map_cons, ih]; rfl
theorem take_put (cur : Array Value) (d ts : List Int) (h : d.length ≤ cur.size) (ht : d.take ts.length = ts) : (putCells (Value.int .i64) 0 d.toArray cur).toList.take (ts.length * 1) = ts.flatMap encI := by
  have hl : ts.length ≤ d.length := by
    have := congrArg List.length ht
    rw [List.length_take] at this
    omega
  rw [flat_encI, Nat.mul_one]
  apply List.ext_getElem?
  intro j
  by_cases hj : j < ts.length
  · rw [List.getElem?_take_of_lt hj, Array.getElem?_toList]
    have h1 : ts[j]? = d[j]? := by
      conv => lhs; rw [← ht]
      rw [List.getElem?_take_of_lt hj]
    have h2 : j < d.length := by omega
    rw [List.getElem?_map, h1]
    simp [putCells, h2, show j < cur.size by omega]
  · rw [List.getElem?_take_eq_none (by omega), List.getElem?_eq_none (by simp; omega)]
theorem holds_own {w : World} {g : Nat} {cur : Array Value} {e : TypeId} {l : List Int} (hb : w.heap[g]? = some (.cells cur e (0, 0))) (ht : cur.toList.take (l.length * 1) = l.flatMap encI) : Holds (Value.int .i64) w g 0 l.toArray := by
  intro j hj
  have hj' : j < l.length := by simpa using hj
  refine ⟨?_, by simp [World.frozen?, hb]⟩
  rw [flat_encI, Nat.mul_one] at ht
  have h1 : (cur.toList.take l.length)[j]? = (l.map (Value.int .i64))[j]? := by rw [ht]
  rw [List.getElem?_take_of_lt hj'] at h1
  simp only [World.cell?, hb, Nat.zero_add]
  simp only [Option.isSome_none, Bool.false_eq_true, if_false]
  rw [← Array.getElem?_toList, h1]
  simp [hj']
def sortI (l : List Int) : List Int := l.mergeSort fun x y => decide (x ≤ y)
theorem F94 (w0 : World) (B0 : Nat) (A : Option Addr) (c : Nat) (l : List Int) (ho : Own w0 B0 3 1 encI A c l) (hl : l.length ≤ 1000000000) :
    Ret Tryz.prog 94 [.slice A l.length c] w0 (fun _ w => Own w B0 3 1 encI A c (sortI l) ∧ w0.grownBy w (Value.slice A l.length c).ownBlock) := by
  by_cases h0 : l = []
  · subst h0
    refine Calls.mono (Any.slices_Sort_int_none Tryz.lays189 A c w0) fun e w ⟨e1, e2⟩ => ⟨_, e1, ?_⟩
    subst e2
    exact ⟨by simpa [sortI] using ho, World.grownBy.refl w _⟩
  · rcases ho.2 with ⟨h1, h2⟩ | ⟨g, cap, cur, h1, h2, h3, h4, h5, h6, h7⟩
    · exact absurd (List.eq_nil_of_length_eq_zero h2) h0
    · injection h1 with h1 _ h1''
      subst h1; subst h1''
      have hs : (sortI l).length = l.length := by simp [sortI]
      refine Calls.mono (Tryz.slices_Sort_int g 0 c l w0 (holds_own h3 h7) (Array.getElem?_eq_some_iff.1 h3).1 (by omega)) fun e w ⟨e1, n, os, e2⟩ => ⟨_, e1, ?_⟩
      subst e2
      refine ⟨⟨length_flatMap_enc encI_len _, .inr ⟨g, c, _, by rw [hs], h2, putWorld_heap _ h3, by omega, h5, by simp [putCells, h6], ?_⟩⟩, ?_⟩
      · exact take_put cur (sortI l) (sortI l) (by omega) List.take_length
      · exact putWorld_grown _
theorem compact_len (l : List Int) : (Lib.compact l).length ≤ l.length := by
  unfold Lib.compact Lib.compactUpTo
  rw [List.length_map]
  exact Nat.le_trans (List.length_filter_le _ _) (by simp)
theorem F95 (w0 : World) (B0 : Nat) (A : Option Addr) (c : Nat) (l : List Int) (ho : Own w0 B0 3 1 encI A c l) (hl : l.length ≤ 1000000000) :
    Ret Tryz.prog 95 [.slice A l.length c] w0 (fun v w => v = .slice A (Lib.compact l).length c ∧ Own w B0 3 1 encI A c (Lib.compact l) ∧ w0.grownBy w (Value.slice A l.length c).ownBlock) := by
  by_cases h0 : l = []
  · subst h0
    refine Calls.mono (Tryz.slices_Compact_int_empty A c w0) fun e w ⟨e1, e2⟩ => ⟨_, e1, ?_⟩
    subst e2
    exact ⟨rfl, ho, World.grownBy.refl w _⟩
  · rcases ho.2 with ⟨h1, h2⟩ | ⟨g, cap, cur, h1, h2, h3, h4, h5, h6, h7⟩
    · exact absurd (List.eq_nil_of_length_eq_zero h2) h0
    · injection h1 with h1 _ h1''
      subst h1; subst h1''
      have hc := compact_len l
      refine Calls.mono (Tryz.slices_Compact_int g 0 c l w0 (holds_own h3 h7) (by omega) h4) fun e w ⟨e1, q, e2⟩ => ⟨_, e1, rfl, ?_⟩
      have e3 : w = grow (putRow (Value.int .i64) (Sort.ahead w0 q) g 0 (Lib.compact l ++ List.replicate (l.length - (Lib.compact l).length) 0).toArray) #[] := by rw [grow_empty]; exact e2
      subst e3
      refine ⟨⟨length_flatMap_enc encI_len _, .inr ⟨g, c, _, rfl, h2, putWorld_heap _ h3, by omega, h5, by simp [putCells, h6], ?_⟩⟩, ?_⟩
      · exact take_put cur _ (Lib.compact l) (by simp; omega) List.take_left
      · exact putWorld_grown _
theorem F95m (w0 : World) (B0 : Nat) (A : Option Addr) (c : Nat) (l : List Int) (m : Nat) (hm : m = l.length) (ho : Own w0 B0 3 1 encI A c l) (hl : l.length ≤ 1000000000) :
    Ret Tryz.prog 95 [.slice A m c] w0 (fun v w => v = .slice A (Lib.compact l).length c ∧ Own w B0 3 1 encI A c (Lib.compact l) ∧ w0.grownBy w (Value.slice A l.length c).ownBlock) := by
  subst hm
  exact F95 w0 B0 A c l ho hl
def growRen : Go.Shelf.Ren := ⟨fun | 4 => 133 | n => n, fun | 22 => 36 | 25 => 3 | n => n, fun | n => n⟩
theorem growLay : Lays8.n4 Tryz.prog growRen := {
  mixed := by kernel_rfl
  f4 := ⟨Tryz.f133.name, by decide, Tryz.func133.trans (congrArg some (by kernel_rfl))⟩
  t0 := Tryz.underlying0
  a0 := Tryz.isAgg0
  z0 := Tryz.sizeOf0
  v0 := Tryz.zeroValue0
  t3 := Tryz.underlying3
  a3 := Tryz.isAgg3
  z3 := Tryz.sizeOf3
  v3 := Tryz.zeroValue3
  t4 := Tryz.underlying4
  a4 := Tryz.isAgg4
  z4 := Tryz.sizeOf4
  v4 := Tryz.zeroValue4
  t9 := Tryz.underlying9
  a9 := Tryz.isAgg9
  z9 := Tryz.sizeOf9
  v9 := Tryz.zeroValue9
  t20 := Tryz.underlying20
  a20 := Tryz.isAgg20
  z20 := Tryz.sizeOf20
  v20 := Tryz.zeroValue20
  t22 := Tryz.underlying36
  a22 := Tryz.isAgg36
  z22 := Tryz.sizeOf36
  v22 := Tryz.zeroValue36 }
theorem F133 (w0 : World) (n : Nat) (hn : n ≤ 1000000000) : Ret Tryz.prog 133 [.slice none 0 0, .int .i64 (n : Int)] w0 (fun v w => ∃ A c, v = .slice A 0 c ∧ Own w w0.heap.size 3 1 encI A c ([] : List Int) ∧ Below w0.heap.size w0 w) := by
  by_cases h0 : n = 0
  · subst h0
    refine Calls.mono (Any8.slices_Grow_room growLay none 0 0 0 w0 (by omega) (by omega) (by omega) (by omega)) fun e w ⟨e1, e2⟩ => ⟨_, e1, none, 0, rfl, ?_⟩
    subst e2
    exact ⟨Own.nil _ _ _ _ _, Below.refl _ _⟩
  · obtain ⟨i, z, hi1, hi2, hi3, hi4, hi5, hi6⟩ := inf_3
    refine Calls.mono (Any8.slices_Grow_grow growLay i z hi1 hi2 (by omega) none 0 0 n [] w0 (by omega) (by omega) (by rw [hi4]; omega) (by omega) (by simp) (fun _ => rfl) (fun a h => by cases h)) fun e w ⟨e1, e2⟩ => ⟨_, e1, _, _, rfl, ?_⟩
    subst e2
    have hge := grownCap_ge w0 (0 + n) 0 (growRen.t 25)
    refine ⟨⟨rfl, .inr ⟨w0.heap.size, _, _, rfl, Nat.le_refl _, heap_alloc_new w0.drew _, Nat.zero_le _, grownCap_le_maxLen w0 _ _ _ (by simp only [maxLen]; omega), ?_, by simp⟩⟩, ((Below.refl _ _).drew).alloc (Nat.le_refl _) _⟩
    simp only [Array.size_append, List.size_toArray, size_zeroCells, hi5, List.length_nil, Nat.zero_add, Nat.mul_one] at hge ⊢
    omega
end Go.Proofs.YtfgnmflfiobkmaaGreat
namespace Go.Proofs.YtfgnmflfiobkmaaGreat
open Go.RowKit
structure Sl where (A : Option Addr) (c : Nat) (l : List Int)
def encS (s : Sl) : List Value := [.slice s.A s.l.length s.c]
theorem encS_len : ∀ x, (encS x).length = 1 := fun _ => rfl
structure Rp where (pos : Int) (old new : List Gt)
theorem flat_step {α β : Type} {f : α → List β} {l : List α} {k : Nat} {u : α} (h : l[k]? = some u) : (l.take (k + 1)).flatMap f = (l.take k).flatMap f ++ f u := by
  rw [List.take_add_one, h]
  simp
theorem flat_le {α β : Type} (f : α → List β) (l : List α) (k : Nat) : ((l.take k).flatMap f).length ≤ (l.flatMap f).length := by
  conv => rhs; rw [← List.take_append_drop k l]
  rw [List.flatMap_append, List.length_append]
  omega
theorem flat_full {α β : Type} (f : α → List β) {l : List α} {k : Nat} (h : l.length ≤ k) : (l.take k).flatMap f = l.flatMap f := by rw [List.take_of_length_le h]
def unionI (p q : List Int) : List Int := Lib.compact (sortI (p ++ (q ++ [])))
def qubI (g : Gt) : List Int := if g.k = 12 then [] else if inR g.k 9 11 = true then [g.a, g.b] else [g.a]
def usedI (l : List Gt) : List Int := unionI (l.flatMap qubI) []
theorem qubI_len (g : Gt) : (qubI g).length ≤ 2 := by unfold qubI; split <;> (try split) <;> simp
theorem union_len (p q : List Int) : (unionI p q).length ≤ p.length + q.length := by
  unfold unionI
  refine Nat.le_trans (compact_len _) ?_
  simp [sortI]
theorem flat_qub (l : List Gt) : (l.flatMap qubI).length ≤ 2 * l.length := by
  induction l with
  | nil => simp
  | cons g l ih => have := qubI_len g; simp only [List.flatMap_cons, List.length_append, List.length_cons]; omega
theorem used_len (l : List Gt) : (usedI l).length ≤ 2 * l.length := by
  have h1 := union_len (l.flatMap qubI) []
  have h2 := flat_qub l
  unfold usedI
  simp only [List.length_nil] at h1
  omega
def setAll : List Int → Nat → List Int → List Int
  | [], _, to => to
  | q :: l, i, to => setAll l (i + 1) (to.set q.toNat (i : Int))
def numbI (l : List Int) : List Int := setAll l 0 [0, 0, 0, 0, 0]
theorem setAll_len : ∀ (l : List Int) (i : Nat) (to : List Int), (setAll l i to).length = to.length
  | [], _, _ => rfl
  | _ :: l, i, to => by rw [setAll, setAll_len l]; simp
theorem setAll_snoc : ∀ (l : List Int) (q : Int) (i : Nat) (to : List Int), setAll (l ++ [q]) i to = (setAll l i to).set q.toNat ((i + l.length : Nat) : Int)
  | [], q, i, to => by simp [setAll]
  | x :: l, q, i, to => by
    rw [List.cons_append, setAll, setAll, setAll_snoc l]
    congr 2
    simp only [List.length_cons]
    omega
theorem numb_step {l : List Int} {k : Nat} {u : Int} (h : l[k]? = some u) : numbI (l.take (k + 1)) = (numbI (l.take k)).set u.toNat (k : Int) := by
  have hk := (List.getElem?_eq_some_iff.1 h).1
  unfold numbI
  rw [List.take_add_one, h, Option.toList_some, setAll_snoc, List.length_take, Nat.min_eq_left (by omega), Nat.zero_add]
theorem numb_len (l : List Int) : (numbI l).length = 5 := by rw [numbI, setAll_len]; rfl
def mapG (to : List Int) (g : Gt) : Gt := ⟨g.k, if g.k = 12 then g.a else to.getD g.a.toNat 0, if inR g.k 9 11 = true then to.getD g.b.toNat 0 else g.b⟩
def mapI (l : List Gt) (to : List Int) : List Gt := l.map (mapG to)
theorem map_step {α β : Type} {f : α → β} {l : List α} {k : Nat} {u : α} (h : l[k]? = some u) : (l.take (k + 1)).map f = (l.take k).map f ++ [f u] := by
  rw [List.take_add_one, h]
  simp
theorem getD_get {l : List Int} {k : Nat} (h : k < l.length) : l[k]? = some (l.getD k 0) := by
  rw [List.getD_eq_getElem?_getD, List.getElem?_eq_getElem h]; rfl
def vrI (n : Int) (r : Rp) : Bool := inR n 1 5 && inR r.pos 0 400 && decide ((r.old.length : Int) ≤ 40) && decide ((r.new.length : Int) ≤ 40) && !(r.old.any fun x => !gOk n x) && !(r.new.any fun x => !gOk n x)
end Go.Proofs.YtfgnmflfiobkmaaGreat
namespace Go.Proofs.YtfgnmflfiobkmaaGreat
open Go.RowKit
theorem dOk_iff {x : Dy} : dOk x = true ↔ rOk x.num = true ∧ (0 ≤ x.exp ∧ x.exp ≤ 60) ∧ (x.exp = 0 ∨ rEven x.num = false) := by
  simp only [dOk, Bool.and_eq_true, inR_iff, Bool.or_eq_true, beq_iff_eq, Bool.not_eq_true', and_assoc]
theorem dLow_ok : ∀ (m : Nat) (x : Rg), rOk x = true → m ≤ 60 → dOk (dLow x m) = true
  | 0, x, h, _ => by
    rw [dLow_stop (by omega)]
    exact dOk_iff.2 ⟨h, by simp, .inl rfl⟩
  | m + 1, x, h, hm => by
    by_cases he : rEven x = true
    · rw [dLow_step (by omega) he, show ((m + 1 : Nat) : Int) - 1 = (m : Int) from by omega]
      exact dLow_ok m _ (rHalf_ok h) (by omega)
    · have he' : rEven x = false := by simpa using he
      rw [dLow_stop fun _ => he']
      exact dOk_iff.2 ⟨h, by dsimp only; omega, .inr he'⟩
theorem dLow_okI {x : Rg} {e : Int} (h : rOk x = true) (h0 : 0 ≤ e) (h1 : e ≤ 60) : dOk (dLow x e) = true := by
  obtain ⟨m, rfl⟩ : ∃ m : Nat, e = m := ⟨e.toNat, by omega⟩
  exact dLow_ok m x h (by omega)
def Agree (o : Option Dy) (p : Bool × Dy) : Prop := (∀ z, o = some z → p = (false, z) ∧ dOk z = true) ∧ (o = none → p.1 = true)
theorem rIf2_one {x y z : Rg} (hx : rOk x = true) (hy : rOk y = true) : rIf2 z [x, y] = rOk z := by simp [rIf2, hx, hy]
theorem rIf2_self {x z : Rg} (hx : rOk x = true) : rIf2 z [x] = rOk z := by simp [rIf2, hx]
theorem agree_mul {x y : Dy} (hx : dOk x = true) (hy : dOk y = true) : Agree (dMulI x y) (sMul false x y) := by
  have kx := dOk_iff.1 hx
  have ky := dOk_iff.1 hy
  unfold dMulI sMul
  rw [hx, hy, rIf2_one kx.1 ky.1, rIf1, rIf2_one kx.1 ky.1, Bool.true_and, Bool.true_and]
  by_cases hr : rOk (rMul x.num y.num) = true
  · rw [if_pos hr, if_pos hr]
    unfold dOf
    rw [hr, Bool.true_and]
    by_cases he : 60 < x.exp + y.exp
    · have h1 : ¬ inR (x.exp + y.exp) 0 60 = true := fun h => by have := inR_iff.1 h; omega
      rw [if_neg h1, if_pos he]
      exact ⟨fun z h => (by cases h), fun _ => rfl⟩
    · have h1 : inR (x.exp + y.exp) 0 60 = true := inR_iff.2 (by omega)
      rw [if_pos h1, if_neg he, sRing, if_pos hr]
      exact ⟨fun z h => (by injection h with h; subst h; exact ⟨rfl, dLow_okI hr (by omega) (by omega)⟩), fun h => by cases h⟩
  · have hr' : rOk (rMul x.num y.num) = false := by simpa using hr
    rw [if_neg hr]
    refine ⟨fun z h => (by cases h), fun _ => ?_⟩
    by_cases he : 60 < x.exp + y.exp
    · rw [if_pos he]
    · rw [if_neg he, hr']; rfl
theorem sRaise_exp : ∀ (n : Nat) (f : Bool) (x : Dy), (sRaiseN n f x).2.exp = x.exp + n
  | 0, f, x => by simp [sRaiseN]
  | n + 1, f, x => by rw [sRaiseN, sRaise_exp n]; dsimp only; omega
theorem sRaise_bad : ∀ (n : Nat) (x : Dy), (sRaiseN n true x).1 = true
  | 0, x => rfl
  | n + 1, x => by rw [sRaiseN]; exact sRaise_bad n _
theorem sRaise_good : ∀ (n : Nat) (x : Dy), rOk x.num = true → (raiseI n x.num).2 = true → sRaiseN n false x = (false, ⟨(raiseI n x.num).1, x.exp + n⟩) ∧ rOk (raiseI n x.num).1 = true
  | 0, x, h, _ => ⟨by simp [sRaiseN, raiseI], h⟩
  | n + 1, x, h, hr => by
    unfold raiseI at hr ⊢
    rw [rIf2_self h] at hr ⊢
    by_cases h1 : rOk (rRoot x.num) = true
    · rw [if_pos h1] at hr ⊢
      rw [sRaiseN, h1, sRing, if_pos h1]
      have := sRaise_good n ⟨rRoot x.num, x.exp + 1⟩ h1 hr
      refine ⟨?_, this.2⟩
      simp only [Bool.not_true, Bool.or_false]
      rw [this.1]
      dsimp only
      congr 2
      omega
    · rw [if_neg h1] at hr
      cases hr
theorem sRaise_none : ∀ (n : Nat) (x : Dy), rOk x.num = true → (raiseI n x.num).2 = false → (sRaiseN n false x).1 = true
  | 0, x, h, hr => by cases hr
  | n + 1, x, h, hr => by
    unfold raiseI at hr
    rw [rIf2_self h] at hr
    by_cases h1 : rOk (rRoot x.num) = true
    · rw [if_pos h1] at hr
      rw [sRaiseN, h1, sRing, if_pos h1]
      simp only [Bool.not_true, Bool.or_false]
      exact sRaise_none n ⟨rRoot x.num, x.exp + 1⟩ h1 hr
    · have h2 : rOk (rRoot x.num) = false := by simpa using h1
      rw [sRaiseN, h2]
      exact sRaise_bad n _
theorem agree_add {x y : Dy} (hx : dOk x = true) (hy : dOk y = true) : Agree (dAddI x y) (sAdd false x y) := by
  have kx := dOk_iff.1 hx
  have ky := dOk_iff.1 hy
  obtain ⟨m, hm⟩ : ∃ m, m = max x.exp y.exp := ⟨_, rfl⟩
  have e1 : (m - x.exp).toNat = (y.exp - x.exp).toNat := by omega
  have e3 : x.exp + ((y.exp - x.exp).toNat : Int) = m := by omega
  have ed1 : dRaise x m = raiseI (y.exp - x.exp).toNat x.num := by rw [dRaise, e1]
  unfold dAddI sAdd
  rw [hx, hy, Bool.and_self, if_pos rfl, ← hm, sRaise_exp, e3]
  cases h1 : (dRaise x m).2 with
  | false =>
    have hb := sRaise_none _ x kx.1 (by rw [← ed1]; exact h1)
    rw [hb, sRaise_bad]
    simp only [Bool.false_and, Bool.false_eq_true, if_false, Bool.true_or]
    exact ⟨fun z h => (by cases h), fun _ => rfl⟩
  | true =>
    obtain ⟨g1, g2⟩ := sRaise_good _ x kx.1 (by rw [← ed1]; exact h1)
    rw [g1]
    rw [← ed1] at g2 ⊢
    dsimp only
    have ed2 : dRaise y m = raiseI (m - y.exp).toNat y.num := rfl
    cases h2 : (dRaise y m).2 with
    | false =>
      have hb := sRaise_none _ y ky.1 (by rw [← ed2]; exact h2)
      rw [hb]
      simp only [Bool.and_false, Bool.false_and, Bool.false_eq_true, if_false, Bool.true_or]
      exact ⟨fun z h => (by cases h), fun _ => rfl⟩
    | true =>
      obtain ⟨k1, k2⟩ := sRaise_good _ y ky.1 (by rw [← ed2]; exact h2)
      rw [k1]
      rw [← ed2] at k2 ⊢
      dsimp only
      rw [rIf2_one g2 k2, rIf1, rIf2_one g2 k2, Bool.true_and, Bool.true_and, Bool.false_or]
      by_cases hr : rOk (rAdd (dRaise x m).1 (dRaise y m).1) = true
      · have h3 : inR m 0 60 = true := inR_iff.2 (by omega)
        rw [if_pos hr, if_pos hr, dOf, hr, h3, sRing, if_pos hr]
        exact ⟨fun z h => (by simp only [Bool.and_self, if_true] at h; injection h with h; subst h; exact ⟨rfl, dLow_okI hr (by omega) (by omega)⟩), fun h => by simp at h⟩
      · have hr' : rOk (rAdd (dRaise x m).1 (dRaise y m).1) = false := by simpa using hr
        rw [if_neg hr, hr']
        exact ⟨fun z h => (by cases h), fun _ => rfl⟩
def dotS (f : Bool) (a b : Mx) (i j : Nat) : Nat → Bool × Dy
  | 0 => (f, dZ)
  | n + 1 => if (dotS f a b i j n).1 = true then dotS f a b i j n else
      sAdd (sMul false (a.at i n) (b.at n j)).1 (dotS f a b i j n).2 (sMul false (a.at i n) (b.at n j)).2
theorem dotS_bad {f : Bool} {a b : Mx} {i j n : Nat} (h : (dotS f a b i j n).1 = true) : ∀ m, n ≤ m → dotS f a b i j m = dotS f a b i j n
  | 0, h' => by obtain rfl : n = 0 := by omega
                rfl
  | m + 1, h' => by
    by_cases hm : n = m + 1
    · subst hm; rfl
    · rw [dotS, dotS_bad h m (by omega), if_pos h]
theorem dotS_true (a b : Mx) (i j n : Nat) : dotS true a b i j n = (true, dZ) := dotS_bad (n := 0) rfl n (Nat.zero_le _)
theorem dZ_ok : dOk dZ = true := by decide
theorem sAdd_bad (x y : Dy) : (sAdd true x y).1 = true := by
  unfold sAdd
  rw [show (sRaiseN (y.exp - x.exp).toNat true x).1 = true from sRaise_bad _ _, sRaise_bad]
  rfl
def AllOk (m : Mx) : Prop := ∀ x ∈ m.cells, dOk x = true
theorem Mx.at_ok {m : Mx} (h : AllOk m) (i j : Nat) : dOk (m.at i j) = true := by
  unfold Mx.at
  rw [List.getD_eq_getElem?_getD]
  cases hx : m.cells[i * m.cols.toNat + j]? with
  | none => exact dZ_ok
  | some x => exact h x (List.mem_of_getElem? hx)
theorem agree_dot {a b : Mx} (ha : AllOk a) (hb : AllOk b) (i j : Nat) : ∀ n, Agree (dotI a b i j n) (dotS false a b i j n)
  | 0 => ⟨fun z h => (by injection h with h; subst h; exact ⟨rfl, dZ_ok⟩), fun h => by cases h⟩
  | n + 1 => by
    have ih := agree_dot ha hb i j n
    have hm := agree_mul (Mx.at_ok ha i n) (Mx.at_ok hb n j)
    unfold dotI dotS
    cases h1 : dotI a b i j n with
    | none =>
      have h2 := ih.2 h1
      rw [if_pos h2]
      exact ⟨fun z h => (by cases h), fun _ => h2⟩
    | some s =>
      obtain ⟨h2, h3⟩ := ih.1 s h1
      rw [h2]
      simp only [Bool.false_eq_true, if_false, Option.bind_some]
      cases h4 : dMulI (a.at i n) (b.at n j) with
      | none =>
        rw [hm.2 h4]
        exact ⟨fun z h => (by cases h), fun _ => sAdd_bad _ _⟩
      | some x =>
        obtain ⟨h5, h6⟩ := hm.1 x h4
        rw [h5]
        exact agree_add h3 h6
def timesL (f : Bool) (a b : Mx) : Nat → Bool × List Dy
  | 0 => (f, [])
  | n + 1 => ((dotS (timesL f a b n).1 a b (n / b.cols.toNat) (n % b.cols.toNat) a.cols.toNat).1, (timesL f a b n).2 ++ [(dotS (timesL f a b n).1 a b (n / b.cols.toNat) (n % b.cols.toNat) a.cols.toNat).2])
def timesS (f : Bool) (a b : Mx) : Bool × Mx := ((timesL f a b (a.rows.toNat * b.cols.toNat)).1, ⟨a.rows, b.cols, (timesL f a b (a.rows.toNat * b.cols.toNat)).2⟩)
theorem timesL_len (f : Bool) (a b : Mx) : ∀ n, (timesL f a b n).2.length = n
  | 0 => rfl
  | n + 1 => by simp [timesL, timesL_len f a b n]
theorem timesL_step {f : Bool} {a b : Mx} {i j : Nat} (hj : j < b.cols.toNat) : timesL f a b (i * b.cols.toNat + (j + 1)) = ((dotS (timesL f a b (i * b.cols.toNat + j)).1 a b i j a.cols.toNat).1, (timesL f a b (i * b.cols.toNat + j)).2 ++ [(dotS (timesL f a b (i * b.cols.toNat + j)).1 a b i j a.cols.toNat).2]) := by
  have h1 : (i * b.cols.toNat + j) / b.cols.toNat = i := by rw [Nat.mul_comm, Nat.mul_add_div (by omega), Nat.div_eq_of_lt hj]; omega
  have h2 : (i * b.cols.toNat + j) % b.cols.toNat = j := by rw [Nat.mul_comm, Nat.mul_add_mod, Nat.mod_eq_of_lt hj]
  rw [show i * b.cols.toNat + (j + 1) = (i * b.cols.toNat + j) + 1 from rfl, timesL, h1, h2]
theorem agree_times {a b : Mx} (ha : AllOk a) (hb : AllOk b) : ∀ n, (∀ l, seqO (gridG (fun i j => dotI a b i j a.cols.toNat) b.cols.toNat) n = some l → timesL false a b n = (false, l) ∧ ∀ x ∈ l, dOk x = true) ∧
    (seqO (gridG (fun i j => dotI a b i j a.cols.toNat) b.cols.toNat) n = none → (timesL false a b n).1 = true)
  | 0 => ⟨fun l h => (by injection h with h; subst h; exact ⟨rfl, fun x hx => by cases hx⟩), fun h => by cases h⟩
  | n + 1 => by
    have ih := agree_times ha hb n
    have hd := agree_dot ha hb (n / b.cols.toNat) (n % b.cols.toNat) a.cols.toNat
    unfold seqO timesL
    cases h1 : seqO (gridG (fun i j => dotI a b i j a.cols.toNat) b.cols.toNat) n with
    | none =>
      rw [ih.2 h1, dotS_true]
      exact ⟨fun l h => (by cases h), fun _ => rfl⟩
    | some l =>
      obtain ⟨h2, h3⟩ := ih.1 l h1
      rw [h2]
      dsimp only
      rw [show gridG (fun i j => dotI a b i j a.cols.toNat) b.cols.toNat n = dotI a b (n / b.cols.toNat) (n % b.cols.toNat) a.cols.toNat from rfl]
      cases h4 : dotI a b (n / b.cols.toNat) (n % b.cols.toNat) a.cols.toNat with
      | none => exact ⟨fun l h => (by cases h), fun _ => hd.2 h4⟩
      | some x =>
        obtain ⟨h5, h6⟩ := hd.1 x h4
        rw [h5]
        refine ⟨fun l' h => ?_, fun h => by cases h⟩
        injection h with h
        subst h
        exact ⟨rfl, fun y hy => by
          rcases List.mem_append.1 hy with hy | hy
          · exact h3 y hy
          · rw [List.mem_singleton.1 hy]; exact h6⟩
end Go.Proofs.YtfgnmflfiobkmaaGreat
namespace Go.Proofs.YtfgnmflfiobkmaaGreat
open Go.RowKit
theorem mOk_all {m : Mx} (h : mOk m = true) : AllOk m := by
  simp only [mOk, Bool.and_eq_true, Bool.not_eq_true', List.any_eq_false] at h
  intro x hx
  have := h.2 x hx
  simpa using this
theorem mOk_dims {m : Mx} (h : mOk m = true) : isDimB m.rows = true ∧ isDimB m.cols = true := by
  simp only [mOk, Bool.and_eq_true] at h
  exact ⟨h.1.1.1, h.1.1.2⟩
theorem mOk_mk {m : Mx} (hr : isDimB m.rows = true) (hc : isDimB m.cols = true) (hl : m.cells.length = m.rows.toNat * m.cols.toNat) (ha : AllOk m) : mOk m = true := by
  have h1 := isDimB_iff hr
  have h2 := isDimB_iff hc
  have h3 : (m.cells.any fun x => !dOk x) = false := by
    rw [List.any_eq_false]
    intro x hx
    simp [ha x hx]
  have h4 : wr (m.rows * m.cols) = (m.cells.length : Int) := by
    obtain ⟨r, hr⟩ : ∃ r : Nat, m.rows = r := ⟨m.rows.toNat, by omega⟩
    obtain ⟨c, hc⟩ : ∃ c : Nat, m.cols = c := ⟨m.cols.toNat, by omega⟩
    rw [hr] at h1
    rw [hc] at h2
    rw [hl, hr, hc]
    have h5 : r * c ≤ 32 * 32 := Nat.mul_le_mul (by omega) (by omega)
    rw [← Int.natCast_mul, wr_in (by omega) (by omega)]
    simp
  unfold mOk
  rw [hr, hc, h3, h4]
  simp
theorem isDim_pow {n : Int} (h : 1 ≤ n ∧ n ≤ 5) : isDimB ((2 ^ n.toNat : Nat) : Int) = true := by
  have : n = 1 ∨ n = 2 ∨ n = 3 ∨ n = 4 ∨ n = 5 := by omega
  rcases this with rfl | rfl | rfl | rfl | rfl <;> decide
theorem mul_agree {a b : Mx} (ha : mOk a = true) (hb : mOk b = true) (hab : a.cols = b.rows) : (∀ m, mulI a b = some m → timesS false a b = (false, m) ∧ mOk m = true ∧ m.rows = a.rows ∧ m.cols = b.cols) ∧ (mulI a b = none → (timesS false a b).1 = true) := by
  have hd1 := (mOk_dims ha).1
  have hd2 := (mOk_dims hb).2
  have h := agree_times (mOk_all ha) (mOk_all hb) (a.rows.toNat * b.cols.toNat)
  unfold mulI matOf timesS
  rw [ha, hb, hd1, hd2, if_pos (by simp [hab]), if_pos (show (true && true) = true from rfl)]
  cases h1 : seqO (gridG (fun i j => dotI a b i j a.cols.toNat) b.cols.toNat) (a.rows.toNat * b.cols.toNat) with
  | none => exact ⟨fun m h => (by cases h), fun _ => h.2 h1⟩
  | some l =>
    obtain ⟨h2, h3⟩ := h.1 l h1
    rw [h2]
    refine ⟨fun m hm => ?_, fun hm => by cases hm⟩
    injection hm with hm
    subst hm
    exact ⟨rfl, mOk_mk hd1 hd2 (seqO_len h1) h3, rfl, rfl⟩
theorem seqO_some {f : Nat → Dy} : ∀ n, seqO (fun m => some (f m)) n = some ((List.range n).map f)
  | 0 => rfl
  | n + 1 => by simp [seqO, seqO_some n, List.range_succ]
theorem matOf_some {R C : Int} (hR : isDimB R = true) (hC : isDimB C = true) (f : Nat → Nat → Dy) : matOf R C (fun i j => some (f i j)) = some ⟨R, C, gridL f C.toNat (R.toNat * C.toNat)⟩ := by
  unfold matOf
  rw [hR, hC, if_pos (show (true && true) = true from rfl)]
  have : gridG (fun i j => some (f i j)) C.toNat = fun m => some (gridF f C.toNat m) := rfl
  rw [this, seqO_some]
  rfl
theorem gridL_congr {f g : Nat → Nat → Dy} {R C : Nat} (h : ∀ i j, i < R → j < C → f i j = g i j) : gridL f C (R * C) = gridL g C (R * C) := by
  unfold gridL
  refine List.map_congr_left fun m hm => ?_
  have hm' := List.mem_range.1 hm
  have hC : 0 < C := by
    rcases Nat.eq_zero_or_pos C with h0 | h0
    · subst h0; simp at hm'
    · exact h0
  exact h _ _ (Nat.div_lt_of_lt_mul (by rw [Nat.mul_comm]; exact hm')) (Nat.mod_lt _ hC)
theorem gridL_mem {f : Nat → Nat → Dy} {R C : Nat} {x : Dy} (h : x ∈ gridL f C (R * C)) : ∃ i j, i < R ∧ j < C ∧ x = f i j := by
  unfold gridL at h
  obtain ⟨m, hm, rfl⟩ := List.mem_map.1 h
  have hm' := List.mem_range.1 hm
  have hC : 0 < C := by
    rcases Nat.eq_zero_or_pos C with h0 | h0
    · subst h0; simp at hm'
    · exact h0
  exact ⟨_, _, Nat.div_lt_of_lt_mul (by rw [Nat.mul_comm]; exact hm'), Nat.mod_lt _ hC, rfl⟩
def unitS (d : Nat) : Mx := ⟨(d : Int), (d : Int), gridL (fun i j => if i = j then dPow 0 else dZ) d (d * d)⟩
theorem idI_unit {d : Nat} (h : isDimB (d : Int) = true) : idI (d : Int) = some (unitS d) ∧ mOk (unitS d) = true := by
  refine ⟨?_, ?_⟩
  · unfold idI
    rw [matOf_some h h (fun i j => if i = j then ⟨⟨1, 0, 0, 0⟩, 0⟩ else dZ)]
    rfl
  · refine mOk_mk h h (by simp [unitS, gridL_len]) fun x hx => ?_
    obtain ⟨i, j, _, _, rfl⟩ := gridL_mem hx
    split
    · rfl
    · rfl
def bitT (p s : Nat) : Int := bits .and .i64 ((s : Int) / 2 ^ p) 1
def flipT (p s : Nat) : Int := bits .xor .i64 (s : Int) (wr (1 * 2 ^ p))
def chkBits : Bool := (List.range 5).all fun p => (List.range 32).all fun s =>
  let f := flipT p s
  Nat.blt f.toNat 32 && f == (f.toNat : Int) && flipT p f.toNat == (s : Int) && (bitT p f.toNat == 1 - bitT p s) && (bitT p s == 0 || bitT p s == 1) &&
  (List.range 5).all (fun q => (q == p) || bitT q f.toNat == bitT q s) &&
  (List.range 5).all (fun q => let g := flipT q s; flipT p g.toNat == flipT q f.toNat) &&
  (List.range 32).all fun t => (((t : Int) == s || f == (t : Int)) == (bits .andNot .i64 (bits .xor .i64 (s : Int) (t : Int)) (wr (1 * 2 ^ p)) == 0))
theorem chkBits_true : chkBits = true := by kernel_rfl
def chkSmall : Bool := (List.range 6).all fun n => (List.range n).all fun q => (List.range (2 ^ n)).all fun s => Nat.blt (flipT (n - 1 - q) s).toNat (2 ^ n)
theorem chkSmall_true : chkSmall = true := by kernel_rfl
structure BitsOk (p s : Nat) : Prop where
  nat : flipT p s = ((flipT p s).toNat : Int)
  lt : (flipT p s).toNat < 32
  back : flipT p (flipT p s).toNat = (s : Int)
  bit : bitT p (flipT p s).toNat = 1 - bitT p s
  other : ∀ q < 5, q ≠ p → bitT q (flipT p s).toNat = bitT q s
  comm : ∀ q < 5, flipT p (flipT q s).toNat = flipT q (flipT p s).toNat
  sel : ∀ t : Nat, t < 32 → (((t : Int) = s ∨ flipT p s = (t : Int)) ↔ bits .andNot .i64 (bits .xor .i64 (s : Int) (t : Int)) (wr (1 * 2 ^ p)) = 0)
theorem bitsOk {p s : Nat} (hp : p < 5) (hs : s < 32) : BitsOk p s := by
  have h := chkBits_true
  simp only [chkBits, List.all_eq_true, List.mem_range] at h
  have h := h p hp s hs
  simp only [Bool.and_eq_true, List.all_eq_true, List.mem_range, beq_iff_eq, Bool.or_eq_true, Nat.blt_eq] at h
  obtain ⟨⟨⟨⟨⟨⟨⟨h1, h2⟩, h3⟩, h4⟩, _⟩, h6⟩, h7⟩, h8⟩ := h
  refine ⟨h2, h1, h3, h4, fun q hq hne => (h6 q hq).resolve_left hne, h7, fun t ht => ?_⟩
  have h9 := h8 t ht
  rw [Bool.eq_iff_iff] at h9
  simpa using h9
theorem flip_small {n q s : Nat} (hn : n ≤ 5) (hq : q < n) (hs : s < 2 ^ n) : (flipT (n - 1 - q) s).toNat < 2 ^ n := by
  have h := chkSmall_true
  simp only [chkSmall, List.all_eq_true, List.mem_range] at h
  have h := h n (by omega) q hq s hs
  simpa [Nat.blt_eq] using h
theorem bitF_T {n q : Int} (s : Nat) : bitF n (s : Int) q = bitT (n - 1 - q).toNat s := rfl
theorem flipF_T {n q : Int} (s : Nat) : flipF n (s : Int) q = flipT (n - 1 - q).toNat s := rfl
theorem toNat_sub {n q : Int} (hq : 0 ≤ q) (hqn : q < n) : (n - 1 - q).toNat = n.toNat - 1 - q.toNat := by omega
theorem toS_nat {n : Int} {g : Gt} (hg : gOk n g = true) {s : Nat} (hs : s < 2 ^ n.toNat) (hk : 9 ≤ g.k ∧ g.k ≤ 11) : ∃ t : Nat, t < 2 ^ n.toNat ∧ toS n g s = (t : Int) ∧ toS n g t = (s : Int) ∧ (g.k = 10 → t = s) := by
  obtain ⟨hn, hk0, ha, hb⟩ := gOk_spec hg
  have ha := ha (by omega)
  have hb := hb hk
  have h32 : 2 ^ n.toNat ≤ 32 := pow_le32 hn.2
  obtain ⟨p, hp⟩ : ∃ p, p = (n - 1 - g.a).toNat := ⟨_, rfl⟩
  obtain ⟨q, hq⟩ : ∃ q, q = (n - 1 - g.b).toNat := ⟨_, rfl⟩
  have hp5 : p < 5 := by omega
  have hq5 : q < 5 := by omega
  have hpq : p ≠ q := by omega
  have hsm : ∀ s, s < 2 ^ n.toNat → (flipT p s).toNat < 2 ^ n.toNat := fun s hs => by
    rw [hp, toNat_sub (by omega) (by omega)]
    exact flip_small (by omega) (by omega) hs
  have hsm2 : ∀ s, s < 2 ^ n.toNat → (flipT q s).toNat < 2 ^ n.toNat := fun s hs => by
    rw [hq, toNat_sub (by omega) (by omega)]
    exact flip_small (by omega) (by omega) hs
  unfold toS
  simp only [bitF_T, flipF_T, ← hp, ← hq]
  have Bp := bitsOk (p := p) (s := s) hp5 (by omega)
  have Bq := bitsOk (p := q) (s := s) hq5 (by omega)
  by_cases h9 : g.k = 9
  · simp only [h9, if_true]
    by_cases hb1 : bitT p s = 1
    · refine ⟨(flipT q s).toNat, hsm2 s hs, by rw [if_pos hb1]; exact Bq.nat, ?_, by omega⟩
      rw [if_pos (by rw [Bq.other p hp5 hpq]; exact hb1)]
      exact Bq.back
    · exact ⟨s, hs, by rw [if_neg hb1], by rw [if_neg hb1], by omega⟩
  · simp only [h9, if_false]
    by_cases h11 : g.k = 11
    · simp only [h11, if_true]
      by_cases hb1 : bitT p s = bitT q s
      · exact ⟨s, hs, by rw [if_neg (by simpa using hb1)], by rw [if_neg (by simpa using hb1)], by omega⟩
      · have Bf := bitsOk (p := q) (s := (flipT p s).toNat) hq5 Bp.lt
        have Bg := bitsOk (p := p) (s := (flipT q (flipT p s).toNat).toNat) hp5 Bf.lt
        have e1 : flipF n (flipT p s) g.b = flipT q (flipT p s).toNat := by rw [Bp.nat, flipF_T, ← hq, Int.toNat_natCast]
        refine ⟨(flipT q (flipT p s).toNat).toNat, hsm2 _ (hsm _ hs), ?_, ?_, by omega⟩
        · rw [if_pos hb1, e1]; exact Bf.nat
        · have e2 : bitT p (flipT q (flipT p s).toNat).toNat = 1 - bitT p s := by rw [Bf.other p hp5 hpq, Bp.bit]
          have e3 : bitT q (flipT q (flipT p s).toNat).toNat = 1 - bitT q s := by rw [Bf.bit, Bp.other q hq5 (Ne.symm hpq)]
          have e4 : flipT p (flipT q (flipT p s).toNat).toNat = flipT q (flipT p (flipT p s).toNat).toNat := (bitsOk (p := p) (s := (flipT p s).toNat) hp5 Bp.lt).comm q hq5
          rw [if_pos (by rw [e2, e3]; omega), e4, Bp.back, Int.toNat_natCast, Bq.nat, flipF_T, ← hq, Bq.back]
    · exact ⟨s, hs, by rw [if_neg h11], by rw [if_neg h11], fun _ => rfl⟩
theorem oneL_at {k : Int} (h : 1 ≤ k ∧ k ≤ 8) {i j : Int} (hi : i = 0 ∨ i = 1) (hj : j = 0 ∨ j = 1) : (oneL k).getD (2 * i + j).toNat dZ = entryI k i j := by
  have : k = 1 ∨ k = 2 ∨ k = 3 ∨ k = 4 ∨ k = 5 ∨ k = 6 ∨ k = 7 ∨ k = 8 := by omega
  rcases this with rfl | rfl | rfl | rfl | rfl | rfl | rfl | rfl <;> rcases hi with rfl | rfl <;> rcases hj with rfl | rfl <;> rfl
theorem cell_eq {n : Int} {g : Gt} (hg : gOk n g = true) {i j : Nat} (hi : i < 2 ^ n.toNat) (hj : j < 2 ^ n.toNat) : cellI n g i j = cellS n g i j := by
  obtain ⟨hn, hk0, ha, hb⟩ := gOk_spec hg
  have h32 : 2 ^ n.toNat ≤ 32 := pow_le32 hn.2
  unfold cellI cellS
  by_cases h12 : g.k = 12
  · rw [if_pos h12, if_neg (show ¬ g.k ≤ 8 by omega)]
    have e1 : toS n g j = j := by unfold toS; rw [if_neg (show ¬ g.k = 9 by omega), if_neg (show ¬ g.k = 11 by omega)]
    rw [e1]
    by_cases hij : (i : Int) = j
    · rw [if_pos hij, if_pos hij, valS, if_pos h12]
    · rw [if_neg hij, if_neg hij]
  · rw [if_neg h12]
    by_cases h2 : 9 ≤ g.k ∧ g.k ≤ 11
    · rw [if_pos (inR_iff.2 h2), if_neg (show ¬ g.k ≤ 8 by omega)]
      obtain ⟨t, ht, e1, e2, e3⟩ := toS_nat hg hi h2
      obtain ⟨t', ht', e1', e2', e3'⟩ := toS_nat hg hj h2
      by_cases hij : toS n g i = j
      · have hts : (i : Int) = toS n g j := by rw [← e2, ← e1, hij]
        rw [if_pos hij, if_pos hts, valS, if_neg h12]
        by_cases h10 : g.k = 10
        · have hij2 : i = j := by rw [e1] at hij; have := e3 h10; omega
          subst hij2
          by_cases hc : bitF n i g.a = 1 ∧ bitF n i g.b = 1
          · rw [if_pos (by simp [czI, h10, hc]), if_pos ⟨h10, hc⟩]; rfl
          · have hc' : ¬ czI n g i = true := by simp only [czI, h10, Bool.and_eq_true, beq_iff_eq, true_and, and_assoc]; exact hc
            rw [if_neg hc', if_neg (fun h => hc h.2)]; rfl
        · have hc' : ¬ czI n g i = true := by simp [czI, h10]
          rw [if_neg hc', if_neg (fun h => h10 h.1)]; rfl
      · have hts : ¬ (i : Int) = toS n g j := fun h => by
          rw [e1'] at h
          have h : i = t' := by omega
          subst h
          exact hij e2'
        rw [if_neg hij, if_neg hts]
    · have h8 : g.k ≤ 8 := by omega
      have ha := ha h12
      rw [if_neg (fun h => h2 (inR_iff.1 h)), if_pos h8]
      have B := bitsOk (p := (n - 1 - g.a).toNat) (s := i) (by omega) (by omega)
      have hs := B.sel j (by omega)
      rw [flipF_T]
      have e0 : ((i : Int) = j ∨ flipT (n - 1 - g.a).toNat i = (j : Int)) ↔ ((j : Int) = i ∨ flipT (n - 1 - g.a).toNat i = (j : Int)) := by
        constructor <;> rintro (h | h) <;> first | exact .inl h.symm | exact .inr h
      by_cases hz : bits .andNot .i64 (bits .xor .i64 (i : Int) (j : Int)) (wr (1 * 2 ^ (n - 1 - g.a).toNat)) = 0
      · rw [if_pos (e0.2 (hs.2 hz)), if_neg (fun h => h hz)]
        exact (oneL_at ⟨hk0.1, h8⟩ (bitF_01 _ _ _) (bitF_01 _ _ _)).symm
      · rw [if_neg (fun h => hz (hs.1 (e0.1 h))), if_pos hz]
theorem entry_ok {k : Int} (h : 1 ≤ k ∧ k ≤ 8) {i j : Int} (hi : i = 0 ∨ i = 1) (hj : j = 0 ∨ j = 1) : dOk (entryI k i j) = true := by
  have : k = 1 ∨ k = 2 ∨ k = 3 ∨ k = 4 ∨ k = 5 ∨ k = 6 ∨ k = 7 ∨ k = 8 := by omega
  rcases this with rfl | rfl | rfl | rfl | rfl | rfl | rfl | rfl <;> rcases hi with rfl | rfl <;> rcases hj with rfl | rfl <;> rfl
theorem cell_ok {n : Int} {g : Gt} (hg : gOk n g = true) (i j : Int) : dOk (cellI n g i j) = true := by
  obtain ⟨hn, hk0, ha, hb⟩ := gOk_spec hg
  unfold cellI
  split
  · split <;> rfl
  · split
    · split
      · split <;> rfl
      · rfl
    · rename_i h1 h2
      split
      · exact entry_ok (by have h3 : ¬ (9 ≤ g.k ∧ g.k ≤ 11) := fun h => h2 (inR_iff.2 h); omega) (bitF_01 _ _ _) (bitF_01 _ _ _)
      · rfl
theorem gate_eq {n : Int} {g : Gt} (hg : gOk n g = true) : gateI n g = some (gateS n g) ∧ mOk (gateS n g) = true := by
  have hn := (gOk_spec hg).1
  have hd := isDim_pow hn
  have he : gridL (fun i j => cellI n g i j) (2 ^ n.toNat) (2 ^ n.toNat * 2 ^ n.toNat) = gridL (fun i j => cellS n g i j) (2 ^ n.toNat) (2 ^ n.toNat * 2 ^ n.toNat) := gridL_congr fun i j hi hj => cell_eq hg hi hj
  refine ⟨?_, ?_⟩
  · unfold gateI
    rw [if_pos hg, matOf_some hd hd (fun i j => cellI n g i j)]
    simp only [Int.toNat_natCast]
    rw [he]
    rfl
  · refine mOk_mk hd hd (by simp only [gateS, gridL_len, Int.toNat_natCast]) fun x hx => ?_
    simp only [gateS] at hx
    rw [← he] at hx
    obtain ⟨i, j, _, _, rfl⟩ := gridL_mem hx
    exact cell_ok hg _ _
def applI (n : Int) : List Gt → Mx → Option Mx
  | [], m => some m
  | g :: l, m => (mulI ((gateI n g).getD mZ) m).bind (applI n l)
def runS (n : Int) (f : Bool) : List Gt → Mx → Bool × Mx
  | [], m => (f, m)
  | g :: l, m => if f = true then (f, m) else runS n (timesS false (gateS n g) m).1 l (timesS false (gateS n g) m).2
theorem runS_true (n : Int) : ∀ (l : List Gt) (m : Mx), runS n true l m = (true, m)
  | [], _ => rfl
  | _ :: _, _ => rfl
theorem run_agree {n : Int} : ∀ (l : List Gt) (m : Mx), (∀ g ∈ l, gOk n g = true) → mOk m = true → m.rows = ((2 ^ n.toNat : Nat) : Int) →
    (∀ m', applI n l m = some m' → runS n false l m = (false, m') ∧ mOk m' = true ∧ m'.rows = ((2 ^ n.toNat : Nat) : Int)) ∧ (applI n l m = none → (runS n false l m).1 = true)
  | [], m, _, hm, hr => ⟨fun m' h => (by injection h with h; subst h; exact ⟨rfl, hm, hr⟩), fun h => by cases h⟩
  | g :: l, m, hg, hm, hr => by
    obtain ⟨h1, h2⟩ := gate_eq (hg g (by simp))
    have h3 := mul_agree h2 hm (by rw [hr]; rfl)
    unfold applI runS
    rw [h1, Option.getD_some, if_neg (by decide)]
    cases h4 : mulI (gateS n g) m with
    | none =>
      rw [h3.2 h4, runS_true]
      exact ⟨fun m' h => (by cases h), fun _ => rfl⟩
    | some m1 =>
      obtain ⟨h5, h6, h7, h8⟩ := h3.1 m1 h4
      rw [h5]
      exact run_agree l m1 (fun g hg' => hg g (by simp [hg'])) h6 (by rw [h7]; rfl)
def opI (c : Cx) : Option Mx := if cOk c = true then (idI ((2 ^ c.n.toNat : Nat) : Int)).bind (applI c.n c.gs) else none
def opS (c : Cx) : Option Mx := if cOk c = true then (if (runS c.n false c.gs (unitS (2 ^ c.n.toNat))).1 = true then none else some (runS c.n false c.gs (unitS (2 ^ c.n.toNat))).2) else none
theorem cOk_spec {c : Cx} (h : cOk c = true) : (1 ≤ c.n ∧ c.n ≤ 5) ∧ c.gs.length ≤ 400 ∧ ∀ g ∈ c.gs, gOk c.n g = true := by
  simp only [cOk, Bool.and_eq_true, inR_iff, decide_eq_true_eq, Bool.not_eq_true', List.any_eq_false] at h
  exact ⟨h.1.1, by omega, fun g hg => by simpa using h.2 g hg⟩
theorem op_eq (c : Cx) : opI c = opS c ∧ ∀ m, opS c = some m → mOk m = true ∧ m.rows = ((2 ^ c.n.toNat : Nat) : Int) := by
  unfold opI opS
  by_cases hc : cOk c = true
  · obtain ⟨hn, _, hg⟩ := cOk_spec hc
    obtain ⟨h1, h2⟩ := idI_unit (isDim_pow hn)
    have h3 := run_agree c.gs _ hg h2 rfl
    rw [if_pos hc, if_pos hc, h1, Option.bind_some]
    cases h4 : applI c.n c.gs (unitS (2 ^ c.n.toNat)) with
    | none => rw [h3.2 h4, if_pos rfl]; exact ⟨rfl, fun m h => by cases h⟩
    | some m' =>
      obtain ⟨h5, h6, h7⟩ := h3.1 m' h4
      rw [h5, if_neg (show ¬ (false = true) by decide)]
      exact ⟨rfl, fun m h => (by injection h with h; subst h; exact ⟨h6, h7⟩)⟩
  · rw [if_neg hc, if_neg hc]
    exact ⟨rfl, fun m h => by cases h⟩
end Go.Proofs.YtfgnmflfiobkmaaGreat
namespace Go.Proofs.YtfgnmflfiobkmaaGreat
open Go.RowKit
theorem rOm_ok {x : Rg} (h : rOk x = true) : rOk (rOm x) = true ∧ rOm x = ⟨-x.d, x.a, x.b, x.c⟩ := by
  rw [rOk_iff] at h
  have e : rOm x = ⟨-x.d, x.a, x.b, x.c⟩ := by unfold rOm; rw [wr_in (by omega) (by omega)]
  refine ⟨?_, e⟩
  rw [e, rOk_iff]
  dsimp only
  omega
theorem rEven_iff {x : Rg} (h : rOk x = true) : rEven x = true ↔ (x.a + x.c) % 2 = 0 ∧ (x.b + x.d) % 2 = 0 := by
  rw [rOk_iff] at h
  unfold rEven
  rw [wr_in (by omega) (by omega), wr_in (by omega) (by omega)]
  simp only [Bool.and_eq_true, beq_iff_eq]
  have key : ∀ i : Int, i.tmod 2 = 0 ↔ i % 2 = 0 := fun i => by
    rw [← Int.dvd_iff_tmod_eq_zero, ← Int.dvd_iff_emod_eq_zero]
  rw [key, key]
theorem rOm_even {x : Rg} (h : rOk x = true) : rEven (rOm x) = rEven x := by
  obtain ⟨h1, h2⟩ := rOm_ok h
  rw [Bool.eq_iff_iff, rEven_iff h1, rEven_iff h, h2]
  dsimp only
  omega
theorem rTurnN_ok : ∀ (k : Nat) (x : Rg), rOk x = true → rOk (rTurnN k x) = true ∧ rEven (rTurnN k x) = rEven x
  | 0, _, h => ⟨h, rfl⟩
  | k + 1, x, h => by
    obtain ⟨h1, h2⟩ := rTurnN_ok k (rOm x) (rOm_ok h).1
    exact ⟨h1, h2.trans (rOm_even h)⟩
theorem rTurn_ok {x : Rg} (h : rOk x = true) (k : Int) : rOk (rTurn x k) = true ∧ rEven (rTurn x k) = rEven x := rTurnN_ok _ _ h
theorem wr0 : wr 0 = 0 := rfl
theorem mul_turn {x : Rg} (h : rOk x = true) {k : Nat} (hk : k < 8) : rMul x (rTurn ⟨1, 0, 0, 0⟩ k) = rTurn x k := by
  have h' := rOk_iff.1 h
  obtain ⟨a, b, c, d⟩ := x
  dsimp only at h'
  have wa : wr a = a := wr_in (by omega) (by omega)
  have wb : wr b = b := wr_in (by omega) (by omega)
  have wc : wr c = c := wr_in (by omega) (by omega)
  have wd : wr d = d := wr_in (by omega) (by omega)
  have na : wr (-a) = -a := wr_in (by omega) (by omega)
  have nb : wr (-b) = -b := wr_in (by omega) (by omega)
  have nc : wr (-c) = -c := wr_in (by omega) (by omega)
  have nd : wr (-d) = -d := wr_in (by omega) (by omega)
  have : k = 0 ∨ k = 1 ∨ k = 2 ∨ k = 3 ∨ k = 4 ∨ k = 5 ∨ k = 6 ∨ k = 7 := by omega
  have s0 : rTurn ⟨1, 0, 0, 0⟩ ((0 : Nat) : Int) = ⟨1, 0, 0, 0⟩ := by decide
  have s1 : rTurn ⟨1, 0, 0, 0⟩ ((1 : Nat) : Int) = ⟨0, 1, 0, 0⟩ := by decide
  have s2 : rTurn ⟨1, 0, 0, 0⟩ ((2 : Nat) : Int) = ⟨0, 0, 1, 0⟩ := by decide
  have s3 : rTurn ⟨1, 0, 0, 0⟩ ((3 : Nat) : Int) = ⟨0, 0, 0, 1⟩ := by decide
  have s4 : rTurn ⟨1, 0, 0, 0⟩ ((4 : Nat) : Int) = ⟨-1, 0, 0, 0⟩ := by decide
  have s5 : rTurn ⟨1, 0, 0, 0⟩ ((5 : Nat) : Int) = ⟨0, -1, 0, 0⟩ := by decide
  have s6 : rTurn ⟨1, 0, 0, 0⟩ ((6 : Nat) : Int) = ⟨0, 0, -1, 0⟩ := by decide
  have s7 : rTurn ⟨1, 0, 0, 0⟩ ((7 : Nat) : Int) = ⟨0, 0, 0, -1⟩ := by decide
  have T : ∀ j : Nat, j < 8 → rTurn ⟨a, b, c, d⟩ (j : Int) = rTurnN j ⟨a, b, c, d⟩ := fun j hj => by
    have : (turns (j : Int)).toNat = j := by
      have : j = 0 ∨ j = 1 ∨ j = 2 ∨ j = 3 ∨ j = 4 ∨ j = 5 ∨ j = 6 ∨ j = 7 := by omega
      rcases this with rfl | rfl | rfl | rfl | rfl | rfl | rfl | rfl <;> decide
    rw [rTurn, this]
  rcases this with rfl | rfl | rfl | rfl | rfl | rfl | rfl | rfl
  · rw [T 0 (by omega), s0]; simp [rMul, rTurnN, rOm, wr0, wa, wb, wc, wd, na, nb, nc, nd]
  · rw [T 1 (by omega), s1]; simp [rMul, rTurnN, rOm, wr0, wa, wb, wc, wd, na, nb, nc, nd]
  · rw [T 2 (by omega), s2]; simp [rMul, rTurnN, rOm, wr0, wa, wb, wc, wd, na, nb, nc, nd]
  · rw [T 3 (by omega), s3]; simp [rMul, rTurnN, rOm, wr0, wa, wb, wc, wd, na, nb, nc, nd]
  · rw [T 4 (by omega), s4]; simp [rMul, rTurnN, rOm, wr0, wa, wb, wc, wd, na, nb, nc, nd]
  · rw [T 5 (by omega), s5]; simp [rMul, rTurnN, rOm, wr0, wa, wb, wc, wd, na, nb, nc, nd]
  · rw [T 6 (by omega), s6]; simp [rMul, rTurnN, rOm, wr0, wa, wb, wc, wd, na, nb, nc, nd]
  · rw [T 7 (by omega), s7]; simp [rMul, rTurnN, rOm, wr0, wa, wb, wc, wd, na, nb, nc, nd]
theorem dMul_turn {z : Dy} (h : dOk z = true) {k : Nat} (hk : k < 8) : dMulI z (dPow k) = some (dTurn k z) := by
  have hz := dOk_iff.1 h
  have h1 : rOk (rTurn ⟨1, 0, 0, 0⟩ k) = true := (rTurn_ok (by decide) _).1
  have hp : dOk (dPow k) = true := dOk_iff.2 ⟨h1, by simp [dPow], .inl rfl⟩
  obtain ⟨h2, h3⟩ := rTurn_ok hz.1 (k : Int)
  unfold dMulI
  rw [h, hp, show (dPow k).num = rTurn ⟨1, 0, 0, 0⟩ k from rfl, rIf1, rIf2_one hz.1 h1, mul_turn hz.1 hk, h2]
  simp only [Bool.and_self, if_true]
  unfold dOf
  rw [h2, show z.exp + (dPow k).exp = z.exp from by simp [dPow], inR_iff.2 hz.2.1]
  simp only [Bool.and_self, if_true]
  rw [dLow_stop fun h0 => by rw [h3]; rcases hz.2.2 with h4 | h4; exact absurd h4 (by omega); exact h4]
  rfl
theorem scale_turn {q : Mx} (h : mOk q = true) {k : Nat} (hk : k < 8) : scaleI q (dPow k) = some ⟨q.rows, q.cols, q.cells.map (dTurn k)⟩ := by
  have h1 : rOk (rTurn ⟨1, 0, 0, 0⟩ k) = true := (rTurn_ok (by decide) _).1
  have hp : dOk (dPow k) = true := dOk_iff.2 ⟨h1, by simp [dPow], .inl rfl⟩
  have hd := mOk_dims h
  have hl := mOk_len h
  have ha := mOk_all h
  have hf : (fun i j => dMulI (q.at i j) (dPow k)) = fun i j => some (dTurn k (q.at i j)) := by
    funext i j
    exact dMul_turn (Mx.at_ok ha i j) hk
  unfold scaleI
  rw [h, hp, if_pos (show (true && true) = true from rfl), hf, matOf_some hd.1 hd.2 (fun i j => dTurn k (q.at i j))]
  congr 2
  unfold gridL
  apply List.ext_getElem
  · simp [hl.2.2]
  · intro m h1 h2
    simp only [List.length_map, List.length_range] at h1
    simp only [List.getElem_map, List.getElem_range]
    unfold gridF Mx.at
    dsimp only
    have : m / q.cols.toNat * q.cols.toNat + m % q.cols.toNat = m := by rw [Nat.mul_comm]; exact Nat.div_add_mod m _
    rw [this, List.getD_eq_getElem?_getD, List.getElem?_eq_getElem (by rw [hl.2.2]; exact h1)]
    rfl
theorem phase_eq {p q : Mx} (h : mOk q = true) : eqPh p q = phaseS p q := by
  unfold eqPh phaseS
  rw [Bool.eq_iff_iff, List.any_eq_true, List.any_eq_true]
  constructor
  · rintro ⟨k, hk, h1⟩
    refine ⟨k, hk, ?_⟩
    rw [eqPhT, scale_turn h (List.mem_range.1 hk)] at h1
    exact h1
  · rintro ⟨k, hk, h1⟩
    refine ⟨k, hk, ?_⟩
    rw [eqPhT, scale_turn h (List.mem_range.1 hk)]
    exact h1
def sameI (a b : Cx) : Bool × Bool :=
  if ((opI a).isSome && (opI b).isSome && a.n == b.n) = true then
    (mOk ((opI a).getD mZ) && mOk ((opI b).getD mZ) && eqPh ((opI a).getD mZ) ((opI b).getD mZ), mOk ((opI a).getD mZ) && mOk ((opI b).getD mZ)) else (false, false)
def sameS (a b : Cx) : Bool × Bool :=
  if ((opS a).isSome && (opS b).isSome && a.n == b.n) = true then (phaseS ((opS a).getD mZ) ((opS b).getD mZ), true) else (false, false)
theorem same_eq (a b : Cx) : sameI a b = sameS a b := by
  unfold sameI sameS
  rw [(op_eq a).1, (op_eq b).1]
  cases h1 : opS a with
  | none => rfl
  | some x =>
    cases h2 : opS b with
    | none => rfl
    | some y =>
      have hx := ((op_eq a).2 x h1).1
      have hy := ((op_eq b).2 y h2).1
      simp only [Option.getD_some, hx, hy, phase_eq hy, Bool.and_self, Bool.true_and]
theorem op_len {c : Cx} {m : Mx} (h : opS c = some m) : m.cells.length = 2 ^ c.n.toNat * m.cols.toNat := by
  obtain ⟨h1, h2⟩ := (op_eq c).2 m h
  have := (mOk_len h1).2.2
  rw [this, h2, Int.toNat_natCast]
end Go.Proofs.YtfgnmflfiobkmaaGreat
namespace Go.Proofs.YtfgnmflfiobkmaaGreat
open Go.RowKit
theorem gate_len {n : Int} (hn : 1 ≤ n ∧ n ≤ 5) {g : Gt} : (gateS n g).cells.length ≤ 2305843009213693951 := by
  have h := pow_le32 hn.2
  have h2 : 2 ^ n.toNat * 2 ^ n.toNat ≤ 32 * 32 := Nat.mul_le_mul h h
  simp only [gateS, gridL_len]
  omega
theorem mOk_le {m : Mx} (h : mOk m = true) : m.cells.length ≤ 2305843009213693951 := by
  have h1 := mOk_len h
  have h2 : m.rows.toNat * m.cols.toNat ≤ 32 * 32 := Nat.mul_le_mul (by omega) (by omega)
  omega
theorem opI_le (a : Cx) : ((opI a).getD mZ).cells.length ≤ 2305843009213693951 := by
  have h := op_eq a
  cases ha : opI a with
  | none => exact Nat.zero_le _
  | some m => rw [h.1] at ha; exact mOk_le (h.2 m ha).1
theorem opS_le (a : Cx) : ((opS a).getD mZ).cells.length ≤ 2305843009213693951 := by rw [← (op_eq a).1]; exact opI_le a
theorem drop_get {α : Type} {l : List α} {i : Nat} {u : α} (h : l[i]? = some u) : l.drop i = u :: l.drop (i + 1) := by
  obtain ⟨h1, h2⟩ := List.getElem?_eq_some_iff.1 h
  rw [List.drop_eq_getElem_cons h1, h2]
end Go.Proofs.YtfgnmflfiobkmaaGreat
namespace Go.Proofs.YtfgnmflfiobkmaaGreat
open Go.RowKit
def unitP (d i : Nat) : List Dy := (List.range (d * d)).map fun m => if m / d = m % d ∧ m / d < i then dPow 0 else dZ
theorem unitP_len (d i : Nat) : (unitP d i).length = d * d := by simp [unitP]
theorem unitP_zero (d : Nat) : List.replicate (d * d) dZ = unitP d 0 := by
  unfold unitP
  apply List.ext_getElem
  · simp
  · intro k h1 h2
    simp
theorem unitP_step {d i : Nat} (h : i < d) : (unitP d i).set (i * d + i) (dPow 0) = unitP d (i + 1) := by
  have e1 : (i * d + i) / d = i := by rw [Nat.mul_comm, Nat.mul_add_div (by omega), Nat.div_eq_of_lt h]; omega
  have e2 : (i * d + i) % d = i := by rw [Nat.mul_comm, Nat.mul_add_mod, Nat.mod_eq_of_lt h]
  unfold unitP
  apply List.ext_getElem
  · simp
  · intro k h1 h2
    simp only [List.length_set, List.length_map, List.length_range] at h1
    rw [List.getElem_set]
    split
    · rename_i hk
      subst hk
      simp [e1, e2]
    · rename_i hk
      simp only [List.getElem_map, List.getElem_range]
      have : (k / d = k % d ∧ k / d < i) ↔ (k / d = k % d ∧ k / d < i + 1) := by
        constructor
        · rintro ⟨h3, h4⟩; exact ⟨h3, by omega⟩
        · rintro ⟨h3, h4⟩
          refine ⟨h3, ?_⟩
          rcases Nat.lt_or_ge (k / d) i with h5 | h5
          · exact h5
          · have h6 : k / d = i := by omega
            have h7 := Nat.div_add_mod k d
            rw [← h3, h6] at h7
            exact absurd (show i * d + i = k by rw [Nat.mul_comm i d]; exact h7) hk
      by_cases hc : k / d = k % d ∧ k / d < i
      · rw [if_pos hc, if_pos (this.1 hc)]
      · rw [if_neg hc, if_neg (fun h => hc (this.2 h))]
theorem unitP_full {d : Nat} : (unitS d).cells = unitP d d := by
  unfold unitP unitS gridL
  refine List.map_congr_left fun m hm => ?_
  have hm' := List.mem_range.1 hm
  have h1 : m / d < d := Nat.div_lt_of_lt_mul hm'
  unfold gridF
  dsimp only
  by_cases hc : m / d = m % d
  · rw [if_pos hc, if_pos ⟨hc, h1⟩]
  · rw [if_neg hc, if_neg (fun h => hc h.1)]
theorem dLow_exp : ∀ (m : Nat) (x : Rg), 0 ≤ (dLow x m).exp ∧ (dLow x m).exp ≤ m
  | 0, x => by rw [dLow_stop (by omega)]; simp
  | m + 1, x => by
    by_cases he : rEven x = true
    · rw [dLow_step (by omega) he, show ((m + 1 : Nat) : Int) - 1 = (m : Int) from by omega]
      have := dLow_exp m (rHalf x)
      omega
    · rw [dLow_stop fun _ => by simpa using he]
      dsimp only
      omega
theorem dLow_expI {x : Rg} {e : Int} (h0 : 0 ≤ e) : 0 ≤ (dLow x e).exp ∧ (dLow x e).exp ≤ e := by
  obtain ⟨m, rfl⟩ : ∃ m : Nat, e = m := ⟨e.toNat, by omega⟩
  exact dLow_exp m x
theorem sMul_exp {f : Bool} {x y : Dy} (hx : 0 ≤ x.exp ∧ x.exp ≤ 60) (hy : 0 ≤ y.exp ∧ y.exp ≤ 60) : 0 ≤ (sMul f x y).2.exp ∧ (sMul f x y).2.exp ≤ 60 := by
  unfold sMul
  split
  · exact ⟨Int.le_refl _, by decide⟩
  · have := dLow_expI (x := sRing (rMul x.num y.num)) (e := x.exp + y.exp) (by omega)
    dsimp only
    omega
theorem sAdd_exp {f : Bool} {x y : Dy} (hx : 0 ≤ x.exp ∧ x.exp ≤ 60) (hy : 0 ≤ y.exp ∧ y.exp ≤ 60) : 0 ≤ (sAdd f x y).2.exp ∧ (sAdd f x y).2.exp ≤ 60 := by
  unfold sAdd
  dsimp only
  rw [sRaise_exp]
  have := fun z => dLow_expI (x := z) (e := x.exp + ((y.exp - x.exp).toNat : Int)) (by omega)
  have h := this (sRing (rAdd (sRaiseN (y.exp - x.exp).toNat f x).2.num (sRaiseN (x.exp + ((y.exp - x.exp).toNat : Int) - y.exp).toNat (sRaiseN (y.exp - x.exp).toNat f x).1 y).2.num))
  omega
theorem dotS_exp {a b : Mx} (ha : AllOk a) (hb : AllOk b) (f : Bool) (i j : Nat) : ∀ n, 0 ≤ (dotS f a b i j n).2.exp ∧ (dotS f a b i j n).2.exp ≤ 60
  | 0 => ⟨Int.le_refl _, show (0 : Int) ≤ 60 by decide⟩
  | n + 1 => by
    rw [dotS]
    split
    · exact dotS_exp ha hb f i j n
    · exact sAdd_exp (dotS_exp ha hb f i j n) (sMul_exp (dOk_exp (Mx.at_ok ha i n)) (dOk_exp (Mx.at_ok hb n j)))
theorem dot_end {a b : Mx} {f f3 : Bool} {i j k n : Nat} {s : Dy} (h : dotS f a b i j k = (f3, s)) (hk : k ≤ n) (he : f3 = true ∨ k = n) : dotS f a b i j n = (f3, s) := by
  rcases he with he | he
  · subst he
    rw [dotS_bad (n := k) (by rw [h]) n hk, h]
  · subst he; exact h
theorem dot_next {a b : Mx} {f f3 : Bool} {i j k : Nat} {s : Dy} (h : dotS f a b i j k = (f3, s)) (hf : f3 = false) :
    dotS f a b i j (k + 1) = ((sAdd (sMul f3 (a.at i k) (b.at k j)).1 s (sMul f3 (a.at i k) (b.at k j)).2).1, (sAdd (sMul f3 (a.at i k) (b.at k j)).1 s (sMul f3 (a.at i k) (b.at k j)).2).2) := by
  subst hf
  rw [dotS, h, if_neg (show ¬ (false = true) by decide)]
theorem grid_le {a b : Nat} (ha : a ≤ 32) (hb : b ≤ 32) : a * b ≤ 1024 := Nat.le_trans (Nat.mul_le_mul ha hb) (by decide)
end Go.Proofs.YtfgnmflfiobkmaaGreat
namespace Go.Proofs.YtfgnmflfiobkmaaGreat
open Go.RowKit
theorem runS_cols (n : Int) : ∀ (l : List Gt) (f : Bool) (m : Mx), (runS n f l m).2.cols = m.cols
  | [], _, _ => rfl
  | g :: l, f, m => by
    rw [runS]
    split
    · rfl
    · rw [runS_cols n l]; rfl
theorem opS_cols {c : Cx} {m : Mx} (h : opS c = some m) : m.cols = ((2 ^ c.n.toNat : Nat) : Int) := by
  unfold opS at h
  split at h
  · split at h
    · cases h
    · injection h with h
      subst h
      rw [runS_cols]
      rfl
  · cases h
theorem op_lens {p q : Cx} (h1 : (opS p).isSome = true) (h2 : (opS q).isSome = true) (h3 : p.n = q.n) : ((opS p).getD mZ).cells.length = ((opS q).getD mZ).cells.length := by
  cases hp : opS p with
  | none => rw [hp] at h1; cases h1
  | some x =>
    cases hq : opS q with
    | none => rw [hq] at h2; cases h2
    | some y =>
      simp only [Option.getD_some]
      rw [op_len hp, op_len hq, opS_cols hp, opS_cols hq, h3]
end Go.Proofs.YtfgnmflfiobkmaaGreat
namespace Go.Proofs.YtfgnmflfiobkmaaGreat
open Go.RowKit
theorem getD_getB {l : List Int} {k : Nat} (h : decide ((k : Int) < (l.length : Int)) = true) : l[k]? = some (l.getD k 0) := getD_get (by simpa using h)
def putI : List Int → Int → List Int
  | [], n => [n]
  | x :: l, n => if x < n then x :: putI l n else if x = n then x :: l else n :: x :: l
theorem put_len : ∀ (l : List Int) (n : Int), (putI l n).length ≤ l.length + 1
  | [], n => by simp [putI]
  | x :: l, n => by
    unfold putI
    split
    · have := put_len l n; simp only [List.length_cons]; omega
    · split <;> simp
theorem put_at : ∀ (l : List Int) (n : Int) (k : Nat), (l.take k).all (fun x => decide (x < n)) = true → k ≤ l.length → (k < l.length → ¬ l.getD k 0 < n) →
    (k < l.length ∧ l.getD k 0 = n → putI l n = l) ∧ (¬ (k < l.length ∧ l.getD k 0 = n) → putI l n = l.take k ++ [n] ++ l.drop k)
  | [], n, k, _, hk, _ => by
    have : k = 0 := by simpa using hk
    subst this
    exact ⟨fun h => by simp at h, fun _ => rfl⟩
  | x :: l, n, 0, _, _, h => by
    have h := h (by simp)
    simp only [List.getD_cons_zero] at h
    refine ⟨fun h1 => ?_, fun h1 => ?_⟩
    · have h2 := h1.2
      simp only [List.getD_cons_zero] at h2
      rw [putI, if_neg h, if_pos h2]
    · have h2 : ¬ x = n := fun e => h1 ⟨by simp, by simpa using e⟩
      rw [putI, if_neg h, if_neg h2]
      rfl
  | x :: l, n, k + 1, ha, hk, h => by
    simp only [List.take_succ_cons, List.all_cons, Bool.and_eq_true, decide_eq_true_eq] at ha
    have ih := put_at l n k ha.2 (by simpa using hk) (fun h1 => by have := h (by simpa using h1); simpa using this)
    simp only [List.length_cons, Nat.add_lt_add_iff_right, List.getD_cons_succ, List.take_succ_cons, List.drop_succ_cons, List.cons_append] at *
    rw [putI, if_pos ha.1]
    exact ⟨fun h1 => by rw [ih.1 h1], fun h1 => by rw [ih.2 h1]⟩
def usedStep (m : List Int) (g : Gt) : List Int := if g.k = 12 then m else if inR g.k 9 11 = true then putI (putI m g.a) g.b else putI m g.a
def usedS (l : List Gt) : List Int := l.foldl usedStep []
theorem foldl_step {α β : Type} {f : β → α → β} {b : β} {l : List α} {k : Nat} {u : α} (h : l[k]? = some u) : (l.take (k + 1)).foldl f b = f ((l.take k).foldl f b) u := by
  rw [List.take_add_one, h]
  simp
theorem usedStep_len (m : List Int) (g : Gt) : (usedStep m g).length ≤ m.length + 2 := by
  unfold usedStep
  split
  · omega
  · split
    · have h1 := put_len m g.a; have h2 := put_len (putI m g.a) g.b; omega
    · have h1 := put_len m g.a; omega
theorem usedFold_len : ∀ (l : List Gt) (m : List Int), (l.foldl usedStep m).length ≤ m.length + 2 * l.length
  | [], m => by simp
  | g :: l, m => by
    have h1 := usedFold_len l (usedStep m g)
    have h2 := usedStep_len m g
    simp only [List.foldl_cons, List.length_cons]
    omega
theorem usedS_len (l : List Gt) : (usedS l).length ≤ 2 * l.length := by have := usedFold_len l []; simpa [usedS] using this
def lastN (l : List Int) (q : Int) : Nat → Int
  | 0 => 0
  | k + 1 => if l.getD k 0 = q then (k : Int) else lastN l q k
theorem lastN_step {l : List Int} {q u : Int} {k : Nat} (h : l[k]? = some u) : lastN l q (k + 1) = if u = q then (k : Int) else lastN l q k := by
  have : l.getD k 0 = u := by rw [List.getD_eq_getElem?_getD, h]; rfl
  rw [lastN, this]
section
variable {us : List Int} {j : Nat} {v q x k : Int}
theorem small_xT (h : us[j]? = some v) (hc : (k != 12 && v == q) = true) : (j : Int) = if k = 12 then 0 else lastN us q (j + 1) := by
  simp only [Bool.and_eq_true, bne_iff_ne, beq_iff_eq] at hc
  rw [if_neg hc.1, lastN_step h, if_pos hc.2]
theorem small_xF (h : us[j]? = some v) (hx : x = if k = 12 then 0 else lastN us q j) (hc : (k != 12 && v == q) = false) : x = if k = 12 then 0 else lastN us q (j + 1) := by
  rw [hx, lastN_step h]
  by_cases h1 : k = 12
  · rw [if_pos h1, if_pos h1]
  · rw [if_neg h1, if_neg h1, if_neg]
    intro h2
    simp [h1, h2] at hc
theorem small_yT (h : us[j]? = some v) (hc : (inR k 9 11 && v == q) = true) : (j : Int) = if inR k 9 11 = true then lastN us q (j + 1) else 0 := by
  simp only [Bool.and_eq_true, beq_iff_eq] at hc
  rw [if_pos hc.1, lastN_step h, if_pos hc.2]
theorem small_yF (h : us[j]? = some v) (hx : x = if inR k 9 11 = true then lastN us q j else 0) (hc : (inR k 9 11 && v == q) = false) : x = if inR k 9 11 = true then lastN us q (j + 1) else 0 := by
  rw [hx, lastN_step h]
  by_cases h1 : inR k 9 11 = true
  · rw [if_pos h1, if_pos h1, if_neg]
    intro h2
    simp [h1, h2] at hc
  · rw [if_neg h1, if_neg h1]
end
def smallG (used : List Int) (g : Gt) : Gt := ⟨g.k, if g.k = 12 then 0 else lastN used g.a used.length, if inR g.k 9 11 = true then lastN used g.b used.length else 0⟩
def validS (n : Int) (r : Rp) : Bool := inR n 1 5 && inR r.pos 0 400 && (!(r.old.any fun x => !gOk n x) && decide ((r.old.length : Int) ≤ 40)) && (!(r.new.any fun x => !gOk n x) && decide ((r.new.length : Int) ≤ 40))
theorem valid_eq (n : Int) (r : Rp) : validS n r = vrI n r := by
  unfold validS vrI
  cases inR n 1 5 <;> cases inR r.pos 0 400 <;> cases (r.old.any fun x => !gOk n x) <;> cases (r.new.any fun x => !gOk n x) <;> cases decide ((r.old.length : Int) ≤ 40) <;> cases decide ((r.new.length : Int) ≤ 40) <;> rfl
end Go.Proofs.YtfgnmflfiobkmaaGreat
namespace Go.Proofs.YtfgnmflfiobkmaaGreat
open Go.RowKit
abbrev Inc (l : List Int) : Prop := l.Pairwise (· < ·)
theorem inc_ext : ∀ (l m : List Int), Inc l → Inc m → (∀ x, x ∈ l ↔ x ∈ m) → l = m
  | [], [], _, _, _ => rfl
  | [], y :: m, _, _, h => by have := (h y).2 (by simp); cases this
  | x :: l, [], _, _, h => by have := (h x).1 (by simp); cases this
  | x :: l, y :: m, hl, hm, h => by
    have hl' := List.pairwise_cons.1 hl
    have hm' := List.pairwise_cons.1 hm
    have hxy : x = y := by
      have h1 := (h x).1 (by simp)
      have h2 := (h y).2 (by simp)
      rcases List.mem_cons.1 h1 with h1 | h1
      · exact h1
      · rcases List.mem_cons.1 h2 with h2 | h2
        · exact h2.symm
        · have h3 := hm'.1 x h1
          have h4 := hl'.1 y h2
          omega
    subst hxy
    congr 1
    refine inc_ext l m hl'.2 hm'.2 fun z => ?_
    constructor
    · intro hz
      rcases List.mem_cons.1 ((h z).1 (List.mem_cons_of_mem _ hz)) with h1 | h1
      · have := hl'.1 z hz; omega
      · exact h1
    · intro hz
      rcases List.mem_cons.1 ((h z).2 (List.mem_cons_of_mem _ hz)) with h1 | h1
      · have := hm'.1 z hz; omega
      · exact h1
theorem put_mem : ∀ (l : List Int) (n x : Int), x ∈ putI l n ↔ x ∈ l ∨ x = n
  | [], n, x => by simp [putI]
  | y :: l, n, x => by
    unfold putI
    split
    · rw [List.mem_cons, put_mem l n x, List.mem_cons, or_assoc]
    · split
      · rename_i h; subst h; simp only [List.mem_cons]; constructor
        · exact .inl
        · rintro (h | h)
          · exact h
          · exact .inl h
      · simp only [List.mem_cons]; constructor
        · rintro (h | h | h)
          · exact .inr h
          · exact .inl (.inl h)
          · exact .inl (.inr h)
        · rintro ((h | h) | h)
          · exact .inr (.inl h)
          · exact .inr (.inr h)
          · exact .inl h
theorem put_inc : ∀ (l : List Int) (n : Int), Inc l → Inc (putI l n)
  | [], n, _ => by simp [putI]
  | y :: l, n, h => by
    have h' := List.pairwise_cons.1 h
    unfold putI
    split
    · rename_i h1
      refine List.pairwise_cons.2 ⟨fun z hz => ?_, put_inc l n h'.2⟩
      rcases (put_mem l n z).1 hz with h2 | h2
      · exact h'.1 z h2
      · omega
    · split
      · exact h
      · rename_i h1 h2
        refine List.pairwise_cons.2 ⟨fun z hz => ?_, h⟩
        rcases List.mem_cons.1 hz with h3 | h3
        · omega
        · have := h'.1 z h3; omega
theorem usedStep_mem (m : List Int) (g : Gt) (x : Int) : x ∈ usedStep m g ↔ x ∈ m ∨ x ∈ qubI g := by
  unfold usedStep qubI
  split
  · simp
  · split
    · rw [put_mem, put_mem, or_assoc]; simp
    · rw [put_mem]; simp
theorem usedFold_mem : ∀ (l : List Gt) (m : List Int) (x : Int), x ∈ l.foldl usedStep m ↔ x ∈ m ∨ ∃ g ∈ l, x ∈ qubI g
  | [], m, x => by simp
  | g :: l, m, x => by
    rw [List.foldl_cons, usedFold_mem l, usedStep_mem, or_assoc]
    simp
theorem usedStep_inc {m : List Int} (g : Gt) (h : Inc m) : Inc (usedStep m g) := by
  unfold usedStep
  split
  · exact h
  · split
    · exact put_inc _ _ (put_inc _ _ h)
    · exact put_inc _ _ h
theorem usedFold_inc : ∀ (l : List Gt) (m : List Int), Inc m → Inc (l.foldl usedStep m)
  | [], m, h => h
  | g :: l, m, h => usedFold_inc l _ (usedStep_inc g h)
theorem usedS_mem (l : List Gt) (x : Int) : x ∈ usedS l ↔ ∃ g ∈ l, x ∈ qubI g := by unfold usedS; rw [usedFold_mem]; simp
theorem usedS_inc (l : List Gt) : Inc (usedS l) := usedFold_inc l [] List.Pairwise.nil
theorem sortI_mem (l : List Int) (x : Int) : x ∈ sortI l ↔ x ∈ l := List.mem_mergeSort
theorem sortI_sorted (l : List Int) : (sortI l).Pairwise (· ≤ ·) := by
  have := List.pairwise_mergeSort (le := fun x y : Int => decide (x ≤ y)) (fun a b c h1 h2 => by simp only [decide_eq_true_eq] at *; omega) (fun a b => by simp only [Bool.or_eq_true, decide_eq_true_eq]; omega) l
  exact this.imp fun h => by simpa using h
theorem sorted_get {l : List Int} (h : l.Pairwise (· ≤ ·)) {i j : Nat} (hij : i ≤ j) (hj : j < l.length) : l[i]'(by omega) ≤ l[j] := by
  rcases Nat.lt_or_ge i j with h1 | h1
  · exact List.pairwise_iff_getElem.1 h i j (by omega) hj h1
  · obtain rfl : i = j := by omega
    exact Int.le_refl _
theorem arr_get {l : List Int} {j : Nat} (hj : j < l.length) : l.toArray[j]! = l[j] := by
  rw [getElem!_pos l.toArray j (by simpa using hj)]
  simp
theorem keeps_iff {l : List Int} {j : Nat} (hj : j < l.length) : Lib.keeps l.toArray j = true ↔ j = 0 ∨ l[j] ≠ l[j - 1] := by
  unfold Lib.keeps
  rw [decide_eq_true_eq, arr_get hj, arr_get (show j - 1 < l.length by omega)]
theorem compact_mem (l : List Int) (x : Int) : x ∈ Lib.compact l ↔ x ∈ l := by
  unfold Lib.compact Lib.compactUpTo
  rw [List.mem_map]
  constructor
  · rintro ⟨j, hj, rfl⟩
    have hj' := List.mem_range.1 (List.mem_filter.1 hj).1
    rw [arr_get hj']
    exact List.getElem_mem _
  · intro hx
    obtain ⟨j, hj, hjx⟩ := List.mem_iff_getElem.1 hx
    have key : ∀ n j, j ≤ n → (hj : j < l.length) → l[j] = x → ∃ k, ∃ hk : k < l.length, l[k] = x ∧ (k = 0 ∨ l[k] ≠ l[k - 1]) := by
      intro n
      induction n with
      | zero => intro j h0 hj hx; obtain rfl : j = 0 := by omega
                exact ⟨0, hj, hx, .inl rfl⟩
      | succ n ih =>
        intro j h0 hj hx
        by_cases h : j = 0 ∨ l[j] ≠ l[j - 1]
        · exact ⟨j, hj, hx, h⟩
        · have h1 : ¬ j = 0 := fun e => h (.inl e)
          have h2 : l[j] = l[j - 1] := Classical.byContradiction fun e => h (.inr e)
          exact ih (j - 1) (by omega) (by omega) (by rw [← h2]; exact hx)
    obtain ⟨k, hk, h1, h2⟩ := key j j (Nat.le_refl _) hj hjx
    exact ⟨k, List.mem_filter.2 ⟨List.mem_range.2 hk, (keeps_iff hk).2 h2⟩, by rw [arr_get hk]; exact h1⟩
theorem compact_inc {l : List Int} (h : l.Pairwise (· ≤ ·)) : Inc (Lib.compact l) := by
  unfold Lib.compact Lib.compactUpTo
  rw [Inc, List.pairwise_map]
  refine List.Pairwise.imp_of_mem (R := (· < ·)) (fun {i j} hi hj hij => ?_) (List.Pairwise.filter _ List.pairwise_lt_range)
  have hi' := List.mem_range.1 (List.mem_filter.1 hi).1
  have hj' := List.mem_range.1 (List.mem_filter.1 hj).1
  have hk := (keeps_iff hj').1 (List.mem_filter.1 hj).2
  rw [arr_get hi', arr_get hj']
  have h1 := sorted_get h (show i ≤ j - 1 by omega) (by omega)
  have h2 := sorted_get h (show j - 1 ≤ j by omega) hj'
  have h3 : l[j] ≠ l[j - 1] := hk.resolve_left (by omega)
  omega
theorem union_mem (p q : List Int) (x : Int) : x ∈ unionI p q ↔ x ∈ p ∨ x ∈ q := by
  unfold unionI
  rw [compact_mem, sortI_mem]
  simp
theorem union_inc (p q : List Int) : Inc (unionI p q) := compact_inc (sortI_sorted _)
theorem usedI_mem (l : List Gt) (x : Int) : x ∈ usedI l ↔ ∃ g ∈ l, x ∈ qubI g := by
  unfold usedI
  rw [union_mem]
  simp [List.mem_flatMap]
theorem used_eq (p q : List Gt) : unionI (usedI p) (usedI q) = usedS (p ++ q) := by
  refine inc_ext _ _ (union_inc _ _) (usedS_inc _) fun x => ?_
  rw [union_mem, usedI_mem, usedI_mem, usedS_mem]
  constructor
  · rintro (⟨g, hg, hx⟩ | ⟨g, hg, hx⟩)
    · exact ⟨g, List.mem_append_left _ hg, hx⟩
    · exact ⟨g, List.mem_append_right _ hg, hx⟩
  · rintro ⟨g, hg, hx⟩
    rcases List.mem_append.1 hg with hg | hg
    · exact .inl ⟨g, hg, hx⟩
    · exact .inr ⟨g, hg, hx⟩
theorem set_getD {l : List Int} {i j : Nat} {x : Int} (hi : i < l.length) : (l.set i x).getD j 0 = if i = j then x else l.getD j 0 := by
  rw [List.getD_eq_getElem?_getD, List.getElem?_set]
  split
  · rename_i h; subst h; simp [hi]
  · rw [List.getD_eq_getElem?_getD]
theorem numb_last {l : List Int} (hq : ∀ x ∈ l, 0 ≤ x ∧ x ≤ 4) {q : Int} (h0 : 0 ≤ q) (h4 : q ≤ 4) : ∀ k, k ≤ l.length → (numbI (l.take k)).getD q.toNat 0 = lastN l q k
  | 0, _ => by
    have : q = 0 ∨ q = 1 ∨ q = 2 ∨ q = 3 ∨ q = 4 := by omega
    rcases this with rfl | rfl | rfl | rfl | rfl <;> rfl
  | k + 1, hk => by
    have hu := List.getElem?_eq_getElem (show k < l.length by omega)
    have hb := hq _ (List.getElem_mem (show k < l.length by omega))
    rw [numb_step hu, lastN_step hu, set_getD (by rw [numb_len]; omega), numb_last hq h0 h4 k (by omega)]
    by_cases h : l[k] = q
    · rw [if_pos h, if_pos (by rw [h])]
    · rw [if_neg h, if_neg (by omega)]
structure GoodG (us : List Int) (n : Int) (g : Gt) : Prop where
  ok : gOk n g = true
  use : ∀ x ∈ qubI g, x ∈ us
theorem map_small {us : List Int} {n : Int} {g : Gt} (hq : ∀ x ∈ us, 0 ≤ x ∧ x ≤ 4) (h : GoodG us n g) : mapG (numbI us) g = smallG us g := by
  obtain ⟨hn, hk, ha, hb⟩ := gOk_spec h.ok
  have hf : ∀ q, 0 ≤ q → q ≤ 4 → (numbI us).getD q.toNat 0 = lastN us q us.length := fun q h0 h4 => by
    have := numb_last hq h0 h4 us.length (Nat.le_refl _)
    rwa [List.take_length] at this
  unfold mapG smallG
  have hok := h.ok
  simp only [gOk, Bool.and_eq_true, inR_iff] at hok
  by_cases h12 : g.k = 12
  · have h9 : ¬ inR g.k 9 11 = true := fun e => by have := inR_iff.1 e; omega
    rw [if_pos h12] at hok
    simp only [Bool.and_eq_true, beq_iff_eq] at hok
    rw [if_pos h12, if_pos h12, if_neg h9, if_neg h9, hok.2.1, hok.2.2]
  · have ha := ha h12
    rw [if_neg h12] at hok ⊢
    rw [if_neg h12, hf g.a (by omega) (by omega)]
    by_cases h9 : inR g.k 9 11 = true
    · have hb := hb (inR_iff.1 h9)
      rw [if_pos h9, if_pos h9, hf g.b (by omega) (by omega)]
    · rw [if_neg h9, if_neg h9]
      rw [if_neg (fun e => h9 (inR_iff.2 e))] at hok
      simp only [Bool.and_eq_true, beq_iff_eq] at hok
      rw [hok.2.2]
theorem qub_bound {n : Int} {g : Gt} (h : gOk n g = true) {x : Int} (hx : x ∈ qubI g) : 0 ≤ x ∧ x ≤ 4 := by
  obtain ⟨hn, hk, ha, hb⟩ := gOk_spec h
  unfold qubI at hx
  split at hx
  · cases hx
  · rename_i h12
    have ha := ha h12
    split at hx
    · rename_i h9
      have hb := hb (inR_iff.1 h9)
      rcases List.mem_cons.1 hx with hx | hx
      · omega
      · have := List.mem_singleton.1 hx; omega
    · have := List.mem_singleton.1 hx; omega
def smallC (l : List Gt) (us : List Int) : Cx := ⟨max 1 (us.length : Int), l.map (smallG us)⟩
def mapC (l : List Gt) (us : List Int) : Cx := ⟨max (us.length : Int) 1, mapI l (numbI us)⟩
def justS (r : Rp) : Bool × Bool := sameS (smallC r.old (usedS (r.old ++ r.new))) (smallC r.new (usedS (r.old ++ r.new)))
def justI (r : Rp) : Bool × Bool := sameI (mapC r.old (unionI (usedI r.old) (usedI r.new))) (mapC r.new (unionI (usedI r.old) (usedI r.new)))
theorem vr_spec {n : Int} {r : Rp} (h : vrI n r = true) : (1 ≤ n ∧ n ≤ 5) ∧ (r.old.length ≤ 40 ∧ r.new.length ≤ 40) ∧ (∀ g ∈ r.old, gOk n g = true) ∧ (∀ g ∈ r.new, gOk n g = true) := by
  simp only [vrI, Bool.and_eq_true, inR_iff, decide_eq_true_eq, Bool.not_eq_true', List.any_eq_false] at h
  refine ⟨h.1.1.1.1.1, by omega, fun g hg => by simpa using h.1.2 g hg, fun g hg => by simpa using h.2 g hg⟩
theorem used_bound {n : Int} {l : List Gt} (h : ∀ g ∈ l, gOk n g = true) : ∀ x ∈ usedS l, 0 ≤ x ∧ x ≤ 4 := fun x hx => by
  obtain ⟨g, hg, hx⟩ := (usedS_mem l x).1 hx
  exact qub_bound (h g hg) hx
theorem mapC_eq {n : Int} {l : List Gt} {us : List Int} (hq : ∀ x ∈ us, 0 ≤ x ∧ x ≤ 4) (h : ∀ g ∈ l, GoodG us n g) : mapC l us = smallC l us := by
  unfold mapC smallC mapI
  rw [Int.max_comm]
  congr 1
  exact List.map_congr_left fun g hg => map_small hq (h g hg)
theorem just_eq {n : Int} {r : Rp} (h : vrI n r = true) : justI r = justS r := by
  obtain ⟨hn, hl, ho, hw⟩ := vr_spec h
  have hall : ∀ g ∈ r.old ++ r.new, gOk n g = true := fun g hg => by
    rcases List.mem_append.1 hg with hg | hg
    · exact ho g hg
    · exact hw g hg
  have hq := used_bound hall
  have hgo : ∀ g ∈ r.old ++ r.new, GoodG (usedS (r.old ++ r.new)) n g := fun g hg => ⟨hall g hg, fun x hx => (usedS_mem _ x).2 ⟨g, hg, hx⟩⟩
  unfold justI justS
  rw [used_eq, mapC_eq hq fun g hg => hgo g (List.mem_append_left _ hg), mapC_eq hq fun g hg => hgo g (List.mem_append_right _ hg), same_eq]
end Go.Proofs.YtfgnmflfiobkmaaGreat
namespace Go.Proofs.YtfgnmflfiobkmaaGreat
open Go.RowKit
theorem vr_qubits {n : Int} {l : List Gt} (h : ∀ g ∈ l, gOk n g = true) : ∀ g ∈ l, (g.k ≠ 12 → 0 ≤ g.a ∧ g.a < 5) ∧ (inR g.k 9 11 = true → 0 ≤ g.b ∧ g.b < 5) := fun g hg => by
  obtain ⟨hn, hk, ha, hb⟩ := gOk_spec (h g hg)
  exact ⟨fun h1 => by have := ha h1; omega, fun h1 => by have := hb (inR_iff.1 h1); omega⟩
theorem vr_used {n : Int} {r : Rp} (h : vrI n r = true) : ∀ x ∈ unionI (usedI r.old) (usedI r.new), 0 ≤ x ∧ x ≤ 4 := fun x hx => by
  obtain ⟨_, _, ho, hw⟩ := vr_spec h
  rw [used_eq] at hx
  refine used_bound (n := n) (fun g hg => ?_) x hx
  rcases List.mem_append.1 hg with hg | hg
  · exact ho g hg
  · exact hw g hg
def implJ (n : Int) (r : Rp) : Bool × Bool := if vrI n r = true then justI r else (false, false)
def specJ (n : Int) (r : Rp) : Bool × Bool := if validS n r = true then justS r else (false, false)
theorem implJ_eq (n : Int) (r : Rp) : implJ n r = specJ n r := by
  unfold implJ specJ
  rw [valid_eq]
  split
  · rename_i h; exact just_eq h
  · rfl
def szG (l : List Gt) (left : Int) : Int := if left - (l.length : Int) < 0 then -1 else left - (l.length : Int)
def szR (r : Rp) (left : Int) : Int := if szG r.old left < 0 then -1 else if szG r.new (szG r.old left) < 0 then -1 else szG r.new (szG r.old left)
theorem szG_le {l : List Gt} {left : Int} (h : ¬ szG l left < 0) : szG l left = left - (l.length : Int) ∧ 0 ≤ left - (l.length : Int) := by
  unfold szG at *
  split
  · rename_i h1; rw [if_pos h1] at h; omega
  · exact ⟨rfl, by omega⟩
theorem szR_le {r : Rp} {left : Int} (h : ¬ szR r left < 0) : (r.old.length : Int) + (r.new.length : Int) ≤ left ∧ szR r left = left - (r.old.length : Int) - (r.new.length : Int) := by
  unfold szR at *
  split
  · rename_i h1; rw [if_pos h1] at h; omega
  · rename_i h1
    rw [if_neg h1] at h
    obtain ⟨h2, h3⟩ := szG_le h1
    split
    · rename_i h4; rw [if_pos h4] at h; omega
    · rename_i h4
      obtain ⟨h5, h6⟩ := szG_le h4
      rw [h2] at h5 h6
      exact ⟨by omega, by rw [h2]; rw [h5]⟩
theorem set_take {α : Type} {m l : List α} {k : Nat} {u : α} (h : m.take k = l.take k) (hk : k < m.length) (hu : l[k]? = some u) : (m.set k u).take (k + 1) = l.take (k + 1) := by
  rw [List.take_add_one, List.take_add_one, hu, ← h]
  congr 1
  · rw [List.take_set_of_le (Nat.le_refl _)]
  · simp [hk]
end Go.Proofs.YtfgnmflfiobkmaaGreat
namespace Go.Proofs.YtfgnmflfiobkmaaGreat
open Go.RowKit
structure Sr where (pos : Int) (A : Option Addr) (c : Nat) (old : List Gt) (B : Option Addr) (d : Nat) (new : List Gt)
def encSr (s : Sr) : List Value := [.int .i64 s.pos, .slice s.A s.old.length s.c, .slice s.B s.new.length s.d]
theorem encSr_len : ∀ x, (encSr x).length = 3 := fun _ => rfl
theorem encSr_one : ∀ x, (encSr x).all one = true := fun _ => rfl
abbrev Sr.rp (s : Sr) : Rp := ⟨s.pos, s.old, s.new⟩
def srZ : Sr := ⟨0, none, 0, [], none, 0, []⟩
def DeepR (w : World) (B : Nat) (E : TypeId) (l : List Sr) : Prop := ∀ s ∈ l, Rd w B E encG s.A s.old ∧ Rd w B E encG s.B s.new
def DeepX (w : World) (B : Nat) (l : List Sr) : Prop := ∀ s ∈ l, (∃ E, Rd w B E encG s.A s.old) ∧ ∃ E, Rd w B E encG s.B s.new
section
variable {w w' : World} {B : Nat} {E : TypeId} {l : List Sr}
theorem DeepR.below (h : DeepR w B E l) (hb : Below w.heap.size w w') : DeepR w' B E l := fun s hs => ⟨(h s hs).1.below hb, (h s hs).2.below hb⟩
theorem DeepR.top (h : DeepR w B E l) : DeepR w w.heap.size E l := fun s hs => ⟨(h s hs).1.top, (h s hs).2.top⟩
theorem DeepR.only {b : Nat} (h : DeepR w B E l) (ho : Only b w w') (hB : B ≤ b) : DeepR w' B E l := fun s hs => ⟨(h s hs).1.only ho hB, (h s hs).2.only ho hB⟩
theorem DeepR.onlyT {b : Nat} {T : TypeId} {lc : List Value} (h : DeepR w B E l) (ho : Only b w w') (hb : Blk w b T lc) (hT : Nat.beq E T = false) : DeepR w' B E l := fun s hs => ⟨(h s hs).1.onlyT ho hb hT, (h s hs).2.onlyT ho hb hT⟩
theorem DeepR.appB {B0 : Nat} {E' : TypeId} {sz : Nat} {α : Type} {enc : α → List Value} {A : Option Addr} {c : Nat} {m : List α} (h : DeepR w B E l) (ho : Own w B0 E' sz enc A c m) (hg : w.grownBy w' (Value.slice A m.length c).ownBlock) (hB : B ≤ B0) : DeepR w' B E l := fun s hs => ⟨(h s hs).1.appB ho hg hB, (h s hs).2.appB ho hg hB⟩
theorem DeepR.appT {B0 : Nat} {E' : TypeId} {sz : Nat} {α : Type} {enc : α → List Value} {A : Option Addr} {c : Nat} {m : List α} (h : DeepR w B E l) (ho : Own w B0 E' sz enc A c m) (hg : w.grownBy w' (Value.slice A m.length c).ownBlock) (hT : Nat.beq E' E = false) : DeepR w' B E l := fun s hs => ⟨(h s hs).1.appT ho hg hT, (h s hs).2.appT ho hg hT⟩
theorem DeepX.below (h : DeepX w B l) (hb : Below w.heap.size w w') : DeepX w' B l := fun s hs => ⟨(h s hs).1.imp fun _ k => k.below hb, (h s hs).2.imp fun _ k => k.below hb⟩
theorem DeepX.top (h : DeepX w B l) : DeepX w w.heap.size l := fun s hs => ⟨(h s hs).1.imp fun _ k => k.top, (h s hs).2.imp fun _ k => k.top⟩
theorem DeepX.only {b : Nat} (h : DeepX w B l) (ho : Only b w w') (hB : B ≤ b) : DeepX w' B l := fun s hs => ⟨(h s hs).1.imp fun _ k => k.only ho hB, (h s hs).2.imp fun _ k => k.only ho hB⟩
theorem DeepX.appB {B0 : Nat} {E' : TypeId} {sz : Nat} {α : Type} {enc : α → List Value} {A : Option Addr} {c : Nat} {m : List α} (h : DeepX w B l) (ho : Own w B0 E' sz enc A c m) (hg : w.grownBy w' (Value.slice A m.length c).ownBlock) (hB : B ≤ B0) : DeepX w' B l := fun s hs => ⟨(h s hs).1.imp fun _ k => k.appB ho hg hB, (h s hs).2.imp fun _ k => k.appB ho hg hB⟩
end
theorem DeepR.zero (w : World) (B : Nat) (E : TypeId) (n : Nat) : DeepR w B E (List.replicate n srZ) := fun s hs => by
  obtain rfl := List.eq_of_mem_replicate hs
  exact ⟨Rd.nil _ _ _ _ _, Rd.nil _ _ _ _ _⟩
theorem DeepR.set {w : World} {B : Nat} {E : TypeId} {l : List Sr} (h : DeepR w B E l) {x : Sr} (h1 : Rd w B E encG x.A x.old) (h2 : Rd w B E encG x.B x.new) (k : Nat) : DeepR w B E (l.set k x) := fun s hs => by
  rcases List.mem_or_eq_of_mem_set hs with hs | hs
  · exact h s hs
  · subst hs; exact ⟨h1, h2⟩
def cIf (c : Cx) : Option Cx := if cOk c = true then some c else none
def midC (c : Cx) (r : Rp) : Cx := ⟨c.n, c.gs.take r.pos.toNat ++ (r.new ++ (c.gs.drop (r.pos.toNat + r.old.length) ++ []))⟩
def fitI (c : Cx) (r : Rp) : Bool := cOk c && vrI c.n r && decide (r.pos + (r.old.length : Int) ≤ (c.gs.length : Int)) && decide ((c.gs.take (r.pos.toNat + r.old.length)).drop r.pos.toNat = r.old)
def applyI (c : Cx) (r : Rp) : Option Cx := if fitI c r = true then cIf (midC c r) else none
def fitS (c : Cx) (r : Rp) : Bool := validS c.n r && decide (r.pos + (r.old.length : Int) ≤ (c.gs.length : Int)) && decide ((c.gs.length : Int) - (r.old.length : Int) + (r.new.length : Int) ≤ 400)
def applyS (c : Cx) (r : Rp) : Option Cx := if fitS c r = true ∧ (c.gs.take (r.pos.toNat + r.old.length)).drop r.pos.toNat = r.old then some ⟨c.n, c.gs.take r.pos.toNat ++ r.new ++ c.gs.drop (r.pos.toNat + r.old.length)⟩ else none
def eqC (c d : Cx) : Bool := c.n == d.n && decide (c.gs = d.gs)
def checkLI (i : Nat) (c : Cx) (d : Cx) : List Rp → Int
  | [] => if eqC c d = true then 0 else (i : Int) + 1
  | r :: l => if ((applyI c r).isSome && (implJ c.n r).2 && (implJ c.n r).1) = true then checkLI (i + 1) ((applyI c r).getD ⟨0, []⟩) d l else (i : Int) + 1
def checkLS (i : Nat) (c : Cx) (d : Cx) : List Rp → Int
  | [] => if eqC c d = true then 0 else (i : Int) + 1
  | r :: l => if ((applyS c r).isSome && (justS r).1 && (justS r).2) = true then checkLS (i + 1) ((applyS c r).getD ⟨0, []⟩) d l else (i : Int) + 1
def checkI (c d : Cx) (l : List Rp) : Int × Bool := if (cOk c && decide ((l.length : Int) ≤ 400)) = true then (checkLI 0 c d l, true) else (0, false)
def checkS (c d : Cx) (l : List Rp) : Int × Bool := if (cOk c && decide ((l.length : Int) ≤ 400)) = true then (checkLS 0 c d l, true) else (0, false)
theorem apply_eq {c : Cx} {r : Rp} (hc : cOk c = true) : applyI c r = applyS c r ∧ ∀ c', applyS c r = some c' → cOk c' = true ∧ c'.n = c.n ∧ vrI c.n r = true := by
  obtain ⟨hn, hl, hg⟩ := cOk_spec hc
  unfold applyI applyS fitI fitS
  rw [hc, valid_eq, Bool.true_and]
  by_cases hv : vrI c.n r = true
  · obtain ⟨_, hl2, ho, hw⟩ := vr_spec hv
    have hp : 0 ≤ r.pos := by simp only [vrI, Bool.and_eq_true, inR_iff] at hv; omega
    rw [hv, Bool.true_and]
    by_cases hle : r.pos + (r.old.length : Int) ≤ (c.gs.length : Int)
    · rw [decide_eq_true hle, Bool.true_and, Bool.true_and]
      by_cases he : (c.gs.take (r.pos.toNat + r.old.length)).drop r.pos.toNat = r.old
      · rw [decide_eq_true he, if_pos rfl]
        have hlen : (c.gs.take r.pos.toNat ++ r.new ++ c.gs.drop (r.pos.toNat + r.old.length)).length = c.gs.length - r.old.length + r.new.length := by
          simp only [List.length_append, List.length_take, List.length_drop]; omega
        have hall : ∀ g ∈ c.gs.take r.pos.toNat ++ r.new ++ c.gs.drop (r.pos.toNat + r.old.length), gOk c.n g = true := fun g h => by
          rcases List.mem_append.1 h with h | h
          · rcases List.mem_append.1 h with h | h
            · exact hg g (List.mem_of_mem_take h)
            · exact hw g h
          · exact hg g (List.mem_of_mem_drop h)
        have hmid : midC c r = ⟨c.n, c.gs.take r.pos.toNat ++ r.new ++ c.gs.drop (r.pos.toNat + r.old.length)⟩ := by unfold midC; simp
        by_cases h4 : (c.gs.length : Int) - (r.old.length : Int) + (r.new.length : Int) ≤ 400
        · have hok : cOk (midC c r) = true := by
            rw [hmid]
            have h5 : ((c.gs.take r.pos.toNat ++ r.new ++ c.gs.drop (r.pos.toNat + r.old.length)).any fun x => !gOk c.n x) = false := by
              rw [List.any_eq_false]; intro x hx; simp [hall x hx]
            unfold cOk
            simp only
            rw [h5, inR_iff.2 hn, hlen, decide_eq_true (by omega)]; rfl
          rw [cIf, if_pos hok, if_pos ⟨by simpa using h4, he⟩, hmid]
          refine ⟨rfl, fun c' h => ?_⟩
          injection h with h
          rw [← h]
          rw [hmid] at hok
          exact ⟨hok, rfl, rfl⟩
        · have hok : ¬ cOk (midC c r) = true := fun h => by
            obtain ⟨_, h6, _⟩ := cOk_spec h
            rw [hmid] at h6
            simp only at h6
            rw [hlen] at h6
            omega
          rw [cIf, if_neg hok, if_neg (fun h => h4 (by simpa using h.1))]
          exact ⟨rfl, fun c' h => by cases h⟩
      · rw [decide_eq_false he, if_neg (by decide), if_neg (fun h => he h.2)]
        exact ⟨rfl, fun c' h => by cases h⟩
    · rw [decide_eq_false hle]
      exact ⟨rfl, fun c' h => by simp at h⟩
  · have hv' : vrI c.n r = false := by simpa using hv
    rw [hv']
    exact ⟨rfl, fun c' h => by simp at h⟩
theorem checkL_eq (d : Cx) : ∀ (l : List Rp) (i : Nat) (c : Cx), cOk c = true → checkLI i c d l = checkLS i c d l
  | [], _, _, _ => rfl
  | r :: l, i, c, hc => by
    obtain ⟨h1, h2⟩ := apply_eq (r := r) hc
    unfold checkLI checkLS
    rw [h1]
    cases ha : applyS c r with
    | none => rfl
    | some c' =>
      obtain ⟨h3, h4, h5⟩ := h2 c' ha
      have hj : implJ c.n r = justS r := by rw [implJ_eq, specJ, valid_eq, if_pos h5]
      simp only [Option.isSome_some, Option.getD_some, Bool.true_and]
      rw [hj, checkL_eq d l (i + 1) c' h3, Bool.and_comm]
theorem check_eq (c d : Cx) (l : List Rp) : checkI c d l = checkS c d l := by
  unfold checkI checkS
  split
  · rename_i h
    rw [checkL_eq d l 0 c (by simp only [Bool.and_eq_true] at h; exact h.1)]
  · rfl
end Go.Proofs.YtfgnmflfiobkmaaGreat
namespace Go.Proofs.YtfgnmflfiobkmaaGreat
open Go.RowKit
structure Sg where (A : Option Addr) (c : Nat) (l : List Gt)
def encSg (s : Sg) : List Value := [.slice s.A s.l.length s.c]
theorem encSg_len : ∀ x, (encSg x).length = 1 := fun _ => rfl
def growRenG : Go.Shelf.Ren := ⟨fun | 4 => 153 | n => n, fun | 22 => 28 | 25 => 107 | n => n, fun | n => n⟩
theorem growLayG : Lays8.n4 Tryz.prog growRenG := {
  mixed := by kernel_rfl
  f4 := ⟨Tryz.f153.name, by decide, Tryz.func153.trans (congrArg some (by kernel_rfl))⟩
  t0 := Tryz.underlying0
  a0 := Tryz.isAgg0
  z0 := Tryz.sizeOf0
  v0 := Tryz.zeroValue0
  t3 := Tryz.underlying3
  a3 := Tryz.isAgg3
  z3 := Tryz.sizeOf3
  v3 := Tryz.zeroValue3
  t4 := Tryz.underlying4
  a4 := Tryz.isAgg4
  z4 := Tryz.sizeOf4
  v4 := Tryz.zeroValue4
  t9 := Tryz.underlying9
  a9 := Tryz.isAgg9
  z9 := Tryz.sizeOf9
  v9 := Tryz.zeroValue9
  t20 := Tryz.underlying20
  a20 := Tryz.isAgg20
  z20 := Tryz.sizeOf20
  v20 := Tryz.zeroValue20
  t22 := Tryz.underlying28
  a22 := Tryz.isAgg28
  z22 := Tryz.sizeOf28
  v22 := Tryz.zeroValue28 }
theorem F153 (w0 : World) (n : Nat) (hn : n ≤ 1000000000) : Ret Tryz.prog 153 [.slice none 0 0, .int .i64 (n : Int)] w0 (fun v w => ∃ A c, v = .slice A 0 c ∧ Own w w0.heap.size 107 3 encG A c ([] : List Gt) ∧ Below w0.heap.size w0 w) := by
  by_cases h0 : n = 0
  · subst h0
    refine Calls.mono (Any8.slices_Grow_room growLayG none 0 0 0 w0 (by omega) (by omega) (by omega) (by omega)) fun e w ⟨e1, e2⟩ => ⟨_, e1, none, 0, rfl, ?_⟩
    subst e2
    exact ⟨Own.nil _ _ _ _ _, Below.refl _ _⟩
  · obtain ⟨i, z, hi1, hi2, hi3, hi4, hi5, hi6⟩ := inf_107
    refine Calls.mono (Any8.slices_Grow_grow growLayG i z hi1 hi2 (by omega) none 0 0 n [] w0 (by omega) (by omega) (by rw [hi4]; omega) (by omega) (by simp) (fun _ => rfl) (fun a h => by cases h)) fun e w ⟨e1, e2⟩ => ⟨_, e1, _, _, rfl, ?_⟩
    subst e2
    have hge := grownCap_ge w0 (0 + n) 0 (growRenG.t 25)
    refine ⟨⟨rfl, .inr ⟨w0.heap.size, _, _, rfl, Nat.le_refl _, heap_alloc_new w0.drew _, Nat.zero_le _, grownCap_le_maxLen w0 _ _ _ (by simp only [maxLen]; omega), ?_, by simp⟩⟩, ((Below.refl _ _).drew).alloc (Nat.le_refl _) _⟩
    simp only [Array.size_append, List.size_toArray, size_zeroCells, hi5, List.length_nil, Nat.zero_add, Nat.zero_mul] at hge ⊢
    generalize grownCap w0 n 0 (growRenG.t 25) = G at *
    have h9 : n - 0 + (G - n) = G := by omega
    rw [← h9, Nat.add_mul, h9]
theorem end_ok {n : Int} {r : Rp} (h : (!vrI n r) = false) : r.pos = (r.pos.toNat : Int) ∧ wr (r.pos + (r.old.length : Int)) = ((r.pos.toNat + r.old.length : Nat) : Int) ∧ wr (r.pos + (r.old.length : Int)) = r.pos + (r.old.length : Int) ∧ r.pos.toNat ≤ 400 ∧ r.old.length ≤ 40 ∧ r.new.length ≤ 40 := by
  have h : vrI n r = true := by revert h; cases vrI n r <;> simp
  obtain ⟨_, hl, _, _⟩ := vr_spec h
  have hp : 0 ≤ r.pos ∧ r.pos ≤ 400 := by simp only [vrI, Bool.and_eq_true, inR_iff] at h; omega
  have e : wr (r.pos + (r.old.length : Int)) = r.pos + (r.old.length : Int) := wr_in (by omega) (by omega)
  rw [e]
  refine ⟨by omega, by omega, rfl, by omega, hl.1, hl.2⟩
theorem fit_le {m : Nat} {x : Int} (h : decide ((m : Int) < x) = false) : x ≤ (m : Int) := by simpa using h
theorem or4_false {a b : Bool} {c : Bool} {d : Bool} (h : (!a || !b || c || !d) = false) : a = true ∧ b = true ∧ c = false ∧ d = true := by revert h; cases a <;> cases b <;> cases c <;> cases d <;> simp
abbrev cZ : Cx := ⟨0, []⟩
end Go.Proofs.YtfgnmflfiobkmaaGreat
namespace Go.Proofs.YtfgnmflfiobkmaaGreat
open Go.RowKit
theorem fitS_false {c : Cx} {r : Rp} (h : ((!validS c.n r) || decide ((c.gs.length : Int) < wr (r.pos + (r.old.length : Int))) || decide (400 < (c.gs.length : Int) - (r.old.length : Int) + (r.new.length : Int))) = true) : applyS c r = none := by
  unfold applyS
  rw [if_neg]
  rintro ⟨h1, _⟩
  simp only [fitS, Bool.and_eq_true, decide_eq_true_eq] at h1
  obtain ⟨⟨h2, h3⟩, h4⟩ := h1
  have h5 := end_ok (n := c.n) (r := r) (by rw [← valid_eq, h2]; rfl)
  rw [h2, h5.2.2.1] at h
  simp at h
  omega
theorem fitS_true {c : Cx} {r : Rp} (h : ((!validS c.n r) || decide ((c.gs.length : Int) < wr (r.pos + (r.old.length : Int))) || decide (400 < (c.gs.length : Int) - (r.old.length : Int) + (r.new.length : Int))) = false) :
    fitS c r = true ∧ vrI c.n r = true ∧ r.pos + (r.old.length : Int) ≤ (c.gs.length : Int) := by
  simp only [Bool.or_eq_false_iff, Bool.not_eq_false', decide_eq_false_iff_not] at h
  obtain ⟨⟨h1, h2⟩, h3⟩ := h
  have h5 := end_ok (n := c.n) (r := r) (by rw [← valid_eq, h1]; rfl)
  rw [h5.2.2.1] at h2
  refine ⟨?_, by rw [← valid_eq]; exact h1, by omega⟩
  simp only [fitS, h1, Bool.true_and, Bool.and_eq_true, decide_eq_true_eq]
  omega
theorem part_take {α : Type} {l m : List α} {p k : Nat} {u v : α} (h : (l.drop p).take k = m.take k) (hu : m[k]? = some u) (hv : l[p + k]? = some v) (he : v = u) : (l.drop p).take (k + 1) = m.take (k + 1) := by
  subst he
  exact take_eq h (by rw [List.getElem?_drop]; exact hv) hu rfl
theorem part_full {α : Type} {l m : List α} {p : Nat} (h : (l.drop p).take m.length = m.take m.length) : (l.take (p + m.length)).drop p = m := by
  rw [List.drop_take, show p + m.length - p = m.length from by omega, h, List.take_length]
theorem part_ne {α : Type} {l m : List α} {p k : Nat} {u v : α} (hu : m[k]? = some u) (hv : l[p + k]? = some v) (hne : ¬ v = u) : ¬ (l.take (p + m.length)).drop p = m := fun h => by
  have hk := (List.getElem?_eq_some_iff.1 hu).1
  rw [← h, List.getElem?_drop, List.getElem?_take_of_lt (by omega), hv] at hu
  injection hu with hu
  exact hne hu
def midS (c : Cx) (r : Rp) : Cx := ⟨c.n, c.gs.take r.pos.toNat ++ r.new ++ c.gs.drop (r.pos.toNat + r.old.length)⟩
theorem applyS_some {c : Cx} {r : Rp} (h1 : fitS c r = true) (h2 : (c.gs.take (r.pos.toNat + r.old.length)).drop r.pos.toNat = r.old) : applyS c r = some (midS c r) := by
  unfold applyS midS
  rw [if_pos ⟨h1, h2⟩]
theorem applyS_none {c : Cx} {r : Rp} (h2 : ¬ (c.gs.take (r.pos.toNat + r.old.length)).drop r.pos.toNat = r.old) : applyS c r = none := by
  unfold applyS
  rw [if_neg fun h => h2 h.2]
theorem rps_drop {l : List Sr} {k : Nat} {u : Sr} (h : l[k]? = some u) : (l.map Sr.rp).drop k = u.rp :: (l.map Sr.rp).drop (k + 1) := drop_get (by rw [List.getElem?_map, h]; rfl)
theorem cOk_le {c : Cx} (h : cOk c = true) : c.gs.length ≤ 400 := (cOk_spec h).2.1
theorem szG_neg {l : List Gt} {t : Int} (h : szG l t < 0) : szG l t = -1 := by
  unfold szG at *
  split <;> rename_i h1
  · rfl
  · rw [if_neg h1] at h; omega
def szF : List Sr → Int → Int
  | [], t => t
  | s :: l, t => if szR s.rp t < 0 then -1 else szF l (szR s.rp t)
def szL (l : List Sr) (t : Int) : Int := if t - (l.length : Int) < 0 then -1 else szF l (t - (l.length : Int))
theorem szF_le : ∀ (l : List Sr) (t : Int), 0 ≤ t → ¬ szF l t < 0 → (∀ s ∈ l, (s.old.length : Int) + (s.new.length : Int) ≤ t) ∧ szF l t ≤ t
  | [], t, _, _ => ⟨fun s hs => by simp at hs, Int.le_refl _⟩
  | s :: l, t, h0, h => by
    unfold szF at h ⊢
    split at h
    · omega
    · rename_i h1
      rw [if_neg h1]
      obtain ⟨h2, h3⟩ := szR_le h1
      obtain ⟨h4, h5⟩ := szF_le l (szR s.rp t) (by omega) h
      have h2 : (s.old.length : Int) + (s.new.length : Int) ≤ t := h2
      have h3 : szR s.rp t = t - (s.old.length : Int) - (s.new.length : Int) := h3
      refine ⟨fun x hx => ?_, by omega⟩
      rcases List.mem_cons.1 hx with rfl | hx
      · exact h2
      · have := h4 x hx; omega
theorem szL_le {l : List Sr} {t : Int} (h : ¬ szL l t < 0) : (l.length : Int) ≤ t ∧ (∀ s ∈ l, (s.old.length : Int) + (s.new.length : Int) ≤ t) ∧ szL l t ≤ t := by
  unfold szL at *
  split at h
  · omega
  · rename_i h1
    rw [if_neg h1]
    obtain ⟨h2, h3⟩ := szF_le l _ (by omega) h
    exact ⟨by omega, fun s hs => by have := h2 s hs; omega, by omega⟩
theorem szF_step {l : List Sr} {k : Nat} {u : Sr} (h : l[k]? = some u) (t : Int) : szF (l.drop k) t = if szR u.rp t < 0 then -1 else szF (l.drop (k + 1)) (szR u.rp t) := by
  rw [drop_get h, szF]
def szZ (c : Cx) (l : List Sr) (d : Cx) (t : Int) : Int := if szG c.gs t < 0 then -1 else if szL l (szG c.gs t) < 0 then -1 else szG d.gs (szL l (szG c.gs t))
theorem szZ_le {c d : Cx} {l : List Sr} (h : ¬ szZ c l d 1048576 < 0) : c.gs.length ≤ 1048576 ∧ l.length ≤ 1048576 ∧ (∀ s ∈ l, s.old.length ≤ 1048576 ∧ s.new.length ≤ 1048576) ∧ d.gs.length ≤ 1048576 := by
  unfold szZ at h
  split at h
  · omega
  · rename_i h1
    obtain ⟨h2, h3⟩ := szG_le h1
    split at h
    · omega
    · rename_i h4
      obtain ⟨h5, h6, h7⟩ := szL_le h4
      obtain ⟨h8, h9⟩ := szG_le h
      refine ⟨by omega, by omega, fun s hs => by have := h6 s hs; omega, by omega⟩
theorem rps_take {m l : List Sr} {k : Nat} {u x : Sr} (h : (m.take k).map Sr.rp = (l.take k).map Sr.rp) (hk : k < m.length) (hu : l[k]? = some u) (hx : x.rp = u.rp) : ((m.set k x).take (k + 1)).map Sr.rp = (l.take (k + 1)).map Sr.rp := by
  rw [map_step hu, ← h, map_step (show (m.set k x)[k]? = some x by simp [hk]), List.take_set_of_le (Nat.le_refl _), hx]
theorem rp_eq {s t : Sr} : s.rp = t.rp ↔ s.pos = t.pos ∧ s.old = t.old ∧ s.new = t.new := by simp [Sr.rp]
instance : DecidableEq Rp := fun a b => decidable_of_iff (a.pos = b.pos ∧ a.old = b.old ∧ a.new = b.new) (by cases a; cases b; simp)
theorem rps_fit {m l : List Sr} (h : m.map Sr.rp = l.map Sr.rp) {n : Nat} (h1 : l.length ≤ n) (h2 : ∀ s ∈ l, s.old.length ≤ n ∧ s.new.length ≤ n) : m.length ≤ n ∧ ∀ s ∈ m, s.old.length ≤ n ∧ s.new.length ≤ n := by
  have h3 := congrArg List.length h
  rw [List.length_map, List.length_map] at h3
  refine ⟨by omega, fun s hs => ?_⟩
  obtain ⟨t, ht, e⟩ := List.mem_map.1 (h ▸ List.mem_map_of_mem (f := Sr.rp) hs)
  obtain ⟨_, e2, e3⟩ := rp_eq.1 e
  rw [← e2, ← e3]
  exact h2 t ht
theorem rps_ne {p q : List Sr} {k : Nat} {u v : Sr} (hu : p[k]? = some u) (hv : q[k]? = some v) (h : ¬ u.rp = v.rp) : ¬ p.map Sr.rp = q.map Sr.rp := fun e => by
  have h2 := congrArg (fun l => l[k]?) e
  simp only [List.getElem?_map, hu, hv, Option.map_some] at h2
  injection h2 with h2
  exact h h2
theorem rps_eq {p q : List Sr} {k : Nat} {u v : Sr} (h : (p.take k).map Sr.rp = (q.take k).map Sr.rp) (hu : p[k]? = some u) (hv : q[k]? = some v) (e : u.rp = v.rp) : (p.take (k + 1)).map Sr.rp = (q.take (k + 1)).map Sr.rp := by
  rw [map_step hu, map_step hv, h, e]
end Go.Proofs.YtfgnmflfiobkmaaGreat
set_option maxRecDepth 4000
namespace Go.Proofs.YtfgnmflfiobkmaaGreat
open Go.RowKit
theorem F93 (w0 : World) (ls : List Sl) (Al : Option Addr) (cl : Nat) (hr_ls : Rd w0 w0.heap.size 36 encS Al ls) (hall : ∀ s ∈ ls, Rd w0 w0.heap.size 3 encI s.A s.l) (hln : ls.length ≤ 1000) (hsum : (ls.flatMap Sl.l).length ≤ 1000000000) : Ret Tryz.prog 93 [.slice Al ls.length cl] w0 (fun v w => ∃ A c, v = .slice A (ls.flatMap Sl.l).length c ∧ Own w w0.heap.size 3 1 encI A c (ls.flatMap Sl.l) ∧ Below w0.heap.size w0 w) := by
 refine enter Tryz.func93 rfl 36 rfl rfl ?_
 intro a hf
 have hW : Below w0.heap.size w0 w0 := Below.refl _ _
 refine wp_seq_k ?_; intro K2 hK2
 refine wp_region_lit ?_
 refine l_as hf rfl rfl ?_; intro a hf
 refine wpList_nil ?_
 refine hK2 _ _ ?_; try clear hK2 K2
 refine wp_seq_k ?_; intro K4 hK4
 refine wp_region_lit ?_
 refine l_as hf rfl rfl ?_; intro a hf
 refine wpList_nil ?_
 refine hK4 _ _ ?_; try clear hK4 K4
 refine wp_seq_k ?_; intro K5 hK5
 refine wp_seq_k ?_; intro K6 hK6
 refine wp_region_lit ?_
 refine l_mv hf rfl rfl ?_; intro a hf
 refine l_e hf rfl (ev_len hf rfl sl_108) ?_; intro a hf
 refine l_mv hf rfl rfl ?_; intro a hf
 refine wpList_nil ?_
 refine hK6 _ _ ?_; try clear hK6 K6
 refine wp_block ?_
 refine c_loop (σ := Nat) (fun (k : Nat) (a : Act) (w : World) => Fr a 36 [(0, .slice Al ls.length cl), (3, .int .i64 (((ls.take k).flatMap Sl.l).length : Int)), (9, .slice Al ls.length cl), (10, .int .i64 (ls.length : Int)), (11, .int .i64 (k : Int))] ∧ (k ≤ ls.length) ∧ Rd w w0.heap.size 36 encS Al ls ∧ Below w0.heap.size w0 w) (fun (k : Nat) => ls.length - k) 0 ?_ ?_
 · exact ⟨hf.sub ⟨rfl, rfl, rfl, rfl, rfl, trivial⟩, (Nat.zero_le _), hr_ls, hW⟩
 rintro k a w1 ⟨hf, hk, hr_ls, hW⟩
 refine wp_seq_k ?_; intro K7 hK7
 refine wp_region_lit ?_
 refine l_e hf rfl (ev_lss hf rfl rfl) ?_; intro a hf
 refine wpList_nil ?_
 refine hK7 _ _ ?_; try clear hK7 K7
 refine wp_seq_k ?_; intro K8 hK8
 refine c_if hf rfl (fun hc9 => ?_) (fun hc9 => ?_)
 ·have hc9b := hc9
  have hc9 := of_decide_eq_true hc9
  obtain ⟨u10, hu10⟩ := getElem_ex (l := ls) (k := k) (by omega)
  have hst := flat_step (f := Sl.l) hu10
  have hle := flat_le Sl.l ls (k + 1)
  rw [hst, List.length_append] at hle
  refine wp_skip ?_
  refine hK8 _ _ ?_; try clear hK8 K8
  refine wp_seq_k ?_; intro K11 hK11
  refine wp_block ?_
  refine wp_seq_k ?_; intro K12 hK12
  refine wp_region_lit ?_
  refine l_index (k := k) (u := u10) (enc := encS) (l := ls) hf trivial rfl rfl rfl sl_108 sz_36 encS_len hr_ls hu10 rfl ?_; intro a p14 hat13 hf
  have hr15 : Rd w1 w0.heap.size 3 encI u10.A u10.l := (hall u10 (List.mem_of_getElem? hu10)).below' hW
  refine l_e hf rfl (ev_load1 hf rfl t1_36 hat13) ?_; intro a hf
  refine l_as hf rfl rfl ?_; intro a hf
  refine wpList_nil ?_
  refine hK12 _ _ ?_; try clear hK12 K12
  refine wp_seq_k ?_; intro K16 hK16
  refine wp_region_lit ?_
  refine l_mv hf rfl rfl ?_; intro a hf
  refine l_mv hf rfl rfl ?_; intro a hf
  refine l_e hf rfl (ev_len hf rfl sl_36) ?_; intro a hf
  refine l_e hf rfl (ev_addx hf rfl rfl (by omega) (by omega)) ?_; intro a hf
  refine l_as hf rfl rfl ?_; intro a hf
  refine wpList_nil ?_
  refine hK16 _ _ ?_; try clear hK16 K16
  refine wp_seq_k ?_; intro K17 hK17
  refine wp_region_lit ?_
  refine l_mv hf rfl rfl ?_; intro a hf
  refine l_e hf rfl (ev_lss hf rfl rfl) ?_; intro a hf
  refine wpList_nil ?_
  refine hK17 _ _ ?_; try clear hK17 K17
  refine c_if hf rfl (fun hc18 => ?_) (fun hc18 => ?_)
  ·have hc18b := hc18
   have hc18 := of_decide_eq_true hc18
   exact absurd hc18 (by omega)
  ·have hc18b := hc18
   have hc18 := of_decide_eq_false hc18
   refine wp_skip ?_
   refine x_norm ?_
   refine hK11 _ _ ?_; try clear hK11 K11
   refine wp_region_lit ?_
   refine l_e hf rfl (ev_addx hf rfl rfl (by omega) (by omega)) ?_; intro a hf
   refine l_mv hf rfl rfl ?_; intro a hf
   refine wpList_nil ?_
   have hjj : ((((ls.take k).flatMap Sl.l).length : Int) + (u10.l.length : Int)) = (((ls.take (k + 1)).flatMap Sl.l).length : Int) := by rw [hst, List.length_append]; omega
   rw [hjj] at hf
   refine x_thenN ?_
   exact ⟨k + 1, ⟨hf.sub ⟨rfl, rfl, rfl, rfl, rfl, trivial⟩, (by omega), hr_ls, hW⟩, (by omega)⟩
 ·have hc9b := hc9
  have hc9 := of_decide_eq_false hc9
  refine wp_exit ?_
  refine x_exS ?_
  refine x_exS ?_
  refine x_exit ?_
  refine hK5 _ _ ?_; try clear hK5 K5
  refine wp_seq_k ?_; intro K19 hK19
  refine wp_region_lit ?_
  refine l_mv hf rfl rfl ?_; intro a hf
  refine l_f hf rfl (ef_call (vs := [.slice none 0 0, .int .i64 (((ls.take k).flatMap Sl.l).length : Int)]) hf rfl ff_133 (F133 _ (((ls.take k).flatMap Sl.l).length) (by have := flat_le Sl.l ls k; omega))) ?_; rintro a _ w2 ⟨A21, c21, rfl, ho21, hE⟩ hf
  replace ho21 := ho21.lower hW.size
  replace hr_ls := hr_ls.below hE
  replace hW := btr hW hE
  clear hE
  refine l_as hf rfl rfl ?_; intro a hf
  refine wpList_nil ?_
  refine hK19 _ _ ?_; try clear hK19 K19
  refine wp_seq_k ?_; intro K22 hK22
  refine wp_seq_k ?_; intro K23 hK23
  refine wp_region_lit ?_
  refine l_mv hf rfl rfl ?_; intro a hf
  refine l_e hf rfl (ev_len hf rfl sl_108) ?_; intro a hf
  refine l_mv hf rfl rfl ?_; intro a hf
  refine wpList_nil ?_
  refine hK23 _ _ ?_; try clear hK23 K23
  refine wp_block ?_
  refine c_loop (σ := Nat × (List Int)) (fun (s : Nat × (List Int)) (a : Act) (w : World) => match s with | (j, l) => ∃ A24 c24, Fr a 36 [(6, .slice A24 l.length c24), (25, .slice Al ls.length cl), (26, .int .i64 (ls.length : Int)), (27, .int .i64 (j : Int))] ∧ (j ≤ ls.length) ∧ (l = (ls.take j).flatMap Sl.l) ∧ Own w w0.heap.size 3 1 encI A24 c24 l ∧ Rd w w0.heap.size 36 encS Al ls ∧ Below w0.heap.size w0 w) (fun (s : Nat × (List Int)) => match s with | (j, l) => ls.length - j) (0, []) ?_ ?_
  · exact ⟨A21, c21, hf.sub ⟨rfl, rfl, rfl, rfl, trivial⟩, (Nat.zero_le _), rfl, ho21, hr_ls, hW⟩
  rintro ⟨j, l⟩ a w3 ⟨A24, c24, hf, hj, hl, ho24, hr_ls, hW⟩
  refine wp_seq_k ?_; intro K25 hK25
  refine wp_region_lit ?_
  refine l_e hf rfl (ev_lss hf rfl rfl) ?_; intro a hf
  refine wpList_nil ?_
  refine hK25 _ _ ?_; try clear hK25 K25
  refine wp_seq_k ?_; intro K26 hK26
  refine c_if hf rfl (fun hc27 => ?_) (fun hc27 => ?_)
  ·have hc27b := hc27
   have hc27 := of_decide_eq_true hc27
   obtain ⟨u28, hu28⟩ := getElem_ex (l := ls) (k := j) (by omega)
   have hst := flat_step (f := Sl.l) hu28
   have hle := flat_le Sl.l ls (j + 1)
   rw [hst, List.length_append, ← hl] at hle
   refine wp_skip ?_
   refine hK26 _ _ ?_; try clear hK26 K26
   refine wp_seq_k ?_; intro K29 hK29
   refine wp_block ?_
   refine wp_seq_k ?_; intro K30 hK30
   refine wp_region_lit ?_
   refine l_index (k := j) (u := u28) (enc := encS) (l := ls) hf trivial rfl rfl rfl sl_108 sz_36 encS_len hr_ls hu28 rfl ?_; intro a p32 hat31 hf
   have hr33 : Rd w3 w0.heap.size 3 encI u28.A u28.l := (hall u28 (List.mem_of_getElem? hu28)).below' hW
   refine l_e hf rfl (ev_load1 hf rfl t1_36 hat31) ?_; intro a hf
   refine l_as hf rfl rfl ?_; intro a hf
   refine wpList_nil ?_
   refine hK30 _ _ ?_; try clear hK30 K30
   refine wp_region_lit ?_
   refine l_mv hf rfl rfl ?_; intro a hf
   refine l_mv hf rfl rfl ?_; intro a hf
   refine l_f hf rfl (ef_append (enc := encI) (l := (l)) (l2 := (u28.l)) (B0 := w0.heap.size) hf rfl rfl sl_36 inf_3 encI_len encI_one ho24 hr33 (by simp only [maxLen]; omega) (by omega) hW.size) ?_; rintro a _ w4 ⟨A34, c34, rfl, ho34, hg, hat⟩ hf
   have hown : Own _ w0.heap.size 3 1 encI _ _ (l) := ho24
   clear hat
   replace hr_ls := hr_ls.appT hown hg rfl
   replace hr33 := hr33.appB hown hg (Nat.le_refl _)
   replace hW := Below.app hW hown hg (Nat.le_refl _) hW.size
   clear hown hg
   refine l_as hf rfl rfl ?_; intro a hf
   refine wpList_nil ?_
   refine x_norm ?_
   refine hK29 _ _ ?_; try clear hK29 K29
   refine wp_region_lit ?_
   refine l_e hf rfl (ev_addx hf rfl rfl (by omega) (by omega)) ?_; intro a hf
   refine l_mv hf rfl rfl ?_; intro a hf
   refine wpList_nil ?_
   refine x_thenN ?_
   exact ⟨(j + 1, l ++ u28.l), ⟨A34, c34, hf.sub ⟨rfl, rfl, rfl, rfl, trivial⟩, (by omega), (by rw [hst, hl]), ho34, hr_ls, hW⟩, (by first | omega | (dsimp only; omega))⟩
  ·have hc27b := hc27
   have hc27 := of_decide_eq_false hc27
   refine wp_exit ?_
   refine x_exS ?_
   refine x_exS ?_
   refine x_exit ?_
   refine hK22 _ _ ?_; try clear hK22 K22
   refine wp_seq_k ?_; intro K35 hK35
   refine wp_region_lit ?_
   refine l_mv hf rfl rfl ?_; intro a hf
   refine l_as hf rfl rfl ?_; intro a hf
   refine wpList_nil ?_
   refine hK35 _ _ ?_; try clear hK35 K35
   refine wp_ret ?_
   refine c_ret hf (res1 hf rfl rfl) ?_
   have hfin : l = ls.flatMap Sl.l := by rw [hl]; exact flat_full _ (by omega)
   rw [← hfin]
   exact ⟨A24, c24, rfl, ho24, hW⟩
theorem F47 (w0 : World) (Ap : Option Addr) (cp : Nat) (p : List Int) (hr_p : Rd w0 w0.heap.size 3 encI Ap p) (Aq : Option Addr) (cq : Nat) (q : List Int) (hr_q : Rd w0 w0.heap.size 3 encI Aq q) (hpl : p.length ≤ 100000000) (hql : q.length ≤ 100000000) : Ret Tryz.prog 47 [.slice Ap p.length cp, .slice Aq q.length cq] w0 (fun v w => ∃ A c, v = .slice A (unionI p q).length c ∧ Own w w0.heap.size 3 1 encI A c (unionI p q) ∧ Below w0.heap.size w0 w) := by
 refine enter Tryz.func47 rfl 14 rfl rfl ?_
 intro a hf
 have hW : Below w0.heap.size w0 w0 := Below.refl _ _
 refine wp_seq_k ?_; intro K3 hK3
 refine wp_region_lit ?_
 refine l_as hf rfl rfl ?_; intro a hf
 refine wpList_nil ?_
 refine hK3 _ _ ?_; try clear hK3 K3
 refine wp_seq_k ?_; intro K5 hK5
 refine wp_region_lit ?_
 refine l_mv hf rfl rfl ?_; intro a hf
 refine l_mv hf rfl rfl ?_; intro a hf
 refine l_f hf rfl (ef_buildSlice (k := 2) (vs := [.slice Ap p.length cp, .slice Aq q.length cq]) (zs := [.slice Ap p.length cp, .slice Aq q.length cq]) hf rfl sl_108 inf_36 rfl rfl) ?_; rintro a _ w1 ⟨b6, rfl, hl6, hE, hB6⟩ hf
 have hlo6 := Nat.le_trans hW.size hl6
 replace hr_p := hr_p.below hE
 replace hr_q := hr_q.below hE
 replace hW := btr hW hE
 clear hE
 refine l_f hf rfl (ef_call (vs := [.slice (some ⟨b6, 0, none⟩) ([(⟨Ap, cp, p⟩ : Sl), (⟨Aq, cq, q⟩ : Sl)]).length 2]) hf rfl ff_93 (F93 _ [(⟨Ap, cp, p⟩ : Sl), (⟨Aq, cq, q⟩ : Sl)] (some ⟨b6, 0, none⟩) 2 (Rd.of_blk hB6 rfl _ hB6.lt) (fun s hs => by rcases List.mem_cons.1 hs with rfl | hs; exact hr_p.top; rw [List.mem_singleton.1 hs]; exact hr_q.top) (by simp) (by simp; omega))) ?_; rintro a _ w2 ⟨A8, c8, rfl, ho8, hE⟩ hf
 replace ho8 := ho8.lower hW.size
 replace hB6 := hB6.below hE
 replace hr_p := hr_p.below hE
 replace hr_q := hr_q.below hE
 replace hW := btr hW hE
 clear hE
 refine l_as hf rfl rfl ?_; intro a hf
 refine wpList_nil ?_
 refine hK5 _ _ ?_; try clear hK5 K5
 refine wp_seq_k ?_; intro K9 hK9
 refine wp_region_lit ?_
 refine l_mv hf rfl rfl ?_; intro a hf
 refine l_f hf rfl (ef_call (vs := [.slice A8 (List.flatMap Sl.l [(⟨Ap, cp, p⟩ : Sl), (⟨Aq, cq, q⟩ : Sl)]).length c8]) hf rfl ff_94 (F94 _ w0.heap.size A8 c8 (List.flatMap Sl.l [(⟨Ap, cp, p⟩ : Sl), (⟨Aq, cq, q⟩ : Sl)]) ho8 (by simp; omega))) ?_; rintro a _ w3 ⟨hnew, hg⟩ hf
 have hown := ho8
 replace hB6 := hB6.appT hown hg rfl
 replace hr_p := hr_p.appB hown hg (Nat.le_refl _)
 replace hr_q := hr_q.appB hown hg (Nat.le_refl _)
 replace hW := Below.app hW hown hg (Nat.le_refl _) hW.size
 clear hown hg; clear ho8; have ho8 := hnew; clear hnew
 refine wpList_nil ?_
 refine hK9 _ _ ?_; try clear hK9 K9
 refine wp_seq_k ?_; intro K10 hK10
 refine wp_region_lit ?_
 refine l_mv hf rfl rfl ?_; intro a hf
 refine l_f hf rfl (ef_call (vs := [.slice A8 (List.flatMap Sl.l [(⟨Ap, cp, p⟩ : Sl), (⟨Aq, cq, q⟩ : Sl)]).length c8]) hf rfl ff_95 (F95m _ w0.heap.size A8 c8 (sortI (List.flatMap Sl.l [(⟨Ap, cp, p⟩ : Sl), (⟨Aq, cq, q⟩ : Sl)])) ((List.flatMap Sl.l [(⟨Ap, cp, p⟩ : Sl), (⟨Aq, cq, q⟩ : Sl)]).length) (by simp [sortI]) ho8 (by simp [sortI]; omega))) ?_; rintro a _ w4 ⟨rfl, hnew, hg⟩ hf
 have hown := ho8
 replace hB6 := hB6.appT hown hg rfl
 replace hr_p := hr_p.appB hown hg (Nat.le_refl _)
 replace hr_q := hr_q.appB hown hg (Nat.le_refl _)
 replace hW := Below.app hW hown hg (Nat.le_refl _) hW.size
 clear hown hg; clear ho8; have ho8 := hnew; clear hnew
 refine l_as hf rfl rfl ?_; intro a hf
 refine wpList_nil ?_
 refine hK10 _ _ ?_; try clear hK10 K10
 refine wp_ret ?_
 refine c_ret hf (res1 hf rfl rfl) ?_
 have hfin : unionI p q = Lib.compact (sortI (List.flatMap Sl.l [(⟨Ap, cp, p⟩ : Sl), (⟨Aq, cq, q⟩ : Sl)])) := by unfold unionI; congr 2
 rw [hfin]
 exact ⟨A8, c8, rfl, ho8, hW⟩
theorem F96 (w0 : World) (g : Gt) : Ret Tryz.prog 96 [.agg #[.int .i64 g.k, .int .i64 g.a, .int .i64 g.b]] w0 (fun v w => ∃ A c, v = .slice A (qubI g).length c ∧ Own w w0.heap.size 3 1 encI A c (qubI g) ∧ Below w0.heap.size w0 w) := by
 refine enter Tryz.func96 rfl 19 rfl rfl ?_
 intro a hf
 have hW : Below w0.heap.size w0 w0 := Below.refl _ _
 refine wp_seq_k ?_; intro K1 hK1
 refine wp_region_lit ?_
 refine l_f hf rfl (ef_box (zs := [.int .i64 g.k, .int .i64 g.a, .int .i64 g.b]) hf rfl rfl) ?_; rintro a _ w1 ⟨b2, rfl, hl2, hE, hB2⟩ hf
 have hlo2 := Nat.le_trans hW.size hl2
 replace hW := btr hW hE
 clear hE
 refine l_as hf rfl rfl ?_; intro a hf
 refine wpList_nil ?_
 refine hK1 _ _ ?_; try clear hK1 K1
 refine wp_seq_k ?_; intro K4 hK4
 refine wp_block ?_
 refine wp_seq_k ?_; intro K5 hK5
 refine wp_region_lit ?_
 refine l_e hf rfl (ev_fieldB hf rfl fd_107_0 (m := 0) rfl) ?_; intro a hf
 refine l_e hf rfl (ev_load1 hf rfl t1_3 (hB2.at 0)) ?_; intro a hf
 refine l_e hf rfl (ev_eql hf rfl rfl) ?_; intro a hf
 refine l_as hf rfl rfl ?_; intro a hf
 refine wpList_nil ?_
 refine hK5 _ _ ?_; try clear hK5 K5
 refine c_if hf rfl (fun hc6 => ?_) (fun hc6 => ?_)
 ·have hc6b := hc6
  have hfin : qubI g = [] := by rw [qubI, if_pos (by simpa using hc6)]
  refine wp_seq_k ?_; intro K7 hK7
  refine wp_region_lit ?_
  refine l_as hf rfl rfl ?_; intro a hf
  refine wpList_nil ?_
  refine hK7 _ _ ?_; try clear hK7 K7
  refine wp_ret ?_
  refine x_retB ?_
  refine x_retS ?_
  refine c_ret hf (res1 hf rfl rfl) ?_
  rw [hfin]
  exact ⟨none, 0, rfl, (Own.nil _ _ _ _ _), hW⟩
 ·have hc6b := hc6
  have h12 : ¬ g.k = 12 := by simpa using hc6
  refine wp_seq_k ?_; intro K9 hK9
  refine wp_region_lit ?_
  refine l_e hf rfl (ev_fieldB hf rfl fd_107_0 (m := 0) rfl) ?_; intro a hf
  refine l_e hf rfl (ev_load1 hf rfl t1_3 (hB2.at 0)) ?_; intro a hf
  refine l_f hf rfl (ef_call (vs := [.int .i64 g.k]) hf rfl ff_99 (F99 _ g.k)) ?_; rintro a _ _ ⟨rfl, rfl⟩ hf
  refine l_as hf rfl rfl ?_; intro a hf
  refine wpList_nil ?_
  refine hK9 _ _ ?_; try clear hK9 K9
  refine c_if hf rfl (fun hc10 => ?_) (fun hc10 => ?_)
  ·have hc10b := hc10
   have hfin : qubI g = [g.a, g.b] := by rw [qubI, if_neg h12, if_pos hc10]
   refine wp_seq_k ?_; intro K11 hK11
   refine wp_region_lit ?_
   refine l_e hf rfl (ev_fieldB hf rfl fd_107_1 (m := 1) rfl) ?_; intro a hf
   refine l_e hf rfl (ev_load1 hf rfl t1_3 (hB2.at 1)) ?_; intro a hf
   refine l_e hf rfl (ev_fieldB hf rfl fd_107_2 (m := 2) rfl) ?_; intro a hf
   refine l_e hf rfl (ev_load1 hf rfl t1_3 (hB2.at 2)) ?_; intro a hf
   refine l_f hf rfl (ef_buildSlice (k := 2) (vs := [.int .i64 g.a, .int .i64 g.b]) (zs := [.int .i64 g.a, .int .i64 g.b]) hf rfl sl_36 inf_3 rfl rfl) ?_; rintro a _ w2 ⟨b12, rfl, hl12, hE, hB12⟩ hf
   have hlo12 := Nat.le_trans hW.size hl12
   replace hB2 := hB2.below hE
   replace hW := btr hW hE
   clear hE
   refine l_as hf rfl rfl ?_; intro a hf
   refine wpList_nil ?_
   refine hK11 _ _ ?_; try clear hK11 K11
   refine wp_ret ?_
   refine x_retB ?_
   refine x_retS ?_
   refine c_ret hf (res1 hf rfl rfl) ?_
   rw [hfin]
   exact ⟨(some ⟨b12, 0, none⟩), 2, rfl, (Own.of_blkL encI_len hB12 hlo12 rfl rfl (by decide)), hW⟩
  ·have hc10b := hc10
   have hfin : qubI g = [g.a] := by rw [qubI, if_neg h12, if_neg (by rw [hc10]; simp)]
   refine wp_skip ?_
   refine x_norm ?_
   refine hK4 _ _ ?_; try clear hK4 K4
   refine wp_seq_k ?_; intro K14 hK14
   refine wp_region_lit ?_
   refine l_e hf rfl (ev_fieldB hf rfl fd_107_1 (m := 1) rfl) ?_; intro a hf
   refine l_e hf rfl (ev_load1 hf rfl t1_3 (hB2.at 1)) ?_; intro a hf
   refine l_f hf rfl (ef_buildSlice (k := 1) (vs := [.int .i64 g.a]) (zs := [.int .i64 g.a]) hf rfl sl_36 inf_3 rfl rfl) ?_; rintro a _ w3 ⟨b15, rfl, hl15, hE, hB15⟩ hf
   have hlo15 := Nat.le_trans hW.size hl15
   replace hB2 := hB2.below hE
   replace hW := btr hW hE
   clear hE
   refine l_as hf rfl rfl ?_; intro a hf
   refine wpList_nil ?_
   refine hK14 _ _ ?_; try clear hK14 K14
   refine wp_ret ?_
   refine c_ret hf (res1 hf rfl rfl) ?_
   rw [hfin]
   exact ⟨(some ⟨b15, 0, none⟩), 1, rfl, (Own.of_blkL encI_len hB15 hlo15 rfl rfl (by decide)), hW⟩
theorem F48 (w0 : World) (Al : Option Addr) (cl : Nat) (l : List Gt) (hr_l : Rd w0 w0.heap.size 107 encG Al l) (hln : l.length ≤ 10000000) : Ret Tryz.prog 48 [.slice Al l.length cl] w0 (fun v w => ∃ A c, v = .slice A (usedI l).length c ∧ Own w w0.heap.size 3 1 encI A c (usedI l) ∧ Below w0.heap.size w0 w) := by
 refine enter Tryz.func48 rfl 20 rfl rfl ?_
 intro a hf
 have hW : Below w0.heap.size w0 w0 := Below.refl _ _
 refine wp_seq_k ?_; intro K2 hK2
 refine wp_region_lit ?_
 refine l_as hf rfl rfl ?_; intro a hf
 refine wpList_nil ?_
 refine hK2 _ _ ?_; try clear hK2 K2
 refine wp_seq_k ?_; intro K4 hK4
 refine wp_region_lit ?_
 refine l_f hf rfl (ef_buildSlice (k := 0) (vs := []) (zs := []) hf rfl sl_36 inf_3 rfl rfl) ?_; rintro a _ w1 ⟨b5, rfl, hl5, hE, hB5⟩ hf
 have hlo5 := Nat.le_trans hW.size hl5
 replace hr_l := hr_l.below hE
 replace hW := btr hW hE
 clear hE
 refine l_as hf rfl rfl ?_; intro a hf
 refine wpList_nil ?_
 refine hK4 _ _ ?_; try clear hK4 K4
 refine wp_seq_k ?_; intro K7 hK7
 refine wp_seq_k ?_; intro K8 hK8
 refine wp_region_lit ?_
 refine l_mv hf rfl rfl ?_; intro a hf
 refine l_e hf rfl (ev_len hf rfl sl_28) ?_; intro a hf
 refine l_mv hf rfl rfl ?_; intro a hf
 refine wpList_nil ?_
 refine hK8 _ _ ?_; try clear hK8 K8
 refine wp_block ?_
 refine c_loop (σ := Nat × (List Int)) (fun (s : Nat × (List Int)) (a : Act) (w : World) => match s with | (k, m) => ∃ A9 c9, Fr a 20 [(3, .slice A9 m.length c9), (7, .slice Al l.length cl), (8, .int .i64 (l.length : Int)), (9, .int .i64 (k : Int))] ∧ (k ≤ l.length) ∧ (m = (l.take k).flatMap qubI) ∧ Own w w0.heap.size 3 1 encI A9 c9 m ∧ Rd w w0.heap.size 107 encG Al l ∧ Below w0.heap.size w0 w) (fun (s : Nat × (List Int)) => match s with | (k, m) => l.length - k) (0, []) ?_ ?_
 · exact ⟨some ⟨b5, 0, none⟩, 0, hf.sub ⟨rfl, rfl, rfl, rfl, trivial⟩, (Nat.zero_le _), rfl, (Own.empty hB5 hlo5), hr_l, hW⟩
 rintro ⟨k, m⟩ a w2 ⟨A9, c9, hf, hk, hm, ho9, hr_l, hW⟩
 refine wp_seq_k ?_; intro K10 hK10
 refine wp_region_lit ?_
 refine l_e hf rfl (ev_lss hf rfl rfl) ?_; intro a hf
 refine wpList_nil ?_
 refine hK10 _ _ ?_; try clear hK10 K10
 refine wp_seq_k ?_; intro K11 hK11
 refine c_if hf rfl (fun hc12 => ?_) (fun hc12 => ?_)
 ·have hc12b := hc12
  have hc12 := of_decide_eq_true hc12
  obtain ⟨u13, hu13⟩ := getElem_ex (l := l) (k := k) (by omega)
  have hst := flat_step (f := qubI) hu13
  have hqb := flat_qub (l.take k)
  have hq2 := qubI_len u13
  have hlt := List.length_take_le k l
  rw [← hm] at hqb
  refine wp_skip ?_
  refine hK11 _ _ ?_; try clear hK11 K11
  refine wp_seq_k ?_; intro K14 hK14
  refine wp_block ?_
  refine wp_seq_k ?_; intro K15 hK15
  refine wp_region_lit ?_
  refine l_index (k := k) (u := u13) (enc := encG) (l := l) hf trivial rfl rfl rfl sl_28 sz_107 encG_len hr_l hu13 rfl ?_; intro a p17 hat16 hf
  refine l_e hf rfl (ev_loadN (l := [.int .i64 u13.k, .int .i64 u13.a, .int .i64 u13.b]) hf rfl tN_107 hat16 rfl) ?_; intro a hf
  refine l_f hf rfl (ef_alloc (zs := [.int .i64 0, .int .i64 0, .int .i64 0]) z_107 rfl) ?_; rintro a _ w3 ⟨b18, rfl, hl18, hE, hB18⟩ hf
  have hlo18 := Nat.le_trans hW.size hl18
  have haw1_18 := hr_l.away hl18
  replace ho9 := ho9.below hE
  replace hr_l := hr_l.below hE
  replace hW := btr hW hE
  clear hE
  refine l_f0 hf (ef_store (vs := [.int .i64 u13.k, .int .i64 u13.a, .int .i64 u13.b]) (l' := [.int .i64 u13.k, .int .i64 u13.a, .int .i64 u13.b]) hf rfl rfl sz_107 hB18 rfl rfl rfl rfl rfl) ?_; rintro a _ w4 ⟨ho, hb⟩ hf
  have hold := hB18
  replace ho9 := ho9.onlyT ho hold rfl
  replace hr_l := hr_l.only ho hlo18
  replace hW := Below.only hW ho hlo18
  clear hold
  have hB18 := hb
  clear hb ho
  refine wpList_nil ?_
  refine hK15 _ _ ?_; try clear hK15 K15
  refine wp_region_lit ?_
  refine l_mv hf rfl rfl ?_; intro a hf
  refine l_e hf rfl (ev_loadN (l := [.int .i64 u13.k, .int .i64 u13.a, .int .i64 u13.b]) hf rfl tN_107 (hB18.at 0) rfl) ?_; intro a hf
  refine l_f hf rfl (ef_call (vs := [.agg #[.int .i64 u13.k, .int .i64 u13.a, .int .i64 u13.b]]) hf rfl ff_96 (F96 _ u13)) ?_; rintro a _ w5 ⟨A19, c19, rfl, ho19, hE⟩ hf
  replace ho19 := ho19.lower hW.size
  replace hB18 := hB18.below hE
  replace ho9 := ho9.below hE
  replace hr_l := hr_l.below hE
  replace hW := btr hW hE
  clear hE
  refine l_f hf rfl (ef_append (enc := encI) (l := (m)) (l2 := ((qubI u13))) (B0 := w0.heap.size) hf rfl rfl sl_36 inf_3 encI_len encI_one ho9 ho19.rd (by simp only [maxLen]; omega) (by omega) hW.size) ?_; rintro a _ w6 ⟨A20, c20, rfl, ho20, hg, hat⟩ hf
  have hown : Own _ w0.heap.size 3 1 encI _ _ (m) := ho9
  clear hat
  replace hB18 := hB18.appT hown hg rfl
  replace hr_l := hr_l.appT hown hg rfl
  replace hW := Below.app hW hown hg (Nat.le_refl _) hW.size
  clear hown hg
  refine l_as hf rfl rfl ?_; intro a hf
  refine wpList_nil ?_
  refine x_norm ?_
  refine hK14 _ _ ?_; try clear hK14 K14
  refine wp_region_lit ?_
  refine l_e hf rfl (ev_addx hf rfl rfl (by omega) (by omega)) ?_; intro a hf
  refine l_mv hf rfl rfl ?_; intro a hf
  refine wpList_nil ?_
  refine x_thenN ?_
  exact ⟨(k + 1, m ++ qubI u13), ⟨A20, c20, hf.sub ⟨rfl, rfl, rfl, rfl, trivial⟩, (by omega), (by rw [hst, hm]), ho20, hr_l, hW⟩, (by first | omega | (dsimp only; omega))⟩
 ·have hc12b := hc12
  have hc12 := of_decide_eq_false hc12
  refine wp_exit ?_
  refine x_exS ?_
  refine x_exS ?_
  refine x_exit ?_
  refine hK7 _ _ ?_; try clear hK7 K7
  refine wp_seq_k ?_; intro K21 hK21
  refine wp_region_lit ?_
  refine l_mv hf rfl rfl ?_; intro a hf
  refine l_f hf rfl (ef_call (vs := [.slice A9 m.length c9, .slice none 0 0]) hf rfl ff_47 (F47 _ A9 c9 m ho9.rd.top none 0 ([] : List Int) (Rd.nil _ _ _ _ _) (by have := flat_qub (l.take k); have := List.length_take_le k l; rw [hm]; omega) (by simp))) ?_; rintro a _ w7 ⟨A23, c23, rfl, ho23, hE⟩ hf
  replace ho23 := ho23.lower hW.size
  replace ho9 := ho9.below hE
  replace hr_l := hr_l.below hE
  replace hW := btr hW hE
  clear hE
  refine l_as hf rfl rfl ?_; intro a hf
  refine wpList_nil ?_
  refine hK21 _ _ ?_; try clear hK21 K21
  refine wp_ret ?_
  refine c_ret hf (res1 hf rfl rfl) ?_
  have hfin : usedI l = unionI m [] := by rw [usedI, hm, flat_full _ (show l.length ≤ k by omega)]
  rw [hfin]
  exact ⟨A23, c23, rfl, ho23, hW⟩
end Go.Proofs.YtfgnmflfiobkmaaGreat
set_option maxRecDepth 4000
namespace Go.Proofs.YtfgnmflfiobkmaaGreat
open Go.RowKit
theorem F49 (w0 : World) (Al : Option Addr) (cl : Nat) (l : List Int) (hr_l : Rd w0 w0.heap.size 3 encI Al l) (hq : ∀ x ∈ l, 0 ≤ x ∧ x ≤ 4) (hln : l.length ≤ 1000000) : Ret Tryz.prog 49 [.slice Al l.length cl] w0 (fun v w => ∃ A c, v = .slice A (numbI l).length c ∧ Own w w0.heap.size 3 1 encI A c (numbI l) ∧ Below w0.heap.size w0 w) := by
 refine enter Tryz.func49 rfl 20 rfl rfl ?_
 intro a hf
 have hW : Below w0.heap.size w0 w0 := Below.refl _ _
 refine wp_seq_k ?_; intro K2 hK2
 refine wp_region_lit ?_
 refine l_as hf rfl rfl ?_; intro a hf
 refine wpList_nil ?_
 refine hK2 _ _ ?_; try clear hK2 K2
 refine wp_seq_k ?_; intro K4 hK4
 refine wp_region_lit ?_
 refine l_f hf rfl (ef_makeSlice (m := 5) (enc := encI) (z0 := 0) hf rfl rfl sl_36 inf_3 z_3 rfl encI_len (by decide) (by decide)) ?_; rintro a _ w1 ⟨b5, rfl, hl5, hE, hB5⟩ hf
 have hlo5 := Nat.le_trans hW.size hl5
 have haw1_5 := hr_l.away hl5
 replace hr_l := hr_l.below hE
 replace hW := btr hW hE
 clear hE
 refine l_as hf rfl rfl ?_; intro a hf
 refine wpList_nil ?_
 refine hK4 _ _ ?_; try clear hK4 K4
 refine wp_seq_k ?_; intro K7 hK7
 refine wp_seq_k ?_; intro K8 hK8
 refine wp_region_lit ?_
 refine l_mv hf rfl rfl ?_; intro a hf
 refine l_e hf rfl (ev_len hf rfl sl_36) ?_; intro a hf
 refine l_mv hf rfl rfl ?_; intro a hf
 refine wpList_nil ?_
 refine hK8 _ _ ?_; try clear hK8 K8
 refine wp_block ?_
 refine c_loop (σ := Nat × (List Int)) (fun (s : Nat × (List Int)) (a : Act) (w : World) => match s with | (k, to) => Fr a 20 [(3, .slice (some ⟨b5, 0, none⟩) 5 5), (7, .slice Al l.length cl), (8, .int .i64 (l.length : Int)), (9, .int .i64 (k : Int))] ∧ (k ≤ l.length) ∧ (to = numbI (l.take k)) ∧ Blk w b5 3 (to.flatMap encI) ∧ Rd w w0.heap.size 3 encI Al l ∧ Below w0.heap.size w0 w) (fun (s : Nat × (List Int)) => match s with | (k, to) => l.length - k) (0, [0, 0, 0, 0, 0]) ?_ ?_
 · exact ⟨hf.sub ⟨rfl, rfl, rfl, rfl, trivial⟩, (Nat.zero_le _), rfl, hB5, hr_l, hW⟩
 rintro ⟨k, to⟩ a w2 ⟨hf, hk, hto, hB5, hr_l, hW⟩
 have hlt : to.length = 5 := by rw [hto, numb_len]
 refine wp_seq_k ?_; intro K9 hK9
 refine wp_region_lit ?_
 refine l_e hf rfl (ev_lss hf rfl rfl) ?_; intro a hf
 refine wpList_nil ?_
 refine hK9 _ _ ?_; try clear hK9 K9
 refine wp_seq_k ?_; intro K10 hK10
 refine c_if hf rfl (fun hc11 => ?_) (fun hc11 => ?_)
 ·have hc11b := hc11
  have hc11 := of_decide_eq_true hc11
  obtain ⟨u12, hu12⟩ := getElem_ex (l := l) (k := k) (by omega)
  have hb := hq u12 (List.mem_of_getElem? hu12)
  refine wp_skip ?_
  refine hK10 _ _ ?_; try clear hK10 K10
  refine wp_seq_k ?_; intro K13 hK13
  refine wp_block ?_
  refine wp_seq_k ?_; intro K14 hK14
  refine wp_region_lit ?_
  refine l_mv hf rfl rfl ?_; intro a hf
  refine l_index (k := k) (u := u12) (enc := encI) (l := l) hf trivial rfl rfl rfl sl_36 sz_3 encI_len hr_l hu12 rfl ?_; intro a p16 hat15 hf
  refine l_e hf rfl (ev_load1 hf rfl t1_3 hat15) ?_; intro a hf
  refine l_as hf rfl rfl ?_; intro a hf
  refine l_as hf rfl rfl ?_; intro a hf
  refine wpList_nil ?_
  refine hK14 _ _ ?_; try clear hK14 K14
  refine wp_region_lit ?_
  refine l_mv hf rfl rfl ?_; intro a hf
  refine l_mv hf rfl rfl ?_; intro a hf
  refine l_mv hf rfl rfl ?_; intro a hf
  refine l_e hf rfl (ev_indexB (k := u12.toNat) (off := u12.toNat * 1) hf rfl rfl sl_36 sz_3 (by omega) (by omega) rfl) ?_; intro a hf
  refine l_f0 hf (ef_storeF (enc := encI) (l := to) (u := (k : Int)) (k := u12.toNat) hf rfl rfl sz_3 hB5 encI_len encI_one rfl (by omega)) ?_; rintro a _ w3 ⟨ho, hb⟩ hf
  have hold := hB5
  replace hr_l := hr_l.only ho hlo5
  replace hW := Below.only hW ho hlo5
  clear hold
  have hB5 := hb
  clear hb ho
  refine wpList_nil ?_
  refine x_norm ?_
  refine hK13 _ _ ?_; try clear hK13 K13
  refine wp_region_lit ?_
  refine l_e hf rfl (ev_addx hf rfl rfl (by omega) (by omega)) ?_; intro a hf
  refine l_mv hf rfl rfl ?_; intro a hf
  refine wpList_nil ?_
  refine x_thenN ?_
  exact ⟨(k + 1, (to.set (u12.toNat) (k : Int))), ⟨hf.sub ⟨rfl, rfl, rfl, rfl, trivial⟩, (by omega), (by rw [numb_step hu12, hto]), hB5, hr_l, hW⟩, (by first | omega | (dsimp only; omega))⟩
 ·have hc11b := hc11
  have hc11 := of_decide_eq_false hc11
  refine wp_exit ?_
  refine x_exS ?_
  refine x_exS ?_
  refine x_exit ?_
  refine hK7 _ _ ?_; try clear hK7 K7
  refine wp_seq_k ?_; intro K17 hK17
  refine wp_region_lit ?_
  refine l_mv hf rfl rfl ?_; intro a hf
  refine l_as hf rfl rfl ?_; intro a hf
  refine wpList_nil ?_
  refine hK17 _ _ ?_; try clear hK17 K17
  refine wp_ret ?_
  refine c_ret hf (res1 hf rfl rfl) ?_
  have hmk : to.length = 5 := hlt
  have hmkb : 5 ≤ maxLen := by simp [maxLen]
  have hfin : numbI l = to := by rw [hto, List.take_of_length_le (by omega)]
  rw [hfin]
  exact ⟨(some ⟨b5, 0, none⟩), 5, by rw [hmk], (Own.of_flat encI_len hB5 hlo5 hmk hmkb), hW⟩
theorem F51 (w0 : World) (Al : Option Addr) (cl : Nat) (l : List Gt) (hr_l : Rd w0 w0.heap.size 107 encG Al l) (Ato : Option Addr) (cto : Nat) (to : List Int) (hr_to : Rd w0 w0.heap.size 3 encI Ato to) (hq : ∀ g ∈ l, (g.k ≠ 12 → 0 ≤ g.a ∧ g.a < 5) ∧ (inR g.k 9 11 = true → 0 ≤ g.b ∧ g.b < 5)) (hto : to.length = 5) (hln : l.length ≤ 1000000) : Ret Tryz.prog 51 [.slice Al l.length cl, .slice Ato to.length cto] w0 (fun v w => ∃ A c, v = .slice A (mapI l to).length c ∧ Own w w0.heap.size 107 3 encG A c (mapI l to) ∧ Below w0.heap.size w0 w) := by
 refine enter Tryz.func51 rfl 39 rfl rfl ?_
 intro a hf
 have hW : Below w0.heap.size w0 w0 := Below.refl _ _
 refine wp_seq_k ?_; intro K3 hK3
 refine wp_region_lit ?_
 refine l_as hf rfl rfl ?_; intro a hf
 refine wpList_nil ?_
 refine hK3 _ _ ?_; try clear hK3 K3
 refine wp_seq_k ?_; intro K5 hK5
 refine wp_region_lit ?_
 refine l_f hf rfl (ef_buildSlice (k := 0) (vs := []) (zs := []) hf rfl sl_28 inf_107 rfl rfl) ?_; rintro a _ w1 ⟨b6, rfl, hl6, hE, hB6⟩ hf
 have hlo6 := Nat.le_trans hW.size hl6
 have haw1_6 := hr_l.away hl6
 replace hr_l := hr_l.below hE
 replace hr_to := hr_to.below hE
 replace hW := btr hW hE
 clear hE
 refine l_as hf rfl rfl ?_; intro a hf
 refine wpList_nil ?_
 refine hK5 _ _ ?_; try clear hK5 K5
 refine wp_seq_k ?_; intro K8 hK8
 refine wp_seq_k ?_; intro K9 hK9
 refine wp_region_lit ?_
 refine l_mv hf rfl rfl ?_; intro a hf
 refine l_e hf rfl (ev_len hf rfl sl_28) ?_; intro a hf
 refine l_mv hf rfl rfl ?_; intro a hf
 refine wpList_nil ?_
 refine hK9 _ _ ?_; try clear hK9 K9
 refine wp_block ?_
 refine c_loop (σ := Nat × (List Gt)) (fun (s : Nat × (List Gt)) (a : Act) (w : World) => match s with | (k, m) => ∃ A10 c10, Fr a 39 [(1, .slice Ato to.length cto), (5, .slice A10 m.length c10), (9, .slice Al l.length cl), (10, .int .i64 (l.length : Int)), (11, .int .i64 (k : Int))] ∧ (k ≤ l.length) ∧ (m = (l.take k).map (mapG to)) ∧ Own w w0.heap.size 107 3 encG A10 c10 m ∧ Rd w w0.heap.size 107 encG Al l ∧ Rd w w0.heap.size 3 encI Ato to ∧ Below w0.heap.size w0 w) (fun (s : Nat × (List Gt)) => match s with | (k, m) => l.length - k) (0, []) ?_ ?_
 · exact ⟨some ⟨b6, 0, none⟩, 0, hf.sub ⟨rfl, rfl, rfl, rfl, rfl, trivial⟩, (Nat.zero_le _), rfl, (Own.empty hB6 hlo6), hr_l, hr_to, hW⟩
 rintro ⟨k, m⟩ a w2 ⟨A10, c10, hf, hk, hm, ho10, hr_l, hr_to, hW⟩
 have hml : m.length = k := by rw [hm, List.length_map, List.length_take, Nat.min_eq_left hk]
 refine wp_seq_k ?_; intro K11 hK11
 refine wp_region_lit ?_
 refine l_e hf rfl (ev_lss hf rfl rfl) ?_; intro a hf
 refine wpList_nil ?_
 refine hK11 _ _ ?_; try clear hK11 K11
 refine wp_seq_k ?_; intro K12 hK12
 refine c_if hf rfl (fun hc13 => ?_) (fun hc13 => ?_)
 ·have hc13b := hc13
  have hc13 := of_decide_eq_true hc13
  obtain ⟨u14, hu14⟩ := getElem_ex (l := l) (k := k) (by omega)
  have hb := hq u14 (List.mem_of_getElem? hu14)
  have hst := map_step (f := mapG to) hu14
  refine wp_skip ?_
  refine hK12 _ _ ?_; try clear hK12 K12
  refine wp_seq_k ?_; intro K15 hK15
  refine wp_block ?_
  refine wp_seq_k ?_; intro K16 hK16
  refine wp_region_lit ?_
  refine l_index (k := k) (u := u14) (enc := encG) (l := l) hf trivial rfl rfl rfl sl_28 sz_107 encG_len hr_l hu14 rfl ?_; intro a p18 hat17 hf
  refine l_e hf rfl (ev_loadN (l := [.int .i64 u14.k, .int .i64 u14.a, .int .i64 u14.b]) hf rfl tN_107 hat17 rfl) ?_; intro a hf
  refine l_f hf rfl (ef_alloc (zs := [.int .i64 0, .int .i64 0, .int .i64 0]) z_107 rfl) ?_; rintro a _ w3 ⟨b19, rfl, hl19, hE, hB19⟩ hf
  have hlo19 := Nat.le_trans hW.size hl19
  have haw10_19 := ho10.away hl19
  have haw1_19 := hr_l.away hl19
  replace ho10 := ho10.below hE
  replace hr_l := hr_l.below hE
  replace hr_to := hr_to.below hE
  replace hW := btr hW hE
  clear hE
  refine l_f0 hf (ef_store (vs := [.int .i64 u14.k, .int .i64 u14.a, .int .i64 u14.b]) (l' := [.int .i64 u14.k, .int .i64 u14.a, .int .i64 u14.b]) hf rfl rfl sz_107 hB19 rfl rfl rfl rfl rfl) ?_; rintro a _ w4 ⟨ho, hb⟩ hf
  have hold := hB19
  replace ho10 := ho10.onlyA ho haw10_19
  replace hr_l := hr_l.only ho hlo19
  replace hr_to := hr_to.onlyT ho hold rfl
  replace hW := Below.only hW ho hlo19
  clear hold
  have hB19 := hb
  clear hb ho
  refine wpList_nil ?_
  refine hK16 _ _ ?_; try clear hK16 K16
  refine wp_seq_k ?_; intro K20 hK20
  refine wp_seq_k ?_; intro K21 hK21
  refine wp_region_lit ?_
  refine l_e hf rfl (ev_fieldB hf rfl fd_107_0 (m := 0) rfl) ?_; intro a hf
  refine l_e hf rfl (ev_load1 hf rfl t1_3 (hB19.at 0)) ?_; intro a hf
  refine l_e hf rfl (ev_neq hf rfl rfl) ?_; intro a hf
  refine wpList_nil ?_
  refine hK21 _ _ ?_; try clear hK21 K21
  refine c_if hf rfl (fun hc22 => ?_) (fun hc22 => ?_)
  ·have hc22b := hc22
   have h12 : ¬ u14.k = 12 := by simpa using hc22
   have ha := hb.1 h12
   refine wp_region_lit ?_
   refine l_mv hf rfl rfl ?_; intro a hf
   refine l_e hf rfl (ev_fieldB hf rfl fd_107_1 (m := 1) rfl) ?_; intro a hf
   refine l_e hf rfl (ev_load1 hf rfl t1_3 (hB19.at 1)) ?_; intro a hf
   refine l_index (k := u14.a.toNat) (u := (to.getD u14.a.toNat 0)) (enc := encI) (l := to) hf trivial rfl rfl rfl sl_36 sz_3 encI_len hr_to (getD_get (by omega)) (by omega) ?_; intro a p24 hat23 hf
   refine l_e hf rfl (ev_load1 hf rfl t1_3 hat23) ?_; intro a hf
   refine l_e hf rfl (ev_fieldB hf rfl fd_107_1 (m := 1) rfl) ?_; intro a hf
   refine l_f0 hf (ef_store (vs := [.int .i64 (to.getD u14.a.toNat 0)]) (l' := [.int .i64 u14.k, .int .i64 (to.getD u14.a.toNat 0), .int .i64 u14.b]) hf rfl rfl sz_3 hB19 rfl rfl rfl rfl rfl) ?_; rintro a _ w5 ⟨ho, hb⟩ hf
   have hold := hB19
   replace ho10 := ho10.onlyA ho haw10_19
   replace hr_l := hr_l.only ho hlo19
   replace hr_to := hr_to.onlyT ho hold rfl
   replace hW := Below.only hW ho hlo19
   clear hold
   have hB19 := hb
   clear hb ho
   refine wpList_nil ?_
   refine hK20 _ _ ?_; try clear hK20 K20
   refine wp_seq_k ?_; intro K25 hK25
   refine wp_seq_k ?_; intro K26 hK26
   refine wp_region_lit ?_
   refine l_e hf rfl (ev_fieldB hf rfl fd_107_0 (m := 0) rfl) ?_; intro a hf
   refine l_e hf rfl (ev_load1 hf rfl t1_3 (hB19.at 0)) ?_; intro a hf
   refine l_f hf rfl (ef_call (vs := [.int .i64 u14.k]) hf rfl ff_99 (F99 _ u14.k)) ?_; rintro a _ _ ⟨rfl, rfl⟩ hf
   refine wpList_nil ?_
   refine hK26 _ _ ?_; try clear hK26 K26
   refine c_if hf rfl (fun hc27 => ?_) (fun hc27 => ?_)
   ·have hc27b := hc27
    have h9 : inR u14.k 9 11 = true := hc27
    have hb2 := hb.2 h9
    have hmg : mapG to u14 = ⟨u14.k, to.getD u14.a.toNat 0, to.getD u14.b.toNat 0⟩ := by rw [mapG, if_neg h12, if_pos h9]
    refine wp_region_lit ?_
    refine l_mv hf rfl rfl ?_; intro a hf
    refine l_e hf rfl (ev_fieldB hf rfl fd_107_2 (m := 2) rfl) ?_; intro a hf
    refine l_e hf rfl (ev_load1 hf rfl t1_3 (hB19.at 2)) ?_; intro a hf
    refine l_index (k := u14.b.toNat) (u := (to.getD u14.b.toNat 0)) (enc := encI) (l := to) hf trivial rfl rfl rfl sl_36 sz_3 encI_len hr_to (getD_get (by omega)) (by omega) ?_; intro a p29 hat28 hf
    refine l_e hf rfl (ev_load1 hf rfl t1_3 hat28) ?_; intro a hf
    refine l_e hf rfl (ev_fieldB hf rfl fd_107_2 (m := 2) rfl) ?_; intro a hf
    refine l_f0 hf (ef_store (vs := [.int .i64 (to.getD u14.b.toNat 0)]) (l' := [.int .i64 u14.k, .int .i64 (to.getD u14.a.toNat 0), .int .i64 (to.getD u14.b.toNat 0)]) hf rfl rfl sz_3 hB19 rfl rfl rfl rfl rfl) ?_; rintro a _ w6 ⟨ho, hb⟩ hf
    have hold := hB19
    replace ho10 := ho10.onlyA ho haw10_19
    replace hr_l := hr_l.only ho hlo19
    replace hr_to := hr_to.onlyT ho hold rfl
    replace hW := Below.only hW ho hlo19
    clear hold
    have hB19 := hb
    clear hb ho
    refine wpList_nil ?_
    refine hK25 _ _ ?_; try clear hK25 K25
    refine wp_region_lit ?_
    refine l_mv hf rfl rfl ?_; intro a hf
    refine l_e hf rfl (ev_loadN (l := [.int .i64 u14.k, .int .i64 (to.getD u14.a.toNat 0), .int .i64 (to.getD u14.b.toNat 0)]) hf rfl tN_107 (hB19.at 0) rfl) ?_; intro a hf
    refine l_f hf rfl (ef_buildSlice (k := 1) (vs := [.agg #[.int .i64 u14.k, .int .i64 (to.getD u14.a.toNat 0), .int .i64 (to.getD u14.b.toNat 0)]]) (zs := [.int .i64 u14.k, .int .i64 (to.getD u14.a.toNat 0), .int .i64 (to.getD u14.b.toNat 0)]) hf rfl sl_28 inf_107 rfl rfl) ?_; rintro a _ w7 ⟨b30, rfl, hl30, hE, hB30⟩ hf
    have hne19_30 : b19 ≠ b30 := by have := hB19.lt; omega
    have hlo30 := Nat.le_trans hW.size hl30
    have haw10_30 := ho10.away hl30
    have haw1_30 := hr_l.away hl30
    replace hB19 := hB19.below hE
    replace ho10 := ho10.below hE
    replace hr_l := hr_l.below hE
    replace hr_to := hr_to.below hE
    replace hW := btr hW hE
    clear hE
    refine l_f hf rfl (ef_append (enc := encG) (l := (m)) (l2 := ([(⟨u14.k, (to.getD u14.a.toNat 0), (to.getD u14.b.toNat 0)⟩ : Gt)])) (B0 := w0.heap.size) hf rfl rfl sl_28 inf_107 encG_len encG_one ho10 (Rd.of_blk hB30 rfl _ hB30.lt) (by simp only [maxLen]; simp; omega) (by simp; omega) hW.size) ?_; rintro a _ w8 ⟨A32, c32, rfl, ho32, hg, hat⟩ hf
    have hown : Own _ w0.heap.size 107 3 encG _ _ (m) := ho10
    have haw32_19 := hat _ hB19.lt haw10_19
    have haw32_30 := hat _ hB30.lt haw10_30
    clear hat
    replace hB19 := hB19.appA hg haw10_19
    replace hr_l := hr_l.appB hown hg (Nat.le_refl _)
    replace hr_to := hr_to.appT hown hg rfl
    replace hW := Below.app hW hown hg (Nat.le_refl _) hW.size
    clear hown hg
    refine l_as hf rfl rfl ?_; intro a hf
    refine wpList_nil ?_
    refine x_norm ?_
    refine hK15 _ _ ?_; try clear hK15 K15
    refine wp_region_lit ?_
    refine l_e hf rfl (ev_addx hf rfl rfl (by omega) (by omega)) ?_; intro a hf
    refine l_mv hf rfl rfl ?_; intro a hf
    refine wpList_nil ?_
    rw [hmg] at hst
    refine x_thenN ?_
    exact ⟨(k + 1, m ++ [(⟨u14.k, (to.getD u14.a.toNat 0), (to.getD u14.b.toNat 0)⟩ : Gt)]), ⟨A32, c32, hf.sub ⟨rfl, rfl, rfl, rfl, rfl, trivial⟩, (by omega), (by rw [hst, hm]), ho32, hr_l, hr_to, hW⟩, (by first | omega | (dsimp only; omega))⟩
   ·have hc27b := hc27
    have h9 : ¬ inR u14.k 9 11 = true := by rw [hc27]; simp
    have hmg : mapG to u14 = ⟨u14.k, to.getD u14.a.toNat 0, u14.b⟩ := by rw [mapG, if_neg h12, if_neg h9]
    refine wp_skip ?_
    refine hK25 _ _ ?_; try clear hK25 K25
    refine wp_region_lit ?_
    refine l_mv hf rfl rfl ?_; intro a hf
    refine l_e hf rfl (ev_loadN (l := [.int .i64 u14.k, .int .i64 (to.getD u14.a.toNat 0), .int .i64 u14.b]) hf rfl tN_107 (hB19.at 0) rfl) ?_; intro a hf
    refine l_f hf rfl (ef_buildSlice (k := 1) (vs := [.agg #[.int .i64 u14.k, .int .i64 (to.getD u14.a.toNat 0), .int .i64 u14.b]]) (zs := [.int .i64 u14.k, .int .i64 (to.getD u14.a.toNat 0), .int .i64 u14.b]) hf rfl sl_28 inf_107 rfl rfl) ?_; rintro a _ w9 ⟨b33, rfl, hl33, hE, hB33⟩ hf
    have hne19_33 : b19 ≠ b33 := by have := hB19.lt; omega
    have hlo33 := Nat.le_trans hW.size hl33
    have haw10_33 := ho10.away hl33
    have haw1_33 := hr_l.away hl33
    replace hB19 := hB19.below hE
    replace ho10 := ho10.below hE
    replace hr_l := hr_l.below hE
    replace hr_to := hr_to.below hE
    replace hW := btr hW hE
    clear hE
    refine l_f hf rfl (ef_append (enc := encG) (l := (m)) (l2 := ([(⟨u14.k, (to.getD u14.a.toNat 0), u14.b⟩ : Gt)])) (B0 := w0.heap.size) hf rfl rfl sl_28 inf_107 encG_len encG_one ho10 (Rd.of_blk hB33 rfl _ hB33.lt) (by simp only [maxLen]; simp; omega) (by simp; omega) hW.size) ?_; rintro a _ w10 ⟨A35, c35, rfl, ho35, hg, hat⟩ hf
    have hown : Own _ w0.heap.size 107 3 encG _ _ (m) := ho10
    have haw35_19 := hat _ hB19.lt haw10_19
    have haw35_33 := hat _ hB33.lt haw10_33
    clear hat
    replace hB19 := hB19.appA hg haw10_19
    replace hr_l := hr_l.appB hown hg (Nat.le_refl _)
    replace hr_to := hr_to.appT hown hg rfl
    replace hW := Below.app hW hown hg (Nat.le_refl _) hW.size
    clear hown hg
    refine l_as hf rfl rfl ?_; intro a hf
    refine wpList_nil ?_
    refine x_norm ?_
    refine hK15 _ _ ?_; try clear hK15 K15
    refine wp_region_lit ?_
    refine l_e hf rfl (ev_addx hf rfl rfl (by omega) (by omega)) ?_; intro a hf
    refine l_mv hf rfl rfl ?_; intro a hf
    refine wpList_nil ?_
    rw [hmg] at hst
    refine x_thenN ?_
    exact ⟨(k + 1, m ++ [(⟨u14.k, (to.getD u14.a.toNat 0), u14.b⟩ : Gt)]), ⟨A35, c35, hf.sub ⟨rfl, rfl, rfl, rfl, rfl, trivial⟩, (by omega), (by rw [hst, hm]), ho35, hr_l, hr_to, hW⟩, (by first | omega | (dsimp only; omega))⟩
  ·have hc22b := hc22
   have h12 : u14.k = 12 := by simpa using hc22
   refine wp_skip ?_
   refine hK20 _ _ ?_; try clear hK20 K20
   refine wp_seq_k ?_; intro K36 hK36
   refine wp_seq_k ?_; intro K37 hK37
   refine wp_region_lit ?_
   refine l_e hf rfl (ev_fieldB hf rfl fd_107_0 (m := 0) rfl) ?_; intro a hf
   refine l_e hf rfl (ev_load1 hf rfl t1_3 (hB19.at 0)) ?_; intro a hf
   refine l_f hf rfl (ef_call (vs := [.int .i64 u14.k]) hf rfl ff_99 (F99 _ u14.k)) ?_; rintro a _ _ ⟨rfl, rfl⟩ hf
   refine wpList_nil ?_
   refine hK37 _ _ ?_; try clear hK37 K37
   refine c_if hf rfl (fun hc38 => ?_) (fun hc38 => ?_)
   ·have hc38b := hc38
    exact absurd (inR_iff.1 hc38) (by omega)
   ·have hc38b := hc38
    have h9 : ¬ inR u14.k 9 11 = true := by rw [hc38]; simp
    have hmg : mapG to u14 = u14 := by rw [mapG, if_pos h12, if_neg h9]
    refine wp_skip ?_
    refine hK36 _ _ ?_; try clear hK36 K36
    refine wp_region_lit ?_
    refine l_mv hf rfl rfl ?_; intro a hf
    refine l_e hf rfl (ev_loadN (l := [.int .i64 u14.k, .int .i64 u14.a, .int .i64 u14.b]) hf rfl tN_107 (hB19.at 0) rfl) ?_; intro a hf
    refine l_f hf rfl (ef_buildSlice (k := 1) (vs := [.agg #[.int .i64 u14.k, .int .i64 u14.a, .int .i64 u14.b]]) (zs := [.int .i64 u14.k, .int .i64 u14.a, .int .i64 u14.b]) hf rfl sl_28 inf_107 rfl rfl) ?_; rintro a _ w11 ⟨b39, rfl, hl39, hE, hB39⟩ hf
    have hne19_39 : b19 ≠ b39 := by have := hB19.lt; omega
    have hlo39 := Nat.le_trans hW.size hl39
    have haw10_39 := ho10.away hl39
    have haw1_39 := hr_l.away hl39
    replace hB19 := hB19.below hE
    replace ho10 := ho10.below hE
    replace hr_l := hr_l.below hE
    replace hr_to := hr_to.below hE
    replace hW := btr hW hE
    clear hE
    refine l_f hf rfl (ef_append (enc := encG) (l := (m)) (l2 := ([u14])) (B0 := w0.heap.size) hf rfl rfl sl_28 inf_107 encG_len encG_one ho10 (Rd.of_blk hB39 rfl _ hB39.lt) (by simp only [maxLen]; simp; omega) (by simp; omega) hW.size) ?_; rintro a _ w12 ⟨A41, c41, rfl, ho41, hg, hat⟩ hf
    have hown : Own _ w0.heap.size 107 3 encG _ _ (m) := ho10
    have haw41_19 := hat _ hB19.lt haw10_19
    have haw41_39 := hat _ hB39.lt haw10_39
    clear hat
    replace hB19 := hB19.appA hg haw10_19
    replace hr_l := hr_l.appB hown hg (Nat.le_refl _)
    replace hr_to := hr_to.appT hown hg rfl
    replace hW := Below.app hW hown hg (Nat.le_refl _) hW.size
    clear hown hg
    refine l_as hf rfl rfl ?_; intro a hf
    refine wpList_nil ?_
    refine x_norm ?_
    refine hK15 _ _ ?_; try clear hK15 K15
    refine wp_region_lit ?_
    refine l_e hf rfl (ev_addx hf rfl rfl (by omega) (by omega)) ?_; intro a hf
    refine l_mv hf rfl rfl ?_; intro a hf
    refine wpList_nil ?_
    rw [hmg] at hst
    refine x_thenN ?_
    exact ⟨(k + 1, m ++ [u14]), ⟨A41, c41, hf.sub ⟨rfl, rfl, rfl, rfl, rfl, trivial⟩, (by omega), (by rw [hst, hm]), ho41, hr_l, hr_to, hW⟩, (by first | omega | (dsimp only; omega))⟩
 ·have hc13b := hc13
  have hc13 := of_decide_eq_false hc13
  refine wp_exit ?_
  refine x_exS ?_
  refine x_exS ?_
  refine x_exit ?_
  refine hK8 _ _ ?_; try clear hK8 K8
  refine wp_seq_k ?_; intro K42 hK42
  refine wp_region_lit ?_
  refine l_mv hf rfl rfl ?_; intro a hf
  refine l_as hf rfl rfl ?_; intro a hf
  refine wpList_nil ?_
  refine hK42 _ _ ?_; try clear hK42 K42
  refine wp_ret ?_
  refine c_ret hf (res1 hf rfl rfl) ?_
  have hfin : mapI l to = m := by rw [hm, List.take_of_length_le (by omega)]; rfl
  rw [hfin]
  exact ⟨A10, c10, rfl, ho10, hW⟩
theorem F46 (w0 : World) (n : Int) (r : Rp) (Ar : Option Addr) (cr : Nat) (hr_r : Rd w0 w0.heap.size 107 encG Ar r.old) (Br : Option Addr) (dr : Nat) (hs_r : Rd w0 w0.heap.size 107 encG Br r.new) (hla : r.old.length ≤ 2305843009213693951) (hlb : r.new.length ≤ 2305843009213693951) : Ret Tryz.prog 46 [.int .i64 n, .agg #[.int .i64 r.pos, .slice Ar r.old.length cr, .slice Br r.new.length dr]] w0 (fun v w => v = .bool (vrI n r) ∧ Below w0.heap.size w0 w) := by
 refine enter Tryz.func46 rfl 36 rfl rfl ?_
 intro a hf
 have hW : Below w0.heap.size w0 w0 := Below.refl _ _
 refine wp_seq_k ?_; intro K3 hK3
 refine wp_region_lit ?_
 refine l_f hf rfl (ef_box (zs := [.int .i64 r.pos, .slice Ar r.old.length cr, .slice Br r.new.length dr]) hf rfl rfl) ?_; rintro a _ w1 ⟨b4, rfl, hl4, hE, hB4⟩ hf
 have hlo4 := Nat.le_trans hW.size hl4
 replace hr_r := hr_r.below hE
 replace hs_r := hs_r.below hE
 replace hW := btr hW hE
 clear hE
 refine l_as hf rfl rfl ?_; intro a hf
 refine wpList_nil ?_
 refine hK3 _ _ ?_; try clear hK3 K3
 refine wp_seq_k ?_; intro K5 hK5
 refine c_cut (fun a w => Fr a 36 [(4, .bool ((((((inR n 1 5) && (inR r.pos 0 400)) && (decide ((r.old.length : Int) ≤ 40))) && (decide ((r.new.length : Int) ≤ 40))) && (!(r.old.any fun x => !gOk n x))) && (!(r.new.any fun x => !gOk n x))))] ∧ Below w1.heap.size w1 w) ?_ ?_
 ·have hEc : Below w1.heap.size w1 w1 := Below.refl _ _
  refine wp_region_lit ?_
  refine l_mv hf rfl rfl ?_; intro a hf
  refine l_f hf rfl (ef_call (vs := [.int .i64 n, .int .i64 1, .int .i64 5]) hf rfl ff_91 (F91 _ n 1 5)) ?_; rintro a _ _ ⟨rfl, rfl⟩ hf
  refine l_mv hf rfl rfl ?_; intro a hf
  refine g_split hf (t := 7) rfl (fun hg6 => ?_) (fun hg6 => ?_)
  ·refine l_ev hf ⟨_, _, rfl, rfl, hg6⟩ rfl rfl (ev_fieldB hf rfl fd_30_0 (m := 0) rfl) ?_; intro a hf
   refine l_ev hf ⟨_, _, rfl, rfl, hg6⟩ rfl rfl (ev_load1 hf rfl t1_3 (hB4.at 0)) ?_; intro a hf
   refine l_eff hf ⟨_, _, rfl, rfl, hg6⟩ rfl rfl (ef_call (vs := [.int .i64 r.pos, .int .i64 0, .int .i64 400]) hf rfl ff_91 (F91 _ r.pos 0 400)) ?_; rintro a _ _ ⟨rfl, rfl⟩ hf
   refine l_e hf rfl (ev_pickT hf rfl hg6 rfl) ?_; intro a hf
   refine l_mv hf rfl rfl ?_; intro a hf
   refine g_split hf (t := 12) rfl (fun hg7 => ?_) (fun hg7 => ?_)
   ·refine l_ev hf ⟨_, _, rfl, rfl, hg7⟩ rfl rfl (ev_fieldB hf rfl fd_30_1 (m := 1) rfl) ?_; intro a hf
    refine l_ev hf ⟨_, _, rfl, rfl, hg7⟩ rfl rfl (ev_load1 hf rfl t1_28 (hB4.at 1)) ?_; intro a hf
    refine l_ev hf ⟨_, _, rfl, rfl, hg7⟩ rfl rfl (ev_len hf rfl sl_28) ?_; intro a hf
    refine l_ev hf ⟨_, _, rfl, rfl, hg7⟩ rfl rfl (ev_leq hf rfl rfl) ?_; intro a hf
    refine l_e hf rfl (ev_pickT hf rfl hg7 rfl) ?_; intro a hf
    refine l_mv hf rfl rfl ?_; intro a hf
    refine g_split hf (t := 18) rfl (fun hg8 => ?_) (fun hg8 => ?_)
    ·refine l_ev hf ⟨_, _, rfl, rfl, hg8⟩ rfl rfl (ev_fieldB hf rfl fd_30_2 (m := 2) rfl) ?_; intro a hf
     refine l_ev hf ⟨_, _, rfl, rfl, hg8⟩ rfl rfl (ev_load1 hf rfl t1_28 (hB4.at 2)) ?_; intro a hf
     refine l_ev hf ⟨_, _, rfl, rfl, hg8⟩ rfl rfl (ev_len hf rfl sl_28) ?_; intro a hf
     refine l_ev hf ⟨_, _, rfl, rfl, hg8⟩ rfl rfl (ev_leq hf rfl rfl) ?_; intro a hf
     refine l_e hf rfl (ev_pickT hf rfl hg8 rfl) ?_; intro a hf
     refine l_mv hf rfl rfl ?_; intro a hf
     refine g_split hf (t := 24) rfl (fun hg9 => ?_) (fun hg9 => ?_)
     ·refine l_ev hf ⟨_, _, rfl, rfl, hg9⟩ rfl rfl (ev_move hf rfl) ?_; intro a hf
      refine l_ev hf ⟨_, _, rfl, rfl, hg9⟩ rfl rfl (ev_fieldB hf rfl fd_30_1 (m := 1) rfl) ?_; intro a hf
      refine l_ev hf ⟨_, _, rfl, rfl, hg9⟩ rfl rfl (ev_load1 hf rfl t1_28 (hB4.at 1)) ?_; intro a hf
      refine l_eff hf ⟨_, _, rfl, rfl, hg9⟩ rfl rfl (ef_call (vs := [.int .i64 n, .slice Ar r.old.length cr]) hf rfl ff_92 (F92 _ n Ar cr r.old hr_r.top hla)) ?_; rintro a _ w2 ⟨rfl, hE⟩ hf
      replace hB4 := hB4.below hE
      replace hr_r := hr_r.below hE
      replace hs_r := hs_r.below hE
      replace hW := btr hW hE
      replace hEc := btr hEc hE
      clear hE
      refine l_e hf rfl (ev_pickT hf rfl hg9 rfl) ?_; intro a hf
      refine l_mv hf rfl rfl ?_; intro a hf
      refine g_split hf (t := 30) rfl (fun hg10 => ?_) (fun hg10 => ?_)
      ·refine l_ev hf ⟨_, _, rfl, rfl, hg10⟩ rfl rfl (ev_move hf rfl) ?_; intro a hf
       refine l_ev hf ⟨_, _, rfl, rfl, hg10⟩ rfl rfl (ev_fieldB hf rfl fd_30_2 (m := 2) rfl) ?_; intro a hf
       refine l_ev hf ⟨_, _, rfl, rfl, hg10⟩ rfl rfl (ev_load1 hf rfl t1_28 (hB4.at 2)) ?_; intro a hf
       refine l_eff hf ⟨_, _, rfl, rfl, hg10⟩ rfl rfl (ef_call (vs := [.int .i64 n, .slice Br r.new.length dr]) hf rfl ff_92 (F92 _ n Br dr r.new hs_r.top hlb)) ?_; rintro a _ w3 ⟨rfl, hE⟩ hf
       replace hB4 := hB4.below hE
       replace hr_r := hr_r.below hE
       replace hs_r := hs_r.below hE
       replace hW := btr hW hE
       replace hEc := btr hEc hE
       clear hE
       refine l_e hf rfl (ev_pickT hf rfl hg10 rfl) ?_; intro a hf
       refine l_as hf rfl rfl ?_; intro a hf
       refine wpList_nil ?_
       have hEE : Below w1.heap.size w1 w3 := hEc
       exact ⟨hf.sub ⟨look_bool rfl (by first | rfl | (simp only [hg6, hg7, hg8, hg9, hg10, Bool.true_and, Bool.false_and, Bool.true_or, Bool.false_or]; done) | simp [hg6, hg7, hg8, hg9, hg10]), trivial⟩, hEE⟩
      ·refine l_pass hf ⟨_, _, rfl, rfl, hg10⟩ rfl rfl ?_; intro a hf
       refine l_pass hf ⟨_, _, rfl, rfl, hg10⟩ rfl rfl ?_; intro a hf
       refine l_pass hf ⟨_, _, rfl, rfl, hg10⟩ rfl rfl ?_; intro a hf
       refine l_pass hf ⟨_, _, rfl, rfl, hg10⟩ rfl rfl ?_; intro a hf
       refine l_e hf rfl (ev_pickF hf rfl hg10 rfl) ?_; intro a hf
       refine l_as hf rfl rfl ?_; intro a hf
       refine wpList_nil ?_
       have hEE : Below w1.heap.size w1 w2 := hEc
       exact ⟨hf.sub ⟨look_bool rfl (by first | rfl | (simp only [hg6, hg7, hg8, hg9, hg10, Bool.true_and, Bool.false_and, Bool.true_or, Bool.false_or]; done) | simp [hg6, hg7, hg8, hg9, hg10]), trivial⟩, hEE⟩
     ·refine l_pass hf ⟨_, _, rfl, rfl, hg9⟩ rfl rfl ?_; intro a hf
      refine l_pass hf ⟨_, _, rfl, rfl, hg9⟩ rfl rfl ?_; intro a hf
      refine l_pass hf ⟨_, _, rfl, rfl, hg9⟩ rfl rfl ?_; intro a hf
      refine l_pass hf ⟨_, _, rfl, rfl, hg9⟩ rfl rfl ?_; intro a hf
      refine l_e hf rfl (ev_pickF hf rfl hg9 rfl) ?_; intro a hf
      refine l_mv hf rfl rfl ?_; intro a hf
      refine l_pass hf ⟨_, _, rfl, rfl, rfl⟩ rfl rfl ?_; intro a hf
      refine l_pass hf ⟨_, _, rfl, rfl, rfl⟩ rfl rfl ?_; intro a hf
      refine l_pass hf ⟨_, _, rfl, rfl, rfl⟩ rfl rfl ?_; intro a hf
      refine l_pass hf ⟨_, _, rfl, rfl, rfl⟩ rfl rfl ?_; intro a hf
      refine l_e hf rfl (ev_pickF hf rfl rfl rfl) ?_; intro a hf
      refine l_as hf rfl rfl ?_; intro a hf
      refine wpList_nil ?_
      have hEE : Below w1.heap.size w1 w1 := hEc
      exact ⟨hf.sub ⟨look_bool rfl (by first | rfl | (simp only [hg6, hg7, hg8, hg9, Bool.true_and, Bool.false_and, Bool.true_or, Bool.false_or]; done) | simp [hg6, hg7, hg8, hg9]), trivial⟩, hEE⟩
    ·refine l_pass hf ⟨_, _, rfl, rfl, hg8⟩ rfl rfl ?_; intro a hf
     refine l_pass hf ⟨_, _, rfl, rfl, hg8⟩ rfl rfl ?_; intro a hf
     refine l_pass hf ⟨_, _, rfl, rfl, hg8⟩ rfl rfl ?_; intro a hf
     refine l_pass hf ⟨_, _, rfl, rfl, hg8⟩ rfl rfl ?_; intro a hf
     refine l_e hf rfl (ev_pickF hf rfl hg8 rfl) ?_; intro a hf
     refine l_mv hf rfl rfl ?_; intro a hf
     refine l_pass hf ⟨_, _, rfl, rfl, rfl⟩ rfl rfl ?_; intro a hf
     refine l_pass hf ⟨_, _, rfl, rfl, rfl⟩ rfl rfl ?_; intro a hf
     refine l_pass hf ⟨_, _, rfl, rfl, rfl⟩ rfl rfl ?_; intro a hf
     refine l_pass hf ⟨_, _, rfl, rfl, rfl⟩ rfl rfl ?_; intro a hf
     refine l_e hf rfl (ev_pickF hf rfl rfl rfl) ?_; intro a hf
     refine l_mv hf rfl rfl ?_; intro a hf
     refine l_pass hf ⟨_, _, rfl, rfl, rfl⟩ rfl rfl ?_; intro a hf
     refine l_pass hf ⟨_, _, rfl, rfl, rfl⟩ rfl rfl ?_; intro a hf
     refine l_pass hf ⟨_, _, rfl, rfl, rfl⟩ rfl rfl ?_; intro a hf
     refine l_pass hf ⟨_, _, rfl, rfl, rfl⟩ rfl rfl ?_; intro a hf
     refine l_e hf rfl (ev_pickF hf rfl rfl rfl) ?_; intro a hf
     refine l_as hf rfl rfl ?_; intro a hf
     refine wpList_nil ?_
     have hEE : Below w1.heap.size w1 w1 := hEc
     exact ⟨hf.sub ⟨look_bool rfl (by first | rfl | (simp only [hg6, hg7, hg8, Bool.true_and, Bool.false_and, Bool.true_or, Bool.false_or]; done) | simp [hg6, hg7, hg8]), trivial⟩, hEE⟩
   ·refine l_pass hf ⟨_, _, rfl, rfl, hg7⟩ rfl rfl ?_; intro a hf
    refine l_pass hf ⟨_, _, rfl, rfl, hg7⟩ rfl rfl ?_; intro a hf
    refine l_pass hf ⟨_, _, rfl, rfl, hg7⟩ rfl rfl ?_; intro a hf
    refine l_pass hf ⟨_, _, rfl, rfl, hg7⟩ rfl rfl ?_; intro a hf
    refine l_e hf rfl (ev_pickF hf rfl hg7 rfl) ?_; intro a hf
    refine l_mv hf rfl rfl ?_; intro a hf
    refine l_pass hf ⟨_, _, rfl, rfl, rfl⟩ rfl rfl ?_; intro a hf
    refine l_pass hf ⟨_, _, rfl, rfl, rfl⟩ rfl rfl ?_; intro a hf
    refine l_pass hf ⟨_, _, rfl, rfl, rfl⟩ rfl rfl ?_; intro a hf
    refine l_pass hf ⟨_, _, rfl, rfl, rfl⟩ rfl rfl ?_; intro a hf
    refine l_e hf rfl (ev_pickF hf rfl rfl rfl) ?_; intro a hf
    refine l_mv hf rfl rfl ?_; intro a hf
    refine l_pass hf ⟨_, _, rfl, rfl, rfl⟩ rfl rfl ?_; intro a hf
    refine l_pass hf ⟨_, _, rfl, rfl, rfl⟩ rfl rfl ?_; intro a hf
    refine l_pass hf ⟨_, _, rfl, rfl, rfl⟩ rfl rfl ?_; intro a hf
    refine l_pass hf ⟨_, _, rfl, rfl, rfl⟩ rfl rfl ?_; intro a hf
    refine l_e hf rfl (ev_pickF hf rfl rfl rfl) ?_; intro a hf
    refine l_mv hf rfl rfl ?_; intro a hf
    refine l_pass hf ⟨_, _, rfl, rfl, rfl⟩ rfl rfl ?_; intro a hf
    refine l_pass hf ⟨_, _, rfl, rfl, rfl⟩ rfl rfl ?_; intro a hf
    refine l_pass hf ⟨_, _, rfl, rfl, rfl⟩ rfl rfl ?_; intro a hf
    refine l_pass hf ⟨_, _, rfl, rfl, rfl⟩ rfl rfl ?_; intro a hf
    refine l_e hf rfl (ev_pickF hf rfl rfl rfl) ?_; intro a hf
    refine l_as hf rfl rfl ?_; intro a hf
    refine wpList_nil ?_
    have hEE : Below w1.heap.size w1 w1 := hEc
    exact ⟨hf.sub ⟨look_bool rfl (by first | rfl | (simp only [hg6, hg7, Bool.true_and, Bool.false_and, Bool.true_or, Bool.false_or]; done) | simp [hg6, hg7]), trivial⟩, hEE⟩
  ·refine l_pass hf ⟨_, _, rfl, rfl, hg6⟩ rfl rfl ?_; intro a hf
   refine l_pass hf ⟨_, _, rfl, rfl, hg6⟩ rfl rfl ?_; intro a hf
   refine l_pass hf ⟨_, _, rfl, rfl, hg6⟩ rfl rfl ?_; intro a hf
   refine l_e hf rfl (ev_pickF hf rfl hg6 rfl) ?_; intro a hf
   refine l_mv hf rfl rfl ?_; intro a hf
   refine l_pass hf ⟨_, _, rfl, rfl, rfl⟩ rfl rfl ?_; intro a hf
   refine l_pass hf ⟨_, _, rfl, rfl, rfl⟩ rfl rfl ?_; intro a hf
   refine l_pass hf ⟨_, _, rfl, rfl, rfl⟩ rfl rfl ?_; intro a hf
   refine l_pass hf ⟨_, _, rfl, rfl, rfl⟩ rfl rfl ?_; intro a hf
   refine l_e hf rfl (ev_pickF hf rfl rfl rfl) ?_; intro a hf
   refine l_mv hf rfl rfl ?_; intro a hf
   refine l_pass hf ⟨_, _, rfl, rfl, rfl⟩ rfl rfl ?_; intro a hf
   refine l_pass hf ⟨_, _, rfl, rfl, rfl⟩ rfl rfl ?_; intro a hf
   refine l_pass hf ⟨_, _, rfl, rfl, rfl⟩ rfl rfl ?_; intro a hf
   refine l_pass hf ⟨_, _, rfl, rfl, rfl⟩ rfl rfl ?_; intro a hf
   refine l_e hf rfl (ev_pickF hf rfl rfl rfl) ?_; intro a hf
   refine l_mv hf rfl rfl ?_; intro a hf
   refine l_pass hf ⟨_, _, rfl, rfl, rfl⟩ rfl rfl ?_; intro a hf
   refine l_pass hf ⟨_, _, rfl, rfl, rfl⟩ rfl rfl ?_; intro a hf
   refine l_pass hf ⟨_, _, rfl, rfl, rfl⟩ rfl rfl ?_; intro a hf
   refine l_pass hf ⟨_, _, rfl, rfl, rfl⟩ rfl rfl ?_; intro a hf
   refine l_e hf rfl (ev_pickF hf rfl rfl rfl) ?_; intro a hf
   refine l_mv hf rfl rfl ?_; intro a hf
   refine l_pass hf ⟨_, _, rfl, rfl, rfl⟩ rfl rfl ?_; intro a hf
   refine l_pass hf ⟨_, _, rfl, rfl, rfl⟩ rfl rfl ?_; intro a hf
   refine l_pass hf ⟨_, _, rfl, rfl, rfl⟩ rfl rfl ?_; intro a hf
   refine l_pass hf ⟨_, _, rfl, rfl, rfl⟩ rfl rfl ?_; intro a hf
   refine l_e hf rfl (ev_pickF hf rfl rfl rfl) ?_; intro a hf
   refine l_as hf rfl rfl ?_; intro a hf
   refine wpList_nil ?_
   have hEE : Below w1.heap.size w1 w1 := hEc
   exact ⟨hf.sub ⟨look_bool rfl (by first | rfl | (simp only [hg6, Bool.true_and, Bool.false_and, Bool.true_or, Bool.false_or]; done) | simp [hg6]), trivial⟩, hEE⟩
 rintro a w4 ⟨hf, hE⟩
 replace hB4 := hB4.below hE
 replace hr_r := hr_r.below hE
 replace hs_r := hs_r.below hE
 replace hW := btr hW hE
 clear hE
 refine hK5 _ _ ?_; try clear hK5 K5
 refine wp_ret ?_
 refine c_ret hf (res1 hf rfl rfl) ?_
 exact ⟨by simp only [vrI], hW⟩
end Go.Proofs.YtfgnmflfiobkmaaGreat
set_option maxRecDepth 4000
namespace Go.Proofs.YtfgnmflfiobkmaaGreat
open Go.RowKit
theorem F137 (w0 : World) (c : Cx) (Ac : Option Addr) (cc : Nat) (hr_c : Rd w0 w0.heap.size 107 encG Ac c.gs) (m : Mx) (Am : Option Addr) (cm : Nat) (hr_m : Rd w0 w0.heap.size 189 encD Am m.cells) (hc : cOk c = true) (hm : mOk m = true) (hr : m.rows = ((2 ^ c.n.toNat : Nat) : Int)) : Ret Tryz.prog 137 [.agg #[.int .i64 c.n, .slice Ac c.gs.length cc], .agg #[.int .i64 m.rows, .int .i64 m.cols, .slice Am m.cells.length cm], .bool true] w0 (fun v w => ∃ A c1, v = .tuple #[mV A c1 ((applI c.n c.gs m).getD mZ), .bool (applI c.n c.gs m).isSome] ∧ Rd w w.heap.size 189 encD A ((applI c.n c.gs m).getD mZ).cells ∧ Below w0.heap.size w0 w) := by
 obtain ⟨hn, hlen, hgs⟩ := cOk_spec hc
 refine enter Tryz.func137 rfl 40 rfl rfl ?_
 intro a hf
 have hW : Below w0.heap.size w0 w0 := Below.refl _ _
 refine wp_seq_k ?_; intro K3 hK3
 refine wp_region_lit ?_
 refine l_f hf rfl (ef_box (zs := [.int .i64 c.n, .slice Ac c.gs.length cc]) hf rfl rfl) ?_; rintro a _ w1 ⟨b4, rfl, hl4, hE, hB4⟩ hf
 have hlo4 := Nat.le_trans hW.size hl4
 replace hr_c := hr_c.below hE
 replace hr_m := hr_m.below hE
 replace hW := btr hW hE
 clear hE
 refine l_f hf rfl (ef_box (zs := [.int .i64 m.rows, .int .i64 m.cols, .slice Am m.cells.length cm]) hf rfl rfl) ?_; rintro a _ w2 ⟨b5, rfl, hl5, hE, hB5⟩ hf
 have hlo5 := Nat.le_trans hW.size hl5
 replace hB4 := hB4.below hE
 replace hr_c := hr_c.below hE
 replace hr_m := hr_m.below hE
 replace hW := btr hW hE
 clear hE
 refine l_f hf rfl (ef_alloc (zs := [.int .i64 0, .int .i64 0, .slice none 0 0]) z_141 rfl) ?_; rintro a _ w3 ⟨b7, rfl, hl7, hE, hB7⟩ hf
 have hne5_7 : b5 ≠ b7 := by have := hB5.lt; omega
 have hlo7 := Nat.le_trans hW.size hl7
 replace hB4 := hB4.below hE
 replace hB5 := hB5.below hE
 replace hr_c := hr_c.below hE
 replace hr_m := hr_m.below hE
 replace hW := btr hW hE
 clear hE
 refine l_as hf rfl rfl ?_; intro a hf
 refine wpList_nil ?_
 refine hK3 _ _ ?_; try clear hK3 K3
 refine wp_seq_k ?_; intro K8 hK8
 refine wp_seq_k ?_; intro K9 hK9
 refine wp_region_lit ?_
 refine l_as hf rfl rfl ?_; intro a hf
 refine wpList_nil ?_
 refine hK9 _ _ ?_; try clear hK9 K9
 refine wp_block ?_
 refine c_loop (σ := Nat × Mx × Bool) (fun (s : Nat × Mx × Bool) (a : Act) (w : World) => match s with | (i, x, b) => ∃ A10 c10, Fr a 40 [(2, .bool b), (3, .pointer (some ⟨b4, 0, none⟩)), (4, .pointer (some ⟨b5, 0, none⟩)), (6, .pointer (some ⟨b7, 0, none⟩)), (8, .int .i64 (i : Int))] ∧ ((if b = true then applI c.n (c.gs.drop i) x else none) = (applI c.n c.gs m)) ∧ (b = false → x = mZ) ∧ (b = true → mOk x = true ∧ x.rows = ((2 ^ c.n.toNat : Nat) : Int)) ∧ (i ≤ c.gs.length) ∧ Blk w b4 41 [.int .i64 c.n, .slice Ac c.gs.length cc] ∧ Blk w b5 141 [.int .i64 x.rows, .int .i64 x.cols, .slice A10 x.cells.length c10] ∧ Blk w b7 141 [.int .i64 0, .int .i64 0, .slice none 0 0] ∧ Rd w w0.heap.size 107 encG Ac c.gs ∧ Rd w w.heap.size 189 encD A10 x.cells ∧ Below w0.heap.size w0 w) (fun (s : Nat × Mx × Bool) => match s with | (i, x, b) => c.gs.length - i) (0, m, true) ?_ ?_
 · exact ⟨Am, cm, hf.sub ⟨rfl, rfl, rfl, rfl, rfl, trivial⟩, rfl, (by simp), (fun _ => ⟨hm, hr⟩), (Nat.zero_le _), hB4, hB5, hB7, hr_c, hr_m.top, hW⟩
 rintro ⟨i, x, b⟩ a w4 ⟨A10, c10, hf, hinv, hz, hok, hi, hB4, hB5, hB7, hr_c, hr10, hW⟩
 refine wp_seq_k ?_; intro K11 hK11
 refine wp_seq_k ?_; intro K12 hK12
 refine c_cut (fun a w => Fr a 40 [(2, .bool b), (3, .pointer (some ⟨b4, 0, none⟩)), (4, .pointer (some ⟨b5, 0, none⟩)), (6, .pointer (some ⟨b7, 0, none⟩)), (8, .int .i64 (i : Int)), (18, .bool ((decide ((i : Int) < (c.gs.length : Int))) && b))] ∧ w4 = w) ?_ ?_
 ·refine wp_region_lit ?_
  refine l_mv hf rfl rfl ?_; intro a hf
  refine l_e hf rfl (ev_fieldB hf rfl fd_41_1 (m := 1) rfl) ?_; intro a hf
  refine l_e hf rfl (ev_load1 hf rfl t1_28 (hB4.at 1)) ?_; intro a hf
  refine l_e hf rfl (ev_len hf rfl sl_28) ?_; intro a hf
  refine l_e hf rfl (ev_lss hf rfl rfl) ?_; intro a hf
  refine l_mv hf rfl rfl ?_; intro a hf
  refine g_split hf (t := 16) rfl (fun hg13 => ?_) (fun hg13 => ?_)
  ·refine l_ev hf ⟨_, _, rfl, rfl, hg13⟩ rfl rfl (ev_move hf rfl) ?_; intro a hf
   refine l_e hf rfl (ev_pickT hf rfl hg13 rfl) ?_; intro a hf
   refine wpList_nil ?_
   exact ⟨hf.sub ⟨rfl, rfl, rfl, rfl, rfl, look_bool rfl (by first | rfl | (simp only [hg13, Bool.true_and, Bool.false_and, Bool.true_or, Bool.false_or]; done) | simp [hg13]), trivial⟩, rfl⟩
  ·refine l_pass hf ⟨_, _, rfl, rfl, hg13⟩ rfl rfl ?_; intro a hf
   refine l_e hf rfl (ev_pickF hf rfl hg13 rfl) ?_; intro a hf
   refine wpList_nil ?_
   exact ⟨hf.sub ⟨rfl, rfl, rfl, rfl, rfl, look_bool rfl (by first | rfl | (simp only [hg13, Bool.true_and, Bool.false_and, Bool.true_or, Bool.false_or]; done) | simp [hg13]), trivial⟩, rfl⟩
 rintro a _ ⟨hf, rfl⟩
 refine hK12 _ _ ?_; try clear hK12 K12
 refine c_if hf rfl (fun hc14 => ?_) (fun hc14 => ?_)
 ·have hc14b := hc14
  have hlt : (i : Int) < c.gs.length ∧ b = true := by simpa using hc14
  have hb1 := hlt.2
  obtain ⟨u, hu⟩ := getElem_ex (l := c.gs) (k := i) (by omega)
  have hgu := hgs u (List.mem_of_getElem? hu)
  obtain ⟨hg1, hg2⟩ := gate_eq hgu
  have hma := mul_agree hg2 (hok hb1).1 (by rw [(hok hb1).2]; rfl)
  have hdr := drop_get hu
  refine wp_skip ?_
  refine hK11 _ _ ?_; try clear hK11 K11
  refine wp_seq_k ?_; intro K15 hK15
  refine wp_block ?_
  refine wp_seq_k ?_; intro K16 hK16
  refine c_cut (fun a w => ∃ b21 A19 c19, Fr a 40 [(3, .pointer (some ⟨b4, 0, none⟩)), (4, .pointer (some ⟨b5, 0, none⟩)), (6, .pointer (some ⟨b7, 0, none⟩)), (8, .int .i64 (i : Int)), (9, .pointer (some ⟨b21, 0, none⟩))] ∧ w0.heap.size ≤ b21 ∧ Blk w b21 141 [.int .i64 (((gateI c.n u).getD mZ).rows), .int .i64 (((gateI c.n u).getD mZ).cols), .slice A19 (((gateI c.n u).getD mZ).cells).length c19] ∧ b5 ≠ b21 ∧ b7 ≠ b21 ∧ Own w w0.heap.size 189 5 encD A19 c19 (((gateI c.n u).getD mZ).cells) ∧ Below w4.heap.size w4 w) ?_ ?_
  ·have hEc : Below w4.heap.size w4 w4 := Below.refl _ _
   refine wp_draw none (fun j => [12].contains j) mixed ?_
   intro w5 hE
   replace hB4 := hB4.below hE
   replace hB5 := hB5.below hE
   replace hB7 := hB7.below hE
   replace hr_c := hr_c.below hE
   replace hr10 := hr10.below hE
   replace hW := btr hW hE
   replace hEc := btr hEc hE
   clear hE
   refine s_e0 0 rfl (by kernel_rfl) hf rfl (fun _ => ev_fieldB hf rfl fd_41_0 (m := 0) rfl) ?_; intro a hf
   refine s_e 1 rfl (by kernel_rfl) (by kernel_rfl) hf rfl (ev_load1 hf rfl t1_3 (hB4.at 0)) ?_; intro a hf
   refine s_e0 2 rfl (by kernel_rfl) hf rfl (fun _ => ev_fieldB hf rfl fd_41_1 (m := 1) rfl) ?_; intro a hf
   refine s_e 3 rfl (by kernel_rfl) (by kernel_rfl) hf rfl (ev_load1 hf rfl t1_28 (hB4.at 1)) ?_; intro a hf
   refine s_e0 4 rfl (by kernel_rfl) hf rfl (fun _ => ev_move hf rfl) ?_; intro a hf
   refine s_index (k := i) (u := u) (enc := encG) (l := c.gs) 5 rfl (by kernel_rfl) (by kernel_rfl) hf trivial rfl rfl rfl sl_28 sz_107 encG_len hr_c hu rfl ?_; intro a p18 hat17 hf
   refine s_e 6 rfl (by kernel_rfl) (by kernel_rfl) hf rfl (ev_loadN (l := [.int .i64 u.k, .int .i64 u.a, .int .i64 u.b]) hf rfl tN_107 hat17 rfl) ?_; intro a hf
   refine s_two 7 11 (by kernel_rfl) ?_ ?_
   ·refine p_eff rfl hf trivial rfl rfl (Ef.mono (ef_call (vs := [.int .i64 c.n, .agg #[.int .i64 u.k, .int .i64 u.a, .int .i64 u.b]]) hf rfl ff_188 (F188 _ c.n u)) (fun _ _ h => ⟨fun _ => by obtain ⟨A19, c19, rfl, ho19, hE⟩ := h; exact hE, h⟩)) ?_; rintro a _ w6 ⟨A19, c19, rfl, ho19, hE⟩ hf
    replace ho19 := ho19.lower hW.size
    replace hB4 := hB4.below hE
    replace hB5 := hB5.below hE
    replace hB7 := hB7.below hE
    replace hr_c := hr_c.below hE
    replace hr10 := hr10.below hE
    replace hW := btr hW hE
    replace hEc := btr hEc hE
    clear hE
    refine s_e0 8 rfl (by kernel_rfl) hf rfl (fun _ => ev_move hf rfl) ?_; intro a hf
    refine s_e0 9 rfl (by kernel_rfl) hf rfl (fun _ => ev_extract (vs := [.agg #[.int .i64 (((gateI c.n u).getD mZ).rows), .int .i64 (((gateI c.n u).getD mZ).cols), .slice A19 (((gateI c.n u).getD mZ).cells).length c19], .bool ((gateI c.n u).isSome)]) hf rfl rfl) ?_; intro a hf
    refine s_e0 10 rfl (by kernel_rfl) hf rfl (fun _ => ev_extract (vs := [.agg #[.int .i64 (((gateI c.n u).getD mZ).rows), .int .i64 (((gateI c.n u).getD mZ).cols), .slice A19 (((gateI c.n u).getD mZ).cells).length c19], .bool ((gateI c.n u).isSome)]) hf rfl rfl) ?_; intro a hf
    refine s_one 11 (by kernel_rfl) ?_
    refine p_eff rfl hf trivial rfl rfl (Ef.mono (ef_alloc (zs := [.int .i64 0, .int .i64 0, .slice none 0 0]) z_141 rfl) (fun _ _ h => ⟨fun _ => by obtain ⟨_, _, _, hE, _⟩ := h; exact hE, h⟩)) ?_; rintro a _ w7 ⟨b21, rfl, hl21, hE, hB21⟩ hf
    have hne5_21 : b5 ≠ b21 := by have := hB5.lt; omega
    have hne7_21 : b7 ≠ b21 := by have := hB7.lt; omega
    have hlo21 := Nat.le_trans hW.size hl21
    have hlc21 := Nat.le_trans hEc.size hl21
    replace hB4 := hB4.below hE
    replace hB5 := hB5.below hE
    replace hB7 := hB7.below hE
    replace hr_c := hr_c.below hE
    replace hr10 := hr10.below hE
    replace ho19 := ho19.below hE
    replace hW := btr hW hE
    replace hEc := btr hEc hE
    clear hE
    refine s_one 12 (by kernel_rfl) ?_
    refine p_eff0 rfl hf trivial rfl (Ef.mono (ef_store (vs := [.int .i64 (((gateI c.n u).getD mZ).rows), .int .i64 (((gateI c.n u).getD mZ).cols), .slice A19 (((gateI c.n u).getD mZ).cells).length c19]) (l' := [.int .i64 (((gateI c.n u).getD mZ).rows), .int .i64 (((gateI c.n u).getD mZ).cols), .slice A19 (((gateI c.n u).getD mZ).cells).length c19]) hf rfl rfl sz_141 hB21 rfl rfl rfl rfl rfl) (fun _ _ h => ⟨fun h0 => absurd h0 (by decide), h⟩)) ?_; rintro a _ w8 ⟨ho, hb⟩ hf
    have hold := hB21
    replace hB4 := hB4.only ho (Blk.ne hB4 hold rfl)
    replace hB5 := hB5.only ho (by omega)
    replace hB7 := hB7.only ho (by omega)
    replace hr_c := hr_c.onlyT ho hold rfl
    replace hr10 := hr10.onlyT ho hold rfl
    replace ho19 := ho19.onlyT ho hold rfl
    replace hEc := Below.only hEc ho hlc21
    replace hW := Below.only hW ho hlo21
    clear hold
    have hB21 := hb
    clear hb ho
    refine s_e0 13 rfl (by kernel_rfl) hf rfl (fun _ => ev_assign hf rfl) ?_; intro a hf
    refine s_done (by kernel_rfl) ?_
    have hEE : Below w4.heap.size w4 w8 := hEc
    exact ⟨b21, A19, c19, hf.sub ⟨rfl, rfl, rfl, rfl, rfl, trivial⟩, hlo21, hB21, hne5_21, hne7_21, ho19, hEE⟩
   ·refine p_eff rfl hf trivial rfl rfl (Ef.mono (ef_alloc (zs := [.int .i64 0, .int .i64 0, .slice none 0 0]) z_141 rfl) (fun _ _ h => ⟨fun _ => by obtain ⟨_, _, _, hE, _⟩ := h; exact hE, h⟩)) ?_; rintro a _ w9 ⟨b23, rfl, hl23, hE, hB23⟩ hf
    have hne5_23 : b5 ≠ b23 := by have := hB5.lt; omega
    have hne7_23 : b7 ≠ b23 := by have := hB7.lt; omega
    have hlo23 := Nat.le_trans hW.size hl23
    have hlc23 := Nat.le_trans hEc.size hl23
    replace hB4 := hB4.below hE
    replace hB5 := hB5.below hE
    replace hB7 := hB7.below hE
    replace hr_c := hr_c.below hE
    replace hr10 := hr10.below hE
    replace hW := btr hW hE
    replace hEc := btr hEc hE
    clear hE
    refine s_one 7 (by kernel_rfl) ?_
    refine p_eff rfl hf trivial rfl rfl (Ef.mono (ef_call (vs := [.int .i64 c.n, .agg #[.int .i64 u.k, .int .i64 u.a, .int .i64 u.b]]) hf rfl ff_188 (F188 _ c.n u)) (fun _ _ h => ⟨fun _ => by obtain ⟨A24, c24, rfl, ho24, hE⟩ := h; exact hE, h⟩)) ?_; rintro a _ w10 ⟨A24, c24, rfl, ho24, hE⟩ hf
    replace ho24 := ho24.lower hW.size
    replace hB4 := hB4.below hE
    replace hB5 := hB5.below hE
    replace hB7 := hB7.below hE
    replace hB23 := hB23.below hE
    replace hr_c := hr_c.below hE
    replace hr10 := hr10.below hE
    replace hW := btr hW hE
    replace hEc := btr hEc hE
    clear hE
    refine s_e0 8 rfl (by kernel_rfl) hf rfl (fun _ => ev_move hf rfl) ?_; intro a hf
    refine s_e0 9 rfl (by kernel_rfl) hf rfl (fun _ => ev_extract (vs := [.agg #[.int .i64 (((gateI c.n u).getD mZ).rows), .int .i64 (((gateI c.n u).getD mZ).cols), .slice A24 (((gateI c.n u).getD mZ).cells).length c24], .bool ((gateI c.n u).isSome)]) hf rfl rfl) ?_; intro a hf
    refine s_e0 10 rfl (by kernel_rfl) hf rfl (fun _ => ev_extract (vs := [.agg #[.int .i64 (((gateI c.n u).getD mZ).rows), .int .i64 (((gateI c.n u).getD mZ).cols), .slice A24 (((gateI c.n u).getD mZ).cells).length c24], .bool ((gateI c.n u).isSome)]) hf rfl rfl) ?_; intro a hf
    refine s_one 12 (by kernel_rfl) ?_
    refine p_eff0 rfl hf trivial rfl (Ef.mono (ef_store (vs := [.int .i64 (((gateI c.n u).getD mZ).rows), .int .i64 (((gateI c.n u).getD mZ).cols), .slice A24 (((gateI c.n u).getD mZ).cells).length c24]) (l' := [.int .i64 (((gateI c.n u).getD mZ).rows), .int .i64 (((gateI c.n u).getD mZ).cols), .slice A24 (((gateI c.n u).getD mZ).cells).length c24]) hf rfl rfl sz_141 hB23 rfl rfl rfl rfl rfl) (fun _ _ h => ⟨fun h0 => absurd h0 (by decide), h⟩)) ?_; rintro a _ w11 ⟨ho, hb⟩ hf
    have hold := hB23
    replace hB4 := hB4.only ho (Blk.ne hB4 hold rfl)
    replace hB5 := hB5.only ho (by omega)
    replace hB7 := hB7.only ho (by omega)
    replace hr_c := hr_c.onlyT ho hold rfl
    replace hr10 := hr10.onlyT ho hold rfl
    replace ho24 := ho24.onlyT ho hold rfl
    replace hEc := Below.only hEc ho hlc23
    replace hW := Below.only hW ho hlo23
    clear hold
    have hB23 := hb
    clear hb ho
    refine s_e0 13 rfl (by kernel_rfl) hf rfl (fun _ => ev_assign hf rfl) ?_; intro a hf
    refine s_done (by kernel_rfl) ?_
    have hEE : Below w4.heap.size w4 w11 := hEc
    exact ⟨b23, A24, c24, hf.sub ⟨rfl, rfl, rfl, rfl, (by first | rfl | (simp [look, hc14b])), trivial⟩, hlo23, hB23, hne5_23, hne7_23, ho24, hEE⟩
  rintro a w12 ⟨b21, A19, c19, hf, hlo21, hB21, hne5_21, hne7_21, ho19, hE⟩
  replace hB4 := hB4.below hE
  replace hB5 := hB5.below hE
  replace hB7 := hB7.below hE
  replace hr_c := hr_c.below hE
  replace hr10 := hr10.below hE
  replace hW := btr hW hE
  clear hE
  refine hK16 _ _ ?_; try clear hK16 K16
  refine wp_region_lit ?_
  refine l_e hf rfl (ev_loadN (l := [.int .i64 (((gateI c.n u).getD mZ).rows), .int .i64 (((gateI c.n u).getD mZ).cols), .slice A19 (((gateI c.n u).getD mZ).cells).length c19]) hf rfl tN_141 (hB21.at 0) rfl) ?_; intro a hf
  refine l_e hf rfl (ev_loadN (l := [.int .i64 x.rows, .int .i64 x.cols, .slice A10 x.cells.length c10]) hf rfl tN_141 (hB5.at 0) rfl) ?_; intro a hf
  refine l_f hf rfl (ef_call (vs := [.agg #[.int .i64 (((gateI c.n u).getD mZ).rows), .int .i64 (((gateI c.n u).getD mZ).cols), .slice A19 (((gateI c.n u).getD mZ).cells).length c19], .agg #[.int .i64 x.rows, .int .i64 x.cols, .slice A10 x.cells.length c10]]) hf rfl ff_189 (F189 _ ((gateI c.n u).getD mZ) A19 c19 ho19.rd.top x A10 c10 hr10.top (by rw [hg1, Option.getD_some]; exact gate_len hn) (mOk_le (hok hb1).1))) ?_; rintro a _ w13 ⟨A25, c25, rfl, ho25, hE⟩ hf
  replace ho25 := ho25.lower hW.size
  replace hB4 := hB4.below hE
  replace hB5 := hB5.below hE
  replace hB7 := hB7.below hE
  replace hB21 := hB21.below hE
  replace hr_c := hr_c.below hE
  replace hr10 := hr10.below hE
  replace ho19 := ho19.below hE
  replace hW := btr hW hE
  clear hE
  refine l_mv hf rfl rfl ?_; intro a hf
  refine l_e hf rfl (ev_extract (vs := [.agg #[.int .i64 (((mulI ((gateI c.n u).getD mZ) x).getD mZ).rows), .int .i64 (((mulI ((gateI c.n u).getD mZ) x).getD mZ).cols), .slice A25 (((mulI ((gateI c.n u).getD mZ) x).getD mZ).cells).length c25], .bool ((mulI ((gateI c.n u).getD mZ) x).isSome)]) hf rfl rfl) ?_; intro a hf
  refine l_e hf rfl (ev_extract (vs := [.agg #[.int .i64 (((mulI ((gateI c.n u).getD mZ) x).getD mZ).rows), .int .i64 (((mulI ((gateI c.n u).getD mZ) x).getD mZ).cols), .slice A25 (((mulI ((gateI c.n u).getD mZ) x).getD mZ).cells).length c25], .bool ((mulI ((gateI c.n u).getD mZ) x).isSome)]) hf rfl rfl) ?_; intro a hf
  refine l_f0 hf (ef_store (vs := [.int .i64 (((mulI ((gateI c.n u).getD mZ) x).getD mZ).rows), .int .i64 (((mulI ((gateI c.n u).getD mZ) x).getD mZ).cols), .slice A25 (((mulI ((gateI c.n u).getD mZ) x).getD mZ).cells).length c25]) (l' := [.int .i64 (((mulI ((gateI c.n u).getD mZ) x).getD mZ).rows), .int .i64 (((mulI ((gateI c.n u).getD mZ) x).getD mZ).cols), .slice A25 (((mulI ((gateI c.n u).getD mZ) x).getD mZ).cells).length c25]) hf rfl rfl sz_141 hB5 rfl rfl rfl rfl rfl) ?_; rintro a _ w14 ⟨ho, hb⟩ hf
  have hold := hB5
  replace hB4 := hB4.only ho (Blk.ne hB4 hold rfl)
  replace hB7 := hB7.only ho (by omega)
  replace hB21 := hB21.only ho (by omega)
  replace hr_c := hr_c.onlyT ho hold rfl
  replace hr10 := hr10.onlyT ho hold rfl
  replace ho19 := ho19.onlyT ho hold rfl
  replace ho25 := ho25.onlyT ho hold rfl
  replace hW := Below.only hW ho hlo5
  clear hold
  have hB5 := hb
  clear hb ho
  refine l_as hf rfl rfl ?_; intro a hf
  refine wpList_nil ?_
  refine x_norm ?_
  refine hK15 _ _ ?_; try clear hK15 K15
  refine wp_region_lit ?_
  refine l_mv hf rfl rfl ?_; intro a hf
  refine l_e hf rfl (ev_addx hf rfl rfl (by omega) (by omega)) ?_; intro a hf
  refine l_as hf rfl rfl ?_; intro a hf
  refine wpList_nil ?_
  refine x_thenN ?_
  exact ⟨(i + 1, ((mulI ((gateI c.n u).getD mZ) x).getD mZ), (mulI ((gateI c.n u).getD mZ) x).isSome), ⟨A25, c25, hf.sub ⟨rfl, rfl, rfl, rfl, rfl, trivial⟩, (by rw [← hinv, if_pos hb1, hdr, applI]; cases mulI ((gateI c.n u).getD mZ) x <;> rfl), (by cases mulI ((gateI c.n u).getD mZ) x <;> simp), (by rw [hg1, Option.getD_some]; intro h0; cases h1 : mulI (gateS c.n u) x with | none => rw [h1] at h0; cases h0 | some x1 => exact ⟨(hma.1 x1 h1).2.1, by rw [Option.getD_some, (hma.1 x1 h1).2.2.1]; rfl⟩), (by omega), hB4, hB5, hB7, hr_c, ho25.rd, hW⟩, (by first | omega | (dsimp only; omega))⟩
 ·have hc14b := hc14
  have hend : b = true → ¬ (i : Int) < c.gs.length := by intro h0; subst h0; simpa using hc14
  refine wp_exit ?_
  refine x_exS ?_
  refine x_exS ?_
  refine x_exit ?_
  refine hK8 _ _ ?_; try clear hK8 K8
  refine wp_seq_k ?_; intro K26 hK26
  refine wp_region_lit ?_
  refine l_e hf rfl (ev_loadN (l := [.int .i64 x.rows, .int .i64 x.cols, .slice A10 x.cells.length c10]) hf rfl tN_141 (hB5.at 0) rfl) ?_; intro a hf
  refine l_mv hf rfl rfl ?_; intro a hf
  refine l_f0 hf (ef_store (vs := [.int .i64 x.rows, .int .i64 x.cols, .slice A10 x.cells.length c10]) (l' := [.int .i64 x.rows, .int .i64 x.cols, .slice A10 x.cells.length c10]) hf rfl rfl sz_141 hB7 rfl rfl rfl rfl rfl) ?_; rintro a _ w15 ⟨ho, hb⟩ hf
  have hold := hB7
  replace hB4 := hB4.only ho (Blk.ne hB4 hold rfl)
  replace hB5 := hB5.only ho (by omega)
  replace hr_c := hr_c.onlyT ho hold rfl
  replace hr10 := hr10.onlyT ho hold rfl
  replace hW := Below.only hW ho hlo7
  clear hold
  have hB7 := hb
  clear hb ho
  refine l_as hf rfl rfl ?_; intro a hf
  refine wpList_nil ?_
  refine hK26 _ _ ?_; try clear hK26 K26
  refine wp_ret ?_
  refine c_ret hf (res2 hf rfl (ResV.cellN (l := [.int .i64 x.rows, .int .i64 x.cols, .slice A10 x.cells.length c10]) rfl tN_141 (hB7.at 0) rfl) rfl) ?_
  have hfin : applI c.n c.gs m = if b = true then some x else none := by rw [← hinv]; cases b with | false => rfl | true => rw [if_pos rfl, if_pos rfl, List.drop_of_length_le (by have := hend rfl; omega)]; rfl
  have h1 : (applI c.n c.gs m).getD mZ = x := by rw [hfin]; cases b with | false => exact (hz rfl).symm | true => rfl
  have h2 : (applI c.n c.gs m).isSome = b := by rw [hfin]; cases b <;> rfl
  rw [h1, h2]
  exact ⟨A10, c10, rfl, hr10.top, hW⟩
end Go.Proofs.YtfgnmflfiobkmaaGreat
set_option maxRecDepth 4000
namespace Go.Proofs.YtfgnmflfiobkmaaGreat
open Go.RowKit
theorem F136u (w0 : World) (d : Nat) (h : isDimB (d : Int) = true) : Ret Tryz.prog 136 [.int .i64 (d : Int)] w0 (fun v w => ∃ A c, v = .tuple #[mV A c (unitS d), .bool true] ∧ Own w w0.heap.size 189 5 encD A c (unitS d).cells ∧ Below w0.heap.size w0 w) := by
 have h1 := F136 w0 (d : Int)
 rw [(idI_unit h).1] at h1
 exact h1
theorem F97 (w0 : World) (c : Cx) (Ac : Option Addr) (cc : Nat) (hr_c : Rd w0 w0.heap.size 107 encG Ac c.gs) (hlc : c.gs.length ≤ 2305843009213693951) : Ret Tryz.prog 97 [.agg #[.int .i64 c.n, .slice Ac c.gs.length cc]] w0 (fun v w => ∃ A c1, v = .tuple #[mV A c1 ((opI c).getD mZ), .bool (opI c).isSome] ∧ Rd w w.heap.size 189 encD A ((opI c).getD mZ).cells ∧ Below w0.heap.size w0 w) := by
 refine enter Tryz.func97 rfl 23 rfl rfl ?_
 intro a hf
 have hW : Below w0.heap.size w0 w0 := Below.refl _ _
 refine wp_seq_k ?_; intro K2 hK2
 refine wp_region_lit ?_
 refine l_f hf rfl (ef_box (zs := [.int .i64 c.n, .slice Ac c.gs.length cc]) hf rfl rfl) ?_; rintro a _ w1 ⟨b3, rfl, hl3, hE, hB3⟩ hf
 have hlo3 := Nat.le_trans hW.size hl3
 replace hr_c := hr_c.below hE
 replace hW := btr hW hE
 clear hE
 refine l_f hf rfl (ef_alloc (zs := [.int .i64 0, .int .i64 0, .slice none 0 0]) z_141 rfl) ?_; rintro a _ w2 ⟨b5, rfl, hl5, hE, hB5⟩ hf
 have hlo5 := Nat.le_trans hW.size hl5
 replace hB3 := hB3.below hE
 replace hr_c := hr_c.below hE
 replace hW := btr hW hE
 clear hE
 refine l_as hf rfl rfl ?_; intro a hf
 refine wpList_nil ?_
 refine hK2 _ _ ?_; try clear hK2 K2
 refine wp_seq_k ?_; intro K6 hK6
 refine wp_seq_k ?_; intro K7 hK7
 refine wp_region_lit ?_
 refine l_e hf rfl (ev_loadN (l := [.int .i64 c.n, .slice Ac c.gs.length cc]) hf rfl tN_41 (hB3.at 0) rfl) ?_; intro a hf
 refine l_f hf rfl (ef_call (vs := [.agg #[.int .i64 c.n, .slice Ac c.gs.length cc]]) hf rfl ff_55 (F55 _ c Ac cc hr_c.top hlc)) ?_; rintro a _ w3 ⟨rfl, hE⟩ hf
 replace hB3 := hB3.below hE
 replace hB5 := hB5.below hE
 replace hr_c := hr_c.below hE
 replace hW := btr hW hE
 clear hE
 refine l_e hf rfl (ev_not hf rfl) ?_; intro a hf
 refine wpList_nil ?_
 refine hK7 _ _ ?_; try clear hK7 K7
 refine c_if hf rfl (fun hc8 => ?_) (fun hc8 => ?_)
 ·have hc8b := hc8
  have hn : ¬ cOk c = true := by revert hc8; cases cOk c <;> simp
  refine wp_seq_k ?_; intro K9 hK9
  refine wp_region_lit ?_
  refine l_e hf rfl (ev_build (ps := []) (cs := [.int .i64 0, .int .i64 0, .slice none 0 0]) hf rfl (fun _ => by first | rfl | kernel_rfl)) ?_; intro a hf
  refine l_f0 hf (ef_store (vs := [.int .i64 0, .int .i64 0, .slice none 0 0]) (l' := [.int .i64 0, .int .i64 0, .slice none 0 0]) hf rfl rfl sz_141 hB5 rfl rfl rfl rfl rfl) ?_; rintro a _ w4 ⟨ho, hb⟩ hf
  have hold := hB5
  replace hB3 := hB3.only ho (Blk.ne hB3 hold rfl)
  replace hr_c := hr_c.onlyT ho hold rfl
  replace hW := Below.only hW ho hlo5
  clear hold
  have hB5 := hb
  clear hb ho
  refine l_as hf rfl rfl ?_; intro a hf
  refine wpList_nil ?_
  refine hK9 _ _ ?_; try clear hK9 K9
  refine wp_ret ?_
  refine x_retS ?_
  refine c_ret hf (res2 hf rfl (ResV.cellN (l := [.int .i64 0, .int .i64 0, .slice none 0 0]) rfl tN_141 (hB5.at 0) rfl) rfl) ?_
  have hfin : opI c = none := by rw [opI, if_neg hn]
  rw [hfin]
  exact ⟨none, 0, rfl, (Rd.nil _ 0 _ _ _).top, hW⟩
 ·have hc8b := hc8
  have hc : cOk c = true := by revert hc8; cases cOk c <;> simp
  obtain ⟨hn, hlen, hgs⟩ := cOk_spec hc
  obtain ⟨d, hd⟩ : ∃ d : Nat, d = 2 ^ c.n.toNat := ⟨_, rfl⟩
  refine wp_skip ?_
  refine hK6 _ _ ?_; try clear hK6 K6
  refine wp_seq_k ?_; intro K11 hK11
  refine wp_region_lit ?_
  refine l_e hf rfl (ev_fieldB hf rfl fd_41_0 (m := 0) rfl) ?_; intro a hf
  refine l_e hf rfl (ev_load1 hf rfl t1_3 (hB3.at 0)) ?_; intro a hf
  refine l_e hf rfl (ev_shl1 (m := c.n.toNat) (D := d) hf rfl rfl (by omega) ⟨hd, by omega⟩) ?_; intro a hf
  refine l_f hf rfl (ef_call (vs := [.int .i64 (d : Int)]) hf rfl ff_136 (F136u _ d (by rw [hd]; exact isDim_pow hn))) ?_; rintro a _ w5 ⟨A12, c12, rfl, ho12, hE⟩ hf
  replace ho12 := ho12.lower hW.size
  replace hB3 := hB3.below hE
  replace hB5 := hB5.below hE
  replace hr_c := hr_c.below hE
  replace hW := btr hW hE
  clear hE
  refine l_mv hf rfl rfl ?_; intro a hf
  refine l_e hf rfl (ev_extract (vs := [.agg #[.int .i64 ((unitS d).rows), .int .i64 ((unitS d).cols), .slice A12 ((unitS d).cells).length c12], .bool true]) hf rfl rfl) ?_; intro a hf
  refine l_e hf rfl (ev_extract (vs := [.agg #[.int .i64 ((unitS d).rows), .int .i64 ((unitS d).cols), .slice A12 ((unitS d).cells).length c12], .bool true]) hf rfl rfl) ?_; intro a hf
  refine l_f hf rfl (ef_alloc (zs := [.int .i64 0, .int .i64 0, .slice none 0 0]) z_141 rfl) ?_; rintro a _ w6 ⟨b14, rfl, hl14, hE, hB14⟩ hf
  have hne5_14 : b5 ≠ b14 := by have := hB5.lt; omega
  have hlo14 := Nat.le_trans hW.size hl14
  replace hB3 := hB3.below hE
  replace hB5 := hB5.below hE
  replace hr_c := hr_c.below hE
  replace ho12 := ho12.below hE
  replace hW := btr hW hE
  clear hE
  refine l_f0 hf (ef_store (vs := [.int .i64 ((unitS d).rows), .int .i64 ((unitS d).cols), .slice A12 ((unitS d).cells).length c12]) (l' := [.int .i64 ((unitS d).rows), .int .i64 ((unitS d).cols), .slice A12 ((unitS d).cells).length c12]) hf rfl rfl sz_141 hB14 rfl rfl rfl rfl rfl) ?_; rintro a _ w7 ⟨ho, hb⟩ hf
  have hold := hB14
  replace hB3 := hB3.only ho (Blk.ne hB3 hold rfl)
  replace hB5 := hB5.only ho (by omega)
  replace hr_c := hr_c.onlyT ho hold rfl
  replace ho12 := ho12.onlyT ho hold rfl
  replace hW := Below.only hW ho hlo14
  clear hold
  have hB14 := hb
  clear hb ho
  refine l_as hf rfl rfl ?_; intro a hf
  refine wpList_nil ?_
  refine hK11 _ _ ?_; try clear hK11 K11
  refine wp_seq_k ?_; intro K15 hK15
  refine wp_region_lit ?_
  refine l_e hf rfl (ev_loadN (l := [.int .i64 c.n, .slice Ac c.gs.length cc]) hf rfl tN_41 (hB3.at 0) rfl) ?_; intro a hf
  refine l_e hf rfl (ev_loadN (l := [.int .i64 ((unitS d).rows), .int .i64 ((unitS d).cols), .slice A12 ((unitS d).cells).length c12]) hf rfl tN_141 (hB14.at 0) rfl) ?_; intro a hf
  refine l_mv hf rfl rfl ?_; intro a hf
  refine l_f hf rfl (ef_call (vs := [.agg #[.int .i64 c.n, .slice Ac c.gs.length cc], .agg #[.int .i64 ((unitS d).rows), .int .i64 ((unitS d).cols), .slice A12 ((unitS d).cells).length c12], .bool true]) hf rfl ff_137 (F137 _ c Ac cc hr_c.top (unitS d) A12 c12 ho12.rd.top hc (idI_unit (by rw [hd]; exact isDim_pow hn)).2 (by rw [← hd]; rfl))) ?_; rintro a _ w8 ⟨A16, c16, rfl, hr16, hE⟩ hf
  replace hB3 := hB3.below hE
  replace hB5 := hB5.below hE
  replace hB14 := hB14.below hE
  replace hr_c := hr_c.below hE
  replace ho12 := ho12.below hE
  replace hW := btr hW hE
  clear hE
  refine l_e hf rfl (ev_extract (vs := [.agg #[.int .i64 (((applI c.n c.gs (unitS d)).getD mZ).rows), .int .i64 (((applI c.n c.gs (unitS d)).getD mZ).cols), .slice A16 (((applI c.n c.gs (unitS d)).getD mZ).cells).length c16], .bool ((applI c.n c.gs (unitS d)).isSome)]) hf rfl rfl) ?_; intro a hf
  refine l_e hf rfl (ev_extract (vs := [.agg #[.int .i64 (((applI c.n c.gs (unitS d)).getD mZ).rows), .int .i64 (((applI c.n c.gs (unitS d)).getD mZ).cols), .slice A16 (((applI c.n c.gs (unitS d)).getD mZ).cells).length c16], .bool ((applI c.n c.gs (unitS d)).isSome)]) hf rfl rfl) ?_; intro a hf
  refine l_f0 hf (ef_store (vs := [.int .i64 (((applI c.n c.gs (unitS d)).getD mZ).rows), .int .i64 (((applI c.n c.gs (unitS d)).getD mZ).cols), .slice A16 (((applI c.n c.gs (unitS d)).getD mZ).cells).length c16]) (l' := [.int .i64 (((applI c.n c.gs (unitS d)).getD mZ).rows), .int .i64 (((applI c.n c.gs (unitS d)).getD mZ).cols), .slice A16 (((applI c.n c.gs (unitS d)).getD mZ).cells).length c16]) hf rfl rfl sz_141 hB5 rfl rfl rfl rfl rfl) ?_; rintro a _ w9 ⟨ho, hb⟩ hf
  have hold := hB5
  replace hB3 := hB3.only ho (Blk.ne hB3 hold rfl)
  replace hB14 := hB14.only ho (by omega)
  replace hr_c := hr_c.onlyT ho hold rfl
  replace ho12 := ho12.onlyT ho hold rfl
  replace hr16 := hr16.onlyT ho hold rfl
  replace hW := Below.only hW ho hlo5
  clear hold
  have hB5 := hb
  clear hb ho
  refine l_as hf rfl rfl ?_; intro a hf
  refine wpList_nil ?_
  refine hK15 _ _ ?_; try clear hK15 K15
  refine wp_ret ?_
  refine c_ret hf (res2 hf rfl (ResV.cellN (l := [.int .i64 (((applI c.n c.gs (unitS d)).getD mZ).rows), .int .i64 (((applI c.n c.gs (unitS d)).getD mZ).cols), .slice A16 (((applI c.n c.gs (unitS d)).getD mZ).cells).length c16]) rfl tN_141 (hB5.at 0) rfl) rfl) ?_
  have hfin : opI c = applI c.n c.gs (unitS d) := by rw [opI, if_pos hc, ← hd, (idI_unit (by rw [hd]; exact isDim_pow hn)).1]; rfl
  rw [hfin]
  exact ⟨A16, c16, rfl, hr16.top, hW⟩
theorem F50 (w0 : World) (p : Cx) (Ap : Option Addr) (cp : Nat) (hr_p : Rd w0 w0.heap.size 107 encG Ap p.gs) (q : Cx) (Aq : Option Addr) (cq : Nat) (hr_q : Rd w0 w0.heap.size 107 encG Aq q.gs) (hla : p.gs.length ≤ 2305843009213693951) (hlb : q.gs.length ≤ 2305843009213693951) : Ret Tryz.prog 50 [.agg #[.int .i64 p.n, .slice Ap p.gs.length cp], .agg #[.int .i64 q.n, .slice Aq q.gs.length cq]] w0 (fun v w => v = .tuple #[.bool ((sameI p q).1), .bool ((sameI p q).2)] ∧ Below w0.heap.size w0 w) := by
 refine enter Tryz.func50 rfl 45 rfl rfl ?_
 intro a hf
 have hW : Below w0.heap.size w0 w0 := Below.refl _ _
 refine wp_seq_k ?_; intro K3 hK3
 refine wp_region_lit ?_
 refine l_f hf rfl (ef_box (zs := [.int .i64 p.n, .slice Ap p.gs.length cp]) hf rfl rfl) ?_; rintro a _ w1 ⟨b4, rfl, hl4, hE, hB4⟩ hf
 have hlo4 := Nat.le_trans hW.size hl4
 replace hr_p := hr_p.below hE
 replace hr_q := hr_q.below hE
 replace hW := btr hW hE
 clear hE
 refine l_f hf rfl (ef_box (zs := [.int .i64 q.n, .slice Aq q.gs.length cq]) hf rfl rfl) ?_; rintro a _ w2 ⟨b5, rfl, hl5, hE, hB5⟩ hf
 have hne4_5 : b4 ≠ b5 := by have := hB4.lt; omega
 have hlo5 := Nat.le_trans hW.size hl5
 replace hB4 := hB4.below hE
 replace hr_p := hr_p.below hE
 replace hr_q := hr_q.below hE
 replace hW := btr hW hE
 clear hE
 refine l_as hf rfl rfl ?_; intro a hf
 refine l_as hf rfl rfl ?_; intro a hf
 refine wpList_nil ?_
 refine hK3 _ _ ?_; try clear hK3 K3
 refine wp_seq_k ?_; intro K6 hK6
 refine wp_region_lit ?_
 refine l_e hf rfl (ev_loadN (l := [.int .i64 p.n, .slice Ap p.gs.length cp]) hf rfl tN_41 (hB4.at 0) rfl) ?_; intro a hf
 refine l_f hf rfl (ef_call (vs := [.agg #[.int .i64 p.n, .slice Ap p.gs.length cp]]) hf rfl ff_97 (F97 _ p Ap cp hr_p.top hla)) ?_; rintro a _ w3 ⟨A7, c7, rfl, hr7, hE⟩ hf
 replace hB4 := hB4.below hE
 replace hB5 := hB5.below hE
 replace hr_p := hr_p.below hE
 replace hr_q := hr_q.below hE
 replace hW := btr hW hE
 clear hE
 refine l_mv hf rfl rfl ?_; intro a hf
 refine l_e hf rfl (ev_extract (vs := [.agg #[.int .i64 (((opI p).getD mZ).rows), .int .i64 (((opI p).getD mZ).cols), .slice A7 (((opI p).getD mZ).cells).length c7], .bool ((opI p).isSome)]) hf rfl rfl) ?_; intro a hf
 refine l_e hf rfl (ev_extract (vs := [.agg #[.int .i64 (((opI p).getD mZ).rows), .int .i64 (((opI p).getD mZ).cols), .slice A7 (((opI p).getD mZ).cells).length c7], .bool ((opI p).isSome)]) hf rfl rfl) ?_; intro a hf
 refine l_f hf rfl (ef_alloc (zs := [.int .i64 0, .int .i64 0, .slice none 0 0]) z_141 rfl) ?_; rintro a _ w4 ⟨b9, rfl, hl9, hE, hB9⟩ hf
 have hlo9 := Nat.le_trans hW.size hl9
 replace hB4 := hB4.below hE
 replace hB5 := hB5.below hE
 replace hr_p := hr_p.below hE
 replace hr_q := hr_q.below hE
 replace hr7 := hr7.below hE
 replace hW := btr hW hE
 clear hE
 refine l_f0 hf (ef_store (vs := [.int .i64 (((opI p).getD mZ).rows), .int .i64 (((opI p).getD mZ).cols), .slice A7 (((opI p).getD mZ).cells).length c7]) (l' := [.int .i64 (((opI p).getD mZ).rows), .int .i64 (((opI p).getD mZ).cols), .slice A7 (((opI p).getD mZ).cells).length c7]) hf rfl rfl sz_141 hB9 rfl rfl rfl rfl rfl) ?_; rintro a _ w5 ⟨ho, hb⟩ hf
 have hold := hB9
 replace hB4 := hB4.only ho (Blk.ne hB4 hold rfl)
 replace hB5 := hB5.only ho (Blk.ne hB5 hold rfl)
 replace hr_p := hr_p.onlyT ho hold rfl
 replace hr_q := hr_q.onlyT ho hold rfl
 replace hr7 := hr7.onlyT ho hold rfl
 replace hW := Below.only hW ho hlo9
 clear hold
 have hB9 := hb
 clear hb ho
 refine l_as hf rfl rfl ?_; intro a hf
 refine wpList_nil ?_
 refine hK6 _ _ ?_; try clear hK6 K6
 refine wp_seq_k ?_; intro K10 hK10
 refine wp_region_lit ?_
 refine l_e hf rfl (ev_loadN (l := [.int .i64 q.n, .slice Aq q.gs.length cq]) hf rfl tN_41 (hB5.at 0) rfl) ?_; intro a hf
 refine l_f hf rfl (ef_call (vs := [.agg #[.int .i64 q.n, .slice Aq q.gs.length cq]]) hf rfl ff_97 (F97 _ q Aq cq hr_q.top hlb)) ?_; rintro a _ w6 ⟨A11, c11, rfl, hr11, hE⟩ hf
 replace hB4 := hB4.below hE
 replace hB5 := hB5.below hE
 replace hB9 := hB9.below hE
 replace hr_p := hr_p.below hE
 replace hr_q := hr_q.below hE
 replace hr7 := hr7.below hE
 replace hW := btr hW hE
 clear hE
 refine l_mv hf rfl rfl ?_; intro a hf
 refine l_e hf rfl (ev_extract (vs := [.agg #[.int .i64 (((opI q).getD mZ).rows), .int .i64 (((opI q).getD mZ).cols), .slice A11 (((opI q).getD mZ).cells).length c11], .bool ((opI q).isSome)]) hf rfl rfl) ?_; intro a hf
 refine l_e hf rfl (ev_extract (vs := [.agg #[.int .i64 (((opI q).getD mZ).rows), .int .i64 (((opI q).getD mZ).cols), .slice A11 (((opI q).getD mZ).cells).length c11], .bool ((opI q).isSome)]) hf rfl rfl) ?_; intro a hf
 refine l_f hf rfl (ef_alloc (zs := [.int .i64 0, .int .i64 0, .slice none 0 0]) z_141 rfl) ?_; rintro a _ w7 ⟨b13, rfl, hl13, hE, hB13⟩ hf
 have hne9_13 : b9 ≠ b13 := by have := hB9.lt; omega
 have hlo13 := Nat.le_trans hW.size hl13
 replace hB4 := hB4.below hE
 replace hB5 := hB5.below hE
 replace hB9 := hB9.below hE
 replace hr_p := hr_p.below hE
 replace hr_q := hr_q.below hE
 replace hr7 := hr7.below hE
 replace hr11 := hr11.below hE
 replace hW := btr hW hE
 clear hE
 refine l_f0 hf (ef_store (vs := [.int .i64 (((opI q).getD mZ).rows), .int .i64 (((opI q).getD mZ).cols), .slice A11 (((opI q).getD mZ).cells).length c11]) (l' := [.int .i64 (((opI q).getD mZ).rows), .int .i64 (((opI q).getD mZ).cols), .slice A11 (((opI q).getD mZ).cells).length c11]) hf rfl rfl sz_141 hB13 rfl rfl rfl rfl rfl) ?_; rintro a _ w8 ⟨ho, hb⟩ hf
 have hold := hB13
 replace hB4 := hB4.only ho (Blk.ne hB4 hold rfl)
 replace hB5 := hB5.only ho (Blk.ne hB5 hold rfl)
 replace hB9 := hB9.only ho (by omega)
 replace hr_p := hr_p.onlyT ho hold rfl
 replace hr_q := hr_q.onlyT ho hold rfl
 replace hr7 := hr7.onlyT ho hold rfl
 replace hr11 := hr11.onlyT ho hold rfl
 replace hW := Below.only hW ho hlo13
 clear hold
 have hB13 := hb
 clear hb ho
 refine l_as hf rfl rfl ?_; intro a hf
 refine wpList_nil ?_
 refine hK10 _ _ ?_; try clear hK10 K10
 refine wp_seq_k ?_; intro K14 hK14
 refine wp_seq_k ?_; intro K15 hK15
 refine c_cut (fun a w => Fr a 45 [(6, .pointer (some ⟨b9, 0, none⟩)), (8, .pointer (some ⟨b13, 0, none⟩)), (35, .bool (((!((opI p).isSome)) || (!((opI q).isSome))) || (p.n != q.n)))] ∧ w8 = w) ?_ ?_
 ·refine wp_region_lit ?_
  refine l_mv hf rfl rfl ?_; intro a hf
  refine l_e hf rfl (ev_not hf rfl) ?_; intro a hf
  refine l_mv hf rfl rfl ?_; intro a hf
  refine g_split hf (t := 25) rfl (fun hg16 => ?_) (fun hg16 => ?_)
  ·refine l_pass hf ⟨_, _, rfl, rfl, hg16⟩ rfl rfl ?_; intro a hf
   refine l_pass hf ⟨_, _, rfl, rfl, hg16⟩ rfl rfl ?_; intro a hf
   refine l_e hf rfl (ev_pickT hf rfl hg16 rfl) ?_; intro a hf
   refine l_mv hf rfl rfl ?_; intro a hf
   refine l_pass hf ⟨_, _, rfl, rfl, rfl⟩ rfl rfl ?_; intro a hf
   refine l_pass hf ⟨_, _, rfl, rfl, rfl⟩ rfl rfl ?_; intro a hf
   refine l_pass hf ⟨_, _, rfl, rfl, rfl⟩ rfl rfl ?_; intro a hf
   refine l_pass hf ⟨_, _, rfl, rfl, rfl⟩ rfl rfl ?_; intro a hf
   refine l_pass hf ⟨_, _, rfl, rfl, rfl⟩ rfl rfl ?_; intro a hf
   refine l_e hf rfl (ev_pickT hf rfl rfl rfl) ?_; intro a hf
   refine wpList_nil ?_
   exact ⟨hf.sub ⟨rfl, rfl, look_bool rfl (by first | rfl | (simp only [hg16, Bool.true_and, Bool.false_and, Bool.true_or, Bool.false_or]; done) | simp [hg16]), trivial⟩, rfl⟩
  ·refine l_ev hf ⟨_, _, rfl, rfl, hg16⟩ rfl rfl (ev_move hf rfl) ?_; intro a hf
   refine l_ev hf ⟨_, _, rfl, rfl, hg16⟩ rfl rfl (ev_not hf rfl) ?_; intro a hf
   refine l_e hf rfl (ev_pickF hf rfl hg16 rfl) ?_; intro a hf
   refine l_mv hf rfl rfl ?_; intro a hf
   refine g_split hf (t := 29) rfl (fun hg17 => ?_) (fun hg17 => ?_)
   ·refine l_pass hf ⟨_, _, rfl, rfl, hg17⟩ rfl rfl ?_; intro a hf
    refine l_pass hf ⟨_, _, rfl, rfl, hg17⟩ rfl rfl ?_; intro a hf
    refine l_pass hf ⟨_, _, rfl, rfl, hg17⟩ rfl rfl ?_; intro a hf
    refine l_pass hf ⟨_, _, rfl, rfl, hg17⟩ rfl rfl ?_; intro a hf
    refine l_pass hf ⟨_, _, rfl, rfl, hg17⟩ rfl rfl ?_; intro a hf
    refine l_e hf rfl (ev_pickT hf rfl hg17 rfl) ?_; intro a hf
    refine wpList_nil ?_
    exact ⟨hf.sub ⟨rfl, rfl, look_bool rfl (by first | rfl | (simp only [hg16, hg17, Bool.true_and, Bool.false_and, Bool.true_or, Bool.false_or]; done) | simp [hg16, hg17]), trivial⟩, rfl⟩
   ·refine l_ev hf ⟨_, _, rfl, rfl, hg17⟩ rfl rfl (ev_fieldB hf rfl fd_41_0 (m := 0) rfl) ?_; intro a hf
    refine l_ev hf ⟨_, _, rfl, rfl, hg17⟩ rfl rfl (ev_load1 hf rfl t1_3 (hB4.at 0)) ?_; intro a hf
    refine l_ev hf ⟨_, _, rfl, rfl, hg17⟩ rfl rfl (ev_fieldB hf rfl fd_41_0 (m := 0) rfl) ?_; intro a hf
    refine l_ev hf ⟨_, _, rfl, rfl, hg17⟩ rfl rfl (ev_load1 hf rfl t1_3 (hB5.at 0)) ?_; intro a hf
    refine l_ev hf ⟨_, _, rfl, rfl, hg17⟩ rfl rfl (ev_neq hf rfl rfl) ?_; intro a hf
    refine l_e hf rfl (ev_pickF hf rfl hg17 rfl) ?_; intro a hf
    refine wpList_nil ?_
    exact ⟨hf.sub ⟨rfl, rfl, look_bool rfl (by first | rfl | (simp only [hg16, hg17, Bool.true_and, Bool.false_and, Bool.true_or, Bool.false_or]; done) | simp [hg16, hg17]), trivial⟩, rfl⟩
 rintro a _ ⟨hf, rfl⟩
 refine hK15 _ _ ?_; try clear hK15 K15
 refine c_if hf rfl (fun hc18 => ?_) (fun hc18 => ?_)
 ·have hc18b := hc18
  have hn : sameI p q = (false, false) := by rw [sameI, if_neg]; intro h0; simp only [Bool.and_eq_true, beq_iff_eq] at h0; revert hc18; rw [h0.1.1, h0.1.2, h0.2]; simp
  refine wp_seq_k ?_; intro K19 hK19
  refine wp_region_lit ?_
  refine l_as hf rfl rfl ?_; intro a hf
  refine l_as hf rfl rfl ?_; intro a hf
  refine wpList_nil ?_
  refine hK19 _ _ ?_; try clear hK19 K19
  refine wp_ret ?_
  refine x_retS ?_
  refine c_ret hf (res2 hf rfl rfl rfl) ?_
  exact ⟨by rw [hn], hW⟩
 ·have hc18b := hc18
  have hy : sameI p q = (mOk ((opI p).getD mZ) && mOk ((opI q).getD mZ) && eqPh ((opI p).getD mZ) ((opI q).getD mZ), mOk ((opI p).getD mZ) && mOk ((opI q).getD mZ)) := by rw [sameI, if_pos]; revert hc18; cases (opI p).isSome <;> cases (opI q).isSome <;> simp
  refine wp_skip ?_
  refine hK14 _ _ ?_; try clear hK14 K14
  refine wp_seq_k ?_; intro K20 hK20
  refine wp_region_lit ?_
  refine l_e hf rfl (ev_loadN (l := [.int .i64 (((opI p).getD mZ).rows), .int .i64 (((opI p).getD mZ).cols), .slice A7 (((opI p).getD mZ).cells).length c7]) hf rfl tN_141 (hB9.at 0) rfl) ?_; intro a hf
  refine l_e hf rfl (ev_loadN (l := [.int .i64 (((opI q).getD mZ).rows), .int .i64 (((opI q).getD mZ).cols), .slice A11 (((opI q).getD mZ).cells).length c11]) hf rfl tN_141 (hB13.at 0) rfl) ?_; intro a hf
  refine l_f hf rfl (ef_call (vs := [.agg #[.int .i64 (((opI p).getD mZ).rows), .int .i64 (((opI p).getD mZ).cols), .slice A7 (((opI p).getD mZ).cells).length c7], .agg #[.int .i64 (((opI q).getD mZ).rows), .int .i64 (((opI q).getD mZ).cols), .slice A11 (((opI q).getD mZ).cells).length c11]]) hf rfl ff_98 (F98 _ ((opI p).getD mZ) A7 c7 hr7.top ((opI q).getD mZ) A11 c11 hr11.top (opI_le p) (opI_le q))) ?_; rintro a _ w9 ⟨ix, rfl, hE⟩ hf
  replace hB4 := hB4.below hE
  replace hB5 := hB5.below hE
  replace hB9 := hB9.below hE
  replace hB13 := hB13.below hE
  replace hr_p := hr_p.below hE
  replace hr_q := hr_q.below hE
  replace hr7 := hr7.below hE
  replace hr11 := hr11.below hE
  replace hW := btr hW hE
  clear hE
  refine l_mv hf rfl rfl ?_; intro a hf
  refine l_e hf rfl (ev_extract (vs := [.int .i64 ix, .bool (mOk ((opI p).getD mZ) && mOk ((opI q).getD mZ) && eqPh ((opI p).getD mZ) ((opI q).getD mZ)), .bool (mOk ((opI p).getD mZ) && mOk ((opI q).getD mZ))]) hf rfl rfl) ?_; intro a hf
  refine l_e hf rfl (ev_extract (vs := [.int .i64 ix, .bool (mOk ((opI p).getD mZ) && mOk ((opI q).getD mZ) && eqPh ((opI p).getD mZ) ((opI q).getD mZ)), .bool (mOk ((opI p).getD mZ) && mOk ((opI q).getD mZ))]) hf rfl rfl) ?_; intro a hf
  refine l_e hf rfl (ev_extract (vs := [.int .i64 ix, .bool (mOk ((opI p).getD mZ) && mOk ((opI q).getD mZ) && eqPh ((opI p).getD mZ) ((opI q).getD mZ)), .bool (mOk ((opI p).getD mZ) && mOk ((opI q).getD mZ))]) hf rfl rfl) ?_; intro a hf
  refine l_as hf rfl rfl ?_; intro a hf
  refine l_as hf rfl rfl ?_; intro a hf
  refine l_as hf rfl rfl ?_; intro a hf
  refine wpList_nil ?_
  refine hK20 _ _ ?_; try clear hK20 K20
  refine wp_seq_k ?_; intro K21 hK21
  refine wp_region_lit ?_
  refine l_mv hf rfl rfl ?_; intro a hf
  refine l_mv hf rfl rfl ?_; intro a hf
  refine l_as hf rfl rfl ?_; intro a hf
  refine l_as hf rfl rfl ?_; intro a hf
  refine wpList_nil ?_
  refine hK21 _ _ ?_; try clear hK21 K21
  refine wp_ret ?_
  refine c_ret hf (res2 hf rfl rfl rfl) ?_
  exact ⟨by rw [hy], hW⟩
end Go.Proofs.YtfgnmflfiobkmaaGreat
set_option maxRecDepth 4000
namespace Go.Proofs.YtfgnmflfiobkmaaGreat
open Go.RowKit
theorem F172 (w0 : World) (d : Nat) (hd : d ≤ 32) : Ret Tryz.prog 172 [.int .i64 (d : Int)] w0 (fun v w => ∃ A c, v = mV A c (unitS d) ∧ Own w w0.heap.size 189 5 encD A c (unitS d).cells ∧ Below w0.heap.size w0 w) := by
 have hdd : d * d ≤ 1024 := grid_le hd hd
 refine enter Tryz.func172 rfl 27 rfl rfl ?_
 intro a hf
 have hW : Below w0.heap.size w0 w0 := Below.refl _ _
 refine wp_seq_k ?_; intro K1 hK1
 refine wp_region_lit ?_
 refine l_f hf rfl (ef_alloc (zs := [.int .i64 0, .int .i64 0, .slice none 0 0]) z_141 rfl) ?_; rintro a _ w1 ⟨b3, rfl, hl3, hE, hB3⟩ hf
 have hlo3 := Nat.le_trans hW.size hl3
 replace hW := btr hW hE
 clear hE
 refine wpList_nil ?_
 refine hK1 _ _ ?_; try clear hK1 K1
 refine wp_seq_k ?_; intro K4 hK4
 refine wp_region_lit ?_
 refine l_mv hf rfl rfl ?_; intro a hf
 refine l_mv hf rfl rfl ?_; intro a hf
 refine l_mv hf rfl rfl ?_; intro a hf
 refine l_mv hf rfl rfl ?_; intro a hf
 refine l_e hf rfl (ev_mulN (m := d) (k := d) hf rfl rfl (by omega)) ?_; intro a hf
 refine l_f hf rfl (ef_makeSlice (m := (d * d : Nat)) (enc := encD) (z0 := dZ) hf rfl rfl sl_139 inf_189 z_189 rfl encD_len (by omega) (by omega)) ?_; rintro a _ w2 ⟨b5, rfl, hl5, hE, hB5⟩ hf
 have hlo5 := Nat.le_trans hW.size hl5
 replace hB3 := hB3.below hE
 replace hW := btr hW hE
 clear hE
 refine l_e hf rfl (ev_build (ps := [(0, .int .i64 (d : Int)), (1, .int .i64 (d : Int)), (2, .slice (some ⟨b5, 0, none⟩) (d * d : Nat) (d * d : Nat))]) (cs := [.int .i64 (d : Int), .int .i64 (d : Int), .slice (some ⟨b5, 0, none⟩) (d * d : Nat) (d * d : Nat)]) hf rfl (fun _ => by first | rfl | kernel_rfl)) ?_; intro a hf
 refine l_f hf rfl (ef_alloc (zs := [.int .i64 0, .int .i64 0, .slice none 0 0]) z_141 rfl) ?_; rintro a _ w3 ⟨b9, rfl, hl9, hE, hB9⟩ hf
 have hne3_9 : b3 ≠ b9 := by have := hB3.lt; omega
 have hlo9 := Nat.le_trans hW.size hl9
 replace hB3 := hB3.below hE
 replace hB5 := hB5.below hE
 replace hW := btr hW hE
 clear hE
 refine l_f0 hf (ef_store (vs := [.int .i64 (d : Int), .int .i64 (d : Int), .slice (some ⟨b5, 0, none⟩) (d * d : Nat) (d * d : Nat)]) (l' := [.int .i64 (d : Int), .int .i64 (d : Int), .slice (some ⟨b5, 0, none⟩) (d * d : Nat) (d * d : Nat)]) hf rfl rfl sz_141 hB9 rfl rfl rfl rfl rfl) ?_; rintro a _ w4 ⟨ho, hb⟩ hf
 have hold := hB9
 replace hB3 := hB3.only ho (by omega)
 replace hB5 := hB5.only ho (Blk.ne hB5 hold rfl)
 replace hW := Below.only hW ho hlo9
 clear hold
 have hB9 := hb
 clear hb ho
 refine wpList_nil ?_
 refine hK4 _ _ ?_; try clear hK4 K4
 refine wp_seq_k ?_; intro K10 hK10
 refine wp_seq_k ?_; intro K11 hK11
 refine wp_region_lit ?_
 refine l_as hf rfl rfl ?_; intro a hf
 refine wpList_nil ?_
 refine hK11 _ _ ?_; try clear hK11 K11
 refine wp_block ?_
 refine c_loop (σ := Nat × (List Dy)) (fun (s : Nat × (List Dy)) (a : Act) (w : World) => match s with | (i, l) => Fr a 27 [(0, .int .i64 (d : Int)), (2, .pointer (some ⟨b3, 0, none⟩)), (3, .pointer (some ⟨b9, 0, none⟩)), (4, .int .i64 (i : Int))] ∧ (i ≤ d) ∧ (l = unitP d i) ∧ Blk w b3 141 [.int .i64 0, .int .i64 0, .slice none 0 0] ∧ Blk w b5 189 (l.flatMap encD) ∧ Blk w b9 141 [.int .i64 (d : Int), .int .i64 (d : Int), .slice (some ⟨b5, 0, none⟩) (d * d : Nat) (d * d : Nat)] ∧ Below w0.heap.size w0 w) (fun (s : Nat × (List Dy)) => match s with | (i, l) => d - i) (0, List.replicate (d * d) dZ) ?_ ?_
 · exact ⟨hf.sub ⟨rfl, rfl, rfl, rfl, trivial⟩, (Nat.zero_le _), (unitP_zero d), hB3, hB5, hB9, hW⟩
 rintro ⟨i, l⟩ a w5 ⟨hf, hi, hl, hB3, hB5, hB9, hW⟩
 refine wp_seq_k ?_; intro K12 hK12
 refine wp_seq_k ?_; intro K13 hK13
 refine wp_region_lit ?_
 refine l_mv hf rfl rfl ?_; intro a hf
 refine l_mv hf rfl rfl ?_; intro a hf
 refine l_e hf rfl (ev_lss hf rfl rfl) ?_; intro a hf
 refine wpList_nil ?_
 refine hK13 _ _ ?_; try clear hK13 K13
 refine c_if hf rfl (fun hc14 => ?_) (fun hc14 => ?_)
 ·have hc14b := hc14
  have hc14 := of_decide_eq_true hc14
  have hi1 : i < d := by have := hc14; omega
  have hgb := grid_le (show i ≤ 32 by omega) hd
  refine wp_skip ?_
  refine hK12 _ _ ?_; try clear hK12 K12
  refine wp_seq_k ?_; intro K15 hK15
  refine wp_block ?_
  refine wp_draw none (fun j => [9].contains j) mixed ?_
  intro w6 hE
  replace hB3 := hB3.below hE
  replace hB5 := hB5.below hE
  replace hB9 := hB9.below hE
  replace hW := btr hW hE
  clear hE
  refine s_e0 0 rfl (by kernel_rfl) hf rfl (fun _ => ev_fieldB hf rfl fd_141_2 (m := 2) rfl) ?_; intro a hf
  refine s_e 1 rfl (by kernel_rfl) (by kernel_rfl) hf rfl (ev_load1 hf rfl t1_139 (hB9.at 2)) ?_; intro a hf
  refine s_e0 2 rfl (by kernel_rfl) hf rfl (fun _ => ev_move hf rfl) ?_; intro a hf
  refine s_e0 3 rfl (by kernel_rfl) hf rfl (fun _ => ev_move hf rfl) ?_; intro a hf
  refine s_e0 4 rfl (by kernel_rfl) hf rfl (fun _ => ev_mulN (m := i) (k := d) hf rfl rfl (by have := grid_le (show i ≤ 32 by omega) hd; omega)) ?_; intro a hf
  refine s_e0 5 rfl (by kernel_rfl) hf rfl (fun _ => ev_move hf rfl) ?_; intro a hf
  refine s_e0 6 rfl (by kernel_rfl) hf rfl (fun _ => ev_addx hf rfl rfl (by omega) (by omega)) ?_; intro a hf
  refine s_one 7 (by kernel_rfl) ?_
  refine p_eff rfl hf trivial rfl rfl (Ef.mono (ef_call (vs := [.int .i64 0]) hf rfl ff_209 (F209 _ 0)) (fun _ _ h => ⟨fun _ => by obtain ⟨rfl, hE⟩ := h; exact hE, h⟩)) ?_; rintro a _ w7 ⟨rfl, hE⟩ hf
  replace hB3 := hB3.below hE
  replace hB5 := hB5.below hE
  replace hB9 := hB9.below hE
  replace hW := btr hW hE
  clear hE
  refine s_e0 8 rfl (by kernel_rfl) hf rfl (fun _ => ev_indexB (k := (i * d + i)) (off := (i * d + i) * 5) hf rfl rfl sl_139 sz_189 (by omega) (grid_lt hi1 hi1) rfl) ?_; intro a hf
  refine s_one 9 (by kernel_rfl) ?_
  refine p_eff0 rfl hf trivial rfl (Ef.mono (ef_storeF (enc := encD) (l := l) (u := (dPow 0)) (k := (i * d + i)) hf rfl rfl sz_189 hB5 encD_len encD_one rfl (by rw [hl, unitP_len]; exact grid_lt hi1 hi1)) (fun _ _ h => ⟨fun h0 => absurd h0 (by decide), h⟩)) ?_; rintro a _ w8 ⟨ho, hb⟩ hf
  have hold := hB5
  replace hB3 := hB3.only ho (Blk.ne hB3 hold rfl)
  replace hB9 := hB9.only ho (Blk.ne hB9 hold rfl)
  replace hW := Below.only hW ho hlo5
  clear hold
  have hB5 := hb
  clear hb ho
  refine s_done (by kernel_rfl) ?_
  refine x_norm ?_
  refine hK15 _ _ ?_; try clear hK15 K15
  refine wp_region_lit ?_
  refine l_mv hf rfl rfl ?_; intro a hf
  refine l_e hf rfl (ev_addx hf rfl rfl (by omega) (by omega)) ?_; intro a hf
  refine l_as hf rfl rfl ?_; intro a hf
  refine wpList_nil ?_
  refine x_thenN ?_
  exact ⟨(i + 1, (l.set (i * d + i) (dPow 0))), ⟨hf.sub ⟨rfl, rfl, rfl, rfl, trivial⟩, (by omega), (by rw [hl]; exact unitP_step hi1), hB3, hB5, hB9, hW⟩, (by first | omega | (dsimp only; omega))⟩
 ·have hc14b := hc14
  have hc14 := of_decide_eq_false hc14
  have hi1 : i = d := by have := hc14; omega
  refine wp_exit ?_
  refine x_exS ?_
  refine x_exS ?_
  refine x_exit ?_
  refine hK10 _ _ ?_; try clear hK10 K10
  refine wp_seq_k ?_; intro K16 hK16
  refine wp_region_lit ?_
  refine l_e hf rfl (ev_loadN (l := [.int .i64 (d : Int), .int .i64 (d : Int), .slice (some ⟨b5, 0, none⟩) (d * d : Nat) (d * d : Nat)]) hf rfl tN_141 (hB9.at 0) rfl) ?_; intro a hf
  refine l_f0 hf (ef_store (vs := [.int .i64 (d : Int), .int .i64 (d : Int), .slice (some ⟨b5, 0, none⟩) (d * d : Nat) (d * d : Nat)]) (l' := [.int .i64 (d : Int), .int .i64 (d : Int), .slice (some ⟨b5, 0, none⟩) (d * d : Nat) (d * d : Nat)]) hf rfl rfl sz_141 hB3 rfl rfl rfl rfl rfl) ?_; rintro a _ w9 ⟨ho, hb⟩ hf
  have hold := hB3
  replace hB5 := hB5.only ho (Blk.ne hB5 hold rfl)
  replace hB9 := hB9.only ho (by omega)
  replace hW := Below.only hW ho hlo3
  clear hold
  have hB3 := hb
  clear hb ho
  refine wpList_nil ?_
  refine hK16 _ _ ?_; try clear hK16 K16
  refine wp_ret ?_
  refine c_ret hf (res1 hf rfl (ResV.cellN (l := [.int .i64 (d : Int), .int .i64 (d : Int), .slice (some ⟨b5, 0, none⟩) (d * d : Nat) (d * d : Nat)]) rfl tN_141 (hB3.at 0) rfl)) ?_
  have hmk : l.length = d * d := by rw [hl, unitP_len]
  have hmkb : d * d ≤ maxLen := by simp only [maxLen]; omega
  have hfin : (unitS d).cells = l := by rw [unitP_full, hl, hi1]
  exact ⟨(some ⟨b5, 0, none⟩), (d * d : Nat), by show _ = Value.agg #[.int .i64 (d : Int), .int .i64 (d : Int), .slice _ (unitS d).cells.length _]; rw [hfin, hmk], by rw [hfin]; exact (Own.of_flat encD_len hB5 hlo5 hmk hmkb), hW⟩
theorem F146 (w0 : World) (bV : Nat) (f : Bool) (hBV : Blk w0 bV 194 [.bool f]) (p : Mx) (Ap : Option Addr) (cp : Nat) (hr_p : Rd w0 w0.heap.size 189 encD Ap p.cells) (q : Mx) (Aq : Option Addr) (cq : Nat) (hr_q : Rd w0 w0.heap.size 189 encD Aq q.cells) (hp : mOk p = true) (hq : mOk q = true) (hpq : p.cols = q.rows) : Ret Tryz.prog 146 [.pointer (some ⟨bV, 0, none⟩), .agg #[.int .i64 p.rows, .int .i64 p.cols, .slice Ap p.cells.length cp], .agg #[.int .i64 q.rows, .int .i64 q.cols, .slice Aq q.cells.length cq]] w0 (fun v w => ∃ A c1, v = mV A c1 ((timesS f p q).2) ∧ Own w w0.heap.size 189 5 encD A c1 ((timesS f p q).2).cells ∧ Kept bV w0.heap.size w0 w ∧ Blk w bV 194 [.bool ((timesS f p q).1)]) := by
 have hltV := hBV.lt
 have hpl := mOk_len hp
 have hql := mOk_len hq
 have hpa := mOk_all hp
 have hqa := mOk_all hq
 have hlp : p.cells.length ≤ 1024 := by rw [hpl.2.2]; exact grid_le (by omega) (by omega)
 have hlq : q.cells.length ≤ 1024 := by rw [hql.2.2]; exact grid_le (by omega) (by omega)
 have ec1 : p.cols = (p.cols.toNat : Int) := by omega
 have ec2 : q.cols = (q.cols.toNat : Int) := by omega
 suffices hgoal : Ret Tryz.prog 146 [.pointer (some ⟨bV, 0, none⟩), .agg #[.int .i64 p.rows, .int .i64 (p.cols.toNat : Int), .slice Ap p.cells.length cp], .agg #[.int .i64 q.rows, .int .i64 (q.cols.toNat : Int), .slice Aq q.cells.length cq]] w0 (fun v w => ∃ A c1, v = .agg #[.int .i64 p.rows, .int .i64 (q.cols.toNat : Int), .slice A (timesS f p q).2.cells.length c1] ∧ Own w w0.heap.size 189 5 encD A c1 (timesS f p q).2.cells ∧ Kept bV w0.heap.size w0 w ∧ Blk w bV 194 [.bool (timesS f p q).1]) by rw [← ec1, ← ec2] at hgoal; exact hgoal
 refine enter Tryz.func146 rfl 75 rfl rfl ?_
 intro a hf
 have hW : Kept bV w0.heap.size w0 w0 := Kept.refl _ _ _
 refine wp_seq_k ?_; intro K3 hK3
 refine wp_region_lit ?_
 refine l_f hf rfl (ef_box (zs := [.int .i64 p.rows, .int .i64 (p.cols.toNat : Int), .slice Ap p.cells.length cp]) hf rfl rfl) ?_; rintro a _ w1 ⟨b4, rfl, hl4, hE, hB4⟩ hf
 have hlo4 := Nat.le_trans hW.size hl4
 replace hBV := hBV.below hE
 replace hr_p := hr_p.below hE
 replace hr_q := hr_q.below hE
 replace hW := ktr hW hE
 clear hE
 refine l_f hf rfl (ef_box (zs := [.int .i64 q.rows, .int .i64 (q.cols.toNat : Int), .slice Aq q.cells.length cq]) hf rfl rfl) ?_; rintro a _ w2 ⟨b5, rfl, hl5, hE, hB5⟩ hf
 have hne4_5 : b4 ≠ b5 := by have := hB4.lt; omega
 have hlo5 := Nat.le_trans hW.size hl5
 replace hBV := hBV.below hE
 replace hB4 := hB4.below hE
 replace hr_p := hr_p.below hE
 replace hr_q := hr_q.below hE
 replace hW := ktr hW hE
 clear hE
 refine l_f hf rfl (ef_alloc (zs := [.int .i64 0, .int .i64 0, .slice none 0 0]) z_141 rfl) ?_; rintro a _ w3 ⟨b7, rfl, hl7, hE, hB7⟩ hf
 have hne4_7 : b4 ≠ b7 := by have := hB4.lt; omega
 have hne5_7 : b5 ≠ b7 := by have := hB5.lt; omega
 have hlo7 := Nat.le_trans hW.size hl7
 replace hBV := hBV.below hE
 replace hB4 := hB4.below hE
 replace hB5 := hB5.below hE
 replace hr_p := hr_p.below hE
 replace hr_q := hr_q.below hE
 replace hW := ktr hW hE
 clear hE
 refine wpList_nil ?_
 refine hK3 _ _ ?_; try clear hK3 K3
 refine wp_seq_k ?_; intro K8 hK8
 refine wp_region_lit ?_
 refine l_e hf rfl (ev_fieldB hf rfl fd_141_0 (m := 0) rfl) ?_; intro a hf
 refine l_e hf rfl (ev_load1 hf rfl t1_3 (hB4.at 0)) ?_; intro a hf
 refine l_e hf rfl (ev_fieldB hf rfl fd_141_1 (m := 1) rfl) ?_; intro a hf
 refine l_e hf rfl (ev_load1 hf rfl t1_3 (hB5.at 1)) ?_; intro a hf
 refine l_e hf rfl (ev_build (ps := [(0, .int .i64 p.rows), (1, .int .i64 (q.cols.toNat : Int))]) (cs := [.int .i64 p.rows, .int .i64 (q.cols.toNat : Int), .slice none 0 0]) hf rfl (fun _ => by first | rfl | kernel_rfl)) ?_; intro a hf
 refine l_f hf rfl (ef_alloc (zs := [.int .i64 0, .int .i64 0, .slice none 0 0]) z_141 rfl) ?_; rintro a _ w4 ⟨b11, rfl, hl11, hE, hB11⟩ hf
 have hne4_11 : b4 ≠ b11 := by have := hB4.lt; omega
 have hne5_11 : b5 ≠ b11 := by have := hB5.lt; omega
 have hne7_11 : b7 ≠ b11 := by have := hB7.lt; omega
 have hlo11 := Nat.le_trans hW.size hl11
 replace hBV := hBV.below hE
 replace hB4 := hB4.below hE
 replace hB5 := hB5.below hE
 replace hB7 := hB7.below hE
 replace hr_p := hr_p.below hE
 replace hr_q := hr_q.below hE
 replace hW := ktr hW hE
 clear hE
 refine l_f0 hf (ef_store (vs := [.int .i64 p.rows, .int .i64 (q.cols.toNat : Int), .slice none 0 0]) (l' := [.int .i64 p.rows, .int .i64 (q.cols.toNat : Int), .slice none 0 0]) hf rfl rfl sz_141 hB11 rfl rfl rfl rfl rfl) ?_; rintro a _ w5 ⟨ho, hb⟩ hf
 have hold := hB11
 replace hBV := hBV.only ho (Blk.ne hBV hold rfl)
 replace hB4 := hB4.only ho (by omega)
 replace hB5 := hB5.only ho (by omega)
 replace hB7 := hB7.only ho (by omega)
 replace hr_p := hr_p.onlyT ho hold rfl
 replace hr_q := hr_q.onlyT ho hold rfl
 replace hW := Kept.only hW ho hlo11
 clear hold
 have hB11 := hb
 clear hb ho
 refine wpList_nil ?_
 refine hK8 _ _ ?_; try clear hK8 K8
 refine wp_seq_k ?_; intro K12 hK12
 refine wp_seq_k ?_; intro K13 hK13
 refine wp_region_lit ?_
 refine l_as hf rfl rfl ?_; intro a hf
 refine wpList_nil ?_
 refine hK13 _ _ ?_; try clear hK13 K13
 refine wp_block ?_
 refine c_loop (σ := Nat × (List Dy) × Bool) (fun (s : Nat × (List Dy) × Bool) (a : Act) (w : World) => match s with | (i, l, f1) => ∃ A14 c14, Fr a 75 [(0, .pointer (some ⟨bV, 0, none⟩)), (4, .pointer (some ⟨b4, 0, none⟩)), (5, .pointer (some ⟨b5, 0, none⟩)), (6, .pointer (some ⟨b7, 0, none⟩)), (7, .pointer (some ⟨b11, 0, none⟩)), (8, .int .i64 (i : Int))] ∧ ((i : Int) ≤ p.rows) ∧ (timesL f p q (i * q.cols.toNat) = (f1, l)) ∧ Blk w bV 194 [.bool f1] ∧ Blk w b4 141 [.int .i64 p.rows, .int .i64 (p.cols.toNat : Int), .slice Ap p.cells.length cp] ∧ Blk w b5 141 [.int .i64 q.rows, .int .i64 (q.cols.toNat : Int), .slice Aq q.cells.length cq] ∧ Blk w b7 141 [.int .i64 0, .int .i64 0, .slice none 0 0] ∧ Blk w b11 141 [.int .i64 p.rows, .int .i64 (q.cols.toNat : Int), .slice A14 l.length c14] ∧ Rd w w0.heap.size 189 encD Ap p.cells ∧ Rd w w0.heap.size 189 encD Aq q.cells ∧ Own w w0.heap.size 189 5 encD A14 c14 l ∧ Kept bV w0.heap.size w0 w) (fun (s : Nat × (List Dy) × Bool) => match s with | (i, l, f1) => (p.rows - i).toNat) (0, [], f) ?_ ?_
 · exact ⟨none, 0, hf.sub ⟨rfl, rfl, rfl, rfl, rfl, rfl, trivial⟩, (by omega), (by rw [Nat.zero_mul]; rfl), hBV, hB4, hB5, hB7, hB11, hr_p, hr_q, (Own.nil _ _ _ _ _), hW⟩
 rintro ⟨i, l, f1⟩ a w6 ⟨A14, c14, hf, hi, hl, hBV, hB4, hB5, hB7, hB11, hr_p, hr_q, ho14, hW⟩
 refine wp_seq_k ?_; intro K15 hK15
 refine wp_seq_k ?_; intro K16 hK16
 refine wp_region_lit ?_
 refine l_mv hf rfl rfl ?_; intro a hf
 refine l_e hf rfl (ev_fieldB hf rfl fd_141_0 (m := 0) rfl) ?_; intro a hf
 refine l_e hf rfl (ev_load1 hf rfl t1_3 (hB4.at 0)) ?_; intro a hf
 refine l_e hf rfl (ev_lss hf rfl rfl) ?_; intro a hf
 refine wpList_nil ?_
 refine hK16 _ _ ?_; try clear hK16 K16
 refine c_if hf rfl (fun hc17 => ?_) (fun hc17 => ?_)
 ·have hc17b := hc17
  have hc17 := of_decide_eq_true hc17
  have hi1 : (i : Int) < p.rows := hc17
  refine wp_skip ?_
  refine hK15 _ _ ?_; try clear hK15 K15
  refine wp_seq_k ?_; intro K18 hK18
  refine wp_block ?_
  refine wp_seq_k ?_; intro K19 hK19
  refine wp_region_lit ?_
  refine l_as hf rfl rfl ?_; intro a hf
  refine wpList_nil ?_
  refine hK19 _ _ ?_; try clear hK19 K19
  refine wp_block ?_
  refine c_loop (σ := Nat × (List Dy) × Bool) (fun (s : Nat × (List Dy) × Bool) (a : Act) (w : World) => match s with | (j, l2, f2) => ∃ A20 c20, Fr a 75 [(0, .pointer (some ⟨bV, 0, none⟩)), (4, .pointer (some ⟨b4, 0, none⟩)), (5, .pointer (some ⟨b5, 0, none⟩)), (6, .pointer (some ⟨b7, 0, none⟩)), (7, .pointer (some ⟨b11, 0, none⟩)), (8, .int .i64 (i : Int)), (9, .int .i64 (j : Int))] ∧ (j ≤ q.cols.toNat) ∧ (timesL f p q (i * q.cols.toNat + j) = (f2, l2)) ∧ Blk w bV 194 [.bool f2] ∧ Blk w b4 141 [.int .i64 p.rows, .int .i64 (p.cols.toNat : Int), .slice Ap p.cells.length cp] ∧ Blk w b5 141 [.int .i64 q.rows, .int .i64 (q.cols.toNat : Int), .slice Aq q.cells.length cq] ∧ Blk w b7 141 [.int .i64 0, .int .i64 0, .slice none 0 0] ∧ Blk w b11 141 [.int .i64 p.rows, .int .i64 (q.cols.toNat : Int), .slice A20 l2.length c20] ∧ Rd w w0.heap.size 189 encD Ap p.cells ∧ Rd w w0.heap.size 189 encD Aq q.cells ∧ Own w w0.heap.size 189 5 encD A20 c20 l2 ∧ Kept bV w0.heap.size w0 w) (fun (s : Nat × (List Dy) × Bool) => match s with | (j, l2, f2) => q.cols.toNat - j) (0, l, f1) ?_ ?_
  · exact ⟨A14, c14, hf.sub ⟨rfl, rfl, rfl, rfl, rfl, rfl, rfl, trivial⟩, (Nat.zero_le _), hl, hBV, hB4, hB5, hB7, hB11, hr_p, hr_q, ho14, hW⟩
  rintro ⟨j, l2, f2⟩ a w7 ⟨A20, c20, hf, hj, hl2, hBV, hB4, hB5, hB7, hB11, hr_p, hr_q, ho20, hW⟩
  refine wp_seq_k ?_; intro K21 hK21
  refine wp_seq_k ?_; intro K22 hK22
  refine wp_region_lit ?_
  refine l_mv hf rfl rfl ?_; intro a hf
  refine l_e hf rfl (ev_fieldB hf rfl fd_141_1 (m := 1) rfl) ?_; intro a hf
  refine l_e hf rfl (ev_load1 hf rfl t1_3 (hB5.at 1)) ?_; intro a hf
  refine l_e hf rfl (ev_lss hf rfl rfl) ?_; intro a hf
  refine wpList_nil ?_
  refine hK22 _ _ ?_; try clear hK22 K22
  refine c_if hf rfl (fun hc23 => ?_) (fun hc23 => ?_)
  ·have hc23b := hc23
   have hc23 := of_decide_eq_true hc23
   have hj1 : j < q.cols.toNat := by have := hc23; omega
   have hlen : l2.length = i * q.cols.toNat + j := by have := timesL_len f p q (i * q.cols.toNat + j); rw [hl2] at this; exact this
   have hgr := grid_le (show i ≤ 32 by omega) (show q.cols.toNat ≤ 32 by omega)
   have hts := timesL_step (f := f) (a := p) (b := q) (i := i) hj1
   rw [hl2] at hts
   refine wp_skip ?_
   refine hK21 _ _ ?_; try clear hK21 K21
   refine wp_seq_k ?_; intro K24 hK24
   refine wp_block ?_
   refine wp_seq_k ?_; intro K25 hK25
   refine wp_region_lit ?_
   refine l_e hf rfl (ev_build (ps := []) (cs := [.int .i64 0, .int .i64 0, .int .i64 0, .int .i64 0, .int .i64 0]) hf rfl (fun _ => by first | rfl | kernel_rfl)) ?_; intro a hf
   refine l_f hf rfl (ef_alloc (zs := [.int .i64 0, .int .i64 0, .int .i64 0, .int .i64 0, .int .i64 0]) z_189 rfl) ?_; rintro a _ w8 ⟨b26, rfl, hl26, hE, hB26⟩ hf
   have hlo26 := Nat.le_trans hW.size hl26
   have haw1_26 := hr_p.away hl26
   have haw2_26 := hr_q.away hl26
   have haw20_26 := ho20.away hl26
   replace hBV := hBV.below hE
   replace hB4 := hB4.below hE
   replace hB5 := hB5.below hE
   replace hB7 := hB7.below hE
   replace hB11 := hB11.below hE
   replace hr_p := hr_p.below hE
   replace hr_q := hr_q.below hE
   replace ho20 := ho20.below hE
   replace hW := ktr hW hE
   clear hE
   refine l_f0 hf (ef_store (vs := [.int .i64 0, .int .i64 0, .int .i64 0, .int .i64 0, .int .i64 0]) (l' := [.int .i64 0, .int .i64 0, .int .i64 0, .int .i64 0, .int .i64 0]) hf rfl rfl sz_189 hB26 rfl rfl rfl rfl rfl) ?_; rintro a _ w9 ⟨ho, hb⟩ hf
   have hold := hB26
   replace hBV := hBV.only ho (Blk.ne hBV hold rfl)
   replace hB4 := hB4.only ho (Blk.ne hB4 hold rfl)
   replace hB5 := hB5.only ho (Blk.ne hB5 hold rfl)
   replace hB7 := hB7.only ho (Blk.ne hB7 hold rfl)
   replace hB11 := hB11.only ho (Blk.ne hB11 hold rfl)
   replace hr_p := hr_p.only ho hlo26
   replace hr_q := hr_q.only ho hlo26
   replace ho20 := ho20.onlyA ho haw20_26
   replace hW := Kept.only hW ho hlo26
   clear hold
   have hB26 := hb
   clear hb ho
   refine wpList_nil ?_
   refine hK25 _ _ ?_; try clear hK25 K25
   refine wp_seq_k ?_; intro K27 hK27
   refine wp_seq_k ?_; intro K28 hK28
   refine wp_region_lit ?_
   refine l_as hf rfl rfl ?_; intro a hf
   refine wpList_nil ?_
   refine hK28 _ _ ?_; try clear hK28 K28
   refine wp_block ?_
   refine c_loop (σ := Nat × Dy × Bool) (fun (s : Nat × Dy × Bool) (a : Act) (w : World) => match s with | (k, sum, f3) => Fr a 75 [(0, .pointer (some ⟨bV, 0, none⟩)), (4, .pointer (some ⟨b4, 0, none⟩)), (5, .pointer (some ⟨b5, 0, none⟩)), (6, .pointer (some ⟨b7, 0, none⟩)), (7, .pointer (some ⟨b11, 0, none⟩)), (8, .int .i64 (i : Int)), (9, .int .i64 (j : Int)), (10, .pointer (some ⟨b26, 0, none⟩)), (11, .int .i64 (k : Int))] ∧ (k ≤ p.cols.toNat) ∧ (dotS f2 p q i j k = (f3, sum)) ∧ Blk w bV 194 [.bool f3] ∧ Blk w b4 141 [.int .i64 p.rows, .int .i64 (p.cols.toNat : Int), .slice Ap p.cells.length cp] ∧ Blk w b5 141 [.int .i64 q.rows, .int .i64 (q.cols.toNat : Int), .slice Aq q.cells.length cq] ∧ Blk w b7 141 [.int .i64 0, .int .i64 0, .slice none 0 0] ∧ Blk w b11 141 [.int .i64 p.rows, .int .i64 (q.cols.toNat : Int), .slice A20 l2.length c20] ∧ Blk w b26 189 [.int .i64 sum.num.a, .int .i64 sum.num.b, .int .i64 sum.num.c, .int .i64 sum.num.d, .int .i64 sum.exp] ∧ Rd w w0.heap.size 189 encD Ap p.cells ∧ Rd w w0.heap.size 189 encD Aq q.cells ∧ Own w w0.heap.size 189 5 encD A20 c20 l2 ∧ Kept bV w0.heap.size w0 w) (fun (s : Nat × Dy × Bool) => match s with | (k, sum, f3) => p.cols.toNat - k) (0, dZ, f2) ?_ ?_
   · exact ⟨hf.sub ⟨rfl, rfl, rfl, rfl, rfl, rfl, rfl, rfl, rfl, trivial⟩, (Nat.zero_le _), rfl, hBV, hB4, hB5, hB7, hB11, hB26, hr_p, hr_q, ho20, hW⟩
   rintro ⟨k, sum, f3⟩ a w10 ⟨hf, hk, hs, hBV, hB4, hB5, hB7, hB11, hB26, hr_p, hr_q, ho20, hW⟩
   have hse : 0 ≤ sum.exp ∧ sum.exp ≤ 60 := by have := dotS_exp hpa hqa f2 i j k; rw [hs] at this; exact this
   refine wp_seq_k ?_; intro K29 hK29
   refine wp_seq_k ?_; intro K30 hK30
   refine c_cut (fun a w => Fr a 75 [(0, .pointer (some ⟨bV, 0, none⟩)), (4, .pointer (some ⟨b4, 0, none⟩)), (5, .pointer (some ⟨b5, 0, none⟩)), (6, .pointer (some ⟨b7, 0, none⟩)), (7, .pointer (some ⟨b11, 0, none⟩)), (8, .int .i64 (i : Int)), (9, .int .i64 (j : Int)), (10, .pointer (some ⟨b26, 0, none⟩)), (11, .int .i64 (k : Int)), (40, .bool ((decide ((k : Int) < (p.cols.toNat : Int))) && (!f3)))] ∧ w10 = w) ?_ ?_
   ·refine wp_region_lit ?_
    refine l_mv hf rfl rfl ?_; intro a hf
    refine l_e hf rfl (ev_fieldB hf rfl fd_141_1 (m := 1) rfl) ?_; intro a hf
    refine l_e hf rfl (ev_load1 hf rfl t1_3 (hB4.at 1)) ?_; intro a hf
    refine l_e hf rfl (ev_lss hf rfl rfl) ?_; intro a hf
    refine l_mv hf rfl rfl ?_; intro a hf
    refine g_split hf (t := 34) rfl (fun hg31 => ?_) (fun hg31 => ?_)
    ·refine l_ev hf ⟨_, _, rfl, rfl, hg31⟩ rfl rfl (ev_move hf rfl) ?_; intro a hf
     refine l_ev hf ⟨_, _, rfl, rfl, hg31⟩ rfl rfl (ev_nil hf rfl) ?_; intro a hf
     refine l_ev hf ⟨_, _, rfl, rfl, hg31⟩ rfl rfl (ev_fieldB hf rfl fd_194_0 (m := 0) rfl) ?_; intro a hf
     refine l_ev hf ⟨_, _, rfl, rfl, hg31⟩ rfl rfl (ev_load1 hf rfl t1_4 (hBV.at 0)) ?_; intro a hf
     refine l_ev hf ⟨_, _, rfl, rfl, hg31⟩ rfl rfl (ev_not hf rfl) ?_; intro a hf
     refine l_e hf rfl (ev_pickT hf rfl hg31 rfl) ?_; intro a hf
     refine wpList_nil ?_
     exact ⟨hf.sub ⟨rfl, rfl, rfl, rfl, rfl, rfl, rfl, rfl, rfl, look_bool rfl (by first | rfl | (simp only [hc17b, hc23b, hg31, Bool.true_and, Bool.false_and, Bool.true_or, Bool.false_or]; done) | simp [hc17b, hc23b, hg31]), trivial⟩, rfl⟩
    ·refine l_pass hf ⟨_, _, rfl, rfl, hg31⟩ rfl rfl ?_; intro a hf
     refine l_pass hf ⟨_, _, rfl, rfl, hg31⟩ rfl rfl ?_; intro a hf
     refine l_pass hf ⟨_, _, rfl, rfl, hg31⟩ rfl rfl ?_; intro a hf
     refine l_pass hf ⟨_, _, rfl, rfl, hg31⟩ rfl rfl ?_; intro a hf
     refine l_pass hf ⟨_, _, rfl, rfl, hg31⟩ rfl rfl ?_; intro a hf
     refine l_e hf rfl (ev_pickF hf rfl hg31 rfl) ?_; intro a hf
     refine wpList_nil ?_
     exact ⟨hf.sub ⟨rfl, rfl, rfl, rfl, rfl, rfl, rfl, rfl, rfl, look_bool rfl (by first | rfl | (simp only [hc17b, hc23b, hg31, Bool.true_and, Bool.false_and, Bool.true_or, Bool.false_or]; done) | simp [hc17b, hc23b, hg31]), trivial⟩, rfl⟩
   rintro a _ ⟨hf, rfl⟩
   refine hK30 _ _ ?_; try clear hK30 K30
   refine c_if hf rfl (fun hc32 => ?_) (fun hc32 => ?_)
   ·have hc32b := hc32
    have hlt : (k : Int) < (p.cols.toNat : Int) ∧ f3 = false := by simpa using hc32
    have hk1 : k < p.cols.toNat := by omega
    have hg1 := grid_le (show i ≤ 32 by omega) (show p.cols.toNat ≤ 32 by omega)
    have hg2 := grid_le (show k ≤ 32 by omega) (show q.cols.toNat ≤ 32 by omega)
    have hnx := dot_next hs hlt.2
    refine wp_skip ?_
    refine hK29 _ _ ?_; try clear hK29 K29
    refine wp_seq_k ?_; intro K33 hK33
    refine wp_block ?_
    refine wp_draw (some bV) (fun j => [25].contains j) mixed ?_
    intro w11 hE
    replace hBV := hBV.below hE
    replace hB4 := hB4.below hE
    replace hB5 := hB5.below hE
    replace hB7 := hB7.below hE
    replace hB11 := hB11.below hE
    replace hB26 := hB26.below hE
    replace hr_p := hr_p.below hE
    replace hr_q := hr_q.below hE
    replace ho20 := ho20.below hE
    replace hW := ktr hW hE
    clear hE
    refine s_e0 0 rfl (by kernel_rfl) hf rfl (fun _ => ev_move hf rfl) ?_; intro a hf
    refine s_evV 1 rfl (by kernel_rfl) (by kernel_rfl) hf trivial rfl rfl (fun w1 h1 => ev_loadN (l := [.int .i64 sum.num.a, .int .i64 sum.num.b, .int .i64 sum.num.c, .int .i64 sum.num.d, .int .i64 sum.exp]) hf rfl tN_189 ((hB26.only h1 (Blk.ne hB26 hBV rfl)).at 0) rfl) ?_; intro a hf
    refine s_e0 2 rfl (by kernel_rfl) hf rfl (fun _ => ev_move hf rfl) ?_; intro a hf
    refine s_e0 3 rfl (by kernel_rfl) hf rfl (fun _ => ev_fieldB hf rfl fd_141_2 (m := 2) rfl) ?_; intro a hf
    refine s_evV 4 rfl (by kernel_rfl) (by kernel_rfl) hf trivial rfl rfl (fun w1 h1 => ev_load1 hf rfl t1_139 ((hB4.only h1 (Blk.ne hB4 hBV rfl)).at 2)) ?_; intro a hf
    refine s_e0 5 rfl (by kernel_rfl) hf rfl (fun _ => ev_move hf rfl) ?_; intro a hf
    refine s_e0 6 rfl (by kernel_rfl) hf rfl (fun _ => ev_fieldB hf rfl fd_141_1 (m := 1) rfl) ?_; intro a hf
    refine s_evV 7 rfl (by kernel_rfl) (by kernel_rfl) hf trivial rfl rfl (fun w1 h1 => ev_load1 hf rfl t1_3 ((hB4.only h1 (Blk.ne hB4 hBV rfl)).at 1)) ?_; intro a hf
    refine s_e0 8 rfl (by kernel_rfl) hf rfl (fun _ => ev_mulN (m := i) (k := p.cols.toNat) hf rfl rfl (by have := grid_le (show i ≤ 32 by omega) (show p.cols.toNat ≤ 32 by omega); omega)) ?_; intro a hf
    refine s_e0 9 rfl (by kernel_rfl) hf rfl (fun _ => ev_move hf rfl) ?_; intro a hf
    refine s_e0 10 rfl (by kernel_rfl) hf rfl (fun _ => ev_addx hf rfl rfl (by omega) (by omega)) ?_; intro a hf
    refine s_indexV (k := (i * p.cols.toNat + k)) (u := (p.at i k)) (enc := encD) (l := p.cells) 11 rfl (by kernel_rfl) hf trivial rfl hBV rfl rfl rfl sl_139 sz_189 encD_len hr_p (Mx.at_get (by rw [hpl.2.2]; exact grid_lt (by omega) (by omega))) (by omega) ?_; intro a p35 hat34 hat34n hf
    refine s_evV 12 rfl (by kernel_rfl) (by kernel_rfl) hf trivial rfl rfl (fun w1 h1 => ev_loadN (l := [.int .i64 ((p.at i k).num.a), .int .i64 ((p.at i k).num.b), .int .i64 ((p.at i k).num.c), .int .i64 ((p.at i k).num.d), .int .i64 ((p.at i k).exp)]) hf rfl tN_189 (hat34.only h1 hat34n) rfl) ?_; intro a hf
    refine s_e0 13 rfl (by kernel_rfl) hf rfl (fun _ => ev_fieldB hf rfl fd_141_2 (m := 2) rfl) ?_; intro a hf
    refine s_evV 14 rfl (by kernel_rfl) (by kernel_rfl) hf trivial rfl rfl (fun w1 h1 => ev_load1 hf rfl t1_139 ((hB5.only h1 (Blk.ne hB5 hBV rfl)).at 2)) ?_; intro a hf
    refine s_e0 15 rfl (by kernel_rfl) hf rfl (fun _ => ev_move hf rfl) ?_; intro a hf
    refine s_e0 16 rfl (by kernel_rfl) hf rfl (fun _ => ev_fieldB hf rfl fd_141_1 (m := 1) rfl) ?_; intro a hf
    refine s_evV 17 rfl (by kernel_rfl) (by kernel_rfl) hf trivial rfl rfl (fun w1 h1 => ev_load1 hf rfl t1_3 ((hB5.only h1 (Blk.ne hB5 hBV rfl)).at 1)) ?_; intro a hf
    refine s_e0 18 rfl (by kernel_rfl) hf rfl (fun _ => ev_mulN (m := k) (k := q.cols.toNat) hf rfl rfl (by have := grid_le (show k ≤ 32 by omega) (show q.cols.toNat ≤ 32 by omega); omega)) ?_; intro a hf
    refine s_e0 19 rfl (by kernel_rfl) hf rfl (fun _ => ev_move hf rfl) ?_; intro a hf
    refine s_e0 20 rfl (by kernel_rfl) hf rfl (fun _ => ev_addx hf rfl rfl (by omega) (by omega)) ?_; intro a hf
    refine s_indexV (k := (k * q.cols.toNat + j)) (u := (q.at k j)) (enc := encD) (l := q.cells) 21 rfl (by kernel_rfl) hf trivial rfl hBV rfl rfl rfl sl_139 sz_189 encD_len hr_q (Mx.at_get (by rw [hql.2.2]; exact grid_lt (by omega) (by omega))) (by omega) ?_; intro a p37 hat36 hat36n hf
    refine s_evV 22 rfl (by kernel_rfl) (by kernel_rfl) hf trivial rfl rfl (fun w1 h1 => ev_loadN (l := [.int .i64 ((q.at k j).num.a), .int .i64 ((q.at k j).num.b), .int .i64 ((q.at k j).num.c), .int .i64 ((q.at k j).num.d), .int .i64 ((q.at k j).exp)]) hf rfl tN_189 (hat36.only h1 hat36n) rfl) ?_; intro a hf
    refine s_one 23 (by kernel_rfl) ?_
    refine p_eff rfl hf trivial rfl rfl (Ef.mono (ef_call (vs := [.pointer (some ⟨bV, 0, none⟩), .agg #[.int .i64 ((p.at i k).num.a), .int .i64 ((p.at i k).num.b), .int .i64 ((p.at i k).num.c), .int .i64 ((p.at i k).num.d), .int .i64 ((p.at i k).exp)], .agg #[.int .i64 ((q.at k j).num.a), .int .i64 ((q.at k j).num.b), .int .i64 ((q.at k j).num.c), .int .i64 ((q.at k j).num.d), .int .i64 ((q.at k j).exp)]]) hf rfl ff_202 (F202 _ bV f3 hBV (p.at i k) (q.at k j) (dOk_exp (Mx.at_ok hpa i k)) (dOk_exp (Mx.at_ok hqa k j)))) (fun _ _ h => ⟨fun _ => by obtain ⟨rfl, hK, hbn⟩ := h; exact hK.keep, h⟩)) ?_; rintro a _ w12 ⟨rfl, hK, hbn⟩ hf
    obtain ⟨wm, hO, hm, hE⟩ := hK.mid; clear hm
    have hold := hBV
    replace hB4 := hB4.only hO (Blk.ne hB4 hold rfl)
    replace hB5 := hB5.only hO (Blk.ne hB5 hold rfl)
    replace hB7 := hB7.only hO (Blk.ne hB7 hold rfl)
    replace hB11 := hB11.only hO (Blk.ne hB11 hold rfl)
    replace hB26 := hB26.only hO (Blk.ne hB26 hold rfl)
    replace hr_p := hr_p.onlyT hO hold rfl
    replace hr_q := hr_q.onlyT hO hold rfl
    replace ho20 := ho20.onlyT hO hold rfl
    replace hW := hW.self hO
    replace hB4 := hB4.below hE
    replace hB5 := hB5.below hE
    replace hB7 := hB7.below hE
    replace hB11 := hB11.below hE
    replace hB26 := hB26.below hE
    replace hr_p := hr_p.below hE
    replace hr_q := hr_q.below hE
    replace ho20 := ho20.below hE
    replace hW := ktr hW hE
    clear hold hE hO hK; replace hBV := hbn; clear hbn
    refine s_one 24 (by kernel_rfl) ?_
    refine p_eff rfl hf trivial rfl rfl (Ef.mono (ef_call (vs := [.pointer (some ⟨bV, 0, none⟩), .agg #[.int .i64 sum.num.a, .int .i64 sum.num.b, .int .i64 sum.num.c, .int .i64 sum.num.d, .int .i64 sum.exp], .agg #[.int .i64 (((sMul f3 (p.at i k) (q.at k j)).2).num.a), .int .i64 (((sMul f3 (p.at i k) (q.at k j)).2).num.b), .int .i64 (((sMul f3 (p.at i k) (q.at k j)).2).num.c), .int .i64 (((sMul f3 (p.at i k) (q.at k j)).2).num.d), .int .i64 (((sMul f3 (p.at i k) (q.at k j)).2).exp)]]) hf rfl ff_201 (F201 _ bV ((sMul f3 (p.at i k) (q.at k j)).1) hBV sum ((sMul f3 (p.at i k) (q.at k j)).2) hse (sMul_exp (dOk_exp (Mx.at_ok hpa i k)) (dOk_exp (Mx.at_ok hqa k j))))) (fun _ _ h => ⟨fun _ => by obtain ⟨rfl, hK, hbn⟩ := h; exact hK.keep, h⟩)) ?_; rintro a _ w13 ⟨rfl, hK, hbn⟩ hf
    obtain ⟨wm, hO, hm, hE⟩ := hK.mid; clear hm
    have hold := hBV
    replace hB4 := hB4.only hO (Blk.ne hB4 hold rfl)
    replace hB5 := hB5.only hO (Blk.ne hB5 hold rfl)
    replace hB7 := hB7.only hO (Blk.ne hB7 hold rfl)
    replace hB11 := hB11.only hO (Blk.ne hB11 hold rfl)
    replace hB26 := hB26.only hO (Blk.ne hB26 hold rfl)
    replace hr_p := hr_p.onlyT hO hold rfl
    replace hr_q := hr_q.onlyT hO hold rfl
    replace ho20 := ho20.onlyT hO hold rfl
    replace hW := hW.self hO
    replace hB4 := hB4.below hE
    replace hB5 := hB5.below hE
    replace hB7 := hB7.below hE
    replace hB11 := hB11.below hE
    replace hB26 := hB26.below hE
    replace hr_p := hr_p.below hE
    replace hr_q := hr_q.below hE
    replace ho20 := ho20.below hE
    replace hW := ktr hW hE
    clear hold hE hO hK; replace hBV := hbn; clear hbn
    refine s_one 25 (by kernel_rfl) ?_
    refine p_eff0 rfl hf trivial rfl (Ef.mono (ef_store (vs := [.int .i64 (((sAdd ((sMul f3 (p.at i k) (q.at k j)).1) sum ((sMul f3 (p.at i k) (q.at k j)).2)).2).num.a), .int .i64 (((sAdd ((sMul f3 (p.at i k) (q.at k j)).1) sum ((sMul f3 (p.at i k) (q.at k j)).2)).2).num.b), .int .i64 (((sAdd ((sMul f3 (p.at i k) (q.at k j)).1) sum ((sMul f3 (p.at i k) (q.at k j)).2)).2).num.c), .int .i64 (((sAdd ((sMul f3 (p.at i k) (q.at k j)).1) sum ((sMul f3 (p.at i k) (q.at k j)).2)).2).num.d), .int .i64 (((sAdd ((sMul f3 (p.at i k) (q.at k j)).1) sum ((sMul f3 (p.at i k) (q.at k j)).2)).2).exp)]) (l' := [.int .i64 (((sAdd ((sMul f3 (p.at i k) (q.at k j)).1) sum ((sMul f3 (p.at i k) (q.at k j)).2)).2).num.a), .int .i64 (((sAdd ((sMul f3 (p.at i k) (q.at k j)).1) sum ((sMul f3 (p.at i k) (q.at k j)).2)).2).num.b), .int .i64 (((sAdd ((sMul f3 (p.at i k) (q.at k j)).1) sum ((sMul f3 (p.at i k) (q.at k j)).2)).2).num.c), .int .i64 (((sAdd ((sMul f3 (p.at i k) (q.at k j)).1) sum ((sMul f3 (p.at i k) (q.at k j)).2)).2).num.d), .int .i64 (((sAdd ((sMul f3 (p.at i k) (q.at k j)).1) sum ((sMul f3 (p.at i k) (q.at k j)).2)).2).exp)]) hf rfl rfl sz_189 hB26 rfl rfl rfl rfl rfl) (fun _ _ h => ⟨fun h0 => absurd h0 (by decide), h⟩)) ?_; rintro a _ w14 ⟨ho, hb⟩ hf
    have hold := hB26
    replace hBV := hBV.only ho (Blk.ne hBV hold rfl)
    replace hB4 := hB4.only ho (Blk.ne hB4 hold rfl)
    replace hB5 := hB5.only ho (Blk.ne hB5 hold rfl)
    replace hB7 := hB7.only ho (Blk.ne hB7 hold rfl)
    replace hB11 := hB11.only ho (Blk.ne hB11 hold rfl)
    replace hr_p := hr_p.only ho hlo26
    replace hr_q := hr_q.only ho hlo26
    replace ho20 := ho20.onlyA ho haw20_26
    replace hW := Kept.only hW ho hlo26
    clear hold
    have hB26 := hb
    clear hb ho
    refine s_done (by kernel_rfl) ?_
    refine x_norm ?_
    refine hK33 _ _ ?_; try clear hK33 K33
    refine wp_region_lit ?_
    refine l_mv hf rfl rfl ?_; intro a hf
    refine l_e hf rfl (ev_addx hf rfl rfl (by omega) (by omega)) ?_; intro a hf
    refine l_as hf rfl rfl ?_; intro a hf
    refine wpList_nil ?_
    refine x_thenN ?_
    exact ⟨(k + 1, (sAdd (sMul f3 (p.at i k) (q.at k j)).1 sum (sMul f3 (p.at i k) (q.at k j)).2).2, (sAdd (sMul f3 (p.at i k) (q.at k j)).1 sum (sMul f3 (p.at i k) (q.at k j)).2).1), ⟨hf.sub ⟨rfl, rfl, rfl, rfl, rfl, rfl, rfl, rfl, rfl, trivial⟩, (by omega), hnx, hBV, hB4, hB5, hB7, hB11, hB26, hr_p, hr_q, ho20, hW⟩, (by first | omega | (dsimp only; omega))⟩
   ·have hc32b := hc32
    have hend : f3 = true ∨ k = p.cols.toNat := by (cases f3 with | true => exact .inl rfl | false => exact .inr (by have h9 : ¬ (k : Int) < (p.cols.toNat : Int) := (by simpa using hc32); omega))
    have hde := dot_end hs hk hend
    rw [hde] at hts
    refine wp_exit ?_
    refine x_exS ?_
    refine x_exS ?_
    refine x_exit ?_
    refine hK27 _ _ ?_; try clear hK27 K27
    refine wp_region_lit ?_
    refine l_e hf rfl (ev_fieldB hf rfl fd_141_2 (m := 2) rfl) ?_; intro a hf
    refine l_e hf rfl (ev_load1 hf rfl t1_139 (hB11.at 2)) ?_; intro a hf
    refine l_e hf rfl (ev_loadN (l := [.int .i64 sum.num.a, .int .i64 sum.num.b, .int .i64 sum.num.c, .int .i64 sum.num.d, .int .i64 sum.exp]) hf rfl tN_189 (hB26.at 0) rfl) ?_; intro a hf
    refine l_f hf rfl (ef_buildSlice (k := 1) (vs := [.agg #[.int .i64 sum.num.a, .int .i64 sum.num.b, .int .i64 sum.num.c, .int .i64 sum.num.d, .int .i64 sum.exp]]) (zs := [.int .i64 sum.num.a, .int .i64 sum.num.b, .int .i64 sum.num.c, .int .i64 sum.num.d, .int .i64 sum.exp]) hf rfl sl_139 inf_189 rfl rfl) ?_; rintro a _ w15 ⟨b38, rfl, hl38, hE, hB38⟩ hf
    have hne26_38 : b26 ≠ b38 := by have := hB26.lt; omega
    have hlo38 := Nat.le_trans hW.size hl38
    have haw1_38 := hr_p.away hl38
    have haw2_38 := hr_q.away hl38
    have haw20_38 := ho20.away hl38
    replace hBV := hBV.below hE
    replace hB4 := hB4.below hE
    replace hB5 := hB5.below hE
    replace hB7 := hB7.below hE
    replace hB11 := hB11.below hE
    replace hB26 := hB26.below hE
    replace hr_p := hr_p.below hE
    replace hr_q := hr_q.below hE
    replace ho20 := ho20.below hE
    replace hW := ktr hW hE
    clear hE
    refine l_f hf rfl (ef_append (enc := encD) (l := (l2)) (l2 := ([sum])) (B0 := w0.heap.size) hf rfl rfl sl_139 inf_189 encD_len encD_one ho20 (Rd.of_blk hB38 rfl _ hB38.lt) (by simp only [maxLen]; simp; omega) (by simp; omega) hW.size) ?_; rintro a _ w16 ⟨A40, c40, rfl, ho40, hg, hat⟩ hf
    have hown : Own _ w0.heap.size 189 5 encD _ _ (l2) := ho20
    have haw40_26 := hat _ hB26.lt haw20_26
    have haw40_38 := hat _ hB38.lt haw20_38
    clear hat
    replace hBV := hBV.appT hown hg rfl
    replace hB4 := hB4.appT hown hg rfl
    replace hB5 := hB5.appT hown hg rfl
    replace hB7 := hB7.appT hown hg rfl
    replace hB11 := hB11.appT hown hg rfl
    replace hB26 := hB26.appA hg haw20_26
    replace hr_p := hr_p.appB hown hg (Nat.le_refl _)
    replace hr_q := hr_q.appB hown hg (Nat.le_refl _)
    replace hW := Kept.app hW hown hg (Nat.le_refl _) hW.size
    clear hown hg
    refine l_e hf rfl (ev_fieldB hf rfl fd_141_2 (m := 2) rfl) ?_; intro a hf
    refine l_f0 hf (ef_store (vs := [.slice A40 (l2 ++ ([sum])).length c40]) (l' := [.int .i64 p.rows, .int .i64 (q.cols.toNat : Int), .slice A40 (l2 ++ ([sum])).length c40]) hf rfl rfl sz_139 hB11 rfl rfl rfl rfl rfl) ?_; rintro a _ w17 ⟨ho, hb⟩ hf
    have hold := hB11
    replace hBV := hBV.only ho (Blk.ne hBV hold rfl)
    replace hB4 := hB4.only ho (by omega)
    replace hB5 := hB5.only ho (by omega)
    replace hB7 := hB7.only ho (by omega)
    replace hB26 := hB26.only ho (Blk.ne hB26 hold rfl)
    replace hr_p := hr_p.onlyT ho hold rfl
    replace hr_q := hr_q.onlyT ho hold rfl
    replace ho40 := ho40.onlyT ho hold rfl
    replace hW := Kept.only hW ho hlo11
    clear hold
    have hB11 := hb
    clear hb ho
    refine wpList_nil ?_
    refine x_norm ?_
    refine hK24 _ _ ?_; try clear hK24 K24
    refine wp_region_lit ?_
    refine l_mv hf rfl rfl ?_; intro a hf
    refine l_e hf rfl (ev_addx hf rfl rfl (by omega) (by omega)) ?_; intro a hf
    refine l_as hf rfl rfl ?_; intro a hf
    refine wpList_nil ?_
    refine x_thenN ?_
    exact ⟨(j + 1, l2 ++ [sum], f3), ⟨A40, c40, hf.sub ⟨rfl, rfl, rfl, rfl, rfl, rfl, rfl, trivial⟩, (by omega), hts, hBV, hB4, hB5, hB7, hB11, hr_p, hr_q, ho40, hW⟩, (by first | omega | (dsimp only; omega))⟩
  ·have hc23b := hc23
   have hc23 := of_decide_eq_false hc23
   have hj1 : j = q.cols.toNat := by have := hc23; omega
   refine wp_exit ?_
   refine x_exS ?_
   refine x_exS ?_
   refine x_exit ?_
   refine x_norm ?_
   refine hK18 _ _ ?_; try clear hK18 K18
   refine wp_region_lit ?_
   refine l_mv hf rfl rfl ?_; intro a hf
   refine l_e hf rfl (ev_addx hf rfl rfl (by omega) (by omega)) ?_; intro a hf
   refine l_as hf rfl rfl ?_; intro a hf
   refine wpList_nil ?_
   refine x_thenN ?_
   exact ⟨(i + 1, l2, f2), ⟨A20, c20, hf.sub ⟨rfl, rfl, rfl, rfl, rfl, rfl, trivial⟩, (by omega), (by rw [Nat.add_mul, Nat.one_mul, ← hj1]; rw [← hj1] at hl2; exact hl2), hBV, hB4, hB5, hB7, hB11, hr_p, hr_q, ho20, hW⟩, (by first | omega | (dsimp only; omega))⟩
 ·have hc17b := hc17
  have hc17 := of_decide_eq_false hc17
  have hi1 : i = p.rows.toNat := by have := hc17; omega
  refine wp_exit ?_
  refine x_exS ?_
  refine x_exS ?_
  refine x_exit ?_
  refine hK12 _ _ ?_; try clear hK12 K12
  refine wp_seq_k ?_; intro K41 hK41
  refine wp_region_lit ?_
  refine l_e hf rfl (ev_loadN (l := [.int .i64 p.rows, .int .i64 (q.cols.toNat : Int), .slice A14 l.length c14]) hf rfl tN_141 (hB11.at 0) rfl) ?_; intro a hf
  refine l_f0 hf (ef_store (vs := [.int .i64 p.rows, .int .i64 (q.cols.toNat : Int), .slice A14 l.length c14]) (l' := [.int .i64 p.rows, .int .i64 (q.cols.toNat : Int), .slice A14 l.length c14]) hf rfl rfl sz_141 hB7 rfl rfl rfl rfl rfl) ?_; rintro a _ w18 ⟨ho, hb⟩ hf
  have hold := hB7
  replace hBV := hBV.only ho (Blk.ne hBV hold rfl)
  replace hB4 := hB4.only ho (by omega)
  replace hB5 := hB5.only ho (by omega)
  replace hB11 := hB11.only ho (by omega)
  replace hr_p := hr_p.onlyT ho hold rfl
  replace hr_q := hr_q.onlyT ho hold rfl
  replace ho14 := ho14.onlyT ho hold rfl
  replace hW := Kept.only hW ho hlo7
  clear hold
  have hB7 := hb
  clear hb ho
  refine wpList_nil ?_
  refine hK41 _ _ ?_; try clear hK41 K41
  refine wp_ret ?_
  refine c_ret hf (res1 hf rfl (ResV.cellN (l := [.int .i64 p.rows, .int .i64 (q.cols.toNat : Int), .slice A14 l.length c14]) rfl tN_141 (hB7.at 0) rfl)) ?_
  have hfin : timesS f p q = (f1, ⟨p.rows, q.cols, l⟩) := by rw [timesS, ← hi1, hl]
  rw [hfin]
  exact ⟨A14, c14, rfl, ho14, hW, hBV⟩
end Go.Proofs.YtfgnmflfiobkmaaGreat
