/- What the library's sort, compaction, greatest and least come to at this program: the kit's contracts, at its numbers. No condition but those of the contracts. -/
import Derived.Shelf.SortM.Plain
import Derived.Shelf.SortM.SortNone
import Derived.Shelf.SlicesG.Turned
import Derived.Shelf.SlicesG.CompactI
import Derived.Test.YtjmggjlfamjdbaaGreatDoorProg
set_option linter.unusedVariables false
namespace Go.Proofs
open Go.Shelf
def Tryz.cpt_ren : Go.Shelf.Ren := ⟨fun | 43 => 115 | n => n, fun | 22 => 167 | 23 => 3 | 3 => 3 | 4 => 4 | 0 => 0 | n => n, fun | n => n⟩
theorem Tryz.cpt : Go.Proofs.SlLaysN.n43 Tryz.prog Tryz.cpt_ren := {
  mixed := by kernel_rfl
  f43 := ⟨Tryz.f115.name, by decide, Tryz.func115.trans (congrArg some (by kernel_rfl))⟩
  t0 := Tryz.underlying0
  a0 := Tryz.isAgg0
  z0 := Tryz.sizeOf0
  v0 := Tryz.zeroValue0
  t3 := Tryz.underlying3
  a3 := Tryz.isAgg3
  z3 := Tryz.sizeOf3
  v3 := Tryz.zeroValue3
  t4 := Tryz.underlying4
  a4 := Tryz.isAgg4
  z4 := Tryz.sizeOf4
  v4 := Tryz.zeroValue4
  t22 := Tryz.underlying167
  a22 := Tryz.isAgg167
  z22 := Tryz.sizeOf167
  v22 := Tryz.zeroValue167
  t23 := Tryz.underlying3
  a23 := Tryz.isAgg3
  z23 := Tryz.sizeOf3
  v23 := Tryz.zeroValue3
  i23 := by kernel_rfl }
def Tryz.mx_ren : Go.Shelf.Ren := ⟨fun | 37 => 110 | n => n, fun | 22 => 167 | 23 => 3 | 3 => 3 | 4 => 4 | 9 => 9 | 20 => 20 | 0 => 0 | n => n, fun | n => n⟩
theorem Tryz.mx : Go.Proofs.SlLaysN.n37 Tryz.prog Tryz.mx_ren := {
  mixed := by kernel_rfl
  f37 := ⟨Tryz.f110.name, by decide, Tryz.func110.trans (congrArg some (by kernel_rfl))⟩
  t0 := Tryz.underlying0
  a0 := Tryz.isAgg0
  z0 := Tryz.sizeOf0
  v0 := Tryz.zeroValue0
  t3 := Tryz.underlying3
  a3 := Tryz.isAgg3
  z3 := Tryz.sizeOf3
  v3 := Tryz.zeroValue3
  t4 := Tryz.underlying4
  a4 := Tryz.isAgg4
  z4 := Tryz.sizeOf4
  v4 := Tryz.zeroValue4
  t9 := Tryz.underlying9
  a9 := Tryz.isAgg9
  z9 := Tryz.sizeOf9
  v9 := Tryz.zeroValue9
  t20 := Tryz.underlying20
  a20 := Tryz.isAgg20
  z20 := Tryz.sizeOf20
  v20 := Tryz.zeroValue20
  t22 := Tryz.underlying167
  a22 := Tryz.isAgg167
  z22 := Tryz.sizeOf167
  v22 := Tryz.zeroValue167
  t23 := Tryz.underlying3
  a23 := Tryz.isAgg3
  z23 := Tryz.sizeOf3
  v23 := Tryz.zeroValue3 }
def Tryz.mn_ren : Go.Shelf.Ren := ⟨fun | 39 => 111 | n => n, fun | 22 => 167 | 23 => 3 | 3 => 3 | 4 => 4 | 9 => 9 | 20 => 20 | 0 => 0 | n => n, fun | n => n⟩
theorem Tryz.mn : Go.Proofs.SlLaysN.n39 Tryz.prog Tryz.mn_ren := {
  mixed := by kernel_rfl
  f39 := ⟨Tryz.f111.name, by decide, Tryz.func111.trans (congrArg some (by kernel_rfl))⟩
  t0 := Tryz.underlying0
  a0 := Tryz.isAgg0
  z0 := Tryz.sizeOf0
  v0 := Tryz.zeroValue0
  t3 := Tryz.underlying3
  a3 := Tryz.isAgg3
  z3 := Tryz.sizeOf3
  v3 := Tryz.zeroValue3
  t4 := Tryz.underlying4
  a4 := Tryz.isAgg4
  z4 := Tryz.sizeOf4
  v4 := Tryz.zeroValue4
  t9 := Tryz.underlying9
  a9 := Tryz.isAgg9
  z9 := Tryz.sizeOf9
  v9 := Tryz.zeroValue9
  t20 := Tryz.underlying20
  a20 := Tryz.isAgg20
  z20 := Tryz.sizeOf20
  v20 := Tryz.zeroValue20
  t22 := Tryz.underlying167
  a22 := Tryz.isAgg167
  z22 := Tryz.sizeOf167
  v22 := Tryz.zeroValue167
  t23 := Tryz.underlying3
  a23 := Tryz.isAgg3
  z23 := Tryz.sizeOf3
  v23 := Tryz.zeroValue3 }
def Tryz.srt_ren : Go.Shelf.Ren := ⟨fun | 5 => 114 | 8 => 119 | 7 => 118 | 19 => 132 | 20 => 133 | 10 => 123 | 11 => 124 | 12 => 125 | 13 => 126 | 14 => 127 | 15 => 128 | 16 => 129 | 17 => 130 | 18 => 131 | 30 => 134 | 31 => 135 | 32 => 136 | 33 => 137 | 34 => 138 | 35 => 139 | 40 => 140 | n => n, fun | 23 => 167 | 25 => 3 | 3 => 3 | 32 => 185 | 22 => 167 | 0 => 0 | 44 => 199 | 46 => 58 | 4 => 4 | 36 => 191 | 35 => 190 | 41 => 196 | 5 => 5 | 9 => 9 | 53 => 201 | 57 => 205 | 63 => 207 | 64 => 48 | n => n, fun | n => n⟩
theorem Tryz.srt : Go.Proofs.SlLaysM.n5 Tryz.prog Tryz.srt_ren := {
  mixed := by kernel_rfl
  f5 := ⟨Tryz.f114.name, by decide, Tryz.func114.trans (congrArg some (by kernel_rfl))⟩
  f7 := ⟨Tryz.f118.name, by decide, Tryz.func118.trans (congrArg some (by kernel_rfl))⟩
  f8 := Tryz.func119.trans (congrArg some (by kernel_rfl))
  f10 := ⟨Tryz.f123.name, by decide, Tryz.func123.trans (congrArg some (by kernel_rfl))⟩
  f11 := ⟨Tryz.f124.name, by decide, Tryz.func124.trans (congrArg some (by kernel_rfl))⟩
  f12 := ⟨Tryz.f125.name, by decide, Tryz.func125.trans (congrArg some (by kernel_rfl))⟩
  f13 := ⟨Tryz.f126.name, by decide, Tryz.func126.trans (congrArg some (by kernel_rfl))⟩
  f14 := ⟨Tryz.f127.name, by decide, Tryz.func127.trans (congrArg some (by kernel_rfl))⟩
  f15 := ⟨Tryz.f128.name, by decide, Tryz.func128.trans (congrArg some (by kernel_rfl))⟩
  f16 := ⟨Tryz.f129.name, by decide, Tryz.func129.trans (congrArg some (by kernel_rfl))⟩
  f17 := ⟨Tryz.f130.name, by decide, Tryz.func130.trans (congrArg some (by kernel_rfl))⟩
  f18 := ⟨Tryz.f131.name, by decide, Tryz.func131.trans (congrArg some (by kernel_rfl))⟩
  f19 := Tryz.func132.trans (congrArg some (by kernel_rfl))
  f20 := Tryz.func133.trans (congrArg some (by kernel_rfl))
  f30 := ⟨Tryz.f134.name, by decide, Tryz.func134.trans (congrArg some (by kernel_rfl))⟩
  f31 := Tryz.func135.trans (congrArg some (by kernel_rfl))
  f32 := Tryz.func136.trans (congrArg some (by kernel_rfl))
  f33 := ⟨Tryz.f137.name, by decide, Tryz.func137.trans (congrArg some (by kernel_rfl))⟩
  f34 := ⟨Tryz.f138.name, by decide, Tryz.func138.trans (congrArg some (by kernel_rfl))⟩
  f35 := ⟨Tryz.f139.name, by decide, Tryz.func139.trans (congrArg some (by kernel_rfl))⟩
  f40 := ⟨Tryz.f140.name, by decide, Tryz.func140.trans (congrArg some (by kernel_rfl))⟩
  t0 := Tryz.underlying0
  a0 := Tryz.isAgg0
  z0 := Tryz.sizeOf0
  v0 := Tryz.zeroValue0
  t3 := Tryz.underlying3
  a3 := Tryz.isAgg3
  z3 := Tryz.sizeOf3
  v3 := Tryz.zeroValue3
  t4 := Tryz.underlying4
  a4 := Tryz.isAgg4
  z4 := Tryz.sizeOf4
  v4 := Tryz.zeroValue4
  t5 := Tryz.underlying5
  a5 := Tryz.isAgg5
  z5 := Tryz.sizeOf5
  v5 := Tryz.zeroValue5
  t9 := Tryz.underlying9
  a9 := Tryz.isAgg9
  z9 := Tryz.sizeOf9
  v9 := Tryz.zeroValue9
  t22 := Tryz.underlying167
  a22 := Tryz.isAgg167
  z22 := Tryz.sizeOf167
  v22 := Tryz.zeroValue167
  t23 := Tryz.underlying167
  a23 := Tryz.isAgg167
  z23 := Tryz.sizeOf167
  v23 := Tryz.zeroValue167
  t25 := Tryz.underlying3
  a25 := Tryz.isAgg3
  z25 := Tryz.sizeOf3
  v25 := Tryz.zeroValue3
  t32 := Tryz.underlying185
  a32 := Tryz.isAgg185
  z32 := Tryz.sizeOf185
  v32 := Tryz.zeroValue185
  t35 := Tryz.underlying190
  a35 := Tryz.isAgg190
  z35 := Tryz.sizeOf190
  v35 := Tryz.zeroValue190
  t36 := Tryz.underlying191
  a36 := Tryz.isAgg191
  z36 := Tryz.sizeOf191
  v36 := Tryz.zeroValue191
  t41 := Tryz.underlying196
  a41 := Tryz.isAgg196
  z41 := Tryz.sizeOf196
  v41 := Tryz.zeroValue196
  t44 := Tryz.underlying199
  a44 := Tryz.isAgg199
  z44 := Tryz.sizeOf199
  v44 := Tryz.zeroValue199
  t46 := Tryz.underlying58
  a46 := Tryz.isAgg58
  z46 := Tryz.sizeOf58
  v46 := Tryz.zeroValue58
  t53 := Tryz.underlying201
  a53 := Tryz.isAgg201
  z53 := Tryz.sizeOf201
  v53 := Tryz.zeroValue201
  t57 := Tryz.underlying205
  a57 := Tryz.isAgg205
  z57 := Tryz.sizeOf205
  v57 := Tryz.zeroValue205
  t63 := Tryz.underlying207
  a63 := Tryz.isAgg207
  z63 := Tryz.sizeOf207
  v63 := Tryz.zeroValue207
  t64 := Tryz.underlying48
  a64 := Tryz.isAgg48
  z64 := Tryz.sizeOf48
  v64 := Tryz.zeroValue48 }
theorem Tryz.cpt1 (blk off cap : Nat) (zs : List Int) (w : World) (h1 : Sort.Holds (Value.int .i64) w blk off zs.toArray) (h2 : zs.length ≤ 9223372036854775807) (h3 : zs.length ≤ cap) :
    Calls Tryz.prog 115 #[.slice (some ⟨blk, off, none⟩) zs.length cap] w fun e w' => e = .returned (.slice (some ⟨blk, off, none⟩) (Lib.compact zs).length cap) ∧ ∃ q, w' = Sort.putRow (Value.int .i64) (Sort.ahead w q) blk off (Lib.compact zs ++ List.replicate (zs.length - (Lib.compact zs).length) 0).toArray := AnyG.slices_Compact_int Tryz.cpt blk off cap zs w h1 h2 h3
theorem Tryz.cpt2 (p : Option Addr) (cap : Nat) (w : World) : Calls Tryz.prog 115 #[.slice p 0 cap] w fun e w' => e = .returned (.slice p 0 cap) ∧ w' = w := AnyG.slices_Compact_int_empty Tryz.cpt p cap w
theorem Tryz.mx1 (b off n c : Nat) (zs : List Int) (w : World) (h1 : 0 < n) (h2 : n ≤ zs.length) (h3 : n ≤ 9223372036854775807) (h4 : ∀ j, j < zs.length → w.cell? ⟨b, off + j, none⟩ = some (.int .i64 (zs.getD j 0))) :
    Calls Tryz.prog 110 #[.slice (some ⟨b, off, none⟩) n c] w fun e w' => e = .returned (.int .i64 (Lib.maxOf (zs.take n))) ∧ w' = w := AnyG.slices_Max_int Tryz.mx b off n c zs w h1 h2 h3 h4
theorem Tryz.mn1 (b off n c : Nat) (zs : List Int) (w : World) (h1 : 0 < n) (h2 : n ≤ zs.length) (h3 : n ≤ 9223372036854775807) (h4 : ∀ j, j < zs.length → w.cell? ⟨b, off + j, none⟩ = some (.int .i64 (zs.getD j 0))) :
    Calls Tryz.prog 111 #[.slice (some ⟨b, off, none⟩) n c] w fun e w' => e = .returned (.int .i64 (Lib.minOf (zs.take n))) ∧ w' = w := AnyG.slices_Min_int Tryz.mn b off n c zs w h1 h2 h3 h4
theorem Tryz.srt1 (blk off cap : Nat) (zs : List Int) (w : World) (h1 : Sort.Holds (Value.int .i64) w blk off zs.toArray) (h2 : blk < w.heap.size) (h3 : zs.length < 4611686018427387904) :
    Calls Tryz.prog 114 #[.slice (some ⟨blk, off, none⟩) zs.length cap] w fun e w' => e = .returned (.tuple #[]) ∧ ∃ n os, w' = Sort.grow (Sort.putRow (Value.int .i64) (Sort.ahead w n) blk off (zs.mergeSort fun x y => decide (x ≤ y)).toArray) os := AnyM.slices_Sort_int Tryz.srt blk off cap zs w h1 h2 h3
theorem Tryz.srt2 (p : Option Addr) (cap : Nat) (w : World) : Calls Tryz.prog 114 #[.slice p 0 cap] w fun e w' => e = .returned (.tuple #[]) ∧ w' = w := AnyM.slices_Sort_int_none Tryz.srt p cap w
end Go.Proofs
