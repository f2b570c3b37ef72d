/- What the library's sort, compaction, greatest and least come to at this program: the kit's contracts, at its numbers. No condition but those of the contracts. -/
import Derived.Shelf.SortM.Plain
import Derived.Shelf.SortM.SortNone
import Derived.Shelf.SlicesG.Turned
import Derived.Shelf.SlicesG.CompactI
import Derived.Test.YtkjehofblipcaaaGreatDoorProg
set_option linter.unusedVariables false
namespace Go.Proofs
open Go.Shelf
def Tryz.cpt_ren : Go.Shelf.Ren := ⟨fun | 43 => 133 | n => n, fun | 22 => 119 | 23 => 3 | 3 => 3 | 4 => 4 | 0 => 0 | n => n, fun | n => n⟩
theorem Tryz.cpt : Go.Proofs.SlLaysN.n43 Tryz.prog Tryz.cpt_ren := {
  mixed := by kernel_rfl
  f43 := ⟨Tryz.f133.name, by decide, Tryz.func133.trans (congrArg some (by kernel_rfl))⟩
  t0 := Tryz.underlying0
  a0 := Tryz.isAgg0
  z0 := Tryz.sizeOf0
  v0 := Tryz.zeroValue0
  t3 := Tryz.underlying3
  a3 := Tryz.isAgg3
  z3 := Tryz.sizeOf3
  v3 := Tryz.zeroValue3
  t4 := Tryz.underlying4
  a4 := Tryz.isAgg4
  z4 := Tryz.sizeOf4
  v4 := Tryz.zeroValue4
  t22 := Tryz.underlying119
  a22 := Tryz.isAgg119
  z22 := Tryz.sizeOf119
  v22 := Tryz.zeroValue119
  t23 := Tryz.underlying3
  a23 := Tryz.isAgg3
  z23 := Tryz.sizeOf3
  v23 := Tryz.zeroValue3
  i23 := by kernel_rfl }
def Tryz.mx_ren : Go.Shelf.Ren := ⟨fun | 37 => 128 | n => n, fun | 22 => 119 | 23 => 3 | 3 => 3 | 4 => 4 | 9 => 9 | 20 => 20 | 0 => 0 | n => n, fun | n => n⟩
theorem Tryz.mx : Go.Proofs.SlLaysN.n37 Tryz.prog Tryz.mx_ren := {
  mixed := by kernel_rfl
  f37 := ⟨Tryz.f128.name, by decide, Tryz.func128.trans (congrArg some (by kernel_rfl))⟩
  t0 := Tryz.underlying0
  a0 := Tryz.isAgg0
  z0 := Tryz.sizeOf0
  v0 := Tryz.zeroValue0
  t3 := Tryz.underlying3
  a3 := Tryz.isAgg3
  z3 := Tryz.sizeOf3
  v3 := Tryz.zeroValue3
  t4 := Tryz.underlying4
  a4 := Tryz.isAgg4
  z4 := Tryz.sizeOf4
  v4 := Tryz.zeroValue4
  t9 := Tryz.underlying9
  a9 := Tryz.isAgg9
  z9 := Tryz.sizeOf9
  v9 := Tryz.zeroValue9
  t20 := Tryz.underlying20
  a20 := Tryz.isAgg20
  z20 := Tryz.sizeOf20
  v20 := Tryz.zeroValue20
  t22 := Tryz.underlying119
  a22 := Tryz.isAgg119
  z22 := Tryz.sizeOf119
  v22 := Tryz.zeroValue119
  t23 := Tryz.underlying3
  a23 := Tryz.isAgg3
  z23 := Tryz.sizeOf3
  v23 := Tryz.zeroValue3 }
def Tryz.mn_ren : Go.Shelf.Ren := ⟨fun | 39 => 129 | n => n, fun | 22 => 119 | 23 => 3 | 3 => 3 | 4 => 4 | 9 => 9 | 20 => 20 | 0 => 0 | n => n, fun | n => n⟩
theorem Tryz.mn : Go.Proofs.SlLaysN.n39 Tryz.prog Tryz.mn_ren := {
  mixed := by kernel_rfl
  f39 := ⟨Tryz.f129.name, by decide, Tryz.func129.trans (congrArg some (by kernel_rfl))⟩
  t0 := Tryz.underlying0
  a0 := Tryz.isAgg0
  z0 := Tryz.sizeOf0
  v0 := Tryz.zeroValue0
  t3 := Tryz.underlying3
  a3 := Tryz.isAgg3
  z3 := Tryz.sizeOf3
  v3 := Tryz.zeroValue3
  t4 := Tryz.underlying4
  a4 := Tryz.isAgg4
  z4 := Tryz.sizeOf4
  v4 := Tryz.zeroValue4
  t9 := Tryz.underlying9
  a9 := Tryz.isAgg9
  z9 := Tryz.sizeOf9
  v9 := Tryz.zeroValue9
  t20 := Tryz.underlying20
  a20 := Tryz.isAgg20
  z20 := Tryz.sizeOf20
  v20 := Tryz.zeroValue20
  t22 := Tryz.underlying119
  a22 := Tryz.isAgg119
  z22 := Tryz.sizeOf119
  v22 := Tryz.zeroValue119
  t23 := Tryz.underlying3
  a23 := Tryz.isAgg3
  z23 := Tryz.sizeOf3
  v23 := Tryz.zeroValue3 }
def Tryz.srt_ren : Go.Shelf.Ren := ⟨fun | 5 => 132 | 8 => 137 | 7 => 136 | 19 => 149 | 20 => 150 | 10 => 140 | 11 => 141 | 12 => 142 | 13 => 143 | 14 => 144 | 15 => 145 | 16 => 146 | 17 => 147 | 18 => 148 | 30 => 154 | 31 => 155 | 32 => 156 | 33 => 157 | 34 => 158 | 35 => 159 | 40 => 160 | n => n, fun | 23 => 119 | 25 => 3 | 3 => 3 | 32 => 187 | 22 => 119 | 0 => 0 | 44 => 225 | 46 => 55 | 4 => 4 | 36 => 217 | 35 => 216 | 41 => 222 | 5 => 5 | 9 => 9 | 53 => 230 | 57 => 234 | 63 => 236 | 64 => 49 | n => n, fun | n => n⟩
theorem Tryz.srt : Go.Proofs.SlLaysM.n5 Tryz.prog Tryz.srt_ren := {
  mixed := by kernel_rfl
  f5 := ⟨Tryz.f132.name, by decide, Tryz.func132.trans (congrArg some (by kernel_rfl))⟩
  f7 := ⟨Tryz.f136.name, by decide, Tryz.func136.trans (congrArg some (by kernel_rfl))⟩
  f8 := Tryz.func137.trans (congrArg some (by kernel_rfl))
  f10 := ⟨Tryz.f140.name, by decide, Tryz.func140.trans (congrArg some (by kernel_rfl))⟩
  f11 := ⟨Tryz.f141.name, by decide, Tryz.func141.trans (congrArg some (by kernel_rfl))⟩
  f12 := ⟨Tryz.f142.name, by decide, Tryz.func142.trans (congrArg some (by kernel_rfl))⟩
  f13 := ⟨Tryz.f143.name, by decide, Tryz.func143.trans (congrArg some (by kernel_rfl))⟩
  f14 := ⟨Tryz.f144.name, by decide, Tryz.func144.trans (congrArg some (by kernel_rfl))⟩
  f15 := ⟨Tryz.f145.name, by decide, Tryz.func145.trans (congrArg some (by kernel_rfl))⟩
  f16 := ⟨Tryz.f146.name, by decide, Tryz.func146.trans (congrArg some (by kernel_rfl))⟩
  f17 := ⟨Tryz.f147.name, by decide, Tryz.func147.trans (congrArg some (by kernel_rfl))⟩
  f18 := ⟨Tryz.f148.name, by decide, Tryz.func148.trans (congrArg some (by kernel_rfl))⟩
  f19 := Tryz.func149.trans (congrArg some (by kernel_rfl))
  f20 := Tryz.func150.trans (congrArg some (by kernel_rfl))
  f30 := ⟨Tryz.f154.name, by decide, Tryz.func154.trans (congrArg some (by kernel_rfl))⟩
  f31 := Tryz.func155.trans (congrArg some (by kernel_rfl))
  f32 := Tryz.func156.trans (congrArg some (by kernel_rfl))
  f33 := ⟨Tryz.f157.name, by decide, Tryz.func157.trans (congrArg some (by kernel_rfl))⟩
  f34 := ⟨Tryz.f158.name, by decide, Tryz.func158.trans (congrArg some (by kernel_rfl))⟩
  f35 := ⟨Tryz.f159.name, by decide, Tryz.func159.trans (congrArg some (by kernel_rfl))⟩
  f40 := ⟨Tryz.f160.name, by decide, Tryz.func160.trans (congrArg some (by kernel_rfl))⟩
  t0 := Tryz.underlying0
  a0 := Tryz.isAgg0
  z0 := Tryz.sizeOf0
  v0 := Tryz.zeroValue0
  t3 := Tryz.underlying3
  a3 := Tryz.isAgg3
  z3 := Tryz.sizeOf3
  v3 := Tryz.zeroValue3
  t4 := Tryz.underlying4
  a4 := Tryz.isAgg4
  z4 := Tryz.sizeOf4
  v4 := Tryz.zeroValue4
  t5 := Tryz.underlying5
  a5 := Tryz.isAgg5
  z5 := Tryz.sizeOf5
  v5 := Tryz.zeroValue5
  t9 := Tryz.underlying9
  a9 := Tryz.isAgg9
  z9 := Tryz.sizeOf9
  v9 := Tryz.zeroValue9
  t22 := Tryz.underlying119
  a22 := Tryz.isAgg119
  z22 := Tryz.sizeOf119
  v22 := Tryz.zeroValue119
  t23 := Tryz.underlying119
  a23 := Tryz.isAgg119
  z23 := Tryz.sizeOf119
  v23 := Tryz.zeroValue119
  t25 := Tryz.underlying3
  a25 := Tryz.isAgg3
  z25 := Tryz.sizeOf3
  v25 := Tryz.zeroValue3
  t32 := Tryz.underlying187
  a32 := Tryz.isAgg187
  z32 := Tryz.sizeOf187
  v32 := Tryz.zeroValue187
  t35 := Tryz.underlying216
  a35 := Tryz.isAgg216
  z35 := Tryz.sizeOf216
  v35 := Tryz.zeroValue216
  t36 := Tryz.underlying217
  a36 := Tryz.isAgg217
  z36 := Tryz.sizeOf217
  v36 := Tryz.zeroValue217
  t41 := Tryz.underlying222
  a41 := Tryz.isAgg222
  z41 := Tryz.sizeOf222
  v41 := Tryz.zeroValue222
  t44 := Tryz.underlying225
  a44 := Tryz.isAgg225
  z44 := Tryz.sizeOf225
  v44 := Tryz.zeroValue225
  t46 := Tryz.underlying55
  a46 := Tryz.isAgg55
  z46 := Tryz.sizeOf55
  v46 := Tryz.zeroValue55
  t53 := Tryz.underlying230
  a53 := Tryz.isAgg230
  z53 := Tryz.sizeOf230
  v53 := Tryz.zeroValue230
  t57 := Tryz.underlying234
  a57 := Tryz.isAgg234
  z57 := Tryz.sizeOf234
  v57 := Tryz.zeroValue234
  t63 := Tryz.underlying236
  a63 := Tryz.isAgg236
  z63 := Tryz.sizeOf236
  v63 := Tryz.zeroValue236
  t64 := Tryz.underlying49
  a64 := Tryz.isAgg49
  z64 := Tryz.sizeOf49
  v64 := Tryz.zeroValue49 }
theorem Tryz.cpt1 (blk off cap : Nat) (zs : List Int) (w : World) (h1 : Sort.Holds (Value.int .i64) w blk off zs.toArray) (h2 : zs.length ≤ 9223372036854775807) (h3 : zs.length ≤ cap) :
    Calls Tryz.prog 133 #[.slice (some ⟨blk, off, none⟩) zs.length cap] w fun e w' => e = .returned (.slice (some ⟨blk, off, none⟩) (Lib.compact zs).length cap) ∧ ∃ q, w' = Sort.putRow (Value.int .i64) (Sort.ahead w q) blk off (Lib.compact zs ++ List.replicate (zs.length - (Lib.compact zs).length) 0).toArray := AnyG.slices_Compact_int Tryz.cpt blk off cap zs w h1 h2 h3
theorem Tryz.cpt2 (p : Option Addr) (cap : Nat) (w : World) : Calls Tryz.prog 133 #[.slice p 0 cap] w fun e w' => e = .returned (.slice p 0 cap) ∧ w' = w := AnyG.slices_Compact_int_empty Tryz.cpt p cap w
theorem Tryz.mx1 (b off n c : Nat) (zs : List Int) (w : World) (h1 : 0 < n) (h2 : n ≤ zs.length) (h3 : n ≤ 9223372036854775807) (h4 : ∀ j, j < zs.length → w.cell? ⟨b, off + j, none⟩ = some (.int .i64 (zs.getD j 0))) :
    Calls Tryz.prog 128 #[.slice (some ⟨b, off, none⟩) n c] w fun e w' => e = .returned (.int .i64 (Lib.maxOf (zs.take n))) ∧ w' = w := AnyG.slices_Max_int Tryz.mx b off n c zs w h1 h2 h3 h4
theorem Tryz.mn1 (b off n c : Nat) (zs : List Int) (w : World) (h1 : 0 < n) (h2 : n ≤ zs.length) (h3 : n ≤ 9223372036854775807) (h4 : ∀ j, j < zs.length → w.cell? ⟨b, off + j, none⟩ = some (.int .i64 (zs.getD j 0))) :
    Calls Tryz.prog 129 #[.slice (some ⟨b, off, none⟩) n c] w fun e w' => e = .returned (.int .i64 (Lib.minOf (zs.take n))) ∧ w' = w := AnyG.slices_Min_int Tryz.mn b off n c zs w h1 h2 h3 h4
theorem Tryz.srt1 (blk off cap : Nat) (zs : List Int) (w : World) (h1 : Sort.Holds (Value.int .i64) w blk off zs.toArray) (h2 : blk < w.heap.size) (h3 : zs.length < 4611686018427387904) :
    Calls Tryz.prog 132 #[.slice (some ⟨blk, off, none⟩) zs.length cap] w fun e w' => e = .returned (.tuple #[]) ∧ ∃ n os, w' = Sort.grow (Sort.putRow (Value.int .i64) (Sort.ahead w n) blk off (zs.mergeSort fun x y => decide (x ≤ y)).toArray) os := AnyM.slices_Sort_int Tryz.srt blk off cap zs w h1 h2 h3
theorem Tryz.srt2 (p : Option Addr) (cap : Nat) (w : World) : Calls Tryz.prog 132 #[.slice p 0 cap] w fun e w' => e = .returned (.tuple #[]) ∧ w' = w := AnyM.slices_Sort_int_none Tryz.srt p cap w
end Go.Proofs
