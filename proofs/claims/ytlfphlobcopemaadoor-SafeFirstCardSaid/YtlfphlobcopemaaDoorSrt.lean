/- What the library's sort, compaction, greatest and least come to at this program: the kit's contracts, at its numbers. No condition but those of the contracts. -/
import Derived.Shelf.SortM.Plain
import Derived.Shelf.SortM.SortNone
import Derived.Shelf.SlicesG.Turned
import Derived.Shelf.SlicesG.CompactI
import Derived.Test.YtlfphlobcopemaaDoorProg
set_option linter.unusedVariables false
namespace Go.Proofs
open Go.Shelf
def Tryd.cpt_ren : Go.Shelf.Ren := ⟨fun | 43 => 48 | n => n, fun | 22 => 101 | 23 => 3 | 3 => 3 | 4 => 4 | 0 => 0 | n => n, fun | n => n⟩
theorem Tryd.cpt : Go.Proofs.SlLaysN.n43 Tryd.prog Tryd.cpt_ren := {
  mixed := by kernel_rfl
  f43 := ⟨Tryd.f48.name, by decide, Tryd.func48.trans (congrArg some (by kernel_rfl))⟩
  t0 := Tryd.underlying0
  a0 := Tryd.isAgg0
  z0 := Tryd.sizeOf0
  v0 := Tryd.zeroValue0
  t3 := Tryd.underlying3
  a3 := Tryd.isAgg3
  z3 := Tryd.sizeOf3
  v3 := Tryd.zeroValue3
  t4 := Tryd.underlying4
  a4 := Tryd.isAgg4
  z4 := Tryd.sizeOf4
  v4 := Tryd.zeroValue4
  t22 := Tryd.underlying101
  a22 := Tryd.isAgg101
  z22 := Tryd.sizeOf101
  v22 := Tryd.zeroValue101
  t23 := Tryd.underlying3
  a23 := Tryd.isAgg3
  z23 := Tryd.sizeOf3
  v23 := Tryd.zeroValue3
  i23 := by kernel_rfl }
def Tryd.mx_ren : Go.Shelf.Ren := ⟨fun | 37 => 42 | n => n, fun | 22 => 101 | 23 => 3 | 3 => 3 | 4 => 4 | 9 => 9 | 20 => 20 | 0 => 0 | n => n, fun | n => n⟩
theorem Tryd.mx : Go.Proofs.SlLaysN.n37 Tryd.prog Tryd.mx_ren := {
  mixed := by kernel_rfl
  f37 := ⟨Tryd.f42.name, by decide, Tryd.func42.trans (congrArg some (by kernel_rfl))⟩
  t0 := Tryd.underlying0
  a0 := Tryd.isAgg0
  z0 := Tryd.sizeOf0
  v0 := Tryd.zeroValue0
  t3 := Tryd.underlying3
  a3 := Tryd.isAgg3
  z3 := Tryd.sizeOf3
  v3 := Tryd.zeroValue3
  t4 := Tryd.underlying4
  a4 := Tryd.isAgg4
  z4 := Tryd.sizeOf4
  v4 := Tryd.zeroValue4
  t9 := Tryd.underlying9
  a9 := Tryd.isAgg9
  z9 := Tryd.sizeOf9
  v9 := Tryd.zeroValue9
  t20 := Tryd.underlying20
  a20 := Tryd.isAgg20
  z20 := Tryd.sizeOf20
  v20 := Tryd.zeroValue20
  t22 := Tryd.underlying101
  a22 := Tryd.isAgg101
  z22 := Tryd.sizeOf101
  v22 := Tryd.zeroValue101
  t23 := Tryd.underlying3
  a23 := Tryd.isAgg3
  z23 := Tryd.sizeOf3
  v23 := Tryd.zeroValue3 }
def Tryd.mn_ren : Go.Shelf.Ren := ⟨fun | 39 => 43 | n => n, fun | 22 => 101 | 23 => 3 | 3 => 3 | 4 => 4 | 9 => 9 | 20 => 20 | 0 => 0 | n => n, fun | n => n⟩
theorem Tryd.mn : Go.Proofs.SlLaysN.n39 Tryd.prog Tryd.mn_ren := {
  mixed := by kernel_rfl
  f39 := ⟨Tryd.f43.name, by decide, Tryd.func43.trans (congrArg some (by kernel_rfl))⟩
  t0 := Tryd.underlying0
  a0 := Tryd.isAgg0
  z0 := Tryd.sizeOf0
  v0 := Tryd.zeroValue0
  t3 := Tryd.underlying3
  a3 := Tryd.isAgg3
  z3 := Tryd.sizeOf3
  v3 := Tryd.zeroValue3
  t4 := Tryd.underlying4
  a4 := Tryd.isAgg4
  z4 := Tryd.sizeOf4
  v4 := Tryd.zeroValue4
  t9 := Tryd.underlying9
  a9 := Tryd.isAgg9
  z9 := Tryd.sizeOf9
  v9 := Tryd.zeroValue9
  t20 := Tryd.underlying20
  a20 := Tryd.isAgg20
  z20 := Tryd.sizeOf20
  v20 := Tryd.zeroValue20
  t22 := Tryd.underlying101
  a22 := Tryd.isAgg101
  z22 := Tryd.sizeOf101
  v22 := Tryd.zeroValue101
  t23 := Tryd.underlying3
  a23 := Tryd.isAgg3
  z23 := Tryd.sizeOf3
  v23 := Tryd.zeroValue3 }
def Tryd.srt_ren : Go.Shelf.Ren := ⟨fun | 5 => 47 | 8 => 51 | 7 => 50 | 19 => 63 | 20 => 64 | 10 => 54 | 11 => 55 | 12 => 56 | 13 => 57 | 14 => 58 | 15 => 59 | 16 => 60 | 17 => 61 | 18 => 62 | 30 => 65 | 31 => 66 | 32 => 67 | 33 => 68 | 34 => 69 | 35 => 70 | 40 => 71 | n => n, fun | 23 => 101 | 25 => 3 | 3 => 3 | 32 => 114 | 22 => 101 | 0 => 0 | 44 => 127 | 46 => 70 | 4 => 4 | 36 => 119 | 35 => 118 | 41 => 124 | 5 => 5 | 9 => 9 | 53 => 129 | 57 => 133 | 63 => 136 | 64 => 36 | n => n, fun | n => n⟩
theorem Tryd.srt : Go.Proofs.SlLaysM.n5 Tryd.prog Tryd.srt_ren := {
  mixed := by kernel_rfl
  f5 := ⟨Tryd.f47.name, by decide, Tryd.func47.trans (congrArg some (by kernel_rfl))⟩
  f7 := ⟨Tryd.f50.name, by decide, Tryd.func50.trans (congrArg some (by kernel_rfl))⟩
  f8 := Tryd.func51.trans (congrArg some (by kernel_rfl))
  f10 := ⟨Tryd.f54.name, by decide, Tryd.func54.trans (congrArg some (by kernel_rfl))⟩
  f11 := ⟨Tryd.f55.name, by decide, Tryd.func55.trans (congrArg some (by kernel_rfl))⟩
  f12 := ⟨Tryd.f56.name, by decide, Tryd.func56.trans (congrArg some (by kernel_rfl))⟩
  f13 := ⟨Tryd.f57.name, by decide, Tryd.func57.trans (congrArg some (by kernel_rfl))⟩
  f14 := ⟨Tryd.f58.name, by decide, Tryd.func58.trans (congrArg some (by kernel_rfl))⟩
  f15 := ⟨Tryd.f59.name, by decide, Tryd.func59.trans (congrArg some (by kernel_rfl))⟩
  f16 := ⟨Tryd.f60.name, by decide, Tryd.func60.trans (congrArg some (by kernel_rfl))⟩
  f17 := ⟨Tryd.f61.name, by decide, Tryd.func61.trans (congrArg some (by kernel_rfl))⟩
  f18 := ⟨Tryd.f62.name, by decide, Tryd.func62.trans (congrArg some (by kernel_rfl))⟩
  f19 := Tryd.func63.trans (congrArg some (by kernel_rfl))
  f20 := Tryd.func64.trans (congrArg some (by kernel_rfl))
  f30 := ⟨Tryd.f65.name, by decide, Tryd.func65.trans (congrArg some (by kernel_rfl))⟩
  f31 := Tryd.func66.trans (congrArg some (by kernel_rfl))
  f32 := Tryd.func67.trans (congrArg some (by kernel_rfl))
  f33 := ⟨Tryd.f68.name, by decide, Tryd.func68.trans (congrArg some (by kernel_rfl))⟩
  f34 := ⟨Tryd.f69.name, by decide, Tryd.func69.trans (congrArg some (by kernel_rfl))⟩
  f35 := ⟨Tryd.f70.name, by decide, Tryd.func70.trans (congrArg some (by kernel_rfl))⟩
  f40 := ⟨Tryd.f71.name, by decide, Tryd.func71.trans (congrArg some (by kernel_rfl))⟩
  t0 := Tryd.underlying0
  a0 := Tryd.isAgg0
  z0 := Tryd.sizeOf0
  v0 := Tryd.zeroValue0
  t3 := Tryd.underlying3
  a3 := Tryd.isAgg3
  z3 := Tryd.sizeOf3
  v3 := Tryd.zeroValue3
  t4 := Tryd.underlying4
  a4 := Tryd.isAgg4
  z4 := Tryd.sizeOf4
  v4 := Tryd.zeroValue4
  t5 := Tryd.underlying5
  a5 := Tryd.isAgg5
  z5 := Tryd.sizeOf5
  v5 := Tryd.zeroValue5
  t9 := Tryd.underlying9
  a9 := Tryd.isAgg9
  z9 := Tryd.sizeOf9
  v9 := Tryd.zeroValue9
  t22 := Tryd.underlying101
  a22 := Tryd.isAgg101
  z22 := Tryd.sizeOf101
  v22 := Tryd.zeroValue101
  t23 := Tryd.underlying101
  a23 := Tryd.isAgg101
  z23 := Tryd.sizeOf101
  v23 := Tryd.zeroValue101
  t25 := Tryd.underlying3
  a25 := Tryd.isAgg3
  z25 := Tryd.sizeOf3
  v25 := Tryd.zeroValue3
  t32 := Tryd.underlying114
  a32 := Tryd.isAgg114
  z32 := Tryd.sizeOf114
  v32 := Tryd.zeroValue114
  t35 := Tryd.underlying118
  a35 := Tryd.isAgg118
  z35 := Tryd.sizeOf118
  v35 := Tryd.zeroValue118
  t36 := Tryd.underlying119
  a36 := Tryd.isAgg119
  z36 := Tryd.sizeOf119
  v36 := Tryd.zeroValue119
  t41 := Tryd.underlying124
  a41 := Tryd.isAgg124
  z41 := Tryd.sizeOf124
  v41 := Tryd.zeroValue124
  t44 := Tryd.underlying127
  a44 := Tryd.isAgg127
  z44 := Tryd.sizeOf127
  v44 := Tryd.zeroValue127
  t46 := Tryd.underlying70
  a46 := Tryd.isAgg70
  z46 := Tryd.sizeOf70
  v46 := Tryd.zeroValue70
  t53 := Tryd.underlying129
  a53 := Tryd.isAgg129
  z53 := Tryd.sizeOf129
  v53 := Tryd.zeroValue129
  t57 := Tryd.underlying133
  a57 := Tryd.isAgg133
  z57 := Tryd.sizeOf133
  v57 := Tryd.zeroValue133
  t63 := Tryd.underlying136
  a63 := Tryd.isAgg136
  z63 := Tryd.sizeOf136
  v63 := Tryd.zeroValue136
  t64 := Tryd.underlying36
  a64 := Tryd.isAgg36
  z64 := Tryd.sizeOf36
  v64 := Tryd.zeroValue36 }
theorem Tryd.cpt1 (blk off cap : Nat) (zs : List Int) (w : World) (h1 : Sort.Holds (Value.int .i64) w blk off zs.toArray) (h2 : zs.length ≤ 9223372036854775807) (h3 : zs.length ≤ cap) :
    Calls Tryd.prog 48 #[.slice (some ⟨blk, off, none⟩) zs.length cap] w fun e w' => e = .returned (.slice (some ⟨blk, off, none⟩) (Lib.compact zs).length cap) ∧ ∃ q, w' = Sort.putRow (Value.int .i64) (Sort.ahead w q) blk off (Lib.compact zs ++ List.replicate (zs.length - (Lib.compact zs).length) 0).toArray := AnyG.slices_Compact_int Tryd.cpt blk off cap zs w h1 h2 h3
theorem Tryd.cpt2 (p : Option Addr) (cap : Nat) (w : World) : Calls Tryd.prog 48 #[.slice p 0 cap] w fun e w' => e = .returned (.slice p 0 cap) ∧ w' = w := AnyG.slices_Compact_int_empty Tryd.cpt p cap w
theorem Tryd.mx1 (b off n c : Nat) (zs : List Int) (w : World) (h1 : 0 < n) (h2 : n ≤ zs.length) (h3 : n ≤ 9223372036854775807) (h4 : ∀ j, j < zs.length → w.cell? ⟨b, off + j, none⟩ = some (.int .i64 (zs.getD j 0))) :
    Calls Tryd.prog 42 #[.slice (some ⟨b, off, none⟩) n c] w fun e w' => e = .returned (.int .i64 (Lib.maxOf (zs.take n))) ∧ w' = w := AnyG.slices_Max_int Tryd.mx b off n c zs w h1 h2 h3 h4
theorem Tryd.mn1 (b off n c : Nat) (zs : List Int) (w : World) (h1 : 0 < n) (h2 : n ≤ zs.length) (h3 : n ≤ 9223372036854775807) (h4 : ∀ j, j < zs.length → w.cell? ⟨b, off + j, none⟩ = some (.int .i64 (zs.getD j 0))) :
    Calls Tryd.prog 43 #[.slice (some ⟨b, off, none⟩) n c] w fun e w' => e = .returned (.int .i64 (Lib.minOf (zs.take n))) ∧ w' = w := AnyG.slices_Min_int Tryd.mn b off n c zs w h1 h2 h3 h4
theorem Tryd.srt1 (blk off cap : Nat) (zs : List Int) (w : World) (h1 : Sort.Holds (Value.int .i64) w blk off zs.toArray) (h2 : blk < w.heap.size) (h3 : zs.length < 4611686018427387904) :
    Calls Tryd.prog 47 #[.slice (some ⟨blk, off, none⟩) zs.length cap] w fun e w' => e = .returned (.tuple #[]) ∧ ∃ n os, w' = Sort.grow (Sort.putRow (Value.int .i64) (Sort.ahead w n) blk off (zs.mergeSort fun x y => decide (x ≤ y)).toArray) os := AnyM.slices_Sort_int Tryd.srt blk off cap zs w h1 h2 h3
theorem Tryd.srt2 (p : Option Addr) (cap : Nat) (w : World) : Calls Tryd.prog 47 #[.slice p 0 cap] w fun e w' => e = .returned (.tuple #[]) ∧ w' = w := AnyM.slices_Sort_int_none Tryd.srt p cap w
end Go.Proofs
