/- What the library's sort, compaction, greatest and least come to at this program: the kit's contracts, at its numbers. No condition but those of the contracts. -/
import Derived.Shelf.SortM.Plain
import Derived.Shelf.SortM.SortNone
import Derived.Shelf.SlicesG.Turned
import Derived.Shelf.SlicesG.CompactI
import Derived.Test.YtimkghkokfhfcaaDoorProg
set_option linter.unusedVariables false
namespace Go.Proofs
open Go.Shelf
def Tryd.cpt_ren : Go.Shelf.Ren := ⟨fun | 43 => 26 | n => n, fun | 22 => 34 | 23 => 3 | 3 => 3 | 4 => 4 | 0 => 0 | n => n, fun | n => n⟩
theorem Tryd.cpt : Go.Proofs.SlLaysN.n43 Tryd.prog Tryd.cpt_ren := {
  mixed := by kernel_rfl
  f43 := ⟨Tryd.f26.name, by decide, Tryd.func26.trans (congrArg some (by kernel_rfl))⟩
  t0 := Tryd.underlying0
  a0 := Tryd.isAgg0
  z0 := Tryd.sizeOf0
  v0 := Tryd.zeroValue0
  t3 := Tryd.underlying3
  a3 := Tryd.isAgg3
  z3 := Tryd.sizeOf3
  v3 := Tryd.zeroValue3
  t4 := Tryd.underlying4
  a4 := Tryd.isAgg4
  z4 := Tryd.sizeOf4
  v4 := Tryd.zeroValue4
  t22 := Tryd.underlying34
  a22 := Tryd.isAgg34
  z22 := Tryd.sizeOf34
  v22 := Tryd.zeroValue34
  t23 := Tryd.underlying3
  a23 := Tryd.isAgg3
  z23 := Tryd.sizeOf3
  v23 := Tryd.zeroValue3
  i23 := by kernel_rfl }
def Tryd.mx_ren : Go.Shelf.Ren := ⟨fun | 37 => 27 | n => n, fun | 22 => 34 | 23 => 3 | 3 => 3 | 4 => 4 | 9 => 9 | 20 => 20 | 0 => 0 | n => n, fun | n => n⟩
theorem Tryd.mx : Go.Proofs.SlLaysN.n37 Tryd.prog Tryd.mx_ren := {
  mixed := by kernel_rfl
  f37 := ⟨Tryd.f27.name, by decide, Tryd.func27.trans (congrArg some (by kernel_rfl))⟩
  t0 := Tryd.underlying0
  a0 := Tryd.isAgg0
  z0 := Tryd.sizeOf0
  v0 := Tryd.zeroValue0
  t3 := Tryd.underlying3
  a3 := Tryd.isAgg3
  z3 := Tryd.sizeOf3
  v3 := Tryd.zeroValue3
  t4 := Tryd.underlying4
  a4 := Tryd.isAgg4
  z4 := Tryd.sizeOf4
  v4 := Tryd.zeroValue4
  t9 := Tryd.underlying9
  a9 := Tryd.isAgg9
  z9 := Tryd.sizeOf9
  v9 := Tryd.zeroValue9
  t20 := Tryd.underlying20
  a20 := Tryd.isAgg20
  z20 := Tryd.sizeOf20
  v20 := Tryd.zeroValue20
  t22 := Tryd.underlying34
  a22 := Tryd.isAgg34
  z22 := Tryd.sizeOf34
  v22 := Tryd.zeroValue34
  t23 := Tryd.underlying3
  a23 := Tryd.isAgg3
  z23 := Tryd.sizeOf3
  v23 := Tryd.zeroValue3 }
def Tryd.mn_ren : Go.Shelf.Ren := ⟨fun | 39 => 28 | n => n, fun | 22 => 34 | 23 => 3 | 3 => 3 | 4 => 4 | 9 => 9 | 20 => 20 | 0 => 0 | n => n, fun | n => n⟩
theorem Tryd.mn : Go.Proofs.SlLaysN.n39 Tryd.prog Tryd.mn_ren := {
  mixed := by kernel_rfl
  f39 := ⟨Tryd.f28.name, by decide, Tryd.func28.trans (congrArg some (by kernel_rfl))⟩
  t0 := Tryd.underlying0
  a0 := Tryd.isAgg0
  z0 := Tryd.sizeOf0
  v0 := Tryd.zeroValue0
  t3 := Tryd.underlying3
  a3 := Tryd.isAgg3
  z3 := Tryd.sizeOf3
  v3 := Tryd.zeroValue3
  t4 := Tryd.underlying4
  a4 := Tryd.isAgg4
  z4 := Tryd.sizeOf4
  v4 := Tryd.zeroValue4
  t9 := Tryd.underlying9
  a9 := Tryd.isAgg9
  z9 := Tryd.sizeOf9
  v9 := Tryd.zeroValue9
  t20 := Tryd.underlying20
  a20 := Tryd.isAgg20
  z20 := Tryd.sizeOf20
  v20 := Tryd.zeroValue20
  t22 := Tryd.underlying34
  a22 := Tryd.isAgg34
  z22 := Tryd.sizeOf34
  v22 := Tryd.zeroValue34
  t23 := Tryd.underlying3
  a23 := Tryd.isAgg3
  z23 := Tryd.sizeOf3
  v23 := Tryd.zeroValue3 }
def Tryd.srt_ren : Go.Shelf.Ren := ⟨fun | 5 => 25 | 8 => 43 | 7 => 42 | 19 => 64 | 20 => 65 | 10 => 55 | 11 => 56 | 12 => 57 | 13 => 58 | 14 => 59 | 15 => 60 | 16 => 61 | 17 => 62 | 18 => 63 | 30 => 69 | 31 => 70 | 32 => 71 | 33 => 72 | 34 => 73 | 35 => 74 | 40 => 77 | n => n, fun | 23 => 34 | 25 => 3 | 3 => 3 | 32 => 95 | 22 => 34 | 0 => 0 | 44 => 126 | 46 => 37 | 4 => 4 | 36 => 118 | 35 => 117 | 41 => 123 | 5 => 5 | 9 => 9 | 53 => 145 | 57 => 149 | 63 => 153 | 64 => 154 | n => n, fun | n => n⟩
theorem Tryd.srt : Go.Proofs.SlLaysM.n5 Tryd.prog Tryd.srt_ren := {
  mixed := by kernel_rfl
  f5 := ⟨Tryd.f25.name, by decide, Tryd.func25.trans (congrArg some (by kernel_rfl))⟩
  f7 := ⟨Tryd.f42.name, by decide, Tryd.func42.trans (congrArg some (by kernel_rfl))⟩
  f8 := Tryd.func43.trans (congrArg some (by kernel_rfl))
  f10 := ⟨Tryd.f55.name, by decide, Tryd.func55.trans (congrArg some (by kernel_rfl))⟩
  f11 := ⟨Tryd.f56.name, by decide, Tryd.func56.trans (congrArg some (by kernel_rfl))⟩
  f12 := ⟨Tryd.f57.name, by decide, Tryd.func57.trans (congrArg some (by kernel_rfl))⟩
  f13 := ⟨Tryd.f58.name, by decide, Tryd.func58.trans (congrArg some (by kernel_rfl))⟩
  f14 := ⟨Tryd.f59.name, by decide, Tryd.func59.trans (congrArg some (by kernel_rfl))⟩
  f15 := ⟨Tryd.f60.name, by decide, Tryd.func60.trans (congrArg some (by kernel_rfl))⟩
  f16 := ⟨Tryd.f61.name, by decide, Tryd.func61.trans (congrArg some (by kernel_rfl))⟩
  f17 := ⟨Tryd.f62.name, by decide, Tryd.func62.trans (congrArg some (by kernel_rfl))⟩
  f18 := ⟨Tryd.f63.name, by decide, Tryd.func63.trans (congrArg some (by kernel_rfl))⟩
  f19 := Tryd.func64.trans (congrArg some (by kernel_rfl))
  f20 := Tryd.func65.trans (congrArg some (by kernel_rfl))
  f30 := ⟨Tryd.f69.name, by decide, Tryd.func69.trans (congrArg some (by kernel_rfl))⟩
  f31 := Tryd.func70.trans (congrArg some (by kernel_rfl))
  f32 := Tryd.func71.trans (congrArg some (by kernel_rfl))
  f33 := ⟨Tryd.f72.name, by decide, Tryd.func72.trans (congrArg some (by kernel_rfl))⟩
  f34 := ⟨Tryd.f73.name, by decide, Tryd.func73.trans (congrArg some (by kernel_rfl))⟩
  f35 := ⟨Tryd.f74.name, by decide, Tryd.func74.trans (congrArg some (by kernel_rfl))⟩
  f40 := ⟨Tryd.f77.name, by decide, Tryd.func77.trans (congrArg some (by kernel_rfl))⟩
  t0 := Tryd.underlying0
  a0 := Tryd.isAgg0
  z0 := Tryd.sizeOf0
  v0 := Tryd.zeroValue0
  t3 := Tryd.underlying3
  a3 := Tryd.isAgg3
  z3 := Tryd.sizeOf3
  v3 := Tryd.zeroValue3
  t4 := Tryd.underlying4
  a4 := Tryd.isAgg4
  z4 := Tryd.sizeOf4
  v4 := Tryd.zeroValue4
  t5 := Tryd.underlying5
  a5 := Tryd.isAgg5
  z5 := Tryd.sizeOf5
  v5 := Tryd.zeroValue5
  t9 := Tryd.underlying9
  a9 := Tryd.isAgg9
  z9 := Tryd.sizeOf9
  v9 := Tryd.zeroValue9
  t22 := Tryd.underlying34
  a22 := Tryd.isAgg34
  z22 := Tryd.sizeOf34
  v22 := Tryd.zeroValue34
  t23 := Tryd.underlying34
  a23 := Tryd.isAgg34
  z23 := Tryd.sizeOf34
  v23 := Tryd.zeroValue34
  t25 := Tryd.underlying3
  a25 := Tryd.isAgg3
  z25 := Tryd.sizeOf3
  v25 := Tryd.zeroValue3
  t32 := Tryd.underlying95
  a32 := Tryd.isAgg95
  z32 := Tryd.sizeOf95
  v32 := Tryd.zeroValue95
  t35 := Tryd.underlying117
  a35 := Tryd.isAgg117
  z35 := Tryd.sizeOf117
  v35 := Tryd.zeroValue117
  t36 := Tryd.underlying118
  a36 := Tryd.isAgg118
  z36 := Tryd.sizeOf118
  v36 := Tryd.zeroValue118
  t41 := Tryd.underlying123
  a41 := Tryd.isAgg123
  z41 := Tryd.sizeOf123
  v41 := Tryd.zeroValue123
  t44 := Tryd.underlying126
  a44 := Tryd.isAgg126
  z44 := Tryd.sizeOf126
  v44 := Tryd.zeroValue126
  t46 := Tryd.underlying37
  a46 := Tryd.isAgg37
  z46 := Tryd.sizeOf37
  v46 := Tryd.zeroValue37
  t53 := Tryd.underlying145
  a53 := Tryd.isAgg145
  z53 := Tryd.sizeOf145
  v53 := Tryd.zeroValue145
  t57 := Tryd.underlying149
  a57 := Tryd.isAgg149
  z57 := Tryd.sizeOf149
  v57 := Tryd.zeroValue149
  t63 := Tryd.underlying153
  a63 := Tryd.isAgg153
  z63 := Tryd.sizeOf153
  v63 := Tryd.zeroValue153
  t64 := Tryd.underlying154
  a64 := Tryd.isAgg154
  z64 := Tryd.sizeOf154
  v64 := Tryd.zeroValue154 }
theorem Tryd.cpt1 (blk off cap : Nat) (zs : List Int) (w : World) (h1 : Sort.Holds (Value.int .i64) w blk off zs.toArray) (h2 : zs.length ≤ 9223372036854775807) (h3 : zs.length ≤ cap) :
    Calls Tryd.prog 26 #[.slice (some ⟨blk, off, none⟩) zs.length cap] w fun e w' => e = .returned (.slice (some ⟨blk, off, none⟩) (Lib.compact zs).length cap) ∧ ∃ q, w' = Sort.putRow (Value.int .i64) (Sort.ahead w q) blk off (Lib.compact zs ++ List.replicate (zs.length - (Lib.compact zs).length) 0).toArray := AnyG.slices_Compact_int Tryd.cpt blk off cap zs w h1 h2 h3
theorem Tryd.cpt2 (p : Option Addr) (cap : Nat) (w : World) : Calls Tryd.prog 26 #[.slice p 0 cap] w fun e w' => e = .returned (.slice p 0 cap) ∧ w' = w := AnyG.slices_Compact_int_empty Tryd.cpt p cap w
theorem Tryd.mx1 (b off n c : Nat) (zs : List Int) (w : World) (h1 : 0 < n) (h2 : n ≤ zs.length) (h3 : n ≤ 9223372036854775807) (h4 : ∀ j, j < zs.length → w.cell? ⟨b, off + j, none⟩ = some (.int .i64 (zs.getD j 0))) :
    Calls Tryd.prog 27 #[.slice (some ⟨b, off, none⟩) n c] w fun e w' => e = .returned (.int .i64 (Lib.maxOf (zs.take n))) ∧ w' = w := AnyG.slices_Max_int Tryd.mx b off n c zs w h1 h2 h3 h4
theorem Tryd.mn1 (b off n c : Nat) (zs : List Int) (w : World) (h1 : 0 < n) (h2 : n ≤ zs.length) (h3 : n ≤ 9223372036854775807) (h4 : ∀ j, j < zs.length → w.cell? ⟨b, off + j, none⟩ = some (.int .i64 (zs.getD j 0))) :
    Calls Tryd.prog 28 #[.slice (some ⟨b, off, none⟩) n c] w fun e w' => e = .returned (.int .i64 (Lib.minOf (zs.take n))) ∧ w' = w := AnyG.slices_Min_int Tryd.mn b off n c zs w h1 h2 h3 h4
theorem Tryd.srt1 (blk off cap : Nat) (zs : List Int) (w : World) (h1 : Sort.Holds (Value.int .i64) w blk off zs.toArray) (h2 : blk < w.heap.size) (h3 : zs.length < 4611686018427387904) :
    Calls Tryd.prog 25 #[.slice (some ⟨blk, off, none⟩) zs.length cap] w fun e w' => e = .returned (.tuple #[]) ∧ ∃ n os, w' = Sort.grow (Sort.putRow (Value.int .i64) (Sort.ahead w n) blk off (zs.mergeSort fun x y => decide (x ≤ y)).toArray) os := AnyM.slices_Sort_int Tryd.srt blk off cap zs w h1 h2 h3
theorem Tryd.srt2 (p : Option Addr) (cap : Nat) (w : World) : Calls Tryd.prog 25 #[.slice p 0 cap] w fun e w' => e = .returned (.tuple #[]) ∧ w' = w := AnyM.slices_Sort_int_none Tryd.srt p cap w
end Go.Proofs
