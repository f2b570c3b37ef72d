/- ClusterFinds: the seat's numbers, and that the program's functions are the layer's. -/
import Derived.Test.YtimkghkokfhfcaaDoorA3
import Derived.Test.YtimkghkokfhfcaaDoorChecked
import Derived.KernelRfl
import Derived.Test.YtimkghkokfhfcaaDoorIs
import Derived.Test.YtimkghkokfhfcaaDoorSrt
set_option linter.unusedVariables false
namespace Go.Proofs.YtimkghkokfhfcaaDoor.Ab
open Go
noncomputable def E : Env := envOf Tryd.prog [(3, 96), (4, 97), (16, 29), (56, 90), (57, 91), (58, 92), (59, 101), (60, 112), (61, 111), (62, 71), (63, 95), (65, 61), (66, 74), (76, 15), (77, 30), (78, 32), (79, 34), (81, 16), (82, 11), (83, 17), (84, 9), (85, 46), (86, 44), (87, 33), (88, 31), (89, 35), (103, 24), (153, 14), (154, 19), (155, 18), (157, 20), (158, 21), (163, 8), (234, 23), (235, 10), (236, 12), (239, 22), (242, 39), (243, 37), (244, 36), (245, 48), (257, 45), (258, 66), (259, 76), (261, 75), (266, 40), (267, 41), (268, 52), (269, 54), (271, 43), (272, 64), (273, 65), (279, 38), (281, 26), (287, 47), (290, 27), (291, 28), (293, 25), (294, 57), (295, 58), (296, 56), (298, 55), (299, 72), (300, 73), (301, 70), (302, 77), (303, 60), (304, 62), (305, 63), (306, 42), (307, 59), (309, 69), (313, 113), (314, 114), (315, 115), (341, 13), (353, 3), (354, 4), (355, 5), (356, 6), (357, 7)] [(0, 70), (1, 87), (2, 91), (3, 97), (4, 9), (5, 185)] 64 [(0, .iface 131 (.agg #[.pointer (some ⟨1, 50, none⟩)]))]
theorem E_ok : E.OK := envOf_ok (by kernel_rfl) (by kernel_rfl) (by kernel_rfl)
theorem tie16 : cFunc E 16 = some f16 := by kernel_rfl
theorem tie76 : cFunc E 76 = some f76 := by kernel_rfl
theorem tie77 : cFunc E 77 = some f77 := by kernel_rfl
theorem tie78 : cFunc E 78 = some f78 := by kernel_rfl
theorem tie79 : cFunc E 79 = some f79 := by kernel_rfl
theorem tie81 : cFunc E 81 = some f81 := by kernel_rfl
theorem tie82 : cFunc E 82 = some f82 := by kernel_rfl
theorem tie83 : cFunc E 83 = some f83 := by kernel_rfl
theorem tie84 : cFunc E 84 = some f84 := by kernel_rfl
theorem tie85 : cFunc E 85 = some f85 := by kernel_rfl
theorem tie86 : cFunc E 86 = some f86 := by kernel_rfl
theorem tie87 : cFunc E 87 = some f87 := by kernel_rfl
theorem tie88 : cFunc E 88 = some f88 := by kernel_rfl
theorem tie89 : cFunc E 89 = some f89 := by kernel_rfl
theorem tie257 : cFunc E 257 = some f257 := by kernel_rfl
theorem tie258 : cFunc E 258 = some f258 := by kernel_rfl
theorem tie259 : cFunc E 259 = some f259 := by kernel_rfl
theorem tie261 : cFunc E 261 = some f261 := by kernel_rfl
theorem tie153 : cFunc E 153 = some f153 := by kernel_rfl
theorem tie154 : cFunc E 154 = some f154 := by kernel_rfl
theorem tie155 : cFunc E 155 = some f155 := by kernel_rfl
theorem tie157 : cFunc E 157 = some f157 := by kernel_rfl
theorem tie158 : cFunc E 158 = some f158 := by kernel_rfl
theorem tie341 : cFunc E 341 = some f341 := by kernel_rfl
theorem tie355 : cFunc E 355 = some f355 := by kernel_rfl
theorem ties : TiesL E l03g := ⟨tie16, ⟨tie76, ⟨tie77, ⟨tie78, ⟨tie79, ⟨tie81, ⟨tie82, ⟨tie83, ⟨tie84, ⟨tie85, ⟨tie86, ⟨tie87, ⟨tie88, ⟨tie89, ⟨tie257, ⟨tie258, ⟨tie259, ⟨tie261, ⟨tie153, ⟨tie154, ⟨tie155, ⟨tie157, ⟨tie158, ⟨tie341, ⟨tie355, trivial⟩⟩⟩⟩⟩⟩⟩⟩⟩⟩⟩⟩⟩⟩⟩⟩⟩⟩⟩⟩⟩⟩⟩⟩⟩
theorem prims : PrimsL E p03f := ⟨isP_raw (n := 103) ⟨Tryd.f24, Tryd.func24, by kernel_rfl, by kernel_rfl⟩ (List.mem_singleton.2 rfl) AsW.lawIs_nil AsW.lawIs_C AsW.lawIs_S, ⟨asP_raw (n := 266) ⟨Tryd.f40, Tryd.func40, by kernel_rfl, by kernel_rfl⟩ (List.mem_singleton.2 rfl) AsW.as_nil (fun t old w m hg h1 h2 => (AsW.as_CC t old w m hg h1 h2).mono fun e w' hh => ⟨hh.1, _, (by repeat (first | exact Go.RowKit.Below.refl _ _ | refine Go.RowKit.Below.alloc ?_ (by first | (simp; done) | (simp; omega)) _)), hh.2⟩) (fun t old w b o a m e0 e1 hg h1 h2 => (AsW.as_SC t old w b o a m e0 e1 hg h1 h2).mono fun e w' hh => ⟨hh.1, _, (by repeat (first | exact Go.RowKit.Below.refl _ _ | refine Go.RowKit.Below.alloc ?_ (by first | (simp; done) | (simp; omega)) _)), hh.2⟩), ⟨compP_raw ⟨Tryd.f26, Tryd.func26, by kernel_rfl, by kernel_rfl⟩ Tryd.cpt1 Tryd.cpt2, ⟨sortP_raw ⟨Tryd.f25, Tryd.func25, by kernel_rfl, by kernel_rfl⟩ Tryd.srt1 Tryd.srt2, trivial⟩⟩⟩⟩
theorem tied : Tied E T03g := tied_of ties prims
end Go.Proofs.YtimkghkokfhfcaaDoor.Ab
