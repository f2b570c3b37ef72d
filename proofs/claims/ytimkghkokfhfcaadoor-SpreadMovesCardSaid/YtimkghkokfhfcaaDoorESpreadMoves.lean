/- SpreadMoves: the seat's numbers, and that the program's functions are the layer's. -/
import Derived.Test.YtimkghkokfhfcaaDoorA3
import Derived.Test.YtimkghkokfhfcaaDoorChecked
import Derived.KernelRfl
import Derived.Test.YtimkghkokfhfcaaDoorIs
import Derived.Test.YtimkghkokfhfcaaDoorSrt
set_option linter.unusedVariables false
namespace Go.Proofs.YtimkghkokfhfcaaDoor.Ab
open Go
noncomputable def E : Env := envOf Tryd.prog [(3, 96), (4, 97), (16, 29), (56, 90), (57, 91), (58, 92), (59, 101), (60, 112), (61, 111), (62, 71), (63, 95), (65, 61), (66, 74), (76, 15), (77, 30), (78, 32), (79, 34), (81, 16), (82, 11), (83, 17), (84, 9), (85, 46), (86, 44), (87, 33), (88, 31), (89, 35), (103, 24), (153, 14), (154, 19), (155, 18), (157, 20), (158, 21), (163, 8), (234, 23), (235, 10), (236, 12), (239, 22), (242, 39), (243, 37), (244, 36), (245, 48), (257, 45), (258, 66), (259, 76), (261, 75), (266, 40), (267, 41), (268, 52), (269, 54), (271, 43), (272, 64), (273, 65), (279, 38), (281, 26), (287, 47), (290, 27), (291, 28), (293, 25), (294, 57), (295, 58), (296, 56), (298, 55), (299, 72), (300, 73), (301, 70), (302, 77), (303, 60), (304, 62), (305, 63), (306, 42), (307, 59), (309, 69), (313, 113), (314, 114), (315, 115), (341, 13), (353, 3), (354, 4), (355, 5), (356, 6), (357, 7)] [(0, 70), (1, 87), (2, 91), (3, 97), (4, 9), (5, 185)] 64 [(0, .iface 131 (.agg #[.pointer (some ⟨1, 50, none⟩)]))]
theorem E_ok : E.OK := envOf_ok (by kernel_rfl) (by kernel_rfl) (by kernel_rfl)
theorem tie82 : cFunc E 82 = some f82 := by kernel_rfl
theorem tie83 : cFunc E 83 = some f83 := by kernel_rfl
theorem tie84 : cFunc E 84 = some f84 := by kernel_rfl
theorem tie153 : cFunc E 153 = some f153 := by kernel_rfl
theorem tie163 : cFunc E 163 = some f163 := by kernel_rfl
theorem tie234 : cFunc E 234 = some f234 := by kernel_rfl
theorem tie235 : cFunc E 235 = some f235 := by kernel_rfl
theorem tie236 : cFunc E 236 = some f236 := by kernel_rfl
theorem tie239 : cFunc E 239 = some f239 := by kernel_rfl
theorem tie242 : cFunc E 242 = some f242 := by kernel_rfl
theorem tie243 : cFunc E 243 = some f243 := by kernel_rfl
theorem tie244 : cFunc E 244 = some f244 := by kernel_rfl
theorem tie245 : cFunc E 245 = some f245 := by kernel_rfl
theorem tie287 : cFunc E 287 = some f287 := by kernel_rfl
theorem tie356 : cFunc E 356 = some f356 := by kernel_rfl
theorem tie357 : cFunc E 357 = some f357 := by kernel_rfl
theorem tie279 : cFunc E 279 = some (cloneF 8 64) := by kernel_rfl
theorem ties : TiesL E l08m := ⟨tie82, ⟨tie83, ⟨tie84, ⟨tie153, ⟨tie163, ⟨tie234, ⟨tie235, ⟨tie236, ⟨tie239, ⟨tie242, ⟨tie243, ⟨tie244, ⟨tie245, ⟨tie287, ⟨tie356, ⟨tie357, trivial⟩⟩⟩⟩⟩⟩⟩⟩⟩⟩⟩⟩⟩⟩⟩⟩
theorem prims : PrimsL E p08m := ⟨isP_raw (n := 103) ⟨Tryd.f24, Tryd.func24, by kernel_rfl, by kernel_rfl⟩ (List.mem_singleton.2 rfl) AsW.lawIs_nil AsW.lawIs_C AsW.lawIs_S, ⟨clone_raw E_ok tie279, ⟨compP_raw ⟨Tryd.f26, Tryd.func26, by kernel_rfl, by kernel_rfl⟩ Tryd.cpt1 Tryd.cpt2, ⟨foldP_raw mostL ⟨Tryd.f27, Tryd.func27, by kernel_rfl, by kernel_rfl⟩ Tryd.mx1, ⟨foldP_raw leastL ⟨Tryd.f28, Tryd.func28, by kernel_rfl, by kernel_rfl⟩ Tryd.mn1, ⟨sortP_raw ⟨Tryd.f25, Tryd.func25, by kernel_rfl, by kernel_rfl⟩ Tryd.srt1 Tryd.srt2, trivial⟩⟩⟩⟩⟩⟩
theorem tied : Tied E T08m := tied_of ties prims
end Go.Proofs.YtimkghkokfhfcaaDoor.Ab
