/- ApartBoth: the seat's numbers, and that the program's functions are the layer's. -/
import Derived.Test.YtmeigdjfcecidaaDoorIs
import Derived.Test.YtmeigdjfcecidaaDoorChecked
import Derived.KernelRfl
import Derived.Test.YtmeigdjfcecidaaDoorIs
set_option linter.unusedVariables false
namespace Go.Proofs.YtmeigdjfcecidaaDoor.Ab
open Go
noncomputable def E : Env := envOf Tryd.prog [(3, 82), (4, 83), (56, 76), (57, 77), (58, 78), (59, 87), (60, 98), (61, 97), (63, 81), (68, 11), (69, 29), (70, 40), (71, 26), (72, 41), (81, 47), (82, 31), (83, 57), (102, 19), (103, 27), (105, 20), (140, 49), (141, 50), (142, 35), (143, 33), (144, 63), (145, 60), (153, 28), (155, 34), (163, 10), (169, 18), (170, 17), (171, 16), (219, 21), (220, 15), (221, 14), (239, 24), (240, 25), (242, 45), (243, 43), (244, 42), (245, 56), (255, 22), (256, 38), (258, 32), (259, 48), (260, 30), (261, 37), (266, 36), (267, 46), (268, 54), (269, 59), (270, 39), (279, 44), (287, 55), (313, 99), (314, 100), (315, 101), (317, 23), (318, 3), (319, 4), (320, 5), (321, 6), (322, 7), (323, 8), (324, 9), (325, 12), (326, 13)] [(0, 54), (1, 73), (2, 94), (3, 84), (4, 9), (5, 166)] 64 [(0, .iface 121 (.agg #[.pointer (some ⟨1, 35, none⟩)]))]
theorem E_ok : E.OK := envOf_ok (by kernel_rfl) (by kernel_rfl) (by kernel_rfl)
theorem tie68 : cFunc E 68 = some f68 := by kernel_rfl
theorem tie69 : cFunc E 69 = some f69 := by kernel_rfl
theorem tie81 : cFunc E 81 = some f81 := by kernel_rfl
theorem tie153 : cFunc E 153 = some f153 := by kernel_rfl
theorem tie163 : cFunc E 163 = some f163 := by kernel_rfl
theorem tie318 : cFunc E 318 = some f318 := by kernel_rfl
theorem tie319 : cFunc E 319 = some f319 := by kernel_rfl
theorem tie324 : cFunc E 324 = some f324 := by kernel_rfl
theorem tie325 : cFunc E 325 = some f325 := by kernel_rfl
theorem ties : TiesL E l07 := ⟨tie68, ⟨tie69, ⟨tie81, ⟨tie153, ⟨tie163, ⟨tie318, ⟨tie319, ⟨tie324, ⟨tie325, trivial⟩⟩⟩⟩⟩⟩⟩⟩⟩
theorem prims : PrimsL E p07 := ⟨isP_raw (n := 103) ⟨Tryd.f27, Tryd.func27, by kernel_rfl, by kernel_rfl⟩ (List.mem_singleton.2 rfl) AsW.lawIs_nil AsW.lawIs_C AsW.lawIs_S, trivial⟩
theorem tied : Tied E T07 := tied_of ties prims
end Go.Proofs.YtmeigdjfcecidaaDoor.Ab
