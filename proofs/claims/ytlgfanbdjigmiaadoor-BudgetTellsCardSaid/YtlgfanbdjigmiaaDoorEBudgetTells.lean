/- BudgetTells: the seat's numbers, and that the program's functions are the layer's. -/
import Derived.Test.YtlgfanbdjigmiaaDoorIs
import Derived.Test.YtlgfanbdjigmiaaDoorChecked
import Derived.KernelRfl
import Derived.Test.YtlgfanbdjigmiaaDoorIs
set_option linter.unusedVariables false
namespace Go.Proofs.YtlgfanbdjigmiaaDoor.Ab
open Go
noncomputable def E : Env := envOf Tryd.prog [(3, 44), (4, 45), (56, 38), (57, 39), (58, 40), (59, 49), (60, 60), (61, 59), (63, 43), (70, 12), (71, 9), (72, 8), (102, 15), (103, 13), (105, 11), (153, 14), (163, 5), (173, 6), (176, 10), (179, 7), (266, 16), (267, 17), (268, 21), (269, 23), (313, 61), (314, 62), (315, 63), (316, 3), (317, 4)] [(0, 40), (1, 55), (2, 59), (4, 9), (5, 124)] 64 [(0, .iface 76 (.agg #[.pointer (some ⟨1, 38, none⟩)]))]
theorem E_ok : E.OK := envOf_ok (by kernel_rfl) (by kernel_rfl) (by kernel_rfl)
theorem tie70 : cFunc E 70 = some f70 := by kernel_rfl
theorem tie71 : cFunc E 71 = some f71 := by kernel_rfl
theorem tie72 : cFunc E 72 = some f72 := by kernel_rfl
theorem tie102 : cFunc E 102 = some f102 := by kernel_rfl
theorem tie105 : cFunc E 105 = some f105 := by kernel_rfl
theorem tie153 : cFunc E 153 = some f153 := by kernel_rfl
theorem tie163 : cFunc E 163 = some f163 := by kernel_rfl
theorem tie173 : cFunc E 173 = some f173 := by kernel_rfl
theorem tie176 : cFunc E 176 = some f176 := by kernel_rfl
theorem tie179 : cFunc E 179 = some f179 := by kernel_rfl
theorem tie316 : cFunc E 316 = some f316 := by kernel_rfl
theorem tie317 : cFunc E 317 = some f317 := by kernel_rfl
theorem ties : TiesL E l09 := ⟨tie70, ⟨tie71, ⟨tie72, ⟨tie102, ⟨tie105, ⟨tie153, ⟨tie163, ⟨tie173, ⟨tie176, ⟨tie179, ⟨tie316, ⟨tie317, trivial⟩⟩⟩⟩⟩⟩⟩⟩⟩⟩⟩⟩
theorem prims : PrimsL E p09 := ⟨isP_raw (n := 103) ⟨Tryd.f13, Tryd.func13, by kernel_rfl, by kernel_rfl⟩ (List.mem_singleton.2 rfl) AsW.lawIs_nil AsW.lawIs_C AsW.lawIs_S, trivial⟩
theorem tied : Tied E T09 := tied_of ties prims
end Go.Proofs.YtlgfanbdjigmiaaDoor.Ab
