/- WireParts: the seat's numbers, and that the program's functions are the layer's. -/
import Derived.Test.YtogbpgkefkbffaaDoorIs
import Derived.Test.YtogbpgkefkbffaaDoorChecked
import Derived.KernelRfl
import Derived.Test.YtogbpgkefkbffaaDoorIs
set_option linter.unusedVariables false
namespace Go.Proofs.YtogbpgkefkbffaaDoor.Ab
open Go
noncomputable def E : Env := envOf Tryd.prog [(3, 48), (4, 49), (56, 42), (57, 43), (58, 44), (59, 53), (60, 64), (61, 63), (63, 47), (103, 13), (146, 12), (147, 16), (148, 10), (149, 19), (150, 17), (262, 11), (263, 15), (264, 9), (265, 18), (266, 20), (267, 21), (268, 25), (269, 27), (313, 65), (314, 66), (315, 67), (327, 3), (328, 4), (329, 5), (330, 6), (331, 7), (339, 8), (340, 14)] [(0, 34), (1, 49), (2, 55), (4, 9), (5, 116)] 64 [(0, .iface 72 (.agg #[.pointer (some ⟨1, 28, none⟩)]))]
theorem E_ok : E.OK := envOf_ok (by kernel_rfl) (by kernel_rfl) (by kernel_rfl)
theorem tie146 : cFunc E 146 = some f146 := by kernel_rfl
theorem tie147 : cFunc E 147 = some f147 := by kernel_rfl
theorem tie148 : cFunc E 148 = some f148 := by kernel_rfl
theorem tie149 : cFunc E 149 = some f149 := by kernel_rfl
theorem tie150 : cFunc E 150 = some f150 := by kernel_rfl
theorem tie262 : cFunc E 262 = some f262 := by kernel_rfl
theorem tie263 : cFunc E 263 = some f263 := by kernel_rfl
theorem tie264 : cFunc E 264 = some f264 := by kernel_rfl
theorem tie265 : cFunc E 265 = some f265 := by kernel_rfl
theorem tie327 : cFunc E 327 = some f327 := by kernel_rfl
theorem tie328 : cFunc E 328 = some f328 := by kernel_rfl
theorem tie329 : cFunc E 329 = some f329 := by kernel_rfl
theorem tie330 : cFunc E 330 = some f330 := by kernel_rfl
theorem tie331 : cFunc E 331 = some f331 := by kernel_rfl
theorem tie339 : cFunc E 339 = some f339 := by kernel_rfl
theorem tie340 : cFunc E 340 = some f340 := by kernel_rfl
theorem ties : TiesL E l02 := ⟨tie146, ⟨tie147, ⟨tie148, ⟨tie149, ⟨tie150, ⟨tie262, ⟨tie263, ⟨tie264, ⟨tie265, ⟨tie327, ⟨tie328, ⟨tie329, ⟨tie330, ⟨tie331, ⟨tie339, ⟨tie340, trivial⟩⟩⟩⟩⟩⟩⟩⟩⟩⟩⟩⟩⟩⟩⟩⟩
theorem prims : PrimsL E p02 := ⟨isP_raw (n := 103) ⟨Tryd.f13, Tryd.func13, by kernel_rfl, by kernel_rfl⟩ (List.mem_singleton.2 rfl) AsW.lawIs_nil AsW.lawIs_C AsW.lawIs_S, trivial⟩
theorem tied : Tied E T02 := tied_of ties prims
end Go.Proofs.YtogbpgkefkbffaaDoor.Ab
