/- BudgetMoves: the seat's numbers, and that the program's functions are the layer's. -/
import Derived.Test.YtmeigdjfcecidaaDoorIs
import Derived.Test.YtmeigdjfcecidaaDoorChecked
import Derived.KernelRfl
import Derived.Test.YtmeigdjfcecidaaDoorIs
set_option linter.unusedVariables false
namespace Go.Proofs.YtmeigdjfcecidaaDoor.Ab
open Go
noncomputable def E : Env := envOf Tryd.prog [(3, 82), (4, 83), (56, 76), (57, 77), (58, 78), (59, 87), (60, 98), (61, 97), (63, 81), (68, 11), (69, 29), (70, 40), (71, 26), (72, 41), (81, 47), (82, 31), (83, 57), (102, 19), (103, 27), (105, 20), (140, 49), (141, 50), (142, 35), (143, 33), (144, 63), (145, 60), (153, 28), (155, 34), (163, 10), (169, 18), (170, 17), (171, 16), (219, 21), (220, 15), (221, 14), (239, 24), (240, 25), (242, 45), (243, 43), (244, 42), (245, 56), (255, 22), (256, 38), (258, 32), (259, 48), (260, 30), (261, 37), (266, 36), (267, 46), (268, 54), (269, 59), (270, 39), (279, 44), (287, 55), (313, 99), (314, 100), (315, 101), (317, 23), (318, 3), (319, 4), (320, 5), (321, 6), (322, 7), (323, 8), (324, 9), (325, 12), (326, 13)] [(0, 54), (1, 73), (2, 94), (3, 84), (4, 9), (5, 166)] 64 [(0, .iface 121 (.agg #[.pointer (some ⟨1, 35, none⟩)]))]
theorem E_ok : E.OK := envOf_ok (by kernel_rfl) (by kernel_rfl) (by kernel_rfl)
theorem tie70 : cFunc E 70 = some f70 := by kernel_rfl
theorem tie71 : cFunc E 71 = some f71 := by kernel_rfl
theorem tie72 : cFunc E 72 = some f72 := by kernel_rfl
theorem tie82 : cFunc E 82 = some f82 := by kernel_rfl
theorem tie83 : cFunc E 83 = some f83 := by kernel_rfl
theorem tie153 : cFunc E 153 = some f153 := by kernel_rfl
theorem tie163 : cFunc E 163 = some f163 := by kernel_rfl
theorem tie239 : cFunc E 239 = some f239 := by kernel_rfl
theorem tie240 : cFunc E 240 = some f240 := by kernel_rfl
theorem tie242 : cFunc E 242 = some f242 := by kernel_rfl
theorem tie243 : cFunc E 243 = some f243 := by kernel_rfl
theorem tie244 : cFunc E 244 = some f244 := by kernel_rfl
theorem tie245 : cFunc E 245 = some f245 := by kernel_rfl
theorem tie287 : cFunc E 287 = some f287 := by kernel_rfl
theorem tie317 : cFunc E 317 = some f317 := by kernel_rfl
theorem tie323 : cFunc E 323 = some f323 := by kernel_rfl
theorem tie279 : cFunc E 279 = some (cloneF 8 64) := by kernel_rfl
theorem ties : TiesL E l09m := ⟨tie70, ⟨tie71, ⟨tie72, ⟨tie82, ⟨tie83, ⟨tie153, ⟨tie163, ⟨tie239, ⟨tie240, ⟨tie242, ⟨tie243, ⟨tie244, ⟨tie245, ⟨tie287, ⟨tie317, ⟨tie323, trivial⟩⟩⟩⟩⟩⟩⟩⟩⟩⟩⟩⟩⟩⟩⟩⟩
theorem prims : PrimsL E p09m := ⟨isP_raw (n := 103) ⟨Tryd.f27, Tryd.func27, by kernel_rfl, by kernel_rfl⟩ (List.mem_singleton.2 rfl) AsW.lawIs_nil AsW.lawIs_C AsW.lawIs_S, ⟨clone_raw E_ok tie279, trivial⟩⟩
theorem tied : Tied E T09m := tied_of ties prims
theorem fits_moveA {e : List PV} (h : FitsL moveS e) : ∃ m : Move, .agg e = moveP m ∧ m.wf := by
  obtain ⟨n, rfl, hw⟩ := fits_move h
  exact ⟨n, rfl, hw⟩
end Go.Proofs.YtmeigdjfcecidaaDoor.Ab
