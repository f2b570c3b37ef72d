/- ClusterFewer: the seat's numbers, and that the program's functions are the layer's. -/
import Derived.Test.YtdjpeonignkheaaDoorIs
import Derived.Test.YtdjpeonignkheaaDoorChecked
import Derived.KernelRfl
import Derived.Test.YtdjpeonignkheaaDoorIs
set_option linter.unusedVariables false
namespace Go.Proofs.YtdjpeonignkheaaDoor.Ab
open Go
noncomputable def E : Env := envOf Tryd.prog [(3, 67), (4, 68), (16, 20), (56, 61), (57, 62), (58, 63), (59, 72), (60, 83), (61, 82), (63, 66), (76, 10), (77, 21), (78, 23), (79, 25), (80, 11), (81, 33), (82, 34), (85, 32), (86, 30), (87, 24), (88, 22), (89, 26), (90, 28), (91, 40), (102, 19), (103, 12), (105, 9), (141, 14), (151, 7), (152, 8), (153, 6), (154, 16), (155, 17), (156, 18), (159, 15), (160, 13), (257, 31), (258, 43), (259, 48), (261, 47), (266, 27), (267, 29), (268, 38), (269, 42), (282, 39), (287, 46), (313, 84), (314, 85), (315, 86), (332, 3), (333, 4), (341, 5)] [(0, 47), (1, 71), (2, 74), (3, 70), (4, 9), (5, 147)] 64 [(0, .iface 100 (.agg #[.pointer (some ⟨1, 37, none⟩)]))]
theorem E_ok : E.OK := envOf_ok (by kernel_rfl) (by kernel_rfl) (by kernel_rfl)
theorem tie16 : cFunc E 16 = some f16 := by kernel_rfl
theorem tie76 : cFunc E 76 = some f76 := by kernel_rfl
theorem tie77 : cFunc E 77 = some f77 := by kernel_rfl
theorem tie78 : cFunc E 78 = some f78 := by kernel_rfl
theorem tie79 : cFunc E 79 = some f79 := by kernel_rfl
theorem tie80 : cFunc E 80 = some f80 := by kernel_rfl
theorem tie81 : cFunc E 81 = some f81 := by kernel_rfl
theorem tie82 : cFunc E 82 = some f82 := by kernel_rfl
theorem tie85 : cFunc E 85 = some f85 := by kernel_rfl
theorem tie86 : cFunc E 86 = some f86 := by kernel_rfl
theorem tie87 : cFunc E 87 = some f87 := by kernel_rfl
theorem tie88 : cFunc E 88 = some f88 := by kernel_rfl
theorem tie89 : cFunc E 89 = some f89 := by kernel_rfl
theorem tie90 : cFunc E 90 = some f90 := by kernel_rfl
theorem tie91 : cFunc E 91 = some f91 := by kernel_rfl
theorem tie257 : cFunc E 257 = some f257 := by kernel_rfl
theorem tie258 : cFunc E 258 = some f258 := by kernel_rfl
theorem tie259 : cFunc E 259 = some f259 := by kernel_rfl
theorem tie261 : cFunc E 261 = some f261 := by kernel_rfl
theorem tie282 : cFunc E 282 = some f282 := by kernel_rfl
theorem tie287 : cFunc E 287 = some f287 := by kernel_rfl
theorem tie153 : cFunc E 153 = some f153 := by kernel_rfl
theorem tie333 : cFunc E 333 = some f333 := by kernel_rfl
theorem tie341 : cFunc E 341 = some f341 := by kernel_rfl
theorem ties : TiesL E l03b := ⟨tie16, ⟨tie76, ⟨tie77, ⟨tie78, ⟨tie79, ⟨tie80, ⟨tie81, ⟨tie82, ⟨tie85, ⟨tie86, ⟨tie87, ⟨tie88, ⟨tie89, ⟨tie90, ⟨tie91, ⟨tie257, ⟨tie258, ⟨tie259, ⟨tie261, ⟨tie282, ⟨tie287, ⟨tie153, ⟨tie333, ⟨tie341, trivial⟩⟩⟩⟩⟩⟩⟩⟩⟩⟩⟩⟩⟩⟩⟩⟩⟩⟩⟩⟩⟩⟩⟩⟩
theorem prims : PrimsL E p03 := ⟨isP_raw (n := 103) ⟨Tryd.f12, Tryd.func12, by kernel_rfl, by kernel_rfl⟩ (List.mem_singleton.2 rfl) AsW.lawIs_nil AsW.lawIs_C AsW.lawIs_S, ⟨asP_raw (n := 266) ⟨Tryd.f27, Tryd.func27, by kernel_rfl, by kernel_rfl⟩ (List.mem_singleton.2 rfl) AsW.as_nil (fun t old w m hg h1 h2 => (AsW.as_CC t old w m hg h1 h2).mono fun e w' hh => ⟨hh.1, _, (by repeat (first | exact Go.RowKit.Below.refl _ _ | refine Go.RowKit.Below.alloc ?_ (by first | (simp; done) | (simp; omega)) _)), hh.2⟩) (fun t old w b o a m e0 e1 hg h1 h2 => (AsW.as_SC t old w b o a m e0 e1 hg h1 h2).mono fun e w' hh => ⟨hh.1, _, (by repeat (first | exact Go.RowKit.Below.refl _ _ | refine Go.RowKit.Below.alloc ?_ (by first | (simp; done) | (simp; omega)) _)), hh.2⟩), trivial⟩⟩
theorem tied : Tied E T03b := tied_of ties prims
end Go.Proofs.YtdjpeonignkheaaDoor.Ab
