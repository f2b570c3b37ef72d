/- StateTells: the seat's numbers, and that the program's functions are the layer's. -/
import Derived.Test.YthkkelmafjobgaaA2
import Derived.Test.YthkkelmafjobgaaChecked
import Derived.KernelRfl
set_option linter.unusedVariables false
namespace Go.Proofs.Ythkkelmafjobgaa.Ab
open Go
noncomputable def E : Env := envOf Try.prog [(56, 37), (63, 40), (82, 19), (83, 24), (106, 3), (107, 4), (153, 15), (163, 5), (164, 10), (165, 13), (167, 7), (168, 8), (237, 9), (238, 12), (239, 14), (240, 6), (241, 11), (242, 21), (243, 20), (244, 16), (245, 23), (279, 17), (286, 18), (287, 22)] [(0, 54), (4, 9)] 64
theorem E_ok : E.OK := envOf_ok (by kernel_rfl) (by kernel_rfl) (by kernel_rfl)
theorem tie82 : cFunc E 82 = some f82 := by kernel_rfl
theorem tie83 : cFunc E 83 = some f83 := by kernel_rfl
theorem tie106 : cFunc E 106 = some f106 := by kernel_rfl
theorem tie107 : cFunc E 107 = some f107 := by kernel_rfl
theorem tie153 : cFunc E 153 = some f153 := by kernel_rfl
theorem tie163 : cFunc E 163 = some f163 := by kernel_rfl
theorem tie164 : cFunc E 164 = some f164 := by kernel_rfl
theorem tie165 : cFunc E 165 = some f165 := by kernel_rfl
theorem tie167 : cFunc E 167 = some f167 := by kernel_rfl
theorem tie168 : cFunc E 168 = some f168 := by kernel_rfl
theorem tie237 : cFunc E 237 = some f237 := by kernel_rfl
theorem tie238 : cFunc E 238 = some f238 := by kernel_rfl
theorem tie239 : cFunc E 239 = some f239 := by kernel_rfl
theorem tie240 : cFunc E 240 = some f240 := by kernel_rfl
theorem tie241 : cFunc E 241 = some f241 := by kernel_rfl
theorem tie242 : cFunc E 242 = some f242 := by kernel_rfl
theorem tie243 : cFunc E 243 = some f243 := by kernel_rfl
theorem tie244 : cFunc E 244 = some f244 := by kernel_rfl
theorem tie245 : cFunc E 245 = some f245 := by kernel_rfl
theorem tie286 : cFunc E 286 = some f286 := by kernel_rfl
theorem tie287 : cFunc E 287 = some f287 := by kernel_rfl
theorem tie279 : cFunc E 279 = some (cloneF 8 64) := by kernel_rfl
theorem ties : TiesL E l05 := ⟨tie82, ⟨tie83, ⟨tie106, ⟨tie107, ⟨tie153, ⟨tie163, ⟨tie164, ⟨tie165, ⟨tie167, ⟨tie168, ⟨tie237, ⟨tie238, ⟨tie239, ⟨tie240, ⟨tie241, ⟨tie242, ⟨tie243, ⟨tie244, ⟨tie245, ⟨tie286, ⟨tie287, trivial⟩⟩⟩⟩⟩⟩⟩⟩⟩⟩⟩⟩⟩⟩⟩⟩⟩⟩⟩⟩⟩
theorem prims : PrimsL E p05 := ⟨clone_raw E_ok tie279, trivial⟩
theorem tied : Tied E T05 := tied_of ties prims
end Go.Proofs.Ythkkelmafjobgaa.Ab
