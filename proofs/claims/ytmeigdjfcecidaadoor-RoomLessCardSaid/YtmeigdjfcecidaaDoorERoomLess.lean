/- RoomLess: the seat's numbers, and that the program's functions are the layer's. -/
import Derived.Test.YtmeigdjfcecidaaDoorAdd
import Derived.Test.YtmeigdjfcecidaaDoorChecked
import Derived.KernelRfl
import Derived.Test.YtmeigdjfcecidaaDoorIs
import Derived.Test.YtmeigdjfcecidaaDoorAdd
set_option linter.unusedVariables false
namespace Go.Proofs.YtmeigdjfcecidaaDoor.Ab
open Go
noncomputable def E : Env := envOf Tryd.prog [(3, 82), (4, 83), (56, 76), (57, 77), (58, 78), (59, 87), (60, 98), (61, 97), (63, 81), (68, 11), (69, 29), (70, 40), (71, 26), (72, 41), (81, 47), (82, 31), (83, 57), (102, 19), (103, 27), (105, 20), (140, 49), (141, 50), (142, 35), (143, 33), (144, 63), (145, 60), (153, 28), (155, 34), (163, 10), (169, 18), (170, 17), (171, 16), (219, 21), (220, 15), (221, 14), (239, 24), (240, 25), (242, 45), (243, 43), (244, 42), (245, 56), (255, 22), (256, 38), (258, 32), (259, 48), (260, 30), (261, 37), (266, 36), (267, 46), (268, 54), (269, 59), (270, 39), (279, 44), (287, 55), (313, 99), (314, 100), (315, 101), (317, 23), (318, 3), (319, 4), (320, 5), (321, 6), (322, 7), (323, 8), (324, 9), (325, 12), (326, 13)] [(0, 54), (1, 73), (2, 94), (3, 84), (4, 9), (5, 166)] 64 [(0, .iface 121 (.agg #[.pointer (some ⟨1, 35, none⟩)]))]
theorem E_ok : E.OK := envOf_ok (by kernel_rfl) (by kernel_rfl) (by kernel_rfl)
theorem tie82 : cFunc E 82 = some f82 := by kernel_rfl
theorem tie102 : cFunc E 102 = some f102 := by kernel_rfl
theorem tie105 : cFunc E 105 = some f105 := by kernel_rfl
theorem tie140 : cFunc E 140 = some f140 := by kernel_rfl
theorem tie141 : cFunc E 141 = some f141 := by kernel_rfl
theorem tie142 : cFunc E 142 = some f142 := by kernel_rfl
theorem tie143 : cFunc E 143 = some f143 := by kernel_rfl
theorem tie144 : cFunc E 144 = some f144 := by kernel_rfl
theorem tie145 : cFunc E 145 = some f145 := by kernel_rfl
theorem tie153 : cFunc E 153 = some f153 := by kernel_rfl
theorem tie155 : cFunc E 155 = some f155 := by kernel_rfl
theorem tie163 : cFunc E 163 = some f163 := by kernel_rfl
theorem tie169 : cFunc E 169 = some f169 := by kernel_rfl
theorem tie170 : cFunc E 170 = some f170 := by kernel_rfl
theorem tie171 : cFunc E 171 = some f171 := by kernel_rfl
theorem tie219 : cFunc E 219 = some f219 := by kernel_rfl
theorem tie220 : cFunc E 220 = some f220 := by kernel_rfl
theorem tie221 : cFunc E 221 = some f221 := by kernel_rfl
theorem tie255 : cFunc E 255 = some f255 := by kernel_rfl
theorem tie258 : cFunc E 258 = some f258 := by kernel_rfl
theorem tie259 : cFunc E 259 = some f259 := by kernel_rfl
theorem tie260 : cFunc E 260 = some f260 := by kernel_rfl
theorem tie261 : cFunc E 261 = some f261 := by kernel_rfl
theorem tie320 : cFunc E 320 = some f320 := by kernel_rfl
theorem tie321 : cFunc E 321 = some f321 := by kernel_rfl
theorem tie322 : cFunc E 322 = some f322 := by kernel_rfl
theorem tie326 : cFunc E 326 = some f326 := by kernel_rfl
theorem ties : TiesL E l06 := ⟨tie82, ⟨tie102, ⟨tie105, ⟨tie140, ⟨tie141, ⟨tie142, ⟨tie143, ⟨tie144, ⟨tie145, ⟨tie153, ⟨tie155, ⟨tie163, ⟨tie169, ⟨tie170, ⟨tie171, ⟨tie219, ⟨tie220, ⟨tie221, ⟨tie255, ⟨tie258, ⟨tie259, ⟨tie260, ⟨tie261, ⟨tie320, ⟨tie321, ⟨tie322, ⟨tie326, trivial⟩⟩⟩⟩⟩⟩⟩⟩⟩⟩⟩⟩⟩⟩⟩⟩⟩⟩⟩⟩⟩⟩⟩⟩⟩⟩⟩
theorem prims : PrimsL E p06 := ⟨isP_raw (n := 103) ⟨Tryd.f27, Tryd.func27, by kernel_rfl, by kernel_rfl⟩ (List.mem_singleton.2 rfl) AsW.lawIs_nil AsW.lawIs_C AsW.lawIs_S, ⟨add1P_raw (n := 256) ⟨Tryd.f38, Tryd.func38, by kernel_rfl, by kernel_rfl⟩ AsW.add1_walk, ⟨asP_raw (n := 266) ⟨Tryd.f36, Tryd.func36, by kernel_rfl, by kernel_rfl⟩ (List.mem_singleton.2 rfl) AsW.as_nil (fun t old w m hg h1 h2 => (AsW.as_CC t old w m hg h1 h2).mono fun e w' hh => ⟨hh.1, _, (by repeat (first | exact Go.RowKit.Below.refl _ _ | refine Go.RowKit.Below.alloc ?_ (by first | (simp; done) | (simp; omega)) _)), hh.2⟩) (fun t old w b o a m e0 e1 hg h1 h2 => (AsW.as_SC t old w b o a m e0 e1 hg h1 h2).mono fun e w' hh => ⟨hh.1, _, (by repeat (first | exact Go.RowKit.Below.refl _ _ | refine Go.RowKit.Below.alloc ?_ (by first | (simp; done) | (simp; omega)) _)), hh.2⟩), trivial⟩⟩⟩
theorem tied : Tied E T06 := tied_of ties prims
end Go.Proofs.YtmeigdjfcecidaaDoor.Ab
