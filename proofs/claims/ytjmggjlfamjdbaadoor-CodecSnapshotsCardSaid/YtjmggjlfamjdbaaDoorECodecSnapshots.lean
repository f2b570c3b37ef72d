/- CodecSnapshots: the seat's numbers, and that the program's functions are the layer's. -/
import Derived.Test.YtjmggjlfamjdbaaDoorA5
import Derived.Test.YtjmggjlfamjdbaaDoorChecked
import Derived.KernelRfl
import Derived.Test.YtjmggjlfamjdbaaDoorIs
set_option linter.unusedVariables false
namespace Go.Proofs.YtjmggjlfamjdbaaDoor.Ab
open Go
noncomputable def E : Env := envOf Tryd.prog [(3, 98), (4, 99), (16, 56), (17, 35), (18, 34), (19, 52), (20, 44), (21, 43), (22, 28), (23, 41), (56, 92), (57, 93), (58, 94), (59, 103), (60, 114), (61, 113), (63, 97), (76, 40), (77, 57), (78, 59), (79, 61), (81, 73), (82, 74), (85, 72), (86, 70), (87, 60), (88, 58), (89, 62), (92, 9), (93, 12), (94, 18), (95, 21), (96, 17), (97, 20), (98, 33), (99, 29), (100, 42), (102, 38), (103, 39), (105, 14), (141, 46), (146, 36), (148, 11), (149, 53), (150, 32), (151, 23), (153, 16), (154, 48), (155, 49), (159, 47), (160, 45), (161, 13), (162, 37), (257, 71), (258, 77), (259, 79), (261, 78), (262, 51), (264, 30), (265, 63), (266, 54), (267, 55), (268, 67), (269, 69), (313, 115), (314, 116), (315, 117), (334, 3), (335, 4), (336, 5), (337, 6), (338, 7), (342, 8), (343, 10), (344, 15), (345, 19), (346, 22), (347, 24), (348, 25), (349, 26), (350, 27), (351, 31), (352, 50)] [(0, 33), (1, 117), (2, 119), (3, 148), (4, 9), (5, 201)] 64 [(0, .iface 154 (.agg #[.pointer (some ⟨1, 26, none⟩)]))]
theorem E_ok : E.OK := envOf_ok (by kernel_rfl) (by kernel_rfl) (by kernel_rfl)
theorem tie16 : cFunc E 16 = some f16 := by kernel_rfl
theorem tie17 : cFunc E 17 = some f17 := by kernel_rfl
theorem tie18 : cFunc E 18 = some f18 := by kernel_rfl
theorem tie19 : cFunc E 19 = some f19 := by kernel_rfl
theorem tie20 : cFunc E 20 = some f20 := by kernel_rfl
theorem tie21 : cFunc E 21 = some f21 := by kernel_rfl
theorem tie22 : cFunc E 22 = some f22 := by kernel_rfl
theorem tie23 : cFunc E 23 = some f23 := by kernel_rfl
theorem tie76 : cFunc E 76 = some f76 := by kernel_rfl
theorem tie77 : cFunc E 77 = some f77 := by kernel_rfl
theorem tie78 : cFunc E 78 = some f78 := by kernel_rfl
theorem tie79 : cFunc E 79 = some f79 := by kernel_rfl
theorem tie81 : cFunc E 81 = some f81 := by kernel_rfl
theorem tie82 : cFunc E 82 = some f82 := by kernel_rfl
theorem tie85 : cFunc E 85 = some f85 := by kernel_rfl
theorem tie86 : cFunc E 86 = some f86 := by kernel_rfl
theorem tie87 : cFunc E 87 = some f87 := by kernel_rfl
theorem tie88 : cFunc E 88 = some f88 := by kernel_rfl
theorem tie89 : cFunc E 89 = some f89 := by kernel_rfl
theorem tie92 : cFunc E 92 = some f92 := by kernel_rfl
theorem tie93 : cFunc E 93 = some f93 := by kernel_rfl
theorem tie94 : cFunc E 94 = some f94 := by kernel_rfl
theorem tie96 : cFunc E 96 = some f96 := by kernel_rfl
theorem tie98 : cFunc E 98 = some f98 := by kernel_rfl
theorem tie99 : cFunc E 99 = some f99 := by kernel_rfl
theorem tie100 : cFunc E 100 = some f100 := by kernel_rfl
theorem tie102 : cFunc E 102 = some f102 := by kernel_rfl
theorem tie105 : cFunc E 105 = some f105 := by kernel_rfl
theorem tie141 : cFunc E 141 = some f141 := by kernel_rfl
theorem tie146 : cFunc E 146 = some f146 := by kernel_rfl
theorem tie148 : cFunc E 148 = some f148 := by kernel_rfl
theorem tie149 : cFunc E 149 = some f149 := by kernel_rfl
theorem tie150 : cFunc E 150 = some f150 := by kernel_rfl
theorem tie151 : cFunc E 151 = some f151 := by kernel_rfl
theorem tie153 : cFunc E 153 = some f153 := by kernel_rfl
theorem tie154 : cFunc E 154 = some f154 := by kernel_rfl
theorem tie155 : cFunc E 155 = some f155 := by kernel_rfl
theorem tie159 : cFunc E 159 = some f159 := by kernel_rfl
theorem tie160 : cFunc E 160 = some f160 := by kernel_rfl
theorem tie162 : cFunc E 162 = some f162 := by kernel_rfl
theorem tie257 : cFunc E 257 = some f257 := by kernel_rfl
theorem tie258 : cFunc E 258 = some f258 := by kernel_rfl
theorem tie259 : cFunc E 259 = some f259 := by kernel_rfl
theorem tie261 : cFunc E 261 = some f261 := by kernel_rfl
theorem tie262 : cFunc E 262 = some f262 := by kernel_rfl
theorem tie264 : cFunc E 264 = some f264 := by kernel_rfl
theorem tie265 : cFunc E 265 = some f265 := by kernel_rfl
theorem tie337 : cFunc E 337 = some f337 := by kernel_rfl
theorem tie342 : cFunc E 342 = some f342 := by kernel_rfl
theorem tie345 : cFunc E 345 = some f345 := by kernel_rfl
theorem tie347 : cFunc E 347 = some f347 := by kernel_rfl
theorem tie348 : cFunc E 348 = some f348 := by kernel_rfl
theorem tie352 : cFunc E 352 = some f352 := by kernel_rfl
theorem ties : TiesL E l04f := ⟨tie16, ⟨tie17, ⟨tie18, ⟨tie19, ⟨tie20, ⟨tie21, ⟨tie22, ⟨tie23, ⟨tie76, ⟨tie77, ⟨tie78, ⟨tie79, ⟨tie81, ⟨tie82, ⟨tie85, ⟨tie86, ⟨tie87, ⟨tie88, ⟨tie89, ⟨tie92, ⟨tie93, ⟨tie94, ⟨tie96, ⟨tie98, ⟨tie99, ⟨tie100, ⟨tie102, ⟨tie105, ⟨tie141, ⟨tie146, ⟨tie148, ⟨tie149, ⟨tie150, ⟨tie151, ⟨tie153, ⟨tie154, ⟨tie155, ⟨tie159, ⟨tie160, ⟨tie162, ⟨tie257, ⟨tie258, ⟨tie259, ⟨tie261, ⟨tie262, ⟨tie264, ⟨tie265, ⟨tie337, ⟨tie342, ⟨tie345, ⟨tie347, ⟨tie348, ⟨tie352, trivial⟩⟩⟩⟩⟩⟩⟩⟩⟩⟩⟩⟩⟩⟩⟩⟩⟩⟩⟩⟩⟩⟩⟩⟩⟩⟩⟩⟩⟩⟩⟩⟩⟩⟩⟩⟩⟩⟩⟩⟩⟩⟩⟩⟩⟩⟩⟩⟩⟩⟩⟩⟩⟩
theorem prims : PrimsL E p04 := ⟨isP_raw (n := 103) ⟨Tryd.f39, Tryd.func39, by kernel_rfl, by kernel_rfl⟩ (List.mem_singleton.2 rfl) AsW.lawIs_nil AsW.lawIs_C AsW.lawIs_S, ⟨asP_raw (n := 266) ⟨Tryd.f54, Tryd.func54, by kernel_rfl, by kernel_rfl⟩ (List.mem_singleton.2 rfl) AsW.as_nil (fun t old w m hg h1 h2 => (AsW.as_CC t old w m hg h1 h2).mono fun e w' hh => ⟨hh.1, _, (by repeat (first | exact Go.RowKit.Below.refl _ _ | refine Go.RowKit.Below.alloc ?_ (by first | (simp; done) | (simp; omega)) _)), hh.2⟩) (fun t old w b o a m e0 e1 hg h1 h2 => (AsW.as_SC t old w b o a m e0 e1 hg h1 h2).mono fun e w' hh => ⟨hh.1, _, (by repeat (first | exact Go.RowKit.Below.refl _ _ | refine Go.RowKit.Below.alloc ?_ (by first | (simp; done) | (simp; omega)) _)), hh.2⟩), trivial⟩⟩
theorem tied : Tied E T04f := tied_of ties prims
end Go.Proofs.YtjmggjlfamjdbaaDoor.Ab
