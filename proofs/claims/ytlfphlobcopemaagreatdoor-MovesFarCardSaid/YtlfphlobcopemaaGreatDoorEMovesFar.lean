/- MovesFar: the seat's numbers, and that the program's functions are the layer's. -/
import Derived.Test.YtlfphlobcopemaaGreatDoorA5
import Derived.Test.YtlfphlobcopemaaGreatDoorChecked
import Derived.KernelRfl
import Derived.Test.YtlfphlobcopemaaGreatDoorIs
import Derived.Test.YtlfphlobcopemaaGreatDoorAdd
import Derived.Test.YtlfphlobcopemaaGreatDoorSrt
set_option linter.unusedVariables false
namespace Go.Proofs.YtlfphlobcopemaaGreatDoor.Ab
open Go
noncomputable def E : Env := envOf Tryz.prog [(3, 166), (4, 167), (16, 79), (56, 160), (57, 161), (58, 162), (59, 171), (60, 182), (61, 181), (62, 140), (63, 165), (65, 131), (66, 143), (68, 68), (69, 97), (70, 72), (71, 99), (72, 74), (76, 45), (77, 80), (78, 82), (79, 84), (80, 27), (81, 105), (82, 38), (83, 64), (84, 114), (85, 104), (86, 102), (87, 83), (88, 81), (89, 85), (90, 46), (91, 87), (102, 15), (103, 31), (105, 17), (108, 4), (109, 5), (110, 11), (116, 3), (117, 6), (140, 124), (141, 48), (142, 107), (143, 118), (144, 146), (145, 137), (151, 29), (152, 16), (153, 12), (154, 50), (155, 51), (156, 30), (157, 94), (158, 108), (159, 49), (160, 47), (163, 7), (164, 32), (165, 9), (166, 58), (167, 22), (168, 18), (169, 53), (170, 90), (171, 106), (172, 54), (173, 56), (174, 109), (175, 59), (176, 93), (177, 92), (178, 55), (179, 57), (180, 91), (181, 34), (183, 19), (184, 33), (210, 20), (211, 8), (213, 35), (214, 61), (215, 60), (216, 95), (217, 24), (218, 42), (219, 66), (220, 96), (221, 112), (222, 14), (223, 25), (224, 43), (225, 65), (226, 67), (227, 69), (228, 71), (229, 73), (234, 70), (235, 115), (236, 98), (237, 28), (238, 21), (239, 23), (240, 36), (242, 41), (243, 39), (244, 37), (245, 63), (246, 10), (247, 13), (248, 26), (255, 136), (256, 144), (257, 103), (258, 113), (259, 123), (260, 121), (261, 122), (266, 44), (267, 52), (268, 78), (269, 89), (270, 145), (271, 120), (272, 134), (273, 135), (279, 40), (281, 111), (282, 86), (287, 62), (290, 116), (291, 117), (293, 110), (294, 127), (295, 128), (296, 126), (298, 125), (299, 141), (300, 142), (301, 139), (302, 147), (303, 130), (304, 132), (305, 133), (306, 119), (307, 129), (309, 138), (313, 183), (314, 184), (315, 185)] [(0, 72), (1, 101), (2, 107), (3, 98), (4, 9), (5, 237)] 64 [(0, .iface 151 (.agg #[.pointer (some ⟨1, 44, none⟩)]))]
theorem E_ok : E.OK := envOf_ok (by kernel_rfl) (by kernel_rfl) (by kernel_rfl)
theorem tie68 : cFunc E 68 = some f68 := by kernel_rfl
theorem tie69 : cFunc E 69 = some f69 := by kernel_rfl
theorem tie70 : cFunc E 70 = some f70 := by kernel_rfl
theorem tie71 : cFunc E 71 = some f71 := by kernel_rfl
theorem tie72 : cFunc E 72 = some f72 := by kernel_rfl
theorem tie81 : cFunc E 81 = some f81 := by kernel_rfl
theorem tie82 : cFunc E 82 = some f82 := by kernel_rfl
theorem tie83 : cFunc E 83 = some f83 := by kernel_rfl
theorem tie84 : cFunc E 84 = some f84 := by kernel_rfl
theorem tie116 : cFunc E 116 = some f116 := by kernel_rfl
theorem tie117 : cFunc E 117 = some f117 := by kernel_rfl
theorem tie153 : cFunc E 153 = some f153 := by kernel_rfl
theorem tie163 : cFunc E 163 = some f163 := by kernel_rfl
theorem tie165 : cFunc E 165 = some f165 := by kernel_rfl
theorem tie167 : cFunc E 167 = some f167 := by kernel_rfl
theorem tie210 : cFunc E 210 = some f210 := by kernel_rfl
theorem tie211 : cFunc E 211 = some f211 := by kernel_rfl
theorem tie213 : cFunc E 213 = some f213 := by kernel_rfl
theorem tie214 : cFunc E 214 = some f214 := by kernel_rfl
theorem tie215 : cFunc E 215 = some f215 := by kernel_rfl
theorem tie216 : cFunc E 216 = some f216 := by kernel_rfl
theorem tie217 : cFunc E 217 = some f217 := by kernel_rfl
theorem tie218 : cFunc E 218 = some f218 := by kernel_rfl
theorem tie219 : cFunc E 219 = some f219 := by kernel_rfl
theorem tie220 : cFunc E 220 = some f220 := by kernel_rfl
theorem tie221 : cFunc E 221 = some f221 := by kernel_rfl
theorem tie222 : cFunc E 222 = some f222 := by kernel_rfl
theorem tie223 : cFunc E 223 = some f223 := by kernel_rfl
theorem tie224 : cFunc E 224 = some f224 := by kernel_rfl
theorem tie225 : cFunc E 225 = some f225 := by kernel_rfl
theorem tie226 : cFunc E 226 = some f226 := by kernel_rfl
theorem tie227 : cFunc E 227 = some f227 := by kernel_rfl
theorem tie228 : cFunc E 228 = some f228 := by kernel_rfl
theorem tie229 : cFunc E 229 = some f229 := by kernel_rfl
theorem tie234 : cFunc E 234 = some f234 := by kernel_rfl
theorem tie235 : cFunc E 235 = some f235 := by kernel_rfl
theorem tie236 : cFunc E 236 = some f236 := by kernel_rfl
theorem tie238 : cFunc E 238 = some f238 := by kernel_rfl
theorem tie239 : cFunc E 239 = some f239 := by kernel_rfl
theorem tie240 : cFunc E 240 = some f240 := by kernel_rfl
theorem tie242 : cFunc E 242 = some f242 := by kernel_rfl
theorem tie243 : cFunc E 243 = some f243 := by kernel_rfl
theorem tie244 : cFunc E 244 = some f244 := by kernel_rfl
theorem tie245 : cFunc E 245 = some f245 := by kernel_rfl
theorem tie246 : cFunc E 246 = some f246 := by kernel_rfl
theorem tie248 : cFunc E 248 = some f248 := by kernel_rfl
theorem tie255 : cFunc E 255 = some f255 := by kernel_rfl
theorem tie258 : cFunc E 258 = some f258 := by kernel_rfl
theorem tie259 : cFunc E 259 = some f259 := by kernel_rfl
theorem tie260 : cFunc E 260 = some f260 := by kernel_rfl
theorem tie261 : cFunc E 261 = some f261 := by kernel_rfl
theorem tie287 : cFunc E 287 = some f287 := by kernel_rfl
theorem tie279 : cFunc E 279 = some (cloneF 8 64) := by kernel_rfl
theorem ties : TiesL E l18 := ⟨tie68, ⟨tie69, ⟨tie70, ⟨tie71, ⟨tie72, ⟨tie81, ⟨tie82, ⟨tie83, ⟨tie84, ⟨tie116, ⟨tie117, ⟨tie153, ⟨tie163, ⟨tie165, ⟨tie167, ⟨tie210, ⟨tie211, ⟨tie213, ⟨tie214, ⟨tie215, ⟨tie216, ⟨tie217, ⟨tie218, ⟨tie219, ⟨tie220, ⟨tie221, ⟨tie222, ⟨tie223, ⟨tie224, ⟨tie225, ⟨tie226, ⟨tie227, ⟨tie228, ⟨tie229, ⟨tie234, ⟨tie235, ⟨tie236, ⟨tie238, ⟨tie239, ⟨tie240, ⟨tie242, ⟨tie243, ⟨tie244, ⟨tie245, ⟨tie246, ⟨tie248, ⟨tie255, ⟨tie258, ⟨tie259, ⟨tie260, ⟨tie261, ⟨tie287, trivial⟩⟩⟩⟩⟩⟩⟩⟩⟩⟩⟩⟩⟩⟩⟩⟩⟩⟩⟩⟩⟩⟩⟩⟩⟩⟩⟩⟩⟩⟩⟩⟩⟩⟩⟩⟩⟩⟩⟩⟩⟩⟩⟩⟩⟩⟩⟩⟩⟩⟩⟩⟩
theorem prims : PrimsL E p18 := ⟨add1P_raw (n := 256) ⟨Tryz.f144, Tryz.func144, by kernel_rfl, by kernel_rfl⟩ AsW.add1_walk, ⟨asP_raw (n := 266) ⟨Tryz.f44, Tryz.func44, by kernel_rfl, by kernel_rfl⟩ (List.mem_singleton.2 rfl) AsW.as_nil (fun t old w m hg h1 h2 => (AsW.as_CC t old w m hg h1 h2).mono fun e w' hh => ⟨hh.1, _, (by repeat (first | exact Go.RowKit.Below.refl _ _ | refine Go.RowKit.Below.alloc ?_ (by first | (simp; done) | (simp; omega)) _)), hh.2⟩) (fun t old w b o a m e0 e1 hg h1 h2 => (AsW.as_SC t old w b o a m e0 e1 hg h1 h2).mono fun e w' hh => ⟨hh.1, _, (by repeat (first | exact Go.RowKit.Below.refl _ _ | refine Go.RowKit.Below.alloc ?_ (by first | (simp; done) | (simp; omega)) _)), hh.2⟩), ⟨clone_raw E_ok tie279, ⟨compP_raw ⟨Tryz.f111, Tryz.func111, by kernel_rfl, by kernel_rfl⟩ Tryz.cpt1 Tryz.cpt2, ⟨foldP_raw mostL ⟨Tryz.f116, Tryz.func116, by kernel_rfl, by kernel_rfl⟩ Tryz.mx1, ⟨foldP_raw leastL ⟨Tryz.f117, Tryz.func117, by kernel_rfl, by kernel_rfl⟩ Tryz.mn1, ⟨sortP_raw ⟨Tryz.f110, Tryz.func110, by kernel_rfl, by kernel_rfl⟩ Tryz.srt1 Tryz.srt2, trivial⟩⟩⟩⟩⟩⟩⟩
theorem tied : Tied E T18 := tied_of ties prims
end Go.Proofs.YtlfphlobcopemaaGreatDoor.Ab
