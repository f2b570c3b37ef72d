/- TidyLess: the seat's numbers, and that the program's functions are the layer's. -/
import Derived.Test.YtggjhmbbbebfeaaGreatDoorA5
import Derived.Test.YtggjhmbbbebfeaaGreatDoorChecked
import Derived.KernelRfl
import Derived.Test.YtggjhmbbbebfeaaGreatDoorIs
import Derived.Test.YtggjhmbbbebfeaaGreatDoorAdd
import Derived.Test.YtggjhmbbbebfeaaGreatDoorSrt
set_option linter.unusedVariables false
namespace Go.Proofs.YtggjhmbbbebfeaaGreatDoor.Ab
open Go
noncomputable def E : Env := envOf Tryz.prog [(3, 191), (4, 192), (16, 102), (38, 11), (39, 15), (40, 21), (41, 9), (42, 14), (43, 48), (44, 39), (45, 84), (46, 45), (47, 44), (48, 46), (49, 80), (50, 81), (56, 185), (57, 186), (58, 187), (59, 196), (60, 207), (61, 206), (62, 165), (63, 190), (64, 99), (65, 151), (66, 135), (68, 116), (69, 142), (70, 120), (71, 144), (72, 122), (76, 62), (77, 103), (78, 105), (79, 107), (80, 26), (81, 83), (82, 76), (83, 128), (84, 33), (85, 140), (86, 138), (87, 106), (88, 104), (89, 108), (90, 63), (91, 109), (102, 12), (103, 51), (105, 17), (111, 3), (112, 4), (113, 6), (114, 5), (115, 24), (140, 133), (141, 86), (142, 60), (143, 95), (144, 168), (145, 156), (151, 49), (152, 16), (153, 7), (154, 88), (155, 23), (156, 50), (157, 94), (158, 131), (159, 87), (160, 85), (163, 25), (164, 18), (166, 57), (167, 93), (168, 13), (169, 52), (170, 22), (171, 59), (172, 53), (173, 55), (174, 132), (175, 58), (176, 92), (177, 91), (178, 54), (179, 56), (180, 90), (181, 20), (184, 19), (207, 8), (208, 43), (217, 41), (218, 79), (219, 114), (220, 141), (221, 159), (222, 29), (223, 31), (224, 69), (225, 113), (226, 115), (227, 117), (228, 119), (229, 121), (234, 118), (235, 160), (236, 143), (237, 32), (239, 40), (240, 129), (242, 78), (243, 77), (244, 75), (245, 127), (246, 10), (248, 42), (249, 61), (250, 98), (251, 27), (252, 28), (253, 96), (254, 64), (255, 74), (256, 125), (257, 139), (258, 38), (259, 73), (260, 170), (261, 72), (266, 30), (267, 89), (268, 68), (269, 130), (270, 126), (271, 124), (272, 154), (273, 155), (276, 35), (278, 34), (279, 36), (280, 37), (281, 71), (282, 82), (283, 101), (284, 100), (287, 47), (288, 137), (289, 136), (290, 161), (291, 162), (292, 97), (293, 70), (294, 147), (295, 148), (296, 146), (297, 157), (298, 145), (299, 166), (300, 167), (301, 164), (302, 171), (303, 150), (304, 152), (305, 153), (306, 123), (307, 149), (308, 169), (309, 163), (310, 134), (311, 172), (312, 158), (313, 208), (314, 209), (315, 210)] [(0, 80), (1, 123), (2, 162), (3, 83), (4, 9), (5, 269)] 64 [(0, .iface 182 (.agg #[.pointer (some ⟨1, 35, none⟩)]))]
theorem E_ok : E.OK := envOf_ok (by kernel_rfl) (by kernel_rfl) (by kernel_rfl)
theorem tie16 : cFunc E 16 = some f16 := by kernel_rfl
theorem tie68 : cFunc E 68 = some f68 := by kernel_rfl
theorem tie69 : cFunc E 69 = some f69 := by kernel_rfl
theorem tie70 : cFunc E 70 = some f70 := by kernel_rfl
theorem tie71 : cFunc E 71 = some f71 := by kernel_rfl
theorem tie72 : cFunc E 72 = some f72 := by kernel_rfl
theorem tie76 : cFunc E 76 = some f76 := by kernel_rfl
theorem tie77 : cFunc E 77 = some f77 := by kernel_rfl
theorem tie78 : cFunc E 78 = some f78 := by kernel_rfl
theorem tie79 : cFunc E 79 = some f79 := by kernel_rfl
theorem tie80 : cFunc E 80 = some f80 := by kernel_rfl
theorem tie81 : cFunc E 81 = some f81 := by kernel_rfl
theorem tie82 : cFunc E 82 = some f82 := by kernel_rfl
theorem tie83 : cFunc E 83 = some f83 := by kernel_rfl
theorem tie84 : cFunc E 84 = some f84 := by kernel_rfl
theorem tie85 : cFunc E 85 = some f85 := by kernel_rfl
theorem tie86 : cFunc E 86 = some f86 := by kernel_rfl
theorem tie87 : cFunc E 87 = some f87 := by kernel_rfl
theorem tie88 : cFunc E 88 = some f88 := by kernel_rfl
theorem tie89 : cFunc E 89 = some f89 := by kernel_rfl
theorem tie90 : cFunc E 90 = some f90 := by kernel_rfl
theorem tie91 : cFunc E 91 = some f91 := by kernel_rfl
theorem tie102 : cFunc E 102 = some f102 := by kernel_rfl
theorem tie153 : cFunc E 153 = some f153 := by kernel_rfl
theorem tie217 : cFunc E 217 = some f217 := by kernel_rfl
theorem tie218 : cFunc E 218 = some f218 := by kernel_rfl
theorem tie219 : cFunc E 219 = some f219 := by kernel_rfl
theorem tie220 : cFunc E 220 = some f220 := by kernel_rfl
theorem tie221 : cFunc E 221 = some f221 := by kernel_rfl
theorem tie222 : cFunc E 222 = some f222 := by kernel_rfl
theorem tie223 : cFunc E 223 = some f223 := by kernel_rfl
theorem tie224 : cFunc E 224 = some f224 := by kernel_rfl
theorem tie225 : cFunc E 225 = some f225 := by kernel_rfl
theorem tie226 : cFunc E 226 = some f226 := by kernel_rfl
theorem tie227 : cFunc E 227 = some f227 := by kernel_rfl
theorem tie228 : cFunc E 228 = some f228 := by kernel_rfl
theorem tie229 : cFunc E 229 = some f229 := by kernel_rfl
theorem tie234 : cFunc E 234 = some f234 := by kernel_rfl
theorem tie235 : cFunc E 235 = some f235 := by kernel_rfl
theorem tie236 : cFunc E 236 = some f236 := by kernel_rfl
theorem tie237 : cFunc E 237 = some f237 := by kernel_rfl
theorem tie239 : cFunc E 239 = some f239 := by kernel_rfl
theorem tie240 : cFunc E 240 = some f240 := by kernel_rfl
theorem tie242 : cFunc E 242 = some f242 := by kernel_rfl
theorem tie243 : cFunc E 243 = some f243 := by kernel_rfl
theorem tie244 : cFunc E 244 = some f244 := by kernel_rfl
theorem tie245 : cFunc E 245 = some f245 := by kernel_rfl
theorem tie246 : cFunc E 246 = some f246 := by kernel_rfl
theorem tie248 : cFunc E 248 = some f248 := by kernel_rfl
theorem tie255 : cFunc E 255 = some f255 := by kernel_rfl
theorem tie257 : cFunc E 257 = some f257 := by kernel_rfl
theorem tie258 : cFunc E 258 = some f258 := by kernel_rfl
theorem tie259 : cFunc E 259 = some f259 := by kernel_rfl
theorem tie260 : cFunc E 260 = some f260 := by kernel_rfl
theorem tie261 : cFunc E 261 = some f261 := by kernel_rfl
theorem tie282 : cFunc E 282 = some f282 := by kernel_rfl
theorem tie287 : cFunc E 287 = some f287 := by kernel_rfl
theorem tie64 : cFunc E 64 = some f64 := by kernel_rfl
theorem tie66 : cFunc E 66 = some f66 := by kernel_rfl
theorem tie114 : cFunc E 114 = some f114 := by kernel_rfl
theorem tie115 : cFunc E 115 = some f115 := by kernel_rfl
theorem tie163 : cFunc E 163 = some f163 := by kernel_rfl
theorem tie168 : cFunc E 168 = some f168 := by kernel_rfl
theorem tie249 : cFunc E 249 = some f249 := by kernel_rfl
theorem tie250 : cFunc E 250 = some f250 := by kernel_rfl
theorem tie251 : cFunc E 251 = some f251 := by kernel_rfl
theorem tie252 : cFunc E 252 = some f252 := by kernel_rfl
theorem tie253 : cFunc E 253 = some f253 := by kernel_rfl
theorem tie254 : cFunc E 254 = some f254 := by kernel_rfl
theorem tie283 : cFunc E 283 = some f283 := by kernel_rfl
theorem tie284 : cFunc E 284 = some f284 := by kernel_rfl
theorem tie288 : cFunc E 288 = some f288 := by kernel_rfl
theorem tie289 : cFunc E 289 = some f289 := by kernel_rfl
theorem tie292 : cFunc E 292 = some f292 := by kernel_rfl
theorem tie297 : cFunc E 297 = some f297 := by kernel_rfl
theorem tie310 : cFunc E 310 = some f310 := by kernel_rfl
theorem tie279 : cFunc E 279 = some (cloneF 8 64) := by kernel_rfl
theorem ties : TiesL E l16 := ⟨tie16, ⟨tie68, ⟨tie69, ⟨tie70, ⟨tie71, ⟨tie72, ⟨tie76, ⟨tie77, ⟨tie78, ⟨tie79, ⟨tie80, ⟨tie81, ⟨tie82, ⟨tie83, ⟨tie84, ⟨tie85, ⟨tie86, ⟨tie87, ⟨tie88, ⟨tie89, ⟨tie90, ⟨tie91, ⟨tie102, ⟨tie153, ⟨tie217, ⟨tie218, ⟨tie219, ⟨tie220, ⟨tie221, ⟨tie222, ⟨tie223, ⟨tie224, ⟨tie225, ⟨tie226, ⟨tie227, ⟨tie228, ⟨tie229, ⟨tie234, ⟨tie235, ⟨tie236, ⟨tie237, ⟨tie239, ⟨tie240, ⟨tie242, ⟨tie243, ⟨tie244, ⟨tie245, ⟨tie246, ⟨tie248, ⟨tie255, ⟨tie257, ⟨tie258, ⟨tie259, ⟨tie260, ⟨tie261, ⟨tie282, ⟨tie287, ⟨tie64, ⟨tie66, ⟨tie114, ⟨tie115, ⟨tie163, ⟨tie168, ⟨tie249, ⟨tie250, ⟨tie251, ⟨tie252, ⟨tie253, ⟨tie254, ⟨tie283, ⟨tie284, ⟨tie288, ⟨tie289, ⟨tie292, ⟨tie297, ⟨tie310, trivial⟩⟩⟩⟩⟩⟩⟩⟩⟩⟩⟩⟩⟩⟩⟩⟩⟩⟩⟩⟩⟩⟩⟩⟩⟩⟩⟩⟩⟩⟩⟩⟩⟩⟩⟩⟩⟩⟩⟩⟩⟩⟩⟩⟩⟩⟩⟩⟩⟩⟩⟩⟩⟩⟩⟩⟩⟩⟩⟩⟩⟩⟩⟩⟩⟩⟩⟩⟩⟩⟩⟩⟩⟩⟩⟩⟩
theorem prims : PrimsL E p16 := ⟨add1P_raw (n := 256) ⟨Tryz.f125, Tryz.func125, by kernel_rfl, by kernel_rfl⟩ AsW.add1_walk, ⟨asP_raw (n := 266) ⟨Tryz.f30, Tryz.func30, by kernel_rfl, by kernel_rfl⟩ (List.mem_singleton.2 rfl) AsW.as_nil (fun t old w m hg h1 h2 => (AsW.as_CC t old w m hg h1 h2).mono fun e w' hh => ⟨hh.1, _, (by repeat (first | exact Go.RowKit.Below.refl _ _ | refine Go.RowKit.Below.alloc ?_ (by first | (simp; done) | (simp; omega)) _)), hh.2⟩) (fun t old w b o a m e0 e1 hg h1 h2 => (AsW.as_SC t old w b o a m e0 e1 hg h1 h2).mono fun e w' hh => ⟨hh.1, _, (by repeat (first | exact Go.RowKit.Below.refl _ _ | refine Go.RowKit.Below.alloc ?_ (by first | (simp; done) | (simp; omega)) _)), hh.2⟩), ⟨clone_raw E_ok tie279, ⟨compP_raw ⟨Tryz.f71, Tryz.func71, by kernel_rfl, by kernel_rfl⟩ Tryz.cpt1 Tryz.cpt2, ⟨foldP_raw mostL ⟨Tryz.f161, Tryz.func161, by kernel_rfl, by kernel_rfl⟩ Tryz.mx1, ⟨foldP_raw leastL ⟨Tryz.f162, Tryz.func162, by kernel_rfl, by kernel_rfl⟩ Tryz.mn1, ⟨sortP_raw ⟨Tryz.f70, Tryz.func70, by kernel_rfl, by kernel_rfl⟩ Tryz.srt1 Tryz.srt2, trivial⟩⟩⟩⟩⟩⟩⟩
theorem tied : Tied E T16 := tied_of ties prims
end Go.Proofs.YtggjhmbbbebfeaaGreatDoor.Ab
