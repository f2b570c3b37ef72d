/- CertifyFound: the seat's numbers, and that the program's functions are the layer's. -/
import Derived.Test.YtebfpcfbmhkiiaaGreatDoorA6
import Derived.Test.YtebfpcfbmhkiiaaGreatDoorChecked
import Derived.KernelRfl
import Derived.Test.YtebfpcfbmhkiiaaGreatDoorIs
import Derived.Test.YtebfpcfbmhkiiaaGreatDoorAdd
import Derived.Test.YtebfpcfbmhkiiaaGreatDoorSrt
set_option linter.unusedVariables false
namespace Go.Proofs.YtebfpcfbmhkiiaaGreatDoor.Ab
open Go
noncomputable def E : Env := envOf Tryz.prog [(3, 186), (4, 187), (5, 89), (6, 123), (7, 25), (8, 52), (9, 26), (10, 51), (11, 88), (12, 91), (13, 90), (14, 92), (15, 50), (16, 79), (54, 46), (55, 45), (56, 180), (57, 181), (58, 182), (59, 191), (60, 202), (61, 201), (62, 163), (63, 185), (65, 156), (66, 166), (68, 104), (69, 126), (70, 108), (71, 128), (72, 110), (73, 9), (74, 17), (75, 24), (76, 48), (77, 80), (78, 82), (79, 84), (80, 23), (81, 121), (82, 93), (83, 53), (84, 137), (85, 120), (86, 118), (87, 83), (88, 81), (89, 85), (90, 49), (91, 87), (102, 29), (103, 15), (105, 11), (123, 3), (124, 6), (125, 5), (126, 4), (127, 7), (140, 135), (141, 55), (142, 96), (143, 124), (144, 147), (145, 143), (151, 27), (152, 10), (153, 8), (154, 57), (155, 58), (156, 28), (157, 94), (158, 97), (159, 56), (160, 54), (164, 14), (165, 16), (166, 59), (167, 38), (168, 18), (169, 31), (170, 61), (171, 95), (172, 32), (173, 34), (174, 98), (175, 60), (176, 64), (177, 63), (178, 33), (179, 35), (180, 62), (181, 30), (183, 12), (184, 13), (209, 75), (210, 77), (211, 76), (212, 78), (213, 117), (214, 130), (215, 129), (216, 141), (217, 73), (218, 113), (219, 102), (220, 125), (221, 136), (222, 21), (223, 41), (224, 71), (225, 101), (226, 103), (227, 105), (228, 107), (229, 109), (233, 22), (234, 106), (235, 138), (236, 127), (237, 40), (238, 20), (239, 72), (240, 44), (242, 112), (243, 111), (244, 74), (245, 115), (246, 43), (247, 19), (248, 42), (255, 122), (256, 133), (257, 119), (258, 131), (259, 142), (260, 144), (261, 132), (264, 116), (266, 36), (267, 37), (268, 68), (269, 70), (270, 134), (271, 149), (272, 159), (273, 160), (277, 47), (279, 39), (281, 146), (282, 86), (287, 114), (290, 139), (291, 140), (293, 145), (294, 152), (295, 153), (296, 151), (298, 150), (299, 164), (300, 165), (301, 162), (302, 167), (303, 155), (304, 157), (305, 158), (306, 148), (307, 154), (309, 161), (313, 203), (314, 204), (315, 205)] [(0, 39), (1, 73), (2, 87), (3, 113), (4, 9), (5, 275)] 64 [(0, .iface 174 (.agg #[.pointer (some ⟨1, 34, none⟩)]))]
theorem E_ok : E.OK := envOf_ok (by kernel_rfl) (by kernel_rfl) (by kernel_rfl)
theorem tie124 : cFunc E 124 = some f124 := by kernel_rfl
theorem tie5 : cFunc E 5 = some f5 := by kernel_rfl
theorem tie6 : cFunc E 6 = some f6 := by kernel_rfl
theorem tie7 : cFunc E 7 = some f7 := by kernel_rfl
theorem tie8 : cFunc E 8 = some f8 := by kernel_rfl
theorem tie9 : cFunc E 9 = some f9 := by kernel_rfl
theorem tie10 : cFunc E 10 = some f10 := by kernel_rfl
theorem tie11 : cFunc E 11 = some f11 := by kernel_rfl
theorem tie12 : cFunc E 12 = some f12 := by kernel_rfl
theorem tie13 : cFunc E 13 = some f13 := by kernel_rfl
theorem tie14 : cFunc E 14 = some f14 := by kernel_rfl
theorem tie15 : cFunc E 15 = some f15 := by kernel_rfl
theorem tie16 : cFunc E 16 = some f16 := by kernel_rfl
theorem tie54 : cFunc E 54 = some f54 := by kernel_rfl
theorem tie55 : cFunc E 55 = some f55 := by kernel_rfl
theorem tie68 : cFunc E 68 = some f68 := by kernel_rfl
theorem tie69 : cFunc E 69 = some f69 := by kernel_rfl
theorem tie70 : cFunc E 70 = some f70 := by kernel_rfl
theorem tie71 : cFunc E 71 = some f71 := by kernel_rfl
theorem tie72 : cFunc E 72 = some f72 := by kernel_rfl
theorem tie73 : cFunc E 73 = some f73 := by kernel_rfl
theorem tie75 : cFunc E 75 = some f75 := by kernel_rfl
theorem tie76 : cFunc E 76 = some f76 := by kernel_rfl
theorem tie77 : cFunc E 77 = some f77 := by kernel_rfl
theorem tie78 : cFunc E 78 = some f78 := by kernel_rfl
theorem tie79 : cFunc E 79 = some f79 := by kernel_rfl
theorem tie80 : cFunc E 80 = some f80 := by kernel_rfl
theorem tie81 : cFunc E 81 = some f81 := by kernel_rfl
theorem tie82 : cFunc E 82 = some f82 := by kernel_rfl
theorem tie83 : cFunc E 83 = some f83 := by kernel_rfl
theorem tie84 : cFunc E 84 = some f84 := by kernel_rfl
theorem tie85 : cFunc E 85 = some f85 := by kernel_rfl
theorem tie86 : cFunc E 86 = some f86 := by kernel_rfl
theorem tie87 : cFunc E 87 = some f87 := by kernel_rfl
theorem tie88 : cFunc E 88 = some f88 := by kernel_rfl
theorem tie89 : cFunc E 89 = some f89 := by kernel_rfl
theorem tie90 : cFunc E 90 = some f90 := by kernel_rfl
theorem tie91 : cFunc E 91 = some f91 := by kernel_rfl
theorem tie127 : cFunc E 127 = some f127 := by kernel_rfl
theorem tie153 : cFunc E 153 = some f153 := by kernel_rfl
theorem tie209 : cFunc E 209 = some f209 := by kernel_rfl
theorem tie210 : cFunc E 210 = some f210 := by kernel_rfl
theorem tie211 : cFunc E 211 = some f211 := by kernel_rfl
theorem tie212 : cFunc E 212 = some f212 := by kernel_rfl
theorem tie213 : cFunc E 213 = some f213 := by kernel_rfl
theorem tie214 : cFunc E 214 = some f214 := by kernel_rfl
theorem tie215 : cFunc E 215 = some f215 := by kernel_rfl
theorem tie216 : cFunc E 216 = some f216 := by kernel_rfl
theorem tie217 : cFunc E 217 = some f217 := by kernel_rfl
theorem tie218 : cFunc E 218 = some f218 := by kernel_rfl
theorem tie219 : cFunc E 219 = some f219 := by kernel_rfl
theorem tie220 : cFunc E 220 = some f220 := by kernel_rfl
theorem tie221 : cFunc E 221 = some f221 := by kernel_rfl
theorem tie222 : cFunc E 222 = some f222 := by kernel_rfl
theorem tie223 : cFunc E 223 = some f223 := by kernel_rfl
theorem tie224 : cFunc E 224 = some f224 := by kernel_rfl
theorem tie225 : cFunc E 225 = some f225 := by kernel_rfl
theorem tie226 : cFunc E 226 = some f226 := by kernel_rfl
theorem tie227 : cFunc E 227 = some f227 := by kernel_rfl
theorem tie228 : cFunc E 228 = some f228 := by kernel_rfl
theorem tie229 : cFunc E 229 = some f229 := by kernel_rfl
theorem tie233 : cFunc E 233 = some f233 := by kernel_rfl
theorem tie234 : cFunc E 234 = some f234 := by kernel_rfl
theorem tie235 : cFunc E 235 = some f235 := by kernel_rfl
theorem tie236 : cFunc E 236 = some f236 := by kernel_rfl
theorem tie237 : cFunc E 237 = some f237 := by kernel_rfl
theorem tie238 : cFunc E 238 = some f238 := by kernel_rfl
theorem tie239 : cFunc E 239 = some f239 := by kernel_rfl
theorem tie240 : cFunc E 240 = some f240 := by kernel_rfl
theorem tie242 : cFunc E 242 = some f242 := by kernel_rfl
theorem tie243 : cFunc E 243 = some f243 := by kernel_rfl
theorem tie244 : cFunc E 244 = some f244 := by kernel_rfl
theorem tie245 : cFunc E 245 = some f245 := by kernel_rfl
theorem tie246 : cFunc E 246 = some f246 := by kernel_rfl
theorem tie248 : cFunc E 248 = some f248 := by kernel_rfl
theorem tie255 : cFunc E 255 = some f255 := by kernel_rfl
theorem tie257 : cFunc E 257 = some f257 := by kernel_rfl
theorem tie258 : cFunc E 258 = some f258 := by kernel_rfl
theorem tie259 : cFunc E 259 = some f259 := by kernel_rfl
theorem tie260 : cFunc E 260 = some f260 := by kernel_rfl
theorem tie261 : cFunc E 261 = some f261 := by kernel_rfl
theorem tie264 : cFunc E 264 = some f264 := by kernel_rfl
theorem tie282 : cFunc E 282 = some f282 := by kernel_rfl
theorem tie287 : cFunc E 287 = some f287 := by kernel_rfl
theorem tie277 : cFunc E 277 = some (cloneF 4 32) := by kernel_rfl
theorem tie279 : cFunc E 279 = some (cloneF 8 64) := by kernel_rfl
theorem ties : TiesL E l20d := ⟨tie124, ⟨tie5, ⟨tie6, ⟨tie7, ⟨tie8, ⟨tie9, ⟨tie10, ⟨tie11, ⟨tie12, ⟨tie13, ⟨tie14, ⟨tie15, ⟨tie16, ⟨tie54, ⟨tie55, ⟨tie68, ⟨tie69, ⟨tie70, ⟨tie71, ⟨tie72, ⟨tie73, ⟨tie75, ⟨tie76, ⟨tie77, ⟨tie78, ⟨tie79, ⟨tie80, ⟨tie81, ⟨tie82, ⟨tie83, ⟨tie84, ⟨tie85, ⟨tie86, ⟨tie87, ⟨tie88, ⟨tie89, ⟨tie90, ⟨tie91, ⟨tie127, ⟨tie153, ⟨tie209, ⟨tie210, ⟨tie211, ⟨tie212, ⟨tie213, ⟨tie214, ⟨tie215, ⟨tie216, ⟨tie217, ⟨tie218, ⟨tie219, ⟨tie220, ⟨tie221, ⟨tie222, ⟨tie223, ⟨tie224, ⟨tie225, ⟨tie226, ⟨tie227, ⟨tie228, ⟨tie229, ⟨tie233, ⟨tie234, ⟨tie235, ⟨tie236, ⟨tie237, ⟨tie238, ⟨tie239, ⟨tie240, ⟨tie242, ⟨tie243, ⟨tie244, ⟨tie245, ⟨tie246, ⟨tie248, ⟨tie255, ⟨tie257, ⟨tie258, ⟨tie259, ⟨tie260, ⟨tie261, ⟨tie264, ⟨tie282, ⟨tie287, trivial⟩⟩⟩⟩⟩⟩⟩⟩⟩⟩⟩⟩⟩⟩⟩⟩⟩⟩⟩⟩⟩⟩⟩⟩⟩⟩⟩⟩⟩⟩⟩⟩⟩⟩⟩⟩⟩⟩⟩⟩⟩⟩⟩⟩⟩⟩⟩⟩⟩⟩⟩⟩⟩⟩⟩⟩⟩⟩⟩⟩⟩⟩⟩⟩⟩⟩⟩⟩⟩⟩⟩⟩⟩⟩⟩⟩⟩⟩⟩⟩⟩⟩⟩⟩
theorem prims : PrimsL E p20d := ⟨isP_raw (n := 103) ⟨Tryz.f15, Tryz.func15, by kernel_rfl, by kernel_rfl⟩ (List.mem_singleton.2 rfl) AsW.lawIs_nil AsW.lawIs_C AsW.lawIs_S, ⟨add1P_raw (n := 256) ⟨Tryz.f133, Tryz.func133, by kernel_rfl, by kernel_rfl⟩ AsW.add1_walk, ⟨asP_raw (n := 266) ⟨Tryz.f36, Tryz.func36, by kernel_rfl, by kernel_rfl⟩ (List.mem_singleton.2 rfl) AsW.as_nil (fun t old w m hg h1 h2 => (AsW.as_CC t old w m hg h1 h2).mono fun e w' hh => ⟨hh.1, _, (by repeat (first | exact Go.RowKit.Below.refl _ _ | refine Go.RowKit.Below.alloc ?_ (by first | (simp; done) | (simp; omega)) _)), hh.2⟩) (fun t old w b o a m e0 e1 hg h1 h2 => (AsW.as_SC t old w b o a m e0 e1 hg h1 h2).mono fun e w' hh => ⟨hh.1, _, (by repeat (first | exact Go.RowKit.Below.refl _ _ | refine Go.RowKit.Below.alloc ?_ (by first | (simp; done) | (simp; omega)) _)), hh.2⟩), ⟨clone_raw E_ok tie277, ⟨clone_raw E_ok tie279, ⟨compP_raw ⟨Tryz.f146, Tryz.func146, by kernel_rfl, by kernel_rfl⟩ Tryz.cpt1 Tryz.cpt2, ⟨foldP_raw mostL ⟨Tryz.f139, Tryz.func139, by kernel_rfl, by kernel_rfl⟩ Tryz.mx1, ⟨foldP_raw leastL ⟨Tryz.f140, Tryz.func140, by kernel_rfl, by kernel_rfl⟩ Tryz.mn1, ⟨sortP_raw ⟨Tryz.f145, Tryz.func145, by kernel_rfl, by kernel_rfl⟩ Tryz.srt1 Tryz.srt2, trivial⟩⟩⟩⟩⟩⟩⟩⟩⟩
theorem tied : Tied E T20d := tied_of ties prims
end Go.Proofs.YtebfpcfbmhkiiaaGreatDoor.Ab
