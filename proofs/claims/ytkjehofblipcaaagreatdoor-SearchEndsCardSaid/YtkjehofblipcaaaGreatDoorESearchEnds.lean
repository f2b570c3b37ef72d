/- SearchEnds: the seat's numbers, and that the program's functions are the layer's. -/
import Derived.Test.YtkjehofblipcaaaGreatDoorA4
import Derived.Test.YtkjehofblipcaaaGreatDoorChecked
import Derived.KernelRfl
import Derived.Test.YtkjehofblipcaaaGreatDoorIs
import Derived.Test.YtkjehofblipcaaaGreatDoorAdd
import Derived.Test.YtkjehofblipcaaaGreatDoorSrt
set_option linter.unusedVariables false
namespace Go.Proofs.YtkjehofblipcaaaGreatDoor.Ab
open Go
noncomputable def E : Env := envOf Tryz.prog [(3, 179), (4, 180), (16, 66), (54, 23), (55, 22), (56, 173), (57, 174), (58, 175), (59, 184), (60, 195), (61, 194), (62, 156), (63, 178), (65, 146), (66, 159), (68, 89), (69, 118), (70, 93), (71, 120), (72, 95), (76, 39), (77, 67), (78, 69), (79, 71), (80, 19), (81, 108), (82, 96), (83, 121), (84, 126), (85, 107), (86, 105), (87, 70), (88, 68), (89, 72), (90, 41), (91, 78), (102, 35), (103, 36), (105, 15), (118, 3), (119, 4), (120, 5), (121, 7), (122, 6), (140, 134), (141, 59), (142, 114), (143, 124), (144, 151), (145, 138), (148, 52), (150, 85), (151, 33), (152, 14), (153, 18), (154, 61), (155, 62), (156, 34), (157, 104), (158, 115), (159, 60), (160, 58), (164, 25), (165, 17), (166, 64), (167, 38), (169, 47), (170, 81), (171, 113), (172, 48), (173, 50), (174, 116), (175, 65), (176, 84), (177, 83), (178, 49), (179, 51), (180, 82), (181, 37), (182, 8), (183, 16), (184, 26), (185, 28), (186, 27), (187, 11), (188, 9), (189, 53), (209, 43), (210, 45), (211, 44), (212, 46), (213, 80), (214, 112), (215, 111), (216, 123), (217, 56), (218, 99), (219, 87), (220, 117), (221, 125), (222, 21), (223, 29), (224, 54), (225, 86), (226, 88), (227, 90), (228, 92), (229, 94), (233, 10), (234, 91), (235, 127), (236, 119), (237, 20), (238, 13), (239, 55), (240, 32), (242, 98), (243, 97), (244, 57), (245, 101), (246, 31), (247, 12), (248, 30), (255, 139), (256, 152), (257, 106), (258, 122), (259, 131), (260, 135), (261, 130), (264, 79), (266, 40), (267, 63), (268, 76), (269, 103), (270, 153), (271, 137), (272, 149), (273, 150), (277, 24), (279, 42), (281, 133), (282, 77), (287, 100), (290, 128), (291, 129), (293, 132), (294, 142), (295, 143), (296, 141), (298, 140), (299, 157), (300, 158), (301, 155), (302, 160), (303, 145), (304, 147), (305, 148), (306, 136), (307, 144), (309, 154), (313, 196), (314, 197), (315, 198)] [(0, 52), (1, 104), (2, 128), (3, 103), (4, 9), (5, 266)] 64 [(0, .iface 176 (.agg #[.pointer (some ⟨1, 38, none⟩)]))]
theorem E_ok : E.OK := envOf_ok (by kernel_rfl) (by kernel_rfl) (by kernel_rfl)
theorem tie118 : cFunc E 118 = some f118 := by kernel_rfl
theorem tie16 : cFunc E 16 = some f16 := by kernel_rfl
theorem tie54 : cFunc E 54 = some f54 := by kernel_rfl
theorem tie55 : cFunc E 55 = some f55 := by kernel_rfl
theorem tie68 : cFunc E 68 = some f68 := by kernel_rfl
theorem tie69 : cFunc E 69 = some f69 := by kernel_rfl
theorem tie70 : cFunc E 70 = some f70 := by kernel_rfl
theorem tie71 : cFunc E 71 = some f71 := by kernel_rfl
theorem tie72 : cFunc E 72 = some f72 := by kernel_rfl
theorem tie76 : cFunc E 76 = some f76 := by kernel_rfl
theorem tie77 : cFunc E 77 = some f77 := by kernel_rfl
theorem tie78 : cFunc E 78 = some f78 := by kernel_rfl
theorem tie79 : cFunc E 79 = some f79 := by kernel_rfl
theorem tie80 : cFunc E 80 = some f80 := by kernel_rfl
theorem tie81 : cFunc E 81 = some f81 := by kernel_rfl
theorem tie82 : cFunc E 82 = some f82 := by kernel_rfl
theorem tie83 : cFunc E 83 = some f83 := by kernel_rfl
theorem tie84 : cFunc E 84 = some f84 := by kernel_rfl
theorem tie85 : cFunc E 85 = some f85 := by kernel_rfl
theorem tie86 : cFunc E 86 = some f86 := by kernel_rfl
theorem tie87 : cFunc E 87 = some f87 := by kernel_rfl
theorem tie88 : cFunc E 88 = some f88 := by kernel_rfl
theorem tie89 : cFunc E 89 = some f89 := by kernel_rfl
theorem tie90 : cFunc E 90 = some f90 := by kernel_rfl
theorem tie91 : cFunc E 91 = some f91 := by kernel_rfl
theorem tie102 : cFunc E 102 = some f102 := by kernel_rfl
theorem tie121 : cFunc E 121 = some f121 := by kernel_rfl
theorem tie122 : cFunc E 122 = some f122 := by kernel_rfl
theorem tie140 : cFunc E 140 = some f140 := by kernel_rfl
theorem tie141 : cFunc E 141 = some f141 := by kernel_rfl
theorem tie142 : cFunc E 142 = some f142 := by kernel_rfl
theorem tie143 : cFunc E 143 = some f143 := by kernel_rfl
theorem tie144 : cFunc E 144 = some f144 := by kernel_rfl
theorem tie145 : cFunc E 145 = some f145 := by kernel_rfl
theorem tie148 : cFunc E 148 = some f148 := by kernel_rfl
theorem tie150 : cFunc E 150 = some f150 := by kernel_rfl
theorem tie151 : cFunc E 151 = some f151 := by kernel_rfl
theorem tie152 : cFunc E 152 = some f152 := by kernel_rfl
theorem tie153 : cFunc E 153 = some f153 := by kernel_rfl
theorem tie154 : cFunc E 154 = some f154 := by kernel_rfl
theorem tie155 : cFunc E 155 = some f155 := by kernel_rfl
theorem tie156 : cFunc E 156 = some f156 := by kernel_rfl
theorem tie157 : cFunc E 157 = some f157 := by kernel_rfl
theorem tie158 : cFunc E 158 = some f158 := by kernel_rfl
theorem tie159 : cFunc E 159 = some f159 := by kernel_rfl
theorem tie160 : cFunc E 160 = some f160 := by kernel_rfl
theorem tie164 : cFunc E 164 = some f164 := by kernel_rfl
theorem tie165 : cFunc E 165 = some f165 := by kernel_rfl
theorem tie166 : cFunc E 166 = some f166 := by kernel_rfl
theorem tie167 : cFunc E 167 = some f167 := by kernel_rfl
theorem tie169 : cFunc E 169 = some f169 := by kernel_rfl
theorem tie170 : cFunc E 170 = some f170 := by kernel_rfl
theorem tie171 : cFunc E 171 = some f171 := by kernel_rfl
theorem tie172 : cFunc E 172 = some f172 := by kernel_rfl
theorem tie173 : cFunc E 173 = some f173 := by kernel_rfl
theorem tie174 : cFunc E 174 = some f174 := by kernel_rfl
theorem tie175 : cFunc E 175 = some f175 := by kernel_rfl
theorem tie176 : cFunc E 176 = some f176 := by kernel_rfl
theorem tie177 : cFunc E 177 = some f177 := by kernel_rfl
theorem tie178 : cFunc E 178 = some f178 := by kernel_rfl
theorem tie179 : cFunc E 179 = some f179 := by kernel_rfl
theorem tie180 : cFunc E 180 = some f180 := by kernel_rfl
theorem tie181 : cFunc E 181 = some f181 := by kernel_rfl
theorem tie182 : cFunc E 182 = some f182 := by kernel_rfl
theorem tie184 : cFunc E 184 = some f184 := by kernel_rfl
theorem tie185 : cFunc E 185 = some f185 := by kernel_rfl
theorem tie186 : cFunc E 186 = some f186 := by kernel_rfl
theorem tie187 : cFunc E 187 = some f187 := by kernel_rfl
theorem tie188 : cFunc E 188 = some f188 := by kernel_rfl
theorem tie189 : cFunc E 189 = some f189 := by kernel_rfl
theorem tie209 : cFunc E 209 = some f209 := by kernel_rfl
theorem tie210 : cFunc E 210 = some f210 := by kernel_rfl
theorem tie211 : cFunc E 211 = some f211 := by kernel_rfl
theorem tie212 : cFunc E 212 = some f212 := by kernel_rfl
theorem tie213 : cFunc E 213 = some f213 := by kernel_rfl
theorem tie214 : cFunc E 214 = some f214 := by kernel_rfl
theorem tie215 : cFunc E 215 = some f215 := by kernel_rfl
theorem tie216 : cFunc E 216 = some f216 := by kernel_rfl
theorem tie217 : cFunc E 217 = some f217 := by kernel_rfl
theorem tie218 : cFunc E 218 = some f218 := by kernel_rfl
theorem tie219 : cFunc E 219 = some f219 := by kernel_rfl
theorem tie220 : cFunc E 220 = some f220 := by kernel_rfl
theorem tie221 : cFunc E 221 = some f221 := by kernel_rfl
theorem tie222 : cFunc E 222 = some f222 := by kernel_rfl
theorem tie223 : cFunc E 223 = some f223 := by kernel_rfl
theorem tie224 : cFunc E 224 = some f224 := by kernel_rfl
theorem tie225 : cFunc E 225 = some f225 := by kernel_rfl
theorem tie226 : cFunc E 226 = some f226 := by kernel_rfl
theorem tie227 : cFunc E 227 = some f227 := by kernel_rfl
theorem tie228 : cFunc E 228 = some f228 := by kernel_rfl
theorem tie229 : cFunc E 229 = some f229 := by kernel_rfl
theorem tie233 : cFunc E 233 = some f233 := by kernel_rfl
theorem tie234 : cFunc E 234 = some f234 := by kernel_rfl
theorem tie235 : cFunc E 235 = some f235 := by kernel_rfl
theorem tie236 : cFunc E 236 = some f236 := by kernel_rfl
theorem tie237 : cFunc E 237 = some f237 := by kernel_rfl
theorem tie238 : cFunc E 238 = some f238 := by kernel_rfl
theorem tie239 : cFunc E 239 = some f239 := by kernel_rfl
theorem tie240 : cFunc E 240 = some f240 := by kernel_rfl
theorem tie242 : cFunc E 242 = some f242 := by kernel_rfl
theorem tie243 : cFunc E 243 = some f243 := by kernel_rfl
theorem tie244 : cFunc E 244 = some f244 := by kernel_rfl
theorem tie245 : cFunc E 245 = some f245 := by kernel_rfl
theorem tie246 : cFunc E 246 = some f246 := by kernel_rfl
theorem tie248 : cFunc E 248 = some f248 := by kernel_rfl
theorem tie255 : cFunc E 255 = some f255 := by kernel_rfl
theorem tie257 : cFunc E 257 = some f257 := by kernel_rfl
theorem tie258 : cFunc E 258 = some f258 := by kernel_rfl
theorem tie259 : cFunc E 259 = some f259 := by kernel_rfl
theorem tie260 : cFunc E 260 = some f260 := by kernel_rfl
theorem tie261 : cFunc E 261 = some f261 := by kernel_rfl
theorem tie264 : cFunc E 264 = some f264 := by kernel_rfl
theorem tie282 : cFunc E 282 = some f282 := by kernel_rfl
theorem tie287 : cFunc E 287 = some f287 := by kernel_rfl
theorem tie277 : cFunc E 277 = some (cloneF 4 32) := by kernel_rfl
theorem tie279 : cFunc E 279 = some (cloneF 8 64) := by kernel_rfl
theorem ties : TiesL E l19b := ⟨tie118, ⟨tie16, ⟨tie54, ⟨tie55, ⟨tie68, ⟨tie69, ⟨tie70, ⟨tie71, ⟨tie72, ⟨tie76, ⟨tie77, ⟨tie78, ⟨tie79, ⟨tie80, ⟨tie81, ⟨tie82, ⟨tie83, ⟨tie84, ⟨tie85, ⟨tie86, ⟨tie87, ⟨tie88, ⟨tie89, ⟨tie90, ⟨tie91, ⟨tie102, ⟨tie121, ⟨tie122, ⟨tie140, ⟨tie141, ⟨tie142, ⟨tie143, ⟨tie144, ⟨tie145, ⟨tie148, ⟨tie150, ⟨tie151, ⟨tie152, ⟨tie153, ⟨tie154, ⟨tie155, ⟨tie156, ⟨tie157, ⟨tie158, ⟨tie159, ⟨tie160, ⟨tie164, ⟨tie165, ⟨tie166, ⟨tie167, ⟨tie169, ⟨tie170, ⟨tie171, ⟨tie172, ⟨tie173, ⟨tie174, ⟨tie175, ⟨tie176, ⟨tie177, ⟨tie178, ⟨tie179, ⟨tie180, ⟨tie181, ⟨tie182, ⟨tie184, ⟨tie185, ⟨tie186, ⟨tie187, ⟨tie188, ⟨tie189, ⟨tie209, ⟨tie210, ⟨tie211, ⟨tie212, ⟨tie213, ⟨tie214, ⟨tie215, ⟨tie216, ⟨tie217, ⟨tie218, ⟨tie219, ⟨tie220, ⟨tie221, ⟨tie222, ⟨tie223, ⟨tie224, ⟨tie225, ⟨tie226, ⟨tie227, ⟨tie228, ⟨tie229, ⟨tie233, ⟨tie234, ⟨tie235, ⟨tie236, ⟨tie237, ⟨tie238, ⟨tie239, ⟨tie240, ⟨tie242, ⟨tie243, ⟨tie244, ⟨tie245, ⟨tie246, ⟨tie248, ⟨tie255, ⟨tie257, ⟨tie258, ⟨tie259, ⟨tie260, ⟨tie261, ⟨tie264, ⟨tie282, ⟨tie287, trivial⟩⟩⟩⟩⟩⟩⟩⟩⟩⟩⟩⟩⟩⟩⟩⟩⟩⟩⟩⟩⟩⟩⟩⟩⟩⟩⟩⟩⟩⟩⟩⟩⟩⟩⟩⟩⟩⟩⟩⟩⟩⟩⟩⟩⟩⟩⟩⟩⟩⟩⟩⟩⟩⟩⟩⟩⟩⟩⟩⟩⟩⟩⟩⟩⟩⟩⟩⟩⟩⟩⟩⟩⟩⟩⟩⟩⟩⟩⟩⟩⟩⟩⟩⟩⟩⟩⟩⟩⟩⟩⟩⟩⟩⟩⟩⟩⟩⟩⟩⟩⟩⟩⟩⟩⟩⟩⟩⟩⟩⟩⟩⟩⟩⟩
theorem prims : PrimsL E p19b := ⟨isP_raw (n := 103) ⟨Tryz.f36, Tryz.func36, by kernel_rfl, by kernel_rfl⟩ (List.mem_singleton.2 rfl) AsW.lawIs_nil AsW.lawIs_C AsW.lawIs_S, ⟨add1P_raw (n := 256) ⟨Tryz.f152, Tryz.func152, by kernel_rfl, by kernel_rfl⟩ AsW.add1_walk, ⟨asP_raw (n := 266) ⟨Tryz.f40, Tryz.func40, by kernel_rfl, by kernel_rfl⟩ (List.mem_singleton.2 rfl) AsW.as_nil (fun t old w m hg h1 h2 => (AsW.as_CC t old w m hg h1 h2).mono fun e w' hh => ⟨hh.1, _, (by repeat (first | exact Go.RowKit.Below.refl _ _ | refine Go.RowKit.Below.alloc ?_ (by first | (simp; done) | (simp; omega)) _)), hh.2⟩) (fun t old w b o a m e0 e1 hg h1 h2 => (AsW.as_SC t old w b o a m e0 e1 hg h1 h2).mono fun e w' hh => ⟨hh.1, _, (by repeat (first | exact Go.RowKit.Below.refl _ _ | refine Go.RowKit.Below.alloc ?_ (by first | (simp; done) | (simp; omega)) _)), hh.2⟩), ⟨clone_raw E_ok tie277, ⟨clone_raw E_ok tie279, ⟨compP_raw ⟨Tryz.f133, Tryz.func133, by kernel_rfl, by kernel_rfl⟩ Tryz.cpt1 Tryz.cpt2, ⟨foldP_raw mostL ⟨Tryz.f128, Tryz.func128, by kernel_rfl, by kernel_rfl⟩ Tryz.mx1, ⟨foldP_raw leastL ⟨Tryz.f129, Tryz.func129, by kernel_rfl, by kernel_rfl⟩ Tryz.mn1, ⟨sortP_raw ⟨Tryz.f132, Tryz.func132, by kernel_rfl, by kernel_rfl⟩ Tryz.srt1 Tryz.srt2, trivial⟩⟩⟩⟩⟩⟩⟩⟩⟩
theorem tied : Tied E T19b := tied_of ties prims
end Go.Proofs.YtkjehofblipcaaaGreatDoor.Ab
