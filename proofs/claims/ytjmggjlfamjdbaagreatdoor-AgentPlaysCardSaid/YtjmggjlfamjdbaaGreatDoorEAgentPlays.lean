/- AgentPlays: the seat's numbers, and that the program's functions are the layer's. -/
import Derived.Test.YtjmggjlfamjdbaaGreatDoorA6
import Derived.Test.YtjmggjlfamjdbaaGreatDoorChecked
import Derived.KernelRfl
import Derived.Test.YtjmggjlfamjdbaaGreatDoorIs
import Derived.Test.YtjmggjlfamjdbaaGreatDoorAdd
import Derived.Test.YtjmggjlfamjdbaaGreatDoorSrt
set_option linter.unusedVariables false
namespace Go.Proofs.YtjmggjlfamjdbaaGreatDoor.Ab
open Go
noncomputable def E : Env := envOf Tryz.prog [(0, 9), (1, 10), (2, 8), (3, 159), (4, 160), (16, 50), (56, 153), (57, 154), (58, 155), (59, 164), (60, 175), (61, 174), (62, 136), (63, 158), (65, 129), (66, 139), (67, 7), (68, 88), (69, 101), (70, 92), (71, 103), (72, 94), (76, 30), (77, 51), (78, 53), (79, 55), (80, 17), (81, 78), (82, 64), (83, 83), (84, 108), (85, 77), (86, 75), (87, 54), (88, 52), (89, 56), (90, 32), (91, 62), (102, 16), (103, 26), (105, 13), (128, 3), (129, 4), (130, 5), (140, 112), (141, 38), (142, 96), (143, 104), (144, 120), (145, 116), (151, 24), (152, 12), (153, 6), (154, 40), (155, 41), (156, 25), (157, 44), (158, 97), (159, 39), (160, 37), (164, 14), (166, 27), (167, 43), (168, 11), (169, 45), (170, 71), (171, 95), (172, 46), (173, 48), (174, 98), (175, 28), (176, 74), (177, 73), (178, 47), (179, 49), (180, 72), (181, 15), (184, 29), (217, 34), (218, 67), (219, 86), (220, 100), (221, 107), (223, 35), (224, 68), (225, 85), (226, 87), (227, 89), (228, 91), (229, 93), (234, 90), (235, 109), (236, 102), (237, 18), (239, 33), (240, 84), (242, 66), (243, 65), (244, 63), (245, 82), (246, 23), (248, 36), (255, 117), (256, 121), (257, 76), (258, 99), (259, 106), (260, 113), (261, 105), (266, 31), (267, 42), (268, 60), (269, 70), (270, 122), (271, 119), (272, 132), (273, 133), (276, 20), (278, 19), (279, 21), (280, 22), (281, 115), (282, 61), (287, 81), (290, 110), (291, 111), (293, 114), (294, 125), (295, 126), (296, 124), (298, 123), (299, 137), (300, 138), (301, 135), (302, 140), (303, 128), (304, 130), (305, 131), (306, 118), (307, 127), (309, 134), (313, 176), (314, 177), (315, 178)] [(0, 63), (1, 88), (2, 97), (3, 87), (4, 9), (5, 236)] 64 [(0, .iface 143 (.agg #[.pointer (some ⟨1, 37, none⟩)]))]
theorem E_ok : E.OK := envOf_ok (by kernel_rfl) (by kernel_rfl) (by kernel_rfl)
theorem tie0 : cFunc E 0 = some f0 := by kernel_rfl
theorem tie1 : cFunc E 1 = some f1 := by kernel_rfl
theorem tie2 : cFunc E 2 = some f2 := by kernel_rfl
theorem tie16 : cFunc E 16 = some f16 := by kernel_rfl
theorem tie67 : cFunc E 67 = some f67 := by kernel_rfl
theorem tie68 : cFunc E 68 = some f68 := by kernel_rfl
theorem tie69 : cFunc E 69 = some f69 := by kernel_rfl
theorem tie70 : cFunc E 70 = some f70 := by kernel_rfl
theorem tie71 : cFunc E 71 = some f71 := by kernel_rfl
theorem tie72 : cFunc E 72 = some f72 := by kernel_rfl
theorem tie76 : cFunc E 76 = some f76 := by kernel_rfl
theorem tie77 : cFunc E 77 = some f77 := by kernel_rfl
theorem tie78 : cFunc E 78 = some f78 := by kernel_rfl
theorem tie79 : cFunc E 79 = some f79 := by kernel_rfl
theorem tie80 : cFunc E 80 = some f80 := by kernel_rfl
theorem tie81 : cFunc E 81 = some f81 := by kernel_rfl
theorem tie82 : cFunc E 82 = some f82 := by kernel_rfl
theorem tie83 : cFunc E 83 = some f83 := by kernel_rfl
theorem tie84 : cFunc E 84 = some f84 := by kernel_rfl
theorem tie85 : cFunc E 85 = some f85 := by kernel_rfl
theorem tie86 : cFunc E 86 = some f86 := by kernel_rfl
theorem tie87 : cFunc E 87 = some f87 := by kernel_rfl
theorem tie88 : cFunc E 88 = some f88 := by kernel_rfl
theorem tie89 : cFunc E 89 = some f89 := by kernel_rfl
theorem tie90 : cFunc E 90 = some f90 := by kernel_rfl
theorem tie91 : cFunc E 91 = some f91 := by kernel_rfl
theorem tie102 : cFunc E 102 = some f102 := by kernel_rfl
theorem tie105 : cFunc E 105 = some f105 := by kernel_rfl
theorem tie129 : cFunc E 129 = some f129 := by kernel_rfl
theorem tie130 : cFunc E 130 = some f130 := by kernel_rfl
theorem tie140 : cFunc E 140 = some f140 := by kernel_rfl
theorem tie141 : cFunc E 141 = some f141 := by kernel_rfl
theorem tie142 : cFunc E 142 = some f142 := by kernel_rfl
theorem tie143 : cFunc E 143 = some f143 := by kernel_rfl
theorem tie144 : cFunc E 144 = some f144 := by kernel_rfl
theorem tie145 : cFunc E 145 = some f145 := by kernel_rfl
theorem tie151 : cFunc E 151 = some f151 := by kernel_rfl
theorem tie152 : cFunc E 152 = some f152 := by kernel_rfl
theorem tie153 : cFunc E 153 = some f153 := by kernel_rfl
theorem tie154 : cFunc E 154 = some f154 := by kernel_rfl
theorem tie155 : cFunc E 155 = some f155 := by kernel_rfl
theorem tie156 : cFunc E 156 = some f156 := by kernel_rfl
theorem tie157 : cFunc E 157 = some f157 := by kernel_rfl
theorem tie158 : cFunc E 158 = some f158 := by kernel_rfl
theorem tie159 : cFunc E 159 = some f159 := by kernel_rfl
theorem tie160 : cFunc E 160 = some f160 := by kernel_rfl
theorem tie164 : cFunc E 164 = some f164 := by kernel_rfl
theorem tie166 : cFunc E 166 = some f166 := by kernel_rfl
theorem tie167 : cFunc E 167 = some f167 := by kernel_rfl
theorem tie168 : cFunc E 168 = some f168 := by kernel_rfl
theorem tie169 : cFunc E 169 = some f169 := by kernel_rfl
theorem tie170 : cFunc E 170 = some f170 := by kernel_rfl
theorem tie171 : cFunc E 171 = some f171 := by kernel_rfl
theorem tie172 : cFunc E 172 = some f172 := by kernel_rfl
theorem tie173 : cFunc E 173 = some f173 := by kernel_rfl
theorem tie174 : cFunc E 174 = some f174 := by kernel_rfl
theorem tie175 : cFunc E 175 = some f175 := by kernel_rfl
theorem tie176 : cFunc E 176 = some f176 := by kernel_rfl
theorem tie177 : cFunc E 177 = some f177 := by kernel_rfl
theorem tie178 : cFunc E 178 = some f178 := by kernel_rfl
theorem tie179 : cFunc E 179 = some f179 := by kernel_rfl
theorem tie180 : cFunc E 180 = some f180 := by kernel_rfl
theorem tie181 : cFunc E 181 = some f181 := by kernel_rfl
theorem tie184 : cFunc E 184 = some f184 := by kernel_rfl
theorem tie217 : cFunc E 217 = some f217 := by kernel_rfl
theorem tie218 : cFunc E 218 = some f218 := by kernel_rfl
theorem tie219 : cFunc E 219 = some f219 := by kernel_rfl
theorem tie220 : cFunc E 220 = some f220 := by kernel_rfl
theorem tie221 : cFunc E 221 = some f221 := by kernel_rfl
theorem tie223 : cFunc E 223 = some f223 := by kernel_rfl
theorem tie224 : cFunc E 224 = some f224 := by kernel_rfl
theorem tie225 : cFunc E 225 = some f225 := by kernel_rfl
theorem tie226 : cFunc E 226 = some f226 := by kernel_rfl
theorem tie227 : cFunc E 227 = some f227 := by kernel_rfl
theorem tie228 : cFunc E 228 = some f228 := by kernel_rfl
theorem tie229 : cFunc E 229 = some f229 := by kernel_rfl
theorem tie234 : cFunc E 234 = some f234 := by kernel_rfl
theorem tie235 : cFunc E 235 = some f235 := by kernel_rfl
theorem tie236 : cFunc E 236 = some f236 := by kernel_rfl
theorem tie237 : cFunc E 237 = some f237 := by kernel_rfl
theorem tie239 : cFunc E 239 = some f239 := by kernel_rfl
theorem tie240 : cFunc E 240 = some f240 := by kernel_rfl
theorem tie242 : cFunc E 242 = some f242 := by kernel_rfl
theorem tie243 : cFunc E 243 = some f243 := by kernel_rfl
theorem tie244 : cFunc E 244 = some f244 := by kernel_rfl
theorem tie245 : cFunc E 245 = some f245 := by kernel_rfl
theorem tie246 : cFunc E 246 = some f246 := by kernel_rfl
theorem tie248 : cFunc E 248 = some f248 := by kernel_rfl
theorem tie255 : cFunc E 255 = some f255 := by kernel_rfl
theorem tie257 : cFunc E 257 = some f257 := by kernel_rfl
theorem tie258 : cFunc E 258 = some f258 := by kernel_rfl
theorem tie259 : cFunc E 259 = some f259 := by kernel_rfl
theorem tie260 : cFunc E 260 = some f260 := by kernel_rfl
theorem tie261 : cFunc E 261 = some f261 := by kernel_rfl
theorem tie282 : cFunc E 282 = some f282 := by kernel_rfl
theorem tie287 : cFunc E 287 = some f287 := by kernel_rfl
theorem tie276 : cFunc E 276 = some (cloneF 5 40) := by kernel_rfl
theorem tie278 : cFunc E 278 = some (cloneF 10 80) := by kernel_rfl
theorem tie279 : cFunc E 279 = some (cloneF 8 64) := by kernel_rfl
theorem tie280 : cFunc E 280 = some (cloneF 6 48) := by kernel_rfl
theorem ties : TiesL E l23b := ⟨tie0, ⟨tie1, ⟨tie2, ⟨tie16, ⟨tie67, ⟨tie68, ⟨tie69, ⟨tie70, ⟨tie71, ⟨tie72, ⟨tie76, ⟨tie77, ⟨tie78, ⟨tie79, ⟨tie80, ⟨tie81, ⟨tie82, ⟨tie83, ⟨tie84, ⟨tie85, ⟨tie86, ⟨tie87, ⟨tie88, ⟨tie89, ⟨tie90, ⟨tie91, ⟨tie102, ⟨tie105, ⟨tie129, ⟨tie130, ⟨tie140, ⟨tie141, ⟨tie142, ⟨tie143, ⟨tie144, ⟨tie145, ⟨tie151, ⟨tie152, ⟨tie153, ⟨tie154, ⟨tie155, ⟨tie156, ⟨tie157, ⟨tie158, ⟨tie159, ⟨tie160, ⟨tie164, ⟨tie166, ⟨tie167, ⟨tie168, ⟨tie169, ⟨tie170, ⟨tie171, ⟨tie172, ⟨tie173, ⟨tie174, ⟨tie175, ⟨tie176, ⟨tie177, ⟨tie178, ⟨tie179, ⟨tie180, ⟨tie181, ⟨tie184, ⟨tie217, ⟨tie218, ⟨tie219, ⟨tie220, ⟨tie221, ⟨tie223, ⟨tie224, ⟨tie225, ⟨tie226, ⟨tie227, ⟨tie228, ⟨tie229, ⟨tie234, ⟨tie235, ⟨tie236, ⟨tie237, ⟨tie239, ⟨tie240, ⟨tie242, ⟨tie243, ⟨tie244, ⟨tie245, ⟨tie246, ⟨tie248, ⟨tie255, ⟨tie257, ⟨tie258, ⟨tie259, ⟨tie260, ⟨tie261, ⟨tie282, ⟨tie287, trivial⟩⟩⟩⟩⟩⟩⟩⟩⟩⟩⟩⟩⟩⟩⟩⟩⟩⟩⟩⟩⟩⟩⟩⟩⟩⟩⟩⟩⟩⟩⟩⟩⟩⟩⟩⟩⟩⟩⟩⟩⟩⟩⟩⟩⟩⟩⟩⟩⟩⟩⟩⟩⟩⟩⟩⟩⟩⟩⟩⟩⟩⟩⟩⟩⟩⟩⟩⟩⟩⟩⟩⟩⟩⟩⟩⟩⟩⟩⟩⟩⟩⟩⟩⟩⟩⟩⟩⟩⟩⟩⟩⟩⟩⟩⟩⟩
theorem prims : PrimsL E p23b := ⟨isP_raw (n := 103) ⟨Tryz.f26, Tryz.func26, by kernel_rfl, by kernel_rfl⟩ (List.mem_singleton.2 rfl) AsW.lawIs_nil AsW.lawIs_C AsW.lawIs_S, ⟨add1P_raw (n := 256) ⟨Tryz.f121, Tryz.func121, by kernel_rfl, by kernel_rfl⟩ AsW.add1_walk, ⟨asP_raw (n := 266) ⟨Tryz.f31, Tryz.func31, by kernel_rfl, by kernel_rfl⟩ (List.mem_singleton.2 rfl) AsW.as_nil (fun t old w m hg h1 h2 => (AsW.as_CC t old w m hg h1 h2).mono fun e w' hh => ⟨hh.1, _, (by repeat (first | exact Go.RowKit.Below.refl _ _ | refine Go.RowKit.Below.alloc ?_ (by first | (simp; done) | (simp; omega)) _)), hh.2⟩) (fun t old w b o a m e0 e1 hg h1 h2 => (AsW.as_SC t old w b o a m e0 e1 hg h1 h2).mono fun e w' hh => ⟨hh.1, _, (by repeat (first | exact Go.RowKit.Below.refl _ _ | refine Go.RowKit.Below.alloc ?_ (by first | (simp; done) | (simp; omega)) _)), hh.2⟩), ⟨clone_raw E_ok tie276, ⟨clone_raw E_ok tie278, ⟨clone_raw E_ok tie279, ⟨clone_raw E_ok tie280, ⟨compP_raw ⟨Tryz.f115, Tryz.func115, by kernel_rfl, by kernel_rfl⟩ Tryz.cpt1 Tryz.cpt2, ⟨foldP_raw mostL ⟨Tryz.f110, Tryz.func110, by kernel_rfl, by kernel_rfl⟩ Tryz.mx1, ⟨foldP_raw leastL ⟨Tryz.f111, Tryz.func111, by kernel_rfl, by kernel_rfl⟩ Tryz.mn1, ⟨sortP_raw ⟨Tryz.f114, Tryz.func114, by kernel_rfl, by kernel_rfl⟩ Tryz.srt1 Tryz.srt2, trivial⟩⟩⟩⟩⟩⟩⟩⟩⟩⟩⟩
theorem tied : Tied E T23b := tied_of ties prims
end Go.Proofs.YtjmggjlfamjdbaaGreatDoor.Ab
