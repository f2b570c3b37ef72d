/- SafeFirst: the seat's numbers, and that the program's functions are the layer's. -/
import Derived.Test.YtlfphlobcopemaaDoorA3
import Derived.Test.YtlfphlobcopemaaDoorChecked
import Derived.KernelRfl
import Derived.Test.YtlfphlobcopemaaDoorAs
import Derived.Test.YtlfphlobcopemaaDoorAdd
import Derived.Test.YtlfphlobcopemaaDoorSrt
set_option linter.unusedVariables false
namespace Go.Proofs.YtlfphlobcopemaaDoor.Ab
open Go
noncomputable def E : Env := envOf Tryd.prog [(3, 90), (4, 91), (56, 84), (57, 85), (58, 86), (59, 95), (60, 106), (61, 105), (62, 67), (63, 89), (65, 60), (66, 70), (68, 18), (69, 30), (70, 22), (71, 32), (72, 24), (81, 39), (82, 36), (84, 40), (102, 14), (104, 8), (153, 11), (163, 6), (219, 16), (220, 29), (221, 37), (222, 10), (223, 9), (224, 12), (225, 15), (226, 17), (227, 19), (228, 21), (229, 23), (234, 20), (235, 41), (236, 31), (255, 49), (256, 52), (258, 38), (259, 46), (260, 44), (261, 45), (266, 13), (268, 28), (270, 53), (271, 51), (272, 63), (273, 64), (281, 48), (290, 42), (291, 43), (293, 47), (294, 56), (295, 57), (296, 55), (298, 54), (299, 68), (300, 69), (301, 66), (302, 71), (303, 59), (304, 61), (305, 62), (306, 50), (307, 58), (309, 65), (313, 107), (314, 108), (315, 109), (358, 3), (359, 4), (360, 5), (361, 7)] [(0, 41), (1, 51), (2, 52), (3, 50), (4, 9), (5, 168)] 64 [(0, .iface 83 (.agg #[.pointer (some ⟨1, 39, none⟩)]))]
theorem E_ok : E.OK := envOf_ok (by kernel_rfl) (by kernel_rfl) (by kernel_rfl)
theorem tie68 : cFunc E 68 = some f68 := by kernel_rfl
theorem tie69 : cFunc E 69 = some f69 := by kernel_rfl
theorem tie70 : cFunc E 70 = some f70 := by kernel_rfl
theorem tie71 : cFunc E 71 = some f71 := by kernel_rfl
theorem tie72 : cFunc E 72 = some f72 := by kernel_rfl
theorem tie81 : cFunc E 81 = some f81 := by kernel_rfl
theorem tie82 : cFunc E 82 = some f82 := by kernel_rfl
theorem tie84 : cFunc E 84 = some f84 := by kernel_rfl
theorem tie102 : cFunc E 102 = some f102 := by kernel_rfl
theorem tie104 : cFunc E 104 = some f104 := by kernel_rfl
theorem tie153 : cFunc E 153 = some f153 := by kernel_rfl
theorem tie163 : cFunc E 163 = some f163 := by kernel_rfl
theorem tie219 : cFunc E 219 = some f219 := by kernel_rfl
theorem tie220 : cFunc E 220 = some f220 := by kernel_rfl
theorem tie221 : cFunc E 221 = some f221 := by kernel_rfl
theorem tie222 : cFunc E 222 = some f222 := by kernel_rfl
theorem tie223 : cFunc E 223 = some f223 := by kernel_rfl
theorem tie224 : cFunc E 224 = some f224 := by kernel_rfl
theorem tie225 : cFunc E 225 = some f225 := by kernel_rfl
theorem tie226 : cFunc E 226 = some f226 := by kernel_rfl
theorem tie227 : cFunc E 227 = some f227 := by kernel_rfl
theorem tie228 : cFunc E 228 = some f228 := by kernel_rfl
theorem tie229 : cFunc E 229 = some f229 := by kernel_rfl
theorem tie234 : cFunc E 234 = some f234 := by kernel_rfl
theorem tie235 : cFunc E 235 = some f235 := by kernel_rfl
theorem tie236 : cFunc E 236 = some f236 := by kernel_rfl
theorem tie255 : cFunc E 255 = some f255 := by kernel_rfl
theorem tie258 : cFunc E 258 = some f258 := by kernel_rfl
theorem tie259 : cFunc E 259 = some f259 := by kernel_rfl
theorem tie260 : cFunc E 260 = some f260 := by kernel_rfl
theorem tie261 : cFunc E 261 = some f261 := by kernel_rfl
theorem tie358 : cFunc E 358 = some f358 := by kernel_rfl
theorem tie360 : cFunc E 360 = some f360 := by kernel_rfl
theorem tie361 : cFunc E 361 = some f361 := by kernel_rfl
theorem ties : TiesL E l11f := ⟨tie68, ⟨tie69, ⟨tie70, ⟨tie71, ⟨tie72, ⟨tie81, ⟨tie82, ⟨tie84, ⟨tie102, ⟨tie104, ⟨tie153, ⟨tie163, ⟨tie219, ⟨tie220, ⟨tie221, ⟨tie222, ⟨tie223, ⟨tie224, ⟨tie225, ⟨tie226, ⟨tie227, ⟨tie228, ⟨tie229, ⟨tie234, ⟨tie235, ⟨tie236, ⟨tie255, ⟨tie258, ⟨tie259, ⟨tie260, ⟨tie261, ⟨tie358, ⟨tie360, ⟨tie361, trivial⟩⟩⟩⟩⟩⟩⟩⟩⟩⟩⟩⟩⟩⟩⟩⟩⟩⟩⟩⟩⟩⟩⟩⟩⟩⟩⟩⟩⟩⟩⟩⟩⟩⟩
theorem prims : PrimsL E p11f := ⟨add1P_raw (n := 256) ⟨Tryd.f52, Tryd.func52, by kernel_rfl, by kernel_rfl⟩ AsW.add1_walk, ⟨as2P_raw (n := 266) ⟨Tryd.f13, Tryd.func13, by kernel_rfl, by kernel_rfl⟩ (List.mem_singleton.2 rfl) AsW.as_nil (fun t old w m hg h1 h2 => (AsW.as_CC t old w m hg h1 h2).mono fun e w' hh => ⟨hh.1, _, (by repeat (first | exact Go.RowKit.Below.refl _ _ | refine Go.RowKit.Below.alloc ?_ (by first | (simp; done) | (simp; omega)) _)), hh.2⟩) (fun t old w b o a m e0 e1 hg h1 h2 => (AsW.as_SC t old w b o a m e0 e1 hg h1 h2).mono fun e w' hh => ⟨hh.1, _, (by repeat (first | exact Go.RowKit.Below.refl _ _ | refine Go.RowKit.Below.alloc ?_ (by first | (simp; done) | (simp; omega)) _)), hh.2⟩) (fun t old w m hg h1 h2 => (AsW.as_CS t old w m hg h1 h2).mono fun e w' hh => ⟨hh.1, by rw [hh.2]; exact (by repeat (first | exact Go.RowKit.Below.refl _ _ | refine Go.RowKit.Below.alloc ?_ (by first | (simp; done) | (simp; omega)) _))⟩) (fun t old w ad hg h1 h2 => (AsW.as_SS t old w ad hg h1 h2).mono fun e w' hh => ⟨hh.1, _, (by repeat (first | exact Go.RowKit.Below.refl _ _ | refine Go.RowKit.Below.alloc ?_ (by first | (simp; done) | (simp; omega)) _)), hh.2⟩), ⟨compP_raw ⟨Tryd.f48, Tryd.func48, by kernel_rfl, by kernel_rfl⟩ Tryd.cpt1 Tryd.cpt2, ⟨foldP_raw mostL ⟨Tryd.f42, Tryd.func42, by kernel_rfl, by kernel_rfl⟩ Tryd.mx1, ⟨foldP_raw leastL ⟨Tryd.f43, Tryd.func43, by kernel_rfl, by kernel_rfl⟩ Tryd.mn1, ⟨sortP_raw ⟨Tryd.f47, Tryd.func47, by kernel_rfl, by kernel_rfl⟩ Tryd.srt1 Tryd.srt2, trivial⟩⟩⟩⟩⟩⟩
theorem tied : Tied E T11f := tied_of ties prims
end Go.Proofs.YtlfphlobcopemaaDoor.Ab
