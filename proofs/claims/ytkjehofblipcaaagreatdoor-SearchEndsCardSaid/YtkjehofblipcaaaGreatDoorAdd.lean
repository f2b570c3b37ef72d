/- vec's own addition of two numbers: by the walk. Printed by asgen.py. -/
import Derived.Test.YtkjehofblipcaaaGreatDoorProg
import Derived.WalkKit
import Derived.RowKitTokens
import Derived.KernelRfl
import Derived.Below
set_option linter.unusedVariables false
set_option linter.unusedSimpArgs false
namespace Go.Proofs.YtkjehofblipcaaaGreatDoor.AsW
open Go.RowKit Go.Extern.Stop Go.Stop Go.Extern
theorem three_eq (n : String) (x y c : Value) : MathBitsCarry.three n #[x, y, c] = (do
    let k := (← asInt c).toNat
    if k > 1 then unsupported (.noEntry ("extern/math/bits." ++ n ++ ": a carry that is neither 0 nor 1"))
    pure ((← asInt x).toNat, (← asInt y).toNat, k)) := rfl
def addE : Array Value → Sem Value := fun args => do
    let (x, y, c) ← MathBitsCarry.three "Add64" args
    pure (MathBitsCarry.pair ((x + y + c) % MathBitsCarry.m64) ((x + y + c) / MathBitsCarry.m64))
theorem addE_run (x y : Nat) (w : World) : (addE #[.int .u64 (x : Int), .int .u64 (y : Int), .int .u64 0]).run Tryz.prog w = .ok (.tuple #[.int .u64 (Int.ofNat ((x + y + 0) % MathBitsCarry.m64)), .int .u64 (Int.ofNat ((x + y + 0) / MathBitsCarry.m64))]) w := by kernel_rfl
theorem add1_walk (x y : Nat) (w : World) : Calls Tryz.prog 152 #[.int .u64 x, .int .u64 y] w fun e w' => e = .returned (.tuple #[.int .u64 (((x + y) % 18446744073709551616 : Nat) : Int), .bool (decide (((x + y) / 18446744073709551616 : Nat) = 0))]) ∧ w' = w := by
  have h := @run_callFunc_extern Tryz.prog 153 _ addE Tryz.func153 (by kernel_rfl) (by kernel_rfl) (by kernel_rfl) (by kernel_rfl)
  have k := addE_run
  go_enter Tryz.func152, Tryz.ntmps152
  go_wp2
  go_ret2
  refine ⟨?_, rfl⟩
  have hm : (MathBitsCarry.m64 : Int) = 18446744073709551616 := rfl
  have e1 : ((x : Int) + (y : Int)) % (MathBitsCarry.m64 : Int) = (((x + y) % 18446744073709551616 : Nat) : Int) := by rw [hm]; omega
  have e2 : (((x : Int) + (y : Int)) / (MathBitsCarry.m64 : Int) == 0) = decide ((x + y) / 18446744073709551616 = 0) := by
    rw [hm, Bool.eq_iff_iff, beq_iff_eq, decide_eq_true_eq]
    omega
  simp only [e1, e2]
  rfl

end Go.Proofs.YtkjehofblipcaaaGreatDoor.AsW
