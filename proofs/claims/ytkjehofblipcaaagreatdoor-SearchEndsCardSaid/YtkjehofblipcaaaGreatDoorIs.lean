/- errors.Is, likewise. Printed by asgen.py. -/
import Derived.Test.YtkjehofblipcaaaGreatDoorAs
import Derived.Test.YtkjehofblipcaaaGreatDoorA4
set_option linter.unusedVariables false
set_option linter.unusedSimpArgs false
namespace Go.Proofs.YtkjehofblipcaaaGreatDoor.AsW
open Go.RowKit Go.Extern.Stop Go.Stop Go.Extern

theorem neqSS (e : Addr) (w : World) : (binOp .neq 38 (.iface 104 (.pointer (some e))) (.iface 104 (.pointer (some e)))).run Tryz.prog w = .ok (.bool false) w := (Go.Proofs.YtkjehofblipcaaaGreatDoor.Ab.ie_same Tryz.underlying38 (by kernel_rfl) (Go.Proofs.YtkjehofblipcaaaGreatDoor.Ab.qp_pp1 9998 Tryz.underlying104 (show (sizeOf 106).run Tryz.prog w = .ok 2 w by kernel_rfl) (by decide))).2
theorem eqSC (e : Addr) (m : Int) (w : World) : (binOp .eql 38 (.iface 104 (.pointer (some e))) (.iface 52 (.int .i64 m))).run Tryz.prog w = .ok (.bool false) w := (Go.Proofs.YtkjehofblipcaaaGreatDoor.Ab.ie_other Tryz.underlying38 (by decide)).1
theorem eqCC (n m : Int) (w : World) : (binOp .eql 38 (.iface 52 (.int .i64 n)) (.iface 52 (.int .i64 m))).run Tryz.prog w = .ok (.bool (decide (n = m))) w := (Go.Proofs.YtkjehofblipcaaaGreatDoor.Ab.ie_same Tryz.underlying38 (by kernel_rfl) (Go.Proofs.YtkjehofblipcaaaGreatDoor.Ab.ie_int Tryz.underlying52)).1
theorem comparableC (w : World) : (ReflectliteType.method (fun t => do Rtype.noPackHeld "Comparable" t; (fun a => Value.bool a.comparable) <$> typeInfo t) #[.agg #[.pointer (some ⟨1, 52, none⟩)]]).run Tryz.prog w = .ok (.bool true) w := by kernel_rfl
set_option maxRecDepth 100000 in
set_option maxHeartbeats 4000000 in
theorem is_S (w : World) (b o : Nat) (a n m : Int) (he0 : w.cell? ⟨b, o, none⟩ = some (.int .i64 a)) (he1 : w.cell? ⟨b, o + 1, none⟩ = some (.int .i64 n)) :
    Calls Tryz.prog 63 #[.iface 104 (.pointer (some ⟨b, o, none⟩)), .iface 52 (.int .i64 m)] w fun ev w' => ev = .returned (.bool (decide (n = m))) ∧ w' = w := by
  have h7 := @run_callFunc_extern Tryz.prog 102 _ ReflectliteType.typeOf Tryz.func102 (by kernel_rfl) (by kernel_rfl) (by kernel_rfl) (by kernel_rfl)
  have h11 := @run_callFunc_extern Tryz.prog 186 _ (ReflectliteType.method fun t => do Rtype.noPackHeld "Comparable" t; pure (.bool (← typeInfo t).comparable)) Tryz.func186 (by kernel_rfl) (by kernel_rfl) (by kernel_rfl) (by kernel_rfl)
  have k0 := @typeOfC
  have k1 := @methodComparable
  have k2 := @comparableC
  have k3 := @noIsC
  have k4 := @noIsS
  have k5 := @noUnC
  have k6 := @noUsC
  have k7 := @hasUnS
  have k8 := @eqSC
  have k9 := @eqCC
  have k10 := @methodUnwrap
  by_cases hnm : n = m
  · subst hnm
    go_enter Tryz.func63, Tryz.ntmps63
    go_wp2
    refine wp_loop_rounds 2 ?_
    rw [rounds_succ]
    go_wp2
    rw [rounds_succ]
    go_wp2
    go_ret
    exact ⟨by simp, rfl⟩
  · go_enter Tryz.func63, Tryz.ntmps63
    go_wp2
    refine wp_loop_rounds 2 ?_
    rw [rounds_succ]
    go_wp2
    rw [rounds_succ]
    go_wp2
    go_ret
    exact ⟨by simp [hnm], rfl⟩
set_option maxRecDepth 100000 in
set_option maxHeartbeats 4000000 in
theorem lawIs_nil (x y : Int) (w : World) : Calls Tryz.prog 36 #[.nilIface, .int .i64 x, .int .i64 y] w fun e w' => e = .returned (.bool false) ∧ Below w.heap.size w w' := by
  go_enter Tryz.func36, Tryz.ntmps36
  go_wp2_with (first | (go_at_call 40; refine (as_nil _ _).mono ?_; rintro e w' ⟨rfl, rfl⟩))
  go_ret
  exact ⟨rfl, (Below.refl _ _).alloc (Nat.le_refl _) _⟩
set_option maxRecDepth 100000 in
set_option maxHeartbeats 4000000 in
theorem lawIs_C (n x y : Int) (w : World) (hg : w.cell? ⟨0, 0, none⟩ = some (.iface 176 (.agg #[.pointer (some ⟨1, 38, none⟩)]))) : Calls Tryz.prog 36 #[.iface 52 (.int .i64 n), .int .i64 x, .int .i64 y] w fun e w' => e = .returned (.bool false) ∧ Below w.heap.size w w' := by
  have hlt : 0 < w.heap.size := by
    rcases Nat.lt_or_ge 0 w.heap.size with h | h
    · exact h
    · simp [World.cell?, Array.getElem?_eq_none h] at hg
  have hgA : (w.alloc (.cells #[.pointer none] 104)).cell? ⟨0, 0, none⟩ = some (.iface 176 (.agg #[.pointer (some ⟨1, 38, none⟩)])) := by
    rw [World.cell?_alloc_lt _ _ ⟨0, 0, none⟩ hlt]; exact hg
  have htA : (w.alloc (.cells #[.pointer none] 104)).cell? ⟨w.heap.size, 0, none⟩ = some (.pointer none) := by simp
  have hfA : (w.alloc (.cells #[.pointer none] 104)).frozen? ⟨w.heap.size, 0, none⟩ = false := by simp
  go_enter Tryz.func36, Tryz.ntmps36
  go_wp2_with (first | (go_at_call 40; refine (as_CS _ _ _ n hgA htA hfA).mono ?_; rintro e w' ⟨rfl, rfl⟩))
  go_ret
  exact ⟨rfl, (by repeat (first | exact Below.refl _ _ | refine Below.setCell ?_ (by simp) _ | refine Below.alloc ?_ (by first | (simp; done) | (simp; omega)) _))⟩
set_option maxRecDepth 100000 in
set_option maxHeartbeats 4000000 in
theorem lawIs_S (b o : Nat) (a n x y : Int) (w : World) (hg : w.cell? ⟨0, 0, none⟩ = some (.iface 176 (.agg #[.pointer (some ⟨1, 38, none⟩)]))) (he0 : w.cell? ⟨b, o, none⟩ = some (.int .i64 a)) (he1 : w.cell? ⟨b, o + 1, none⟩ = some (.int .i64 n)) : Calls Tryz.prog 36 #[.iface 104 (.pointer (some ⟨b, o, none⟩)), .int .i64 x, .int .i64 y] w fun ev w' => ev = .returned (.bool (decide (a = x) && decide (n = y))) ∧ Below w.heap.size w w' := by
  have hlt : 0 < w.heap.size := by
    rcases Nat.lt_or_ge 0 w.heap.size with h | h
    · exact h
    · simp [World.cell?, Array.getElem?_eq_none h] at hg
  have hgA : (w.alloc (.cells #[.pointer none] 104)).cell? ⟨0, 0, none⟩ = some (.iface 176 (.agg #[.pointer (some ⟨1, 38, none⟩)])) := by
    rw [World.cell?_alloc_lt _ _ ⟨0, 0, none⟩ hlt]; exact hg
  have htA : (w.alloc (.cells #[.pointer none] 104)).cell? ⟨w.heap.size, 0, none⟩ = some (.pointer none) := by simp
  have hfA : (w.alloc (.cells #[.pointer none] 104)).frozen? ⟨w.heap.size, 0, none⟩ = false := by simp
  have q1 := @neqSS
  have hel : b < w.heap.size := by
    rcases Nat.lt_or_ge b w.heap.size with h | h
    · exact h
    · simp [World.cell?, Array.getElem?_eq_none h] at he0
  have c0 : (((((w.alloc (.cells #[.pointer (some ⟨b, o, none⟩)] 104)).alloc (.cells #[.pointer (some ⟨w.heap.size, 0, none⟩)] 128)).alloc (.cells #[.pointer (some ⟨1, 128, none⟩), .pointer (some ⟨w.heap.size + 1, 0, none⟩), .int .u64 150] 141)).alloc (.cells #[.pointer (some ⟨1, 128, none⟩), .pointer (some ⟨w.heap.size + 1, 0, none⟩), .int .u64 150] 141)).alloc (.cells #[.pointer (some ⟨b, o, none⟩)] 104)).cell? ⟨b, o, none⟩ = some (.int .i64 a) := by
    rw [World.cell?_alloc_lt _ _ ⟨b, o, none⟩ (by simp; omega), World.cell?_alloc_lt _ _ ⟨b, o, none⟩ (by simp; omega), World.cell?_alloc_lt _ _ ⟨b, o, none⟩ (by simp; omega), World.cell?_alloc_lt _ _ ⟨b, o, none⟩ (by simp; omega), World.cell?_alloc_lt _ _ ⟨b, o, none⟩ hel]; exact he0
  have c1 : (((((w.alloc (.cells #[.pointer (some ⟨b, o, none⟩)] 104)).alloc (.cells #[.pointer (some ⟨w.heap.size, 0, none⟩)] 128)).alloc (.cells #[.pointer (some ⟨1, 128, none⟩), .pointer (some ⟨w.heap.size + 1, 0, none⟩), .int .u64 150] 141)).alloc (.cells #[.pointer (some ⟨1, 128, none⟩), .pointer (some ⟨w.heap.size + 1, 0, none⟩), .int .u64 150] 141)).alloc (.cells #[.pointer (some ⟨b, o, none⟩)] 104)).cell? ⟨b, o + 1, none⟩ = some (.int .i64 n) := by
    rw [World.cell?_alloc_lt _ _ ⟨b, o + 1, none⟩ (by simp; omega), World.cell?_alloc_lt _ _ ⟨b, o + 1, none⟩ (by simp; omega), World.cell?_alloc_lt _ _ ⟨b, o + 1, none⟩ (by simp; omega), World.cell?_alloc_lt _ _ ⟨b, o + 1, none⟩ (by simp; omega), World.cell?_alloc_lt _ _ ⟨b, o + 1, none⟩ hel]; exact he1
  by_cases hny : n = y <;> by_cases hax : a = x
  all_goals
    go_enter Tryz.func36, Tryz.ntmps36
    go_wp2_with (first | (go_at_call 40; refine (as_SS _ _ _ _ hgA htA hfA).mono ?_; rintro e w' ⟨rfl, rfl⟩) | (go_at_call 63; refine (is_S _ b o a n y c0 c1).mono ?_; rintro e w' ⟨rfl, rfl⟩))
    go_ret
    exact ⟨by simp [hny, hax], (by repeat (first | exact Below.refl _ _ | refine Below.setCell ?_ (by simp) _ | refine Below.alloc ?_ (by first | (simp; done) | (simp; omega)) _))⟩
end Go.Proofs.YtkjehofblipcaaaGreatDoor.AsW
