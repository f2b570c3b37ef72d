/- dunnage StateTells: for every input the law returns true, and each argument reads behind the call as it read before. No condition. -/
import Derived.Test.YthkkelmafjobgaaRows
import Derived.Test.YthkkelmafjobgaaEStateTells
import Derived.WalkKit
import Derived.ProofKit
import Derived.OpenShut
import Derived.ShutString
import Derived.ChangeOld
import Derived.Below
import Derived.SizedLaws
import Derived.Carry
namespace Go.Proofs.Ythkkelmafjobgaa.stateTells
open Go.ChangeShapes Go.WideShapes Go.ChangeAt Go.RowKit
open Go.Proofs.Ythkkelmafjobgaa.Ab (open_agg open_one law_calls VPs E E_ok tied shOf Sh law05 fits_int fits_snap fits_spec fits_state)
set_option linter.unusedVariables false
theorem own : ownKnob Try.prog.godebug = none := by kernel_rfl
theorem laidOut : laidOutB Try.prog = true := by kernel_rfl
theorem sh26 : shOf Try.prog 12 26 = some [.sl [.nu .i64, .nu .i64, .nu .u64, .nu .u64, .nu .u64, .nu .u64, .nu .u64, .nu .u64, .nu .u64, .nu .u64], .sl [.nu .i64, .bo, .nu .i64, .nu .i64, .nu .i64], .sl [.nu .i64, .nu .i64, .nu .i64, .nu .u64, .nu .u64, .nu .u64, .nu .u64, .nu .i64]] := by kernel_rfl
theorem ag26 : (match Try.prog.underlying 26 with | some (.struct _) => true | some (.array _ _) => true | _ => false) = true := by kernel_rfl
theorem sh29 : shOf Try.prog 12 29 = some [.sl [.nu .i64, .nu .u64, .nu .u64, .nu .u64, .nu .u64, .bo], .nu .i64, .nu .i64] := by kernel_rfl
theorem ag29 : (match Try.prog.underlying 29 with | some (.struct _) => true | some (.array _ _) => true | _ => false) = true := by kernel_rfl
theorem sh31 : shOf Try.prog 12 31 = some [.sl [.nu .i64, .nu .i64, .nu .i64, .nu .u64, .nu .u64, .nu .u64, .nu .u64, .nu .i64], .nu .i64, .nu .i64] := by kernel_rfl
theorem ag31 : (match Try.prog.underlying 31 with | some (.struct _) => true | some (.array _ _) => true | _ => false) = true := by kernel_rfl
theorem sh3 : shOf Try.prog 12 3 = some [.nu .i64] := by kernel_rfl
theorem ag3 : (match Try.prog.underlying 3 with | some (.struct _) => true | some (.array _ _) => true | _ => false) = false := by kernel_rfl
set_option maxRecDepth 100000 in
theorem lifted (os : Os) (started : os.Started) (H : Type) (enc : TypeId × Value → H) :
    ReturnsInHanded {} Try.checked os 3 .any (Rows.stateTellsSpec.pre6 enc Try.prog Try.f3 Rows.stateTellsRow.domain false) (Rows.stateTellsSpec.post enc Try.prog Try.f3 false true false false) := by
  refine returnsInHanded_of_change_sized (C := Try.checked) own started (by kernel_rfl) Try.func3
    (ChangeSpec.witness6 (enc := enc) (C := Try.checked) false ⟨#[], #[.agg #[.slice none 0 0, .slice none 0 0, .slice none 0 0], .agg #[.slice none 0 0, .int .i64 0, .int .i64 0], .agg #[.slice none 0 0, .int .i64 0, .int .i64 0], .agg #[.slice none 0 0, .int .i64 0, .int .i64 0], .int .i64 0], []⟩ 8 (by kernel_rfl) (by kernel_rfl) (by kernel_rfl) (by kernel_rfl)) ?_
  intro W base args ds gs before hval0 hW hcnd hsz0 _
  have hval : ∀ (j : Nat) t v, Try.f3.params[j]? = some t → args[j]? = some v → Value.okWide Try.prog W .any base t v := hval0
  have hW' := hW
  obtain ⟨p, q, hA0, hV, rfl, hfz, hnd⟩ := hW
  have hA : DataW.TrodAll enc Try.prog W 0 (fun _ => true) true Try.f3.params.toList args.toList ds p := hA0
  rw [Try.params3] at hA hval
  obtain ⟨v0, vs0, d0, ds0, p0, q0, hargs, rfl, rfl, h0, r0⟩ := trodAll_cons hA
  obtain ⟨v1, vs1, d1, ds1, p1, q1, rfl, rfl, rfl, h1, r1⟩ := trodAll_cons r0
  obtain ⟨v2, vs2, d2, ds2, p2, q2, rfl, rfl, rfl, h2, r2⟩ := trodAll_cons r1
  obtain ⟨v3, vs3, d3, ds3, p3, q3, rfl, rfl, rfl, h3, r3⟩ := trodAll_cons r2
  obtain ⟨v4, vs4, d4, ds4, p4, q4, rfl, rfl, rfl, h4, r4⟩ := trodAll_cons r3
  obtain ⟨rfl, rfl, rfl⟩ := trodAll_nil r4
  obtain rfl : args = #[v0, v1, v2, v3, v4] := by cases args; simp_all
  obtain ⟨rfl, rfl⟩ := trodVars_none hV
  have lt0 : ∀ x ∈ p0, x.block < W.heap.size := by obtain ⟨m, hm⟩ := h0; exact DataW.trod_lt m _ _ _ hm
  obtain ⟨l0, f0, g0⟩ := open_agg (E := E) ag26 sh26 (hval 0 26 v0 rfl rfl) h0
  obtain ⟨x0, e0, w0⟩ := fits_snap f0
  rw [e0] at g0
  have lt1 : ∀ x ∈ p1, x.block < W.heap.size := by obtain ⟨m, hm⟩ := h1; exact DataW.trod_lt m _ _ _ hm
  obtain ⟨l1, f1, g1⟩ := open_agg (E := E) ag29 sh29 (hval 1 29 v1 rfl rfl) h1
  obtain ⟨x1, e1, w1⟩ := fits_spec f1
  rw [e1] at g1
  have lt2 : ∀ x ∈ p2, x.block < W.heap.size := by obtain ⟨m, hm⟩ := h2; exact DataW.trod_lt m _ _ _ hm
  obtain ⟨l2, f2, g2⟩ := open_agg (E := E) ag31 sh31 (hval 2 31 v2 rfl rfl) h2
  obtain ⟨x2, e2, w2⟩ := fits_state f2
  rw [e2] at g2
  have lt3 : ∀ x ∈ p3, x.block < W.heap.size := by obtain ⟨m, hm⟩ := h3; exact DataW.trod_lt m _ _ _ hm
  obtain ⟨l3, f3, g3⟩ := open_agg (E := E) ag31 sh31 (hval 3 31 v3 rfl rfl) h3
  obtain ⟨x3, e3, w3⟩ := fits_state f3
  rw [e3] at g3
  have lt4 : ∀ x ∈ p4, x.block < W.heap.size := by obtain ⟨m, hm⟩ := h4; exact DataW.trod_lt m _ _ _ hm
  obtain ⟨l4, f4, g4⟩ := open_one (E := E) ag3 sh3 (hval 4 3 v4 rfl rfl) h4
  obtain ⟨x4, e4, w4⟩ := fits_int f4
  rw [e4] at g4
  refine (law_calls E_ok tied (law05 x0 x1 x2 x3 x4 w0 w1 w2 w3 w4) (w := W) (vs := [v0, v1, v2, v3, v4]) (by simp only [VPs]; exact ⟨_, _, rfl, g0, ⟨_, _, rfl, g1, ⟨_, _, rfl, g2, ⟨_, _, rfl, g3, ⟨_, _, rfl, g4, rfl⟩⟩⟩⟩⟩)).mono fun e W' ⟨he, bel⟩ => ?_
  subst he
  exact ⟨_, rfl, _, _, _, [], _, [], hW', trodAll_mk1 (shut_bool Try.underlying4 _), (trodAll_cons_mk (Below.trod laidOut (by kernel_rfl) (of_decide_eq_true (by kernel_rfl)) h0 bel lt0) (trodAll_cons_mk (Below.trod laidOut (by kernel_rfl) (of_decide_eq_true (by kernel_rfl)) h1 bel lt1) (trodAll_cons_mk (Below.trod laidOut (by kernel_rfl) (of_decide_eq_true (by kernel_rfl)) h2 bel lt2) (trodAll_cons_mk (Below.trod laidOut (by kernel_rfl) (of_decide_eq_true (by kernel_rfl)) h3 bel lt3) (trodAll_cons_mk (Below.trod laidOut (by kernel_rfl) (of_decide_eq_true (by kernel_rfl)) h4 bel lt4) trodAll_mk0))))), rfl, bel.frame _, fun h => by cases h⟩
theorem over : Rows.stateTellsRow.holds Try.pinned (OpenSpec.ofChange Rows.stateTellsSpec) :=
  OpenClaim.holds_of_wide 3 Try.f3 rfl rfl rfl rfl rfl rfl rfl ⟨rfl, rfl, rfl, rfl, rfl⟩ rfl rfl rfl rfl rfl (by kernel_rfl) Try.func3 (by kernel_rfl)
    (of_decide_eq_true (by kernel_rfl)) (by unfold Func.isWrapper; first | (rw [if_pos (by decide +kernel)]; kernel_rfl) | (rw [if_neg (by decide +kernel)]; exact ⟨rfl, rfl⟩))
    (fun os started H enc _ => lifted os started H enc)
end Go.Proofs.Ythkkelmafjobgaa.stateTells
namespace Go.Proofs.Ythkkelmafjobgaa
/-- The row. -/
theorem stateTells_holds : Rows.StateTellsSaid := stateTells.over
#print axioms stateTells_holds
end Go.Proofs.Ythkkelmafjobgaa
