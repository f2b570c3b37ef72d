/- dunnage CodecSnapshots: for every input the law returns true, and each argument reads behind the call as it read before. No condition. -/
import Derived.Test.YtjmggjlfamjdbaaDoorRows
import Derived.Test.YtjmggjlfamjdbaaDoorECodecSnapshots
import Derived.WalkKit
import Derived.ProofKit
import Derived.OpenShut
import Derived.ShutString
import Derived.ChangeOld
import Derived.Below
import Derived.SizedLaws
import Derived.Carry
import Derived.Test.YtjmggjlfamjdbaaDoorCards
import Derived.Test.YtjmggjlfamjdbaaDoorTie
import Derived.ChangeSame
import Derived.ChangeVars
import Derived.JoinedOf
import Derived.RowKit
import Derived.RowKitTokens
import Derived.LaidLaws
import Derived.LaidHandle
import Derived.Stop.Joined
import Derived.SevenTiedAt
namespace Go.Proofs.YtjmggjlfamjdbaaDoor.codecSnapshots
open Go.ChangeShapes Go.WideShapes Go.ChangeAt Go.RowKit
open Go.Proofs.YtjmggjlfamjdbaaDoor.Ab (open_agg open_one law_calls VPs E E_ok tied shOf Sh law04f fits_bytes fits_snap)
set_option linter.unusedVariables false
theorem own : ownKnob Tryd.prog.godebug = none := by kernel_rfl
theorem laidOut : laidOutB Tryd.prog = true := by kernel_rfl
theorem sh45 : shOf Tryd.prog 12 45 = some [.sl [.nu .i64, .nu .i64, .nu .u64, .nu .u64, .nu .u64, .nu .u64, .nu .u64, .nu .u64, .nu .u64, .nu .u64], .sl [.nu .i64, .bo, .nu .i64, .nu .i64, .nu .i64], .sl [.nu .i64, .nu .i64, .nu .i64, .nu .u64, .nu .u64, .nu .u64, .nu .u64, .nu .i64]] := by kernel_rfl
theorem ag45 : (match Tryd.prog.underlying 45 with | some (.struct _) => true | some (.array _ _) => true | _ => false) = true := by kernel_rfl
theorem sh23 : shOf Tryd.prog 12 23 = some [.sl [.nu .u8]] := by kernel_rfl
theorem ag23 : (match Tryd.prog.underlying 23 with | some (.struct _) => true | some (.array _ _) => true | _ => false) = false := by kernel_rfl
theorem et : Tryd.prog.globalNamed "errors.errorType" = some 0 := by kernel_rfl
theorem rt : (Tryd.prog.cutTypes.find? (·.1 == "internal/reflectlite.rtype")).map (·.2) = some 154 := by kernel_rfl
theorem oneRow : ((List.range 202).filter fun t => Tryd.prog.rowNamed t [101, 114, 114, 111, 114]) = [26] := by kernel_rfl
theorem size : Tryd.prog.types.size = 202 := by kernel_rfl
/-- What the condition gives: the variable's one cell. -/
theorem handle_of_laid {W : World} (h : laidMetH Tryd.prog Rows.codecSnapshotsRow.laid W) : W.cell? ⟨0, 0, none⟩ = some (.iface 154 (.agg #[.pointer (some ⟨1, 26, none⟩)])) := by
  have h' : laidMet Tryd.prog [] W ∧ handlesMet Tryd.prog Rows.codecSnapshotsRow.laid W := h
  obtain ⟨name, u, ty, e1, e2, e3, e4, e5⟩ := h'.2 _ (List.mem_singleton.2 rfl)
  have en : name = [101, 114, 114, 111, 114] := (Option.some.inj e1).symm
  subst en
  obtain rfl := Option.some.inj (rt.symm.trans e2)
  have hm : ty ∈ (List.range 202).filter fun t => Tryd.prog.rowNamed t [101, 114, 114, 111, 114] := List.mem_filter.2 ⟨List.mem_range.2 (by rw [← size]; exact e3), e4⟩
  rw [oneRow] at hm
  obtain rfl := List.mem_singleton.1 hm
  have hh : typeHandle Tryd.prog 26 = .pointer (some ⟨1, 26, none⟩) := by kernel_rfl
  rw [hh] at e5
  simpa using World.var?_cell et e5 0
/-- A world that meets the condition. -/
noncomputable def laidWorld (os : Os) : World :=
  let w0 := World.holding Tryd.prog os ⟨#[], #[], []⟩
  { w0 with heap := w0.heap.modify 0 fun
      | .cells _ t frozen => .cells #[.iface 154 (.agg #[.pointer (some ⟨1, 26, none⟩)])] t frozen
      | o => o }
theorem laidWorld_met (os : Os) (args : Array Value) : laidMetH Tryd.prog Rows.codecSnapshotsRow.laid ((laidWorld os).forCall (fun _ _ => 0) ⟨#[], args, []⟩).memory :=
  laidMetH_of_parts (laidMet_nil _ _) (by kernel_rfl)
set_option maxRecDepth 100000 in
theorem lifted (os : Os) (started : os.Started) (H : Type) (enc : TypeId × Value → H) :
    ReturnsInHanded {} Tryd.checked os 6 .any (fun w args => (Rows.codecSnapshotsSpec.pre enc Tryd.prog Tryd.f6 [] false w args ∧ laidMetH Tryd.prog Rows.codecSnapshotsRow.laid w) ∧ sizedMet enc Tryd.prog Tryd.f6 (OpenSpec.ofChange Rows.codecSnapshotsSpec) false w args)
      (Rows.codecSnapshotsSpec.post enc Tryd.prog Tryd.f6 false true false false) := by
  refine returnsInHanded_of_change_and (C := Tryd.checked) (X := fun w _ => laidMetH Tryd.prog Rows.codecSnapshotsRow.laid w) (fun _ _ _ hh h => h.of_heap hh) own started (by kernel_rfl) Tryd.func6
    (ChangeSpec.witness_at (enc := enc) (C := Tryd.checked) (os := os) (X := fun w _ => laidMetH Tryd.prog Rows.codecSnapshotsRow.laid w) false (laidWorld os) #[.agg #[.slice none 0 0, .slice none 0 0, .slice none 0 0], .slice none 0 0] 8 rfl (by kernel_rfl) (by kernel_rfl) (by kernel_rfl) (by kernel_rfl) (by kernel_rfl) (laidWorld_met os _)) ?_
  intro W base args ds gs before hval0 hW _ _ hL _
  have hval : ∀ (j : Nat) t v, Tryd.f6.params[j]? = some t → args[j]? = some v → Value.okWide Tryd.prog W .any base t v := hval0
  have hW' := hW
  obtain ⟨p, q, hA0, hV, rfl, hfz, hnd⟩ := hW
  have hA : DataW.TrodAll enc Tryd.prog W 0 (fun _ => true) true Tryd.f6.params.toList args.toList ds p := hA0
  rw [Tryd.params6] at hA hval
  obtain ⟨v0, vs0, d0, ds0, p0, q0, hargs, rfl, rfl, h0, r0⟩ := trodAll_cons hA
  obtain ⟨v1, vs1, d1, ds1, p1, q1, rfl, rfl, rfl, h1, r1⟩ := trodAll_cons r0
  obtain ⟨rfl, rfl, rfl⟩ := trodAll_nil r1
  obtain rfl : args = #[v0, v1] := by cases args; simp_all
  obtain ⟨rfl, rfl⟩ := trodVars_none hV
  have hI : E.inv W := fun p hp => by
    obtain rfl := List.mem_singleton.1 hp
    have hc := handle_of_laid hL
    refine ⟨?_, hc⟩
    rcases Nat.lt_or_ge 0 W.heap.size with h | h
    · exact h
    · simp [World.cell?, Array.getElem?_eq_none h] at hc
  have lt0 : ∀ x ∈ p0, x.block < W.heap.size := by obtain ⟨m, hm⟩ := h0; exact DataW.trod_lt m _ _ _ hm
  obtain ⟨l0, f0, g0⟩ := open_agg (E := E) ag45 sh45 (hval 0 45 v0 rfl rfl) h0
  obtain ⟨x0, e0, w0⟩ := fits_snap f0
  rw [e0] at g0
  have lt1 : ∀ x ∈ p1, x.block < W.heap.size := by obtain ⟨m, hm⟩ := h1; exact DataW.trod_lt m _ _ _ hm
  obtain ⟨l1, f1, g1⟩ := open_one (E := E) ag23 sh23 (hval 1 23 v1 rfl rfl) h1
  obtain ⟨x1, e1, w1⟩ := fits_bytes f1
  rw [e1] at g1
  refine (law_calls E_ok tied (law04f x0 x1 w0 w1) (w := W) (vs := [v0, v1]) hI (by simp only [VPs]; exact ⟨_, _, rfl, g0, ⟨_, _, rfl, g1, rfl⟩⟩)).mono fun e W' ⟨he, bel⟩ => ?_
  subst he
  exact ⟨_, rfl, _, _, _, [], _, [], hW', trodAll_mk1 (shut_bool Tryd.underlying4 _), (trodAll_cons_mk (Below.trod laidOut (by kernel_rfl) (of_decide_eq_true (by kernel_rfl)) h0 bel lt0) (trodAll_cons_mk (Below.trod laidOut (by kernel_rfl) (of_decide_eq_true (by kernel_rfl)) h1 bel lt1) trodAll_mk0)), rfl, bel.frame _, fun h => by cases h⟩
theorem over : Rows.codecSnapshotsRow.holds Tryd.pinned (OpenSpec.ofChange Rows.codecSnapshotsSpec) :=
  OpenClaim.holds_of_wide 6 Tryd.f6 rfl rfl rfl rfl rfl rfl rfl ⟨rfl, rfl, rfl, rfl, rfl⟩ rfl rfl rfl rfl rfl (by kernel_rfl) Tryd.func6 (by kernel_rfl)
    (of_decide_eq_true (by kernel_rfl)) (by unfold Func.isWrapper; first | (rw [if_pos (by decide +kernel)]; kernel_rfl) | (rw [if_neg (by decide +kernel)]; exact ⟨rfl, rfl⟩))
    (fun os started H enc _ => lifted os started H enc)
theorem card : Rows.CodecSnapshotsCardSaid :=
  Claim7.holds_tied_plain_at .later [] [.handle] true (true, "bfc8ffafa6577f0fa77a79c87cd86b9fbcdf58490a3fcaf3c1aa68f6fca13dd0") true
    over (fun _ h => by cases h) (by kernel_rfl) (fun _ h => by cases h) codecSnapshots_row_tie rfl ⟨rfl, rfl⟩ (by kernel_rfl) rfl
    (fun f fn hf hfn => by
      obtain rfl : f = 6 := Option.some.inj ((show Tryd.prog.funcNamed "dunnage/dunnagelaw04.CodecSnapshots" = some 6 by kernel_rfl).symm.trans hf) |>.symm
      obtain rfl : fn = Tryd.f6 := (Option.some.inj (Tryd.func6.symm.trans hfn)).symm
      refine ⟨by kernel_rfl, fun j t ht => ?_⟩
      have hall : (Tryd.f6.params.toList.all fun t => !(Tryd.prog.wantsStandIn t)) = true := by kernel_rfl
      have hm : t ∈ Tryd.f6.params.toList := by rw [← Array.getElem?_toList] at ht; exact List.mem_of_getElem? ht
      have := List.all_eq_true.1 hall t hm
      show Tryd.prog.wantsStandIn t = false
      simpa using this)
    (by kernel_rfl)
end Go.Proofs.YtjmggjlfamjdbaaDoor.codecSnapshots
namespace Go.Proofs.YtjmggjlfamjdbaaDoor
/-- The card. -/
theorem codecSnapshots_holds : Rows.CodecSnapshotsCardSaid := codecSnapshots.card
#print axioms codecSnapshots_holds
end Go.Proofs.YtjmggjlfamjdbaaDoor
