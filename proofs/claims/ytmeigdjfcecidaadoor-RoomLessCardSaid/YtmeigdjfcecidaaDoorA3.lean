/- The layer, part 3: Sp9, Sp5b, Sp5d, Ab54, Sp6, Sp6b, Sp6c, Sp6d, Sp6e. -/
import Derived.Test.YtmeigdjfcecidaaDoorA2
/- Layer 9 (budget): contracts. -/
set_option linter.unusedVariables false
set_option linter.unusedSimpArgs false
namespace Go.Proofs.YtmeigdjfcecidaaDoor.Ab
open Go

section
variable {T : Tab}

/-- How many pods of a load are somewhere. -/
def sizeN (load : Int) : List Pod → Nat
  | [] => 0
  | p :: r => (if p.load = load ∧ p.node ≠ 0 then 1 else 0) + sizeN load r
theorem sizeN_le (load : Int) : ∀ l, sizeN load l ≤ l.length
  | [] => Nat.le_refl _
  | p :: r => by
    have := sizeN_le load r
    simp only [sizeN, List.length_cons]
    split <;> omega

theorem size_loop (load : Int) (pods : List Pod) (hl : pods.length ≤ 2 ^ 30) (Q : Exit → St → Prop) (total : Nat) (hQ : ∀ fr hp nx, look fr 5 = .pv (.int .i64 total) → Q (.exit 0) ⟨fr, hp, nx⟩) :
    ∀ (rest : List Pod) (i k : Nat), pods.drop i = rest → i ≤ pods.length → k ≤ i → k + sizeN load rest = total → ∀ (fr : List (Nat × AV)) (hp : Hl) (nx : Nat), look fr 5 = .pv (.int .i64 k) → look fr 1 = .pv (.int .i64 load) →
      look fr 9 = .pv (.slice (pods.map podC)) → look fr 10 = .pv (.int .i64 pods.length) → look fr 11 = .pv (.int .i64 i) → Wp T false (.loop f71l0) ⟨fr, hp, nx⟩ Q := by
  intro rest
  induction rest with
  | nil =>
    intro i k hd hi hk ht fr hp nx h5 h1 h9 h10 h11
    have hlen := drop_nil hd hi
    simp only [sizeN, Nat.add_zero] at ht
    subst ht
    rw [Wp_loop, Wp_eq f71l0.eq_1]
    simp only [runL, opQ, evOp, evO, evOs, guardV, argsA, pvs, putS, cellsOf, scals, scal, Nat.reduceEqDiff, Nat.reduceAdd, reduceCtorEq, fieldA, nonNil, cellsAt, mkAgg, allPV, storeB, patchL, Int.reduceToNat, Nat.reduceMul, Nat.reduceLT, stepA, Int.reduceNeg, Int.reduceLE, Int.reduceLT, Int.reduceEq, extractV, mkAgg, Nat.reduceLeDiff, fillA, pureVs, pureV, eqV, eqB, lenV, binV, intBin, intV, idxA, List.drop, List.take, RetP, retP, resV, resOne, snapV, snapVs, snapR, snapRs, ownSz, pickV, AO.isC, opE, opD, funV, h5, h1, h9, h10, h11, hlen, Int.lt_irrefl]
    exact hQ _ _ _ (by simp only [look_if, Nat.reduceEqDiff, if_false, h5])
  | cons p r ih =>
    intro i k hd hi hk ht fr hp nx h5 h1 h9 h10 h11
    obtain ⟨hget, hlt, hw, hd', hi', hb⟩ := drop_cons hd hl
    have hwk : IntKind.i64.wrap ((k : Int) + 1) = ((k + 1 : Nat) : Int) := by rw [wrap6] <;> omega
    rw [Wp_loop, Wp_eq f71l0.eq_1]
    by_cases hp1 : p.load = load
    · by_cases hp2 : p.node = 0
      · simp only [runL, opQ, evOp, evO, evOs, guardV, argsA, pvs, putS, cellsOf, scals, scal, Nat.reduceEqDiff, Nat.reduceAdd, reduceCtorEq, fieldA, nonNil, cellsAt, mkAgg, allPV, storeB, patchL, Int.reduceToNat, Nat.reduceMul, Nat.reduceLT, stepA, Int.reduceNeg, Int.reduceLE, Int.reduceLT, Int.reduceEq, extractV, mkAgg, Nat.reduceLeDiff, fillA, pureVs, pureV, eqV, eqB, lenV, binV, intBin, intV, idxA, List.drop, List.take, RetP, retP, resV, resOne, snapV, snapVs, snapR, snapRs, ownSz, pickV, AO.isC, opE, opD, funV, h5, h1, h9, h10, h11, hlt, hget, podC, hp1, hp2, hw]
        refine ih (i + 1) k hd' hi' (by omega) (by simpa [sizeN, hp2] using ht) _ _ _ ?_ ?_ ?_ ?_ ?_
        all_goals simp only [look_if, Nat.reduceEqDiff, if_true, if_false, h5, h1, h9, h10]
      · simp only [runL, opQ, evOp, evO, evOs, guardV, argsA, pvs, putS, cellsOf, scals, scal, Nat.reduceEqDiff, Nat.reduceAdd, reduceCtorEq, fieldA, nonNil, cellsAt, mkAgg, allPV, storeB, patchL, Int.reduceToNat, Nat.reduceMul, Nat.reduceLT, stepA, Int.reduceNeg, Int.reduceLE, Int.reduceLT, Int.reduceEq, extractV, mkAgg, Nat.reduceLeDiff, fillA, pureVs, pureV, eqV, eqB, lenV, binV, intBin, intV, idxA, List.drop, List.take, RetP, retP, resV, resOne, snapV, snapVs, snapR, snapRs, ownSz, pickV, AO.isC, opE, opD, funV, h5, h1, h9, h10, h11, hlt, hget, podC, hp1, hp2, hw, hwk]
        refine ih (i + 1) (k + 1) hd' hi' (by omega) (by simp [sizeN, hp1, hp2] at ht; omega) _ _ _ ?_ ?_ ?_ ?_ ?_
        all_goals simp only [look_if, Nat.reduceEqDiff, if_true, if_false, h5, h1, h9, h10]
    · simp only [runL, opQ, evOp, evO, evOs, guardV, argsA, pvs, putS, cellsOf, scals, scal, Nat.reduceEqDiff, Nat.reduceAdd, reduceCtorEq, fieldA, nonNil, cellsAt, mkAgg, allPV, storeB, patchL, Int.reduceToNat, Nat.reduceMul, Nat.reduceLT, stepA, Int.reduceNeg, Int.reduceLE, Int.reduceLT, Int.reduceEq, extractV, mkAgg, Nat.reduceLeDiff, fillA, pureVs, pureV, eqV, eqB, lenV, binV, intBin, intV, idxA, List.drop, List.take, RetP, retP, resV, resOne, snapV, snapVs, snapR, snapRs, ownSz, pickV, AO.isC, opE, opD, funV, h5, h1, h9, h10, h11, hlt, hget, podC, hp1, hw]
      refine ih (i + 1) k hd' hi' (by omega) (by simpa [sizeN, hp1] using ht) _ _ _ ?_ ?_ ?_ ?_ ?_
      all_goals simp only [look_if, Nat.reduceEqDiff, if_true, if_false, h5, h1, h9, h10]
theorem size_ok (h71 : Std T 71 f71) (t : State) (load : Int) (h : t.pods.length ≤ 2 ^ 30) : Gives T 71 [stateP t, .int .i64 load] (.int .i64 (sizeN load t.pods)) := by
  refine gives h71 rfl ?_
  simp only [f71, runL, opQ, evOp, evO, evOs, guardV, argsA, pvs, putS, cellsOf, scals, scal, Nat.reduceEqDiff, Nat.reduceAdd, reduceCtorEq, fieldA, nonNil, cellsAt, mkAgg, allPV, storeB, patchL, Int.reduceToNat, Nat.reduceMul, Nat.reduceLT, stepA, Int.reduceNeg, Int.reduceLE, Int.reduceLT, Int.reduceEq, extractV, mkAgg, Nat.reduceLeDiff, fillA, pureVs, pureV, eqV, eqB, lenV, binV, intBin, intV, idxA, List.drop, List.take, RetP, retP, resV, resOne, snapV, snapVs, snapR, snapRs, ownSz, pickV, AO.isC, opE, opD, funV, stateP]
  refine size_loop load t.pods h _ (sizeN load t.pods) (fun fr hp nx h5 => ?_) t.pods 0 0 rfl (Nat.zero_le _) (Nat.le_refl _) (Nat.zero_add _) _ _ _ rfl rfl rfl rfl rfl
  simp only [runL, opQ, evOp, evO, evOs, guardV, argsA, pvs, putS, cellsOf, scals, scal, Nat.reduceEqDiff, Nat.reduceAdd, reduceCtorEq, fieldA, nonNil, cellsAt, mkAgg, allPV, storeB, patchL, Int.reduceToNat, Nat.reduceMul, Nat.reduceLT, stepA, Int.reduceNeg, Int.reduceLE, Int.reduceLT, Int.reduceEq, extractV, mkAgg, Nat.reduceLeDiff, fillA, pureVs, pureV, eqV, eqB, lenV, binV, intBin, intV, idxA, List.drop, List.take, RetP, retP, resV, resOne, snapV, snapVs, snapR, snapRs, ownSz, pickV, AO.isC, opE, opD, funV, h5]

theorem size2_loop (load : Int) (t : State) (hl : t.pods.length ≤ 2 ^ 30) (Q : Exit → St → Prop) (total : Nat) (hQ : ∀ fr hp nx, look fr 5 = .pv (.int .i64 total) → Q (.exit 0) ⟨fr, hp, nx⟩) :
    ∀ (rest : List Pod) (i k : Nat), t.pods.drop i = rest → i ≤ t.pods.length → k ≤ i → k + sizeN load rest = total → ∀ (fr : List (Nat × AV)) (hp : Hl) (nx : Nat), look fr 5 = .pv (.int .i64 k) → look fr 1 = .pv (.int .i64 load) →
      look fr 2 = .ptr 0 0 0 → blkAt hp 0 = .var [.pv (.slice (t.pods.map podC)), .pv (.int .i64 t.pre), .pv (.int .i64 t.shi)] → look fr 6 = .pv (.int .i64 i) → Wp T false (.loop f176l0) ⟨fr, hp, nx⟩ Q := by
  intro rest
  induction rest with
  | nil =>
    intro i k hd hi hk ht fr hp nx h5 h1 h2 b0 h6
    have hlen := drop_nil hd hi
    simp only [sizeN, Nat.add_zero] at ht
    subst ht
    rw [Wp_loop, Wp_eq f176l0.eq_1]
    simp only [runL, opQ, evOp, evO, evOs, guardV, argsA, pvs, putS, cellsOf, scals, scal, Nat.reduceEqDiff, Nat.reduceAdd, reduceCtorEq, fieldA, nonNil, cellsAt, mkAgg, allPV, storeB, patchL, Int.reduceToNat, Nat.reduceMul, Nat.reduceLT, stepA, Int.reduceNeg, Int.reduceLE, Int.reduceLT, Int.reduceEq, extractV, mkAgg, Nat.reduceLeDiff, fillA, pureVs, pureV, eqV, eqB, lenV, binV, intBin, intV, idxA, List.drop, List.take, RetP, retP, resV, resOne, snapV, snapVs, snapR, snapRs, ownSz, pickV, AO.isC, opE, opD, funV, h5, h1, h2, b0, h6, hlen, Int.lt_irrefl]
    exact hQ _ _ _ (by simp only [look_if, Nat.reduceEqDiff, if_false, h5])
  | cons p r ih =>
    intro i k hd hi hk ht fr hp nx h5 h1 h2 b0 h6
    obtain ⟨hget, hlt, hw, hd', hi', hb⟩ := drop_cons hd hl
    have hwk : IntKind.i64.wrap ((k : Int) + 1) = ((k + 1 : Nat) : Int) := by rw [wrap6] <;> omega
    rw [Wp_loop, Wp_eq f176l0.eq_1]
    by_cases hp1 : p.load = load
    · by_cases hp2 : p.node = 0
      · simp only [runL, opQ, evOp, evO, evOs, guardV, argsA, pvs, putS, cellsOf, scals, scal, Nat.reduceEqDiff, Nat.reduceAdd, reduceCtorEq, fieldA, nonNil, cellsAt, mkAgg, allPV, storeB, patchL, Int.reduceToNat, Nat.reduceMul, Nat.reduceLT, stepA, Int.reduceNeg, Int.reduceLE, Int.reduceLT, Int.reduceEq, extractV, mkAgg, Nat.reduceLeDiff, fillA, pureVs, pureV, eqV, eqB, lenV, binV, intBin, intV, idxA, List.drop, List.take, RetP, retP, resV, resOne, snapV, snapVs, snapR, snapRs, ownSz, pickV, AO.isC, opE, opD, funV, h5, h1, h2, b0, h6, hlt, hget, podC, hp1, hp2, hw]
        refine ih (i + 1) k hd' hi' (by omega) (by simpa [sizeN, hp2] using ht) _ _ _ ?_ ?_ ?_ b0 ?_
        all_goals simp only [look_if, Nat.reduceEqDiff, if_true, if_false, h5, h1, h2]
      · simp only [runL, opQ, evOp, evO, evOs, guardV, argsA, pvs, putS, cellsOf, scals, scal, Nat.reduceEqDiff, Nat.reduceAdd, reduceCtorEq, fieldA, nonNil, cellsAt, mkAgg, allPV, storeB, patchL, Int.reduceToNat, Nat.reduceMul, Nat.reduceLT, stepA, Int.reduceNeg, Int.reduceLE, Int.reduceLT, Int.reduceEq, extractV, mkAgg, Nat.reduceLeDiff, fillA, pureVs, pureV, eqV, eqB, lenV, binV, intBin, intV, idxA, List.drop, List.take, RetP, retP, resV, resOne, snapV, snapVs, snapR, snapRs, ownSz, pickV, AO.isC, opE, opD, funV, h5, h1, h2, b0, h6, hlt, hget, podC, hp1, hp2, hw, hwk]
        refine ih (i + 1) (k + 1) hd' hi' (by omega) (by simp [sizeN, hp1, hp2] at ht; omega) _ _ _ ?_ ?_ ?_ b0 ?_
        all_goals simp only [look_if, Nat.reduceEqDiff, if_true, if_false, h5, h1, h2]
    · simp only [runL, opQ, evOp, evO, evOs, guardV, argsA, pvs, putS, cellsOf, scals, scal, Nat.reduceEqDiff, Nat.reduceAdd, reduceCtorEq, fieldA, nonNil, cellsAt, mkAgg, allPV, storeB, patchL, Int.reduceToNat, Nat.reduceMul, Nat.reduceLT, stepA, Int.reduceNeg, Int.reduceLE, Int.reduceLT, Int.reduceEq, extractV, mkAgg, Nat.reduceLeDiff, fillA, pureVs, pureV, eqV, eqB, lenV, binV, intBin, intV, idxA, List.drop, List.take, RetP, retP, resV, resOne, snapV, snapVs, snapR, snapRs, ownSz, pickV, AO.isC, opE, opD, funV, h5, h1, h2, b0, h6, hlt, hget, podC, hp1, hw]
      refine ih (i + 1) k hd' hi' (by omega) (by simpa [sizeN, hp1] using ht) _ _ _ ?_ ?_ ?_ b0 ?_
      all_goals simp only [look_if, Nat.reduceEqDiff, if_true, if_false, h5, h1, h2]
theorem size2_ok (h176 : Std T 176 f176) (t : State) (load : Int) (h : t.pods.length ≤ 2 ^ 30) : Gives T 176 [stateP t, .int .i64 load] (.int .i64 (sizeN load t.pods)) := by
  refine gives h176 rfl ?_
  simp only [f176, runL, opQ, evOp, evO, evOs, guardV, argsA, pvs, putS, cellsOf, scals, scal, Nat.reduceEqDiff, Nat.reduceAdd, reduceCtorEq, fieldA, nonNil, cellsAt, mkAgg, allPV, storeB, patchL, Int.reduceToNat, Nat.reduceMul, Nat.reduceLT, stepA, Int.reduceNeg, Int.reduceLE, Int.reduceLT, Int.reduceEq, extractV, mkAgg, Nat.reduceLeDiff, fillA, pureVs, pureV, eqV, eqB, lenV, binV, intBin, intV, idxA, List.drop, List.take, RetP, retP, resV, resOne, snapV, snapVs, snapR, snapRs, ownSz, pickV, AO.isC, opE, opD, funV, stateP]
  refine size2_loop load t h _ (sizeN load t.pods) (fun fr hp nx h5 => ?_) t.pods 0 0 rfl (Nat.zero_le _) (Nat.le_refl _) (Nat.zero_add _) _ _ _ rfl rfl rfl rfl rfl
  simp only [runL, opQ, evOp, evO, evOs, guardV, argsA, pvs, putS, cellsOf, scals, scal, Nat.reduceEqDiff, Nat.reduceAdd, reduceCtorEq, fieldA, nonNil, cellsAt, mkAgg, allPV, storeB, patchL, Int.reduceToNat, Nat.reduceMul, Nat.reduceLT, stepA, Int.reduceNeg, Int.reduceLE, Int.reduceLT, Int.reduceEq, extractV, mkAgg, Nat.reduceLeDiff, fillA, pureVs, pureV, eqV, eqB, lenV, binV, intBin, intV, idxA, List.drop, List.take, RetP, retP, resV, resOne, snapV, snapVs, snapR, snapRs, ownSz, pickV, AO.isC, opE, opD, funV, h5]

/-- The first load at fault, from here on: the code, and the place. -/
def badLoad (pods : List Pod) : Nat → List Load → Option (Int × Int)
  | _, [] => none
  | i, l :: r => if (sizeN l.id pods : Int) < l.min then some (12, i) else if (sizeN l.id pods : Int) > l.max then some (13, i) else badLoad pods (i + 1) r

theorem check9_loop (s : Snap) (t : State) (ht : t.pods.length ≤ 2 ^ 30) (hl : s.loads.length ≤ 2 ^ 30) (h71 : Std T 71 f71) (Q : Exit → St → Prop) (o : Option (Int × Int))
    (hend : o = none → ∀ fr hp nx, Q (.exit 0) ⟨fr, hp, nx⟩)
    (hret : ∀ c i, o = some (c, i) → ∀ fr hp nx id, look fr 4 = .iface 1 (.ptr id 0 0) → blkAt hp id = .var [.pv (.int .i64 i), .pv (.int .i64 c)] → Q .ret ⟨fr, hp, nx⟩) :
    ∀ (rest : List Load) (i : Nat), s.loads.drop i = rest → i ≤ s.loads.length → badLoad t.pods i rest = o → ∀ (fr : List (Nat × AV)) (hp : Hl) (nx : Nat), 2 ≤ nx →
      look fr 3 = .ptr 1 0 0 → blkAt hp 1 = .var [.pv (.slice (t.pods.map podC)), .pv (.int .i64 t.pre), .pv (.int .i64 t.shi)] →
      look fr 9 = .pv (.slice (s.loads.map loadC)) → look fr 10 = .pv (.int .i64 s.loads.length) → look fr 11 = .pv (.int .i64 i) → Wp T false (.loop f70l0) ⟨fr, hp, nx⟩ Q := by
  intro rest
  induction rest with
  | nil =>
    intro i hd hi ho fr hp nx hn h3 b1 h9 h10 h11
    have hlen := drop_nil hd hi
    rw [Wp_loop, Wp_eq f70l0.eq_1]
    simp only [runL, opQ, evOp, evO, evOs, guardV, argsA, pvs, putS, cellsOf, scals, scal, Nat.reduceEqDiff, Nat.reduceAdd, reduceCtorEq, fieldA, nonNil, cellsAt, mkAgg, allPV, storeB, patchL, Int.reduceToNat, Nat.reduceMul, Nat.reduceLT, stepA, Int.reduceNeg, Int.reduceLE, Int.reduceLT, Int.reduceEq, extractV, mkAgg, Nat.reduceLeDiff, fillA, pureVs, pureV, eqV, eqB, lenV, binV, intBin, intV, idxA, List.drop, List.take, RetP, retP, resV, resOne, snapV, snapVs, snapR, snapRs, ownSz, pickV, AO.isC, opE, opD, funV, h3, h9, h10, h11, hlen, Int.lt_irrefl]
    exact hend ho.symm _ _ _
  | cons l r ih =>
    intro i hd hi ho fr hp nx hn h3 b1 h9 h10 h11
    obtain ⟨hget, hlt, hw, hd', hi', hb⟩ := drop_cons hd hl
    have n1 : ¬ nx = 1 := by omega
    have k := size_ok h71 t l.id ht
    rw [Wp_loop, Wp_eq f70l0.eq_1]
    simp only [badLoad] at ho
    by_cases c1 : (sizeN l.id t.pods : Int) < l.min
    · rw [if_pos c1] at ho
      simp only [runL, opQ, evOp, evO, evOs, guardV, argsA, pvs, putS, cellsOf, scals, scal, Nat.reduceEqDiff, Nat.reduceAdd, reduceCtorEq, fieldA, nonNil, cellsAt, mkAgg, allPV, storeB, patchL, Int.reduceToNat, Nat.reduceMul, Nat.reduceLT, stepA, Int.reduceNeg, Int.reduceLE, Int.reduceLT, Int.reduceEq, extractV, mkAgg, Nat.reduceLeDiff, fillA, pureVs, pureV, eqV, eqB, lenV, binV, intBin, intV, idxA, List.drop, List.take, RetP, retP, resV, resOne, snapV, snapVs, snapR, snapRs, ownSz, pickV, AO.isC, opE, opD, funV, h3, b1, h9, h10, h11, hlt, hget, loadC, n1, k.call, stateP, c1]
      refine hret 12 i ho.symm _ _ _ (nx + 1) ?_ ?_
      · simp only [look_if, Nat.reduceEqDiff, if_true, if_false]
      · simp only [blkAt_if, if_true]
    · rw [if_neg c1] at ho
      by_cases c2 : (sizeN l.id t.pods : Int) > l.max
      · rw [if_pos c2] at ho
        have c2' : l.max < (sizeN l.id t.pods : Int) := c2
        simp only [runL, opQ, evOp, evO, evOs, guardV, argsA, pvs, putS, cellsOf, scals, scal, Nat.reduceEqDiff, Nat.reduceAdd, reduceCtorEq, fieldA, nonNil, cellsAt, mkAgg, allPV, storeB, patchL, Int.reduceToNat, Nat.reduceMul, Nat.reduceLT, stepA, Int.reduceNeg, Int.reduceLE, Int.reduceLT, Int.reduceEq, extractV, mkAgg, Nat.reduceLeDiff, fillA, pureVs, pureV, eqV, eqB, lenV, binV, intBin, intV, idxA, List.drop, List.take, RetP, retP, resV, resOne, snapV, snapVs, snapR, snapRs, ownSz, pickV, AO.isC, opE, opD, funV, h3, b1, h9, h10, h11, hlt, hget, loadC, n1, k.call, stateP, c1, c2']
        refine hret 13 i ho.symm _ _ _ (nx + 1) ?_ ?_
        · simp only [look_if, Nat.reduceEqDiff, if_true, if_false]
        · simp only [blkAt_if, if_true]
      · rw [if_neg c2] at ho
        have c2' : ¬ l.max < (sizeN l.id t.pods : Int) := c2
        simp only [runL, opQ, evOp, evO, evOs, guardV, argsA, pvs, putS, cellsOf, scals, scal, Nat.reduceEqDiff, Nat.reduceAdd, reduceCtorEq, fieldA, nonNil, cellsAt, mkAgg, allPV, storeB, patchL, Int.reduceToNat, Nat.reduceMul, Nat.reduceLT, stepA, Int.reduceNeg, Int.reduceLE, Int.reduceLT, Int.reduceEq, extractV, mkAgg, Nat.reduceLeDiff, fillA, pureVs, pureV, eqV, eqB, lenV, binV, intBin, intV, idxA, List.drop, List.take, RetP, retP, resV, resOne, snapV, snapVs, snapR, snapRs, ownSz, pickV, AO.isC, opE, opD, funV, h3, b1, h9, h10, h11, hlt, hget, loadC, n1, k.call, stateP, c1, c2', hw]
        refine ih (i + 1) hd' hi' ho _ _ _ (by omega) ?_ ?_ ?_ ?_ ?_
        all_goals simp only [look_if, blkAt_if, Nat.reduceEqDiff, if_true, if_false, h3, b1, h9, h10, n1]
/-- An error, or none. -/
def errO : Option (Int × Int) → PV
  | none => .nili
  | some (c, i) => spotE i c
theorem check9_ok (h70 : Std T 70 f70) (h71 : Std T 71 f71) (s : Snap) (t : State) (ht : t.pods.length ≤ 2 ^ 30) (hl : s.loads.length ≤ 2 ^ 30) : Gives T 70 [snapP s, stateP t] (errO (badLoad t.pods 0 s.loads)) := by
  refine gives h70 rfl ?_
  simp only [f70, runL, opQ, evOp, evO, evOs, guardV, argsA, pvs, putS, cellsOf, scals, scal, Nat.reduceEqDiff, Nat.reduceAdd, reduceCtorEq, fieldA, nonNil, cellsAt, mkAgg, allPV, storeB, patchL, Int.reduceToNat, Nat.reduceMul, Nat.reduceLT, stepA, Int.reduceNeg, Int.reduceLE, Int.reduceLT, Int.reduceEq, extractV, mkAgg, Nat.reduceLeDiff, fillA, pureVs, pureV, eqV, eqB, lenV, binV, intBin, intV, idxA, List.drop, List.take, RetP, retP, resV, resOne, snapV, snapVs, snapR, snapRs, ownSz, pickV, AO.isC, opE, opD, funV, snapP, stateP]
  refine check9_loop s t ht hl h71 _ (badLoad t.pods 0 s.loads) (fun ho fr hp nx => ?_) (fun c i ho fr hp nx id h4 hb => ?_) s.loads 0 rfl (Nat.zero_le _) rfl _ _ _ (Nat.le_refl _) rfl rfl rfl rfl rfl
  · simp only [runL, opQ, evOp, evO, evOs, guardV, argsA, pvs, putS, cellsOf, scals, scal, Nat.reduceEqDiff, Nat.reduceAdd, reduceCtorEq, fieldA, nonNil, cellsAt, mkAgg, allPV, storeB, patchL, Int.reduceToNat, Nat.reduceMul, Nat.reduceLT, stepA, Int.reduceNeg, Int.reduceLE, Int.reduceLT, Int.reduceEq, extractV, mkAgg, Nat.reduceLeDiff, fillA, pureVs, pureV, eqV, eqB, lenV, binV, intBin, intV, idxA, List.drop, List.take, RetP, retP, resV, resOne, snapV, snapVs, snapR, snapRs, ownSz, pickV, AO.isC, opE, opD, funV, ho, errO]
  · simp only [runL, opQ, evOp, evO, evOs, guardV, argsA, pvs, putS, cellsOf, scals, scal, Nat.reduceEqDiff, Nat.reduceAdd, reduceCtorEq, fieldA, nonNil, cellsAt, mkAgg, allPV, storeB, patchL, Int.reduceToNat, Nat.reduceMul, Nat.reduceLT, stepA, Int.reduceNeg, Int.reduceLE, Int.reduceLT, Int.reduceEq, extractV, mkAgg, Nat.reduceLeDiff, fillA, pureVs, pureV, eqV, eqB, lenV, binV, intBin, intV, idxA, List.drop, List.take, RetP, retP, resV, resOne, snapV, snapVs, snapR, snapRs, ownSz, pickV, AO.isC, opE, opD, funV, ho, errO, h4, hb, spotE]

/-- The document's answer: a code, and a place. -/
def badO : Option (Int × Int) → PV
  | none => .tuple [.int .i64 0, .int .i64 (-1)]
  | some (c, i) => .tuple [.int .i64 c, .int .i64 i]
theorem check9b_loop (s : Snap) (t : State) (ht : t.pods.length ≤ 2 ^ 30) (hl : s.loads.length ≤ 2 ^ 30) (h176 : Std T 176 f176) (Q : Exit → St → Prop) (o : Option (Int × Int))
    (hend : o = none → ∀ fr hp nx, Q (.exit 0) ⟨fr, hp, nx⟩)
    (hret : ∀ c i, o = some (c, i) → ∀ fr hp nx, look fr 4 = .pv (.int .i64 c) → look fr 5 = .pv (.int .i64 i) → Q .ret ⟨fr, hp, nx⟩) :
    ∀ (rest : List Load) (i : Nat), s.loads.drop i = rest → i ≤ s.loads.length → badLoad t.pods i rest = o → ∀ (fr : List (Nat × AV)) (hp : Hl) (nx : Nat),
      look fr 2 = .ptr 0 0 0 → blkAt hp 0 = .var [.pv (.slice (s.nodes.map nodeC)), .pv (.slice (s.loads.map loadC)), .pv (.slice (s.pods.map podC))] →
      look fr 3 = .ptr 1 0 0 → blkAt hp 1 = .var [.pv (.slice (t.pods.map podC)), .pv (.int .i64 t.pre), .pv (.int .i64 t.shi)] →
      look fr 6 = .pv (.int .i64 i) → Wp T false (.loop f173l0) ⟨fr, hp, nx⟩ Q := by
  intro rest
  induction rest with
  | nil =>
    intro i hd hi ho fr hp nx h2 b0 h3 b1 h6
    have hlen := drop_nil hd hi
    rw [Wp_loop, Wp_eq f173l0.eq_1]
    simp only [runL, opQ, evOp, evO, evOs, guardV, argsA, pvs, putS, cellsOf, scals, scal, Nat.reduceEqDiff, Nat.reduceAdd, reduceCtorEq, fieldA, nonNil, cellsAt, mkAgg, allPV, storeB, patchL, Int.reduceToNat, Nat.reduceMul, Nat.reduceLT, stepA, Int.reduceNeg, Int.reduceLE, Int.reduceLT, Int.reduceEq, extractV, mkAgg, Nat.reduceLeDiff, fillA, pureVs, pureV, eqV, eqB, lenV, binV, intBin, intV, idxA, List.drop, List.take, RetP, retP, resV, resOne, snapV, snapVs, snapR, snapRs, ownSz, pickV, AO.isC, opE, opD, funV, h2, h3, b0, h6, hlen, Int.lt_irrefl]
    exact hend ho.symm _ _ _
  | cons l r ih =>
    intro i hd hi ho fr hp nx h2 b0 h3 b1 h6
    obtain ⟨hget, hlt, hw, hd', hi', hb⟩ := drop_cons hd hl
    have k := size2_ok h176 t l.id ht
    rw [Wp_loop, Wp_eq f173l0.eq_1]
    simp only [badLoad] at ho
    simp only [runL, opQ, evOp, evO, evOs, guardV, argsA, pvs, putS, cellsOf, scals, scal, Nat.reduceEqDiff, Nat.reduceAdd, reduceCtorEq, fieldA, nonNil, cellsAt, mkAgg, allPV, storeB, patchL, Int.reduceToNat, Nat.reduceMul, Nat.reduceLT, stepA, Int.reduceNeg, Int.reduceLE, Int.reduceLT, Int.reduceEq, extractV, mkAgg, Nat.reduceLeDiff, fillA, pureVs, pureV, eqV, eqB, lenV, binV, intBin, intV, idxA, List.drop, List.take, RetP, retP, resV, resOne, snapV, snapVs, snapR, snapRs, ownSz, pickV, AO.isC, opE, opD, funV, h2, h3, b0, h6, hlt]
    refine (Wp_calm rfl).2 ?_
    by_cases c1 : (sizeN l.id t.pods : Int) < l.min
    · rw [if_pos c1] at ho
      simp only [runL, opQ, evOp, evO, evOs, guardV, argsA, pvs, putS, cellsOf, scals, scal, Nat.reduceEqDiff, Nat.reduceAdd, reduceCtorEq, fieldA, nonNil, cellsAt, mkAgg, allPV, storeB, patchL, Int.reduceToNat, Nat.reduceMul, Nat.reduceLT, stepA, Int.reduceNeg, Int.reduceLE, Int.reduceLT, Int.reduceEq, extractV, mkAgg, Nat.reduceLeDiff, fillA, pureVs, pureV, eqV, eqB, lenV, binV, intBin, intV, idxA, List.drop, List.take, RetP, retP, resV, resOne, snapV, snapVs, snapR, snapRs, ownSz, pickV, AO.isC, opE, opD, funV, h2, h3, b0, b1, h6, hget, loadC, k.callD, stateP, c1]
      refine hret 12 i ho.symm _ _ _ ?_ ?_
      all_goals simp only [look_if, Nat.reduceEqDiff, if_true, if_false]
    · rw [if_neg c1] at ho
      by_cases c2 : (sizeN l.id t.pods : Int) > l.max
      · rw [if_pos c2] at ho
        have c2' : l.max < (sizeN l.id t.pods : Int) := c2
        simp only [runL, opQ, evOp, evO, evOs, guardV, argsA, pvs, putS, cellsOf, scals, scal, Nat.reduceEqDiff, Nat.reduceAdd, reduceCtorEq, fieldA, nonNil, cellsAt, mkAgg, allPV, storeB, patchL, Int.reduceToNat, Nat.reduceMul, Nat.reduceLT, stepA, Int.reduceNeg, Int.reduceLE, Int.reduceLT, Int.reduceEq, extractV, mkAgg, Nat.reduceLeDiff, fillA, pureVs, pureV, eqV, eqB, lenV, binV, intBin, intV, idxA, List.drop, List.take, RetP, retP, resV, resOne, snapV, snapVs, snapR, snapRs, ownSz, pickV, AO.isC, opE, opD, funV, h2, h3, b0, b1, h6, hget, loadC, k.callD, stateP, c1, c2']
        refine hret 13 i ho.symm _ _ _ ?_ ?_
        all_goals simp only [look_if, Nat.reduceEqDiff, if_true, if_false]
      · rw [if_neg c2] at ho
        have c2' : ¬ l.max < (sizeN l.id t.pods : Int) := c2
        simp only [runL, opQ, evOp, evO, evOs, guardV, argsA, pvs, putS, cellsOf, scals, scal, Nat.reduceEqDiff, Nat.reduceAdd, reduceCtorEq, fieldA, nonNil, cellsAt, mkAgg, allPV, storeB, patchL, Int.reduceToNat, Nat.reduceMul, Nat.reduceLT, stepA, Int.reduceNeg, Int.reduceLE, Int.reduceLT, Int.reduceEq, extractV, mkAgg, Nat.reduceLeDiff, fillA, pureVs, pureV, eqV, eqB, lenV, binV, intBin, intV, idxA, List.drop, List.take, RetP, retP, resV, resOne, snapV, snapVs, snapR, snapRs, ownSz, pickV, AO.isC, opE, opD, funV, h2, h3, b0, b1, h6, hget, loadC, k.callD, stateP, c1, c2', hw]
        refine ih (i + 1) hd' hi' ho _ _ _ ?_ b0 ?_ b1 ?_
        all_goals simp only [look_if, Nat.reduceEqDiff, if_true, if_false, h2, h3]
theorem check9b_ok (h173 : Std T 173 f173) (h176 : Std T 176 f176) (s : Snap) (t : State) (ht : t.pods.length ≤ 2 ^ 30) (hl : s.loads.length ≤ 2 ^ 30) : Gives T 173 [snapP s, stateP t] (badO (badLoad t.pods 0 s.loads)) := by
  refine gives h173 rfl ?_
  simp only [f173, runL, opQ, evOp, evO, evOs, guardV, argsA, pvs, putS, cellsOf, scals, scal, Nat.reduceEqDiff, Nat.reduceAdd, reduceCtorEq, fieldA, nonNil, cellsAt, mkAgg, allPV, storeB, patchL, Int.reduceToNat, Nat.reduceMul, Nat.reduceLT, stepA, Int.reduceNeg, Int.reduceLE, Int.reduceLT, Int.reduceEq, extractV, mkAgg, Nat.reduceLeDiff, fillA, pureVs, pureV, eqV, eqB, lenV, binV, intBin, intV, idxA, List.drop, List.take, RetP, retP, resV, resOne, snapV, snapVs, snapR, snapRs, ownSz, pickV, AO.isC, opE, opD, funV, snapP, stateP]
  refine check9b_loop s t ht hl h176 _ (badLoad t.pods 0 s.loads) (fun ho fr hp nx => ?_) (fun c i ho fr hp nx h4 h5 => ?_) s.loads 0 rfl (Nat.zero_le _) rfl _ _ _ rfl rfl rfl rfl rfl
  · simp only [runL, opQ, evOp, evO, evOs, guardV, argsA, pvs, putS, cellsOf, scals, scal, Nat.reduceEqDiff, Nat.reduceAdd, reduceCtorEq, fieldA, nonNil, cellsAt, mkAgg, allPV, storeB, patchL, Int.reduceToNat, Nat.reduceMul, Nat.reduceLT, stepA, Int.reduceNeg, Int.reduceLE, Int.reduceLT, Int.reduceEq, extractV, mkAgg, Nat.reduceLeDiff, fillA, pureVs, pureV, eqV, eqB, lenV, binV, intBin, intV, idxA, List.drop, List.take, RetP, retP, resV, resOne, snapV, snapVs, snapR, snapRs, ownSz, pickV, AO.isC, opE, opD, funV, ho, badO]
  · simp only [runL, opQ, evOp, evO, evOs, guardV, argsA, pvs, putS, cellsOf, scals, scal, Nat.reduceEqDiff, Nat.reduceAdd, reduceCtorEq, fieldA, nonNil, cellsAt, mkAgg, allPV, storeB, patchL, Int.reduceToNat, Nat.reduceMul, Nat.reduceLT, stepA, Int.reduceNeg, Int.reduceLE, Int.reduceLT, Int.reduceEq, extractV, mkAgg, Nat.reduceLeDiff, fillA, pureVs, pureV, eqV, eqB, lenV, binV, intBin, intV, idxA, List.drop, List.take, RetP, retP, resV, resOne, snapV, snapVs, snapR, snapRs, ownSz, pickV, AO.isC, opE, opD, funV, ho, badO, h4, h5]

def usedB (x : Spec) (t : State) : Bool := decide (t.pre > x.pre) || decide (t.shi > x.shi)
theorem used9_ok (h72 : Std T 72 f72) (x : Spec) (t : State) : Gives T 72 [specP x, stateP t] (cond (usedB x t) (codeE 15) .nili) := by
  refine gives h72 rfl ?_
  unfold usedB
  by_cases c1 : x.pre < t.pre <;> by_cases c2 : x.shi < t.shi <;>
    simp only [f72, runL, opQ, evOp, evO, evOs, guardV, argsA, pvs, putS, cellsOf, scals, scal, Nat.reduceEqDiff, Nat.reduceAdd, reduceCtorEq, fieldA, nonNil, cellsAt, mkAgg, allPV, storeB, patchL, Int.reduceToNat, Nat.reduceMul, Nat.reduceLT, stepA, Int.reduceNeg, Int.reduceLE, Int.reduceLT, Int.reduceEq, extractV, mkAgg, Nat.reduceLeDiff, fillA, pureVs, pureV, eqV, eqB, lenV, binV, intBin, intV, idxA, List.drop, List.take, RetP, retP, resV, resOne, snapV, snapVs, snapR, snapRs, ownSz, pickV, AO.isC, opE, opD, funV, specP, stateP, c1, c2, codeE, Bool.true_or, Bool.or_true, Bool.or_false, Bool.false_or]
theorem used9b_ok (h179 : Std T 179 f179) (x : Spec) (t : State) : Gives T 179 [specP x, stateP t] (.bool (usedB x t)) := by
  refine gives h179 rfl ?_
  unfold usedB
  by_cases c1 : x.pre < t.pre <;> by_cases c2 : x.shi < t.shi <;>
    simp only [f179, runL, opQ, evOp, evO, evOs, guardV, argsA, pvs, putS, cellsOf, scals, scal, Nat.reduceEqDiff, Nat.reduceAdd, reduceCtorEq, fieldA, nonNil, cellsAt, mkAgg, allPV, storeB, patchL, Int.reduceToNat, Nat.reduceMul, Nat.reduceLT, stepA, Int.reduceNeg, Int.reduceLE, Int.reduceLT, Int.reduceEq, extractV, mkAgg, Nat.reduceLeDiff, fillA, pureVs, pureV, eqV, eqB, lenV, binV, intBin, intV, idxA, List.drop, List.take, RetP, retP, resV, resOne, snapV, snapVs, snapR, snapRs, ownSz, pickV, AO.isC, opE, opD, funV, specP, stateP, c1, c2, Bool.true_or, Bool.or_true, Bool.or_false, Bool.false_or]

/-! ### The laws' own helpers -/
theorem code_nil (h102 : Std T 102 f102) : Gives T 102 [.nili] (.int .i64 0) := by
  refine gives h102 rfl ?_
  simp only [f102, runL, opQ, evOp, evO, evOs, guardV, argsA, pvs, putS, cellsOf, scals, scal, Nat.reduceEqDiff, Nat.reduceAdd, reduceCtorEq, fieldA, nonNil, cellsAt, mkAgg, allPV, storeB, patchL, Int.reduceToNat, Nat.reduceMul, Nat.reduceLT, stepA, Int.reduceNeg, Int.reduceLE, Int.reduceLT, Int.reduceEq, extractV, mkAgg, Nat.reduceLeDiff, fillA, pureVs, pureV, eqV, eqB, lenV, binV, intBin, intV, idxA, List.drop, List.take, RetP, retP, resV, resOne, snapV, snapVs, snapR, snapRs, ownSz, pickV, AO.isC, opE, opD, funV, AO.isC, Bool.or_true]
def bad1 : Option (Int × Int) → Int
  | none => 0
  | some (c, _) => c
def bad2 : Option (Int × Int) → Int
  | none => -1
  | some (_, i) => i
/-- Told, of what is told with a place. -/
theorem told_ok (h105 : Std T 105 f105) (h102 : Std T 102 f102) (h103 : StdP T 103 isP) (o : Option (Int × Int)) (h : ∀ c i, o = some (c, i) → 0 ≤ i) :
    Gives T 105 [errO o, .int .i64 (bad1 o), .int .i64 (bad2 o)] (.bool true) := by
  refine gives h105 rfl ?_
  cases o with
  | none => simp only [f105, runL, opQ, evOp, evO, evOs, guardV, argsA, pvs, putS, cellsOf, scals, scal, Nat.reduceEqDiff, Nat.reduceAdd, reduceCtorEq, fieldA, nonNil, cellsAt, mkAgg, allPV, storeB, patchL, Int.reduceToNat, Nat.reduceMul, Nat.reduceLT, stepA, Int.reduceNeg, Int.reduceLE, Int.reduceLT, Int.reduceEq, extractV, mkAgg, Nat.reduceLeDiff, fillA, pureVs, pureV, eqV, eqB, lenV, binV, intBin, intV, idxA, List.drop, List.take, RetP, retP, resV, resOne, snapV, snapVs, snapR, snapRs, ownSz, pickV, AO.isC, opE, opD, funV, errO, bad1, bad2, (code_nil h102).call]
  | some q =>
    obtain ⟨c, i⟩ := q
    have hi : ¬ i < 0 := by have := h c i rfl; omega
    have k := is_ok h103 (e := spotE i c) (x := i) (y := c) (b := true) (by simp [isV, spotE])
    simp only [f105, runL, opQ, evOp, evO, evOs, guardV, argsA, pvs, putS, cellsOf, scals, scal, Nat.reduceEqDiff, Nat.reduceAdd, reduceCtorEq, fieldA, nonNil, cellsAt, mkAgg, allPV, storeB, patchL, Int.reduceToNat, Nat.reduceMul, Nat.reduceLT, stepA, Int.reduceNeg, Int.reduceLE, Int.reduceLT, Int.reduceEq, extractV, mkAgg, Nat.reduceLeDiff, fillA, pureVs, pureV, eqV, eqB, lenV, binV, intBin, intV, idxA, List.drop, List.take, RetP, retP, resV, resOne, snapV, snapVs, snapR, snapRs, ownSz, pickV, AO.isC, opE, opD, funV, errO, bad1, bad2, spotE, hi]
    simp only [spotE] at k
    simp only [runL, opQ, evOp, evO, evOs, guardV, argsA, pvs, putS, cellsOf, scals, scal, Nat.reduceEqDiff, Nat.reduceAdd, reduceCtorEq, fieldA, nonNil, cellsAt, mkAgg, allPV, storeB, patchL, Int.reduceToNat, Nat.reduceMul, Nat.reduceLT, stepA, Int.reduceNeg, Int.reduceLE, Int.reduceLT, Int.reduceEq, extractV, mkAgg, Nat.reduceLeDiff, fillA, pureVs, pureV, eqV, eqB, lenV, binV, intBin, intV, idxA, List.drop, List.take, RetP, retP, resV, resOne, snapV, snapVs, snapR, snapRs, ownSz, pickV, AO.isC, opE, opD, funV, k.call]
end
end Go.Proofs.YtmeigdjfcecidaaDoor.Ab
/- Layer 5: contracts of state. -/
set_option linter.unusedVariables false
set_option linter.unusedSimpArgs false
namespace Go.Proofs.YtmeigdjfcecidaaDoor.Ab
open Go

section
variable {T : Tab}

/-- The first one's place, from here on. -/
def findFrom (P : List PV → Bool) : Nat → List (List PV) → Int
  | _, [] => -1
  | i, e :: r => if P e = true then i else findFrom P (i + 1) r

theorem index_ok {n : Nat} {cs : List PV} (P : List PV → Bool) (h287 : Std T 287 f287) (es : List (List PV)) (h : es.length ≤ 2 ^ 30) (hl : ∀ e ∈ es, e.length = 8) (hP : ∀ e ∈ es, Gives T n (.agg e :: cs) (.bool (P e))) :
    Gives T 287 [.slice es, .func n [] cs] (.int .i64 (findFrom P 0 es)) := by
  refine gives h287 rfl ?_
  simp only [f287, runL, opQ, evOp, evO, evOs, guardV, argsA, pvs, putS, cellsOf, scals, scal, Nat.reduceEqDiff, Nat.reduceAdd, reduceCtorEq, fieldA, nonNil, cellsAt, mkAgg, allPV, storeB, patchL, Int.reduceToNat, Nat.reduceMul, Nat.reduceLT, stepA, Int.reduceNeg, Int.reduceLE, Int.reduceLT, Int.reduceEq, extractV, mkAgg, Nat.reduceLeDiff, fillA, pureVs, pureV, eqV, eqB, lenV, binV, intBin, intV, idxA, List.drop, List.take, RetP, retP, resV, resOne, snapV, snapVs, snapR, snapRs, ownSz, pickV, AO.isC, opE, opD, funV]
  have loop : ∀ (rest : List (List PV)) (i : Nat) (fr : List (Nat × AV)), es.drop i = rest → i ≤ es.length → look fr 8 = .pv (.int .i64 i) → look fr 7 = .pv (.int .i64 es.length) → look fr 0 = .pv (.slice es) → look fr 1 = .pv (.func n [] cs) →
      Wp T false (.loop f287l0) ⟨fr, [], 0⟩
        (blkQ 0 (seqQ T false (.seq (.ops [⟨some 4, .mv (.c (.pv (.int .i64 (-1)))), none, []⟩]) .ret) (RetP [.t 4] (.int .i64 (findFrom P i rest))))) := by
    intro rest
    induction rest with
    | nil =>
      intro i fr hd hi h8 h7 h0 h1
      have hlen : es.length = i := by
        have := congrArg List.length hd
        simp at this
        omega
      rw [Wp_loop, Wp_eq f287l0.eq_1]
      simp only [runL, opQ, evOp, evO, evOs, guardV, argsA, pvs, putS, cellsOf, scals, scal, Nat.reduceEqDiff, Nat.reduceAdd, reduceCtorEq, fieldA, nonNil, cellsAt, mkAgg, allPV, storeB, patchL, Int.reduceToNat, Nat.reduceMul, Nat.reduceLT, stepA, Int.reduceNeg, Int.reduceLE, Int.reduceLT, Int.reduceEq, extractV, mkAgg, Nat.reduceLeDiff, fillA, pureVs, pureV, eqV, eqB, lenV, binV, intBin, intV, idxA, List.drop, List.take, RetP, retP, resV, resOne, snapV, snapVs, snapR, snapRs, ownSz, pickV, AO.isC, opE, opD, funV, h8, h7, h0, h1, hlen, Int.lt_irrefl, findFrom]
    | cons e r ih =>
      intro i fr hd hi h8 h7 h0 h1
      have hget : es[i]? = some e := by
        have := congrArg (·[0]?) hd
        simpa using this
      have hmem : e ∈ es := List.mem_of_getElem? hget
      have hlt : i < es.length := (List.getElem?_eq_some_iff.1 hget).1
      have hlt' : (i : Int) < (es.length : Int) := by omega
      have hw : IntKind.i64.wrap ((i : Int) + 1) = ((i + 1 : Nat) : Int) := by rw [wrap6] <;> omega
      have hc : pureVs (.pv (.agg e) :: pvs cs) = some (.agg e :: cs) := by
        have : pureVs (pvs (.agg e :: cs)) = some (.agg e :: cs) := pureVs_pvs _
        exact this
      rw [Wp_loop, Wp_eq f287l0.eq_1]
      simp only [runL, opQ, evOp, evO, evOs, guardV, argsA, pvs, putS, cellsOf, scals, scal, Nat.reduceEqDiff, Nat.reduceAdd, reduceCtorEq, fieldA, nonNil, cellsAt, mkAgg, allPV, storeB, patchL, Int.reduceToNat, Nat.reduceMul, Nat.reduceLT, stepA, Int.reduceNeg, Int.reduceLE, Int.reduceLT, Int.reduceEq, extractV, mkAgg, Nat.reduceLeDiff, fillA, pureVs, pureV, eqV, eqB, lenV, binV, intBin, intV, idxA, List.drop, List.take, RetP, retP, resV, resOne, snapV, snapVs, snapR, snapRs, ownSz, pickV, AO.isC, opE, opD, funV, h8, h7, h0, h1, hlt', hget, hl e hmem, funV, funQ_some, List.append_nil]
      rw [(hP e hmem).call _ _ _ _ _ (by simp only [hc])]
      cases hp : P e
      · simp only [runL, opQ, evOp, evO, evOs, guardV, argsA, pvs, putS, cellsOf, scals, scal, Nat.reduceEqDiff, Nat.reduceAdd, reduceCtorEq, fieldA, nonNil, cellsAt, mkAgg, allPV, storeB, patchL, Int.reduceToNat, Nat.reduceMul, Nat.reduceLT, stepA, Int.reduceNeg, Int.reduceLE, Int.reduceLT, Int.reduceEq, extractV, mkAgg, Nat.reduceLeDiff, fillA, pureVs, pureV, eqV, eqB, lenV, binV, intBin, intV, idxA, List.drop, List.take, RetP, retP, resV, resOne, snapV, snapVs, snapR, snapRs, ownSz, pickV, AO.isC, opE, opD, funV, h8, h7, h0, h1, hw, findFrom, hp]
        refine ih (i + 1) _ ?_ (by omega) ?_ ?_ ?_ ?_
        · rw [← List.drop_drop, hd]; rfl
        all_goals simp only [look_if, Nat.reduceEqDiff, if_true, if_false, h7, h0, h1]
      · simp only [runL, opQ, evOp, evO, evOs, guardV, argsA, pvs, putS, cellsOf, scals, scal, Nat.reduceEqDiff, Nat.reduceAdd, reduceCtorEq, fieldA, nonNil, cellsAt, mkAgg, allPV, storeB, patchL, Int.reduceToNat, Nat.reduceMul, Nat.reduceLT, stepA, Int.reduceNeg, Int.reduceLE, Int.reduceLT, Int.reduceEq, extractV, mkAgg, Nat.reduceLeDiff, fillA, pureVs, pureV, eqV, eqB, lenV, binV, intBin, intV, idxA, List.drop, List.take, RetP, retP, resV, resOne, snapV, snapVs, snapR, snapRs, ownSz, pickV, AO.isC, opE, opD, funV, h8, h7, h0, h1, hw, findFrom, hp]
  exact loop es 0 _ rfl (Nat.zero_le _) rfl rfl rfl rfl

theorem place1_ok (h245 : Std T 245 f245) (p : Pod) (id : Int) : Gives T 245 [podP p, .cptr [.int .i64 id] 0] (.bool (decide (p.id = id))) := by
  refine gives h245 rfl ?_
  simp only [f245, runL, opQ, evOp, evO, evOs, guardV, argsA, pvs, putS, cellsOf, scals, scal, Nat.reduceEqDiff, Nat.reduceAdd, reduceCtorEq, fieldA, nonNil, cellsAt, mkAgg, allPV, storeB, patchL, Int.reduceToNat, Nat.reduceMul, Nat.reduceLT, stepA, Int.reduceNeg, Int.reduceLE, Int.reduceLT, Int.reduceEq, extractV, mkAgg, Nat.reduceLeDiff, fillA, pureVs, pureV, eqV, eqB, lenV, binV, intBin, intV, idxA, List.drop, List.take, RetP, retP, resV, resOne, snapV, snapVs, snapR, snapRs, ownSz, pickV, AO.isC, opE, opD, funV, podP, podC]

theorem findFrom_place (id : Int) : ∀ (l : List Pod) (i : Nat), findFrom (fun e => match e with | .int _ n :: _ => decide (n = id) | _ => false) i (l.map podC) = placeFrom id i l
  | [], i => rfl
  | p :: r, i => by
    simp only [List.map_cons, findFrom, podC, placeFrom, decide_eq_true_eq]
    split
    · rfl
    · exact findFrom_place id r (i + 1)

/-- What the library's IndexFunc needs. -/
structure Std5 (T : Tab) : Prop where
  h287 : Std T 287 f287
  flat287 : T.flat 287 = true
  h245 : Std T 245 f245
  h244 : Std T 244 f244

theorem place5_ok (S : Std5 T) (t : State) (id : Int) (h : t.pods.length ≤ 2 ^ 30) : Gives T 244 [stateP t, .int .i64 id] (.int .i64 (placeFrom id 0 t.pods)) := by
  refine gives S.h244 rfl ?_
  have k := index_ok (n := 245) (cs := [.cptr [.int .i64 id] 0]) (fun e => match e with | .int _ n :: _ => decide (n = id) | _ => false) S.h287 (t.pods.map podC) (by simpa using h) (fun e he => by
    obtain ⟨p, _, rfl⟩ := List.mem_map.1 he
    rfl) (fun e he => by
    obtain ⟨p, _, rfl⟩ := List.mem_map.1 he
    exact place1_ok S.h245 p id)
  rw [findFrom_place] at k
  simp only [f244, runL, opQ, evOp, evO, evOs, guardV, argsA, pvs, putS, cellsOf, scals, scal, Nat.reduceEqDiff, Nat.reduceAdd, reduceCtorEq, fieldA, nonNil, cellsAt, mkAgg, allPV, storeB, patchL, Int.reduceToNat, Nat.reduceMul, Nat.reduceLT, stepA, Int.reduceNeg, Int.reduceLE, Int.reduceLT, Int.reduceEq, extractV, mkAgg, Nat.reduceLeDiff, fillA, pureVs, pureV, eqV, eqB, lenV, binV, intBin, intV, idxA, List.drop, List.take, RetP, retP, resV, resOne, snapV, snapVs, snapR, snapRs, ownSz, pickV, AO.isC, opE, opD, funV, stateP]
  rw [k.callF S.flat287 rfl _ _ _ _ _ (eq_true rfl) (eq_true rfl)]
  simp only [runL, opQ, evOp, evO, evOs, guardV, argsA, pvs, putS, cellsOf, scals, scal, Nat.reduceEqDiff, Nat.reduceAdd, reduceCtorEq, fieldA, nonNil, cellsAt, mkAgg, allPV, storeB, patchL, Int.reduceToNat, Nat.reduceMul, Nat.reduceLT, stepA, Int.reduceNeg, Int.reduceLE, Int.reduceLT, Int.reduceEq, extractV, mkAgg, Nat.reduceLeDiff, fillA, pureVs, pureV, eqV, eqB, lenV, binV, intBin, intV, idxA, List.drop, List.take, RetP, retP, resV, resOne, snapV, snapVs, snapR, snapRs, ownSz, pickV, AO.isC, opE, opD, funV]

def podOf (id : Int) (l : List Pod) : Option Pod := l.find? (fun p => decide (p.id = id))
theorem placeFrom_cases (id : Int) : ∀ (l : List Pod) (i : Nat), (podOf id l = none ∧ placeFrom id i l = -1) ∨ ∃ j p, l[j]? = some p ∧ podOf id l = some p ∧ placeFrom id i l = ((i + j : Nat) : Int) ∧ j < l.length
  | [], i => .inl ⟨rfl, rfl⟩
  | q :: r, i => by
    by_cases h : q.id = id
    · refine .inr ⟨0, q, rfl, by simp [podOf, h], by simp [placeFrom, h], by simp⟩
    · rcases placeFrom_cases id r (i + 1) with ⟨h1, h2⟩ | ⟨j, p, h1, h2, h3, h4⟩
      · refine .inl ⟨?_, ?_⟩
        · simp only [podOf] at h1 ⊢; simp [h, h1]
        · simp only [placeFrom, h, if_false, h2]
      · refine .inr ⟨j + 1, p, by simpa using h1, ?_, ?_, by simp only [List.length_cons]; omega⟩
        · simp only [podOf] at h2 ⊢; simp [h, h2]
        · simp only [placeFrom, h, if_false, h3]; omega

def pod0 : Pod := ⟨0, 0, 0, ⟨0, 0, 0, 0⟩, 0⟩
def podR (o : Option Pod) : PV := match o with
  | some p => .tuple [podP p, .bool true]
  | none => .tuple [podP pod0, .bool false]

theorem pod5_ok (S : Std5 T) (h240 : Std T 240 f240) (t : State) (id : Int) (h : t.pods.length ≤ 2 ^ 30) : Gives T 240 [stateP t, .int .i64 id] (podR (podOf id t.pods)) := by
  refine gives h240 rfl ?_
  have k := place5_ok S t id h
  rcases placeFrom_cases id t.pods 0 with ⟨h1, h2⟩ | ⟨j, p, h1, h2, h3, h4⟩
  · rw [h2] at k
    simp only [f240, runL, opQ, evOp, evO, evOs, guardV, argsA, pvs, putS, cellsOf, scals, scal, Nat.reduceEqDiff, Nat.reduceAdd, reduceCtorEq, fieldA, nonNil, cellsAt, mkAgg, allPV, storeB, patchL, Int.reduceToNat, Nat.reduceMul, Nat.reduceLT, stepA, Int.reduceNeg, Int.reduceLE, Int.reduceLT, Int.reduceEq, extractV, mkAgg, Nat.reduceLeDiff, fillA, pureVs, pureV, eqV, eqB, lenV, binV, intBin, intV, idxA, List.drop, List.take, RetP, retP, resV, resOne, snapV, snapVs, snapR, snapRs, ownSz, pickV, AO.isC, opE, opD, funV, stateP, k.call, h1, podR, podP, pod0, podC, Int.reduceNeg, Int.reduceLT, fillA]
  · rw [h3] at k
    have hj : ¬ ((j : Int) < 0) := by omega
    simp only [f240, runL, opQ, evOp, evO, evOs, guardV, argsA, pvs, putS, cellsOf, scals, scal, Nat.reduceEqDiff, Nat.reduceAdd, reduceCtorEq, fieldA, nonNil, cellsAt, mkAgg, allPV, storeB, patchL, Int.reduceToNat, Nat.reduceMul, Nat.reduceLT, stepA, Int.reduceNeg, Int.reduceLE, Int.reduceLT, Int.reduceEq, extractV, mkAgg, Nat.reduceLeDiff, fillA, pureVs, pureV, eqV, eqB, lenV, binV, intBin, intV, idxA, List.drop, List.take, RetP, retP, resV, resOne, snapV, snapVs, snapR, snapRs, ownSz, pickV, AO.isC, opE, opD, funV, stateP, k.call, h2, podR, podP, podC, hj, h1]

/-- slices.Equal of pods. -/
theorem equal5_ok (h286 : Std T 286 f286) (a b : List Pod) (ha : a.length ≤ 2 ^ 30) : Gives T 286 [.slice (a.map podC), .slice (b.map podC)] (.bool (decide (a = b))) := by
  refine gives h286 rfl ?_
  have loop : ∀ (ra rb : List Pod) (i : Nat), a.length = b.length → a.drop i = ra → b.drop i = rb → i ≤ a.length → ∀ (fr : List (Nat × AV)), look fr 13 = .pv (.int .i64 i) → look fr 12 = .pv (.int .i64 a.length) → look fr 0 = .pv (.slice (a.map podC)) → look fr 1 = .pv (.slice (b.map podC)) →
      Wp T false (.loop f286l0) ⟨fr, [], 0⟩ (blkQ 0 (seqQ T false (.seq (.ops [⟨some 4, .mv (.c (.pv (.bool true))), none, []⟩]) .ret) (RetP [.t 4] (.bool (decide (ra = rb)))))) := by
    intro ra
    induction ra with
    | nil =>
      intro rb i hl hda hdb hi fr h5 h2 h0 h1
      have hlen : a.length = i := by
        have := congrArg List.length hda
        simp at this
        omega
      have : rb = [] := by
        rw [← hdb]
        exact List.drop_eq_nil_of_le (by omega)
      subst this
      rw [Wp_loop, Wp_eq f286l0.eq_1]
      simp only [runL, opQ, evOp, evO, evOs, guardV, argsA, pvs, putS, cellsOf, scals, scal, Nat.reduceEqDiff, Nat.reduceAdd, reduceCtorEq, fieldA, nonNil, cellsAt, mkAgg, allPV, storeB, patchL, Int.reduceToNat, Nat.reduceMul, Nat.reduceLT, stepA, Int.reduceNeg, Int.reduceLE, Int.reduceLT, Int.reduceEq, extractV, mkAgg, Nat.reduceLeDiff, fillA, pureVs, pureV, eqV, eqB, lenV, binV, intBin, intV, idxA, List.drop, List.take, RetP, retP, resV, resOne, snapV, snapVs, snapR, snapRs, ownSz, pickV, AO.isC, opE, opD, funV, h5, h2, h0, h1, hlen, Int.lt_irrefl]
    | cons p r ih =>
      intro rb i hl hda hdb hi fr h5 h2 h0 h1
      have hga : a[i]? = some p := by
        have := congrArg (·[0]?) hda
        simpa using this
      have hlt : i < a.length := (List.getElem?_eq_some_iff.1 hga).1
      have hlt' : (i : Int) < (a.length : Int) := by omega
      cases rb with
      | nil =>
        have := congrArg List.length hdb
        simp at this
        omega
      | cons q rb =>
        have hgb : b[i]? = some q := by
          have := congrArg (·[0]?) hdb
          simpa using this
        rw [Wp_loop, Wp_eq f286l0.eq_1]
        simp only [runL, opQ, evOp, evO, evOs, guardV, argsA, pvs, putS, cellsOf, scals, scal, Nat.reduceEqDiff, Nat.reduceAdd, reduceCtorEq, fieldA, nonNil, cellsAt, mkAgg, allPV, storeB, patchL, Int.reduceToNat, Nat.reduceMul, Nat.reduceLT, stepA, Int.reduceNeg, Int.reduceLE, Int.reduceLT, Int.reduceEq, extractV, mkAgg, Nat.reduceLeDiff, fillA, pureVs, pureV, eqV, eqB, lenV, binV, intBin, intV, idxA, List.drop, List.take, RetP, retP, resV, resOne, snapV, snapVs, snapR, snapRs, ownSz, pickV, AO.isC, opE, opD, funV, h5, h2, h0, h1, hlt']
        refine (Wp_calm rfl).2 ?_
        have hw : IntKind.i64.wrap ((i : Int) + 1) = ((i + 1 : Nat) : Int) := by rw [wrap6] <;> omega
        by_cases hpq : p = q
        · subst hpq
          simp only [runL, opQ, evOp, evO, evOs, guardV, argsA, pvs, putS, cellsOf, scals, scal, Nat.reduceEqDiff, Nat.reduceAdd, reduceCtorEq, fieldA, nonNil, cellsAt, mkAgg, allPV, storeB, patchL, Int.reduceToNat, Nat.reduceMul, Nat.reduceLT, stepA, Int.reduceNeg, Int.reduceLE, Int.reduceLT, Int.reduceEq, extractV, mkAgg, Nat.reduceLeDiff, fillA, pureVs, pureV, eqV, eqB, lenV, binV, intBin, intV, idxA, List.drop, List.take, RetP, retP, resV, resOne, snapV, snapVs, snapR, snapRs, ownSz, pickV, AO.isC, opE, opD, funV, h5, h2, h0, h1, hga, hgb, podC_length, eqPods, hw, List.cons.injEq]
          refine ih rb (i + 1) hl ?_ ?_ (by omega) _ ?_ ?_ ?_ ?_
          · rw [← List.drop_drop, hda]; rfl
          · rw [← List.drop_drop, hdb]; rfl
          all_goals simp only [look_if, Nat.reduceEqDiff, if_true, if_false, h2, h0, h1]
        · simp only [runL, opQ, evOp, evO, evOs, guardV, argsA, pvs, putS, cellsOf, scals, scal, Nat.reduceEqDiff, Nat.reduceAdd, reduceCtorEq, fieldA, nonNil, cellsAt, mkAgg, allPV, storeB, patchL, Int.reduceToNat, Nat.reduceMul, Nat.reduceLT, stepA, Int.reduceNeg, Int.reduceLE, Int.reduceLT, Int.reduceEq, extractV, mkAgg, Nat.reduceLeDiff, fillA, pureVs, pureV, eqV, eqB, lenV, binV, intBin, intV, idxA, List.drop, List.take, RetP, retP, resV, resOne, snapV, snapVs, snapR, snapRs, ownSz, pickV, AO.isC, opE, opD, funV, h5, h2, h0, h1, hga, hgb, podC_length, eqPods, hpq, hw, List.cons.injEq, false_and]
  simp only [f286, runL, opQ, evOp, evO, evOs, guardV, argsA, pvs, putS, cellsOf, scals, scal, Nat.reduceEqDiff, Nat.reduceAdd, reduceCtorEq, fieldA, nonNil, cellsAt, mkAgg, allPV, storeB, patchL, Int.reduceToNat, Nat.reduceMul, Nat.reduceLT, stepA, Int.reduceNeg, Int.reduceLE, Int.reduceLT, Int.reduceEq, extractV, mkAgg, Nat.reduceLeDiff, fillA, pureVs, pureV, eqV, eqB, lenV, binV, intBin, intV, idxA, List.drop, List.take, RetP, retP, resV, resOne, snapV, snapVs, snapR, snapRs, ownSz, pickV, AO.isC, opE, opD, funV]
  by_cases hl : a.length = b.length
  · simp only [runL, opQ, evOp, evO, evOs, guardV, argsA, pvs, putS, cellsOf, scals, scal, Nat.reduceEqDiff, Nat.reduceAdd, reduceCtorEq, fieldA, nonNil, cellsAt, mkAgg, allPV, storeB, patchL, Int.reduceToNat, Nat.reduceMul, Nat.reduceLT, stepA, Int.reduceNeg, Int.reduceLE, Int.reduceLT, Int.reduceEq, extractV, mkAgg, Nat.reduceLeDiff, fillA, pureVs, pureV, eqV, eqB, lenV, binV, intBin, intV, idxA, List.drop, List.take, RetP, retP, resV, resOne, snapV, snapVs, snapR, snapRs, ownSz, pickV, AO.isC, opE, opD, funV, hl]
    have := loop a b 0 hl rfl rfl (Nat.zero_le _)
    rw [hl] at this
    exact this _ rfl rfl rfl rfl
  · have hl' : ¬ a = b := fun h => hl (by rw [h])
    simp only [runL, opQ, evOp, evO, evOs, guardV, argsA, pvs, putS, cellsOf, scals, scal, Nat.reduceEqDiff, Nat.reduceAdd, reduceCtorEq, fieldA, nonNil, cellsAt, mkAgg, allPV, storeB, patchL, Int.reduceToNat, Nat.reduceMul, Nat.reduceLT, stepA, Int.reduceNeg, Int.reduceLE, Int.reduceLT, Int.reduceEq, extractV, mkAgg, Nat.reduceLeDiff, fillA, pureVs, pureV, eqV, eqB, lenV, binV, intBin, intV, idxA, List.drop, List.take, RetP, retP, resV, resOne, snapV, snapVs, snapR, snapRs, ownSz, pickV, AO.isC, opE, opD, funV, hl, hl']

theorem same5b_ok (h241 : Std T 241 f241) (h286 : Std T 286 f286) (a b : State) (ha : a.pods.length ≤ 2 ^ 30) : Gives T 241 [stateP a, stateP b] (.bool (decide (a = b))) := by
  refine gives h241 rfl ?_
  have hab : a = b ↔ a.pre = b.pre ∧ a.shi = b.shi ∧ a.pods = b.pods := by cases a; cases b; simp; grind
  simp only [f241, runL, opQ, evOp, evO, evOs, guardV, argsA, pvs, putS, cellsOf, scals, scal, Nat.reduceEqDiff, Nat.reduceAdd, reduceCtorEq, fieldA, nonNil, cellsAt, mkAgg, allPV, storeB, patchL, Int.reduceToNat, Nat.reduceMul, Nat.reduceLT, stepA, Int.reduceNeg, Int.reduceLE, Int.reduceLT, Int.reduceEq, extractV, mkAgg, Nat.reduceLeDiff, fillA, pureVs, pureV, eqV, eqB, lenV, binV, intBin, intV, idxA, List.drop, List.take, RetP, retP, resV, resOne, snapV, snapVs, snapR, snapRs, ownSz, pickV, AO.isC, opE, opD, funV, stateP]
  by_cases hp : a.pre = b.pre
  · by_cases hs : a.shi = b.shi
    · simp only [runL, opQ, evOp, evO, evOs, guardV, argsA, pvs, putS, cellsOf, scals, scal, Nat.reduceEqDiff, Nat.reduceAdd, reduceCtorEq, fieldA, nonNil, cellsAt, mkAgg, allPV, storeB, patchL, Int.reduceToNat, Nat.reduceMul, Nat.reduceLT, stepA, Int.reduceNeg, Int.reduceLE, Int.reduceLT, Int.reduceEq, extractV, mkAgg, Nat.reduceLeDiff, fillA, pureVs, pureV, eqV, eqB, lenV, binV, intBin, intV, idxA, List.drop, List.take, RetP, retP, resV, resOne, snapV, snapVs, snapR, snapRs, ownSz, pickV, AO.isC, opE, opD, funV, hp, hs, hab, (equal5_ok h286 a.pods b.pods ha).call]
    · simp only [runL, opQ, evOp, evO, evOs, guardV, argsA, pvs, putS, cellsOf, scals, scal, Nat.reduceEqDiff, Nat.reduceAdd, reduceCtorEq, fieldA, nonNil, cellsAt, mkAgg, allPV, storeB, patchL, Int.reduceToNat, Nat.reduceMul, Nat.reduceLT, stepA, Int.reduceNeg, Int.reduceLE, Int.reduceLT, Int.reduceEq, extractV, mkAgg, Nat.reduceLeDiff, fillA, pureVs, pureV, eqV, eqB, lenV, binV, intBin, intV, idxA, List.drop, List.take, RetP, retP, resV, resOne, snapV, snapVs, snapR, snapRs, ownSz, pickV, AO.isC, opE, opD, funV, hp, hs, hab, false_and]
  · simp only [runL, opQ, evOp, evO, evOs, guardV, argsA, pvs, putS, cellsOf, scals, scal, Nat.reduceEqDiff, Nat.reduceAdd, reduceCtorEq, fieldA, nonNil, cellsAt, mkAgg, allPV, storeB, patchL, Int.reduceToNat, Nat.reduceMul, Nat.reduceLT, stepA, Int.reduceNeg, Int.reduceLE, Int.reduceLT, Int.reduceEq, extractV, mkAgg, Nat.reduceLeDiff, fillA, pureVs, pureV, eqV, eqB, lenV, binV, intBin, intV, idxA, List.drop, List.take, RetP, retP, resV, resOne, snapV, snapVs, snapR, snapRs, ownSz, pickV, AO.isC, opE, opD, funV, hp, hab, false_and]

/-- slices.Clone of pods. -/
structure Cln (T : Tab) (n sz : Nat) : Prop where
  prim : T.prim n = some (cloneP sz)
  raw : T.raw n = false
  own : T.own n = true
theorem Cln.call {n sz : Nat} (S : Cln T n sz) {es : List (List PV)} (h : allLen sz es = true) (hl : es.length ≤ 2 ^ 30) (d : Option Nat) (l : List AOper) (st : St) (K : St → Prop) :
    callQ T n [.pv (.slice es)] d l st K ↔ WpO T l (match es with | [] => ⟨putS st d (.pv (.slice [])), st.hp, st.nx⟩ | e :: r => ⟨putS st d (.ms st.nx), (st.nx, .row sz (e :: r)) :: st.hp, st.nx + 1⟩) K := by
  cases es with
  | nil =>
    have hc : callP (D T) n [.slice []] = some (none, .slice []) := by
      unfold callP
      rw [D_prim S.prim (show cloneP sz (pvs [.slice []]) [] 0 = some (.pv (.slice []), [], 2) from rfl)]
      rfl
    rw [callQ_pure S.raw rfl hc, S.own]
    rfl
  | cons e r =>
    have hc : callP (D T) n [.slice (e :: r)] = some (some sz, .slice (e :: r)) := by
      unfold callP
      rw [D_prim S.prim (show cloneP sz (pvs [.slice (e :: r)]) [] 0 = some (.ms 1, [(1, .row sz (e :: r))], 2) from by
        simp only [cloneP, pvs]; rw [if_pos ⟨h, hl⟩])]
      rfl
    rw [callQ_pure S.raw rfl hc, S.own]
    rfl
theorem allLen_pods (l : List Pod) : allLen 8 (l.map podC) = true := by
  simp [allLen, podC]

def firstOf (s : Snap) : State := ⟨s.pods, 0, 0⟩
theorem first5_ok (h237 : Std T 237 f237) (h279 : Cln T 279 8) (s : Snap) (h : s.pods.length ≤ 2 ^ 30) : Gives T 237 [snapP s] (stateP (firstOf s)) := by
  refine gives h237 rfl ?_
  simp only [f237, runL, opQ, evOp, evO, evOs, guardV, argsA, pvs, putS, cellsOf, scals, scal, Nat.reduceEqDiff, Nat.reduceAdd, reduceCtorEq, fieldA, nonNil, cellsAt, mkAgg, allPV, storeB, patchL, Int.reduceToNat, Nat.reduceMul, Nat.reduceLT, stepA, Int.reduceNeg, Int.reduceLE, Int.reduceLT, Int.reduceEq, extractV, mkAgg, Nat.reduceLeDiff, fillA, pureVs, pureV, eqV, eqB, lenV, binV, intBin, intV, idxA, List.drop, List.take, RetP, retP, resV, resOne, snapV, snapVs, snapR, snapRs, ownSz, pickV, AO.isC, opE, opD, funV, snapP, stateP, firstOf]
  rw [h279.call (allLen_pods _) (by simpa using h)]
  cases hs : s.pods with
  | nil => simp only [runL, opQ, evOp, evO, evOs, guardV, argsA, pvs, putS, cellsOf, scals, scal, Nat.reduceEqDiff, Nat.reduceAdd, reduceCtorEq, fieldA, nonNil, cellsAt, mkAgg, allPV, storeB, patchL, Int.reduceToNat, Nat.reduceMul, Nat.reduceLT, stepA, Int.reduceNeg, Int.reduceLE, Int.reduceLT, Int.reduceEq, extractV, mkAgg, Nat.reduceLeDiff, fillA, pureVs, pureV, eqV, eqB, lenV, binV, intBin, intV, idxA, List.drop, List.take, RetP, retP, resV, resOne, snapV, snapVs, snapR, snapRs, ownSz, pickV, AO.isC, opE, opD, funV, List.map_nil]
  | cons p r => simp only [runL, opQ, evOp, evO, evOs, guardV, argsA, pvs, putS, cellsOf, scals, scal, Nat.reduceEqDiff, Nat.reduceAdd, reduceCtorEq, fieldA, nonNil, cellsAt, mkAgg, allPV, storeB, patchL, Int.reduceToNat, Nat.reduceMul, Nat.reduceLT, stepA, Int.reduceNeg, Int.reduceLE, Int.reduceLT, Int.reduceEq, extractV, mkAgg, Nat.reduceLeDiff, fillA, pureVs, pureV, eqV, eqB, lenV, binV, intBin, intV, idxA, List.drop, List.take, RetP, retP, resV, resOne, snapV, snapVs, snapR, snapRs, ownSz, pickV, AO.isC, opE, opD, funV, List.map_cons]
theorem first5b_ok (h164 : Std T 164 f164) (s : Snap) (h : s.pods.length ≤ 2 ^ 30) : Gives T 164 [snapP s] (stateP (firstOf s)) := by
  refine gives h164 rfl ?_
  simp only [f164, runL, opQ, evOp, evO, evOs, guardV, argsA, pvs, putS, cellsOf, scals, scal, Nat.reduceEqDiff, Nat.reduceAdd, reduceCtorEq, fieldA, nonNil, cellsAt, mkAgg, allPV, storeB, patchL, Int.reduceToNat, Nat.reduceMul, Nat.reduceLT, stepA, Int.reduceNeg, Int.reduceLE, Int.reduceLT, Int.reduceEq, extractV, mkAgg, Nat.reduceLeDiff, fillA, pureVs, pureV, eqV, eqB, lenV, binV, intBin, intV, idxA, List.drop, List.take, RetP, retP, resV, resOne, snapV, snapVs, snapR, snapRs, ownSz, pickV, AO.isC, opE, opD, funV, snapP, stateP, firstOf, allLen_pods, partsScal, srcV, chunk, appV, baseV, h]

/-- A want is met. -/
def metB (w : Want) (l : List Pod) : Bool := match podOf w.pod l with
  | none => false
  | some p => if w.stay = true then decide (p.node ≠ 0) && decide (p.req = w.req) else decide (p.node = 0)
def goalB (ws : List Want) (l : List Pod) : Bool := ws.all (fun w => metB w l)

theorem eqVec (v v' : Vec) : eqCells [false, false, false, false] [.int .u64 v.a, .int .u64 v.b, .int .u64 v.c, .int .u64 v.d] [.int .u64 v'.a, .int .u64 v'.b, .int .u64 v'.c, .int .u64 v'.d] = some (decide (v = v')) := by
  obtain ⟨a, b, c, d⟩ := v
  obtain ⟨a', b', c', d'⟩ := v'
  simp only [eqCells, if_true, Option.some.injEq]
  rw [Bool.eq_iff_iff]
  simp

theorem goal5_ok (S : Std5 T) (h240 : Std T 240 f240) (h238 : Std T 238 f238) (x : Spec) (t : State) (hx : x.wants.length ≤ 2 ^ 30) (h : t.pods.length ≤ 2 ^ 30) : Gives T 238 [specP x, stateP t] (.bool (goalB x.wants t.pods)) := by
  refine gives h238 rfl ?_
  have loop : ∀ (rest : List Want) (i : Nat), x.wants.drop i = rest → i ≤ x.wants.length → ∀ (fr : List (Nat × AV)) (hp : Hl) (nx : Nat), 2 ≤ nx →
      blkAt hp 1 = .var [.pv (.slice (t.pods.map podC)), .pv (.int .i64 t.pre), .pv (.int .i64 t.shi)] → look fr 3 = .ptr 1 0 0 →
      look fr 12 = .pv (.int .i64 i) → look fr 11 = .pv (.int .i64 x.wants.length) → look fr 10 = .pv (.slice (x.wants.map wantC)) →
      Wp T false (.loop f238l0) ⟨fr, hp, nx⟩ (blkQ 0 (seqQ T false (.seq (.ops [⟨some 4, .mv (.c (.pv (.bool true))), none, []⟩]) .ret) (RetP [.t 4] (.bool (goalB rest t.pods))))) := by
    intro rest
    induction rest with
    | nil =>
      intro i hd hi fr hp nx hn b1 h3 h12 h11 h10
      have hlen : x.wants.length = i := by
        have := congrArg List.length hd
        simp at this
        omega
      rw [Wp_loop, Wp_eq f238l0.eq_1]
      simp only [runL, opQ, evOp, evO, evOs, guardV, argsA, pvs, putS, cellsOf, scals, scal, Nat.reduceEqDiff, Nat.reduceAdd, reduceCtorEq, fieldA, nonNil, cellsAt, mkAgg, allPV, storeB, patchL, Int.reduceToNat, Nat.reduceMul, Nat.reduceLT, stepA, Int.reduceNeg, Int.reduceLE, Int.reduceLT, Int.reduceEq, extractV, mkAgg, Nat.reduceLeDiff, fillA, pureVs, pureV, eqV, eqB, lenV, binV, intBin, intV, idxA, List.drop, List.take, RetP, retP, resV, resOne, snapV, snapVs, snapR, snapRs, ownSz, pickV, AO.isC, opE, opD, funV, h3, h12, h11, h10, hlen, Int.lt_irrefl, goalB, List.all_nil]
    | cons w r ih =>
      intro i hd hi fr hp nx hn b1 h3 h12 h11 h10
      have hget : x.wants[i]? = some w := by
        have := congrArg (·[0]?) hd
        simpa using this
      have hlt : i < x.wants.length := (List.getElem?_eq_some_iff.1 hget).1
      have hlt' : (i : Int) < (x.wants.length : Int) := by omega
      have n1 : ¬ nx = 1 := by omega
      have n2 : ¬ nx + 1 = 1 := by omega
      have hw : IntKind.i64.wrap ((i : Int) + 1) = ((i + 1 : Nat) : Int) := by rw [wrap6] <;> omega
      have k := pod5_ok S h240 t w.pod h
      have next : metB w t.pods = true → ∀ (fr' : List (Nat × AV)) (hp' : Hl) (nx' : Nat), 2 ≤ nx' → blkAt hp' 1 = blkAt hp 1 → look fr' 3 = look fr 3 → look fr' 12 = .pv (.int .i64 ((i + 1 : Nat) : Int)) → look fr' 11 = look fr 11 → look fr' 10 = look fr 10 →
          Wp T false (.loop f238l0) ⟨fr', hp', nx'⟩ (blkQ 0 (seqQ T false (.seq (.ops [⟨some 4, .mv (.c (.pv (.bool true))), none, []⟩]) .ret) (RetP [.t 4] (.bool (goalB (w :: r) t.pods))))) := by
        intro hm fr' hp' nx' hn' b1' h3' h12' h11' h10'
        have : goalB (w :: r) t.pods = goalB r t.pods := by simp only [goalB, List.all_cons, hm, Bool.true_and]
        rw [this]
        exact ih (i + 1) (by rw [← List.drop_drop, hd]; rfl) (by omega) fr' hp' nx' hn' (b1'.trans b1) (h3'.trans h3) h12' (h11'.trans h11) (h10'.trans h10)
      have stop : metB w t.pods = false → goalB (w :: r) t.pods = false := by
        intro hm
        simp only [goalB, List.all_cons, hm, Bool.false_and]
      rw [Wp_loop, Wp_eq f238l0.eq_1]
      simp only [runL, opQ, evOp, evO, evOs, guardV, argsA, pvs, putS, cellsOf, scals, scal, Nat.reduceEqDiff, Nat.reduceAdd, reduceCtorEq, fieldA, nonNil, cellsAt, mkAgg, allPV, storeB, patchL, Int.reduceToNat, Nat.reduceMul, Nat.reduceLT, stepA, Int.reduceNeg, Int.reduceLE, Int.reduceLT, Int.reduceEq, extractV, mkAgg, Nat.reduceLeDiff, fillA, pureVs, pureV, eqV, eqB, lenV, binV, intBin, intV, idxA, List.drop, List.take, RetP, retP, resV, resOne, snapV, snapVs, snapR, snapRs, ownSz, pickV, AO.isC, opE, opD, funV, h3, h12, h11, h10, hlt', hget, wantC, b1, n1, n2, k.call, stateP]
      cases hp0 : podOf w.pod t.pods with
      | none =>
        have := stop (by simp only [metB, hp0])
        simp only [runL, opQ, evOp, evO, evOs, guardV, argsA, pvs, putS, cellsOf, scals, scal, Nat.reduceEqDiff, Nat.reduceAdd, reduceCtorEq, fieldA, nonNil, cellsAt, mkAgg, allPV, storeB, patchL, Int.reduceToNat, Nat.reduceMul, Nat.reduceLT, stepA, Int.reduceNeg, Int.reduceLE, Int.reduceLT, Int.reduceEq, extractV, mkAgg, Nat.reduceLeDiff, fillA, pureVs, pureV, eqV, eqB, lenV, binV, intBin, intV, idxA, List.drop, List.take, RetP, retP, resV, resOne, snapV, snapVs, snapR, snapRs, ownSz, pickV, AO.isC, opE, opD, funV, podR, podP, pod0, podC, n1, n2, this]
      | some p =>
        cases hst : w.stay
        · by_cases hn : p.node = 0
          · simp only [runL, opQ, evOp, evO, evOs, guardV, argsA, pvs, putS, cellsOf, scals, scal, Nat.reduceEqDiff, Nat.reduceAdd, reduceCtorEq, fieldA, nonNil, cellsAt, mkAgg, allPV, storeB, patchL, Int.reduceToNat, Nat.reduceMul, Nat.reduceLT, stepA, Int.reduceNeg, Int.reduceLE, Int.reduceLT, Int.reduceEq, extractV, mkAgg, Nat.reduceLeDiff, fillA, pureVs, pureV, eqV, eqB, lenV, binV, intBin, intV, idxA, List.drop, List.take, RetP, retP, resV, resOne, snapV, snapVs, snapR, snapRs, ownSz, pickV, AO.isC, opE, opD, funV, podR, podP, podC, n1, n2, hst, hn, h12, hw]
            refine next (by simp [metB, hp0, hst, hn]) _ _ _ (by omega) ?_ ?_ ?_ ?_ ?_
            all_goals simp only [look_if, blkAt_if, Nat.reduceEqDiff, if_true, if_false, n1, n2]
          · have := stop (by simp [metB, hp0, hst, hn])
            simp only [runL, opQ, evOp, evO, evOs, guardV, argsA, pvs, putS, cellsOf, scals, scal, Nat.reduceEqDiff, Nat.reduceAdd, reduceCtorEq, fieldA, nonNil, cellsAt, mkAgg, allPV, storeB, patchL, Int.reduceToNat, Nat.reduceMul, Nat.reduceLT, stepA, Int.reduceNeg, Int.reduceLE, Int.reduceLT, Int.reduceEq, extractV, mkAgg, Nat.reduceLeDiff, fillA, pureVs, pureV, eqV, eqB, lenV, binV, intBin, intV, idxA, List.drop, List.take, RetP, retP, resV, resOne, snapV, snapVs, snapR, snapRs, ownSz, pickV, AO.isC, opE, opD, funV, podR, podP, podC, n1, n2, hst, hn, this]
        · by_cases hn : p.node = 0
          · have := stop (by simp [metB, hp0, hst, hn])
            simp only [runL, opQ, evOp, evO, evOs, guardV, argsA, pvs, putS, cellsOf, scals, scal, Nat.reduceEqDiff, Nat.reduceAdd, reduceCtorEq, fieldA, nonNil, cellsAt, mkAgg, allPV, storeB, patchL, Int.reduceToNat, Nat.reduceMul, Nat.reduceLT, stepA, Int.reduceNeg, Int.reduceLE, Int.reduceLT, Int.reduceEq, extractV, mkAgg, Nat.reduceLeDiff, fillA, pureVs, pureV, eqV, eqB, lenV, binV, intBin, intV, idxA, List.drop, List.take, RetP, retP, resV, resOne, snapV, snapVs, snapR, snapRs, ownSz, pickV, AO.isC, opE, opD, funV, podR, podP, podC, n1, n2, hst, hn, this]
          · by_cases hr : p.req = w.req
            · simp only [runL, opQ, evOp, evO, evOs, guardV, argsA, pvs, putS, cellsOf, scals, scal, Nat.reduceEqDiff, Nat.reduceAdd, reduceCtorEq, fieldA, nonNil, cellsAt, mkAgg, allPV, storeB, patchL, Int.reduceToNat, Nat.reduceMul, Nat.reduceLT, stepA, Int.reduceNeg, Int.reduceLE, Int.reduceLT, Int.reduceEq, extractV, mkAgg, Nat.reduceLeDiff, fillA, pureVs, pureV, eqV, eqB, lenV, binV, intBin, intV, idxA, List.drop, List.take, RetP, retP, resV, resOne, snapV, snapVs, snapR, snapRs, ownSz, pickV, AO.isC, opE, opD, funV, podR, podP, podC, n1, n2, hst, hn, eqVec, hr, h12, hw]
              refine next (by simp [metB, hp0, hst, hn, hr]) _ _ _ (by omega) ?_ ?_ ?_ ?_ ?_
              all_goals simp only [look_if, blkAt_if, Nat.reduceEqDiff, if_true, if_false, n1, n2]
            · have := stop (by simp [metB, hp0, hst, hn, hr])
              simp only [runL, opQ, evOp, evO, evOs, guardV, argsA, pvs, putS, cellsOf, scals, scal, Nat.reduceEqDiff, Nat.reduceAdd, reduceCtorEq, fieldA, nonNil, cellsAt, mkAgg, allPV, storeB, patchL, Int.reduceToNat, Nat.reduceMul, Nat.reduceLT, stepA, Int.reduceNeg, Int.reduceLE, Int.reduceLT, Int.reduceEq, extractV, mkAgg, Nat.reduceLeDiff, fillA, pureVs, pureV, eqV, eqB, lenV, binV, intBin, intV, idxA, List.drop, List.take, RetP, retP, resV, resOne, snapV, snapVs, snapR, snapRs, ownSz, pickV, AO.isC, opE, opD, funV, podR, podP, podC, n1, n2, hst, hn, eqVec, hr, this]
  simp only [f238, runL, opQ, evOp, evO, evOs, guardV, argsA, pvs, putS, cellsOf, scals, scal, Nat.reduceEqDiff, Nat.reduceAdd, reduceCtorEq, fieldA, nonNil, cellsAt, mkAgg, allPV, storeB, patchL, Int.reduceToNat, Nat.reduceMul, Nat.reduceLT, stepA, Int.reduceNeg, Int.reduceLE, Int.reduceLT, Int.reduceEq, extractV, mkAgg, Nat.reduceLeDiff, fillA, pureVs, pureV, eqV, eqB, lenV, binV, intBin, intV, idxA, List.drop, List.take, RetP, retP, resV, resOne, snapV, snapVs, snapR, snapRs, ownSz, pickV, AO.isC, opE, opD, funV, specP, stateP]
  exact loop x.wants 0 rfl (Nat.zero_le _) _ _ 2 (Nat.le_refl _) rfl rfl rfl rfl rfl

theorem goal5b_ok (h165 : Std T 165 f165) (h167 : Std T 167 f167) (x : Spec) (t : State) (hx : x.wants.length ≤ 2 ^ 30) (h : t.pods.length ≤ 2 ^ 30) : Gives T 165 [specP x, stateP t] (.bool (goalB x.wants t.pods)) := by
  refine gives h165 rfl ?_
  have loop : ∀ (rest : List Want) (i : Nat), x.wants.drop i = rest → i ≤ x.wants.length → ∀ (fr : List (Nat × AV)) (hp : Hl) (nx : Nat), 2 ≤ nx →
      blkAt hp 0 = .var [.pv (.slice (x.wants.map wantC)), .pv (.int .i64 x.pre), .pv (.int .i64 x.shi)] →
      blkAt hp 1 = .var [.pv (.slice (t.pods.map podC)), .pv (.int .i64 t.pre), .pv (.int .i64 t.shi)] → look fr 2 = .ptr 0 0 0 → look fr 3 = .ptr 1 0 0 → look fr 5 = .pv (.int .i64 i) →
      Wp T false (.loop f165l0) ⟨fr, hp, nx⟩ (blkQ 0 (seqQ T false (.seq (.ops [⟨some 4, .mv (.c (.pv (.bool true))), none, []⟩]) .ret) (RetP [.t 4] (.bool (goalB rest t.pods))))) := by
    intro rest
    induction rest with
    | nil =>
      intro i hd hi fr hp nx hn b0 b1 h2 h3 h5
      have hlen : x.wants.length = i := by
        have := congrArg List.length hd
        simp at this
        omega
      rw [Wp_loop, Wp_eq f165l0.eq_1]
      simp only [runL, opQ, evOp, evO, evOs, guardV, argsA, pvs, putS, cellsOf, scals, scal, Nat.reduceEqDiff, Nat.reduceAdd, reduceCtorEq, fieldA, nonNil, cellsAt, mkAgg, allPV, storeB, patchL, Int.reduceToNat, Nat.reduceMul, Nat.reduceLT, stepA, Int.reduceNeg, Int.reduceLE, Int.reduceLT, Int.reduceEq, extractV, mkAgg, Nat.reduceLeDiff, fillA, pureVs, pureV, eqV, eqB, lenV, binV, intBin, intV, idxA, List.drop, List.take, RetP, retP, resV, resOne, snapV, snapVs, snapR, snapRs, ownSz, pickV, AO.isC, opE, opD, funV, b0, h2, h3, h5, hlen, Int.lt_irrefl, goalB, List.all_nil]
    | cons w r ih =>
      intro i hd hi fr hp nx hn b0 b1 h2 h3 h5
      have hget : x.wants[i]? = some w := by
        have := congrArg (·[0]?) hd
        simpa using this
      have hlt : i < x.wants.length := (List.getElem?_eq_some_iff.1 hget).1
      have hlt' : (i : Int) < (x.wants.length : Int) := by omega
      have n0 : ¬ nx = 0 := by omega
      have n1 : ¬ nx = 1 := by omega
      have hw : IntKind.i64.wrap ((i : Int) + 1) = ((i + 1 : Nat) : Int) := by rw [wrap6] <;> omega
      have k := place_ok h167 t w.pod h
      have next : metB w t.pods = true → ∀ (fr' : List (Nat × AV)) (hp' : Hl) (nx' : Nat), 2 ≤ nx' → blkAt hp' 0 = blkAt hp 0 → blkAt hp' 1 = blkAt hp 1 → look fr' 2 = look fr 2 → look fr' 3 = look fr 3 → look fr' 5 = .pv (.int .i64 ((i + 1 : Nat) : Int)) →
          Wp T false (.loop f165l0) ⟨fr', hp', nx'⟩ (blkQ 0 (seqQ T false (.seq (.ops [⟨some 4, .mv (.c (.pv (.bool true))), none, []⟩]) .ret) (RetP [.t 4] (.bool (goalB (w :: r) t.pods))))) := by
        intro hm fr' hp' nx' hn' b0' b1' h2' h3' h5'
        have : goalB (w :: r) t.pods = goalB r t.pods := by simp only [goalB, List.all_cons, hm, Bool.true_and]
        rw [this]
        exact ih (i + 1) (by rw [← List.drop_drop, hd]; rfl) (by omega) fr' hp' nx' hn' (b0'.trans b0) (b1'.trans b1) (h2'.trans h2) (h3'.trans h3) h5'
      have stop : metB w t.pods = false → goalB (w :: r) t.pods = false := by
        intro hm
        simp only [goalB, List.all_cons, hm, Bool.false_and]
      rw [Wp_loop, Wp_eq f165l0.eq_1]
      simp only [runL, opQ, evOp, evO, evOs, guardV, argsA, pvs, putS, cellsOf, scals, scal, Nat.reduceEqDiff, Nat.reduceAdd, reduceCtorEq, fieldA, nonNil, cellsAt, mkAgg, allPV, storeB, patchL, Int.reduceToNat, Nat.reduceMul, Nat.reduceLT, stepA, Int.reduceNeg, Int.reduceLE, Int.reduceLT, Int.reduceEq, extractV, mkAgg, Nat.reduceLeDiff, fillA, pureVs, pureV, eqV, eqB, lenV, binV, intBin, intV, idxA, List.drop, List.take, RetP, retP, resV, resOne, snapV, snapVs, snapR, snapRs, ownSz, pickV, AO.isC, opE, opD, funV, b0, h2, h3, h5, hlt']
      refine (Wp_calm rfl).2 ?_
      rcases placeFrom_cases w.pod t.pods 0 with ⟨e1, e2⟩ | ⟨j, p, e1, e2, e3, e4⟩
      · have := stop (by simp only [metB, e1])
        rw [e2] at k
        simp only [runL, opQ, evOp, evO, evOs, guardV, argsA, pvs, putS, cellsOf, scals, scal, Nat.reduceEqDiff, Nat.reduceAdd, reduceCtorEq, fieldA, nonNil, cellsAt, mkAgg, allPV, storeB, patchL, Int.reduceToNat, Nat.reduceMul, Nat.reduceLT, stepA, Int.reduceNeg, Int.reduceLE, Int.reduceLT, Int.reduceEq, extractV, mkAgg, Nat.reduceLeDiff, fillA, pureVs, pureV, eqV, eqB, lenV, binV, intBin, intV, idxA, List.drop, List.take, RetP, retP, resV, resOne, snapV, snapVs, snapR, snapRs, ownSz, pickV, AO.isC, opE, opD, funV, b0, b1, h2, h3, h5, hget, wantC, k.callD, stateP, this, Int.reduceNeg, Int.reduceLT]
      · have hj : ¬ ((j : Int) < 0) := by omega
        rw [e3] at k
        simp only [runL, opQ, evOp, evO, evOs, guardV, argsA, pvs, putS, cellsOf, scals, scal, Nat.reduceEqDiff, Nat.reduceAdd, reduceCtorEq, fieldA, nonNil, cellsAt, mkAgg, allPV, storeB, patchL, Int.reduceToNat, Nat.reduceMul, Nat.reduceLT, stepA, Int.reduceNeg, Int.reduceLE, Int.reduceLT, Int.reduceEq, extractV, mkAgg, Nat.reduceLeDiff, fillA, pureVs, pureV, eqV, eqB, lenV, binV, intBin, intV, idxA, List.drop, List.take, RetP, retP, resV, resOne, snapV, snapVs, snapR, snapRs, ownSz, pickV, AO.isC, opE, opD, funV, b0, b1, h2, h3, h5, hget, wantC, k.callD, stateP, hj, e1, podC]
        refine (Wp_calm rfl).2 ?_
        cases hst : w.stay
        · by_cases hn : p.node = 0
          · simp only [runL, opQ, evOp, evO, evOs, guardV, argsA, pvs, putS, cellsOf, scals, scal, Nat.reduceEqDiff, Nat.reduceAdd, reduceCtorEq, fieldA, nonNil, cellsAt, mkAgg, allPV, storeB, patchL, Int.reduceToNat, Nat.reduceMul, Nat.reduceLT, stepA, Int.reduceNeg, Int.reduceLE, Int.reduceLT, Int.reduceEq, extractV, mkAgg, Nat.reduceLeDiff, fillA, pureVs, pureV, eqV, eqB, lenV, binV, intBin, intV, idxA, List.drop, List.take, RetP, retP, resV, resOne, snapV, snapVs, snapR, snapRs, ownSz, pickV, AO.isC, opE, opD, funV, podC, wantC, n0, n1, hst, hn, b0, h2, h5, hget, hw]
            refine next (by simp [metB, e2, hst, hn]) _ _ _ (by omega) ?_ ?_ ?_ ?_ ?_
            all_goals simp only [look_if, blkAt_if, Nat.reduceEqDiff, if_true, if_false, n0, n1]
          · have := stop (by simp [metB, e2, hst, hn])
            simp only [runL, opQ, evOp, evO, evOs, guardV, argsA, pvs, putS, cellsOf, scals, scal, Nat.reduceEqDiff, Nat.reduceAdd, reduceCtorEq, fieldA, nonNil, cellsAt, mkAgg, allPV, storeB, patchL, Int.reduceToNat, Nat.reduceMul, Nat.reduceLT, stepA, Int.reduceNeg, Int.reduceLE, Int.reduceLT, Int.reduceEq, extractV, mkAgg, Nat.reduceLeDiff, fillA, pureVs, pureV, eqV, eqB, lenV, binV, intBin, intV, idxA, List.drop, List.take, RetP, retP, resV, resOne, snapV, snapVs, snapR, snapRs, ownSz, pickV, AO.isC, opE, opD, funV, podC, wantC, n0, n1, hst, hn, b0, h2, h5, hget, this]
        · by_cases hn : p.node = 0
          · have := stop (by simp [metB, e2, hst, hn])
            simp only [runL, opQ, evOp, evO, evOs, guardV, argsA, pvs, putS, cellsOf, scals, scal, Nat.reduceEqDiff, Nat.reduceAdd, reduceCtorEq, fieldA, nonNil, cellsAt, mkAgg, allPV, storeB, patchL, Int.reduceToNat, Nat.reduceMul, Nat.reduceLT, stepA, Int.reduceNeg, Int.reduceLE, Int.reduceLT, Int.reduceEq, extractV, mkAgg, Nat.reduceLeDiff, fillA, pureVs, pureV, eqV, eqB, lenV, binV, intBin, intV, idxA, List.drop, List.take, RetP, retP, resV, resOne, snapV, snapVs, snapR, snapRs, ownSz, pickV, AO.isC, opE, opD, funV, podC, wantC, n0, n1, hst, hn, b0, h2, h5, hget, this]
          · by_cases hr : p.req = w.req
            · simp only [runL, opQ, evOp, evO, evOs, guardV, argsA, pvs, putS, cellsOf, scals, scal, Nat.reduceEqDiff, Nat.reduceAdd, reduceCtorEq, fieldA, nonNil, cellsAt, mkAgg, allPV, storeB, patchL, Int.reduceToNat, Nat.reduceMul, Nat.reduceLT, stepA, Int.reduceNeg, Int.reduceLE, Int.reduceLT, Int.reduceEq, extractV, mkAgg, Nat.reduceLeDiff, fillA, pureVs, pureV, eqV, eqB, lenV, binV, intBin, intV, idxA, List.drop, List.take, RetP, retP, resV, resOne, snapV, snapVs, snapR, snapRs, ownSz, pickV, AO.isC, opE, opD, funV, podC, wantC, n0, n1, hst, hn, eqVec, hr, b0, h2, h5, hget, hw]
              refine next (by simp [metB, e2, hst, hn, hr]) _ _ _ (by omega) ?_ ?_ ?_ ?_ ?_
              all_goals simp only [look_if, blkAt_if, Nat.reduceEqDiff, if_true, if_false, n0, n1]
            · have := stop (by simp [metB, e2, hst, hn, hr])
              simp only [runL, opQ, evOp, evO, evOs, guardV, argsA, pvs, putS, cellsOf, scals, scal, Nat.reduceEqDiff, Nat.reduceAdd, reduceCtorEq, fieldA, nonNil, cellsAt, mkAgg, allPV, storeB, patchL, Int.reduceToNat, Nat.reduceMul, Nat.reduceLT, stepA, Int.reduceNeg, Int.reduceLE, Int.reduceLT, Int.reduceEq, extractV, mkAgg, Nat.reduceLeDiff, fillA, pureVs, pureV, eqV, eqB, lenV, binV, intBin, intV, idxA, List.drop, List.take, RetP, retP, resV, resOne, snapV, snapVs, snapR, snapRs, ownSz, pickV, AO.isC, opE, opD, funV, podC, wantC, n0, n1, hst, hn, eqVec, hr, b0, h2, h5, hget, this]
  simp only [f165, runL, opQ, evOp, evO, evOs, guardV, argsA, pvs, putS, cellsOf, scals, scal, Nat.reduceEqDiff, Nat.reduceAdd, reduceCtorEq, fieldA, nonNil, cellsAt, mkAgg, allPV, storeB, patchL, Int.reduceToNat, Nat.reduceMul, Nat.reduceLT, stepA, Int.reduceNeg, Int.reduceLE, Int.reduceLT, Int.reduceEq, extractV, mkAgg, Nat.reduceLeDiff, fillA, pureVs, pureV, eqV, eqB, lenV, binV, intBin, intV, idxA, List.drop, List.take, RetP, retP, resV, resOne, snapV, snapVs, snapR, snapRs, ownSz, pickV, AO.isC, opE, opD, funV, specP, stateP]
  exact loop x.wants 0 rfl (Nat.zero_le _) _ _ 2 (Nat.le_refl _) rfl rfl rfl rfl rfl
end
end Go.Proofs.YtmeigdjfcecidaaDoor.Ab
/- Layer 5: what a move makes. -/
set_option linter.unusedVariables false
set_option linter.unusedSimpArgs false
namespace Go.Proofs.YtmeigdjfcecidaaDoor.Ab
open Go

/-! ### Calls in the caller's blocks -/
theorem callQ_raw {T : Tab} {n : Nat} {args : List AV} {d : Option Nat} {l : List AOper} {st : St} {K : St → Prop} {v : AV} {hp : Hl} {nx : Nat} (hr : T.raw n = true) (h : D T n args st.hp st.nx = some (v, hp, nx)) :
    callQ T n args d l st K ↔ WpO T l ⟨putS st d v, hp, nx⟩ K := by
  unfold callQ doCall
  simp only [hr, h, Option.some.injEq]
  constructor
  · rintro ⟨_, rfl, h⟩; exact h
  · exact fun h => ⟨_, rfl, h⟩
def rawq (res : List ARes) (Q : AV → Hl → Nat → Prop) (st : St) : Prop := match resV (look st.fr) (blkAt st.hp) res with
  | some vs => Q (resOne vs) st.hp st.nx
  | none => False
def RawQ (res : List ARes) (Q : AV → Hl → Nat → Prop) : Exit → St → Prop
  | .ret, st => rawq res Q st
  | .normal, st => rawq res Q st
  | _, _ => False
/-- A function of the kind that runs in its caller's blocks. -/
structure StdR (T : Tab) (n : Nat) (f : AFunc) : Prop where
  prim : T.prim n = none
  fn : T.fn n = some f
  still : T.still n = false
  raw : T.raw n = true
theorem D_wp {T : Tab} {n : Nat} {f : AFunc} {args : List AV} {hp : Hl} {nx : Nat} {Q : AV → Hl → Nat → Prop} (S : StdR T n f) (hN : Nat.ble args.length f.N = true) (h : Wp T false f.body ⟨argsA 0 args, hp, nx⟩ (RawQ f.res Q)) :
    ∃ v hp' nx', D T n args hp nx = some (v, hp', nx') ∧ Q v hp' nx' := by
  obtain ⟨e, st, h1, h2⟩ := h
  have he : (e = .ret ∨ e = .normal) ∧ rawq f.res Q st := by
    cases e with
    | ret => exact ⟨.inl rfl, h2⟩
    | normal => exact ⟨.inr rfl, h2⟩
    | _ => exact h2.elim
  obtain ⟨he, h3⟩ := he
  unfold rawq at h3
  split at h3
  · rename_i vs hvs
    exact ⟨_, _, _, D_body S.prim S.fn hN (by rw [S.still]; exact h1) he hvs, h3⟩
  · exact h3.elim

def node0 : Node := ⟨0, 0, ⟨0, 0, 0, 0⟩, ⟨0, 0, 0, 0⟩⟩
def nodeOf (id : Int) (l : List Node) : Option Node := l.find? (fun n => decide (n.id = id))
def nodeR : Option Node → PV
  | some n => .tuple [.agg (nodeC n), .bool true]
  | none => .tuple [.agg (nodeC node0), .bool false]
theorem node_loop {T : Tab} (l : List Node) (id : Int) (hl : l.length ≤ 2 ^ 30) (Q : Exit → St → Prop) (o : Option Node)
    (hend : o = none → ∀ fr hp nx, look fr 4 = .ptr 1 0 0 → blkAt hp 1 = .var (pvs (nodeC node0)) → Q (.exit 0) ⟨fr, hp, nx⟩)
    (hret : ∀ n, o = some n → ∀ fr hp nx, look fr 4 = .ptr 1 0 0 → look fr 5 = .pv (.bool true) → blkAt hp 1 = .var (pvs (nodeC n)) → Q .ret ⟨fr, hp, nx⟩) :
    ∀ (rest : List Node) (i : Nat), l.drop i = rest → i ≤ l.length → nodeOf id rest = o → ∀ (fr : List (Nat × AV)) (hp : Hl) (nx : Nat), 2 ≤ nx → look fr 4 = .ptr 1 0 0 → blkAt hp 1 = .var (pvs (nodeC node0)) →
      look fr 1 = .pv (.int .i64 id) → look fr 9 = .pv (.slice (l.map nodeC)) → look fr 10 = .pv (.int .i64 l.length) → look fr 11 = .pv (.int .i64 i) → Wp T false (.loop f82l0) ⟨fr, hp, nx⟩ Q := by
  intro rest
  induction rest with
  | nil =>
    intro i hd hi ho fr hp nx hn h4 b1 h1 h9 h10 h11
    have hlen := drop_nil hd hi
    rw [Wp_loop, Wp_eq f82l0.eq_1]
    simp only [runL, opQ, evOp, evO, evOs, guardV, argsA, pvs, putS, cellsOf, scals, scal, Nat.reduceEqDiff, Nat.reduceAdd, reduceCtorEq, fieldA, nonNil, cellsAt, mkAgg, allPV, storeB, patchL, Int.reduceToNat, Nat.reduceMul, Nat.reduceLT, stepA, Int.reduceNeg, Int.reduceLE, Int.reduceLT, Int.reduceEq, extractV, mkAgg, Nat.reduceLeDiff, fillA, pureVs, pureV, eqV, eqB, lenV, binV, intBin, intV, idxA, List.drop, List.take, RetP, retP, resV, resOne, snapV, snapVs, snapR, snapRs, ownSz, pickV, AO.isC, opE, opD, funV, h4, h1, h9, h10, h11, hlen, Int.lt_irrefl]
    refine hend ho.symm _ _ _ ?_ b1
    simp only [look_if, Nat.reduceEqDiff, if_false, h4]
  | cons n r ih =>
    intro i hd hi ho fr hp nx hn h4 b1 h1 h9 h10 h11
    obtain ⟨hget, hlt, hw, hd', hi', hb⟩ := drop_cons hd hl
    have n1 : ¬ nx = 1 := by omega
    have b1' := b1
    simp only [nodeC, node0, pvs] at b1'
    rw [Wp_loop, Wp_eq f82l0.eq_1]
    by_cases hk : n.id = id
    · simp only [runL, opQ, evOp, evO, evOs, guardV, argsA, pvs, putS, cellsOf, scals, scal, Nat.reduceEqDiff, Nat.reduceAdd, reduceCtorEq, fieldA, nonNil, cellsAt, mkAgg, allPV, storeB, patchL, Int.reduceToNat, Nat.reduceMul, Nat.reduceLT, stepA, Int.reduceNeg, Int.reduceLE, Int.reduceLT, Int.reduceEq, extractV, mkAgg, Nat.reduceLeDiff, fillA, pureVs, pureV, eqV, eqB, lenV, binV, intBin, intV, idxA, List.drop, List.take, RetP, retP, resV, resOne, snapV, snapVs, snapR, snapRs, ownSz, pickV, AO.isC, opE, opD, funV, h4, b1', h1, h9, h10, h11, hlt, hget, nodeC, n1, hk]
      refine hret n (by rw [← ho]; simp [nodeOf, hk]) _ _ _ ?_ ?_ ?_
      all_goals simp only [look_if, blkAt_if, Nat.reduceEqDiff, if_true, if_false, h4, n1, nodeC, pvs, hk]
    · simp only [runL, opQ, evOp, evO, evOs, guardV, argsA, pvs, putS, cellsOf, scals, scal, Nat.reduceEqDiff, Nat.reduceAdd, reduceCtorEq, fieldA, nonNil, cellsAt, mkAgg, allPV, storeB, patchL, Int.reduceToNat, Nat.reduceMul, Nat.reduceLT, stepA, Int.reduceNeg, Int.reduceLE, Int.reduceLT, Int.reduceEq, extractV, mkAgg, Nat.reduceLeDiff, fillA, pureVs, pureV, eqV, eqB, lenV, binV, intBin, intV, idxA, List.drop, List.take, RetP, retP, resV, resOne, snapV, snapVs, snapR, snapRs, ownSz, pickV, AO.isC, opE, opD, funV, h4, b1', h1, h9, h10, h11, hlt, hget, nodeC, n1, hk, hw]
      refine ih (i + 1) hd' hi' (by rw [← ho]; simp [nodeOf, hk]) _ _ _ (by omega) ?_ ?_ ?_ ?_ ?_ ?_
      all_goals simp only [look_if, blkAt_if, Nat.reduceEqDiff, if_true, if_false, h4, b1, n1, h1, h9, h10]
theorem node_ok {T : Tab} (h : Std T 82 f82) (s : Snap) (id : Int) (hl : s.nodes.length ≤ 2 ^ 30) : Gives T 82 [snapP s, .int .i64 id] (nodeR (nodeOf id s.nodes)) := by
  refine gives h rfl ?_
  simp only [f82, runL, opQ, evOp, evO, evOs, guardV, argsA, pvs, putS, cellsOf, scals, scal, Nat.reduceEqDiff, Nat.reduceAdd, reduceCtorEq, fieldA, nonNil, cellsAt, mkAgg, allPV, storeB, patchL, Int.reduceToNat, Nat.reduceMul, Nat.reduceLT, stepA, Int.reduceNeg, Int.reduceLE, Int.reduceLT, Int.reduceEq, extractV, mkAgg, Nat.reduceLeDiff, fillA, pureVs, pureV, eqV, eqB, lenV, binV, intBin, intV, idxA, List.drop, List.take, RetP, retP, resV, resOne, snapV, snapVs, snapR, snapRs, ownSz, pickV, AO.isC, opE, opD, funV, snapP]
  refine node_loop s.nodes id hl _ (nodeOf id s.nodes) (fun ho fr hp nx h4 b1 => ?_) (fun n ho fr hp nx h4 h5 b1 => ?_) s.nodes 0 rfl (Nat.zero_le _) rfl _ _ _ (Nat.le_refl _) rfl rfl rfl rfl rfl rfl
  · simp only [nodeC, node0, pvs] at b1
    simp only [runL, opQ, evOp, evO, evOs, guardV, argsA, pvs, putS, cellsOf, scals, scal, Nat.reduceEqDiff, Nat.reduceAdd, reduceCtorEq, fieldA, nonNil, cellsAt, mkAgg, allPV, storeB, patchL, Int.reduceToNat, Nat.reduceMul, Nat.reduceLT, stepA, Int.reduceNeg, Int.reduceLE, Int.reduceLT, Int.reduceEq, extractV, mkAgg, Nat.reduceLeDiff, fillA, pureVs, pureV, eqV, eqB, lenV, binV, intBin, intV, idxA, List.drop, List.take, RetP, retP, resV, resOne, snapV, snapVs, snapR, snapRs, ownSz, pickV, AO.isC, opE, opD, funV, ho, nodeR, h4, b1, nodeC, node0]
  · simp only [nodeC, pvs] at b1
    simp only [runL, opQ, evOp, evO, evOs, guardV, argsA, pvs, putS, cellsOf, scals, scal, Nat.reduceEqDiff, Nat.reduceAdd, reduceCtorEq, fieldA, nonNil, cellsAt, mkAgg, allPV, storeB, patchL, Int.reduceToNat, Nat.reduceMul, Nat.reduceLT, stepA, Int.reduceNeg, Int.reduceLE, Int.reduceLT, Int.reduceEq, extractV, mkAgg, Nat.reduceLeDiff, fillA, pureVs, pureV, eqV, eqB, lenV, binV, intBin, intV, idxA, List.drop, List.take, RetP, retP, resV, resOne, snapV, snapVs, snapR, snapRs, ownSz, pickV, AO.isC, opE, opD, funV, ho, nodeR, h4, h5, b1, nodeC]

def want0 : Want := ⟨0, ⟨0, 0, 0, 0⟩, false⟩
def wantOf (id : Int) (l : List Want) : Option Want := l.find? (fun n => decide (n.pod = id))
def wantR : Option Want → PV
  | some n => .tuple [.agg (wantC n), .bool true]
  | none => .tuple [.agg (wantC want0), .bool false]
theorem want_loop {T : Tab} (l : List Want) (id : Int) (hl : l.length ≤ 2 ^ 30) (Q : Exit → St → Prop) (o : Option Want)
    (hend : o = none → ∀ fr hp nx, look fr 4 = .ptr 1 0 0 → blkAt hp 1 = .var (pvs (wantC want0)) → Q (.exit 0) ⟨fr, hp, nx⟩)
    (hret : ∀ n, o = some n → ∀ fr hp nx, look fr 4 = .ptr 1 0 0 → look fr 5 = .pv (.bool true) → blkAt hp 1 = .var (pvs (wantC n)) → Q .ret ⟨fr, hp, nx⟩) :
    ∀ (rest : List Want) (i : Nat), l.drop i = rest → i ≤ l.length → wantOf id rest = o → ∀ (fr : List (Nat × AV)) (hp : Hl) (nx : Nat), 2 ≤ nx → look fr 4 = .ptr 1 0 0 → blkAt hp 1 = .var (pvs (wantC want0)) →
      look fr 1 = .pv (.int .i64 id) → look fr 9 = .pv (.slice (l.map wantC)) → look fr 10 = .pv (.int .i64 l.length) → look fr 11 = .pv (.int .i64 i) → Wp T false (.loop f83l0) ⟨fr, hp, nx⟩ Q := by
  intro rest
  induction rest with
  | nil =>
    intro i hd hi ho fr hp nx hn h4 b1 h1 h9 h10 h11
    have hlen := drop_nil hd hi
    rw [Wp_loop, Wp_eq f83l0.eq_1]
    simp only [runL, opQ, evOp, evO, evOs, guardV, argsA, pvs, putS, cellsOf, scals, scal, Nat.reduceEqDiff, Nat.reduceAdd, reduceCtorEq, fieldA, nonNil, cellsAt, mkAgg, allPV, storeB, patchL, Int.reduceToNat, Nat.reduceMul, Nat.reduceLT, stepA, Int.reduceNeg, Int.reduceLE, Int.reduceLT, Int.reduceEq, extractV, mkAgg, Nat.reduceLeDiff, fillA, pureVs, pureV, eqV, eqB, lenV, binV, intBin, intV, idxA, List.drop, List.take, RetP, retP, resV, resOne, snapV, snapVs, snapR, snapRs, ownSz, pickV, AO.isC, opE, opD, funV, h4, h1, h9, h10, h11, hlen, Int.lt_irrefl]
    refine hend ho.symm _ _ _ ?_ b1
    simp only [look_if, Nat.reduceEqDiff, if_false, h4]
  | cons n r ih =>
    intro i hd hi ho fr hp nx hn h4 b1 h1 h9 h10 h11
    obtain ⟨hget, hlt, hw, hd', hi', hb⟩ := drop_cons hd hl
    have n1 : ¬ nx = 1 := by omega
    have b1' := b1
    simp only [wantC, want0, pvs] at b1'
    rw [Wp_loop, Wp_eq f83l0.eq_1]
    by_cases hk : n.pod = id
    · simp only [runL, opQ, evOp, evO, evOs, guardV, argsA, pvs, putS, cellsOf, scals, scal, Nat.reduceEqDiff, Nat.reduceAdd, reduceCtorEq, fieldA, nonNil, cellsAt, mkAgg, allPV, storeB, patchL, Int.reduceToNat, Nat.reduceMul, Nat.reduceLT, stepA, Int.reduceNeg, Int.reduceLE, Int.reduceLT, Int.reduceEq, extractV, mkAgg, Nat.reduceLeDiff, fillA, pureVs, pureV, eqV, eqB, lenV, binV, intBin, intV, idxA, List.drop, List.take, RetP, retP, resV, resOne, snapV, snapVs, snapR, snapRs, ownSz, pickV, AO.isC, opE, opD, funV, h4, b1', h1, h9, h10, h11, hlt, hget, wantC, n1, hk]
      refine hret n (by rw [← ho]; simp [wantOf, hk]) _ _ _ ?_ ?_ ?_
      all_goals simp only [look_if, blkAt_if, Nat.reduceEqDiff, if_true, if_false, h4, n1, wantC, pvs, hk]
    · simp only [runL, opQ, evOp, evO, evOs, guardV, argsA, pvs, putS, cellsOf, scals, scal, Nat.reduceEqDiff, Nat.reduceAdd, reduceCtorEq, fieldA, nonNil, cellsAt, mkAgg, allPV, storeB, patchL, Int.reduceToNat, Nat.reduceMul, Nat.reduceLT, stepA, Int.reduceNeg, Int.reduceLE, Int.reduceLT, Int.reduceEq, extractV, mkAgg, Nat.reduceLeDiff, fillA, pureVs, pureV, eqV, eqB, lenV, binV, intBin, intV, idxA, List.drop, List.take, RetP, retP, resV, resOne, snapV, snapVs, snapR, snapRs, ownSz, pickV, AO.isC, opE, opD, funV, h4, b1', h1, h9, h10, h11, hlt, hget, wantC, n1, hk, hw]
      refine ih (i + 1) hd' hi' (by rw [← ho]; simp [wantOf, hk]) _ _ _ (by omega) ?_ ?_ ?_ ?_ ?_ ?_
      all_goals simp only [look_if, blkAt_if, Nat.reduceEqDiff, if_true, if_false, h4, b1, n1, h1, h9, h10]
theorem want_ok {T : Tab} (h : Std T 83 f83) (x : Spec) (id : Int) (hl : x.wants.length ≤ 2 ^ 30) : Gives T 83 [specP x, .int .i64 id] (wantR (wantOf id x.wants)) := by
  refine gives h rfl ?_
  simp only [f83, runL, opQ, evOp, evO, evOs, guardV, argsA, pvs, putS, cellsOf, scals, scal, Nat.reduceEqDiff, Nat.reduceAdd, reduceCtorEq, fieldA, nonNil, cellsAt, mkAgg, allPV, storeB, patchL, Int.reduceToNat, Nat.reduceMul, Nat.reduceLT, stepA, Int.reduceNeg, Int.reduceLE, Int.reduceLT, Int.reduceEq, extractV, mkAgg, Nat.reduceLeDiff, fillA, pureVs, pureV, eqV, eqB, lenV, binV, intBin, intV, idxA, List.drop, List.take, RetP, retP, resV, resOne, snapV, snapVs, snapR, snapRs, ownSz, pickV, AO.isC, opE, opD, funV, specP]
  refine want_loop x.wants id hl _ (wantOf id x.wants) (fun ho fr hp nx h4 b1 => ?_) (fun n ho fr hp nx h4 h5 b1 => ?_) x.wants 0 rfl (Nat.zero_le _) rfl _ _ _ (Nat.le_refl _) rfl rfl rfl rfl rfl rfl
  · simp only [wantC, want0, pvs] at b1
    simp only [runL, opQ, evOp, evO, evOs, guardV, argsA, pvs, putS, cellsOf, scals, scal, Nat.reduceEqDiff, Nat.reduceAdd, reduceCtorEq, fieldA, nonNil, cellsAt, mkAgg, allPV, storeB, patchL, Int.reduceToNat, Nat.reduceMul, Nat.reduceLT, stepA, Int.reduceNeg, Int.reduceLE, Int.reduceLT, Int.reduceEq, extractV, mkAgg, Nat.reduceLeDiff, fillA, pureVs, pureV, eqV, eqB, lenV, binV, intBin, intV, idxA, List.drop, List.take, RetP, retP, resV, resOne, snapV, snapVs, snapR, snapRs, ownSz, pickV, AO.isC, opE, opD, funV, ho, wantR, h4, b1, wantC, want0]
  · simp only [wantC, pvs] at b1
    simp only [runL, opQ, evOp, evO, evOs, guardV, argsA, pvs, putS, cellsOf, scals, scal, Nat.reduceEqDiff, Nat.reduceAdd, reduceCtorEq, fieldA, nonNil, cellsAt, mkAgg, allPV, storeB, patchL, Int.reduceToNat, Nat.reduceMul, Nat.reduceLT, stepA, Int.reduceNeg, Int.reduceLE, Int.reduceLT, Int.reduceEq, extractV, mkAgg, Nat.reduceLeDiff, fillA, pureVs, pureV, eqV, eqB, lenV, binV, intBin, intV, idxA, List.drop, List.take, RetP, retP, resV, resOne, snapV, snapVs, snapR, snapRs, ownSz, pickV, AO.isC, opE, opD, funV, ho, wantR, h4, h5, b1, wantC]

/-! ### Moves -/
def formB (m : Move) : Bool := if m.kind = 2 then decide (m.node = 0) && decide (m.over = 0) else if m.kind = 1 ∨ m.kind = 3 then decide (m.over = 0) else decide (m.kind = 4)
theorem form_ok {T : Tab} (h243 : Std T 243 f243) (m : Move) : Gives T 243 [moveP m] (.bool (formB m)) := by
  refine gives h243 rfl ?_
  unfold formB
  by_cases k2 : m.kind = 2
  · by_cases n0 : m.node = 0 <;> by_cases o0 : m.over = 0 <;> simp only [f243, runL, opQ, evOp, evO, evOs, guardV, argsA, pvs, putS, cellsOf, scals, scal, Nat.reduceEqDiff, Nat.reduceAdd, reduceCtorEq, fieldA, nonNil, cellsAt, mkAgg, allPV, storeB, patchL, Int.reduceToNat, Nat.reduceMul, Nat.reduceLT, stepA, Int.reduceNeg, Int.reduceLE, Int.reduceLT, Int.reduceEq, extractV, mkAgg, Nat.reduceLeDiff, fillA, pureVs, pureV, eqV, eqB, lenV, binV, intBin, intV, idxA, List.drop, List.take, RetP, retP, resV, resOne, snapV, snapVs, snapR, snapRs, ownSz, pickV, AO.isC, opE, opD, funV, moveP, moveC, k2, n0, o0, Bool.and_true, Bool.and_false, Bool.false_and]
  · by_cases k1 : m.kind = 1
    · by_cases o0 : m.over = 0 <;> simp only [f243, runL, opQ, evOp, evO, evOs, guardV, argsA, pvs, putS, cellsOf, scals, scal, Nat.reduceEqDiff, Nat.reduceAdd, reduceCtorEq, fieldA, nonNil, cellsAt, mkAgg, allPV, storeB, patchL, Int.reduceToNat, Nat.reduceMul, Nat.reduceLT, stepA, Int.reduceNeg, Int.reduceLE, Int.reduceLT, Int.reduceEq, extractV, mkAgg, Nat.reduceLeDiff, fillA, pureVs, pureV, eqV, eqB, lenV, binV, intBin, intV, idxA, List.drop, List.take, RetP, retP, resV, resOne, snapV, snapVs, snapR, snapRs, ownSz, pickV, AO.isC, opE, opD, funV, moveP, moveC, k1, o0, true_or]
    · by_cases k3 : m.kind = 3
      · by_cases o0 : m.over = 0 <;> simp only [f243, runL, opQ, evOp, evO, evOs, guardV, argsA, pvs, putS, cellsOf, scals, scal, Nat.reduceEqDiff, Nat.reduceAdd, reduceCtorEq, fieldA, nonNil, cellsAt, mkAgg, allPV, storeB, patchL, Int.reduceToNat, Nat.reduceMul, Nat.reduceLT, stepA, Int.reduceNeg, Int.reduceLE, Int.reduceLT, Int.reduceEq, extractV, mkAgg, Nat.reduceLeDiff, fillA, pureVs, pureV, eqV, eqB, lenV, binV, intBin, intV, idxA, List.drop, List.take, RetP, retP, resV, resOne, snapV, snapVs, snapR, snapRs, ownSz, pickV, AO.isC, opE, opD, funV, moveP, moveC, k3, o0, or_true]
      · by_cases k4 : m.kind = 4 <;> simp only [f243, runL, opQ, evOp, evO, evOs, guardV, argsA, pvs, putS, cellsOf, scals, scal, Nat.reduceEqDiff, Nat.reduceAdd, reduceCtorEq, fieldA, nonNil, cellsAt, mkAgg, allPV, storeB, patchL, Int.reduceToNat, Nat.reduceMul, Nat.reduceLT, stepA, Int.reduceNeg, Int.reduceLE, Int.reduceLT, Int.reduceEq, extractV, mkAgg, Nat.reduceLeDiff, fillA, pureVs, pureV, eqV, eqB, lenV, binV, intBin, intV, idxA, List.drop, List.take, RetP, retP, resV, resOne, snapV, snapVs, snapR, snapRs, ownSz, pickV, AO.isC, opE, opD, funV, moveP, moveC, k1, k2, k3, k4, or_false]

/-- A pod comes to a node. -/
def comeS (x : Spec) (p : Pod) (node : Int) : Pod := match wantOf p.id x.wants with
  | some w => if w.stay = true then { p with node := node, req := w.req } else { p with node := node }
  | none => { p with node := node }
theorem come_ok {T : Tab} (h242 : StdR T 242 f242) (h83 : Std T 83 f83) (x : Spec) (hx : x.wants.length ≤ 2 ^ 30) (pods : List Pod) (i id : Nat) (p : Pod) (hi : pods[i]? = some p) (node : Int) (hp : Hl) (nx : Nat) (hid : id < nx) (hb : blkAt hp id = .row 8 (pods.map podC)) :
    ∃ v hp' nx', D T 242 [.pv (specP x), .ptr id i 0, .pv (.int .i64 node)] hp nx = some (v, hp', nx') ∧ nx ≤ nx' ∧ blkAt hp' id = .row 8 ((pods.set i (comeS x p node)).map podC) ∧ ∀ j, j < nx → j ≠ id → blkAt hp' j = blkAt hp j := by
  refine D_wp h242 rfl ?_
  have k := want_ok h83 x p.id hx
  have e1 : ¬ id = nx := by omega
  have e2 : ¬ nx = id := by omega
  have hset : (pods.map podC)[i]? = some (podC p) := by rw [List.getElem?_map, hi]; rfl
  simp only [f242, runL, opQ, evOp, evO, evOs, guardV, argsA, pvs, putS, cellsOf, scals, scal, Nat.reduceEqDiff, Nat.reduceAdd, reduceCtorEq, fieldA, nonNil, cellsAt, mkAgg, allPV, storeB, patchL, Int.reduceToNat, Nat.reduceMul, Nat.reduceLT, stepA, Int.reduceNeg, Int.reduceLE, Int.reduceLT, Int.reduceEq, extractV, mkAgg, Nat.reduceLeDiff, fillA, pureVs, pureV, eqV, eqB, lenV, binV, intBin, intV, idxA, List.drop, List.take, RetP, retP, resV, resOne, snapV, snapVs, snapR, snapRs, ownSz, pickV, AO.isC, opE, opD, funV, specP, hb, e2, hi, podC]
  refine Wp_draw.2 ?_
  have g1 : ∀ v : List PV, ((pods.map podC).set i v)[i]? = some v := fun v => by
    have : i < (pods.map podC).length := (List.getElem?_eq_some_iff.1 hset).1
    rw [List.getElem?_set_self this]
  have g2 : ∀ u v : List PV, (((pods.map podC).set i u).set i v) = (pods.map podC).set i v := fun u v => List.set_set ..
  have g3 : ∀ q : Pod, (pods.map podC).set i (podC q) = (pods.set i q).map podC := fun q => (List.map_set).symm
  have e3 : ¬ nx + 1 = id := by omega
  have e4 : ¬ id = nx + 1 := by omega
  cases hw : wantOf p.id x.wants with
  | none =>
    rw [hw] at k
    simp only [runL, opQ, evOp, evO, evOs, guardV, argsA, pvs, putS, cellsOf, scals, scal, Nat.reduceEqDiff, Nat.reduceAdd, reduceCtorEq, fieldA, nonNil, cellsAt, mkAgg, allPV, storeB, patchL, Int.reduceToNat, Nat.reduceMul, Nat.reduceLT, stepA, Int.reduceNeg, Int.reduceLE, Int.reduceLT, Int.reduceEq, extractV, mkAgg, Nat.reduceLeDiff, fillA, pureVs, pureV, eqV, eqB, lenV, binV, intBin, intV, idxA, List.drop, List.take, RetP, retP, resV, resOne, snapV, snapVs, snapR, snapRs, ownSz, pickV, AO.isC, opE, opD, funV, specP, hb, e1, e2, e3, e4, hi, podC, g1, k.callE, wantR, wantC, want0]
    refine ⟨?_, ?_⟩
    · simp only [chkFrom, allLt, storeB', restOK, mem, indepB, En.reads, aTmps, aTmpsL, aTmpsP, aTmpsO, gTmps, AO.tmps, disj, keys, optL, rdEv, idOf, List.reverse_cons, List.reverse_nil, List.nil_append, List.cons_append, List.append_nil, runL, opQ, evOp, evO, evOs, guardV, argsA, pvs, putS, cellsOf, scals, scal, Nat.reduceEqDiff, Nat.reduceAdd, reduceCtorEq, fieldA, nonNil, cellsAt, mkAgg, allPV, storeB, patchL, Int.reduceToNat, Nat.reduceMul, Nat.reduceLT, stepA, Int.reduceNeg, Int.reduceLE, Int.reduceLT, Int.reduceEq, extractV, mkAgg, Nat.reduceLeDiff, fillA, pureVs, pureV, eqV, eqB, lenV, binV, intBin, intV, idxA, List.drop, List.take, RetP, retP, resV, resOne, snapV, snapVs, snapR, snapRs, ownSz, pickV, AO.isC, opE, opD, funV, e1, e2, e3, e4, Bool.and_true, Bool.true_and]; rfl
    · simp only [RawQ, rawq, runL, opQ, evOp, evO, evOs, guardV, argsA, pvs, putS, cellsOf, scals, scal, Nat.reduceEqDiff, Nat.reduceAdd, reduceCtorEq, fieldA, nonNil, cellsAt, mkAgg, allPV, storeB, patchL, Int.reduceToNat, Nat.reduceMul, Nat.reduceLT, stepA, Int.reduceNeg, Int.reduceLE, Int.reduceLT, Int.reduceEq, extractV, mkAgg, Nat.reduceLeDiff, fillA, pureVs, pureV, eqV, eqB, lenV, binV, intBin, intV, idxA, List.drop, List.take, RetP, retP, resV, resOne, snapV, snapVs, snapR, snapRs, ownSz, pickV, AO.isC, opE, opD, funV, blkAt_if, e1, e2, e3, e4]
      refine ⟨by omega, ?_, fun j hj hne => ?_⟩
      · rw [← g3]; simp only [comeS, hw, podC]
      · have : ¬ nx + 1 = j := by omega
        have : ¬ nx = j := by omega
        have : ¬ id = j := fun h => hne h.symm
        simp only [blkAt_if, *, if_false]
  | some w =>
    rw [hw] at k
    cases hst : w.stay
    · simp only [runL, opQ, evOp, evO, evOs, guardV, argsA, pvs, putS, cellsOf, scals, scal, Nat.reduceEqDiff, Nat.reduceAdd, reduceCtorEq, fieldA, nonNil, cellsAt, mkAgg, allPV, storeB, patchL, Int.reduceToNat, Nat.reduceMul, Nat.reduceLT, stepA, Int.reduceNeg, Int.reduceLE, Int.reduceLT, Int.reduceEq, extractV, mkAgg, Nat.reduceLeDiff, fillA, pureVs, pureV, eqV, eqB, lenV, binV, intBin, intV, idxA, List.drop, List.take, RetP, retP, resV, resOne, snapV, snapVs, snapR, snapRs, ownSz, pickV, AO.isC, opE, opD, funV, specP, hb, e1, e2, e3, e4, hi, podC, g1, k.callE, wantR, wantC, hst]
      refine ⟨?_, ?_⟩
      · simp only [chkFrom, allLt, storeB', restOK, mem, indepB, En.reads, aTmps, aTmpsL, aTmpsP, aTmpsO, gTmps, AO.tmps, disj, keys, optL, rdEv, idOf, List.reverse_cons, List.reverse_nil, List.nil_append, List.cons_append, List.append_nil, runL, opQ, evOp, evO, evOs, guardV, argsA, pvs, putS, cellsOf, scals, scal, Nat.reduceEqDiff, Nat.reduceAdd, reduceCtorEq, fieldA, nonNil, cellsAt, mkAgg, allPV, storeB, patchL, Int.reduceToNat, Nat.reduceMul, Nat.reduceLT, stepA, Int.reduceNeg, Int.reduceLE, Int.reduceLT, Int.reduceEq, extractV, mkAgg, Nat.reduceLeDiff, fillA, pureVs, pureV, eqV, eqB, lenV, binV, intBin, intV, idxA, List.drop, List.take, RetP, retP, resV, resOne, snapV, snapVs, snapR, snapRs, ownSz, pickV, AO.isC, opE, opD, funV, e1, e2, e3, e4, Bool.and_true, Bool.true_and]; rfl
      · simp only [RawQ, rawq, runL, opQ, evOp, evO, evOs, guardV, argsA, pvs, putS, cellsOf, scals, scal, Nat.reduceEqDiff, Nat.reduceAdd, reduceCtorEq, fieldA, nonNil, cellsAt, mkAgg, allPV, storeB, patchL, Int.reduceToNat, Nat.reduceMul, Nat.reduceLT, stepA, Int.reduceNeg, Int.reduceLE, Int.reduceLT, Int.reduceEq, extractV, mkAgg, Nat.reduceLeDiff, fillA, pureVs, pureV, eqV, eqB, lenV, binV, intBin, intV, idxA, List.drop, List.take, RetP, retP, resV, resOne, snapV, snapVs, snapR, snapRs, ownSz, pickV, AO.isC, opE, opD, funV, blkAt_if, e1, e2, e3, e4]
        refine ⟨by omega, ?_, fun j hj hne => ?_⟩
        · rw [← g3]; simp only [comeS, hw, podC, hst, Bool.false_eq_true, if_false]
        · have : ¬ nx + 1 = j := by omega
          have : ¬ nx = j := by omega
          have : ¬ id = j := fun h => hne h.symm
          simp only [blkAt_if, *, if_false]
    · simp only [runL, opQ, evOp, evO, evOs, guardV, argsA, pvs, putS, cellsOf, scals, scal, Nat.reduceEqDiff, Nat.reduceAdd, reduceCtorEq, fieldA, nonNil, cellsAt, mkAgg, allPV, storeB, patchL, Int.reduceToNat, Nat.reduceMul, Nat.reduceLT, stepA, Int.reduceNeg, Int.reduceLE, Int.reduceLT, Int.reduceEq, extractV, mkAgg, Nat.reduceLeDiff, fillA, pureVs, pureV, eqV, eqB, lenV, binV, intBin, intV, idxA, List.drop, List.take, RetP, retP, resV, resOne, snapV, snapVs, snapR, snapRs, ownSz, pickV, AO.isC, opE, opD, funV, specP, hb, e1, e2, e3, e4, hi, podC, g1, k.callE, wantR, wantC, hst]
      refine ⟨?_, ?_⟩
      · simp only [chkFrom, allLt, storeB', restOK, mem, indepB, En.reads, aTmps, aTmpsL, aTmpsP, aTmpsO, gTmps, AO.tmps, disj, keys, optL, rdEv, idOf, List.reverse_cons, List.reverse_nil, List.nil_append, List.cons_append, List.append_nil, runL, opQ, evOp, evO, evOs, guardV, argsA, pvs, putS, cellsOf, scals, scal, Nat.reduceEqDiff, Nat.reduceAdd, reduceCtorEq, fieldA, nonNil, cellsAt, mkAgg, allPV, storeB, patchL, Int.reduceToNat, Nat.reduceMul, Nat.reduceLT, stepA, Int.reduceNeg, Int.reduceLE, Int.reduceLT, Int.reduceEq, extractV, mkAgg, Nat.reduceLeDiff, fillA, pureVs, pureV, eqV, eqB, lenV, binV, intBin, intV, idxA, List.drop, List.take, RetP, retP, resV, resOne, snapV, snapVs, snapR, snapRs, ownSz, pickV, AO.isC, opE, opD, funV, e1, e2, e3, e4, Bool.and_true, Bool.true_and]; rfl
      · simp only [RawQ, rawq, runL, opQ, evOp, evO, evOs, guardV, argsA, pvs, putS, cellsOf, scals, scal, Nat.reduceEqDiff, Nat.reduceAdd, reduceCtorEq, fieldA, nonNil, cellsAt, mkAgg, allPV, storeB, patchL, Int.reduceToNat, Nat.reduceMul, Nat.reduceLT, stepA, Int.reduceNeg, Int.reduceLE, Int.reduceLT, Int.reduceEq, extractV, mkAgg, Nat.reduceLeDiff, fillA, pureVs, pureV, eqV, eqB, lenV, binV, intBin, intV, idxA, List.drop, List.take, RetP, retP, resV, resOne, snapV, snapVs, snapR, snapRs, ownSz, pickV, AO.isC, opE, opD, funV, blkAt_if, e1, e2, e3, e4]
        refine ⟨by omega, ?_, fun j hj hne => ?_⟩
        · rw [← g3, g2]; simp only [comeS, hw, podC, hst, if_true]
        · have : ¬ nx + 1 = j := by omega
          have : ¬ nx = j := by omega
          have : ¬ id = j := fun h => hne h.symm
          simp only [blkAt_if, *, if_false]

theorem Cln.callN {T : Tab} {n sz : Nat} (S : Cln T n sz) {es : List (List PV)} (h : allLen sz es = true) (hl : es.length ≤ 2 ^ 30) (hne : es ≠ []) (d : Option Nat) (l : List AOper) (st : St) (K : St → Prop) :
    callQ T n [.pv (.slice es)] d l st K ↔ WpO T l ⟨putS st d (.ms st.nx), (st.nx, .row sz es) :: st.hp, st.nx + 1⟩ K := by
  rw [S.call h hl]
  cases es with
  | nil => exact absurd rfl hne
  | cons e r => exact Iff.rfl
theorem come_call {T : Tab} (h242 : StdR T 242 f242) (h83 : Std T 83 f83) (x : Spec) (hx : x.wants.length ≤ 2 ^ 30) (pods : List Pod) (i id : Nat) (p : Pod) (hi : pods[i]? = some p) (node : Int) {d : Option Nat} {l : List AOper} {st : St} {K : St → Prop}
    (hid : id < st.nx) (hb : blkAt st.hp id = .row 8 (pods.map podC))
    (h : ∀ v hp' nx', st.nx ≤ nx' → blkAt hp' id = .row 8 ((pods.set i (comeS x p node)).map podC) → (∀ j, j < st.nx → j ≠ id → blkAt hp' j = blkAt st.hp j) → WpO T l ⟨putS st d v, hp', nx'⟩ K) :
    callQ T 242 [.pv (specP x), .ptr id i 0, .pv (.int .i64 node)] d l st K := by
  obtain ⟨v, hp', nx', hD, h1, h2, h3⟩ := come_ok h242 h83 x hx pods i id p hi node st.hp st.nx hid hb
  exact (callQ_raw h242.raw hD).2 (h v hp' nx' h1 h2 h3)

/-- What a move makes: an error, or the state. -/
def makeS (s : Snap) (x : Spec) (t : State) (m : Move) : Int ⊕ State :=
  if formB m = false then .inl 1 else
  if placeFrom m.pod 0 t.pods < 0 then .inl 4 else
  if m.kind ≠ 2 ∧ nodeOf m.node s.nodes = none then .inl 4 else
  if m.kind = 4 ∧ placeFrom m.over 0 t.pods < 0 then .inl 4 else
  match t.pods[(placeFrom m.pod 0 t.pods).toNat]? with
  | none => .inl 0
  | some p =>
    if m.kind = 2 then (if p.node = 0 then .inl 7 else .inr ⟨t.pods.set (placeFrom m.pod 0 t.pods).toNat { p with node := 0 }, t.pre, t.shi⟩)
    else if m.kind = 3 then (if p.node = 0 then .inl 7 else if p.node = m.node then .inl 7 else .inr ⟨t.pods.set (placeFrom m.pod 0 t.pods).toNat (comeS x p m.node), t.pre, IntKind.i64.wrap (t.shi + 1)⟩)
    else if m.kind = 4 then
      match t.pods[(placeFrom m.over 0 t.pods).toNat]? with
      | none => .inl 0
      | some q => if (placeFrom m.pod 0 t.pods).toNat = (placeFrom m.over 0 t.pods).toNat then .inl 7 else if q.node ≠ m.node then .inl 7 else if p.node ≠ 0 then .inl 7
        else .inr ⟨(t.pods.set (placeFrom m.over 0 t.pods).toNat { q with node := 0 }).set (placeFrom m.pod 0 t.pods).toNat (comeS x p m.node), IntKind.i64.wrap (t.pre + 1), t.shi⟩
    else if p.node ≠ 0 then .inl 7 else .inr ⟨t.pods.set (placeFrom m.pod 0 t.pods).toNat (comeS x p m.node), t.pre, t.shi⟩
def makeR : Int ⊕ State → PV
  | .inl c => .tuple [stateP ⟨[], 0, 0⟩, codeE c]
  | .inr u => .tuple [stateP u, .nili]

structure StdM (T : Tab) : Prop where
  s5 : Std5 T
  h82 : Std T 82 f82
  h83 : Std T 83 f83
  h239 : Std T 239 f239
  h242 : StdR T 242 f242
  h243 : Std T 243 f243
  h279 : Cln T 279 8

set_option maxRecDepth 100000 in
set_option maxHeartbeats 4000000 in
theorem make_ok {T : Tab} (S : StdM T) (s : Snap) (x : Spec) (t : State) (m : Move) (hs : s.nodes.length ≤ 2 ^ 30) (hx : x.wants.length ≤ 2 ^ 30) (ht : t.pods.length ≤ 2 ^ 30) :
    Gives T 239 [snapP s, specP x, stateP t, moveP m] (makeR (makeS s x t m)) := by
  refine gives S.h239 rfl ?_
  have kp := place5_ok S.s5 t m.pod ht
  have ko := place5_ok S.s5 t m.over ht
  have kn := node_ok S.h82 s m.node hs
  have kf := form_ok S.h243 m
  simp only [stateP] at kp ko
  simp only [snapP] at kn
  simp only [moveP, moveC] at kf
  simp only [f239, runL, opQ, evOp, evO, evOs, guardV, argsA, pvs, putS, cellsOf, scals, scal, Nat.reduceEqDiff, Nat.reduceAdd, reduceCtorEq, fieldA, nonNil, cellsAt, mkAgg, allPV, storeB, patchL, Int.reduceToNat, Nat.reduceMul, Nat.reduceLT, stepA, Int.reduceNeg, Int.reduceLE, Int.reduceLT, Int.reduceEq, extractV, mkAgg, Nat.reduceLeDiff, fillA, pureVs, pureV, eqV, eqB, lenV, binV, intBin, intV, idxA, List.drop, List.take, RetP, retP, resV, resOne, snapV, snapVs, snapR, snapRs, ownSz, pickV, AO.isC, opE, opD, funV, snapP, specP, stateP, moveP, moveC]
  refine (Wp_calm rfl).2 ?_
  obtain ⟨N, hN⟩ : ∃ N : Node, nodeR (nodeOf m.node s.nodes) = .tuple [.agg (nodeC N), .bool (nodeOf m.node s.nodes).isSome] := by
    cases nodeOf m.node s.nodes with
    | none => exact ⟨node0, rfl⟩
    | some n => exact ⟨n, rfl⟩
  rw [hN] at kn
  simp only [nodeC] at kn
  cases hform : formB m
  · have hm : makeS s x t m = .inl 1 := by unfold makeS; rw [if_pos hform]
    rw [hform] at kf
    simp only [runL, opQ, evOp, evO, evOs, guardV, argsA, pvs, putS, cellsOf, scals, scal, Nat.reduceEqDiff, Nat.reduceAdd, reduceCtorEq, fieldA, nonNil, cellsAt, mkAgg, allPV, storeB, patchL, Int.reduceToNat, Nat.reduceMul, Nat.reduceLT, stepA, Int.reduceNeg, Int.reduceLE, Int.reduceLT, Int.reduceEq, extractV, mkAgg, Nat.reduceLeDiff, fillA, pureVs, pureV, eqV, eqB, lenV, binV, intBin, intV, idxA, List.drop, List.take, RetP, retP, resV, resOne, snapV, snapVs, snapR, snapRs, ownSz, pickV, AO.isC, opE, opD, funV, kp.callD, ko.callD, kn.call, kf.call, hm, makeR, codeE, stateP, List.map_nil]
  · rw [hform] at kf
    have hnf : ¬ (formB m = false) := by rw [hform]; simp
    by_cases hi : placeFrom m.pod 0 t.pods < 0
    · have hm : makeS s x t m = .inl 4 := by unfold makeS; rw [if_neg hnf, if_pos hi]
      simp only [runL, opQ, evOp, evO, evOs, guardV, argsA, pvs, putS, cellsOf, scals, scal, Nat.reduceEqDiff, Nat.reduceAdd, reduceCtorEq, fieldA, nonNil, cellsAt, mkAgg, allPV, storeB, patchL, Int.reduceToNat, Nat.reduceMul, Nat.reduceLT, stepA, Int.reduceNeg, Int.reduceLE, Int.reduceLT, Int.reduceEq, extractV, mkAgg, Nat.reduceLeDiff, fillA, pureVs, pureV, eqV, eqB, lenV, binV, intBin, intV, idxA, List.drop, List.take, RetP, retP, resV, resOne, snapV, snapVs, snapR, snapRs, ownSz, pickV, AO.isC, opE, opD, funV, kp.callD, ko.callD, kn.call, kf.call, hm, makeR, codeE, stateP, List.map_nil, hi]
    · obtain ⟨j, p, hget, hP, hj⟩ : ∃ (j : Nat) (p : Pod), t.pods[j]? = some p ∧ placeFrom m.pod 0 t.pods = (j : Int) ∧ j < t.pods.length := by
        rcases placeFrom_cases m.pod t.pods 0 with ⟨_, h⟩ | ⟨j, p, h1, _, h3, h4⟩
        · omega
        · exact ⟨j, p, h1, by rw [h3, Nat.zero_add], h4⟩
      have hne : t.pods.map podC ≠ [] := by
        intro h
        rw [List.map_eq_nil_iff] at h
        rw [h] at hj
        simp at hj
      have hj0 : ¬ ((j : Int) < 0) := by omega
      have hset : (t.pods.map podC)[j]? = some (podC p) := by rw [List.getElem?_map, hget]; rfl
      have hlen : (t.pods.map podC).length ≤ 2 ^ 30 := by rw [List.length_map]; exact ht
      have hjl : j < t.pods.length := hj
      have g3 : ∀ (i : Nat) (q : Pod), (t.pods.map podC).set i (podC q) = (t.pods.set i q).map podC := fun i q => (List.map_set).symm
      by_cases k2 : m.kind = 2
      · by_cases c1 : p.node = 0
        · have hm : makeS s x t m = .inl 7 := by
            unfold makeS
            rw [if_neg hnf, if_neg hi, if_neg (by simp [k2]), if_neg (by simp [k2]), hP]
            simp only [Int.toNat_natCast, hget, k2, if_true, c1]
          simp only [runL, opQ, evOp, evO, evOs, guardV, argsA, pvs, putS, cellsOf, scals, scal, Nat.reduceEqDiff, Nat.reduceAdd, reduceCtorEq, fieldA, nonNil, cellsAt, mkAgg, allPV, storeB, patchL, Int.reduceToNat, Nat.reduceMul, Nat.reduceLT, stepA, Int.reduceNeg, Int.reduceLE, Int.reduceLT, Int.reduceEq, extractV, mkAgg, Nat.reduceLeDiff, fillA, pureVs, pureV, eqV, eqB, lenV, binV, intBin, intV, idxA, List.drop, List.take, RetP, retP, resV, resOne, snapV, snapVs, snapR, snapRs, ownSz, pickV, AO.isC, opE, opD, funV, kp.callD, ko.callD, kn.call, kf.call, hP, hj0, k2, hget, podC]
          rw [S.h279.callN (allLen_pods _) hlen hne]
          simp only [runL, opQ, evOp, evO, evOs, guardV, argsA, pvs, putS, cellsOf, scals, scal, Nat.reduceEqDiff, Nat.reduceAdd, reduceCtorEq, fieldA, nonNil, cellsAt, mkAgg, allPV, storeB, patchL, Int.reduceToNat, Nat.reduceMul, Nat.reduceLT, stepA, Int.reduceNeg, Int.reduceLE, Int.reduceLT, Int.reduceEq, extractV, mkAgg, Nat.reduceLeDiff, fillA, pureVs, pureV, eqV, eqB, lenV, binV, intBin, intV, idxA, List.drop, List.take, RetP, retP, resV, resOne, snapV, snapVs, snapR, snapRs, ownSz, pickV, AO.isC, opE, opD, funV, hget, podC, hm, makeR, codeE, stateP, List.map_nil, hjl, k2, c1]
        · have hm : makeS s x t m = .inr ⟨t.pods.set j { p with node := 0 }, t.pre, t.shi⟩ := by
            unfold makeS
            rw [if_neg hnf, if_neg hi, if_neg (by simp [k2]), if_neg (by simp [k2]), hP]
            simp only [Int.toNat_natCast, hget, k2, if_true, c1, if_false]
          have e1 := g3 j { p with node := 0 }
          simp only [podC] at e1
          simp only [runL, opQ, evOp, evO, evOs, guardV, argsA, pvs, putS, cellsOf, scals, scal, Nat.reduceEqDiff, Nat.reduceAdd, reduceCtorEq, fieldA, nonNil, cellsAt, mkAgg, allPV, storeB, patchL, Int.reduceToNat, Nat.reduceMul, Nat.reduceLT, stepA, Int.reduceNeg, Int.reduceLE, Int.reduceLT, Int.reduceEq, extractV, mkAgg, Nat.reduceLeDiff, fillA, pureVs, pureV, eqV, eqB, lenV, binV, intBin, intV, idxA, List.drop, List.take, RetP, retP, resV, resOne, snapV, snapVs, snapR, snapRs, ownSz, pickV, AO.isC, opE, opD, funV, kp.callD, ko.callD, kn.call, kf.call, hP, hj0, k2, hget, podC]
          rw [S.h279.callN (allLen_pods _) hlen hne]
          simp only [runL, opQ, evOp, evO, evOs, guardV, argsA, pvs, putS, cellsOf, scals, scal, Nat.reduceEqDiff, Nat.reduceAdd, reduceCtorEq, fieldA, nonNil, cellsAt, mkAgg, allPV, storeB, patchL, Int.reduceToNat, Nat.reduceMul, Nat.reduceLT, stepA, Int.reduceNeg, Int.reduceLE, Int.reduceLT, Int.reduceEq, extractV, mkAgg, Nat.reduceLeDiff, fillA, pureVs, pureV, eqV, eqB, lenV, binV, intBin, intV, idxA, List.drop, List.take, RetP, retP, resV, resOne, snapV, snapVs, snapR, snapRs, ownSz, pickV, AO.isC, opE, opD, funV, hget, podC, hm, makeR, codeE, stateP, hjl, k2, c1]
          rw [e1]
      · cases hno : nodeOf m.node s.nodes with
        | none =>
          have hm : makeS s x t m = .inl 4 := by
            unfold makeS
            rw [if_neg hnf, if_neg hi, if_pos ⟨k2, hno⟩]
          rw [hno] at kn
          simp only [Option.isSome_none] at kn
          simp only [runL, opQ, evOp, evO, evOs, guardV, argsA, pvs, putS, cellsOf, scals, scal, Nat.reduceEqDiff, Nat.reduceAdd, reduceCtorEq, fieldA, nonNil, cellsAt, mkAgg, allPV, storeB, patchL, Int.reduceToNat, Nat.reduceMul, Nat.reduceLT, stepA, Int.reduceNeg, Int.reduceLE, Int.reduceLT, Int.reduceEq, extractV, mkAgg, Nat.reduceLeDiff, fillA, pureVs, pureV, eqV, eqB, lenV, binV, intBin, intV, idxA, List.drop, List.take, RetP, retP, resV, resOne, snapV, snapVs, snapR, snapRs, ownSz, pickV, AO.isC, opE, opD, funV, kp.callD, ko.callD, kn.call, kf.call, hP, hj0, k2, hm, makeR, codeE, stateP, List.map_nil]
        | some nn =>
          rw [hno] at kn
          simp only [Option.isSome_some] at kn
          have hnn : ¬ (m.kind ≠ 2 ∧ nodeOf m.node s.nodes = none) := by rw [hno]; simp
          by_cases k4 : m.kind = 4
          · by_cases hov : placeFrom m.over 0 t.pods < 0
            · have hm : makeS s x t m = .inl 4 := by
                unfold makeS
                rw [if_neg hnf, if_neg hi, if_neg hnn, if_pos ⟨k4, hov⟩]
              simp only [runL, opQ, evOp, evO, evOs, guardV, argsA, pvs, putS, cellsOf, scals, scal, Nat.reduceEqDiff, Nat.reduceAdd, reduceCtorEq, fieldA, nonNil, cellsAt, mkAgg, allPV, storeB, patchL, Int.reduceToNat, Nat.reduceMul, Nat.reduceLT, stepA, Int.reduceNeg, Int.reduceLE, Int.reduceLT, Int.reduceEq, extractV, mkAgg, Nat.reduceLeDiff, fillA, pureVs, pureV, eqV, eqB, lenV, binV, intBin, intV, idxA, List.drop, List.take, RetP, retP, resV, resOne, snapV, snapVs, snapR, snapRs, ownSz, pickV, AO.isC, opE, opD, funV, kp.callD, ko.callD, kn.call, kf.call, hP, hj0, k4, hov, hm, makeR, codeE, stateP, List.map_nil]
            · obtain ⟨k, q, hgk, hK, hk⟩ : ∃ (k : Nat) (q : Pod), t.pods[k]? = some q ∧ placeFrom m.over 0 t.pods = (k : Int) ∧ k < t.pods.length := by
                rcases placeFrom_cases m.over t.pods 0 with ⟨_, h⟩ | ⟨k, q, h1, _, h3, h4⟩
                · omega
                · exact ⟨k, q, h1, by rw [h3, Nat.zero_add], h4⟩
              have hk0 : ¬ ((k : Int) < 0) := by omega
              have hno4 : ¬ (m.kind = 4 ∧ placeFrom m.over 0 t.pods < 0) := fun h => hov h.2
              by_cases c0 : j = k
              · have hm : makeS s x t m = .inl 7 := by
                  unfold makeS
                  rw [if_neg hnf, if_neg hi, if_neg hnn, if_neg hno4, hP, hK]
                  subst c0
                  simp [hget, k4]
                simp only [runL, opQ, evOp, evO, evOs, guardV, argsA, pvs, putS, cellsOf, scals, scal, Nat.reduceEqDiff, Nat.reduceAdd, reduceCtorEq, fieldA, nonNil, cellsAt, mkAgg, allPV, storeB, patchL, Int.reduceToNat, Nat.reduceMul, Nat.reduceLT, stepA, Int.reduceNeg, Int.reduceLE, Int.reduceLT, Int.reduceEq, extractV, mkAgg, Nat.reduceLeDiff, fillA, pureVs, pureV, eqV, eqB, lenV, binV, intBin, intV, idxA, List.drop, List.take, RetP, retP, resV, resOne, snapV, snapVs, snapR, snapRs, ownSz, pickV, AO.isC, opE, opD, funV, kp.callD, ko.callD, kn.call, kf.call, hP, hK, hj0, hk0, k4, hget, podC]
                rw [S.h279.callN (allLen_pods _) hlen hne]
                simp only [runL, opQ, evOp, evO, evOs, guardV, argsA, pvs, putS, cellsOf, scals, scal, Nat.reduceEqDiff, Nat.reduceAdd, reduceCtorEq, fieldA, nonNil, cellsAt, mkAgg, allPV, storeB, patchL, Int.reduceToNat, Nat.reduceMul, Nat.reduceLT, stepA, Int.reduceNeg, Int.reduceLE, Int.reduceLT, Int.reduceEq, extractV, mkAgg, Nat.reduceLeDiff, fillA, pureVs, pureV, eqV, eqB, lenV, binV, intBin, intV, idxA, List.drop, List.take, RetP, retP, resV, resOne, snapV, snapVs, snapR, snapRs, ownSz, pickV, AO.isC, opE, opD, funV, hget, podC, hjl, k4]
                refine (Wp_calm rfl).2 ?_
                simp only [runL, opQ, evOp, evO, evOs, guardV, argsA, pvs, putS, cellsOf, scals, scal, Nat.reduceEqDiff, Nat.reduceAdd, reduceCtorEq, fieldA, nonNil, cellsAt, mkAgg, allPV, storeB, patchL, Int.reduceToNat, Nat.reduceMul, Nat.reduceLT, stepA, Int.reduceNeg, Int.reduceLE, Int.reduceLT, Int.reduceEq, extractV, mkAgg, Nat.reduceLeDiff, fillA, pureVs, pureV, eqV, eqB, lenV, binV, intBin, intV, idxA, List.drop, List.take, RetP, retP, resV, resOne, snapV, snapVs, snapR, snapRs, ownSz, pickV, AO.isC, opE, opD, funV, hget, podC, hm, makeR, codeE, stateP, List.map_nil, hjl, k4, c0]
              · by_cases c1 : q.node = m.node
                · by_cases c2 : p.node = 0
                  · have hm : makeS s x t m = .inr ⟨(t.pods.set k { q with node := 0 }).set j (comeS x p m.node), IntKind.i64.wrap (t.pre + 1), t.shi⟩ := by
                      unfold makeS
                      rw [if_neg hnf, if_neg hi, if_neg hnn, if_neg hno4, hP, hK]
                      simp [hget, hgk, k4, c0, c1, c2]
                    have e1 := g3 k { q with node := 0 }
                    simp only [podC] at e1
                    have hget' : (t.pods.set k { q with node := 0 })[j]? = some p := by rw [List.getElem?_set_ne (fun h => c0 h.symm)]; exact hget
                    simp only [runL, opQ, evOp, evO, evOs, guardV, argsA, pvs, putS, cellsOf, scals, scal, Nat.reduceEqDiff, Nat.reduceAdd, reduceCtorEq, fieldA, nonNil, cellsAt, mkAgg, allPV, storeB, patchL, Int.reduceToNat, Nat.reduceMul, Nat.reduceLT, stepA, Int.reduceNeg, Int.reduceLE, Int.reduceLT, Int.reduceEq, extractV, mkAgg, Nat.reduceLeDiff, fillA, pureVs, pureV, eqV, eqB, lenV, binV, intBin, intV, idxA, List.drop, List.take, RetP, retP, resV, resOne, snapV, snapVs, snapR, snapRs, ownSz, pickV, AO.isC, opE, opD, funV, kp.callD, ko.callD, kn.call, kf.call, hP, hK, hj0, hk0, k4, hget, podC]
                    rw [S.h279.callN (allLen_pods _) hlen hne]
                    simp only [runL, opQ, evOp, evO, evOs, guardV, argsA, pvs, putS, cellsOf, scals, scal, Nat.reduceEqDiff, Nat.reduceAdd, reduceCtorEq, fieldA, nonNil, cellsAt, mkAgg, allPV, storeB, patchL, Int.reduceToNat, Nat.reduceMul, Nat.reduceLT, stepA, Int.reduceNeg, Int.reduceLE, Int.reduceLT, Int.reduceEq, extractV, mkAgg, Nat.reduceLeDiff, fillA, pureVs, pureV, eqV, eqB, lenV, binV, intBin, intV, idxA, List.drop, List.take, RetP, retP, resV, resOne, snapV, snapVs, snapR, snapRs, ownSz, pickV, AO.isC, opE, opD, funV, hget, podC, hjl, k4]
                    refine (Wp_calm rfl).2 ?_
                    simp only [runL, opQ, evOp, evO, evOs, guardV, argsA, pvs, putS, cellsOf, scals, scal, Nat.reduceEqDiff, Nat.reduceAdd, reduceCtorEq, fieldA, nonNil, cellsAt, mkAgg, allPV, storeB, patchL, Int.reduceToNat, Nat.reduceMul, Nat.reduceLT, stepA, Int.reduceNeg, Int.reduceLE, Int.reduceLT, Int.reduceEq, extractV, mkAgg, Nat.reduceLeDiff, fillA, pureVs, pureV, eqV, eqB, lenV, binV, intBin, intV, idxA, List.drop, List.take, RetP, retP, resV, resOne, snapV, snapVs, snapR, snapRs, ownSz, pickV, AO.isC, opE, opD, funV, hget, hgk, podC, hjl, hk, k4, c0, c1, c2, e1]
                    refine come_call S.h242 S.h83 x hx (t.pods.set k { q with node := 0 }) j _ p hget' m.node ?_ ?_ (fun v hp' nx' q1 q2 q3 => ?_)
                    · show 6 < 7
                      decide
                    · rfl
                    · have d2 := q3 2 (show 2 < 7 by decide) (by decide)
                      have d4 := q3 4 (show 4 < 7 by decide) (by decide)
                      simp only [blkAt_if, Nat.reduceEqDiff, if_true, if_false] at d2 d4
                      simp only [runL, opQ, evOp, evO, evOs, guardV, argsA, pvs, putS, cellsOf, scals, scal, Nat.reduceEqDiff, Nat.reduceAdd, reduceCtorEq, fieldA, nonNil, cellsAt, mkAgg, allPV, storeB, patchL, Int.reduceToNat, Nat.reduceMul, Nat.reduceLT, stepA, Int.reduceNeg, Int.reduceLE, Int.reduceLT, Int.reduceEq, extractV, mkAgg, Nat.reduceLeDiff, fillA, pureVs, pureV, eqV, eqB, lenV, binV, intBin, intV, idxA, List.drop, List.take, RetP, retP, resV, resOne, snapV, snapVs, snapR, snapRs, ownSz, pickV, AO.isC, opE, opD, funV, q2, d2, d4, hm, makeR, stateP]
                  · have hm : makeS s x t m = .inl 7 := by
                      unfold makeS
                      rw [if_neg hnf, if_neg hi, if_neg hnn, if_neg hno4, hP, hK]
                      simp [hget, hgk, k4, c0, c1, c2]
                    simp only [runL, opQ, evOp, evO, evOs, guardV, argsA, pvs, putS, cellsOf, scals, scal, Nat.reduceEqDiff, Nat.reduceAdd, reduceCtorEq, fieldA, nonNil, cellsAt, mkAgg, allPV, storeB, patchL, Int.reduceToNat, Nat.reduceMul, Nat.reduceLT, stepA, Int.reduceNeg, Int.reduceLE, Int.reduceLT, Int.reduceEq, extractV, mkAgg, Nat.reduceLeDiff, fillA, pureVs, pureV, eqV, eqB, lenV, binV, intBin, intV, idxA, List.drop, List.take, RetP, retP, resV, resOne, snapV, snapVs, snapR, snapRs, ownSz, pickV, AO.isC, opE, opD, funV, kp.callD, ko.callD, kn.call, kf.call, hP, hK, hj0, hk0, k4, hget, podC]
                    rw [S.h279.callN (allLen_pods _) hlen hne]
                    simp only [runL, opQ, evOp, evO, evOs, guardV, argsA, pvs, putS, cellsOf, scals, scal, Nat.reduceEqDiff, Nat.reduceAdd, reduceCtorEq, fieldA, nonNil, cellsAt, mkAgg, allPV, storeB, patchL, Int.reduceToNat, Nat.reduceMul, Nat.reduceLT, stepA, Int.reduceNeg, Int.reduceLE, Int.reduceLT, Int.reduceEq, extractV, mkAgg, Nat.reduceLeDiff, fillA, pureVs, pureV, eqV, eqB, lenV, binV, intBin, intV, idxA, List.drop, List.take, RetP, retP, resV, resOne, snapV, snapVs, snapR, snapRs, ownSz, pickV, AO.isC, opE, opD, funV, hget, podC, hjl, k4]
                    refine (Wp_calm rfl).2 ?_
                    simp only [runL, opQ, evOp, evO, evOs, guardV, argsA, pvs, putS, cellsOf, scals, scal, Nat.reduceEqDiff, Nat.reduceAdd, reduceCtorEq, fieldA, nonNil, cellsAt, mkAgg, allPV, storeB, patchL, Int.reduceToNat, Nat.reduceMul, Nat.reduceLT, stepA, Int.reduceNeg, Int.reduceLE, Int.reduceLT, Int.reduceEq, extractV, mkAgg, Nat.reduceLeDiff, fillA, pureVs, pureV, eqV, eqB, lenV, binV, intBin, intV, idxA, List.drop, List.take, RetP, retP, resV, resOne, snapV, snapVs, snapR, snapRs, ownSz, pickV, AO.isC, opE, opD, funV, hget, hgk, podC, hm, makeR, codeE, stateP, List.map_nil, hjl, hk, k4, c0, c1, c2]
                · have hm : makeS s x t m = .inl 7 := by
                    unfold makeS
                    rw [if_neg hnf, if_neg hi, if_neg hnn, if_neg hno4, hP, hK]
                    simp [hget, hgk, k4, c0, c1]
                  simp only [runL, opQ, evOp, evO, evOs, guardV, argsA, pvs, putS, cellsOf, scals, scal, Nat.reduceEqDiff, Nat.reduceAdd, reduceCtorEq, fieldA, nonNil, cellsAt, mkAgg, allPV, storeB, patchL, Int.reduceToNat, Nat.reduceMul, Nat.reduceLT, stepA, Int.reduceNeg, Int.reduceLE, Int.reduceLT, Int.reduceEq, extractV, mkAgg, Nat.reduceLeDiff, fillA, pureVs, pureV, eqV, eqB, lenV, binV, intBin, intV, idxA, List.drop, List.take, RetP, retP, resV, resOne, snapV, snapVs, snapR, snapRs, ownSz, pickV, AO.isC, opE, opD, funV, kp.callD, ko.callD, kn.call, kf.call, hP, hK, hj0, hk0, k4, hget, podC]
                  rw [S.h279.callN (allLen_pods _) hlen hne]
                  simp only [runL, opQ, evOp, evO, evOs, guardV, argsA, pvs, putS, cellsOf, scals, scal, Nat.reduceEqDiff, Nat.reduceAdd, reduceCtorEq, fieldA, nonNil, cellsAt, mkAgg, allPV, storeB, patchL, Int.reduceToNat, Nat.reduceMul, Nat.reduceLT, stepA, Int.reduceNeg, Int.reduceLE, Int.reduceLT, Int.reduceEq, extractV, mkAgg, Nat.reduceLeDiff, fillA, pureVs, pureV, eqV, eqB, lenV, binV, intBin, intV, idxA, List.drop, List.take, RetP, retP, resV, resOne, snapV, snapVs, snapR, snapRs, ownSz, pickV, AO.isC, opE, opD, funV, hget, podC, hjl, k4]
                  refine (Wp_calm rfl).2 ?_
                  simp only [runL, opQ, evOp, evO, evOs, guardV, argsA, pvs, putS, cellsOf, scals, scal, Nat.reduceEqDiff, Nat.reduceAdd, reduceCtorEq, fieldA, nonNil, cellsAt, mkAgg, allPV, storeB, patchL, Int.reduceToNat, Nat.reduceMul, Nat.reduceLT, stepA, Int.reduceNeg, Int.reduceLE, Int.reduceLT, Int.reduceEq, extractV, mkAgg, Nat.reduceLeDiff, fillA, pureVs, pureV, eqV, eqB, lenV, binV, intBin, intV, idxA, List.drop, List.take, RetP, retP, resV, resOne, snapV, snapVs, snapR, snapRs, ownSz, pickV, AO.isC, opE, opD, funV, hget, hgk, podC, hm, makeR, codeE, stateP, List.map_nil, hjl, hk, k4, c0, c1]
          · by_cases k3 : m.kind = 3
            · by_cases c1 : p.node = 0
              · have hm : makeS s x t m = .inl 7 := by
                  unfold makeS
                  rw [if_neg hnf, if_neg hi, if_neg hnn, if_neg (by simp [k4]), hP]
                  simp [hget, k3, c1]
                simp only [runL, opQ, evOp, evO, evOs, guardV, argsA, pvs, putS, cellsOf, scals, scal, Nat.reduceEqDiff, Nat.reduceAdd, reduceCtorEq, fieldA, nonNil, cellsAt, mkAgg, allPV, storeB, patchL, Int.reduceToNat, Nat.reduceMul, Nat.reduceLT, stepA, Int.reduceNeg, Int.reduceLE, Int.reduceLT, Int.reduceEq, extractV, mkAgg, Nat.reduceLeDiff, fillA, pureVs, pureV, eqV, eqB, lenV, binV, intBin, intV, idxA, List.drop, List.take, RetP, retP, resV, resOne, snapV, snapVs, snapR, snapRs, ownSz, pickV, AO.isC, opE, opD, funV, kp.callD, ko.callD, kn.call, kf.call, hP, hj0, k3, hget, podC]
                rw [S.h279.callN (allLen_pods _) hlen hne]
                simp only [runL, opQ, evOp, evO, evOs, guardV, argsA, pvs, putS, cellsOf, scals, scal, Nat.reduceEqDiff, Nat.reduceAdd, reduceCtorEq, fieldA, nonNil, cellsAt, mkAgg, allPV, storeB, patchL, Int.reduceToNat, Nat.reduceMul, Nat.reduceLT, stepA, Int.reduceNeg, Int.reduceLE, Int.reduceLT, Int.reduceEq, extractV, mkAgg, Nat.reduceLeDiff, fillA, pureVs, pureV, eqV, eqB, lenV, binV, intBin, intV, idxA, List.drop, List.take, RetP, retP, resV, resOne, snapV, snapVs, snapR, snapRs, ownSz, pickV, AO.isC, opE, opD, funV, hget, podC, hm, makeR, codeE, stateP, List.map_nil, hjl, k3, c1]
              · by_cases c2 : p.node = m.node
                · have hm : makeS s x t m = .inl 7 := by
                    unfold makeS
                    rw [if_neg hnf, if_neg hi, if_neg hnn, if_neg (by simp [k4]), hP]
                    simp [hget, k3, c2]
                  rw [c2] at c1
                  simp only [runL, opQ, evOp, evO, evOs, guardV, argsA, pvs, putS, cellsOf, scals, scal, Nat.reduceEqDiff, Nat.reduceAdd, reduceCtorEq, fieldA, nonNil, cellsAt, mkAgg, allPV, storeB, patchL, Int.reduceToNat, Nat.reduceMul, Nat.reduceLT, stepA, Int.reduceNeg, Int.reduceLE, Int.reduceLT, Int.reduceEq, extractV, mkAgg, Nat.reduceLeDiff, fillA, pureVs, pureV, eqV, eqB, lenV, binV, intBin, intV, idxA, List.drop, List.take, RetP, retP, resV, resOne, snapV, snapVs, snapR, snapRs, ownSz, pickV, AO.isC, opE, opD, funV, kp.callD, ko.callD, kn.call, kf.call, hP, hj0, k3, hget, podC]
                  rw [S.h279.callN (allLen_pods _) hlen hne]
                  simp only [runL, opQ, evOp, evO, evOs, guardV, argsA, pvs, putS, cellsOf, scals, scal, Nat.reduceEqDiff, Nat.reduceAdd, reduceCtorEq, fieldA, nonNil, cellsAt, mkAgg, allPV, storeB, patchL, Int.reduceToNat, Nat.reduceMul, Nat.reduceLT, stepA, Int.reduceNeg, Int.reduceLE, Int.reduceLT, Int.reduceEq, extractV, mkAgg, Nat.reduceLeDiff, fillA, pureVs, pureV, eqV, eqB, lenV, binV, intBin, intV, idxA, List.drop, List.take, RetP, retP, resV, resOne, snapV, snapVs, snapR, snapRs, ownSz, pickV, AO.isC, opE, opD, funV, hget, podC, hm, makeR, codeE, stateP, List.map_nil, hjl, k3, c1, c2]
                · have hm : makeS s x t m = .inr ⟨t.pods.set j (comeS x p m.node), t.pre, IntKind.i64.wrap (t.shi + 1)⟩ := by
                    unfold makeS
                    rw [if_neg hnf, if_neg hi, if_neg hnn, if_neg (by simp [k4]), hP]
                    simp [hget, k3, c1, c2]
                  simp only [runL, opQ, evOp, evO, evOs, guardV, argsA, pvs, putS, cellsOf, scals, scal, Nat.reduceEqDiff, Nat.reduceAdd, reduceCtorEq, fieldA, nonNil, cellsAt, mkAgg, allPV, storeB, patchL, Int.reduceToNat, Nat.reduceMul, Nat.reduceLT, stepA, Int.reduceNeg, Int.reduceLE, Int.reduceLT, Int.reduceEq, extractV, mkAgg, Nat.reduceLeDiff, fillA, pureVs, pureV, eqV, eqB, lenV, binV, intBin, intV, idxA, List.drop, List.take, RetP, retP, resV, resOne, snapV, snapVs, snapR, snapRs, ownSz, pickV, AO.isC, opE, opD, funV, kp.callD, ko.callD, kn.call, kf.call, hP, hj0, k3, hget, podC]
                  rw [S.h279.callN (allLen_pods _) hlen hne]
                  simp only [runL, opQ, evOp, evO, evOs, guardV, argsA, pvs, putS, cellsOf, scals, scal, Nat.reduceEqDiff, Nat.reduceAdd, reduceCtorEq, fieldA, nonNil, cellsAt, mkAgg, allPV, storeB, patchL, Int.reduceToNat, Nat.reduceMul, Nat.reduceLT, stepA, Int.reduceNeg, Int.reduceLE, Int.reduceLT, Int.reduceEq, extractV, mkAgg, Nat.reduceLeDiff, fillA, pureVs, pureV, eqV, eqB, lenV, binV, intBin, intV, idxA, List.drop, List.take, RetP, retP, resV, resOne, snapV, snapVs, snapR, snapRs, ownSz, pickV, AO.isC, opE, opD, funV, hget, podC, hjl, k3, c1, c2]
                  refine come_call S.h242 S.h83 x hx t.pods j _ p hget m.node ?_ ?_ (fun v hp' nx' q1 q2 q3 => ?_)
                  · show 6 < 7
                    decide
                  · rfl
                  · have d2 := q3 2 (show 2 < 7 by decide) (by decide)
                    have d4 := q3 4 (show 4 < 7 by decide) (by decide)
                    simp only [blkAt_if, Nat.reduceEqDiff, if_true, if_false] at d2 d4
                    simp only [runL, opQ, evOp, evO, evOs, guardV, argsA, pvs, putS, cellsOf, scals, scal, Nat.reduceEqDiff, Nat.reduceAdd, reduceCtorEq, fieldA, nonNil, cellsAt, mkAgg, allPV, storeB, patchL, Int.reduceToNat, Nat.reduceMul, Nat.reduceLT, stepA, Int.reduceNeg, Int.reduceLE, Int.reduceLT, Int.reduceEq, extractV, mkAgg, Nat.reduceLeDiff, fillA, pureVs, pureV, eqV, eqB, lenV, binV, intBin, intV, idxA, List.drop, List.take, RetP, retP, resV, resOne, snapV, snapVs, snapR, snapRs, ownSz, pickV, AO.isC, opE, opD, funV, q2, d2, d4, hm, makeR, stateP]
            · by_cases c1 : p.node = 0
              · have hm : makeS s x t m = .inr ⟨t.pods.set j (comeS x p m.node), t.pre, t.shi⟩ := by
                  unfold makeS
                  rw [if_neg hnf, if_neg hi, if_neg hnn, if_neg (by simp [k4]), hP]
                  simp [hget, k2, k3, k4, c1]
                simp only [runL, opQ, evOp, evO, evOs, guardV, argsA, pvs, putS, cellsOf, scals, scal, Nat.reduceEqDiff, Nat.reduceAdd, reduceCtorEq, fieldA, nonNil, cellsAt, mkAgg, allPV, storeB, patchL, Int.reduceToNat, Nat.reduceMul, Nat.reduceLT, stepA, Int.reduceNeg, Int.reduceLE, Int.reduceLT, Int.reduceEq, extractV, mkAgg, Nat.reduceLeDiff, fillA, pureVs, pureV, eqV, eqB, lenV, binV, intBin, intV, idxA, List.drop, List.take, RetP, retP, resV, resOne, snapV, snapVs, snapR, snapRs, ownSz, pickV, AO.isC, opE, opD, funV, kp.callD, ko.callD, kn.call, kf.call, hP, hj0, k2, k3, k4, hget, podC]
                rw [S.h279.callN (allLen_pods _) hlen hne]
                simp only [runL, opQ, evOp, evO, evOs, guardV, argsA, pvs, putS, cellsOf, scals, scal, Nat.reduceEqDiff, Nat.reduceAdd, reduceCtorEq, fieldA, nonNil, cellsAt, mkAgg, allPV, storeB, patchL, Int.reduceToNat, Nat.reduceMul, Nat.reduceLT, stepA, Int.reduceNeg, Int.reduceLE, Int.reduceLT, Int.reduceEq, extractV, mkAgg, Nat.reduceLeDiff, fillA, pureVs, pureV, eqV, eqB, lenV, binV, intBin, intV, idxA, List.drop, List.take, RetP, retP, resV, resOne, snapV, snapVs, snapR, snapRs, ownSz, pickV, AO.isC, opE, opD, funV, hget, podC, hjl, k2, k3, k4, c1]
                refine come_call S.h242 S.h83 x hx t.pods j _ p hget m.node ?_ ?_ (fun v hp' nx' q1 q2 q3 => ?_)
                · show 6 < 7
                  decide
                · rfl
                · have d2 := q3 2 (show 2 < 7 by decide) (by decide)
                  have d4 := q3 4 (show 4 < 7 by decide) (by decide)
                  simp only [blkAt_if, Nat.reduceEqDiff, if_true, if_false] at d2 d4
                  simp only [runL, opQ, evOp, evO, evOs, guardV, argsA, pvs, putS, cellsOf, scals, scal, Nat.reduceEqDiff, Nat.reduceAdd, reduceCtorEq, fieldA, nonNil, cellsAt, mkAgg, allPV, storeB, patchL, Int.reduceToNat, Nat.reduceMul, Nat.reduceLT, stepA, Int.reduceNeg, Int.reduceLE, Int.reduceLT, Int.reduceEq, extractV, mkAgg, Nat.reduceLeDiff, fillA, pureVs, pureV, eqV, eqB, lenV, binV, intBin, intV, idxA, List.drop, List.take, RetP, retP, resV, resOne, snapV, snapVs, snapR, snapRs, ownSz, pickV, AO.isC, opE, opD, funV, q2, d2, d4, hm, makeR, stateP]
              · have hm : makeS s x t m = .inl 7 := by
                  unfold makeS
                  rw [if_neg hnf, if_neg hi, if_neg hnn, if_neg (by simp [k4]), hP]
                  simp [hget, k2, k3, k4, c1]
                simp only [runL, opQ, evOp, evO, evOs, guardV, argsA, pvs, putS, cellsOf, scals, scal, Nat.reduceEqDiff, Nat.reduceAdd, reduceCtorEq, fieldA, nonNil, cellsAt, mkAgg, allPV, storeB, patchL, Int.reduceToNat, Nat.reduceMul, Nat.reduceLT, stepA, Int.reduceNeg, Int.reduceLE, Int.reduceLT, Int.reduceEq, extractV, mkAgg, Nat.reduceLeDiff, fillA, pureVs, pureV, eqV, eqB, lenV, binV, intBin, intV, idxA, List.drop, List.take, RetP, retP, resV, resOne, snapV, snapVs, snapR, snapRs, ownSz, pickV, AO.isC, opE, opD, funV, kp.callD, ko.callD, kn.call, kf.call, hP, hj0, k2, k3, k4, hget, podC]
                rw [S.h279.callN (allLen_pods _) hlen hne]
                simp only [runL, opQ, evOp, evO, evOs, guardV, argsA, pvs, putS, cellsOf, scals, scal, Nat.reduceEqDiff, Nat.reduceAdd, reduceCtorEq, fieldA, nonNil, cellsAt, mkAgg, allPV, storeB, patchL, Int.reduceToNat, Nat.reduceMul, Nat.reduceLT, stepA, Int.reduceNeg, Int.reduceLE, Int.reduceLT, Int.reduceEq, extractV, mkAgg, Nat.reduceLeDiff, fillA, pureVs, pureV, eqV, eqB, lenV, binV, intBin, intV, idxA, List.drop, List.take, RetP, retP, resV, resOne, snapV, snapVs, snapR, snapRs, ownSz, pickV, AO.isC, opE, opD, funV, hget, podC, hm, makeR, codeE, stateP, List.map_nil, hjl, k2, k3, k4, c1]
end Go.Proofs.YtmeigdjfcecidaaDoor.Ab
/- errors.As with a target of type *api.Code: what its calls do, out of its walk. -/
set_option linter.unusedVariables false
set_option linter.unusedSimpArgs false
namespace Go.Proofs.YtmeigdjfcecidaaDoor.Ab
open Go

/-- As(err, &code), in the caller's blocks. -/
def asP (args : List AV) (hp : Hl) (nx : Nat) : Option (AV × Hl × Nat) :=
  match args with
  | [.pv .nili, .iface 3 (.ptr k 0 0)] => some (.pv (.bool false), hp, nx)
  | [.pv (.iface 0 (.int .i64 n)), .iface 3 (.ptr k 0 0)] => match blkAt hp k with
    | .var [.pv (.int .i64 _)] => some (.pv (.bool true), (k, .var [.pv (.int .i64 n)]) :: hp, nx)
    | _ => none
  | [.pv (.iface 1 (.cptr [.int .i64 _, .int .i64 n] 0)), .iface 3 (.ptr k 0 0)] => match blkAt hp k with
    | .var [.pv (.int .i64 _)] => some (.pv (.bool true), (k, .var [.pv (.int .i64 n)]) :: hp, nx)
    | _ => none
  | _ => none

theorem Rel.setVar {X : Ctx} {M : Nat → Nat} {F : Fr} {hp : Hl} {nx : Nat} {a : Act} {w : World} (R : Rel X M F (blkAt hp) (fun i => i < nx) a w) {k : Nat} {o n : Int} (hb : blkAt hp k = .var [.pv (.int .i64 o)]) :
    Rel X M F (blkAt ((k, .var [.pv (.int .i64 n)]) :: hp)) (fun i => i < nx) a (w.setCell ⟨M k, 0, none⟩ (.int .i64 n)) := by
  have hB := R.blk k
  rw [hb] at hB
  obtain ⟨c, t, h1, h2, h3⟩ := hB
  simp only [viewOf] at h1
  have hsz : c.size = 1 := by simpa using h2
  rw [setCell_eq h1]
  have e : blkAt ((k, .var [.pv (.int .i64 n)]) :: hp) = wr (blkAt hp) [(k, .var [.pv (.int .i64 n)])] := by
    funext i
    rw [← blkAt_wr]
    rfl
  rw [e]
  have hlt : M k < w.heap.size := (Array.getElem?_eq_some_iff.1 h1).1
  refine R.write _ _ k (by rw [hb]; simp) (by simp) (by rw [hb]; rfl) ?_ ?_
  · simp only [World.shape?]
    rw [setB_same _ hlt, h1]
    simp
  · refine ⟨_, t, setB_same _ hlt, by simp [hsz], ?_⟩
    simp only [ARun, and_true]
    refine ⟨.int .i64 n, ?_, by simp [Scalar], by simp only [VA, VP]⟩
    simp only [World.cell?, viewOf]
    rw [setB_same _ hlt]
    simp [hsz]

theorem asP_raw {E : Env} {n : Nat} {g : Nat × Value} (hent : Ent E n) (hg : g ∈ E.gl)
    (h1 : ∀ (t : Value) (w : World), Calls E.P (E.ρ n) #[.nilIface, t] w fun e w' => e = .returned (.bool false) ∧ w' = w)
    (h2 : ∀ (t : Addr) (old : Value) (w : World) (m : Int), w.cell? ⟨g.1, 0, none⟩ = some g.2 → w.cell? t = some old → w.frozen? t = false →
      Calls E.P (E.ρ n) #[.iface (E.τ 0) (.int .i64 m), .iface (E.τ 3) (.pointer (some t))] w fun e w' => e = .returned (.bool true) ∧ ∃ w1, Go.RowKit.Below w.heap.size w w1 ∧ w' = w1.setCell t (.int .i64 m))
    (h3 : ∀ (t : Addr) (old : Value) (w : World) (b o : Nat) (a m : Int), w.cell? ⟨b, o, none⟩ = some (.int .i64 a) → w.cell? ⟨b, o + 1, none⟩ = some (.int .i64 m) → w.cell? ⟨g.1, 0, none⟩ = some g.2 → w.cell? t = some old → w.frozen? t = false →
      Calls E.P (E.ρ n) #[.iface (E.τ 1) (.pointer (some ⟨b, o, none⟩)), .iface (E.τ 3) (.pointer (some t))] w fun e w' => e = .returned (.bool true) ∧ ∃ w1, Go.RowKit.Below w.heap.size w w1 ∧ w' = w1.setCell t (.int .i64 m))
    (args : List AV) (hp : Hl) (nx : Nat) (v : AV) (hp' : Hl) (nx' : Nat) (h : asP args hp nx = some (v, hp', nx')) : RawC E n args hp nx v hp' nx' := by
  refine ⟨hent, fun X M F a w vs hX R hv => ?_⟩
  subst hX
  have hc := (R.inv g hg).2
  have fin : ∀ {k : Nat} {o m : Int}, blkAt hp k = .var [.pv (.int .i64 o)] → v = .pv (.bool true) → hp' = (k, .var [.pv (.int .i64 m)]) :: hp → nx' = nx → ∀ {e : Ending} {w' : World}, (e = .returned (.bool true) ∧ ∃ w1, Go.RowKit.Below w.heap.size w w1 ∧ w' = w1.setCell ⟨M k, 0, none⟩ (.int .i64 m)) →
      ∃ u M', e = .returned u ∧ Rel X M' F (blkAt hp') (fun i => i < nx') a w' ∧ VA (viewOf X w' (fun i => i < nx') M' (blkAt hp')) v u := by
    rintro k o m hb rfl rfl rfl e w' ⟨rfl, w1, hbl, rfl⟩
    exact ⟨_, M, rfl, (R.grown (keeps_of hbl)).setVar hb, by simp only [VA, VP]⟩
  have tgt : ∀ {k : Nat} {o : Int} {u : Value}, blkAt hp k = .var [.pv (.int .i64 o)] → VA (viewOf X w (fun i => i < nx) M (blkAt hp)) (.ptr k 0 0) u →
      u = .pointer (some ⟨M k, 0, none⟩) ∧ (∃ old, w.cell? ⟨M k, 0, none⟩ = some old) ∧ w.frozen? ⟨M k, 0, none⟩ = false := by
    intro k o u hb hu
    simp only [VA, viewOf] at hu
    obtain ⟨_, _, hu⟩ := hu
    have e := hu (0, 0) (by rw [hb]; rfl)
    have hB := R.blk k
    rw [hb] at hB
    obtain ⟨c, t, q1, q2, q3⟩ := hB
    simp only [viewOf] at q1
    have hsz : c.size = 1 := by simpa using q2
    simp only [ARun, and_true] at q3
    obtain ⟨x, q4, _, _⟩ := q3
    refine ⟨by simpa using e, ⟨x, q4⟩, ?_⟩
    simp only [World.frozen?, q1]
    simp
  unfold asP at h
  split at h
  · rename_i k
    simp only [Option.some.injEq, Prod.mk.injEq] at h
    obtain ⟨rfl, rfl, rfl⟩ := h
    simp only [VAs, VA, VP] at hv
    obtain ⟨_, _, rfl, rfl, u, _, rfl, _, rfl⟩ := hv
    refine (h1 u w).mono fun e w' ⟨he, hw⟩ => ?_
    subst he hw
    exact ⟨_, M, rfl, R, by simp only [VA, VP]⟩
  · rename_i m k
    split at h
    · rename_i o hb
      simp only [Option.some.injEq, Prod.mk.injEq] at h
      obtain ⟨rfl, rfl, rfl⟩ := h
      simp only [VAs] at hv
      obtain ⟨u1, _, rfl, hu1, u2, _, rfl, hu2, rfl⟩ := hv
      simp only [VA, VP] at hu1
      obtain ⟨_, rfl, rfl⟩ := hu1
      rw [VA] at hu2
      obtain ⟨u3, rfl, hu3⟩ := hu2
      obtain ⟨rfl, ⟨old, c1⟩, c2⟩ := tgt hb hu3
      exact (h2 ⟨M k, 0, none⟩ old w m hc c1 c2).mono fun e w' hh => fin hb rfl rfl rfl hh
    · simp at h
  · rename_i a' m k
    split at h
    · rename_i o hb
      simp only [Option.some.injEq, Prod.mk.injEq] at h
      obtain ⟨rfl, rfl, rfl⟩ := h
      simp only [VAs] at hv
      obtain ⟨u1, _, rfl, hu1, u2, _, rfl, hu2, rfl⟩ := hv
      simp only [VA, VP, VRun] at hu1
      obtain ⟨_, rfl, b, o', rfl, _, ⟨_, d1, _, rfl⟩, ⟨_, d2, _, rfl⟩, _⟩ := hu1
      rw [VA] at hu2
      obtain ⟨u3, rfl, hu3⟩ := hu2
      obtain ⟨rfl, ⟨old, c1⟩, c2⟩ := tgt hb hu3
      exact (h3 ⟨M k, 0, none⟩ old w b o' a' m d1 d2 hc c1 c2).mono fun e w' hh => fin hb rfl rfl rfl hh
    · simp at h
  · simp at h

structure StdA (T : Tab) (n : Nat) : Prop where
  prim : T.prim n = some asP
  raw : T.raw n = true
section
variable {T : Tab} {n : Nat} (S : StdA T n)
include S
theorem as_nilQ {k : Nat} {d : Option Nat} {l : List AOper} {st : St} {K : St → Prop} :
    callQ T n [.pv .nili, .iface 3 (.ptr k 0 0)] d l st K ↔ WpO T l ⟨putS st d (.pv (.bool false)), st.hp, st.nx⟩ K := by
  have h : asP [.pv .nili, .iface 3 (.ptr k 0 0)] st.hp st.nx = some (.pv (.bool false), st.hp, st.nx) := by simp only [asP]
  unfold callQ doCall
  simp only [S.raw, D_prim S.prim h, Option.some.injEq]
  constructor
  · rintro ⟨st', rfl, h⟩; exact h
  · exact fun h => ⟨_, rfl, h⟩
theorem as_codeQ {k : Nat} {o m : Int} {d : Option Nat} {l : List AOper} {st : St} {K : St → Prop} (hb : blkAt st.hp k = .var [.pv (.int .i64 o)]) :
    callQ T n [.pv (.iface 0 (.int .i64 m)), .iface 3 (.ptr k 0 0)] d l st K ↔ WpO T l ⟨putS st d (.pv (.bool true)), (k, .var [.pv (.int .i64 m)]) :: st.hp, st.nx⟩ K := by
  have h : asP [.pv (.iface 0 (.int .i64 m)), .iface 3 (.ptr k 0 0)] st.hp st.nx = some (.pv (.bool true), (k, .var [.pv (.int .i64 m)]) :: st.hp, st.nx) := by simp only [asP, hb]
  unfold callQ doCall
  simp only [S.raw, D_prim S.prim h, Option.some.injEq]
  constructor
  · rintro ⟨st', rfl, h⟩; exact h
  · exact fun h => ⟨_, rfl, h⟩
theorem as_spotQ {k : Nat} {o a m : Int} {d : Option Nat} {l : List AOper} {st : St} {K : St → Prop} (hb : blkAt st.hp k = .var [.pv (.int .i64 o)]) :
    callQ T n [.pv (.iface 1 (.cptr [.int .i64 a, .int .i64 m] 0)), .iface 3 (.ptr k 0 0)] d l st K ↔ WpO T l ⟨putS st d (.pv (.bool true)), (k, .var [.pv (.int .i64 m)]) :: st.hp, st.nx⟩ K := by
  have h : asP [.pv (.iface 1 (.cptr [.int .i64 a, .int .i64 m] 0)), .iface 3 (.ptr k 0 0)] st.hp st.nx = some (.pv (.bool true), (k, .var [.pv (.int .i64 m)]) :: st.hp, st.nx) := by simp only [asP, hb]
  unfold callQ doCall
  simp only [S.raw, D_prim S.prim h, Option.some.injEq]
  constructor
  · rintro ⟨st', rfl, h⟩; exact h
  · exact fun h => ⟨_, rfl, h⟩
end
end Go.Proofs.YtmeigdjfcecidaaDoor.Ab
/- Layer 6 (room): contracts. -/
set_option linter.unusedVariables false
set_option linter.unusedSimpArgs false
namespace Go.Proofs.YtmeigdjfcecidaaDoor.Ab
open Go

section
variable {T : Tab}
/-! ### Code, of codes -/
theorem code_loop (c : Int) (Q : Exit → St → Prop) (hret : ∀ fr hp nx, look fr 2 = .pv (.int .i64 c) → Q .ret ⟨fr, hp, nx⟩) :
    ∀ (k : Nat) (i : Int), c = i + k → 1 ≤ i → c ≤ 17 → ∀ (fr : List (Nat × AV)) (hp : Hl) (nx : Nat), look fr 0 = .pv (.iface 0 (.int .i64 c)) → look fr 3 = .pv (.int .i64 i) → Wp T false (.loop f102l0) ⟨fr, hp, nx⟩ Q := by
  intro k
  induction k with
  | zero =>
    intro i hi h1 h2 fr hp nx g0 g3
    have hi' : i = c := by omega
    subst hi'
    rw [Wp_loop, Wp_eq f102l0.eq_1]
    simp only [runL, opQ, evOp, evO, evOs, guardV, argsA, pvs, putS, cellsOf, scals, scal, Nat.reduceEqDiff, Nat.reduceAdd, reduceCtorEq, fieldA, nonNil, cellsAt, mkAgg, allPV, storeB, patchL, Int.reduceToNat, Nat.reduceMul, Nat.reduceLT, stepA, Int.reduceNeg, Int.reduceLE, Int.reduceLT, Int.reduceEq, extractV, mkAgg, Nat.reduceLeDiff, fillA, pureVs, pureV, eqV, eqB, lenV, binV, intBin, intV, idxA, List.drop, List.take, RetP, retP, resV, resOne, snapV, snapVs, snapR, snapRs, ownSz, pickV, AO.isC, opE, opD, funV, g0, g3, h2]
    exact hret _ _ _ (by simp only [look_if, Nat.reduceEqDiff, if_true, if_false])
  | succ k ih =>
    intro i hi h1 h2 fr hp nx g0 g3
    have hne : ¬ c = i := by omega
    have hle : i ≤ 17 := by omega
    have hw : IntKind.i64.wrap (i + 1) = i + 1 := by rw [wrap6] <;> omega
    rw [Wp_loop, Wp_eq f102l0.eq_1]
    simp only [runL, opQ, evOp, evO, evOs, guardV, argsA, pvs, putS, cellsOf, scals, scal, Nat.reduceEqDiff, Nat.reduceAdd, reduceCtorEq, fieldA, nonNil, cellsAt, mkAgg, allPV, storeB, patchL, Int.reduceToNat, Nat.reduceMul, Nat.reduceLT, stepA, Int.reduceNeg, Int.reduceLE, Int.reduceLT, Int.reduceEq, extractV, mkAgg, Nat.reduceLeDiff, fillA, pureVs, pureV, eqV, eqB, lenV, binV, intBin, intV, idxA, List.drop, List.take, RetP, retP, resV, resOne, snapV, snapVs, snapR, snapRs, ownSz, pickV, AO.isC, opE, opD, funV, g0, g3, hle, hne, hw]
    refine ih (i + 1) (by omega) (by omega) h2 _ _ _ ?_ ?_
    all_goals simp only [look_if, Nat.reduceEqDiff, if_true, if_false, g0]
theorem code_code (h102 : Std T 102 f102) (c : Int) (h1 : 1 ≤ c) (h2 : c ≤ 17) : Gives T 102 [codeE c] (.int .i64 c) := by
  refine gives h102 rfl ?_
  simp only [f102, runL, opQ, evOp, evO, evOs, guardV, argsA, pvs, putS, cellsOf, scals, scal, Nat.reduceEqDiff, Nat.reduceAdd, reduceCtorEq, fieldA, nonNil, cellsAt, mkAgg, allPV, storeB, patchL, Int.reduceToNat, Nat.reduceMul, Nat.reduceLT, stepA, Int.reduceNeg, Int.reduceLE, Int.reduceLT, Int.reduceEq, extractV, mkAgg, Nat.reduceLeDiff, fillA, pureVs, pureV, eqV, eqB, lenV, binV, intBin, intV, idxA, List.drop, List.take, RetP, retP, resV, resOne, snapV, snapVs, snapR, snapRs, ownSz, pickV, AO.isC, opE, opD, funV, codeE]
  refine code_loop c _ (fun fr hp nx g => ?_) (c - 1).toNat 1 (by omega) (by omega) h2 _ _ _ rfl rfl
  simp only [runL, opQ, evOp, evO, evOs, guardV, argsA, pvs, putS, cellsOf, scals, scal, Nat.reduceEqDiff, Nat.reduceAdd, reduceCtorEq, fieldA, nonNil, cellsAt, mkAgg, allPV, storeB, patchL, Int.reduceToNat, Nat.reduceMul, Nat.reduceLT, stepA, Int.reduceNeg, Int.reduceLE, Int.reduceLT, Int.reduceEq, extractV, mkAgg, Nat.reduceLeDiff, fillA, pureVs, pureV, eqV, eqB, lenV, binV, intBin, intV, idxA, List.drop, List.take, RetP, retP, resV, resOne, snapV, snapVs, snapR, snapRs, ownSz, pickV, AO.isC, opE, opD, funV, g]

/-! ### The document's search for a node -/
def ixNode (id : Int) : Nat → List Node → Int
  | _, [] => -1
  | i, p :: r => if p.id = id then i else ixNode id (i + 1) r
theorem ixNode_cases (id : Int) : ∀ (l : List Node) (i : Nat), (nodeOf id l = none ∧ ixNode id i l = -1) ∨ ∃ j p, l[j]? = some p ∧ nodeOf id l = some p ∧ ixNode id i l = ((i + j : Nat) : Int)
  | [], i => .inl ⟨rfl, rfl⟩
  | p :: r, i => by
    by_cases hp : p.id = id
    · exact .inr ⟨0, p, rfl, by simp [nodeOf, hp], by simp [ixNode, hp]⟩
    · rcases ixNode_cases id r (i + 1) with ⟨h1, h2⟩ | ⟨j, q, h1, h2, h3⟩
      · exact .inl ⟨by simpa [nodeOf, hp] using h1, by simp [ixNode, hp, h2]⟩
      · refine .inr ⟨j + 1, q, by simpa using h1, by simpa [nodeOf, hp] using h2, ?_⟩
        simp only [ixNode, if_neg hp, h3]
        omega
theorem node3_loop (s : Snap) (id : Int) (hl : s.nodes.length ≤ 2 ^ 30) (Q : Exit → St → Prop) (o : Int)
    (hend : o = -1 → ∀ fr hp nx, Q (.exit 0) ⟨fr, hp, nx⟩) (hret : ∀ fr hp nx, look fr 4 = .pv (.int .i64 o) → Q .ret ⟨fr, hp, nx⟩) :
    ∀ (rest : List Node) (i : Nat), s.nodes.drop i = rest → i ≤ s.nodes.length → ixNode id i rest = o → ∀ (fr : List (Nat × AV)) (hp : Hl) (nx : Nat), look fr 5 = .pv (.int .i64 i) → look fr 1 = .pv (.int .i64 id) → look fr 2 = .ptr 0 0 0 →
      blkAt hp 0 = .var [.pv (.slice (s.nodes.map nodeC)), .pv (.slice (s.loads.map loadC)), .pv (.slice (s.pods.map podC))] → Wp T false (.loop f155l0) ⟨fr, hp, nx⟩ Q := by
  intro rest
  induction rest with
  | nil =>
    intro i hd hi ho fr hp nx h5 h1 h2 b0
    have hlen := drop_nil hd hi
    rw [Wp_loop, Wp_eq f155l0.eq_1]
    simp only [runL, opQ, evOp, evO, evOs, guardV, argsA, pvs, putS, cellsOf, scals, scal, Nat.reduceEqDiff, Nat.reduceAdd, reduceCtorEq, fieldA, nonNil, cellsAt, mkAgg, allPV, storeB, patchL, Int.reduceToNat, Nat.reduceMul, Nat.reduceLT, stepA, Int.reduceNeg, Int.reduceLE, Int.reduceLT, Int.reduceEq, extractV, mkAgg, Nat.reduceLeDiff, fillA, pureVs, pureV, eqV, eqB, lenV, binV, intBin, intV, idxA, List.drop, List.take, RetP, retP, resV, resOne, snapV, snapVs, snapR, snapRs, ownSz, pickV, AO.isC, opE, opD, funV, h5, h1, h2, b0, hlen, Int.lt_irrefl]
    exact hend ho.symm _ _ _
  | cons n r ih =>
    intro i hd hi ho fr hp nx h5 h1 h2 b0
    obtain ⟨hget, hlt, hw, hd', hi', hb⟩ := drop_cons hd hl
    simp only [ixNode] at ho
    rw [Wp_loop, Wp_eq f155l0.eq_1]
    by_cases hk : n.id = id
    · rw [if_pos hk] at ho
      simp only [runL, opQ, evOp, evO, evOs, guardV, argsA, pvs, putS, cellsOf, scals, scal, Nat.reduceEqDiff, Nat.reduceAdd, reduceCtorEq, fieldA, nonNil, cellsAt, mkAgg, allPV, storeB, patchL, Int.reduceToNat, Nat.reduceMul, Nat.reduceLT, stepA, Int.reduceNeg, Int.reduceLE, Int.reduceLT, Int.reduceEq, extractV, mkAgg, Nat.reduceLeDiff, fillA, pureVs, pureV, eqV, eqB, lenV, binV, intBin, intV, idxA, List.drop, List.take, RetP, retP, resV, resOne, snapV, snapVs, snapR, snapRs, ownSz, pickV, AO.isC, opE, opD, funV, h5, h1, h2, b0, hlt, hget, nodeC, hk]
      exact hret _ _ _ (by simp only [look_if, Nat.reduceEqDiff, if_true, if_false, ← ho])
    · rw [if_neg hk] at ho
      simp only [runL, opQ, evOp, evO, evOs, guardV, argsA, pvs, putS, cellsOf, scals, scal, Nat.reduceEqDiff, Nat.reduceAdd, reduceCtorEq, fieldA, nonNil, cellsAt, mkAgg, allPV, storeB, patchL, Int.reduceToNat, Nat.reduceMul, Nat.reduceLT, stepA, Int.reduceNeg, Int.reduceLE, Int.reduceLT, Int.reduceEq, extractV, mkAgg, Nat.reduceLeDiff, fillA, pureVs, pureV, eqV, eqB, lenV, binV, intBin, intV, idxA, List.drop, List.take, RetP, retP, resV, resOne, snapV, snapVs, snapR, snapRs, ownSz, pickV, AO.isC, opE, opD, funV, h5, h1, h2, b0, hlt, hget, nodeC, hk, hw]
      refine ih (i + 1) hd' hi' ho _ _ _ ?_ ?_ ?_ b0
      all_goals simp only [look_if, Nat.reduceEqDiff, if_true, if_false, h1, h2]
theorem node3_ok (h155 : Std T 155 f155) (s : Snap) (id : Int) (hl : s.nodes.length ≤ 2 ^ 30) : Gives T 155 [snapP s, .int .i64 id] (.int .i64 (ixNode id 0 s.nodes)) := by
  refine gives h155 rfl ?_
  simp only [f155, runL, opQ, evOp, evO, evOs, guardV, argsA, pvs, putS, cellsOf, scals, scal, Nat.reduceEqDiff, Nat.reduceAdd, reduceCtorEq, fieldA, nonNil, cellsAt, mkAgg, allPV, storeB, patchL, Int.reduceToNat, Nat.reduceMul, Nat.reduceLT, stepA, Int.reduceNeg, Int.reduceLE, Int.reduceLT, Int.reduceEq, extractV, mkAgg, Nat.reduceLeDiff, fillA, pureVs, pureV, eqV, eqB, lenV, binV, intBin, intV, idxA, List.drop, List.take, RetP, retP, resV, resOne, snapV, snapVs, snapR, snapRs, ownSz, pickV, AO.isC, opE, opD, funV, snapP]
  refine node3_loop s id hl _ (ixNode id 0 s.nodes) (fun ho fr hp nx => ?_) (fun fr hp nx h4 => ?_) s.nodes 0 rfl (Nat.zero_le _) rfl _ _ _ rfl rfl rfl rfl
  · simp only [runL, opQ, evOp, evO, evOs, guardV, argsA, pvs, putS, cellsOf, scals, scal, Nat.reduceEqDiff, Nat.reduceAdd, reduceCtorEq, fieldA, nonNil, cellsAt, mkAgg, allPV, storeB, patchL, Int.reduceToNat, Nat.reduceMul, Nat.reduceLT, stepA, Int.reduceNeg, Int.reduceLE, Int.reduceLT, Int.reduceEq, extractV, mkAgg, Nat.reduceLeDiff, fillA, pureVs, pureV, eqV, eqB, lenV, binV, intBin, intV, idxA, List.drop, List.take, RetP, retP, resV, resOne, snapV, snapVs, snapR, snapRs, ownSz, pickV, AO.isC, opE, opD, funV, ho]
  · simp only [runL, opQ, evOp, evO, evOs, guardV, argsA, pvs, putS, cellsOf, scals, scal, Nat.reduceEqDiff, Nat.reduceAdd, reduceCtorEq, fieldA, nonNil, cellsAt, mkAgg, allPV, storeB, patchL, Int.reduceToNat, Nat.reduceMul, Nat.reduceLT, stepA, Int.reduceNeg, Int.reduceLE, Int.reduceLT, Int.reduceEq, extractV, mkAgg, Nat.reduceLeDiff, fillA, pureVs, pureV, eqV, eqB, lenV, binV, intBin, intV, idxA, List.drop, List.take, RetP, retP, resV, resOne, snapV, snapVs, snapR, snapRs, ownSz, pickV, AO.isC, opE, opD, funV, h4]

/-! ### What is used -/
def reqs (node : Int) : List Pod → List Vec
  | [] => []
  | p :: r => if p.node = node then p.req :: reqs node r else reqs node r
theorem reqs_le (node : Int) : ∀ l, (reqs node l).length ≤ l.length
  | [] => Nat.le_refl _
  | p :: r => by
    have := reqs_le node r
    simp only [reqs, List.length_cons]
    split
    · simp only [List.length_cons]; omega
    · omega
theorem reqs_wf (node : Int) : ∀ l : List Pod, (∀ p ∈ l, p.wf) → ∀ v ∈ reqs node l, v.wf
  | [], _, v, hv => by simp [reqs] at hv
  | p :: r, h, v, hv => by
    have ih := reqs_wf node r (fun q hq => h q (List.mem_cons_of_mem _ hq)) v
    simp only [reqs] at hv
    split at hv
    · rcases List.mem_cons.1 hv with rfl | hv
      · exact (h p (List.mem_cons_self ..)).2.2.2.1
      · exact ih hv
    · exact ih hv
def useO (pods : List Pod) (node : Int) : Option Vec := sumFrom vec0 (reqs node pods)
/-- A row of the function's own making, or none yet. -/
def OwnR (v : AV) (hp : Hl) (sz : Nat) (es : List (List PV)) (lo nx : Nat) : Prop := (es = [] ∧ v = .nils) ∨ ∃ id, v = .ms id ∧ lo ≤ id ∧ id < nx ∧ blkAt hp id = .row sz es

theorem use_loop (pods : List Pod) (node : Int) (hl : pods.length ≤ 2 ^ 30) (Q : Exit → St → Prop) (tot : List Vec) (htot : tot.length ≤ 2 ^ 30)
    (hend : ∀ fr hp nx, look fr 4 = .ptr 1 0 0 → blkAt hp 1 = .var (pvs (vecC vec0)) → OwnR (look fr 6) hp 4 (tot.map vecC) 2 nx → Q (.exit 0) ⟨fr, hp, nx⟩) :
    ∀ (rest : List Pod) (i : Nat) (acc : List Vec), pods.drop i = rest → i ≤ pods.length → acc ++ reqs node rest = tot → ∀ (fr : List (Nat × AV)) (hp : Hl) (nx : Nat), 2 ≤ nx → look fr 4 = .ptr 1 0 0 → blkAt hp 1 = .var (pvs (vecC vec0)) →
      look fr 1 = .pv (.int .i64 node) → look fr 10 = .pv (.slice (pods.map podC)) → look fr 11 = .pv (.int .i64 pods.length) → look fr 12 = .pv (.int .i64 i) → OwnR (look fr 6) hp 4 (acc.map vecC) 2 nx → Wp T false (.loop f221l0) ⟨fr, hp, nx⟩ Q := by
  intro rest
  induction rest with
  | nil =>
    intro i acc hd hi ho fr hp nx hn h4 b1 h1 h10 h11 h12 h6
    have hlen := drop_nil hd hi
    simp only [reqs, List.append_nil] at ho
    subst ho
    rw [Wp_loop, Wp_eq f221l0.eq_1]
    simp only [runL, opQ, evOp, evO, evOs, guardV, argsA, pvs, putS, cellsOf, scals, scal, Nat.reduceEqDiff, Nat.reduceAdd, reduceCtorEq, fieldA, nonNil, cellsAt, mkAgg, allPV, storeB, patchL, Int.reduceToNat, Nat.reduceMul, Nat.reduceLT, stepA, Int.reduceNeg, Int.reduceLE, Int.reduceLT, Int.reduceEq, extractV, mkAgg, Nat.reduceLeDiff, fillA, pureVs, pureV, eqV, eqB, lenV, binV, intBin, intV, idxA, List.drop, List.take, RetP, retP, resV, resOne, snapV, snapVs, snapR, snapRs, ownSz, pickV, AO.isC, opE, opD, funV, h10, h11, h12, hlen, Int.lt_irrefl]
    refine hend _ _ _ ?_ b1 ?_
    all_goals simp only [look_if, Nat.reduceEqDiff, if_false, h4, h6]
  | cons p r ih =>
    intro i acc hd hi ho fr hp nx hn h4 b1 h1 h10 h11 h12 h6
    obtain ⟨hget, hlt, hw, hd', hi', hb⟩ := drop_cons hd hl
    have n1 : ¬ nx = 1 := by omega
    simp only [reqs] at ho
    rw [Wp_loop, Wp_eq f221l0.eq_1]
    by_cases hk : p.node = node
    · rw [if_pos hk] at ho
      have ho' : (acc ++ [p.req]) ++ reqs node r = tot := by rw [← ho]; simp
      have hlen : acc.length + 1 ≤ 2 ^ 30 := by
        have := congrArg List.length ho'
        simp at this
        omega
      rcases h6 with ⟨he, h6⟩ | ⟨id, h6, i1, i2, i3⟩
      · have hacc : acc = [] := by simpa using he
        have n0 : ¬ nx = 0 := by omega
        subst hacc
        simp only [runL, opQ, evOp, evO, evOs, guardV, argsA, pvs, putS, cellsOf, scals, scal, Nat.reduceEqDiff, Nat.reduceAdd, reduceCtorEq, fieldA, nonNil, cellsAt, mkAgg, allPV, storeB, patchL, Int.reduceToNat, Nat.reduceMul, Nat.reduceLT, stepA, Int.reduceNeg, Int.reduceLE, Int.reduceLT, Int.reduceEq, extractV, mkAgg, Nat.reduceLeDiff, fillA, pureVs, pureV, eqV, eqB, lenV, binV, intBin, intV, idxA, List.drop, List.take, RetP, retP, resV, resOne, snapV, snapVs, snapR, snapRs, ownSz, pickV, AO.isC, opE, opD, funV, h1, h10, h11, h12, hlt, hget, podC, n1, hk, h6, partsScal, srcV, chunk, appV, baseV, allLen, List.all_cons, List.all_nil, hw, Nat.one_le_two_pow]
        refine ih (i + 1) _ hd' hi' ho' _ _ _ ?_ ?_ ?_ ?_ ?_ ?_ ?_ (.inr ⟨nx + 2, ?_, ?_, ?_, ?_⟩)
        all_goals try simp only [look_if, blkAt_if, Nat.reduceEqDiff, if_true, if_false, h4, b1, n0, n1, h1, h10, h11, List.map_append, List.map_cons, List.map_nil, vecC, List.nil_append]
        all_goals first | omega | skip
      · have d1 : ¬ nx + 1 = id := by omega
        have d2 : ¬ nx = id := by omega
        have d3 : ¬ id = 1 := by omega
        have d4 : ¬ nx + 1 = 1 := by omega
        have d5 : ¬ nx + 1 + 1 = 1 := by omega
        have d6 : ¬ id = nx + 1 + 1 := by omega
        simp only [runL, opQ, evOp, evO, evOs, guardV, argsA, pvs, putS, cellsOf, scals, scal, Nat.reduceEqDiff, Nat.reduceAdd, reduceCtorEq, fieldA, nonNil, cellsAt, mkAgg, allPV, storeB, patchL, Int.reduceToNat, Nat.reduceMul, Nat.reduceLT, stepA, Int.reduceNeg, Int.reduceLE, Int.reduceLT, Int.reduceEq, extractV, mkAgg, Nat.reduceLeDiff, fillA, pureVs, pureV, eqV, eqB, lenV, binV, intBin, intV, idxA, List.drop, List.take, RetP, retP, resV, resOne, snapV, snapVs, snapR, snapRs, ownSz, pickV, AO.isC, opE, opD, funV, h1, h10, h11, h12, hlt, hget, podC, n1, hk, h6, i3, partsScal, srcV, chunk, appV, baseV, allLen, List.all_cons, List.all_nil, hw, d1, d2, hlen]
        refine ih (i + 1) _ hd' hi' ho' _ _ _ ?_ ?_ ?_ ?_ ?_ ?_ ?_ (.inr ⟨nx + 1 + 1, ?_, ?_, ?_, ?_⟩)
        all_goals try simp only [look_if, blkAt_if, Nat.reduceEqDiff, if_true, if_false, h4, b1, n1, d3, d4, d5, d6, h1, h10, h11, List.map_append, List.map_cons, List.map_nil, vecC]
        all_goals first | omega | skip
    · rw [if_neg hk] at ho
      simp only [runL, opQ, evOp, evO, evOs, guardV, argsA, pvs, putS, cellsOf, scals, scal, Nat.reduceEqDiff, Nat.reduceAdd, reduceCtorEq, fieldA, nonNil, cellsAt, mkAgg, allPV, storeB, patchL, Int.reduceToNat, Nat.reduceMul, Nat.reduceLT, stepA, Int.reduceNeg, Int.reduceLE, Int.reduceLT, Int.reduceEq, extractV, mkAgg, Nat.reduceLeDiff, fillA, pureVs, pureV, eqV, eqB, lenV, binV, intBin, intV, idxA, List.drop, List.take, RetP, retP, resV, resOne, snapV, snapVs, snapR, snapRs, ownSz, pickV, AO.isC, opE, opD, funV, h1, h10, h11, h12, hlt, hget, podC, n1, hk, hw]
      refine ih (i + 1) acc hd' hi' ho _ _ _ (by omega) ?_ ?_ ?_ ?_ ?_ ?_ ?_
      all_goals simp only [look_if, blkAt_if, Nat.reduceEqDiff, if_true, if_false, h4, b1, h1, h10, h11, n1]
      rcases h6 with ⟨he, h6⟩ | ⟨id, h6, i1, i2, i3⟩
      · exact .inl ⟨he, h6⟩
      · have : ¬ nx = id := by omega
        exact .inr ⟨id, h6, i1, by omega, by simp only [blkAt_if, this, if_false, i3]⟩
theorem flat_vecR (o : Option Vec) : flatP (vecR o) = true := by cases o <;> rfl
theorem flat_vecB (o : Option Vec) : flatP (vecB o) = true := by cases o <;> rfl
theorem use_ok (h221 : Std T 221 f221) (S : StdV T) (hf : T.flat 260 = true) (t : State) (node : Int) (hl : t.pods.length ≤ 2 ^ 30) (hw : ∀ p ∈ t.pods, p.wf) : Gives T 221 [stateP t, .int .i64 node] (vecR (useO t.pods node)) := by
  refine gives h221 rfl ?_
  have hr : (reqs node t.pods).length ≤ 2 ^ 30 := Nat.le_trans (reqs_le _ _) hl
  have k := sum_ok S (reqs node t.pods) hr (reqs_wf node t.pods hw)
  have e : sumFrom vec0 (reqs node t.pods) = useO t.pods node := rfl
  rw [e] at k
  have kf := k.callF hf (flat_vecR _)
  simp only [f221, runL, opQ, evOp, evO, evOs, guardV, argsA, pvs, putS, cellsOf, scals, scal, Nat.reduceEqDiff, Nat.reduceAdd, reduceCtorEq, fieldA, nonNil, cellsAt, mkAgg, allPV, storeB, patchL, Int.reduceToNat, Nat.reduceMul, Nat.reduceLT, stepA, Int.reduceNeg, Int.reduceLE, Int.reduceLT, Int.reduceEq, extractV, mkAgg, Nat.reduceLeDiff, fillA, pureVs, pureV, eqV, eqB, lenV, binV, intBin, intV, idxA, List.drop, List.take, RetP, retP, resV, resOne, snapV, snapVs, snapR, snapRs, ownSz, pickV, AO.isC, opE, opD, funV, stateP]
  refine use_loop t.pods node hl _ (reqs node t.pods) hr (fun fr hp nx h4 b1 h6 => ?_) t.pods 0 [] rfl (Nat.zero_le _) (List.nil_append _) _ _ _ (Nat.le_refl _) rfl rfl rfl rfl rfl rfl (.inl ⟨rfl, rfl⟩)
  simp only [vecC, vec0, pvs] at b1
  rcases h6 with ⟨he, h6⟩ | ⟨id, h6, i1, i2, i3⟩
  · rw [he] at k
    cases ho : useO t.pods node <;> rw [ho] at k <;> simp only [vecR, vecP, vecC, vec0, codeE] at k <;>
    simp only [runL, opQ, evOp, evO, evOs, guardV, argsA, pvs, putS, cellsOf, scals, scal, Nat.reduceEqDiff, Nat.reduceAdd, reduceCtorEq, fieldA, nonNil, cellsAt, mkAgg, allPV, storeB, patchL, Int.reduceToNat, Nat.reduceMul, Nat.reduceLT, stepA, Int.reduceNeg, Int.reduceLE, Int.reduceLT, Int.reduceEq, extractV, mkAgg, Nat.reduceLeDiff, fillA, pureVs, pureV, eqV, eqB, lenV, binV, intBin, intV, idxA, List.drop, List.take, RetP, retP, resV, resOne, snapV, snapVs, snapR, snapRs, ownSz, pickV, AO.isC, opE, opD, funV, h4, b1, h6, k.call, vecR, vecP, vecC, vec0, codeE]
  · cases ho : useO t.pods node <;> rw [ho] at kf <;> simp only [vecR, vecP, vecC, vec0, codeE] at kf <;>
    simp only [runL, opQ, evOp, evO, evOs, guardV, argsA, pvs, putS, cellsOf, scals, scal, Nat.reduceEqDiff, Nat.reduceAdd, reduceCtorEq, fieldA, nonNil, cellsAt, mkAgg, allPV, storeB, patchL, Int.reduceToNat, Nat.reduceMul, Nat.reduceLT, stepA, Int.reduceNeg, Int.reduceLE, Int.reduceLT, Int.reduceEq, extractV, mkAgg, Nat.reduceLeDiff, fillA, pureVs, pureV, eqV, eqB, lenV, binV, intBin, intV, idxA, List.drop, List.take, RetP, retP, resV, resOne, snapV, snapVs, snapR, snapRs, ownSz, pickV, AO.isC, opE, opD, funV, h4, b1, h6, i3, kf, vecR, vecP, vecC, vec0, codeE]

theorem use6_loop (t : State) (node : Int) (hl : t.pods.length ≤ 2 ^ 30) (Q : Exit → St → Prop) (tot : List Vec) (htot : tot.length ≤ 2 ^ 30)
    (hend : ∀ fr hp nx, look fr 4 = .ptr 1 0 0 → 2 ≤ nx → blkAt hp 1 = .var (pvs (vecC vec0)) → OwnR (look fr 6) hp 4 (tot.map vecC) 2 nx → Q (.exit 0) ⟨fr, hp, nx⟩) :
    ∀ (rest : List Pod) (i : Nat) (acc : List Vec), t.pods.drop i = rest → i ≤ t.pods.length → acc ++ reqs node rest = tot → ∀ (fr : List (Nat × AV)) (hp : Hl) (nx : Nat), 2 ≤ nx → look fr 4 = .ptr 1 0 0 → blkAt hp 1 = .var (pvs (vecC vec0)) →
      look fr 1 = .pv (.int .i64 node) → look fr 2 = .ptr 0 0 0 → blkAt hp 0 = .var [.pv (.slice (t.pods.map podC)), .pv (.int .i64 t.pre), .pv (.int .i64 t.shi)] → look fr 7 = .pv (.int .i64 i) → OwnR (look fr 6) hp 4 (acc.map vecC) 2 nx → Wp T false (.loop f171l0) ⟨fr, hp, nx⟩ Q := by
  intro rest
  induction rest with
  | nil =>
    intro i acc hd hi ho fr hp nx hn h4 b1 h1 h2 b0 h7 h6
    have hlen := drop_nil hd hi
    simp only [reqs, List.append_nil] at ho
    subst ho
    rw [Wp_loop, Wp_eq f171l0.eq_1]
    simp only [runL, opQ, evOp, evO, evOs, guardV, argsA, pvs, putS, cellsOf, scals, scal, Nat.reduceEqDiff, Nat.reduceAdd, reduceCtorEq, fieldA, nonNil, cellsAt, mkAgg, allPV, storeB, patchL, Int.reduceToNat, Nat.reduceMul, Nat.reduceLT, stepA, Int.reduceNeg, Int.reduceLE, Int.reduceLT, Int.reduceEq, extractV, mkAgg, Nat.reduceLeDiff, fillA, pureVs, pureV, eqV, eqB, lenV, binV, intBin, intV, idxA, List.drop, List.take, RetP, retP, resV, resOne, snapV, snapVs, snapR, snapRs, ownSz, pickV, AO.isC, opE, opD, funV, h2, b0, h7, hlen, Int.lt_irrefl]
    refine hend _ _ _ ?_ hn b1 ?_
    all_goals simp only [look_if, Nat.reduceEqDiff, if_false, h4, h6]
  | cons p r ih =>
    intro i acc hd hi ho fr hp nx hn h4 b1 h1 h2 b0 h7 h6
    obtain ⟨hget, hlt, hw, hd', hi', hb⟩ := drop_cons hd hl
    have n0 : ¬ nx = 0 := by omega
    have n1 : ¬ nx = 1 := by omega
    have m0 : ¬ nx + 1 = 0 := by omega
    have m1 : ¬ nx + 1 = 1 := by omega
    simp only [reqs] at ho
    rw [Wp_loop, Wp_eq f171l0.eq_1]
    by_cases hk : p.node = node
    · rw [if_pos hk] at ho
      have ho' : (acc ++ [p.req]) ++ reqs node r = tot := by rw [← ho]; simp
      have hlen : acc.length + 1 ≤ 2 ^ 30 := by
        have := congrArg List.length ho'
        simp at this
        omega
      rcases h6 with ⟨he, h6⟩ | ⟨id, h6, i1, i2, i3⟩
      · have hacc : acc = [] := by simpa using he
        subst hacc
        simp only [runL, opQ, evOp, evO, evOs, guardV, argsA, pvs, putS, cellsOf, scals, scal, Nat.reduceEqDiff, Nat.reduceAdd, reduceCtorEq, fieldA, nonNil, cellsAt, mkAgg, allPV, storeB, patchL, Int.reduceToNat, Nat.reduceMul, Nat.reduceLT, stepA, Int.reduceNeg, Int.reduceLE, Int.reduceLT, Int.reduceEq, extractV, mkAgg, Nat.reduceLeDiff, fillA, pureVs, pureV, eqV, eqB, lenV, binV, intBin, intV, idxA, List.drop, List.take, RetP, retP, resV, resOne, snapV, snapVs, snapR, snapRs, ownSz, pickV, AO.isC, opE, opD, funV, h1, h2, b0, h7, hlt, hget, podC, n0, n1, hk, h6, partsScal, srcV, chunk, appV, baseV, allLen, List.all_cons, List.all_nil, hw, Nat.one_le_two_pow]
        refine ih (i + 1) _ hd' hi' ho' _ _ _ ?_ ?_ ?_ ?_ ?_ ?_ ?_ (.inr ⟨nx + 1, ?_, ?_, ?_, ?_⟩)
        all_goals try simp only [look_if, blkAt_if, Nat.reduceEqDiff, if_true, if_false, h4, b1, n0, n1, m0, m1, h1, h2, b0, List.map_append, List.map_cons, List.map_nil, vecC, List.nil_append]
        all_goals first | omega | skip
      · have d2 : ¬ nx = id := by omega
        have d3 : ¬ id = 1 := by omega
        have d6 : ¬ id = nx + 1 := by omega
        have d7 : ¬ id = 0 := by omega
        simp only [runL, opQ, evOp, evO, evOs, guardV, argsA, pvs, putS, cellsOf, scals, scal, Nat.reduceEqDiff, Nat.reduceAdd, reduceCtorEq, fieldA, nonNil, cellsAt, mkAgg, allPV, storeB, patchL, Int.reduceToNat, Nat.reduceMul, Nat.reduceLT, stepA, Int.reduceNeg, Int.reduceLE, Int.reduceLT, Int.reduceEq, extractV, mkAgg, Nat.reduceLeDiff, fillA, pureVs, pureV, eqV, eqB, lenV, binV, intBin, intV, idxA, List.drop, List.take, RetP, retP, resV, resOne, snapV, snapVs, snapR, snapRs, ownSz, pickV, AO.isC, opE, opD, funV, h1, h2, b0, h7, hlt, hget, podC, n0, n1, hk, h6, i3, partsScal, srcV, chunk, appV, baseV, allLen, List.all_cons, List.all_nil, hw, d2, hlen]
        refine ih (i + 1) _ hd' hi' ho' _ _ _ ?_ ?_ ?_ ?_ ?_ ?_ ?_ (.inr ⟨nx + 1, ?_, ?_, ?_, ?_⟩)
        all_goals try simp only [look_if, blkAt_if, Nat.reduceEqDiff, if_true, if_false, h4, b1, b0, n0, n1, d3, m0, m1, d6, d7, h1, h2, List.map_append, List.map_cons, List.map_nil, vecC]
        all_goals first | omega | skip
    · rw [if_neg hk] at ho
      simp only [runL, opQ, evOp, evO, evOs, guardV, argsA, pvs, putS, cellsOf, scals, scal, Nat.reduceEqDiff, Nat.reduceAdd, reduceCtorEq, fieldA, nonNil, cellsAt, mkAgg, allPV, storeB, patchL, Int.reduceToNat, Nat.reduceMul, Nat.reduceLT, stepA, Int.reduceNeg, Int.reduceLE, Int.reduceLT, Int.reduceEq, extractV, mkAgg, Nat.reduceLeDiff, fillA, pureVs, pureV, eqV, eqB, lenV, binV, intBin, intV, idxA, List.drop, List.take, RetP, retP, resV, resOne, snapV, snapVs, snapR, snapRs, ownSz, pickV, AO.isC, opE, opD, funV, h1, h2, b0, h7, hlt, hget, podC, n1, hk, hw]
      refine ih (i + 1) acc hd' hi' ho _ _ _ hn ?_ b1 ?_ ?_ b0 ?_ ?_
      all_goals simp only [look_if, Nat.reduceEqDiff, if_true, if_false, h4, h1, h2, h6]
theorem use6_ok (h171 : Std T 171 f171) (h143 : Std T 143 f143) (h140 : Std T 140 f140) (h145 : Std T 145 f145) (h144 : Std T 144 f144) (hf : T.flat 143 = true) (t : State) (node : Int) (hl : t.pods.length ≤ 2 ^ 30) (hw : ∀ p ∈ t.pods, p.wf) : Gives T 171 [stateP t, .int .i64 node] (vecB (useO t.pods node)) := by
  refine gives h171 rfl ?_
  have hr : (reqs node t.pods).length ≤ 2 ^ 30 := Nat.le_trans (reqs_le _ _) hl
  have k := sumr_ok h143 h140 h145 h144 (reqs node t.pods) hr (reqs_wf node t.pods hw)
  have e : sumFrom vec0 (reqs node t.pods) = useO t.pods node := rfl
  rw [e] at k
  have kf := k.callF hf (flat_vecB _)
  simp only [f171, runL, opQ, evOp, evO, evOs, guardV, argsA, pvs, putS, cellsOf, scals, scal, Nat.reduceEqDiff, Nat.reduceAdd, reduceCtorEq, fieldA, nonNil, cellsAt, mkAgg, allPV, storeB, patchL, Int.reduceToNat, Nat.reduceMul, Nat.reduceLT, stepA, Int.reduceNeg, Int.reduceLE, Int.reduceLT, Int.reduceEq, extractV, mkAgg, Nat.reduceLeDiff, fillA, pureVs, pureV, eqV, eqB, lenV, binV, intBin, intV, idxA, List.drop, List.take, RetP, retP, resV, resOne, snapV, snapVs, snapR, snapRs, ownSz, pickV, AO.isC, opE, opD, funV, stateP]
  refine use6_loop t node hl _ (reqs node t.pods) hr (fun fr hp nx h4 hn b1 h6 => ?_) t.pods 0 [] rfl (Nat.zero_le _) (List.nil_append _) _ _ _ (Nat.le_refl _) rfl rfl rfl rfl rfl rfl (.inl ⟨rfl, rfl⟩)
  have n1 : ¬ nx = 1 := by omega
  simp only [vecC, vec0, pvs] at b1
  rcases h6 with ⟨he, h6⟩ | ⟨id, h6, i1, i2, i3⟩
  · rw [he] at k
    cases ho : useO t.pods node <;> rw [ho] at k <;> simp only [vecB, vecP, vecC, vec0] at k <;>
    simp only [runL, opQ, evOp, evO, evOs, guardV, argsA, pvs, putS, cellsOf, scals, scal, Nat.reduceEqDiff, Nat.reduceAdd, reduceCtorEq, fieldA, nonNil, cellsAt, mkAgg, allPV, storeB, patchL, Int.reduceToNat, Nat.reduceMul, Nat.reduceLT, stepA, Int.reduceNeg, Int.reduceLE, Int.reduceLT, Int.reduceEq, extractV, mkAgg, Nat.reduceLeDiff, fillA, pureVs, pureV, eqV, eqB, lenV, binV, intBin, intV, idxA, List.drop, List.take, RetP, retP, resV, resOne, snapV, snapVs, snapR, snapRs, ownSz, pickV, AO.isC, opE, opD, funV, h4, b1, h6, k.call, vecB, vecP, vecC, vec0, n1]
  · cases ho : useO t.pods node <;> rw [ho] at kf <;> simp only [vecB, vecP, vecC, vec0] at kf <;>
    simp only [runL, opQ, evOp, evO, evOs, guardV, argsA, pvs, putS, cellsOf, scals, scal, Nat.reduceEqDiff, Nat.reduceAdd, reduceCtorEq, fieldA, nonNil, cellsAt, mkAgg, allPV, storeB, patchL, Int.reduceToNat, Nat.reduceMul, Nat.reduceLT, stepA, Int.reduceNeg, Int.reduceLE, Int.reduceLT, Int.reduceEq, extractV, mkAgg, Nat.reduceLeDiff, fillA, pureVs, pureV, eqV, eqB, lenV, binV, intBin, intV, idxA, List.drop, List.take, RetP, retP, resV, resOne, snapV, snapVs, snapR, snapRs, ownSz, pickV, AO.isC, opE, opD, funV, h4, b1, h6, i3, kf, vecB, vecP, vecC, vec0, n1]
end
end Go.Proofs.YtmeigdjfcecidaaDoor.Ab
/- Layer 6 (room): contracts of Rest and Check. -/
set_option linter.unusedVariables false
set_option linter.unusedSimpArgs false
namespace Go.Proofs.YtmeigdjfcecidaaDoor.Ab
open Go

section
variable {T : Tab}
/-- A node's rest: a code (0: none), and what is left. -/
def restC (s : Snap) (pods : List Pod) (id : Int) : Int × Vec := match nodeOf id s.nodes with
  | none => (4, vec0)
  | some n => match useO pods id with
    | none => (8, vec0)
    | some u => match subV' n.cap n.held with
      | none => (9, vec0)
      | some f => match subV' f u with
        | none => (9, vec0)
        | some r => (0, r)
def errC (c : Int) : PV := if c = 0 then .nili else codeE c
def restR (r : Int × Vec) : PV := .tuple [vecP r.2, errC r.1]
def restB (r : Int × Vec) : PV := .tuple [vecP r.2, .int .i64 r.1]
structure Std6 (T : Tab) : Prop where
  v : StdV T
  h82 : Std T 82 f82
  h221 : Std T 221 f221
  h258 : Std T 258 f258
  h259 : Std T 259 f259
  h220 : Std T 220 f220
  f260 : T.flat 260 = true
set_option maxRecDepth 100000 in
set_option maxHeartbeats 4000000 in
theorem rest_ok (S : Std6 T) (s : Snap) (t : State) (id : Int) (hn : s.nodes.length ≤ 2 ^ 30) (hl : t.pods.length ≤ 2 ^ 30) (hw : ∀ p ∈ t.pods, p.wf) : Gives T 220 [snapP s, stateP t, .int .i64 id] (restR (restC s t.pods id)) := by
  refine gives S.h220 rfl ?_
  have kn := node_ok S.h82 s id hn
  have ku := use_ok S.h221 S.v S.f260 t id hl hw
  unfold restC
  simp only [snapP] at kn
  simp only [stateP] at ku
  cases ho : nodeOf id s.nodes with
  | none =>
    rw [ho] at kn
    simp only [nodeR, nodeC, node0] at kn
    simp only [f220, runL, opQ, evOp, evO, evOs, guardV, argsA, pvs, putS, cellsOf, scals, scal, Nat.reduceEqDiff, Nat.reduceAdd, reduceCtorEq, fieldA, nonNil, cellsAt, mkAgg, allPV, storeB, patchL, Int.reduceToNat, Nat.reduceMul, Nat.reduceLT, stepA, Int.reduceNeg, Int.reduceLE, Int.reduceLT, Int.reduceEq, extractV, mkAgg, Nat.reduceLeDiff, fillA, pureVs, pureV, eqV, eqB, lenV, binV, intBin, intV, idxA, List.drop, List.take, RetP, retP, resV, resOne, snapV, snapVs, snapR, snapRs, ownSz, pickV, AO.isC, opE, opD, funV, snapP, stateP, kn.call, restR, errC, vecP, vecC, vec0, codeE]
  | some n =>
    rw [ho] at kn
    simp only [nodeR, nodeC] at kn
    cases hu : useO t.pods id with
    | none =>
      rw [hu] at ku
      simp only [vecR, vecP, vecC, vec0, codeE] at ku
      simp only [f220, runL, opQ, evOp, evO, evOs, guardV, argsA, pvs, putS, cellsOf, scals, scal, Nat.reduceEqDiff, Nat.reduceAdd, reduceCtorEq, fieldA, nonNil, cellsAt, mkAgg, allPV, storeB, patchL, Int.reduceToNat, Nat.reduceMul, Nat.reduceLT, stepA, Int.reduceNeg, Int.reduceLE, Int.reduceLT, Int.reduceEq, extractV, mkAgg, Nat.reduceLeDiff, fillA, pureVs, pureV, eqV, eqB, lenV, binV, intBin, intV, idxA, List.drop, List.take, RetP, retP, resV, resOne, snapV, snapVs, snapR, snapRs, ownSz, pickV, AO.isC, opE, opD, funV, snapP, stateP, kn.call, ku.call, restR, errC, vecP, vecC, vec0, codeE]
    | some u =>
      rw [hu] at ku
      simp only [vecR, vecP, vecC] at ku
      have k1 := sub_ok S.h258 S.v.h261 S.h259 n.cap n.held
      simp only [vecP, vecC] at k1
      cases h1 : subV' n.cap n.held with
      | none =>
        rw [h1] at k1
        simp only [vecR, vecP, vecC, vec0, codeE] at k1
        simp only [f220, runL, opQ, evOp, evO, evOs, guardV, argsA, pvs, putS, cellsOf, scals, scal, Nat.reduceEqDiff, Nat.reduceAdd, reduceCtorEq, fieldA, nonNil, cellsAt, mkAgg, allPV, storeB, patchL, Int.reduceToNat, Nat.reduceMul, Nat.reduceLT, stepA, Int.reduceNeg, Int.reduceLE, Int.reduceLT, Int.reduceEq, extractV, mkAgg, Nat.reduceLeDiff, fillA, pureVs, pureV, eqV, eqB, lenV, binV, intBin, intV, idxA, List.drop, List.take, RetP, retP, resV, resOne, snapV, snapVs, snapR, snapRs, ownSz, pickV, AO.isC, opE, opD, funV, snapP, stateP, kn.call, ku.call, k1.call, h1, restR, errC, vecP, vecC, vec0, codeE]
      | some f =>
        rw [h1] at k1
        simp only [vecR, vecP, vecC] at k1
        have k2 := sub_ok S.h258 S.v.h261 S.h259 f u
        simp only [vecP, vecC] at k2
        cases h2 : subV' f u with
        | none =>
          rw [h2] at k2
          simp only [vecR, vecP, vecC, vec0, codeE] at k2
          simp only [f220, runL, opQ, evOp, evO, evOs, guardV, argsA, pvs, putS, cellsOf, scals, scal, Nat.reduceEqDiff, Nat.reduceAdd, reduceCtorEq, fieldA, nonNil, cellsAt, mkAgg, allPV, storeB, patchL, Int.reduceToNat, Nat.reduceMul, Nat.reduceLT, stepA, Int.reduceNeg, Int.reduceLE, Int.reduceLT, Int.reduceEq, extractV, mkAgg, Nat.reduceLeDiff, fillA, pureVs, pureV, eqV, eqB, lenV, binV, intBin, intV, idxA, List.drop, List.take, RetP, retP, resV, resOne, snapV, snapVs, snapR, snapRs, ownSz, pickV, AO.isC, opE, opD, funV, snapP, stateP, kn.call, ku.call, k1.call, k2.call, h1, h2, restR, errC, vecP, vecC, vec0, codeE]
        | some r =>
          rw [h2] at k2
          simp only [vecR, vecP, vecC] at k2
          simp only [f220, runL, opQ, evOp, evO, evOs, guardV, argsA, pvs, putS, cellsOf, scals, scal, Nat.reduceEqDiff, Nat.reduceAdd, reduceCtorEq, fieldA, nonNil, cellsAt, mkAgg, allPV, storeB, patchL, Int.reduceToNat, Nat.reduceMul, Nat.reduceLT, stepA, Int.reduceNeg, Int.reduceLE, Int.reduceLT, Int.reduceEq, extractV, mkAgg, Nat.reduceLeDiff, fillA, pureVs, pureV, eqV, eqB, lenV, binV, intBin, intV, idxA, List.drop, List.take, RetP, retP, resV, resOne, snapV, snapVs, snapR, snapRs, ownSz, pickV, AO.isC, opE, opD, funV, snapP, stateP, kn.call, ku.call, k1.call, k2.call, h1, h2, restR, errC, vecP, vecC, vec0, codeE]
structure Std6r (T : Tab) : Prop where
  h155 : Std T 155 f155
  h171 : Std T 171 f171
  h143 : Std T 143 f143
  h140 : Std T 140 f140
  h145 : Std T 145 f145
  h144 : Std T 144 f144
  h142 : Std T 142 f142
  h141 : Std T 141 f141
  h170 : Std T 170 f170
  f143 : T.flat 143 = true
set_option maxRecDepth 100000 in
set_option maxHeartbeats 4000000 in
theorem rest6_ok (S : Std6r T) (s : Snap) (t : State) (id : Int) (hn : s.nodes.length ≤ 2 ^ 30) (hl : t.pods.length ≤ 2 ^ 30) (hw : ∀ p ∈ t.pods, p.wf) : Gives T 170 [snapP s, stateP t, .int .i64 id] (restB (restC s t.pods id)) := by
  refine gives S.h170 rfl ?_
  have kn := node3_ok S.h155 s id hn
  have ku := use6_ok S.h171 S.h143 S.h140 S.h145 S.h144 S.f143 t id hl hw
  unfold restC
  simp only [snapP] at kn
  simp only [stateP] at ku
  rcases ixNode_cases id s.nodes 0 with ⟨ho, hx⟩ | ⟨j, n, hj, ho, hx⟩
  · rw [hx] at kn
    simp only [f170, runL, opQ, evOp, evO, evOs, guardV, argsA, pvs, putS, cellsOf, scals, scal, Nat.reduceEqDiff, Nat.reduceAdd, reduceCtorEq, fieldA, nonNil, cellsAt, mkAgg, allPV, storeB, patchL, Int.reduceToNat, Nat.reduceMul, Nat.reduceLT, stepA, Int.reduceNeg, Int.reduceLE, Int.reduceLT, Int.reduceEq, extractV, mkAgg, Nat.reduceLeDiff, fillA, pureVs, pureV, eqV, eqB, lenV, binV, intBin, intV, idxA, List.drop, List.take, RetP, retP, resV, resOne, snapV, snapVs, snapR, snapRs, ownSz, pickV, AO.isC, opE, opD, funV, snapP, stateP, kn.call, ho, restB, vecP, vecC, vec0]
  · rw [hx, Nat.zero_add] at kn
    have hj0 : ¬ (j : Int) < 0 := by omega
    cases hu : useO t.pods id with
    | none =>
      rw [hu] at ku
      simp only [vecB, vecP, vecC, vec0] at ku
      simp only [f170, runL, opQ, evOp, evO, evOs, guardV, argsA, pvs, putS, cellsOf, scals, scal, Nat.reduceEqDiff, Nat.reduceAdd, reduceCtorEq, fieldA, nonNil, cellsAt, mkAgg, allPV, storeB, patchL, Int.reduceToNat, Nat.reduceMul, Nat.reduceLT, stepA, Int.reduceNeg, Int.reduceLE, Int.reduceLT, Int.reduceEq, extractV, mkAgg, Nat.reduceLeDiff, fillA, pureVs, pureV, eqV, eqB, lenV, binV, intBin, intV, idxA, List.drop, List.take, RetP, retP, resV, resOne, snapV, snapVs, snapR, snapRs, ownSz, pickV, AO.isC, opE, opD, funV, snapP, stateP, kn.call, ho, hj0, ku.call, restB, vecP, vecC, vec0]
    | some u =>
      rw [hu] at ku
      simp only [vecB, vecP, vecC] at ku
      have k1 := sub1r_ok S.h142 S.h141 n.cap n.held
      simp only [vecP, vecC] at k1
      simp only [f170, runL, opQ, evOp, evO, evOs, guardV, argsA, pvs, putS, cellsOf, scals, scal, Nat.reduceEqDiff, Nat.reduceAdd, reduceCtorEq, fieldA, nonNil, cellsAt, mkAgg, allPV, storeB, patchL, Int.reduceToNat, Nat.reduceMul, Nat.reduceLT, stepA, Int.reduceNeg, Int.reduceLE, Int.reduceLT, Int.reduceEq, extractV, mkAgg, Nat.reduceLeDiff, fillA, pureVs, pureV, eqV, eqB, lenV, binV, intBin, intV, idxA, List.drop, List.take, RetP, retP, resV, resOne, snapV, snapVs, snapR, snapRs, ownSz, pickV, AO.isC, opE, opD, funV, snapP, stateP, kn.call, ho, hj0, ku.call]
      refine Wp_draw.2 ?_
      cases h1 : subV' n.cap n.held with
      | none =>
        rw [h1] at k1
        simp only [vecB, vecP, vecC, vec0] at k1
        simp only [runL, opQ, evOp, evO, evOs, guardV, argsA, pvs, putS, cellsOf, scals, scal, Nat.reduceEqDiff, Nat.reduceAdd, reduceCtorEq, fieldA, nonNil, cellsAt, mkAgg, allPV, storeB, patchL, Int.reduceToNat, Nat.reduceMul, Nat.reduceLT, stepA, Int.reduceNeg, Int.reduceLE, Int.reduceLT, Int.reduceEq, extractV, mkAgg, Nat.reduceLeDiff, fillA, pureVs, pureV, eqV, eqB, lenV, binV, intBin, intV, idxA, List.drop, List.take, RetP, retP, resV, resOne, snapV, snapVs, snapR, snapRs, ownSz, pickV, AO.isC, opE, opD, funV, hj, nodeC, k1.callE, h1, restB, vecP, vecC, vec0]
        simp only [chkFrom, allLt, storeB', restOK, mem, indepB, En.reads, aTmps, aTmpsL, aTmpsP, aTmpsO, gTmps, AO.tmps, disj, keys, optL, rdEv, idOf, List.reverse_cons, List.reverse_nil, List.nil_append, List.cons_append, List.append_nil, runL, opQ, evOp, evO, evOs, guardV, argsA, pvs, putS, cellsOf, scals, scal, Nat.reduceEqDiff, Nat.reduceAdd, reduceCtorEq, fieldA, nonNil, cellsAt, mkAgg, allPV, storeB, patchL, Int.reduceToNat, Nat.reduceMul, Nat.reduceLT, stepA, Int.reduceNeg, Int.reduceLE, Int.reduceLT, Int.reduceEq, extractV, mkAgg, Nat.reduceLeDiff, fillA, pureVs, pureV, eqV, eqB, lenV, binV, intBin, intV, idxA, List.drop, List.take, RetP, retP, resV, resOne, snapV, snapVs, snapR, snapRs, ownSz, pickV, AO.isC, opE, opD, funV, Bool.and_true, Bool.true_and]; rfl
      | some f =>
        rw [h1] at k1
        simp only [vecB, vecP, vecC] at k1
        have k2 := sub1r_ok S.h142 S.h141 f u
        simp only [vecP, vecC] at k2
        cases h2 : subV' f u with
        | none =>
          rw [h2] at k2
          simp only [vecB, vecP, vecC, vec0] at k2
          simp only [runL, opQ, evOp, evO, evOs, guardV, argsA, pvs, putS, cellsOf, scals, scal, Nat.reduceEqDiff, Nat.reduceAdd, reduceCtorEq, fieldA, nonNil, cellsAt, mkAgg, allPV, storeB, patchL, Int.reduceToNat, Nat.reduceMul, Nat.reduceLT, stepA, Int.reduceNeg, Int.reduceLE, Int.reduceLT, Int.reduceEq, extractV, mkAgg, Nat.reduceLeDiff, fillA, pureVs, pureV, eqV, eqB, lenV, binV, intBin, intV, idxA, List.drop, List.take, RetP, retP, resV, resOne, snapV, snapVs, snapR, snapRs, ownSz, pickV, AO.isC, opE, opD, funV, hj, nodeC, k1.callE, k2.call, h1, h2, restB, vecP, vecC, vec0]
          simp only [chkFrom, allLt, storeB', restOK, mem, indepB, En.reads, aTmps, aTmpsL, aTmpsP, aTmpsO, gTmps, AO.tmps, disj, keys, optL, rdEv, idOf, List.reverse_cons, List.reverse_nil, List.nil_append, List.cons_append, List.append_nil, runL, opQ, evOp, evO, evOs, guardV, argsA, pvs, putS, cellsOf, scals, scal, Nat.reduceEqDiff, Nat.reduceAdd, reduceCtorEq, fieldA, nonNil, cellsAt, mkAgg, allPV, storeB, patchL, Int.reduceToNat, Nat.reduceMul, Nat.reduceLT, stepA, Int.reduceNeg, Int.reduceLE, Int.reduceLT, Int.reduceEq, extractV, mkAgg, Nat.reduceLeDiff, fillA, pureVs, pureV, eqV, eqB, lenV, binV, intBin, intV, idxA, List.drop, List.take, RetP, retP, resV, resOne, snapV, snapVs, snapR, snapRs, ownSz, pickV, AO.isC, opE, opD, funV, Bool.and_true, Bool.true_and]; rfl
        | some r =>
          rw [h2] at k2
          simp only [vecB, vecP, vecC] at k2
          simp only [runL, opQ, evOp, evO, evOs, guardV, argsA, pvs, putS, cellsOf, scals, scal, Nat.reduceEqDiff, Nat.reduceAdd, reduceCtorEq, fieldA, nonNil, cellsAt, mkAgg, allPV, storeB, patchL, Int.reduceToNat, Nat.reduceMul, Nat.reduceLT, stepA, Int.reduceNeg, Int.reduceLE, Int.reduceLT, Int.reduceEq, extractV, mkAgg, Nat.reduceLeDiff, fillA, pureVs, pureV, eqV, eqB, lenV, binV, intBin, intV, idxA, List.drop, List.take, RetP, retP, resV, resOne, snapV, snapVs, snapR, snapRs, ownSz, pickV, AO.isC, opE, opD, funV, hj, nodeC, k1.callE, k2.call, h1, h2, restB, vecP, vecC, vec0]
          simp only [chkFrom, allLt, storeB', restOK, mem, indepB, En.reads, aTmps, aTmpsL, aTmpsP, aTmpsO, gTmps, AO.tmps, disj, keys, optL, rdEv, idOf, List.reverse_cons, List.reverse_nil, List.nil_append, List.cons_append, List.append_nil, runL, opQ, evOp, evO, evOs, guardV, argsA, pvs, putS, cellsOf, scals, scal, Nat.reduceEqDiff, Nat.reduceAdd, reduceCtorEq, fieldA, nonNil, cellsAt, mkAgg, allPV, storeB, patchL, Int.reduceToNat, Nat.reduceMul, Nat.reduceLT, stepA, Int.reduceNeg, Int.reduceLE, Int.reduceLT, Int.reduceEq, extractV, mkAgg, Nat.reduceLeDiff, fillA, pureVs, pureV, eqV, eqB, lenV, binV, intBin, intV, idxA, List.drop, List.take, RetP, retP, resV, resOne, snapV, snapVs, snapR, snapRs, ownSz, pickV, AO.isC, opE, opD, funV, Bool.and_true, Bool.true_and]; rfl

theorem restC_range (s : Snap) (pods : List Pod) (id : Int) : (restC s pods id).1 = 0 ∨ ((restC s pods id).1 ≠ 0 ∧ 1 ≤ (restC s pods id).1 ∧ (restC s pods id).1 ≤ 17) := by
  unfold restC
  repeat' split
  all_goals simp
/-- The first node at fault. -/
def roomFrom (s : Snap) (pods : List Pod) : Nat → List Node → Option (Int × Int)
  | _, [] => none
  | i, n :: r => if (restC s pods n.id).1 = 0 then roomFrom s pods (i + 1) r else some ((restC s pods n.id).1, i)
set_option maxRecDepth 100000 in
set_option maxHeartbeats 4000000 in
theorem room_loop (S : Std6 T) (h219 : Std T 219 f219) (h266 : StdA T 266) (s : Snap) (t : State) (hn : s.nodes.length ≤ 2 ^ 30) (hl : t.pods.length ≤ 2 ^ 30) (hw : ∀ p ∈ t.pods, p.wf) (Q : Exit → St → Prop) (o : Option (Int × Int))
    (hend : o = none → ∀ fr hp nx, Q (.exit 0) ⟨fr, hp, nx⟩)
    (hret : ∀ c i, o = some (c, i) → ∀ fr hp nx id, look fr 4 = .iface 1 (.ptr id 0 0) → blkAt hp id = .var [.pv (.int .i64 i), .pv (.int .i64 c)] → Q .ret ⟨fr, hp, nx⟩) :
    ∀ (rest : List Node) (i : Nat), s.nodes.drop i = rest → i ≤ s.nodes.length → roomFrom s t.pods i rest = o → ∀ (fr : List (Nat × AV)) (hp : Hl) (nx : Nat), 2 ≤ nx →
      look fr 2 = .ptr 0 0 0 → blkAt hp 0 = .var [.pv (.slice (s.nodes.map nodeC)), .pv (.slice (s.loads.map loadC)), .pv (.slice (s.pods.map podC))] →
      look fr 3 = .ptr 1 0 0 → blkAt hp 1 = .var [.pv (.slice (t.pods.map podC)), .pv (.int .i64 t.pre), .pv (.int .i64 t.shi)] →
      look fr 11 = .pv (.slice (s.nodes.map nodeC)) → look fr 12 = .pv (.int .i64 s.nodes.length) → look fr 13 = .pv (.int .i64 i) → Wp T false (.loop f219l0) ⟨fr, hp, nx⟩ Q := by
  intro rest
  induction rest with
  | nil =>
    intro i hd hi ho fr hp nx hnx h2 b0 h3 b1 h11 h12 h13
    have hlen := drop_nil hd hi
    rw [Wp_loop, Wp_eq f219l0.eq_1]
    simp only [runL, opQ, evOp, evO, evOs, guardV, argsA, pvs, putS, cellsOf, scals, scal, Nat.reduceEqDiff, Nat.reduceAdd, reduceCtorEq, fieldA, nonNil, cellsAt, mkAgg, allPV, storeB, patchL, Int.reduceToNat, Nat.reduceMul, Nat.reduceLT, stepA, Int.reduceNeg, Int.reduceLE, Int.reduceLT, Int.reduceEq, extractV, mkAgg, Nat.reduceLeDiff, fillA, pureVs, pureV, eqV, eqB, lenV, binV, intBin, intV, idxA, List.drop, List.take, RetP, retP, resV, resOne, snapV, snapVs, snapR, snapRs, ownSz, pickV, AO.isC, opE, opD, funV, h11, h12, h13, hlen, Int.lt_irrefl]
    exact hend ho.symm _ _ _
  | cons n r ih =>
    intro i hd hi ho fr hp nx hnx h2 b0 h3 b1 h11 h12 h13
    obtain ⟨hget, hlt, hwi, hd', hi', hb⟩ := drop_cons hd hn
    have n0 : ¬ nx = 0 := by omega
    have n1 : ¬ nx = 1 := by omega
    have m0 : ¬ nx + 1 = 0 := by omega
    have m1 : ¬ nx + 1 = 1 := by omega
    have k := rest_ok S s t n.id hn hl hw
    simp only [snapP, stateP, restR, vecP, vecC] at k
    simp only [roomFrom] at ho
    rw [Wp_loop, Wp_eq f219l0.eq_1]
    rcases restC_range s t.pods n.id with hc | ⟨hc, _, _⟩
    · rw [if_pos hc] at ho
      simp only [errC, hc, if_true] at k
      simp only [runL, opQ, evOp, evO, evOs, guardV, argsA, pvs, putS, cellsOf, scals, scal, Nat.reduceEqDiff, Nat.reduceAdd, reduceCtorEq, fieldA, nonNil, cellsAt, mkAgg, allPV, storeB, patchL, Int.reduceToNat, Nat.reduceMul, Nat.reduceLT, stepA, Int.reduceNeg, Int.reduceLE, Int.reduceLT, Int.reduceEq, extractV, mkAgg, Nat.reduceLeDiff, fillA, pureVs, pureV, eqV, eqB, lenV, binV, intBin, intV, idxA, List.drop, List.take, RetP, retP, resV, resOne, snapV, snapVs, snapR, snapRs, ownSz, pickV, AO.isC, opE, opD, funV, h2, b0, h3, b1, h11, h12, h13, hlt, hget, nodeC, n0, n1, k.call, as_nilQ h266, hwi]
      refine ih (i + 1) hd' hi' ho _ _ _ ?_ ?_ ?_ ?_ ?_ ?_ ?_ ?_
      all_goals try simp only [look_if, blkAt_if, Nat.reduceEqDiff, if_true, if_false, h2, b0, h3, b1, n0, n1, m0, m1, h11, h12]
      all_goals first | omega | skip
    · rw [if_neg hc] at ho
      simp only [errC, hc, if_false, codeE] at k
      simp only [runL, opQ, evOp, evO, evOs, guardV, argsA, pvs, putS, cellsOf, scals, scal, Nat.reduceEqDiff, Nat.reduceAdd, reduceCtorEq, fieldA, nonNil, cellsAt, mkAgg, allPV, storeB, patchL, Int.reduceToNat, Nat.reduceMul, Nat.reduceLT, stepA, Int.reduceNeg, Int.reduceLE, Int.reduceLT, Int.reduceEq, extractV, mkAgg, Nat.reduceLeDiff, fillA, pureVs, pureV, eqV, eqB, lenV, binV, intBin, intV, idxA, List.drop, List.take, RetP, retP, resV, resOne, snapV, snapVs, snapR, snapRs, ownSz, pickV, AO.isC, opE, opD, funV, h2, b0, h3, b1, h11, h12, h13, hlt, hget, nodeC, n0, n1, k.call]
      refine (as_codeQ h266 (o := 0) ?_).2 ?_
      · simp only [runL, opQ, evOp, evO, evOs, guardV, argsA, pvs, putS, cellsOf, scals, scal, Nat.reduceEqDiff, Nat.reduceAdd, reduceCtorEq, fieldA, nonNil, cellsAt, mkAgg, allPV, storeB, patchL, Int.reduceToNat, Nat.reduceMul, Nat.reduceLT, stepA, Int.reduceNeg, Int.reduceLE, Int.reduceLT, Int.reduceEq, extractV, mkAgg, Nat.reduceLeDiff, fillA, pureVs, pureV, eqV, eqB, lenV, binV, intBin, intV, idxA, List.drop, List.take, RetP, retP, resV, resOne, snapV, snapVs, snapR, snapRs, ownSz, pickV, AO.isC, opE, opD, funV]
      · simp only [runL, opQ, evOp, evO, evOs, guardV, argsA, pvs, putS, cellsOf, scals, scal, Nat.reduceEqDiff, Nat.reduceAdd, reduceCtorEq, fieldA, nonNil, cellsAt, mkAgg, allPV, storeB, patchL, Int.reduceToNat, Nat.reduceMul, Nat.reduceLT, stepA, Int.reduceNeg, Int.reduceLE, Int.reduceLT, Int.reduceEq, extractV, mkAgg, Nat.reduceLeDiff, fillA, pureVs, pureV, eqV, eqB, lenV, binV, intBin, intV, idxA, List.drop, List.take, RetP, retP, resV, resOne, snapV, snapVs, snapR, snapRs, ownSz, pickV, AO.isC, opE, opD, funV, h2, b0, h3, b1, h11, h12, h13]
        refine hret _ _ ho.symm _ _ _ (nx + 1 + 1 + 1) ?_ ?_
        all_goals simp only [look_if, blkAt_if, Nat.reduceEqDiff, if_true, if_false]
theorem room_ok (S : Std6 T) (h219 : Std T 219 f219) (h266 : StdA T 266) (s : Snap) (t : State) (hn : s.nodes.length ≤ 2 ^ 30) (hl : t.pods.length ≤ 2 ^ 30) (hw : ∀ p ∈ t.pods, p.wf) : Gives T 219 [snapP s, stateP t] (errO (roomFrom s t.pods 0 s.nodes)) := by
  refine gives h219 rfl ?_
  simp only [f219, runL, opQ, evOp, evO, evOs, guardV, argsA, pvs, putS, cellsOf, scals, scal, Nat.reduceEqDiff, Nat.reduceAdd, reduceCtorEq, fieldA, nonNil, cellsAt, mkAgg, allPV, storeB, patchL, Int.reduceToNat, Nat.reduceMul, Nat.reduceLT, stepA, Int.reduceNeg, Int.reduceLE, Int.reduceLT, Int.reduceEq, extractV, mkAgg, Nat.reduceLeDiff, fillA, pureVs, pureV, eqV, eqB, lenV, binV, intBin, intV, idxA, List.drop, List.take, RetP, retP, resV, resOne, snapV, snapVs, snapR, snapRs, ownSz, pickV, AO.isC, opE, opD, funV, snapP, stateP]
  refine room_loop S h219 h266 s t hn hl hw _ (roomFrom s t.pods 0 s.nodes) (fun ho fr hp nx => ?_) (fun c i ho fr hp nx id h4 hb => ?_) s.nodes 0 rfl (Nat.zero_le _) rfl _ _ _ (Nat.le_refl _) rfl rfl rfl rfl rfl rfl rfl
  · simp only [runL, opQ, evOp, evO, evOs, guardV, argsA, pvs, putS, cellsOf, scals, scal, Nat.reduceEqDiff, Nat.reduceAdd, reduceCtorEq, fieldA, nonNil, cellsAt, mkAgg, allPV, storeB, patchL, Int.reduceToNat, Nat.reduceMul, Nat.reduceLT, stepA, Int.reduceNeg, Int.reduceLE, Int.reduceLT, Int.reduceEq, extractV, mkAgg, Nat.reduceLeDiff, fillA, pureVs, pureV, eqV, eqB, lenV, binV, intBin, intV, idxA, List.drop, List.take, RetP, retP, resV, resOne, snapV, snapVs, snapR, snapRs, ownSz, pickV, AO.isC, opE, opD, funV, ho, errO]
  · simp only [runL, opQ, evOp, evO, evOs, guardV, argsA, pvs, putS, cellsOf, scals, scal, Nat.reduceEqDiff, Nat.reduceAdd, reduceCtorEq, fieldA, nonNil, cellsAt, mkAgg, allPV, storeB, patchL, Int.reduceToNat, Nat.reduceMul, Nat.reduceLT, stepA, Int.reduceNeg, Int.reduceLE, Int.reduceLT, Int.reduceEq, extractV, mkAgg, Nat.reduceLeDiff, fillA, pureVs, pureV, eqV, eqB, lenV, binV, intBin, intV, idxA, List.drop, List.take, RetP, retP, resV, resOne, snapV, snapVs, snapR, snapRs, ownSz, pickV, AO.isC, opE, opD, funV, ho, errO, h4, hb, spotE]
set_option maxRecDepth 100000 in
set_option maxHeartbeats 4000000 in
theorem room6_loop (S : Std6r T) (s : Snap) (t : State) (hn : s.nodes.length ≤ 2 ^ 30) (hl : t.pods.length ≤ 2 ^ 30) (hw : ∀ p ∈ t.pods, p.wf) (Q : Exit → St → Prop) (o : Option (Int × Int))
    (hend : o = none → ∀ fr hp nx, Q (.exit 0) ⟨fr, hp, nx⟩)
    (hret : ∀ c i, o = some (c, i) → ∀ fr hp nx, look fr 4 = .pv (.int .i64 c) → look fr 5 = .pv (.int .i64 i) → Q .ret ⟨fr, hp, nx⟩) :
    ∀ (rest : List Node) (i : Nat), s.nodes.drop i = rest → i ≤ s.nodes.length → roomFrom s t.pods i rest = o → ∀ (fr : List (Nat × AV)) (hp : Hl) (nx : Nat), 2 ≤ nx →
      look fr 2 = .ptr 0 0 0 → blkAt hp 0 = .var [.pv (.slice (s.nodes.map nodeC)), .pv (.slice (s.loads.map loadC)), .pv (.slice (s.pods.map podC))] →
      look fr 3 = .ptr 1 0 0 → blkAt hp 1 = .var [.pv (.slice (t.pods.map podC)), .pv (.int .i64 t.pre), .pv (.int .i64 t.shi)] →
      look fr 6 = .pv (.int .i64 i) → Wp T false (.loop f169l0) ⟨fr, hp, nx⟩ Q := by
  intro rest
  induction rest with
  | nil =>
    intro i hd hi ho fr hp nx hnx h2 b0 h3 b1 h6
    have hlen := drop_nil hd hi
    rw [Wp_loop, Wp_eq f169l0.eq_1]
    simp only [runL, opQ, evOp, evO, evOs, guardV, argsA, pvs, putS, cellsOf, scals, scal, Nat.reduceEqDiff, Nat.reduceAdd, reduceCtorEq, fieldA, nonNil, cellsAt, mkAgg, allPV, storeB, patchL, Int.reduceToNat, Nat.reduceMul, Nat.reduceLT, stepA, Int.reduceNeg, Int.reduceLE, Int.reduceLT, Int.reduceEq, extractV, mkAgg, Nat.reduceLeDiff, fillA, pureVs, pureV, eqV, eqB, lenV, binV, intBin, intV, idxA, List.drop, List.take, RetP, retP, resV, resOne, snapV, snapVs, snapR, snapRs, ownSz, pickV, AO.isC, opE, opD, funV, h2, b0, h6, hlen, Int.lt_irrefl]
    exact hend ho.symm _ _ _
  | cons n r ih =>
    intro i hd hi ho fr hp nx hnx h2 b0 h3 b1 h6
    obtain ⟨hget, hlt, hwi, hd', hi', hb⟩ := drop_cons hd hn
    have n0 : ¬ nx = 0 := by omega
    have n1 : ¬ nx = 1 := by omega
    have k := rest6_ok S s t n.id hn hl hw
    simp only [snapP, stateP, restB, vecP, vecC] at k
    simp only [roomFrom] at ho
    rw [Wp_loop, Wp_eq f169l0.eq_1]
    simp only [runL, opQ, evOp, evO, evOs, guardV, argsA, pvs, putS, cellsOf, scals, scal, Nat.reduceEqDiff, Nat.reduceAdd, reduceCtorEq, fieldA, nonNil, cellsAt, mkAgg, allPV, storeB, patchL, Int.reduceToNat, Nat.reduceMul, Nat.reduceLT, stepA, Int.reduceNeg, Int.reduceLE, Int.reduceLT, Int.reduceEq, extractV, mkAgg, Nat.reduceLeDiff, fillA, pureVs, pureV, eqV, eqB, lenV, binV, intBin, intV, idxA, List.drop, List.take, RetP, retP, resV, resOne, snapV, snapVs, snapR, snapRs, ownSz, pickV, AO.isC, opE, opD, funV, h2, b0, h6, hlt]
    refine Wp_draw.2 ?_
    rcases restC_range s t.pods n.id with hc | ⟨hc, _, _⟩
    · rw [if_pos hc] at ho
      simp only [hc] at k
      simp only [runL, opQ, evOp, evO, evOs, guardV, argsA, pvs, putS, cellsOf, scals, scal, Nat.reduceEqDiff, Nat.reduceAdd, reduceCtorEq, fieldA, nonNil, cellsAt, mkAgg, allPV, storeB, patchL, Int.reduceToNat, Nat.reduceMul, Nat.reduceLT, stepA, Int.reduceNeg, Int.reduceLE, Int.reduceLT, Int.reduceEq, extractV, mkAgg, Nat.reduceLeDiff, fillA, pureVs, pureV, eqV, eqB, lenV, binV, intBin, intV, idxA, List.drop, List.take, RetP, retP, resV, resOne, snapV, snapVs, snapR, snapRs, ownSz, pickV, AO.isC, opE, opD, funV, h2, b0, h3, b1, h6, hget, nodeC, k.callE, hwi]
      refine ⟨?_, ih (i + 1) hd' hi' ho _ _ _ ?_ ?_ ?_ ?_ ?_ ?_⟩
      · simp only [chkFrom, allLt, storeB', restOK, mem, indepB, En.reads, aTmps, aTmpsL, aTmpsP, aTmpsO, gTmps, AO.tmps, disj, keys, optL, rdEv, idOf, List.reverse_cons, List.reverse_nil, List.nil_append, List.cons_append, List.append_nil, runL, opQ, evOp, evO, evOs, guardV, argsA, pvs, putS, cellsOf, scals, scal, Nat.reduceEqDiff, Nat.reduceAdd, reduceCtorEq, fieldA, nonNil, cellsAt, mkAgg, allPV, storeB, patchL, Int.reduceToNat, Nat.reduceMul, Nat.reduceLT, stepA, Int.reduceNeg, Int.reduceLE, Int.reduceLT, Int.reduceEq, extractV, mkAgg, Nat.reduceLeDiff, fillA, pureVs, pureV, eqV, eqB, lenV, binV, intBin, intV, idxA, List.drop, List.take, RetP, retP, resV, resOne, snapV, snapVs, snapR, snapRs, ownSz, pickV, AO.isC, opE, opD, funV, Bool.and_true, Bool.true_and, h2, h3, n0, n1, ne_comm]; rfl
      all_goals try simp only [look_if, blkAt_if, Nat.reduceEqDiff, if_true, if_false, h2, b0, h3, b1, n0, n1]
      all_goals first | omega | skip
    · rw [if_neg hc] at ho
      simp only [runL, opQ, evOp, evO, evOs, guardV, argsA, pvs, putS, cellsOf, scals, scal, Nat.reduceEqDiff, Nat.reduceAdd, reduceCtorEq, fieldA, nonNil, cellsAt, mkAgg, allPV, storeB, patchL, Int.reduceToNat, Nat.reduceMul, Nat.reduceLT, stepA, Int.reduceNeg, Int.reduceLE, Int.reduceLT, Int.reduceEq, extractV, mkAgg, Nat.reduceLeDiff, fillA, pureVs, pureV, eqV, eqB, lenV, binV, intBin, intV, idxA, List.drop, List.take, RetP, retP, resV, resOne, snapV, snapVs, snapR, snapRs, ownSz, pickV, AO.isC, opE, opD, funV, h2, b0, h3, b1, h6, hget, nodeC, k.callE, hc]
      refine ⟨?_, hret _ _ ho.symm _ _ _ ?_ ?_⟩
      · simp only [chkFrom, allLt, storeB', restOK, mem, indepB, En.reads, aTmps, aTmpsL, aTmpsP, aTmpsO, gTmps, AO.tmps, disj, keys, optL, rdEv, idOf, List.reverse_cons, List.reverse_nil, List.nil_append, List.cons_append, List.append_nil, runL, opQ, evOp, evO, evOs, guardV, argsA, pvs, putS, cellsOf, scals, scal, Nat.reduceEqDiff, Nat.reduceAdd, reduceCtorEq, fieldA, nonNil, cellsAt, mkAgg, allPV, storeB, patchL, Int.reduceToNat, Nat.reduceMul, Nat.reduceLT, stepA, Int.reduceNeg, Int.reduceLE, Int.reduceLT, Int.reduceEq, extractV, mkAgg, Nat.reduceLeDiff, fillA, pureVs, pureV, eqV, eqB, lenV, binV, intBin, intV, idxA, List.drop, List.take, RetP, retP, resV, resOne, snapV, snapVs, snapR, snapRs, ownSz, pickV, AO.isC, opE, opD, funV, Bool.and_true, Bool.true_and, h2, h3, n0, n1, ne_comm]; rfl
      all_goals simp only [look_if, blkAt_if, Nat.reduceEqDiff, if_true, if_false]
theorem room6_ok (S : Std6r T) (h169 : Std T 169 f169) (s : Snap) (t : State) (hn : s.nodes.length ≤ 2 ^ 30) (hl : t.pods.length ≤ 2 ^ 30) (hw : ∀ p ∈ t.pods, p.wf) : Gives T 169 [snapP s, stateP t] (badO (roomFrom s t.pods 0 s.nodes)) := by
  refine gives h169 rfl ?_
  simp only [f169, runL, opQ, evOp, evO, evOs, guardV, argsA, pvs, putS, cellsOf, scals, scal, Nat.reduceEqDiff, Nat.reduceAdd, reduceCtorEq, fieldA, nonNil, cellsAt, mkAgg, allPV, storeB, patchL, Int.reduceToNat, Nat.reduceMul, Nat.reduceLT, stepA, Int.reduceNeg, Int.reduceLE, Int.reduceLT, Int.reduceEq, extractV, mkAgg, Nat.reduceLeDiff, fillA, pureVs, pureV, eqV, eqB, lenV, binV, intBin, intV, idxA, List.drop, List.take, RetP, retP, resV, resOne, snapV, snapVs, snapR, snapRs, ownSz, pickV, AO.isC, opE, opD, funV, snapP, stateP]
  refine room6_loop S s t hn hl hw _ (roomFrom s t.pods 0 s.nodes) (fun ho fr hp nx => ?_) (fun c i ho fr hp nx h4 h5 => ?_) s.nodes 0 rfl (Nat.zero_le _) rfl _ _ _ (Nat.le_refl _) rfl rfl rfl rfl rfl
  · simp only [runL, opQ, evOp, evO, evOs, guardV, argsA, pvs, putS, cellsOf, scals, scal, Nat.reduceEqDiff, Nat.reduceAdd, reduceCtorEq, fieldA, nonNil, cellsAt, mkAgg, allPV, storeB, patchL, Int.reduceToNat, Nat.reduceMul, Nat.reduceLT, stepA, Int.reduceNeg, Int.reduceLE, Int.reduceLT, Int.reduceEq, extractV, mkAgg, Nat.reduceLeDiff, fillA, pureVs, pureV, eqV, eqB, lenV, binV, intBin, intV, idxA, List.drop, List.take, RetP, retP, resV, resOne, snapV, snapVs, snapR, snapRs, ownSz, pickV, AO.isC, opE, opD, funV, ho, badO]
  · simp only [runL, opQ, evOp, evO, evOs, guardV, argsA, pvs, putS, cellsOf, scals, scal, Nat.reduceEqDiff, Nat.reduceAdd, reduceCtorEq, fieldA, nonNil, cellsAt, mkAgg, allPV, storeB, patchL, Int.reduceToNat, Nat.reduceMul, Nat.reduceLT, stepA, Int.reduceNeg, Int.reduceLE, Int.reduceLT, Int.reduceEq, extractV, mkAgg, Nat.reduceLeDiff, fillA, pureVs, pureV, eqV, eqB, lenV, binV, intBin, intV, idxA, List.drop, List.take, RetP, retP, resV, resOne, snapV, snapVs, snapR, snapRs, ownSz, pickV, AO.isC, opE, opD, funV, ho, badO, h4, h5]
end
end Go.Proofs.YtmeigdjfcecidaaDoor.Ab
/- Law 6: the plain law. -/
set_option linter.unusedVariables false
set_option linter.unusedSimpArgs false
namespace Go.Proofs.YtmeigdjfcecidaaDoor.Ab
open Go

theorem addV_some {a b v : Vec} : addV a b = some v ↔ v = ⟨a.a + b.a, a.b + b.b, a.c + b.c, a.d + b.d⟩ ∧ a.a + b.a < 18446744073709551616 ∧ a.b + b.b < 18446744073709551616 ∧ a.c + b.c < 18446744073709551616 ∧ a.d + b.d < 18446744073709551616 := by
  unfold addV eachV
  by_cases h1 : a.a + b.a < 18446744073709551616
  · by_cases h2 : a.b + b.b < 18446744073709551616
    · by_cases h3 : a.c + b.c < 18446744073709551616
      · by_cases h4 : a.d + b.d < 18446744073709551616
        · simp only [sumOk, sumN, h1, h2, h3, h4, decide_true, cond_true, if_true, Option.some.injEq, and_true]
          exact eq_comm
        · simp only [sumOk, h1, h2, h3, h4, decide_true, decide_false, if_true, Bool.false_eq_true, if_false, reduceCtorEq, and_false]
      · simp only [sumOk, h1, h2, h3, decide_true, decide_false, if_true, Bool.false_eq_true, if_false, reduceCtorEq, and_false, false_and]
    · simp only [sumOk, h1, h2, decide_true, decide_false, if_true, Bool.false_eq_true, if_false, reduceCtorEq, and_false, false_and]
  · simp only [sumOk, h1, decide_true, decide_false, if_true, Bool.false_eq_true, if_false, reduceCtorEq, and_false, false_and]
theorem subV_some {a b v : Vec} (ha : a.wf) (hb : b.wf) : subV' a b = some v ↔ v = ⟨a.a - b.a, a.b - b.b, a.c - b.c, a.d - b.d⟩ ∧ b.a ≤ a.a ∧ b.b ≤ a.b ∧ b.c ≤ a.c ∧ b.d ≤ a.d := by
  obtain ⟨⟨p1, p1'⟩, ⟨p2, p2'⟩, ⟨p3, p3'⟩, ⟨p4, p4'⟩⟩ := ha
  obtain ⟨⟨q1, _⟩, ⟨q2, _⟩, ⟨q3, _⟩, ⟨q4, _⟩⟩ := hb
  have key : ∀ x y : Int, x ≤ 18446744073709551615 → 0 ≤ y → y ≤ x → diffN x y = x - y := by
    intro x y h1 h2 h3
    unfold diffN
    rw [wrapU] <;> omega
  rw [subV_if]
  by_cases h : b.a ≤ a.a ∧ b.b ≤ a.b ∧ b.c ≤ a.c ∧ b.d ≤ a.d
  · obtain ⟨h1, h2, h3, h4⟩ := h
    have hf : fitsB b a = true := by simp [fitsB, h1, h2, h3, h4]
    rw [if_pos hf, key _ _ p1' q1 h1, key _ _ p2' q2 h2, key _ _ p3' q3 h3, key _ _ p4' q4 h4]
    simp only [Option.some.injEq, h1, h2, h3, h4, and_true]
    exact eq_comm
  · have hf : ¬ fitsB b a = true := by simpa [fitsB] using h
    rw [if_neg hf]
    simp only [reduceCtorEq, h, and_false]
theorem subV_wf {a b v : Vec} (ha : a.wf) (hb : b.wf) (h : subV' a b = some v) : v.wf := by
  obtain ⟨rfl, h1, h2, h3, h4⟩ := (subV_some ha hb).1 h
  obtain ⟨⟨p1, p1'⟩, ⟨p2, p2'⟩, ⟨p3, p3'⟩, ⟨p4, p4'⟩⟩ := ha
  obtain ⟨⟨q1, _⟩, ⟨q2, _⟩, ⟨q3, _⟩, ⟨q4, _⟩⟩ := hb
  exact ⟨⟨by simp only; omega, by simp only; omega⟩, ⟨by simp only; omega, by simp only; omega⟩, ⟨by simp only; omega, by simp only; omega⟩, ⟨by simp only; omega, by simp only; omega⟩⟩
theorem sub_add {a b v : Vec} (ha : a.wf) (hb : b.wf) (h : subV' a b = some v) : addV v b = some a := by
  obtain ⟨rfl, h1, h2, h3, h4⟩ := (subV_some ha hb).1 h
  obtain ⟨⟨p1, p1'⟩, ⟨p2, p2'⟩, ⟨p3, p3'⟩, ⟨p4, p4'⟩⟩ := ha
  rw [addV_some]
  simp only [Int.sub_add_cancel]
  exact ⟨trivial, by omega, by omega, by omega, by omega⟩

/-! ### Sums, cell by cell -/
def totV (f : Vec → Int) : List Vec → Int
  | [] => 0
  | v :: r => f v + totV f r
theorem totV_pos {f : Vec → Int} : ∀ {l : List Vec}, (∀ v ∈ l, 0 ≤ f v) → 0 ≤ totV f l
  | [], _ => Int.le_refl _
  | v :: r, h => by
    have h1 := h v (List.mem_cons_self ..)
    have h2 := totV_pos (l := r) fun u hu => h u (List.mem_cons_of_mem _ hu)
    simp only [totV]
    omega
theorem totV_sub {f : Vec → Int} {l' l : List Vec} (h : l'.Sublist l) : (∀ v ∈ l, 0 ≤ f v) → totV f l' ≤ totV f l := by
  induction h with
  | slnil => exact fun _ => Int.le_refl _
  | cons a _ ih =>
    intro h
    have h1 := h a (List.mem_cons_self ..)
    have h2 := ih fun u hu => h u (List.mem_cons_of_mem _ hu)
    simp only [totV]
    omega
  | cons_cons a _ ih =>
    intro h
    have h2 := ih fun u hu => h u (List.mem_cons_of_mem _ hu)
    simp only [totV]
    omega
theorem sumFrom_some : ∀ (l : List Vec) (acc : Vec), acc.wf → (∀ v ∈ l, v.wf) → ∀ u, sumFrom acc l = some u ↔ u = ⟨acc.a + totV Vec.a l, acc.b + totV Vec.b l, acc.c + totV Vec.c l, acc.d + totV Vec.d l⟩ ∧
    acc.a + totV Vec.a l < 18446744073709551616 ∧ acc.b + totV Vec.b l < 18446744073709551616 ∧ acc.c + totV Vec.c l < 18446744073709551616 ∧ acc.d + totV Vec.d l < 18446744073709551616
  | [], acc, ha, _, u => by
    obtain ⟨⟨p1, p1'⟩, ⟨p2, p2'⟩, ⟨p3, p3'⟩, ⟨p4, p4'⟩⟩ := ha
    simp only [sumFrom, totV, Int.add_zero, Option.some.injEq]
    constructor
    · rintro rfl
      exact ⟨rfl, by omega, by omega, by omega, by omega⟩
    · rintro ⟨rfl, _⟩
      rfl
  | v :: r, acc, ha, h, u => by
    have hv := h v (List.mem_cons_self ..)
    have hr : ∀ u ∈ r, u.wf := fun u hu => h u (List.mem_cons_of_mem _ hu)
    have z1 := totV_pos (f := Vec.a) (l := r) fun u hu => (hr u hu).1.1
    have z2 := totV_pos (f := Vec.b) (l := r) fun u hu => (hr u hu).2.1.1
    have z3 := totV_pos (f := Vec.c) (l := r) fun u hu => (hr u hu).2.2.1.1
    have z4 := totV_pos (f := Vec.d) (l := r) fun u hu => (hr u hu).2.2.2.1
    simp only [sumFrom, totV, ← Int.add_assoc]
    cases hs : addV acc v with
    | none =>
      simp only [reduceCtorEq, false_iff]
      rintro ⟨_, h1, h2, h3, h4⟩
      have := addV_some.2 ⟨rfl, (by omega : acc.a + v.a < _), (by omega : acc.b + v.b < _), (by omega : acc.c + v.c < _), (by omega : acc.d + v.d < _)⟩
      rw [hs] at this
      simp at this
    | some n =>
      have hn := addV_wf ha hv hs
      obtain ⟨rfl, _⟩ := addV_some.1 hs
      exact sumFrom_some r _ hn hr u
theorem sumFrom_wf : ∀ (l : List Vec) (acc : Vec), acc.wf → (∀ v ∈ l, v.wf) → ∀ u, sumFrom acc l = some u → u.wf
  | [], acc, ha, _, u, h => by
    simp only [sumFrom, Option.some.injEq] at h
    subst h
    exact ha
  | v :: r, acc, ha, hl, u, h => by
    simp only [sumFrom] at h
    split at h
    · rename_i n hs
      exact sumFrom_wf r n (addV_wf ha (hl v (List.mem_cons_self ..)) hs) (fun u hu => hl u (List.mem_cons_of_mem _ hu)) u h
    · simp at h
theorem sum_sub {l' l : List Vec} (h : l'.Sublist l) (hw : ∀ v ∈ l, v.wf) {u : Vec} (hu : sumFrom vec0 l = some u) : ∃ u', sumFrom vec0 l' = some u' ∧ u'.a ≤ u.a ∧ u'.b ≤ u.b ∧ u'.c ≤ u.c ∧ u'.d ≤ u.d := by
  obtain ⟨rfl, h1, h2, h3, h4⟩ := (sumFrom_some l vec0 vec0_wf hw u).1 hu
  have z1 := totV_sub (f := Vec.a) h fun u hu => (hw u hu).1.1
  have z2 := totV_sub (f := Vec.b) h fun u hu => (hw u hu).2.1.1
  have z3 := totV_sub (f := Vec.c) h fun u hu => (hw u hu).2.2.1.1
  have z4 := totV_sub (f := Vec.d) h fun u hu => (hw u hu).2.2.2.1
  refine ⟨_, (sumFrom_some l' vec0 vec0_wf (fun v hv => hw v (h.subset hv)) _).2 ⟨rfl, by omega, by omega, by omega, by omega⟩, ?_, ?_, ?_, ?_⟩ <;> simp only <;> omega
theorem reqs_sub {node : Int} {l' l : List Pod} (h : l'.Sublist l) : (reqs node l').Sublist (reqs node l) := by
  induction h with
  | slnil => exact List.Sublist.slnil
  | cons a _ ih =>
    simp only [reqs]
    split
    · exact List.Sublist.cons _ ih
    · exact ih
  | cons_cons a _ ih =>
    simp only [reqs]
    split
    · exact List.Sublist.cons_cons _ ih
    · exact ih
theorem use_wf {pods : List Pod} (h : ∀ p ∈ pods, p.wf) {id : Int} {u : Vec} (hu : useO pods id = some u) : u.wf := sumFrom_wf _ _ vec0_wf (reqs_wf id pods h) _ hu
theorem nodeOf_mem {id : Int} {l : List Node} {n : Node} (h : nodeOf id l = some n) : n ∈ l := List.mem_of_find?_eq_some h

theorem restC_zero {s : Snap} {pods : List Pod} {id : Int} (h : (restC s pods id).1 = 0) : ∃ m u f, nodeOf id s.nodes = some m ∧ useO pods id = some u ∧ subV' m.cap m.held = some f ∧ subV' f u = some (restC s pods id).2 := by
  unfold restC at h ⊢
  split at h
  · simp at h
  · rename_i n hn
    split at h
    · simp at h
    · rename_i u hu
      split at h
      · simp at h
      · rename_i f hf
        split at h
        · simp at h
        · rename_i r hr
          refine ⟨n, u, f, hn, hu, hf, ?_⟩
          simp only [hn, hu, hf, hr]
theorem restC_of {s : Snap} {pods : List Pod} {id : Int} {m : Node} {u f r : Vec} (h1 : nodeOf id s.nodes = some m) (h2 : useO pods id = some u) (h3 : subV' m.cap m.held = some f) (h4 : subV' f u = some r) : restC s pods id = (0, r) := by
  unfold restC
  simp only [h1, h2, h3, h4]
theorem rest_less {s : Snap} (hs : ∀ n ∈ s.nodes, n.wf) {l' l : List Pod} (h : l'.Sublist l) (hw : ∀ p ∈ l, p.wf) {id : Int} (h0 : (restC s l id).1 = 0) : (restC s l' id).1 = 0 := by
  obtain ⟨m, u, f, g1, g2, g3, g4⟩ := restC_zero h0
  have hm := hs m (nodeOf_mem g1)
  have hf := subV_wf hm.2.2.1 hm.2.2.2 g3
  have hu := use_wf hw g2
  obtain ⟨u', e1, e2, e3, e4, e5⟩ := sum_sub (reqs_sub (node := id) h) (reqs_wf id l hw) g2
  have hu' : u'.wf := use_wf (fun p hp => hw p (h.subset hp)) e1
  obtain ⟨_, q1, q2, q3, q4⟩ := (subV_some hf hu).1 g4
  rw [restC_of g1 (show useO l' id = some u' from e1) g3 ((subV_some hf hu').2 ⟨rfl, by omega, by omega, by omega, by omega⟩)]
theorem roomFrom_none {s : Snap} {pods : List Pod} : ∀ {l : List Node} {i : Nat}, roomFrom s pods i l = none ↔ ∀ n ∈ l, (restC s pods n.id).1 = 0
  | [], i => by simp [roomFrom]
  | n :: r, i => by
    simp only [roomFrom, List.mem_cons, forall_eq_or_imp]
    by_cases h : (restC s pods n.id).1 = 0
    · rw [if_pos h, roomFrom_none (l := r)]
      simp [h]
    · rw [if_neg h]
      simp [h]
theorem room_less {s : Snap} (hs : ∀ n ∈ s.nodes, n.wf) {l' l : List Pod} (h : l'.Sublist l) (hw : ∀ p ∈ l, p.wf) (h0 : roomFrom s l 0 s.nodes = none) : roomFrom s l' 0 s.nodes = none :=
  roomFrom_none.2 fun n hn => rest_less hs h hw (roomFrom_none.1 h0 n hn)
theorem roomFrom_pos (s : Snap) (pods : List Pod) : ∀ (l : List Node) (i : Nat) c k, roomFrom s pods i l = some (c, k) → 0 ≤ k
  | [], i, c, k, h => by simp [roomFrom] at h
  | n :: r, i, c, k, h => by
    simp only [roomFrom] at h
    split at h
    · exact roomFrom_pos s pods r (i + 1) c k h
    · simp only [Option.some.injEq, Prod.mk.injEq] at h
      omega
/-- The first node of an Id. -/
theorem nodeOf_first {nodes : List Node} {i : Nat} {n : Node} (h : nodes[i]? = some n) (hf : ∀ k < i, ∀ q, nodes[k]? = some q → q.id ≠ n.id) : nodeOf n.id nodes = some n := by
  induction nodes generalizing i with
  | nil => simp at h
  | cons a r ih =>
    cases i with
    | zero =>
      simp at h
      subst h
      simp [nodeOf]
    | succ i =>
      have ha : a.id ≠ n.id := hf 0 (by omega) a rfl
      have := ih (i := i) (by simpa using h) fun k hk q hq => hf (k + 1) (by omega) q (by simpa using hq)
      simpa [nodeOf, ha] using this
end Go.Proofs.YtmeigdjfcecidaaDoor.Ab
/- Law 6: RoomTells, RoomWhole, RoomLess. -/
set_option linter.unusedVariables false
set_option linter.unusedSimpArgs false
namespace Go.Proofs.YtmeigdjfcecidaaDoor.Ab
open Go

def l06 : List (Nat × AFunc) := [(82, f82), (102, f102), (105, f105), (140, f140), (141, f141), (142, f142), (143, f143), (144, f144), (145, f145), (153, f153), (155, f155), (163, f163), (169, f169), (170, f170), (171, f171),
  (219, f219), (220, f220), (221, f221), (255, f255), (258, f258), (259, f259), (260, f260), (261, f261), (320, f320), (321, f321), (322, f322), (326, f326)]
def p06 : List (Nat × Prm) := [(103, isP), (256, add1P), (266, asP)]
def T06 : Tab := tabOf l06 [266] [260, 143] [] [326, 322] p06
theorem up06 : Gives T06 326 [] (.bool true) := ⟨rfl, rfl, none, callP_true (k := 60) (by decide +kernel)⟩
theorem SV06 : StdV T06 := ⟨⟨rfl, rfl, rfl, rfl, rfl⟩, ⟨rfl, rfl, rfl, rfl, rfl⟩, ⟨rfl, rfl, rfl⟩, ⟨rfl, rfl, rfl, rfl, rfl⟩⟩
theorem S06 : Std6 T06 := ⟨SV06, ⟨rfl, rfl, rfl, rfl, rfl⟩, ⟨rfl, rfl, rfl, rfl, rfl⟩, ⟨rfl, rfl, rfl, rfl, rfl⟩, ⟨rfl, rfl, rfl, rfl, rfl⟩, ⟨rfl, rfl, rfl, rfl, rfl⟩, rfl⟩
theorem S06r : Std6r T06 := ⟨⟨rfl, rfl, rfl, rfl, rfl⟩, ⟨rfl, rfl, rfl, rfl, rfl⟩, ⟨rfl, rfl, rfl, rfl, rfl⟩, ⟨rfl, rfl, rfl, rfl, rfl⟩, ⟨rfl, rfl, rfl, rfl, rfl⟩, ⟨rfl, rfl, rfl, rfl, rfl⟩, ⟨rfl, rfl, rfl, rfl, rfl⟩, ⟨rfl, rfl, rfl, rfl, rfl⟩, ⟨rfl, rfl, rfl, rfl, rfl⟩, rfl⟩
theorem A06 : StdA T06 266 := ⟨rfl, rfl⟩
/-- Arguments that are owned, of a function that may hand back addresses: the rows are given up. -/
theorem Gives.callZ {T : Tab} {n : Nat} {ps : List PV} {p : PV} (h : Gives T n ps p) (hf : T.flat n = false) {args : List AV} {d : Option Nat} {l : List AOper} {st : St} {K : St → Prop} (h0 : pureVs args = none) (h1 : pureVs (frzSs (rowIdsL args) st args).2 = some ps)
    (hk : WpO T l ⟨putS (frzSs (rowIdsL args) st args).1 d (.pv p), (frzSs (rowIdsL args) st args).1.hp, (frzSs (rowIdsL args) st args).1.nx⟩ K) : callQ T n args d l st K := by
  obtain ⟨hr, ho, o, hc⟩ := h
  refine ⟨_, ?_, hk⟩
  unfold doCall
  simp only [hr, h0, hf, h1, hc, ho, putP_own]
theorem badO_eq (o : Option (Int × Int)) : badO o = .tuple [.int .i64 (bad1 o), .int .i64 (bad2 o)] := by cases o <;> rfl
theorem code_errC {T : Tab} (h102 : Std T 102 f102) {c : Int} (h : c = 0 ∨ (c ≠ 0 ∧ 1 ≤ c ∧ c ≤ 17)) : Gives T 102 [errC c] (.int .i64 c) := by
  rcases h with rfl | ⟨h0, h1, h2⟩
  · exact code_nil h102
  · unfold errC
    rw [if_neg h0]
    exact code_code h102 c h1 h2
theorem eqVec0 : eqCells [false, false, false, false] [.int .u64 0, .int .u64 0, .int .u64 0, .int .u64 0] [.int .u64 0, .int .u64 0, .int .u64 0, .int .u64 0] = some true := by
  have := eqVec vec0 vec0
  simpa [vec0] using this

set_option maxRecDepth 100000 in
set_option maxHeartbeats 4000000 in
theorem law06a (s : Snap) (t : State) (node : Int) (_ : s.wf) (ht : t.wf) (_ : inI node) : Gives T06 320 [snapP s, stateP t, .int .i64 node] (.bool true) := by
  refine gives (f := f320) ⟨rfl, rfl, rfl, rfl, rfl⟩ rfl ?_
  have kf := few5_ok (T := T06) ⟨rfl, rfl, rfl, rfl, rfl⟩ ⟨rfl, rfl, rfl, rfl, rfl⟩ s ⟨[], 0, 0⟩ t
  cases hf : few5 s ⟨[], 0, 0⟩ t
  · simp only [f320, runL, opQ, evOp, evO, evOs, guardV, argsA, pvs, putS, cellsOf, scals, scal, Nat.reduceEqDiff, Nat.reduceAdd, reduceCtorEq, fieldA, nonNil, cellsAt, mkAgg, allPV, storeB, patchL, Int.reduceToNat, Nat.reduceMul, Nat.reduceLT, stepA, Int.reduceNeg, Int.reduceLE, Int.reduceLT, Int.reduceEq, extractV, mkAgg, Nat.reduceLeDiff, fillA, pureVs, pureV, eqV, eqB, lenV, binV, intBin, intV, idxA, List.drop, List.take, RetP, retP, resV, resOne, snapV, snapVs, snapR, snapRs, ownSz, pickV, AO.isC, opE, opD, funV, up06.call, snapP, specP, stateP, kf.call, hf, List.map_nil]
  · have hf' := hf
    simp only [few5, few3, Bool.and_eq_true, decide_eq_true_eq] at hf'
    obtain ⟨⟨l1, l2, l3⟩, l4, l5⟩ := hf'
    have b2 : s.nodes.length ≤ 2 ^ 30 := by omega
    have b5 : t.pods.length ≤ 2 ^ 30 := by omega
    have ku := use_ok (T := T06) ⟨rfl, rfl, rfl, rfl, rfl⟩ SV06 rfl t node b5 ht.1
    have ku6 := use6_ok (T := T06) ⟨rfl, rfl, rfl, rfl, rfl⟩ ⟨rfl, rfl, rfl, rfl, rfl⟩ ⟨rfl, rfl, rfl, rfl, rfl⟩ ⟨rfl, rfl, rfl, rfl, rfl⟩ ⟨rfl, rfl, rfl, rfl, rfl⟩ rfl t node b5 ht.1
    have kr := rest_ok S06 s t node b2 b5 ht.1
    have kr6 := rest6_ok S06r s t node b2 b5 ht.1
    have kc := room_ok S06 ⟨rfl, rfl, rfl, rfl, rfl⟩ A06 s t b2 b5 ht.1
    have kc6 := room6_ok S06r ⟨rfl, rfl, rfl, rfl, rfl⟩ s t b2 b5 ht.1
    have ke := code_errC (T := T06) ⟨rfl, rfl, rfl, rfl, rfl⟩ (restC_range s t.pods node)
    have kt := told_ok (T := T06) ⟨rfl, rfl, rfl, rfl, rfl⟩ ⟨rfl, rfl, rfl, rfl, rfl⟩ ⟨rfl, rfl, rfl⟩ (roomFrom s t.pods 0 s.nodes) (roomFrom_pos s t.pods s.nodes 0)
    rw [badO_eq] at kc6
    obtain ⟨c, v, hr⟩ : ∃ c v, restC s t.pods node = (c, v) := ⟨_, _, rfl⟩
    have hv := eqVec v v
    simp only [snapP, stateP, restR, restB, hr, vecP, vecC] at ku ku6 kr kr6 kc kc6 ke
    cases hu : useO t.pods node with
    | none =>
      rw [hu] at ku ku6
      simp only [vecR, vecB, vecP, vecC, vec0, codeE] at ku ku6
      simp only [f320, runL, opQ, evOp, evO, evOs, guardV, argsA, pvs, putS, cellsOf, scals, scal, Nat.reduceEqDiff, Nat.reduceAdd, reduceCtorEq, fieldA, nonNil, cellsAt, mkAgg, allPV, storeB, patchL, Int.reduceToNat, Nat.reduceMul, Nat.reduceLT, stepA, Int.reduceNeg, Int.reduceLE, Int.reduceLT, Int.reduceEq, extractV, mkAgg, Nat.reduceLeDiff, fillA, pureVs, pureV, eqV, eqB, lenV, binV, intBin, intV, idxA, List.drop, List.take, RetP, retP, resV, resOne, snapV, snapVs, snapR, snapRs, ownSz, pickV, AO.isC, opE, opD, funV, up06.call, snapP, specP, stateP, kf.call, hf, List.map_nil, ku.call, ku6.call, kr.call, kr6.call, kc.call, kc6.call, ke.call, kt.call, hv, eqVec0]
    | some u =>
      have hu' := eqVec u u
      rw [hu] at ku ku6
      simp only [vecR, vecB, vecP, vecC] at ku ku6
      simp only [f320, runL, opQ, evOp, evO, evOs, guardV, argsA, pvs, putS, cellsOf, scals, scal, Nat.reduceEqDiff, Nat.reduceAdd, reduceCtorEq, fieldA, nonNil, cellsAt, mkAgg, allPV, storeB, patchL, Int.reduceToNat, Nat.reduceMul, Nat.reduceLT, stepA, Int.reduceNeg, Int.reduceLE, Int.reduceLT, Int.reduceEq, extractV, mkAgg, Nat.reduceLeDiff, fillA, pureVs, pureV, eqV, eqB, lenV, binV, intBin, intV, idxA, List.drop, List.take, RetP, retP, resV, resOne, snapV, snapVs, snapR, snapRs, ownSz, pickV, AO.isC, opE, opD, funV, up06.call, snapP, specP, stateP, kf.call, hf, List.map_nil, ku.call, ku6.call, kr.call, kr6.call, kc.call, kc6.call, ke.call, kt.call, hv, hu']

set_option maxRecDepth 100000 in
set_option maxHeartbeats 4000000 in
theorem law06c (s : Snap) (t : State) (n : Int) (hs : s.wf) (ht : t.wf) (_ : inI n) : Gives T06 322 [snapP s, stateP t, .int .i64 n] (.bool true) := by
  refine givesS (f := f322) ⟨rfl, rfl, rfl, rfl, rfl⟩ rfl ?_
  have kf := few5_ok (T := T06) ⟨rfl, rfl, rfl, rfl, rfl⟩ ⟨rfl, rfl, rfl, rfl, rfl⟩ s ⟨[], 0, 0⟩ t
  cases hf : few5 s ⟨[], 0, 0⟩ t
  · simp only [f322, runL, opQ, evOp, evO, evOs, guardV, argsA, pvs, putS, cellsOf, scals, scal, Nat.reduceEqDiff, Nat.reduceAdd, reduceCtorEq, fieldA, nonNil, cellsAt, mkAgg, allPV, storeB, patchL, Int.reduceToNat, Nat.reduceMul, Nat.reduceLT, stepA, Int.reduceNeg, Int.reduceLE, Int.reduceLT, Int.reduceEq, extractV, mkAgg, Nat.reduceLeDiff, fillA, pureVs, pureV, eqV, eqB, lenV, binV, intBin, intV, idxA, List.drop, List.take, RetP, retP, resV, resOne, snapV, snapVs, snapR, snapRs, ownSz, pickV, AO.isC, opE, opD, funV, up06.call, snapP, specP, stateP, kf.call, hf, List.map_nil]
  · have hf' := hf
    simp only [few5, few3, Bool.and_eq_true, decide_eq_true_eq] at hf'
    obtain ⟨⟨l1, l2, l3⟩, l4, l5⟩ := hf'
    have b2 : s.nodes.length ≤ 2 ^ 30 := by omega
    have b5 : t.pods.length ≤ 2 ^ 30 := by omega
    by_cases c1 : n < 0
    · simp only [f322, runL, opQ, evOp, evO, evOs, guardV, argsA, pvs, putS, cellsOf, scals, scal, Nat.reduceEqDiff, Nat.reduceAdd, reduceCtorEq, fieldA, nonNil, cellsAt, mkAgg, allPV, storeB, patchL, Int.reduceToNat, Nat.reduceMul, Nat.reduceLT, stepA, Int.reduceNeg, Int.reduceLE, Int.reduceLT, Int.reduceEq, extractV, mkAgg, Nat.reduceLeDiff, fillA, pureVs, pureV, eqV, eqB, lenV, binV, intBin, intV, idxA, List.drop, List.take, RetP, retP, resV, resOne, snapV, snapVs, snapR, snapRs, ownSz, pickV, AO.isC, opE, opD, funV, up06.call, snapP, specP, stateP, kf.call, hf, List.map_nil, c1]
    · by_cases c2 : (t.pods.length : Int) ≤ n
      · simp only [f322, runL, opQ, evOp, evO, evOs, guardV, argsA, pvs, putS, cellsOf, scals, scal, Nat.reduceEqDiff, Nat.reduceAdd, reduceCtorEq, fieldA, nonNil, cellsAt, mkAgg, allPV, storeB, patchL, Int.reduceToNat, Nat.reduceMul, Nat.reduceLT, stepA, Int.reduceNeg, Int.reduceLE, Int.reduceLT, Int.reduceEq, extractV, mkAgg, Nat.reduceLeDiff, fillA, pureVs, pureV, eqV, eqB, lenV, binV, intBin, intV, idxA, List.drop, List.take, RetP, retP, resV, resOne, snapV, snapVs, snapR, snapRs, ownSz, pickV, AO.isC, opE, opD, funV, up06.call, snapP, specP, stateP, kf.call, hf, List.map_nil, c1, c2]
      · obtain ⟨m, rfl⟩ : ∃ m : Nat, n = m := ⟨n.toNat, by omega⟩
        have k1 := room_ok S06 ⟨rfl, rfl, rfl, rfl, rfl⟩ A06 s t b2 b5 ht.1
        cases ho : roomFrom s t.pods 0 s.nodes with
        | some q =>
          rw [ho] at k1
          simp only [f322, runL, opQ, evOp, evO, evOs, guardV, argsA, pvs, putS, cellsOf, scals, scal, Nat.reduceEqDiff, Nat.reduceAdd, reduceCtorEq, fieldA, nonNil, cellsAt, mkAgg, allPV, storeB, patchL, Int.reduceToNat, Nat.reduceMul, Nat.reduceLT, stepA, Int.reduceNeg, Int.reduceLE, Int.reduceLT, Int.reduceEq, extractV, mkAgg, Nat.reduceLeDiff, fillA, pureVs, pureV, eqV, eqB, lenV, binV, intBin, intV, idxA, List.drop, List.take, RetP, retP, resV, resOne, snapV, snapVs, snapR, snapRs, ownSz, pickV, AO.isC, opE, opD, funV, up06.call, snapP, specP, stateP, kf.call, hf, List.map_nil, c1, c2, k1.call, errO, spotE]
        | none =>
          rw [ho] at k1
          have hm : m ≤ t.pods.length := by omega
          have hm1 : m + 1 ≤ t.pods.length := by omega
          have hw : IntKind.i64.wrap ((m : Int) + 1) = ((m + 1 : Nat) : Int) := by rw [wrap6] <;> omega
          simp only [f322, runL, opQ, evOp, evO, evOs, guardV, argsA, pvs, putS, cellsOf, scals, scal, Nat.reduceEqDiff, Nat.reduceAdd, reduceCtorEq, fieldA, nonNil, cellsAt, mkAgg, allPV, storeB, patchL, Int.reduceToNat, Nat.reduceMul, Nat.reduceLT, stepA, Int.reduceNeg, Int.reduceLE, Int.reduceLT, Int.reduceEq, extractV, mkAgg, Nat.reduceLeDiff, fillA, pureVs, pureV, eqV, eqB, lenV, binV, intBin, intV, idxA, List.drop, List.take, RetP, retP, resV, resOne, snapV, snapVs, snapR, snapRs, ownSz, pickV, AO.isC, opE, opD, funV, up06.call, snapP, specP, stateP, kf.call, hf, List.map_nil, c1, c2, k1.call, errO]
          refine Wp_draws.2 ?_
          have hA : (t.pods.take m).length ≤ 2 ^ 30 := by rw [List.length_take]; omega
          have hD : ((t.pods.map podC).drop (m + 1)).take (t.pods.length - (m + 1)) = (t.pods.drop (m + 1)).map podC := by
            rw [← List.map_drop, List.take_of_length_le]
            simp
          have hB : (t.pods.take m).length + (t.pods.drop (m + 1)).length ≤ 2 ^ 30 := by rw [List.length_take, List.length_drop]; omega
          have hC : (t.pods.take m).map podC ++ (t.pods.drop (m + 1)).map podC = (t.pods.take m ++ t.pods.drop (m + 1)).map podC := (List.map_append ..).symm
          have hsub : (t.pods.take m ++ t.pods.drop (m + 1)).Sublist t.pods := by
            conv => rhs; rw [← List.take_append_drop m t.pods]
            refine List.Sublist.append (List.Sublist.refl _) ?_
            rw [← List.drop_drop]
            exact List.drop_sublist _ _
          have k2 := room_ok S06 ⟨rfl, rfl, rfl, rfl, rfl⟩ A06 s ⟨t.pods.take m ++ t.pods.drop (m + 1), 0, 0⟩ b2 (by rw [List.length_append]; exact hB) (fun p hp => ht.1 p (hsub.subset hp))
          rw [room_less hs.1 hsub ht.1 ho] at k2
          simp only [stateP, snapP, errO] at k2
          simp only [frzAll, rowKeys, frzSs, frzS, frzF, frzH, frzB, frzV, frzVs, mkFun, blkAt, cond_true, cond_false, beq_self, runL, opQ, evOp, evO, evOs, guardV, argsA, pvs, putS, cellsOf, scals, scal, Nat.reduceEqDiff, Nat.reduceAdd, reduceCtorEq, fieldA, nonNil, cellsAt, mkAgg, allPV, storeB, patchL, Int.reduceToNat, Nat.reduceMul, Nat.reduceLT, stepA, Int.reduceNeg, Int.reduceLE, Int.reduceLT, Int.reduceEq, extractV, mkAgg, Nat.reduceLeDiff, fillA, pureVs, pureV, eqV, eqB, lenV, binV, intBin, intV, idxA, List.drop, List.take, RetP, retP, resV, resOne, snapV, snapVs, snapR, snapRs, ownSz, pickV, AO.isC, opE, opD, funV, partsScal, srcV, chunk, appV, baseV, subV, bndO, allLen_pods, Option.getD_some, Option.getD_none, Nat.zero_le, hm, hm1, hw, Nat.sub_zero, ← List.map_take, hA, hD, hB, hC]
          refine ⟨?_, ?_⟩
          · simp only [chkFrom, allLt, storeB', restOK, mem, indepB, En.reads, aTmps, aTmpsL, aTmpsP, aTmpsO, gTmps, AO.tmps, disj, keys, optL, rdEv, idOf, List.reverse_cons, List.reverse_nil, List.nil_append, List.cons_append, List.append_nil, runL, opQ, evOp, evO, evOs, guardV, argsA, pvs, putS, cellsOf, scals, scal, Nat.reduceEqDiff, Nat.reduceAdd, reduceCtorEq, fieldA, nonNil, cellsAt, mkAgg, allPV, storeB, patchL, Int.reduceToNat, Nat.reduceMul, Nat.reduceLT, stepA, Int.reduceNeg, Int.reduceLE, Int.reduceLT, Int.reduceEq, extractV, mkAgg, Nat.reduceLeDiff, fillA, pureVs, pureV, eqV, eqB, lenV, binV, intBin, intV, idxA, List.drop, List.take, RetP, retP, resV, resOne, snapV, snapVs, snapR, snapRs, ownSz, pickV, AO.isC, opE, opD, funV, Bool.and_true, Bool.true_and]; rfl
          · refine k2.callZ rfl rfl ?_ ?_
            · simp only [frzAll, rowKeys, frzSs, frzS, frzF, frzH, frzB, frzV, frzVs, mkFun, blkAt, cond_true, cond_false, beq_self, runL, opQ, evOp, evO, evOs, guardV, argsA, pvs, putS, cellsOf, scals, scal, Nat.reduceEqDiff, Nat.reduceAdd, reduceCtorEq, fieldA, nonNil, cellsAt, mkAgg, allPV, storeB, patchL, Int.reduceToNat, Nat.reduceMul, Nat.reduceLT, stepA, Int.reduceNeg, Int.reduceLE, Int.reduceLT, Int.reduceEq, extractV, mkAgg, Nat.reduceLeDiff, fillA, pureVs, pureV, eqV, eqB, lenV, binV, intBin, intV, idxA, List.drop, List.take, RetP, retP, resV, resOne, snapV, snapVs, snapR, snapRs, ownSz, pickV, AO.isC, opE, opD, funV, rowIdsL, rowIds, frzA]
            · simp only [frzAll, rowKeys, frzSs, frzS, frzF, frzH, frzB, frzV, frzVs, mkFun, blkAt, cond_true, cond_false, beq_self, runL, opQ, evOp, evO, evOs, guardV, argsA, pvs, putS, cellsOf, scals, scal, Nat.reduceEqDiff, Nat.reduceAdd, reduceCtorEq, fieldA, nonNil, cellsAt, mkAgg, allPV, storeB, patchL, Int.reduceToNat, Nat.reduceMul, Nat.reduceLT, stepA, Int.reduceNeg, Int.reduceLE, Int.reduceLT, Int.reduceEq, extractV, mkAgg, Nat.reduceLeDiff, fillA, pureVs, pureV, eqV, eqB, lenV, binV, intBin, intV, idxA, List.drop, List.take, RetP, retP, resV, resOne, snapV, snapVs, snapR, snapRs, ownSz, pickV, AO.isC, opE, opD, funV, rowIdsL, rowIds, frzA]
end Go.Proofs.YtmeigdjfcecidaaDoor.Ab
/- Law 6: RoomWhole. -/
set_option linter.unusedVariables false
set_option linter.unusedSimpArgs false
namespace Go.Proofs.YtmeigdjfcecidaaDoor.Ab
open Go

theorem whole_l0 {T : Tab} (s : Snap) (hs : s.nodes.length ≤ 2 ^ 30) (i : Nat) (n : Node) (hin : s.nodes[i]? = some n) (Q : Exit → St → Prop) (hp : Hl) (nx : Nat) (v8 v12 v11 v13 : AV)
    (b0 : blkAt hp 0 = .var [.pv (.slice (s.nodes.map nodeC)), .pv (.slice (s.loads.map loadC)), .pv (.slice (s.pods.map podC))])
    (hend : ∀ fr b, (b = true → ∀ k < i, ∀ q, s.nodes[k]? = some q → q.id ≠ n.id) → look fr 2 = .ptr 0 0 0 → look fr 3 = .ptr 1 0 0 → look fr 5 = .pv (.bool true) → look fr 7 = .pv (.int .i64 i) → look fr 11 = v11 → look fr 12 = v12 → look fr 13 = v13 → look fr 14 = .pv (.bool b) → Q (.exit 2) ⟨fr, hp, nx⟩) :
    ∀ (m k : Nat) (b : Bool), k + m = i → (b = true → ∀ j < k, ∀ q, s.nodes[j]? = some q → q.id ≠ n.id) → ∀ fr, look fr 2 = .ptr 0 0 0 → look fr 3 = .ptr 1 0 0 → look fr 5 = .pv (.bool true) → look fr 7 = .pv (.int .i64 i) → look fr 11 = v11 → look fr 12 = v12 → look fr 13 = v13 →
      look fr 14 = .pv (.bool b) → look fr 15 = .pv (.int .i64 k) → Wp T false (.loop f321l0) ⟨fr, hp, nx⟩ Q := by
  have hil : i < s.nodes.length := (List.getElem?_eq_some_iff.1 hin).1
  intro m
  induction m with
  | zero =>
    intro k b hk hb fr h2 h3 h5 h7 h11 h12 h13 h14 h15
    have hk' : k = i := by omega
    subst hk'
    rw [Wp_loop, Wp_eq f321l0.eq_1]
    simp only [runL, opQ, evOp, evO, evOs, guardV, argsA, pvs, putS, cellsOf, scals, scal, Nat.reduceEqDiff, Nat.reduceAdd, reduceCtorEq, fieldA, nonNil, cellsAt, mkAgg, allPV, storeB, patchL, Int.reduceToNat, Nat.reduceMul, Nat.reduceLT, stepA, Int.reduceNeg, Int.reduceLE, Int.reduceLT, Int.reduceEq, extractV, mkAgg, Nat.reduceLeDiff, fillA, pureVs, pureV, eqV, eqB, lenV, binV, intBin, intV, idxA, List.drop, List.take, RetP, retP, resV, resOne, snapV, snapVs, snapR, snapRs, ownSz, pickV, AO.isC, opE, opD, funV, h7, h15, Int.lt_irrefl]
    refine hend _ b hb ?_ ?_ ?_ ?_ ?_ ?_ ?_ ?_
    all_goals simp only [look_if, Nat.reduceEqDiff, if_true, if_false, h2, h3, h5, h7, h11, h12, h13, h14]
  | succ m ih =>
    intro k b hk hb fr h2 h3 h5 h7 h11 h12 h13 h14 h15
    have hki : (k : Int) < (i : Int) := by omega
    have hkl : k < s.nodes.length := by omega
    have hw : IntKind.i64.wrap ((k : Int) + 1) = ((k + 1 : Nat) : Int) := by rw [wrap6] <;> omega
    obtain ⟨q, hq⟩ : ∃ q, s.nodes[k]? = some q := ⟨_, List.getElem?_eq_getElem hkl⟩
    rw [Wp_loop, Wp_eq f321l0.eq_1]
    simp only [runL, opQ, evOp, evO, evOs, guardV, argsA, pvs, putS, cellsOf, scals, scal, Nat.reduceEqDiff, Nat.reduceAdd, reduceCtorEq, fieldA, nonNil, cellsAt, mkAgg, allPV, storeB, patchL, Int.reduceToNat, Nat.reduceMul, Nat.reduceLT, stepA, Int.reduceNeg, Int.reduceLE, Int.reduceLT, Int.reduceEq, extractV, mkAgg, Nat.reduceLeDiff, fillA, pureVs, pureV, eqV, eqB, lenV, binV, intBin, intV, idxA, List.drop, List.take, RetP, retP, resV, resOne, snapV, snapVs, snapR, snapRs, ownSz, pickV, AO.isC, opE, opD, funV, h7, h15, hki]
    refine (Wp_calm rfl).2 ?_
    cases b with
    | false =>
      simp only [runL, opQ, evOp, evO, evOs, guardV, argsA, pvs, putS, cellsOf, scals, scal, Nat.reduceEqDiff, Nat.reduceAdd, reduceCtorEq, fieldA, nonNil, cellsAt, mkAgg, allPV, storeB, patchL, Int.reduceToNat, Nat.reduceMul, Nat.reduceLT, stepA, Int.reduceNeg, Int.reduceLE, Int.reduceLT, Int.reduceEq, extractV, mkAgg, Nat.reduceLeDiff, fillA, pureVs, pureV, eqV, eqB, lenV, binV, intBin, intV, idxA, List.drop, List.take, RetP, retP, resV, resOne, snapV, snapVs, snapR, snapRs, ownSz, pickV, AO.isC, opE, opD, funV, h14, h15, hw]
      refine ih (k + 1) false (by omega) (by simp) _ ?_ ?_ ?_ ?_ ?_ ?_ ?_ ?_ ?_
      all_goals simp only [look_if, Nat.reduceEqDiff, if_true, if_false, h2, h3, h5, h7, h11, h12, h13]
    | true =>
      by_cases hqn : q.id = n.id
      · simp only [runL, opQ, evOp, evO, evOs, guardV, argsA, pvs, putS, cellsOf, scals, scal, Nat.reduceEqDiff, Nat.reduceAdd, reduceCtorEq, fieldA, nonNil, cellsAt, mkAgg, allPV, storeB, patchL, Int.reduceToNat, Nat.reduceMul, Nat.reduceLT, stepA, Int.reduceNeg, Int.reduceLE, Int.reduceLT, Int.reduceEq, extractV, mkAgg, Nat.reduceLeDiff, fillA, pureVs, pureV, eqV, eqB, lenV, binV, intBin, intV, idxA, List.drop, List.take, RetP, retP, resV, resOne, snapV, snapVs, snapR, snapRs, ownSz, pickV, AO.isC, opE, opD, funV, h2, b0, h7, h14, h15, hw, hq, hin, nodeC, hqn]
        refine ih (k + 1) false (by omega) (by simp) _ ?_ ?_ ?_ ?_ ?_ ?_ ?_ ?_ ?_
        all_goals simp only [look_if, Nat.reduceEqDiff, if_true, if_false, h2, h3, h5, h7, h11, h12, h13]
      · simp only [runL, opQ, evOp, evO, evOs, guardV, argsA, pvs, putS, cellsOf, scals, scal, Nat.reduceEqDiff, Nat.reduceAdd, reduceCtorEq, fieldA, nonNil, cellsAt, mkAgg, allPV, storeB, patchL, Int.reduceToNat, Nat.reduceMul, Nat.reduceLT, stepA, Int.reduceNeg, Int.reduceLE, Int.reduceLT, Int.reduceEq, extractV, mkAgg, Nat.reduceLeDiff, fillA, pureVs, pureV, eqV, eqB, lenV, binV, intBin, intV, idxA, List.drop, List.take, RetP, retP, resV, resOne, snapV, snapVs, snapR, snapRs, ownSz, pickV, AO.isC, opE, opD, funV, h2, b0, h7, h14, h15, hw, hq, hin, nodeC, hqn]
        refine ih (k + 1) true (by omega) (fun _ j hj q' hq' => ?_) _ ?_ ?_ ?_ ?_ ?_ ?_ ?_ ?_ ?_
        · by_cases hjk : j = k
          · subst hjk
            rw [hq] at hq'
            simp only [Option.some.injEq] at hq'
            subst hq'
            exact hqn
          · exact hb rfl j (by omega) q' hq'
        all_goals simp only [look_if, Nat.reduceEqDiff, if_true, if_false, h2, h3, h5, h7, h11, h12, h13]

set_option maxRecDepth 100000 in
set_option maxHeartbeats 4000000 in
theorem whole_l1 (s : Snap) (t : State) (hs : s.wf) (ht : t.wf) (hn : s.nodes.length ≤ 2 ^ 30) (hl : t.pods.length ≤ 2 ^ 30) (Q : Exit → St → Prop)
    (hend : ∀ fr hp nx, look fr 5 = .pv (.bool true) → Q (.exit 0) ⟨fr, hp, nx⟩) :
    ∀ (rest : List Node) (i : Nat), s.nodes.drop i = rest → i ≤ s.nodes.length → ∀ (fr : List (Nat × AV)) (hp : Hl) (nx : Nat), 2 ≤ nx → look fr 2 = .ptr 0 0 0 → look fr 3 = .ptr 1 0 0 → look fr 5 = .pv (.bool true) →
      blkAt hp 0 = .var [.pv (.slice (s.nodes.map nodeC)), .pv (.slice (s.loads.map loadC)), .pv (.slice (s.pods.map podC))] → blkAt hp 1 = .var [.pv (.slice (t.pods.map podC)), .pv (.int .i64 t.pre), .pv (.int .i64 t.shi)] →
      look fr 7 = .pv (.int .i64 i) → Wp T06 false (.loop f321l1) ⟨fr, hp, nx⟩ Q := by
  intro rest
  induction rest with
  | nil =>
    intro i hd hi fr hp nx hnx h2 h3 h5 b0 b1 h7
    have hlen := drop_nil hd hi
    rw [Wp_loop, Wp_eq f321l1.eq_1]
    simp only [runL, opQ, evOp, evO, evOs, guardV, argsA, pvs, putS, cellsOf, scals, scal, Nat.reduceEqDiff, Nat.reduceAdd, reduceCtorEq, fieldA, nonNil, cellsAt, mkAgg, allPV, storeB, patchL, Int.reduceToNat, Nat.reduceMul, Nat.reduceLT, stepA, Int.reduceNeg, Int.reduceLE, Int.reduceLT, Int.reduceEq, extractV, mkAgg, Nat.reduceLeDiff, fillA, pureVs, pureV, eqV, eqB, lenV, binV, intBin, intV, idxA, List.drop, List.take, RetP, retP, resV, resOne, snapV, snapVs, snapR, snapRs, ownSz, pickV, AO.isC, opE, opD, funV, h2, b0, h7, hlen, Int.lt_irrefl]
    refine hend _ _ _ ?_
    simp only [look_if, Nat.reduceEqDiff, if_false, h5]
  | cons n r ih =>
    intro i hd hi fr hp nx hnx h2 h3 h5 b0 b1 h7
    obtain ⟨hget, hlt, hwi, hd', hi', hb⟩ := drop_cons hd hn
    have n0 : ¬ nx = 0 := by omega
    have n1 : ¬ nx = 1 := by omega
    have m0 : ¬ nx + 1 = 0 := by omega
    have m1 : ¬ nx + 1 = 1 := by omega
    have p0 : ¬ nx + 1 + 1 = 0 := by omega
    have p1 : ¬ nx + 1 + 1 = 1 := by omega
    have q0 : ¬ nx + 1 + 1 + 1 = 0 := by omega
    have q1 : ¬ nx + 1 + 1 + 1 = 1 := by omega
    have kr := rest_ok S06 s t n.id hn hl ht.1
    have hnm : n ∈ s.nodes := List.mem_of_getElem? hget
    have hnw := hs.1 n hnm
    rw [Wp_loop, Wp_eq f321l1.eq_1]
    simp only [runL, opQ, evOp, evO, evOs, guardV, argsA, pvs, putS, cellsOf, scals, scal, Nat.reduceEqDiff, Nat.reduceAdd, reduceCtorEq, fieldA, nonNil, cellsAt, mkAgg, allPV, storeB, patchL, Int.reduceToNat, Nat.reduceMul, Nat.reduceLT, stepA, Int.reduceNeg, Int.reduceLE, Int.reduceLT, Int.reduceEq, extractV, mkAgg, Nat.reduceLeDiff, fillA, pureVs, pureV, eqV, eqB, lenV, binV, intBin, intV, idxA, List.drop, List.take, RetP, retP, resV, resOne, snapV, snapVs, snapR, snapRs, ownSz, pickV, AO.isC, opE, opD, funV, h2, b0, h7, hlt]
    refine Wp_draw.2 ?_
    rcases restC_range s t.pods n.id with hc | ⟨hc, _, _⟩
    · obtain ⟨m, u, f, g1, g2, g3, g4⟩ := restC_zero hc
      obtain ⟨c, v, hr⟩ : ∃ c v, restC s t.pods n.id = (c, v) := ⟨_, _, rfl⟩
      rw [hr] at hc g4 kr
      simp only at hc g4
      subst hc
      have hm := hs.1 m (nodeOf_mem g1)
      have hf := subV_wf hm.2.2.1 hm.2.2.2 g3
      have hu := use_wf ht.1 g2
      have hv := subV_wf hf hu g4
      have ku := use_ok (T := T06) ⟨rfl, rfl, rfl, rfl, rfl⟩ SV06 rfl t n.id hl ht.1
      have ka := add_ok (T := T06) ⟨rfl, rfl, rfl, rfl, rfl⟩ ⟨rfl, rfl, rfl, rfl, rfl⟩ ⟨rfl, rfl, rfl⟩ v u hv hu
      have kb := add_ok (T := T06) ⟨rfl, rfl, rfl, rfl, rfl⟩ ⟨rfl, rfl, rfl, rfl, rfl⟩ ⟨rfl, rfl, rfl⟩ f n.held hf hnw.2.2.2
      rw [g2] at ku
      rw [sub_add hf hu g4] at ka
      simp only [restR, errC, if_true, vecR, vecP, vecC, snapP, stateP] at kr ku ka kb
      simp only [runL, opQ, evOp, evO, evOs, guardV, argsA, pvs, putS, cellsOf, scals, scal, Nat.reduceEqDiff, Nat.reduceAdd, reduceCtorEq, fieldA, nonNil, cellsAt, mkAgg, allPV, storeB, patchL, Int.reduceToNat, Nat.reduceMul, Nat.reduceLT, stepA, Int.reduceNeg, Int.reduceLE, Int.reduceLT, Int.reduceEq, extractV, mkAgg, Nat.reduceLeDiff, fillA, pureVs, pureV, eqV, eqB, lenV, binV, intBin, intV, idxA, List.drop, List.take, RetP, retP, resV, resOne, snapV, snapVs, snapR, snapRs, ownSz, pickV, AO.isC, opE, opD, funV, h2, b0, h3, b1, h7, hget, nodeC, kr.callE]
      refine ⟨?_, Wp_draw.2 ?_⟩
      · simp only [chkFrom, allLt, storeB', restOK, mem, indepB, En.reads, aTmps, aTmpsL, aTmpsP, aTmpsO, gTmps, AO.tmps, disj, keys, optL, rdEv, idOf, List.reverse_cons, List.reverse_nil, List.nil_append, List.cons_append, List.append_nil, runL, opQ, evOp, evO, evOs, guardV, argsA, pvs, putS, cellsOf, scals, scal, Nat.reduceEqDiff, Nat.reduceAdd, reduceCtorEq, fieldA, nonNil, cellsAt, mkAgg, allPV, storeB, patchL, Int.reduceToNat, Nat.reduceMul, Nat.reduceLT, stepA, Int.reduceNeg, Int.reduceLE, Int.reduceLT, Int.reduceEq, extractV, mkAgg, Nat.reduceLeDiff, fillA, pureVs, pureV, eqV, eqB, lenV, binV, intBin, intV, idxA, List.drop, List.take, RetP, retP, resV, resOne, snapV, snapVs, snapR, snapRs, ownSz, pickV, AO.isC, opE, opD, funV, Bool.and_true, Bool.true_and, h2, h3, n0, n1, ne_comm]; rfl
      simp only [runL, opQ, evOp, evO, evOs, guardV, argsA, pvs, putS, cellsOf, scals, scal, Nat.reduceEqDiff, Nat.reduceAdd, reduceCtorEq, fieldA, nonNil, cellsAt, mkAgg, allPV, storeB, patchL, Int.reduceToNat, Nat.reduceMul, Nat.reduceLT, stepA, Int.reduceNeg, Int.reduceLE, Int.reduceLT, Int.reduceEq, extractV, mkAgg, Nat.reduceLeDiff, fillA, pureVs, pureV, eqV, eqB, lenV, binV, intBin, intV, idxA, List.drop, List.take, RetP, retP, resV, resOne, snapV, snapVs, snapR, snapRs, ownSz, pickV, AO.isC, opE, opD, funV, h2, b0, h3, b1, h7, hget, nodeC, n0, n1, m0, m1, ku.callE, ka.call]
      refine ⟨?_, ?_⟩
      · simp only [chkFrom, allLt, storeB', restOK, mem, indepB, En.reads, aTmps, aTmpsL, aTmpsP, aTmpsO, gTmps, AO.tmps, disj, keys, optL, rdEv, idOf, List.reverse_cons, List.reverse_nil, List.nil_append, List.cons_append, List.append_nil, runL, opQ, evOp, evO, evOs, guardV, argsA, pvs, putS, cellsOf, scals, scal, Nat.reduceEqDiff, Nat.reduceAdd, reduceCtorEq, fieldA, nonNil, cellsAt, mkAgg, allPV, storeB, patchL, Int.reduceToNat, Nat.reduceMul, Nat.reduceLT, stepA, Int.reduceNeg, Int.reduceLE, Int.reduceLT, Int.reduceEq, extractV, mkAgg, Nat.reduceLeDiff, fillA, pureVs, pureV, eqV, eqB, lenV, binV, intBin, intV, idxA, List.drop, List.take, RetP, retP, resV, resOne, snapV, snapVs, snapR, snapRs, ownSz, pickV, AO.isC, opE, opD, funV, Bool.and_true, Bool.true_and, h2, h3, n0, n1, m0, m1, ne_comm]; rfl
      refine whole_l0 (T := T06) s hn i n hget _ _ _ (.ptr nx 0 0) (.ptr (nx + 1 + 1) 0 0) (.pv .nili) (.pv .nili) ?_ (fun fr' b hb e2 e3 e5 e7 e11 e12 e13 e14 => ?_) i 0 true (Nat.zero_add _) (fun _ j hj => absurd hj (Nat.not_lt_zero _)) _ ?_ ?_ ?_ ?_ ?_ ?_ ?_ ?_ ?_
      · simp only [blkAt_if, n0, m0, p0, if_false, b0]
      · have hz : ∀ b' : Bool, b' = true → nodeOf n.id s.nodes = some n → addV f n.held = some n.cap := fun _ _ hh => by
          rw [hh] at g1
          simp only [Option.some.injEq] at g1
          subst g1
          exact sub_add hm.2.2.1 hm.2.2.2 g3
        have kv := eqVec n.cap n.cap
        simp only [runL, opQ, evOp, evO, evOs, guardV, argsA, pvs, putS, cellsOf, scals, scal, Nat.reduceEqDiff, Nat.reduceAdd, reduceCtorEq, fieldA, nonNil, cellsAt, mkAgg, allPV, storeB, patchL, Int.reduceToNat, Nat.reduceMul, Nat.reduceLT, stepA, Int.reduceNeg, Int.reduceLE, Int.reduceLT, Int.reduceEq, extractV, mkAgg, Nat.reduceLeDiff, fillA, pureVs, pureV, eqV, eqB, lenV, binV, intBin, intV, idxA, List.drop, List.take, RetP, retP, resV, resOne, snapV, snapVs, snapR, snapRs, ownSz, pickV, AO.isC, opE, opD, funV]
        refine Wp_draw.2 ?_
        cases h3' : addV f n.held with
        | none =>
          rw [h3'] at kb
          simp only [vecR, vecP, vecC, vec0, codeE] at kb
          simp only [runL, opQ, evOp, evO, evOs, guardV, argsA, pvs, putS, cellsOf, scals, scal, Nat.reduceEqDiff, Nat.reduceAdd, reduceCtorEq, fieldA, nonNil, cellsAt, mkAgg, allPV, storeB, patchL, Int.reduceToNat, Nat.reduceMul, Nat.reduceLT, stepA, Int.reduceNeg, Int.reduceLE, Int.reduceLT, Int.reduceEq, extractV, mkAgg, Nat.reduceLeDiff, fillA, pureVs, pureV, eqV, eqB, lenV, binV, intBin, intV, idxA, List.drop, List.take, RetP, retP, resV, resOne, snapV, snapVs, snapR, snapRs, ownSz, pickV, AO.isC, opE, opD, funV, e2, e3, e5, e7, e11, e12, e13, e14, b0, b1, n0, n1, m0, m1, p0, p1, hget, nodeC, kb.callE]
          refine ⟨?_, (Wp_calm rfl).2 ?_⟩
          · simp only [chkFrom, allLt, storeB', restOK, mem, indepB, En.reads, aTmps, aTmpsL, aTmpsP, aTmpsO, gTmps, AO.tmps, disj, keys, optL, rdEv, idOf, List.reverse_cons, List.reverse_nil, List.nil_append, List.cons_append, List.append_nil, runL, opQ, evOp, evO, evOs, guardV, argsA, pvs, putS, cellsOf, scals, scal, Nat.reduceEqDiff, Nat.reduceAdd, reduceCtorEq, fieldA, nonNil, cellsAt, mkAgg, allPV, storeB, patchL, Int.reduceToNat, Nat.reduceMul, Nat.reduceLT, stepA, Int.reduceNeg, Int.reduceLE, Int.reduceLT, Int.reduceEq, extractV, mkAgg, Nat.reduceLeDiff, fillA, pureVs, pureV, eqV, eqB, lenV, binV, intBin, intV, idxA, List.drop, List.take, RetP, retP, resV, resOne, snapV, snapVs, snapR, snapRs, ownSz, pickV, AO.isC, opE, opD, funV, Bool.and_true, Bool.true_and, e2, e3, e12, n0, n1, m0, m1, p0, p1, q0, q1, ne_comm]; rfl
          cases b with
          | false =>
            simp only [runL, opQ, evOp, evO, evOs, guardV, argsA, pvs, putS, cellsOf, scals, scal, Nat.reduceEqDiff, Nat.reduceAdd, reduceCtorEq, fieldA, nonNil, cellsAt, mkAgg, allPV, storeB, patchL, Int.reduceToNat, Nat.reduceMul, Nat.reduceLT, stepA, Int.reduceNeg, Int.reduceLE, Int.reduceLT, Int.reduceEq, extractV, mkAgg, Nat.reduceLeDiff, fillA, pureVs, pureV, eqV, eqB, lenV, binV, intBin, intV, idxA, List.drop, List.take, RetP, retP, resV, resOne, snapV, snapVs, snapR, snapRs, ownSz, pickV, AO.isC, opE, opD, funV, e2, e3, e5, e7, e11, e12, e13, e14, hwi]
            refine ih (i + 1) hd' hi' _ _ _ ?_ ?_ ?_ ?_ ?_ ?_ ?_
            all_goals try simp only [look_if, blkAt_if, Nat.reduceEqDiff, if_true, if_false, e2, e3, e5, b0, b1, n0, n1, m0, m1, p0, p1, q0, q1]
            all_goals first | omega | skip
          | true =>
            have := hz true rfl (nodeOf_first hget (hb rfl))
            rw [h3'] at this
            simp at this
        | some z =>
          rw [h3'] at kb
          simp only [vecR, vecP, vecC] at kb
          simp only [runL, opQ, evOp, evO, evOs, guardV, argsA, pvs, putS, cellsOf, scals, scal, Nat.reduceEqDiff, Nat.reduceAdd, reduceCtorEq, fieldA, nonNil, cellsAt, mkAgg, allPV, storeB, patchL, Int.reduceToNat, Nat.reduceMul, Nat.reduceLT, stepA, Int.reduceNeg, Int.reduceLE, Int.reduceLT, Int.reduceEq, extractV, mkAgg, Nat.reduceLeDiff, fillA, pureVs, pureV, eqV, eqB, lenV, binV, intBin, intV, idxA, List.drop, List.take, RetP, retP, resV, resOne, snapV, snapVs, snapR, snapRs, ownSz, pickV, AO.isC, opE, opD, funV, e2, e3, e5, e7, e11, e12, e13, e14, b0, b1, n0, n1, m0, m1, p0, p1, hget, nodeC, kb.callE]
          refine ⟨?_, (Wp_calm rfl).2 ?_⟩
          · simp only [chkFrom, allLt, storeB', restOK, mem, indepB, En.reads, aTmps, aTmpsL, aTmpsP, aTmpsO, gTmps, AO.tmps, disj, keys, optL, rdEv, idOf, List.reverse_cons, List.reverse_nil, List.nil_append, List.cons_append, List.append_nil, runL, opQ, evOp, evO, evOs, guardV, argsA, pvs, putS, cellsOf, scals, scal, Nat.reduceEqDiff, Nat.reduceAdd, reduceCtorEq, fieldA, nonNil, cellsAt, mkAgg, allPV, storeB, patchL, Int.reduceToNat, Nat.reduceMul, Nat.reduceLT, stepA, Int.reduceNeg, Int.reduceLE, Int.reduceLT, Int.reduceEq, extractV, mkAgg, Nat.reduceLeDiff, fillA, pureVs, pureV, eqV, eqB, lenV, binV, intBin, intV, idxA, List.drop, List.take, RetP, retP, resV, resOne, snapV, snapVs, snapR, snapRs, ownSz, pickV, AO.isC, opE, opD, funV, Bool.and_true, Bool.true_and, e2, e3, e12, n0, n1, m0, m1, p0, p1, q0, q1, ne_comm]; rfl
          cases b with
          | false =>
            simp only [runL, opQ, evOp, evO, evOs, guardV, argsA, pvs, putS, cellsOf, scals, scal, Nat.reduceEqDiff, Nat.reduceAdd, reduceCtorEq, fieldA, nonNil, cellsAt, mkAgg, allPV, storeB, patchL, Int.reduceToNat, Nat.reduceMul, Nat.reduceLT, stepA, Int.reduceNeg, Int.reduceLE, Int.reduceLT, Int.reduceEq, extractV, mkAgg, Nat.reduceLeDiff, fillA, pureVs, pureV, eqV, eqB, lenV, binV, intBin, intV, idxA, List.drop, List.take, RetP, retP, resV, resOne, snapV, snapVs, snapR, snapRs, ownSz, pickV, AO.isC, opE, opD, funV, e2, e3, e5, e7, e11, e12, e13, e14, hwi]
            refine ih (i + 1) hd' hi' _ _ _ ?_ ?_ ?_ ?_ ?_ ?_ ?_
            all_goals try simp only [look_if, blkAt_if, Nat.reduceEqDiff, if_true, if_false, e2, e3, e5, b0, b1, n0, n1, m0, m1, p0, p1, q0, q1]
            all_goals first | omega | skip
          | true =>
            have := hz true rfl (nodeOf_first hget (hb rfl))
            rw [h3'] at this
            simp only [Option.some.injEq] at this
            subst this
            simp only [runL, opQ, evOp, evO, evOs, guardV, argsA, pvs, putS, cellsOf, scals, scal, Nat.reduceEqDiff, Nat.reduceAdd, reduceCtorEq, fieldA, nonNil, cellsAt, mkAgg, allPV, storeB, patchL, Int.reduceToNat, Nat.reduceMul, Nat.reduceLT, stepA, Int.reduceNeg, Int.reduceLE, Int.reduceLT, Int.reduceEq, extractV, mkAgg, Nat.reduceLeDiff, fillA, pureVs, pureV, eqV, eqB, lenV, binV, intBin, intV, idxA, List.drop, List.take, RetP, retP, resV, resOne, snapV, snapVs, snapR, snapRs, ownSz, pickV, AO.isC, opE, opD, funV, e2, e3, e5, e7, e11, e12, e13, e14, hwi, b0, n0, m0, p0, q0, hget, nodeC, kv]
            refine ih (i + 1) hd' hi' _ _ _ ?_ ?_ ?_ ?_ ?_ ?_ ?_
            all_goals try simp only [look_if, blkAt_if, Nat.reduceEqDiff, if_true, if_false, e2, e3, e5, b0, b1, n0, n1, m0, m1, p0, p1, q0, q1]
            all_goals first | omega | skip
      all_goals simp only [look_if, Nat.reduceEqDiff, if_true, if_false, h2, h3, h5, h7]
      all_goals rfl
    · simp only [restR, errC, hc, if_false, codeE, vecP, vecC, snapP, stateP] at kr
      simp only [runL, opQ, evOp, evO, evOs, guardV, argsA, pvs, putS, cellsOf, scals, scal, Nat.reduceEqDiff, Nat.reduceAdd, reduceCtorEq, fieldA, nonNil, cellsAt, mkAgg, allPV, storeB, patchL, Int.reduceToNat, Nat.reduceMul, Nat.reduceLT, stepA, Int.reduceNeg, Int.reduceLE, Int.reduceLT, Int.reduceEq, extractV, mkAgg, Nat.reduceLeDiff, fillA, pureVs, pureV, eqV, eqB, lenV, binV, intBin, intV, idxA, List.drop, List.take, RetP, retP, resV, resOne, snapV, snapVs, snapR, snapRs, ownSz, pickV, AO.isC, opE, opD, funV, h2, b0, h3, b1, h7, hget, nodeC, kr.callE, hwi]
      refine ⟨?_, ih (i + 1) hd' hi' _ _ _ ?_ ?_ ?_ ?_ ?_ ?_ ?_⟩
      · simp only [chkFrom, allLt, storeB', restOK, mem, indepB, En.reads, aTmps, aTmpsL, aTmpsP, aTmpsO, gTmps, AO.tmps, disj, keys, optL, rdEv, idOf, List.reverse_cons, List.reverse_nil, List.nil_append, List.cons_append, List.append_nil, runL, opQ, evOp, evO, evOs, guardV, argsA, pvs, putS, cellsOf, scals, scal, Nat.reduceEqDiff, Nat.reduceAdd, reduceCtorEq, fieldA, nonNil, cellsAt, mkAgg, allPV, storeB, patchL, Int.reduceToNat, Nat.reduceMul, Nat.reduceLT, stepA, Int.reduceNeg, Int.reduceLE, Int.reduceLT, Int.reduceEq, extractV, mkAgg, Nat.reduceLeDiff, fillA, pureVs, pureV, eqV, eqB, lenV, binV, intBin, intV, idxA, List.drop, List.take, RetP, retP, resV, resOne, snapV, snapVs, snapR, snapRs, ownSz, pickV, AO.isC, opE, opD, funV, Bool.and_true, Bool.true_and, h2, h3, n0, n1, ne_comm]; rfl
      all_goals try simp only [look_if, blkAt_if, Nat.reduceEqDiff, if_true, if_false, h2, h3, h5, b0, b1, n0, n1]
      all_goals first | omega | skip
theorem law06b (s : Snap) (t : State) (hs : s.wf) (ht : t.wf) : Gives T06 321 [snapP s, stateP t] (.bool true) := by
  refine gives (f := f321) ⟨rfl, rfl, rfl, rfl, rfl⟩ rfl ?_
  have kf := few5_ok (T := T06) ⟨rfl, rfl, rfl, rfl, rfl⟩ ⟨rfl, rfl, rfl, rfl, rfl⟩ s ⟨[], 0, 0⟩ t
  cases hf : few5 s ⟨[], 0, 0⟩ t
  · simp only [f321, runL, opQ, evOp, evO, evOs, guardV, argsA, pvs, putS, cellsOf, scals, scal, Nat.reduceEqDiff, Nat.reduceAdd, reduceCtorEq, fieldA, nonNil, cellsAt, mkAgg, allPV, storeB, patchL, Int.reduceToNat, Nat.reduceMul, Nat.reduceLT, stepA, Int.reduceNeg, Int.reduceLE, Int.reduceLT, Int.reduceEq, extractV, mkAgg, Nat.reduceLeDiff, fillA, pureVs, pureV, eqV, eqB, lenV, binV, intBin, intV, idxA, List.drop, List.take, RetP, retP, resV, resOne, snapV, snapVs, snapR, snapRs, ownSz, pickV, AO.isC, opE, opD, funV, up06.call, snapP, specP, stateP, kf.call, hf, List.map_nil]
  · have hf' := hf
    simp only [few5, few3, Bool.and_eq_true, decide_eq_true_eq] at hf'
    obtain ⟨⟨l1, l2, l3⟩, l4, l5⟩ := hf'
    have b2 : s.nodes.length ≤ 2 ^ 30 := by omega
    have b5 : t.pods.length ≤ 2 ^ 30 := by omega
    simp only [f321, runL, opQ, evOp, evO, evOs, guardV, argsA, pvs, putS, cellsOf, scals, scal, Nat.reduceEqDiff, Nat.reduceAdd, reduceCtorEq, fieldA, nonNil, cellsAt, mkAgg, allPV, storeB, patchL, Int.reduceToNat, Nat.reduceMul, Nat.reduceLT, stepA, Int.reduceNeg, Int.reduceLE, Int.reduceLT, Int.reduceEq, extractV, mkAgg, Nat.reduceLeDiff, fillA, pureVs, pureV, eqV, eqB, lenV, binV, intBin, intV, idxA, List.drop, List.take, RetP, retP, resV, resOne, snapV, snapVs, snapR, snapRs, ownSz, pickV, AO.isC, opE, opD, funV, up06.call, snapP, specP, stateP, kf.call, hf, List.map_nil]
    refine whole_l1 s t hs ht b2 b5 _ (fun fr hp nx h5 => ?_) s.nodes 0 rfl (Nat.zero_le _) _ _ _ (Nat.le_refl _) rfl rfl rfl rfl rfl rfl
    simp only [runL, opQ, evOp, evO, evOs, guardV, argsA, pvs, putS, cellsOf, scals, scal, Nat.reduceEqDiff, Nat.reduceAdd, reduceCtorEq, fieldA, nonNil, cellsAt, mkAgg, allPV, storeB, patchL, Int.reduceToNat, Nat.reduceMul, Nat.reduceLT, stepA, Int.reduceNeg, Int.reduceLE, Int.reduceLT, Int.reduceEq, extractV, mkAgg, Nat.reduceLeDiff, fillA, pureVs, pureV, eqV, eqB, lenV, binV, intBin, intV, idxA, List.drop, List.take, RetP, retP, resV, resOne, snapV, snapVs, snapR, snapRs, ownSz, pickV, AO.isC, opE, opD, funV, h5]
end Go.Proofs.YtmeigdjfcecidaaDoor.Ab
