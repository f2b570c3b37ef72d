/- The layer, part 3: Sp3, Ab56, Sp3b, Sp3c, Sp3d, Sp3e, Sp3r, Sp3s, Sp3t. -/
import Derived.Test.YtdjpeonignkheaaDoorA2
set_option linter.unusedVariables false
set_option linter.unusedSimpArgs false
namespace Go.Proofs.YtdjpeonignkheaaDoor.Ab
open Go
def countB (n : Int) : Bool := decide (0 ≤ n) && decide (n ≤ 100)
def idP (n last : Int) : Int := if n = last ∧ 1 ≤ n then 5 else if n < 1 ∨ 2147483647 < n ∨ n < last then 1 else 0
def idR (n last : Int) : Int := if n < 1 ∨ 2147483647 < n then 1 else if n = last then 5 else if n < last then 1 else 0
theorem idP_idR {n last : Int} (h : last ≤ 2147483647) : idP n last = idR n last := by
  unfold idP idR
  by_cases h1 : n < 1 ∨ 2147483647 < n
  · rw [if_pos h1, if_neg (by omega), if_pos (by omega)]
  · rw [if_neg h1]
    by_cases h2 : n = last
    · rw [if_pos h2, if_pos (by omega)]
    · rw [if_neg h2, if_neg (by omega)]
      by_cases h3 : n < last
      · rw [if_pos h3, if_pos (by omega)]
      · rw [if_neg h3, if_neg (by omega)]
def loadBad (l : Load) : Int := if countB l.skew = true ∧ countB l.min = true ∧ countB l.max = true ∧ l.min ≤ l.max then 0 else 1
def nodeBad (n : Node) : Int := if 1 ≤ n.zone ∧ n.zone ≤ 8 ∧ fitsB n.held n.cap = true then 0 else 1
def podBad (s : Snap) (p : Pod) : Int := if countB p.prio = false then 1 else if loadOf p.load s.loads = none ∨ (p.node ≠ 0 ∧ nodeOf p.node s.nodes = none) then 4 else 0
theorem errC0 : errC 0 = .nili := rfl
theorem errC1 : errC 1 = .iface 0 (.int .i64 1) := rfl
theorem errC4 : errC 4 = .iface 0 (.int .i64 4) := rfl
theorem errC5 : errC 5 = .iface 0 (.int .i64 5) := rfl
section
variable {T : Tab}
theorem count_ok (h85 : Std T 85 f85) (n : Int) : Gives T 85 [.int .i64 n] (.bool (countB n)) := by
  refine gives h85 rfl ?_
  unfold countB
  by_cases h1 : 0 ≤ n
  · simp only [f85, runL, opQ, evOp, evO, evOs, guardV, argsA, pvs, putS, cellsOf, scals, scal, Nat.reduceEqDiff, Nat.reduceAdd, reduceCtorEq, fieldA, nonNil, cellsAt, mkAgg, allPV, storeB, patchL, Int.reduceToNat, Nat.reduceMul, Nat.reduceLT, stepA, Int.reduceNeg, Int.reduceLE, Int.reduceLT, Int.reduceEq, extractV, mkAgg, Nat.reduceLeDiff, fillA, pureVs, pureV, eqV, eqB, lenV.eq_1, lenV.eq_2, lenV.eq_3, lenV.eq_4, binV, intBin, intV, idxA, List.drop, List.take, RetP, retP, resV, resOne, snapV, snapVs, snapR, snapRs, ownSz, pickV, AO.isC, opE, opD, funV.eq_1, funV.eq_2, h1, Bool.true_and]
  · simp only [f85, runL, opQ, evOp, evO, evOs, guardV, argsA, pvs, putS, cellsOf, scals, scal, Nat.reduceEqDiff, Nat.reduceAdd, reduceCtorEq, fieldA, nonNil, cellsAt, mkAgg, allPV, storeB, patchL, Int.reduceToNat, Nat.reduceMul, Nat.reduceLT, stepA, Int.reduceNeg, Int.reduceLE, Int.reduceLT, Int.reduceEq, extractV, mkAgg, Nat.reduceLeDiff, fillA, pureVs, pureV, eqV, eqB, lenV.eq_1, lenV.eq_2, lenV.eq_3, lenV.eq_4, binV, intBin, intV, idxA, List.drop, List.take, RetP, retP, resV, resOne, snapV, snapVs, snapR, snapRs, ownSz, pickV, AO.isC, opE, opD, funV.eq_1, funV.eq_2, h1, Bool.false_and]
theorem id_ok (h86 : Std T 86 f86) (n last : Int) : Gives T 86 [.int .i64 n, .int .i64 last] (errC (idP n last)) := by
  refine gives h86 rfl ?_
  unfold idP
  have D : ∀ p : Prop, [Decidable p] → p → decide p = true := fun p _ h => decide_eq_true h
  by_cases h1 : n = last
  · have d1 := D _ h1
    by_cases h2 : 1 ≤ n
    · rw [if_pos ⟨h1, h2⟩]
      simp only [f86, runL, opQ, evOp, evO, evOs, guardV, argsA, pvs, putS, cellsOf, scals, scal, Nat.reduceEqDiff, Nat.reduceAdd, reduceCtorEq, fieldA, nonNil, cellsAt, mkAgg, allPV, storeB, patchL, Int.reduceToNat, Nat.reduceMul, Nat.reduceLT, stepA, Int.reduceNeg, Int.reduceLE, Int.reduceLT, Int.reduceEq, extractV, mkAgg, Nat.reduceLeDiff, fillA, pureVs, pureV, eqV, eqB, lenV.eq_1, lenV.eq_2, lenV.eq_3, lenV.eq_4, binV, intBin, intV, idxA, List.drop, List.take, RetP, retP, resV, resOne, snapV, snapVs, snapR, snapRs, ownSz, pickV, AO.isC, opE, opD, funV.eq_1, funV.eq_2, d1, h2, errC5]
    · rw [if_neg (fun h => h2 h.2), if_pos (.inl (by omega))]
      have h3 : n < 1 := by omega
      simp only [f86, runL, opQ, evOp, evO, evOs, guardV, argsA, pvs, putS, cellsOf, scals, scal, Nat.reduceEqDiff, Nat.reduceAdd, reduceCtorEq, fieldA, nonNil, cellsAt, mkAgg, allPV, storeB, patchL, Int.reduceToNat, Nat.reduceMul, Nat.reduceLT, stepA, Int.reduceNeg, Int.reduceLE, Int.reduceLT, Int.reduceEq, extractV, mkAgg, Nat.reduceLeDiff, fillA, pureVs, pureV, eqV, eqB, lenV.eq_1, lenV.eq_2, lenV.eq_3, lenV.eq_4, binV, intBin, intV, idxA, List.drop, List.take, RetP, retP, resV, resOne, snapV, snapVs, snapR, snapRs, ownSz, pickV, AO.isC, opE, opD, funV.eq_1, funV.eq_2, d1, h2, h3, errC1]
  · rw [if_neg (fun h => h1 h.1)]
    by_cases h3 : n < 1
    · rw [if_pos (.inl h3)]
      simp only [f86, runL, opQ, evOp, evO, evOs, guardV, argsA, pvs, putS, cellsOf, scals, scal, Nat.reduceEqDiff, Nat.reduceAdd, reduceCtorEq, fieldA, nonNil, cellsAt, mkAgg, allPV, storeB, patchL, Int.reduceToNat, Nat.reduceMul, Nat.reduceLT, stepA, Int.reduceNeg, Int.reduceLE, Int.reduceLT, Int.reduceEq, extractV, mkAgg, Nat.reduceLeDiff, fillA, pureVs, pureV, eqV, eqB, lenV.eq_1, lenV.eq_2, lenV.eq_3, lenV.eq_4, binV, intBin, intV, idxA, List.drop, List.take, RetP, retP, resV, resOne, snapV, snapVs, snapR, snapRs, ownSz, pickV, AO.isC, opE, opD, funV.eq_1, funV.eq_2, h1, h3, errC1]
    · by_cases h4 : 2147483647 < n
      · rw [if_pos (.inr (.inl h4))]
        simp only [f86, runL, opQ, evOp, evO, evOs, guardV, argsA, pvs, putS, cellsOf, scals, scal, Nat.reduceEqDiff, Nat.reduceAdd, reduceCtorEq, fieldA, nonNil, cellsAt, mkAgg, allPV, storeB, patchL, Int.reduceToNat, Nat.reduceMul, Nat.reduceLT, stepA, Int.reduceNeg, Int.reduceLE, Int.reduceLT, Int.reduceEq, extractV, mkAgg, Nat.reduceLeDiff, fillA, pureVs, pureV, eqV, eqB, lenV.eq_1, lenV.eq_2, lenV.eq_3, lenV.eq_4, binV, intBin, intV, idxA, List.drop, List.take, RetP, retP, resV, resOne, snapV, snapVs, snapR, snapRs, ownSz, pickV, AO.isC, opE, opD, funV.eq_1, funV.eq_2, h1, h3, h4, errC1]
      · by_cases h5 : n < last
        · rw [if_pos (.inr (.inr h5))]
          simp only [f86, runL, opQ, evOp, evO, evOs, guardV, argsA, pvs, putS, cellsOf, scals, scal, Nat.reduceEqDiff, Nat.reduceAdd, reduceCtorEq, fieldA, nonNil, cellsAt, mkAgg, allPV, storeB, patchL, Int.reduceToNat, Nat.reduceMul, Nat.reduceLT, stepA, Int.reduceNeg, Int.reduceLE, Int.reduceLT, Int.reduceEq, extractV, mkAgg, Nat.reduceLeDiff, fillA, pureVs, pureV, eqV, eqB, lenV.eq_1, lenV.eq_2, lenV.eq_3, lenV.eq_4, binV, intBin, intV, idxA, List.drop, List.take, RetP, retP, resV, resOne, snapV, snapVs, snapR, snapRs, ownSz, pickV, AO.isC, opE, opD, funV.eq_1, funV.eq_2, h1, h3, h4, h5, errC1]
        · rw [if_neg (by omega)]
          simp only [f86, runL, opQ, evOp, evO, evOs, guardV, argsA, pvs, putS, cellsOf, scals, scal, Nat.reduceEqDiff, Nat.reduceAdd, reduceCtorEq, fieldA, nonNil, cellsAt, mkAgg, allPV, storeB, patchL, Int.reduceToNat, Nat.reduceMul, Nat.reduceLT, stepA, Int.reduceNeg, Int.reduceLE, Int.reduceLT, Int.reduceEq, extractV, mkAgg, Nat.reduceLeDiff, fillA, pureVs, pureV, eqV, eqB, lenV.eq_1, lenV.eq_2, lenV.eq_3, lenV.eq_4, binV, intBin, intV, idxA, List.drop, List.take, RetP, retP, resV, resOne, snapV, snapVs, snapR, snapRs, ownSz, pickV, AO.isC, opE, opD, funV.eq_1, funV.eq_2, h1, h3, h4, h5, errC0]
theorem cload_ok (h87 : Std T 87 f87) (h85 : Std T 85 f85) (l : Load) : Gives T 87 [.agg (loadC l)] (errC (loadBad l)) := by
  refine gives h87 rfl ?_
  have k1 := count_ok h85 l.skew
  have k2 := count_ok h85 l.min
  have k3 := count_ok h85 l.max
  unfold loadBad
  cases c1 : countB l.skew
  · rw [if_neg (by simp)]
    simp only [f87, runL, opQ, evOp, evO, evOs, guardV, argsA, pvs, putS, cellsOf, scals, scal, Nat.reduceEqDiff, Nat.reduceAdd, reduceCtorEq, fieldA, nonNil, cellsAt, mkAgg, allPV, storeB, patchL, Int.reduceToNat, Nat.reduceMul, Nat.reduceLT, stepA, Int.reduceNeg, Int.reduceLE, Int.reduceLT, Int.reduceEq, extractV, mkAgg, Nat.reduceLeDiff, fillA, pureVs, pureV, eqV, eqB, lenV.eq_1, lenV.eq_2, lenV.eq_3, lenV.eq_4, binV, intBin, intV, idxA, List.drop, List.take, RetP, retP, resV, resOne, snapV, snapVs, snapR, snapRs, ownSz, pickV, AO.isC, opE, opD, funV.eq_1, funV.eq_2, errC0, errC1, errC4, loadC, k1.call, c1]
  · cases c2 : countB l.min
    · rw [if_neg (by simp)]
      simp only [f87, runL, opQ, evOp, evO, evOs, guardV, argsA, pvs, putS, cellsOf, scals, scal, Nat.reduceEqDiff, Nat.reduceAdd, reduceCtorEq, fieldA, nonNil, cellsAt, mkAgg, allPV, storeB, patchL, Int.reduceToNat, Nat.reduceMul, Nat.reduceLT, stepA, Int.reduceNeg, Int.reduceLE, Int.reduceLT, Int.reduceEq, extractV, mkAgg, Nat.reduceLeDiff, fillA, pureVs, pureV, eqV, eqB, lenV.eq_1, lenV.eq_2, lenV.eq_3, lenV.eq_4, binV, intBin, intV, idxA, List.drop, List.take, RetP, retP, resV, resOne, snapV, snapVs, snapR, snapRs, ownSz, pickV, AO.isC, opE, opD, funV.eq_1, funV.eq_2, errC0, errC1, errC4, loadC, k1.call, k2.call, c1, c2]
    · cases c3 : countB l.max
      · rw [if_neg (by simp)]
        simp only [f87, runL, opQ, evOp, evO, evOs, guardV, argsA, pvs, putS, cellsOf, scals, scal, Nat.reduceEqDiff, Nat.reduceAdd, reduceCtorEq, fieldA, nonNil, cellsAt, mkAgg, allPV, storeB, patchL, Int.reduceToNat, Nat.reduceMul, Nat.reduceLT, stepA, Int.reduceNeg, Int.reduceLE, Int.reduceLT, Int.reduceEq, extractV, mkAgg, Nat.reduceLeDiff, fillA, pureVs, pureV, eqV, eqB, lenV.eq_1, lenV.eq_2, lenV.eq_3, lenV.eq_4, binV, intBin, intV, idxA, List.drop, List.take, RetP, retP, resV, resOne, snapV, snapVs, snapR, snapRs, ownSz, pickV, AO.isC, opE, opD, funV.eq_1, funV.eq_2, errC0, errC1, errC4, loadC, k1.call, k2.call, k3.call, c1, c2, c3]
      · by_cases c4 : l.max < l.min
        · rw [if_neg (by omega)]
          simp only [f87, runL, opQ, evOp, evO, evOs, guardV, argsA, pvs, putS, cellsOf, scals, scal, Nat.reduceEqDiff, Nat.reduceAdd, reduceCtorEq, fieldA, nonNil, cellsAt, mkAgg, allPV, storeB, patchL, Int.reduceToNat, Nat.reduceMul, Nat.reduceLT, stepA, Int.reduceNeg, Int.reduceLE, Int.reduceLT, Int.reduceEq, extractV, mkAgg, Nat.reduceLeDiff, fillA, pureVs, pureV, eqV, eqB, lenV.eq_1, lenV.eq_2, lenV.eq_3, lenV.eq_4, binV, intBin, intV, idxA, List.drop, List.take, RetP, retP, resV, resOne, snapV, snapVs, snapR, snapRs, ownSz, pickV, AO.isC, opE, opD, funV.eq_1, funV.eq_2, errC0, errC1, errC4, loadC, k1.call, k2.call, k3.call, c1, c2, c3, c4]
        · rw [if_pos ⟨rfl, rfl, rfl, by omega⟩]
          simp only [f87, runL, opQ, evOp, evO, evOs, guardV, argsA, pvs, putS, cellsOf, scals, scal, Nat.reduceEqDiff, Nat.reduceAdd, reduceCtorEq, fieldA, nonNil, cellsAt, mkAgg, allPV, storeB, patchL, Int.reduceToNat, Nat.reduceMul, Nat.reduceLT, stepA, Int.reduceNeg, Int.reduceLE, Int.reduceLT, Int.reduceEq, extractV, mkAgg, Nat.reduceLeDiff, fillA, pureVs, pureV, eqV, eqB, lenV.eq_1, lenV.eq_2, lenV.eq_3, lenV.eq_4, binV, intBin, intV, idxA, List.drop, List.take, RetP, retP, resV, resOne, snapV, snapVs, snapR, snapRs, ownSz, pickV, AO.isC, opE, opD, funV.eq_1, funV.eq_2, errC0, errC1, errC4, loadC, k1.call, k2.call, k3.call, c1, c2, c3, c4]
structure StdF (T : Tab) : Prop where
  h257 : Std T 257 f257
  h258 : Std T 258 f258
  h261 : Std T 261 f261
  h259 : Std T 259 f259
theorem vfits_ok (S : StdF T) (a b : Vec) : Gives T 257 [vecP a, vecP b] (.bool (fitsB a b)) := by
  refine gives S.h257 rfl ?_
  have k := sub_ok S.h258 S.h261 S.h259 b a
  rw [subV_if] at k
  simp only [vecP, vecC] at k
  cases hf : fitsB a b
  · rw [hf, if_neg (by simp)] at k
    simp only [vecR, vecP, vecC, vec0, codeE] at k
    simp only [f257, runL, opQ, evOp, evO, evOs, guardV, argsA, pvs, putS, cellsOf, scals, scal, Nat.reduceEqDiff, Nat.reduceAdd, reduceCtorEq, fieldA, nonNil, cellsAt, mkAgg, allPV, storeB, patchL, Int.reduceToNat, Nat.reduceMul, Nat.reduceLT, stepA, Int.reduceNeg, Int.reduceLE, Int.reduceLT, Int.reduceEq, extractV, mkAgg, Nat.reduceLeDiff, fillA, pureVs, pureV, eqV, eqB, lenV.eq_1, lenV.eq_2, lenV.eq_3, lenV.eq_4, binV, intBin, intV, idxA, List.drop, List.take, RetP, retP, resV, resOne, snapV, snapVs, snapR, snapRs, ownSz, pickV, AO.isC, opE, opD, funV.eq_1, funV.eq_2, vecP, vecC, k.call, fillA]
  · rw [hf] at k
    simp only [vecR, vecP, vecC] at k
    simp only [f257, runL, opQ, evOp, evO, evOs, guardV, argsA, pvs, putS, cellsOf, scals, scal, Nat.reduceEqDiff, Nat.reduceAdd, reduceCtorEq, fieldA, nonNil, cellsAt, mkAgg, allPV, storeB, patchL, Int.reduceToNat, Nat.reduceMul, Nat.reduceLT, stepA, Int.reduceNeg, Int.reduceLE, Int.reduceLT, Int.reduceEq, extractV, mkAgg, Nat.reduceLeDiff, fillA, pureVs, pureV, eqV, eqB, lenV.eq_1, lenV.eq_2, lenV.eq_3, lenV.eq_4, binV, intBin, intV, idxA, List.drop, List.take, RetP, retP, resV, resOne, snapV, snapVs, snapR, snapRs, ownSz, pickV, AO.isC, opE, opD, funV.eq_1, funV.eq_2, vecP, vecC, k.call, fillA]
theorem cnode_ok (h88 : Std T 88 f88) (S : StdF T) (n : Node) : Gives T 88 [.agg (nodeC n)] (errC (nodeBad n)) := by
  refine gives h88 rfl ?_
  have k := vfits_ok S n.held n.cap
  simp only [vecP, vecC] at k
  unfold nodeBad
  by_cases c1 : n.zone < 1
  · rw [if_neg (by omega)]
    simp only [f88, runL, opQ, evOp, evO, evOs, guardV, argsA, pvs, putS, cellsOf, scals, scal, Nat.reduceEqDiff, Nat.reduceAdd, reduceCtorEq, fieldA, nonNil, cellsAt, mkAgg, allPV, storeB, patchL, Int.reduceToNat, Nat.reduceMul, Nat.reduceLT, stepA, Int.reduceNeg, Int.reduceLE, Int.reduceLT, Int.reduceEq, extractV, mkAgg, Nat.reduceLeDiff, fillA, pureVs, pureV, eqV, eqB, lenV.eq_1, lenV.eq_2, lenV.eq_3, lenV.eq_4, binV, intBin, intV, idxA, List.drop, List.take, RetP, retP, resV, resOne, snapV, snapVs, snapR, snapRs, ownSz, pickV, AO.isC, opE, opD, funV.eq_1, funV.eq_2, errC0, errC1, errC4, nodeC, c1]
  · by_cases c2 : 8 < n.zone
    · rw [if_neg (by omega)]
      simp only [f88, runL, opQ, evOp, evO, evOs, guardV, argsA, pvs, putS, cellsOf, scals, scal, Nat.reduceEqDiff, Nat.reduceAdd, reduceCtorEq, fieldA, nonNil, cellsAt, mkAgg, allPV, storeB, patchL, Int.reduceToNat, Nat.reduceMul, Nat.reduceLT, stepA, Int.reduceNeg, Int.reduceLE, Int.reduceLT, Int.reduceEq, extractV, mkAgg, Nat.reduceLeDiff, fillA, pureVs, pureV, eqV, eqB, lenV.eq_1, lenV.eq_2, lenV.eq_3, lenV.eq_4, binV, intBin, intV, idxA, List.drop, List.take, RetP, retP, resV, resOne, snapV, snapVs, snapR, snapRs, ownSz, pickV, AO.isC, opE, opD, funV.eq_1, funV.eq_2, errC0, errC1, errC4, nodeC, c1, c2]
    · cases hf : fitsB n.held n.cap
      · rw [if_neg (by simp)]
        rw [hf] at k
        simp only [f88, runL, opQ, evOp, evO, evOs, guardV, argsA, pvs, putS, cellsOf, scals, scal, Nat.reduceEqDiff, Nat.reduceAdd, reduceCtorEq, fieldA, nonNil, cellsAt, mkAgg, allPV, storeB, patchL, Int.reduceToNat, Nat.reduceMul, Nat.reduceLT, stepA, Int.reduceNeg, Int.reduceLE, Int.reduceLT, Int.reduceEq, extractV, mkAgg, Nat.reduceLeDiff, fillA, pureVs, pureV, eqV, eqB, lenV.eq_1, lenV.eq_2, lenV.eq_3, lenV.eq_4, binV, intBin, intV, idxA, List.drop, List.take, RetP, retP, resV, resOne, snapV, snapVs, snapR, snapRs, ownSz, pickV, AO.isC, opE, opD, funV.eq_1, funV.eq_2, errC0, errC1, errC4, nodeC, c1, c2, k.call]
      · rw [if_pos ⟨by omega, by omega, rfl⟩]
        rw [hf] at k
        simp only [f88, runL, opQ, evOp, evO, evOs, guardV, argsA, pvs, putS, cellsOf, scals, scal, Nat.reduceEqDiff, Nat.reduceAdd, reduceCtorEq, fieldA, nonNil, cellsAt, mkAgg, allPV, storeB, patchL, Int.reduceToNat, Nat.reduceMul, Nat.reduceLT, stepA, Int.reduceNeg, Int.reduceLE, Int.reduceLT, Int.reduceEq, extractV, mkAgg, Nat.reduceLeDiff, fillA, pureVs, pureV, eqV, eqB, lenV.eq_1, lenV.eq_2, lenV.eq_3, lenV.eq_4, binV, intBin, intV, idxA, List.drop, List.take, RetP, retP, resV, resOne, snapV, snapVs, snapR, snapRs, ownSz, pickV, AO.isC, opE, opD, funV.eq_1, funV.eq_2, errC0, errC1, errC4, nodeC, c1, c2, k.call]
theorem cpod_ok (h89 : Std T 89 f89) (h85 : Std T 85 f85) (h81 : Std T 81 f81) (h82 : Std T 82 f82) (s : Snap) (p : Pod) (hl : s.loads.length ≤ 2 ^ 30) (hn : s.nodes.length ≤ 2 ^ 30) : Gives T 89 [snapP s, .agg (podC p)] (errC (podBad s p)) := by
  refine gives h89 rfl ?_
  have k1 := count_ok h85 p.prio
  have k2 := load_ok h81 s p.load hl
  have k3 := node_ok h82 s p.node hn
  simp only [snapP] at k2 k3
  unfold podBad
  cases c1 : countB p.prio
  · rw [if_pos rfl]
    simp only [f89, runL, opQ, evOp, evO, evOs, guardV, argsA, pvs, putS, cellsOf, scals, scal, Nat.reduceEqDiff, Nat.reduceAdd, reduceCtorEq, fieldA, nonNil, cellsAt, mkAgg, allPV, storeB, patchL, Int.reduceToNat, Nat.reduceMul, Nat.reduceLT, stepA, Int.reduceNeg, Int.reduceLE, Int.reduceLT, Int.reduceEq, extractV, mkAgg, Nat.reduceLeDiff, fillA, pureVs, pureV, eqV, eqB, lenV.eq_1, lenV.eq_2, lenV.eq_3, lenV.eq_4, binV, intBin, intV, idxA, List.drop, List.take, RetP, retP, resV, resOne, snapV, snapVs, snapR, snapRs, ownSz, pickV, AO.isC, opE, opD, funV.eq_1, funV.eq_2, errC0, errC1, errC4, snapP, podC, k1.call, c1]
  · rw [if_neg (by simp)]
    cases hlo : loadOf p.load s.loads with
    | none =>
      rw [hlo] at k2
      simp only [loadR, loadC, load0] at k2
      rw [if_pos (.inl rfl)]
      cases hno : nodeOf p.node s.nodes with
      | none =>
        rw [hno] at k3
        simp only [nodeR, nodeC, node0] at k3
        simp only [f89, runL, opQ, evOp, evO, evOs, guardV, argsA, pvs, putS, cellsOf, scals, scal, Nat.reduceEqDiff, Nat.reduceAdd, reduceCtorEq, fieldA, nonNil, cellsAt, mkAgg, allPV, storeB, patchL, Int.reduceToNat, Nat.reduceMul, Nat.reduceLT, stepA, Int.reduceNeg, Int.reduceLE, Int.reduceLT, Int.reduceEq, extractV, mkAgg, Nat.reduceLeDiff, fillA, pureVs, pureV, eqV, eqB, lenV.eq_1, lenV.eq_2, lenV.eq_3, lenV.eq_4, binV, intBin, intV, idxA, List.drop, List.take, RetP, retP, resV, resOne, snapV, snapVs, snapR, snapRs, ownSz, pickV, AO.isC, opE, opD, funV.eq_1, funV.eq_2, errC0, errC1, errC4, snapP, podC, k1.call, c1, k2.call, k3.call]
      | some n =>
        rw [hno] at k3
        simp only [nodeR, nodeC] at k3
        simp only [f89, runL, opQ, evOp, evO, evOs, guardV, argsA, pvs, putS, cellsOf, scals, scal, Nat.reduceEqDiff, Nat.reduceAdd, reduceCtorEq, fieldA, nonNil, cellsAt, mkAgg, allPV, storeB, patchL, Int.reduceToNat, Nat.reduceMul, Nat.reduceLT, stepA, Int.reduceNeg, Int.reduceLE, Int.reduceLT, Int.reduceEq, extractV, mkAgg, Nat.reduceLeDiff, fillA, pureVs, pureV, eqV, eqB, lenV.eq_1, lenV.eq_2, lenV.eq_3, lenV.eq_4, binV, intBin, intV, idxA, List.drop, List.take, RetP, retP, resV, resOne, snapV, snapVs, snapR, snapRs, ownSz, pickV, AO.isC, opE, opD, funV.eq_1, funV.eq_2, errC0, errC1, errC4, snapP, podC, k1.call, c1, k2.call, k3.call]
    | some l =>
      rw [hlo] at k2
      simp only [loadR, loadC] at k2
      cases hno : nodeOf p.node s.nodes with
      | none =>
        rw [hno] at k3
        simp only [nodeR, nodeC, node0] at k3
        by_cases c2 : p.node = 0
        · have d2 : decide (p.node = 0) = true := decide_eq_true c2
          rw [if_neg (by simp [c2])]
          simp only [f89, runL, opQ, evOp, evO, evOs, guardV, argsA, pvs, putS, cellsOf, scals, scal, Nat.reduceEqDiff, Nat.reduceAdd, reduceCtorEq, fieldA, nonNil, cellsAt, mkAgg, allPV, storeB, patchL, Int.reduceToNat, Nat.reduceMul, Nat.reduceLT, stepA, Int.reduceNeg, Int.reduceLE, Int.reduceLT, Int.reduceEq, extractV, mkAgg, Nat.reduceLeDiff, fillA, pureVs, pureV, eqV, eqB, lenV.eq_1, lenV.eq_2, lenV.eq_3, lenV.eq_4, binV, intBin, intV, idxA, List.drop, List.take, RetP, retP, resV, resOne, snapV, snapVs, snapR, snapRs, ownSz, pickV, AO.isC, opE, opD, funV.eq_1, funV.eq_2, errC0, errC1, errC4, snapP, podC, k1.call, c1, k2.call, k3.call, d2]
        · rw [if_pos (.inr ⟨c2, rfl⟩)]
          simp only [f89, runL, opQ, evOp, evO, evOs, guardV, argsA, pvs, putS, cellsOf, scals, scal, Nat.reduceEqDiff, Nat.reduceAdd, reduceCtorEq, fieldA, nonNil, cellsAt, mkAgg, allPV, storeB, patchL, Int.reduceToNat, Nat.reduceMul, Nat.reduceLT, stepA, Int.reduceNeg, Int.reduceLE, Int.reduceLT, Int.reduceEq, extractV, mkAgg, Nat.reduceLeDiff, fillA, pureVs, pureV, eqV, eqB, lenV.eq_1, lenV.eq_2, lenV.eq_3, lenV.eq_4, binV, intBin, intV, idxA, List.drop, List.take, RetP, retP, resV, resOne, snapV, snapVs, snapR, snapRs, ownSz, pickV, AO.isC, opE, opD, funV.eq_1, funV.eq_2, errC0, errC1, errC4, snapP, podC, k1.call, c1, k2.call, k3.call, c2]
      | some n =>
        rw [hno] at k3
        simp only [nodeR, nodeC] at k3
        rw [if_neg (by simp)]
        by_cases c2 : p.node = 0
        · have d2 : decide (p.node = 0) = true := decide_eq_true c2
          simp only [f89, runL, opQ, evOp, evO, evOs, guardV, argsA, pvs, putS, cellsOf, scals, scal, Nat.reduceEqDiff, Nat.reduceAdd, reduceCtorEq, fieldA, nonNil, cellsAt, mkAgg, allPV, storeB, patchL, Int.reduceToNat, Nat.reduceMul, Nat.reduceLT, stepA, Int.reduceNeg, Int.reduceLE, Int.reduceLT, Int.reduceEq, extractV, mkAgg, Nat.reduceLeDiff, fillA, pureVs, pureV, eqV, eqB, lenV.eq_1, lenV.eq_2, lenV.eq_3, lenV.eq_4, binV, intBin, intV, idxA, List.drop, List.take, RetP, retP, resV, resOne, snapV, snapVs, snapR, snapRs, ownSz, pickV, AO.isC, opE, opD, funV.eq_1, funV.eq_2, errC0, errC1, errC4, snapP, podC, k1.call, c1, k2.call, k3.call, d2]
        · simp only [f89, runL, opQ, evOp, evO, evOs, guardV, argsA, pvs, putS, cellsOf, scals, scal, Nat.reduceEqDiff, Nat.reduceAdd, reduceCtorEq, fieldA, nonNil, cellsAt, mkAgg, allPV, storeB, patchL, Int.reduceToNat, Nat.reduceMul, Nat.reduceLT, stepA, Int.reduceNeg, Int.reduceLE, Int.reduceLT, Int.reduceEq, extractV, mkAgg, Nat.reduceLeDiff, fillA, pureVs, pureV, eqV, eqB, lenV.eq_1, lenV.eq_2, lenV.eq_3, lenV.eq_4, binV, intBin, intV, idxA, List.drop, List.take, RetP, retP, resV, resOne, snapV, snapVs, snapR, snapRs, ownSz, pickV, AO.isC, opE, opD, funV.eq_1, funV.eq_2, errC0, errC1, errC4, snapP, podC, k1.call, c1, k2.call, k3.call, c2]
end
end Go.Proofs.YtdjpeonignkheaaDoor.Ab
set_option linter.unusedVariables false
set_option linter.unusedSimpArgs false
namespace Go.Proofs.YtdjpeonignkheaaDoor.Ab
open Go
def sIndep (x y : AOper) : Bool := disj (optL x.dst) (readsA y) && (disj (optL x.dst) (optL y.dst) && disj (optL y.dst) (readsA x))
def shyB (x y : AOper) : Bool := (quiet x.op && quiet y.op) || (dry x.op || dry y.op)
def pairRow (i : Nat) (x : AOper) : List Nat → Nat → List AOper → Option (List (Nat × Nat))
  | _, _, [] => some []
  | l, j, y :: r => cond (anyIn l y.deps) (pairRow i x (j :: l) (j + 1) r) (cond (sIndep x y) (match pairRow i x l (j + 1) r with
    | some ps => some (cond (shyB x y) ps ((i, j) :: ps))
    | none => none) none)
def pairsS (i : Nat) : List AOper → Option (List (Nat × Nat))
  | [] => some []
  | x :: r => cond (stOK x && allLt i x.deps) (match pairRow i x [i] (i + 1) r, pairsS (i + 1) r with
    | some a, some b => some (a ++ b)
    | _, _ => none) none
def dynB (e f : En) : Bool := disj (keys e.W) f.rd && (disj (keys e.W) (keys f.W) && (disj (keys f.W) e.rd && (Nat.beq e.n 0 || (Nat.beq f.n 0 || !(Nat.beq e.k f.k)))))
theorem indep_of {e f : En} (hs : sIndep e.x f.x = true) (hd : dynB e f = true) : indepB e f = true := by
  simp only [sIndep, dynB, Bool.and_eq_true, readsA] at hs hd
  obtain ⟨s1, s2, s3⟩ := hs
  obtain ⟨d1, d2, d3, d4⟩ := hd
  simp only [indepB, En.reads, s1, s2, s3, d1, d2, d3, d4, Bool.true_and]
theorem shy_dyn {e f : En} (he : Shy e) (hf : Shy f) (h : shyB e.x f.x = true) : dynB e f = true := by
  simp only [shyB, Bool.or_eq_true, Bool.and_eq_true] at h
  unfold dynB
  rcases h with ⟨q1, q2⟩ | q1 | q2
  · obtain ⟨a1, a2⟩ := he.1 q1
    obtain ⟨b1, b2⟩ := hf.1 q2
    simp only [a1, a2, b1, b2, keys, disj, beq_self, Bool.true_or, Bool.and_self]
  · obtain ⟨a1, a2, a3⟩ := he.2 q1
    simp only [a1, a2, a3, keys, disj, disj_nil, beq_self, Bool.true_or, Bool.and_self]
  · obtain ⟨b1, b2, b3⟩ := hf.2 q2
    simp only [b1, b2, b3, keys, disj, disj_nil, beq_self, Bool.true_or, Bool.or_true, Bool.and_self]
theorem pairRow_ok {i : Nat} {e : En} (he : Shy e) : ∀ {es : List En} {l : List Nat} {j : Nat} {ps : List (Nat × Nat)}, (∀ f ∈ es, Shy f) → pairRow i e.x l j (es.map (·.x)) = some ps →
    (∀ b f, (i, b) ∈ ps → j ≤ b → es[b - j]? = some f → dynB e f = true) → restT l j e es = true
  | [], l, j, ps, _, _, _ => rfl
  | f :: r, l, j, ps, hs, h, hd => by
    simp only [List.map_cons, pairRow] at h
    simp only [restT]
    have hs' : ∀ g ∈ r, Shy g := fun g hg => hs g (by simp [hg])
    have shift : ∀ {qs : List (Nat × Nat)}, (∀ b, (i, b) ∈ qs → (i, b) ∈ ps) → ∀ b g, (i, b) ∈ qs → j + 1 ≤ b → r[b - (j + 1)]? = some g → dynB e g = true := fun hsub b g hb hj hg => by
      refine hd b g (hsub b hb) (by omega) ?_
      rw [show b - j = (b - (j + 1)) + 1 by omega]
      simpa using hg
    cases ha : anyIn l f.x.deps with
    | true =>
      rw [ha] at h
      exact pairRow_ok he hs' h (shift fun b hb => hb)
    | false =>
      rw [ha] at h
      simp only [cond_false] at h ⊢
      cases hsi : sIndep e.x f.x with
      | false => rw [hsi] at h; simp at h
      | true =>
        rw [hsi] at h
        simp only [cond_true] at h
        cases hr : pairRow i e.x l (j + 1) (r.map (·.x)) with
        | none => rw [hr] at h; simp at h
        | some qs =>
          rw [hr] at h
          simp only [Option.some.injEq] at h
          have hdy : dynB e f = true := by
            cases hsh : shyB e.x f.x with
            | true => exact shy_dyn he (hs f (by simp)) hsh
            | false =>
              rw [hsh] at h
              exact hd j f (by rw [← h]; simp) (Nat.le_refl _) (by simp)
          rw [indep_of hsi hdy, Bool.true_and]
          exact pairRow_ok he hs' hr (shift fun b hb => by
            rw [← h]
            cases shyB e.x f.x <;> simp [hb])
theorem pairsS_ok : ∀ {es : List En} {i : Nat} {ps : List (Nat × Nat)}, (∀ f ∈ es, Shy f) → pairsS i (es.map (·.x)) = some ps →
    (∀ a b e f, (a, b) ∈ ps → i ≤ a → i ≤ b → es[a - i]? = some e → es[b - i]? = some f → dynB e f = true) → chkFrom i es = true
  | [], i, ps, _, _, _ => rfl
  | e :: r, i, ps, hs, h, hd => by
    simp only [List.map_cons, pairsS] at h
    cases h1 : (stOK e.x && allLt i e.x.deps) with
    | false => rw [h1] at h; simp at h
    | true =>
      rw [h1] at h
      simp only [cond_true] at h
      simp only [Bool.and_eq_true] at h1
      cases ha : pairRow i e.x [i] (i + 1) (r.map (·.x)) with
      | none => rw [ha] at h; simp at h
      | some as =>
        cases hb : pairsS (i + 1) (r.map (·.x)) with
        | none => rw [ha, hb] at h; simp at h
        | some bs =>
          rw [ha, hb] at h
          simp only [Option.some.injEq] at h
          have hst : storeB' e = true := h1.1
          have hrest := pairRow_ok (hs e (by simp)) (fun f hf => hs f (by simp [hf])) ha (fun b f hm hj hf => by
            refine hd i b e f (by rw [← h]; simp [hm]) (Nat.le_refl _) (by omega) (by simp) ?_
            rw [show b - i = (b - (i + 1)) + 1 by omega]
            simpa using hf)
          have hch := pairsS_ok (fun f hf => hs f (by simp [hf])) hb (fun a b f g hm ha' hb' hf hg => by
            refine hd a b f g (by rw [← h]; simp [hm]) (by omega) (by omega) ?_ ?_
            · rw [show a - i = (a - (i + 1)) + 1 by omega]
              simpa using hf
            · rw [show b - i = (b - (i + 1)) + 1 by omega]
              simpa using hg)
          simp only [chkFrom, h1.2, hst, hrest, hch, Bool.or_true, Bool.and_self]
theorem trcs_shy {T : Tab} {C : Cl} : ∀ {l : List AOper} {st st' : St} {es : List En}, trcs T C l st = some (es, st') → es.map (·.x) = l ∧ ∀ e ∈ es, Shy e
  | [], st, st', es, h => by simp [trcs] at h; obtain ⟨rfl, rfl⟩ := h; simp
  | x :: r, st, st', es, h => by
    simp only [trcs] at h
    split at h
    · rename_i e st1 h1
      split at h
      · rename_i es' st2 h2
        simp at h
        obtain ⟨rfl, rfl⟩ := h
        obtain ⟨k1, k2⟩ := trcO_shy h1
        obtain ⟨g2, g3⟩ := trcs_shy h2
        refine ⟨by simp [k1, g2], fun f hf => ?_⟩
        rcases List.mem_cons.1 hf with rfl | hf
        · exact k2
        · exact g3 f hf
      · simp at h
    · simp at h
theorem Wp_calmS {T : Tab} {st : St} {Q : Exit → St → Prop} {l : List AOper} (hp : pairsS 0 l = some []) : Wp T false (.draw l) st Q ↔ WpD T l st (Q .normal) := by
  constructor
  · rintro ⟨e, st', h, hq⟩
    cases h
    rename_i h
    unfold runDraw at h
    split at h
    · rename_i es st1 h1
      split at h
      · simp at h; subst h; exact ⟨es, _, h1, hq⟩
      · simp at h
    · simp at h
  · rintro ⟨es, st', h, hq⟩
    refine ⟨_, _, .draw ?_, hq⟩
    unfold runDraw
    have : trcs T (D T) l (frzAll false st) = some (es, st') := h
    rw [this]
    obtain ⟨g1, g2⟩ := trcs_shy h
    have hc : chkFrom 0 es = true := pairsS_ok g2 (by rw [g1]; exact hp) (fun a b e f hm => by simp at hm)
    simp only [hc]
end Go.Proofs.YtdjpeonignkheaaDoor.Ab
set_option linter.unusedVariables false
set_option linter.unusedSimpArgs false
namespace Go.Proofs.YtdjpeonignkheaaDoor.Ab
open Go
def lookC (n last c : Int) : Int := if idP n last ≠ 0 then idP n last else c
def lookB (a n last c : Int) : Option (Int × Int) := if lookC n last c ≠ 0 then some (lookC n last c, a) else none
def ErrA (err : AV) (hp : Hl) (o : Option (Int × Int)) (kid nx : Nat) : Prop := match o with
  | none => err = .pv .nili
  | some (c, a) => ∃ b, err = .iface 1 (.ptr b 0 0) ∧ b < nx ∧ b ≠ kid ∧ blkAt hp b = .var [.pv (.int .i64 a), .pv (.int .i64 c)]
theorem ErrA.mono {err : AV} {hp hp' : Hl} {o : Option (Int × Int)} {kid nx nx' : Nat} (h : ErrA err hp o kid nx) (h1 : ∀ j, j < nx → j ≠ kid → blkAt hp' j = blkAt hp j) (h2 : nx ≤ nx') : ErrA err hp' o kid nx' := by
  cases o with
  | none => exact h
  | some q =>
    obtain ⟨c, a⟩ := q
    obtain ⟨b, e1, e2, e3, e4⟩ := h
    exact ⟨b, e1, by omega, e3, by rw [h1 b e2 e3, e4]⟩
def Looks (T : Tab) (g : Nat) (cs : List AV) (p : PV) (hp : Hl) (nx : Nat) : Prop := T.raw g = true ∧ ∀ hp' nx', nx ≤ nx' → (∀ k, k < nx → blkAt hp' k = blkAt hp k) → D T g cs hp' nx' = some (.pv p, hp', nx')
section
variable {T : Tab}
set_option maxRecDepth 100000 in
set_option maxHeartbeats 4000000 in
theorem look_ok (S16 : StdR T 16 f16) (h86 : Std T 86 f86) (hA : StdA T 266) (kid : Nat) (a n last c : Int) (err fv : AV) (g : Nat) (cs : List AV) (hp : Hl) (nx : Nat) (o : Option (Int × Int)) (hf : funV fv = some (g, [], cs)) (hk : kid < nx)
    (hb : blkAt hp kid = .var [.pv (.int .i64 a), .pv (.int .i64 last), err]) (ho : Looks T g cs (errC c) hp nx) (hE : ErrA err hp o kid nx) (h0 : 0 ≤ a) (h1 : a ≤ 2 ^ 30) :
    ∃ v hp' nx', D T 16 [.ptr kid 0 0, .pv (.int .i64 n), fv] hp nx = some (v, hp', nx') ∧ ∃ err', nx ≤ nx' ∧ blkAt hp' kid = .var [.pv (.int .i64 (a + 1)), .pv (.int .i64 n), err'] ∧ ErrA err' hp' (o.or (lookB a n last c)) kid nx' ∧ ∀ j, j < nx → j ≠ kid → blkAt hp' j = blkAt hp j := by
  refine D_wp S16 rfl ?_
  have ki := id_ok h86 n last
  have hw : IntKind.i64.wrap (a + 1) = a + 1 := by rw [wrap6] <;> omega
  have e1 : ¬ nx = kid := by omega
  have e2 : ¬ nx + 1 = kid := by omega
  have f1 : ¬ kid = nx := by omega
  have f2 : ¬ kid = nx + 1 := by omega
  cases o with
  | some q =>
    obtain ⟨c0, a0⟩ := q
    obtain ⟨b, rfl, b1, b2, b3⟩ := hE
    simp only [f16, runL, opQ, evOp, evO, evOs, guardV, argsA, pvs, putS, cellsOf, scals, scal, Nat.reduceEqDiff, Nat.reduceAdd, reduceCtorEq, fieldA, nonNil, cellsAt, mkAgg, allPV, storeB, patchL, Int.reduceToNat, Nat.reduceMul, Nat.reduceLT, stepA, Int.reduceNeg, Int.reduceLE, Int.reduceLT, Int.reduceEq, extractV, mkAgg, Nat.reduceLeDiff, fillA, pureVs, pureV, eqV, eqB, lenV.eq_1, lenV.eq_2, lenV.eq_3, lenV.eq_4, binV, intBin, intV, idxA, List.drop, List.take, RetP, retP, resV, resOne, snapV, snapVs, snapR, snapRs, ownSz, pickV, AO.isC, opE, opD, funV.eq_1, funV.eq_2, hb, hw]
    simp only [RawQ, rawq, runL, opQ, evOp, evO, evOs, guardV, argsA, pvs, putS, cellsOf, scals, scal, Nat.reduceEqDiff, Nat.reduceAdd, reduceCtorEq, fieldA, nonNil, cellsAt, mkAgg, allPV, storeB, patchL, Int.reduceToNat, Nat.reduceMul, Nat.reduceLT, stepA, Int.reduceNeg, Int.reduceLE, Int.reduceLT, Int.reduceEq, extractV, mkAgg, Nat.reduceLeDiff, fillA, pureVs, pureV, eqV, eqB, lenV.eq_1, lenV.eq_2, lenV.eq_3, lenV.eq_4, binV, intBin, intV, idxA, List.drop, List.take, RetP, retP, resV, resOne, snapV, snapVs, snapR, snapRs, ownSz, pickV, AO.isC, opE, opD, funV.eq_1, funV.eq_2]
    refine ⟨.iface 1 (.ptr b 0 0), rfl, ⟨b, rfl, b1, b2, ?_⟩, fun j hj hne => ?_⟩
    · have : ¬ kid = b := fun h => b2 h.symm
      simp only [look_if, blkAt_if, Nat.reduceEqDiff, if_true, if_false, this, b3]
    · have : ¬ kid = j := fun h => hne h.symm
      simp only [this, if_false]
  | none =>
    have hE' : err = .pv .nili := hE
    subst hE'
    have fin : ∀ cc, lookC n last c = cc → cc ≠ 0 → (none : Option (Int × Int)).or (lookB a n last c) = some (cc, a) := fun cc h1 h2 => by
      unfold lookB
      rw [h1, if_pos h2]
      rfl
    by_cases hi : idP n last = 0
    · have hl : lookC n last c = c := by unfold lookC; rw [if_neg (by simpa using hi)]
      rw [hi, errC0] at ki
      simp only [f16, runL, opQ, evOp, evO, evOs, guardV, argsA, pvs, putS, cellsOf, scals, scal, Nat.reduceEqDiff, Nat.reduceAdd, reduceCtorEq, fieldA, nonNil, cellsAt, mkAgg, allPV, storeB, patchL, Int.reduceToNat, Nat.reduceMul, Nat.reduceLT, stepA, Int.reduceNeg, Int.reduceLE, Int.reduceLT, Int.reduceEq, extractV, mkAgg, Nat.reduceLeDiff, fillA, pureVs, pureV, eqV, eqB, lenV.eq_1, lenV.eq_2, lenV.eq_3, lenV.eq_4, binV, intBin, intV, idxA, List.drop, List.take, RetP, retP, resV, resOne, snapV, snapVs, snapR, snapRs, ownSz, pickV, AO.isC, opE, opD, funV.eq_1, funV.eq_2, hb, ki.call, hf, funQ]
      rw [callQ_raw ho.1 (by simpa only [List.append_nil] using ho.2 hp nx (Nat.le_refl _) (fun _ _ => rfl))]
      by_cases hc : c = 0
      · have hn : (none : Option (Int × Int)).or (lookB a n last c) = none := by
          unfold lookB
          rw [hl, if_neg (by simpa using hc)]
          rfl
        rw [hc, errC0]
        simp only [runL, opQ, evOp, evO, evOs, guardV, argsA, pvs, putS, cellsOf, scals, scal, Nat.reduceEqDiff, Nat.reduceAdd, reduceCtorEq, fieldA, nonNil, cellsAt, mkAgg, allPV, storeB, patchL, Int.reduceToNat, Nat.reduceMul, Nat.reduceLT, stepA, Int.reduceNeg, Int.reduceLE, Int.reduceLT, Int.reduceEq, extractV, mkAgg, Nat.reduceLeDiff, fillA, pureVs, pureV, eqV, eqB, lenV.eq_1, lenV.eq_2, lenV.eq_3, lenV.eq_4, binV, intBin, intV, idxA, List.drop, List.take, RetP, retP, resV, resOne, snapV, snapVs, snapR, snapRs, ownSz, pickV, AO.isC, opE, opD, funV.eq_1, funV.eq_2, as_nilQ hA, hb, e1, hw]
        simp only [RawQ, rawq, runL, opQ, evOp, evO, evOs, guardV, argsA, pvs, putS, cellsOf, scals, scal, Nat.reduceEqDiff, Nat.reduceAdd, reduceCtorEq, fieldA, nonNil, cellsAt, mkAgg, allPV, storeB, patchL, Int.reduceToNat, Nat.reduceMul, Nat.reduceLT, stepA, Int.reduceNeg, Int.reduceLE, Int.reduceLT, Int.reduceEq, extractV, mkAgg, Nat.reduceLeDiff, fillA, pureVs, pureV, eqV, eqB, lenV.eq_1, lenV.eq_2, lenV.eq_3, lenV.eq_4, binV, intBin, intV, idxA, List.drop, List.take, RetP, retP, resV, resOne, snapV, snapVs, snapR, snapRs, ownSz, pickV, AO.isC, opE, opD, funV.eq_1, funV.eq_2, e1, f1]
        rw [← hc, hn]
        refine ⟨.pv .nili, by omega, rfl, rfl, fun j hj hne => ?_⟩
        have g1 : ¬ nx = j := by omega
        have g2 : ¬ kid = j := fun h => hne h.symm
        simp only [g1, g2, if_false]
      · have hc' : errC c = .iface 0 (.int .i64 c) := if_neg hc
        rw [hc']
        simp only [runL, opQ, evOp, evO, evOs, guardV, argsA, pvs, putS, cellsOf, scals, scal, Nat.reduceEqDiff, Nat.reduceAdd, reduceCtorEq, fieldA, nonNil, cellsAt, mkAgg, allPV, storeB, patchL, Int.reduceToNat, Nat.reduceMul, Nat.reduceLT, stepA, Int.reduceNeg, Int.reduceLE, Int.reduceLT, Int.reduceEq, extractV, mkAgg, Nat.reduceLeDiff, fillA, pureVs, pureV, eqV, eqB, lenV.eq_1, lenV.eq_2, lenV.eq_3, lenV.eq_4, binV, intBin, intV, idxA, List.drop, List.take, RetP, retP, resV, resOne, snapV, snapVs, snapR, snapRs, ownSz, pickV, AO.isC, opE, opD, funV.eq_1, funV.eq_2]
        refine (as_codeQ hA (o := 0) ?_).2 ?_
        · simp only [runL, opQ, evOp, evO, evOs, guardV, argsA, pvs, putS, cellsOf, scals, scal, Nat.reduceEqDiff, Nat.reduceAdd, reduceCtorEq, fieldA, nonNil, cellsAt, mkAgg, allPV, storeB, patchL, Int.reduceToNat, Nat.reduceMul, Nat.reduceLT, stepA, Int.reduceNeg, Int.reduceLE, Int.reduceLT, Int.reduceEq, extractV, mkAgg, Nat.reduceLeDiff, fillA, pureVs, pureV, eqV, eqB, lenV.eq_1, lenV.eq_2, lenV.eq_3, lenV.eq_4, binV, intBin, intV, idxA, List.drop, List.take, RetP, retP, resV, resOne, snapV, snapVs, snapR, snapRs, ownSz, pickV, AO.isC, opE, opD, funV.eq_1, funV.eq_2]
        · simp only [runL, opQ, evOp, evO, evOs, guardV, argsA, pvs, putS, cellsOf, scals, scal, Nat.reduceEqDiff, Nat.reduceAdd, reduceCtorEq, fieldA, nonNil, cellsAt, mkAgg, allPV, storeB, patchL, Int.reduceToNat, Nat.reduceMul, Nat.reduceLT, stepA, Int.reduceNeg, Int.reduceLE, Int.reduceLT, Int.reduceEq, extractV, mkAgg, Nat.reduceLeDiff, fillA, pureVs, pureV, eqV, eqB, lenV.eq_1, lenV.eq_2, lenV.eq_3, lenV.eq_4, binV, intBin, intV, idxA, List.drop, List.take, RetP, retP, resV, resOne, snapV, snapVs, snapR, snapRs, ownSz, pickV, AO.isC, opE, opD, funV.eq_1, funV.eq_2, hb, e1]
          refine (Wp_calmS rfl).2 ?_
          simp only [runL, opQ, evOp, evO, evOs, guardV, argsA, pvs, putS, cellsOf, scals, scal, Nat.reduceEqDiff, Nat.reduceAdd, reduceCtorEq, fieldA, nonNil, cellsAt, mkAgg, allPV, storeB, patchL, Int.reduceToNat, Nat.reduceMul, Nat.reduceLT, stepA, Int.reduceNeg, Int.reduceLE, Int.reduceLT, Int.reduceEq, extractV, mkAgg, Nat.reduceLeDiff, fillA, pureVs, pureV, eqV, eqB, lenV.eq_1, lenV.eq_2, lenV.eq_3, lenV.eq_4, binV, intBin, intV, idxA, List.drop, List.take, RetP, retP, resV, resOne, snapV, snapVs, snapR, snapRs, ownSz, pickV, AO.isC, opE, opD, funV.eq_1, funV.eq_2, hb, e1, e2, f1, f2, hw]
          simp only [RawQ, rawq, runL, opQ, evOp, evO, evOs, guardV, argsA, pvs, putS, cellsOf, scals, scal, Nat.reduceEqDiff, Nat.reduceAdd, reduceCtorEq, fieldA, nonNil, cellsAt, mkAgg, allPV, storeB, patchL, Int.reduceToNat, Nat.reduceMul, Nat.reduceLT, stepA, Int.reduceNeg, Int.reduceLE, Int.reduceLT, Int.reduceEq, extractV, mkAgg, Nat.reduceLeDiff, fillA, pureVs, pureV, eqV, eqB, lenV.eq_1, lenV.eq_2, lenV.eq_3, lenV.eq_4, binV, intBin, intV, idxA, List.drop, List.take, RetP, retP, resV, resOne, snapV, snapVs, snapR, snapRs, ownSz, pickV, AO.isC, opE, opD, funV.eq_1, funV.eq_2, e1, e2, f1, f2]
          rw [fin c hl hc]
          refine ⟨.iface 1 (.ptr (nx + 1) 0 0), by omega, rfl, ⟨nx + 1, rfl, by omega, by omega, ?_⟩, fun j hj hne => ?_⟩
          · simp only [look_if, blkAt_if, Nat.reduceEqDiff, if_true, if_false, f2]
          · have g1 : ¬ nx = j := by omega
            have g3 : ¬ nx + 1 = j := by omega
            have g2 : ¬ kid = j := fun h => hne h.symm
            simp only [g1, g2, g3, if_false]
    · have hl : lookC n last c = idP n last := by unfold lookC; rw [if_pos hi]
      have hc' : errC (idP n last) = .iface 0 (.int .i64 (idP n last)) := if_neg hi
      rw [hc'] at ki
      simp only [f16, runL, opQ, evOp, evO, evOs, guardV, argsA, pvs, putS, cellsOf, scals, scal, Nat.reduceEqDiff, Nat.reduceAdd, reduceCtorEq, fieldA, nonNil, cellsAt, mkAgg, allPV, storeB, patchL, Int.reduceToNat, Nat.reduceMul, Nat.reduceLT, stepA, Int.reduceNeg, Int.reduceLE, Int.reduceLT, Int.reduceEq, extractV, mkAgg, Nat.reduceLeDiff, fillA, pureVs, pureV, eqV, eqB, lenV.eq_1, lenV.eq_2, lenV.eq_3, lenV.eq_4, binV, intBin, intV, idxA, List.drop, List.take, RetP, retP, resV, resOne, snapV, snapVs, snapR, snapRs, ownSz, pickV, AO.isC, opE, opD, funV.eq_1, funV.eq_2, hb, ki.call]
      refine (as_codeQ hA (o := 0) ?_).2 ?_
      · simp only [runL, opQ, evOp, evO, evOs, guardV, argsA, pvs, putS, cellsOf, scals, scal, Nat.reduceEqDiff, Nat.reduceAdd, reduceCtorEq, fieldA, nonNil, cellsAt, mkAgg, allPV, storeB, patchL, Int.reduceToNat, Nat.reduceMul, Nat.reduceLT, stepA, Int.reduceNeg, Int.reduceLE, Int.reduceLT, Int.reduceEq, extractV, mkAgg, Nat.reduceLeDiff, fillA, pureVs, pureV, eqV, eqB, lenV.eq_1, lenV.eq_2, lenV.eq_3, lenV.eq_4, binV, intBin, intV, idxA, List.drop, List.take, RetP, retP, resV, resOne, snapV, snapVs, snapR, snapRs, ownSz, pickV, AO.isC, opE, opD, funV.eq_1, funV.eq_2]
      · simp only [runL, opQ, evOp, evO, evOs, guardV, argsA, pvs, putS, cellsOf, scals, scal, Nat.reduceEqDiff, Nat.reduceAdd, reduceCtorEq, fieldA, nonNil, cellsAt, mkAgg, allPV, storeB, patchL, Int.reduceToNat, Nat.reduceMul, Nat.reduceLT, stepA, Int.reduceNeg, Int.reduceLE, Int.reduceLT, Int.reduceEq, extractV, mkAgg, Nat.reduceLeDiff, fillA, pureVs, pureV, eqV, eqB, lenV.eq_1, lenV.eq_2, lenV.eq_3, lenV.eq_4, binV, intBin, intV, idxA, List.drop, List.take, RetP, retP, resV, resOne, snapV, snapVs, snapR, snapRs, ownSz, pickV, AO.isC, opE, opD, funV.eq_1, funV.eq_2, hb, e1]
        refine (Wp_calmS rfl).2 ?_
        simp only [runL, opQ, evOp, evO, evOs, guardV, argsA, pvs, putS, cellsOf, scals, scal, Nat.reduceEqDiff, Nat.reduceAdd, reduceCtorEq, fieldA, nonNil, cellsAt, mkAgg, allPV, storeB, patchL, Int.reduceToNat, Nat.reduceMul, Nat.reduceLT, stepA, Int.reduceNeg, Int.reduceLE, Int.reduceLT, Int.reduceEq, extractV, mkAgg, Nat.reduceLeDiff, fillA, pureVs, pureV, eqV, eqB, lenV.eq_1, lenV.eq_2, lenV.eq_3, lenV.eq_4, binV, intBin, intV, idxA, List.drop, List.take, RetP, retP, resV, resOne, snapV, snapVs, snapR, snapRs, ownSz, pickV, AO.isC, opE, opD, funV.eq_1, funV.eq_2, hb, e1, e2, f1, f2, hw]
        simp only [RawQ, rawq, runL, opQ, evOp, evO, evOs, guardV, argsA, pvs, putS, cellsOf, scals, scal, Nat.reduceEqDiff, Nat.reduceAdd, reduceCtorEq, fieldA, nonNil, cellsAt, mkAgg, allPV, storeB, patchL, Int.reduceToNat, Nat.reduceMul, Nat.reduceLT, stepA, Int.reduceNeg, Int.reduceLE, Int.reduceLT, Int.reduceEq, extractV, mkAgg, Nat.reduceLeDiff, fillA, pureVs, pureV, eqV, eqB, lenV.eq_1, lenV.eq_2, lenV.eq_3, lenV.eq_4, binV, intBin, intV, idxA, List.drop, List.take, RetP, retP, resV, resOne, snapV, snapVs, snapR, snapRs, ownSz, pickV, AO.isC, opE, opD, funV.eq_1, funV.eq_2, e1, e2, f1, f2]
        rw [fin _ hl hi]
        refine ⟨.iface 1 (.ptr (nx + 1) 0 0), by omega, rfl, ⟨nx + 1, rfl, by omega, by omega, ?_⟩, fun j hj hne => ?_⟩
        · simp only [look_if, blkAt_if, Nat.reduceEqDiff, if_true, if_false, f2]
        · have g1 : ¬ nx = j := by omega
          have g3 : ¬ nx + 1 = j := by omega
          have g2 : ¬ kid = j := fun h => hne h.symm
          simp only [g1, g2, g3, if_false]
end
end Go.Proofs.YtdjpeonignkheaaDoor.Ab
set_option linter.unusedVariables false
set_option linter.unusedSimpArgs false
namespace Go.Proofs.YtdjpeonignkheaaDoor.Ab
open Go
def fstB {α : Type} (idOf own : α → Int) : Int → Int → List α → Option (Int × Int)
  | _, _, [] => none
  | last, a, x :: r => (lookB a (idOf x) last (own x)).or (fstB idOf own (idOf x) (a + 1) r)
def errG : Option (Int × Int) → PV
  | none => .nili
  | some (c, a) => if a < 0 then codeE c else spotE a c
def sizesOK (s : Snap) : Bool := decide (1 ≤ s.nodes.length) && (decide (s.nodes.length ≤ 8) && (decide (s.loads.length ≤ 8) && decide (s.pods.length ≤ 12)))
def checkB (s : Snap) : Option (Int × Int) := if sizesOK s = true then ((fstB Node.id nodeBad 0 0 s.nodes).or (fstB Load.id loadBad 0 s.nodes.length s.loads)).or (fstB Pod.id (podBad s) 0 ((s.nodes.length : Int) + s.loads.length) s.pods) else some (3, -1)
structure Std3 (T : Tab) : Prop where
  h16 : StdR T 16 f16
  h86 : Std T 86 f86
  hA : StdA T 266
  h77 : StdR T 77 f77
  h78 : StdR T 78 f78
  h79 : StdR T 79 f79
  h85 : Std T 85 f85
  h87 : Std T 87 f87
  h88 : Std T 88 f88
  h89 : Std T 89 f89
  h81 : Std T 81 f81
  h82 : Std T 82 f82
  hF : StdF T
  h76 : Std T 76 f76
section
variable {T : Tab}
theorem D_eq {n : Nat} {f : AFunc} {args : List AV} {hp hp' : Hl} {nx nx' : Nat} {v : AV} (S : StdR T n f) (hN : Nat.ble args.length f.N = true) (h : Wp T false f.body ⟨argsA 0 args, hp, nx⟩ (RawQ f.res (fun v1 h1 n1 => v1 = v ∧ h1 = hp' ∧ n1 = nx'))) : D T n args hp nx = some (v, hp', nx') := by
  obtain ⟨v1, h1, n1, e, rfl, rfl, rfl⟩ := D_wp S hN h
  exact e
theorem lk77 (S : Std3 T) (n : Node) (hp : Hl) (nx x : Nat) (hx : x < nx) (hb : blkAt hp x = .var (pvs (nodeC n))) : Looks T 77 [.ptr x 0 0] (errC (nodeBad n)) hp nx := by
  refine ⟨S.h77.raw, fun hp' nx' h1 h2 => D_eq S.h77 rfl ?_⟩
  have k := cnode_ok S.h88 S.hF n
  have hb' := (h2 x hx).trans hb
  simp only [nodeC, pvs] at hb' k
  simp only [f77, runL, opQ, evOp, evO, evOs, guardV, argsA, pvs, putS, cellsOf, scals, scal, Nat.reduceEqDiff, Nat.reduceAdd, reduceCtorEq, fieldA, nonNil, cellsAt, mkAgg, allPV, storeB, patchL, Int.reduceToNat, Nat.reduceMul, Nat.reduceLT, stepA, Int.reduceNeg, Int.reduceLE, Int.reduceLT, Int.reduceEq, extractV, mkAgg, Nat.reduceLeDiff, fillA, pureVs, pureV, eqV, eqB, lenV.eq_1, lenV.eq_2, lenV.eq_3, lenV.eq_4, binV, intBin, intV, idxA, List.drop, List.take, RetP, retP, resV, resOne, snapV, snapVs, snapR, snapRs, ownSz, pickV, AO.isC, opE, opD, funV.eq_1, funV.eq_2, hb', k.call]
  simp only [RawQ, rawq, runL, opQ, evOp, evO, evOs, guardV, argsA, pvs, putS, cellsOf, scals, scal, Nat.reduceEqDiff, Nat.reduceAdd, reduceCtorEq, fieldA, nonNil, cellsAt, mkAgg, allPV, storeB, patchL, Int.reduceToNat, Nat.reduceMul, Nat.reduceLT, stepA, Int.reduceNeg, Int.reduceLE, Int.reduceLT, Int.reduceEq, extractV, mkAgg, Nat.reduceLeDiff, fillA, pureVs, pureV, eqV, eqB, lenV.eq_1, lenV.eq_2, lenV.eq_3, lenV.eq_4, binV, intBin, intV, idxA, List.drop, List.take, RetP, retP, resV, resOne, snapV, snapVs, snapR, snapRs, ownSz, pickV, AO.isC, opE, opD, funV.eq_1, funV.eq_2]
theorem lk78 (S : Std3 T) (n : Load) (hp : Hl) (nx x : Nat) (hx : x < nx) (hb : blkAt hp x = .var (pvs (loadC n))) : Looks T 78 [.ptr x 0 0] (errC (loadBad n)) hp nx := by
  refine ⟨S.h78.raw, fun hp' nx' h1 h2 => D_eq S.h78 rfl ?_⟩
  have k := cload_ok S.h87 S.h85 n
  have hb' := (h2 x hx).trans hb
  simp only [loadC, pvs] at hb' k
  simp only [f78, runL, opQ, evOp, evO, evOs, guardV, argsA, pvs, putS, cellsOf, scals, scal, Nat.reduceEqDiff, Nat.reduceAdd, reduceCtorEq, fieldA, nonNil, cellsAt, mkAgg, allPV, storeB, patchL, Int.reduceToNat, Nat.reduceMul, Nat.reduceLT, stepA, Int.reduceNeg, Int.reduceLE, Int.reduceLT, Int.reduceEq, extractV, mkAgg, Nat.reduceLeDiff, fillA, pureVs, pureV, eqV, eqB, lenV.eq_1, lenV.eq_2, lenV.eq_3, lenV.eq_4, binV, intBin, intV, idxA, List.drop, List.take, RetP, retP, resV, resOne, snapV, snapVs, snapR, snapRs, ownSz, pickV, AO.isC, opE, opD, funV.eq_1, funV.eq_2, hb', k.call]
  simp only [RawQ, rawq, runL, opQ, evOp, evO, evOs, guardV, argsA, pvs, putS, cellsOf, scals, scal, Nat.reduceEqDiff, Nat.reduceAdd, reduceCtorEq, fieldA, nonNil, cellsAt, mkAgg, allPV, storeB, patchL, Int.reduceToNat, Nat.reduceMul, Nat.reduceLT, stepA, Int.reduceNeg, Int.reduceLE, Int.reduceLT, Int.reduceEq, extractV, mkAgg, Nat.reduceLeDiff, fillA, pureVs, pureV, eqV, eqB, lenV.eq_1, lenV.eq_2, lenV.eq_3, lenV.eq_4, binV, intBin, intV, idxA, List.drop, List.take, RetP, retP, resV, resOne, snapV, snapVs, snapR, snapRs, ownSz, pickV, AO.isC, opE, opD, funV.eq_1, funV.eq_2]
theorem lk79 (S : Std3 T) (s : Snap) (hl : s.loads.length ≤ 2 ^ 30) (hn : s.nodes.length ≤ 2 ^ 30) (p : Pod) (hp : Hl) (nx x : Nat) (h0 : 0 < nx) (hx : x < nx) (hs : blkAt hp 0 = .var [.pv (.slice (s.nodes.map nodeC)), .pv (.slice (s.loads.map loadC)), .pv (.slice (s.pods.map podC))])
    (hb : blkAt hp x = .var (pvs (podC p))) : Looks T 79 [.ptr 0 0 0, .ptr x 0 0] (errC (podBad s p)) hp nx := by
  refine ⟨S.h79.raw, fun hp' nx' h1 h2 => D_eq S.h79 rfl ?_⟩
  have k := cpod_ok S.h89 S.h85 S.h81 S.h82 s p hl hn
  have hb' := (h2 x hx).trans hb
  have hs' := (h2 0 h0).trans hs
  simp only [podC, pvs, snapP] at hb' k
  simp only [f79, runL, opQ, evOp, evO, evOs, guardV, argsA, pvs, putS, cellsOf, scals, scal, Nat.reduceEqDiff, Nat.reduceAdd, reduceCtorEq, fieldA, nonNil, cellsAt, mkAgg, allPV, storeB, patchL, Int.reduceToNat, Nat.reduceMul, Nat.reduceLT, stepA, Int.reduceNeg, Int.reduceLE, Int.reduceLT, Int.reduceEq, extractV, mkAgg, Nat.reduceLeDiff, fillA, pureVs, pureV, eqV, eqB, lenV.eq_1, lenV.eq_2, lenV.eq_3, lenV.eq_4, binV, intBin, intV, idxA, List.drop, List.take, RetP, retP, resV, resOne, snapV, snapVs, snapR, snapRs, ownSz, pickV, AO.isC, opE, opD, funV.eq_1, funV.eq_2, hb', hs', k.call]
  simp only [RawQ, rawq, runL, opQ, evOp, evO, evOs, guardV, argsA, pvs, putS, cellsOf, scals, scal, Nat.reduceEqDiff, Nat.reduceAdd, reduceCtorEq, fieldA, nonNil, cellsAt, mkAgg, allPV, storeB, patchL, Int.reduceToNat, Nat.reduceMul, Nat.reduceLT, stepA, Int.reduceNeg, Int.reduceLE, Int.reduceLT, Int.reduceEq, extractV, mkAgg, Nat.reduceLeDiff, fillA, pureVs, pureV, eqV, eqB, lenV.eq_1, lenV.eq_2, lenV.eq_3, lenV.eq_4, binV, intBin, intV, idxA, List.drop, List.take, RetP, retP, resV, resOne, snapV, snapVs, snapR, snapRs, ownSz, pickV, AO.isC, opE, opD, funV.eq_1, funV.eq_2]
theorem check_0 (S : Std3 T) (s : Snap) (hn : s.nodes.length ≤ 2 ^ 28) (hl : s.loads.length ≤ 2 ^ 28) (hpl : s.pods.length ≤ 2 ^ 28) (a0 : Int) (ha0 : 0 ≤ a0) (ha1 : a0 ≤ 2 ^ 29) (Q : Exit → St → Prop) (tot : Option (Int × Int))
    (hend : ∀ fr hp nx last err, 2 ≤ nx → look fr 1 = .ptr 0 0 0 → look fr 3 = .ptr 1 0 0 → blkAt hp 0 = .var [.pv (.slice (s.nodes.map nodeC)), .pv (.slice (s.loads.map loadC)), .pv (.slice (s.pods.map podC))] →
      blkAt hp 1 = .var [.pv (.int .i64 (a0 + (s.nodes.length : Int))), .pv (.int .i64 last), err] → ErrA err hp tot 1 nx → Q (.exit 0) ⟨fr, hp, nx⟩) :
    ∀ (rest : List Node) (i : Nat) (last : Int) (o : Option (Int × Int)) (err : AV), s.nodes.drop i = rest → i ≤ s.nodes.length → o.or (fstB Node.id nodeBad last (a0 + i) rest) = tot → ∀ (fr : List (Nat × AV)) (hp : Hl) (nx : Nat), 2 ≤ nx → look fr 1 = .ptr 0 0 0 → look fr 3 = .ptr 1 0 0 →
      blkAt hp 0 = .var [.pv (.slice (s.nodes.map nodeC)), .pv (.slice (s.loads.map loadC)), .pv (.slice (s.pods.map podC))] → blkAt hp 1 = .var [.pv (.int .i64 (a0 + i)), .pv (.int .i64 last), err] → ErrA err hp o 1 nx →
      look fr 36 = .pv (.slice (s.nodes.map nodeC)) → look fr 37 = .pv (.int .i64 s.nodes.length) → look fr 38 = .pv (.int .i64 i) → Wp T false (.loop f76l0) ⟨fr, hp, nx⟩ Q := by
  intro rest
  induction rest with
  | nil =>
    intro i last o err hd hi ho fr hp nx hnx g1 g3 b0 b1 hE hA hB hI
    have hlen := drop_nil hd hi
    simp only [fstB, Option.or_none] at ho
    subst ho
    rw [Wp_loop, Wp_eq f76l0.eq_1]
    simp only [runL, opQ, evOp, evO, evOs, guardV, argsA, pvs, putS, cellsOf, scals, scal, Nat.reduceEqDiff, Nat.reduceAdd, reduceCtorEq, fieldA, nonNil, cellsAt, mkAgg, allPV, storeB, patchL, Int.reduceToNat, Nat.reduceMul, Nat.reduceLT, stepA, Int.reduceNeg, Int.reduceLE, Int.reduceLT, Int.reduceEq, extractV, mkAgg, Nat.reduceLeDiff, fillA, pureVs, pureV, eqV, eqB, lenV.eq_1, lenV.eq_2, lenV.eq_3, lenV.eq_4, binV, intBin, intV, idxA, List.drop, List.take, RetP, retP, resV, resOne, snapV, snapVs, snapR, snapRs, ownSz, pickV, AO.isC, opE, opD, funV.eq_1, funV.eq_2, hA, hB, hI, hlen, Int.lt_irrefl]
    refine hend _ _ _ last err hnx ?_ ?_ b0 ?_ hE
    all_goals try simp only [look_if, blkAt_if, Nat.reduceEqDiff, if_true, if_false, g1, g3]
    rw [b1, hlen]
  | cons x r ih =>
    intro i last o err hd hi ho fr hp nx hnx g1 g3 b0 b1 hE hA hB hI
    obtain ⟨hget, hlt, hw, hd', hi', hbb⟩ := drop_cons hd (by omega)
    have n0 : ¬ nx = 0 := by omega
    have n1 : ¬ nx = 1 := by omega
    have ho' : (o.or (lookB (a0 + i) x.id last (nodeBad x))).or (fstB Node.id nodeBad x.id (a0 + ((i + 1 : Nat) : Int)) r) = tot := by
      rw [← ho, Option.or_assoc, fstB, show a0 + ((i + 1 : Nat) : Int) = a0 + i + 1 by omega]
    rw [Wp_loop, Wp_eq f76l0.eq_1]
    simp only [runL, opQ, evOp, evO, evOs, guardV, argsA, pvs, putS, cellsOf, scals, scal, Nat.reduceEqDiff, Nat.reduceAdd, reduceCtorEq, fieldA, nonNil, cellsAt, mkAgg, allPV, storeB, patchL, Int.reduceToNat, Nat.reduceMul, Nat.reduceLT, stepA, Int.reduceNeg, Int.reduceLE, Int.reduceLT, Int.reduceEq, extractV, mkAgg, Nat.reduceLeDiff, fillA, pureVs, pureV, eqV, eqB, lenV.eq_1, lenV.eq_2, lenV.eq_3, lenV.eq_4, binV, intBin, intV, idxA, List.drop, List.take, RetP, retP, resV, resOne, snapV, snapVs, snapR, snapRs, ownSz, pickV, AO.isC, opE, opD, funV.eq_1, funV.eq_2, g1, g3, hA, hB, hI, hlt, hget, nodeC, n0, n1, mkFun, allPVs]
    obtain ⟨v, hp', nx', e, err', q1, q2, q3, q4⟩ := look_ok S.h16 S.h86 S.hA 1 (a0 + i) x.id last (nodeBad x) err (.func 77 [] [.ptr nx 0 0]) 77 [.ptr nx 0 0] ((nx, .var (pvs (nodeC x))) :: (nx, .var [.pv (.int .i64 0), .pv (.int .i64 0), .pv (.int .u64 0), .pv (.int .u64 0), .pv (.int .u64 0), .pv (.int .u64 0), .pv (.int .u64 0), .pv (.int .u64 0), .pv (.int .u64 0), .pv (.int .u64 0)]) :: hp) (nx + 1) o rfl (by omega) (by simp only [look_if, blkAt_if, Nat.reduceEqDiff, if_true, if_false, n1, b1]) (lk77 S x _ _ nx (by omega) (by simp only [look_if, blkAt_if, Nat.reduceEqDiff, if_true, if_false])) (hE.mono (fun j hj hne => by simp only [look_if, blkAt_if, Nat.reduceEqDiff, if_true, if_false, show ¬ nx = j by omega]) (by omega)) (by omega) (by omega)
    rw [callQ_raw S.h16.raw e]
    simp only [runL, opQ, evOp, evO, evOs, guardV, argsA, pvs, putS, cellsOf, scals, scal, Nat.reduceEqDiff, Nat.reduceAdd, reduceCtorEq, fieldA, nonNil, cellsAt, mkAgg, allPV, storeB, patchL, Int.reduceToNat, Nat.reduceMul, Nat.reduceLT, stepA, Int.reduceNeg, Int.reduceLE, Int.reduceLT, Int.reduceEq, extractV, mkAgg, Nat.reduceLeDiff, fillA, pureVs, pureV, eqV, eqB, lenV.eq_1, lenV.eq_2, lenV.eq_3, lenV.eq_4, binV, intBin, intV, idxA, List.drop, List.take, RetP, retP, resV, resOne, snapV, snapVs, snapR, snapRs, ownSz, pickV, AO.isC, opE, opD, funV.eq_1, funV.eq_2, hI, hw]
    refine ih (i + 1) x.id _ err' hd' hi' ho' _ _ _ (by omega) ?_ ?_ ?_ ?_ q3 ?_ ?_ ?_
    all_goals try simp only [look_if, blkAt_if, Nat.reduceEqDiff, if_true, if_false, g1, g3, hA, hB]
    · rw [q4 0 (by omega) (by omega)]; simp only [look_if, blkAt_if, Nat.reduceEqDiff, if_true, if_false, n0, b0]
    · rw [q2, show a0 + ((i + 1 : Nat) : Int) = a0 + i + 1 by omega]
theorem check_1 (S : Std3 T) (s : Snap) (hn : s.nodes.length ≤ 2 ^ 28) (hl : s.loads.length ≤ 2 ^ 28) (hpl : s.pods.length ≤ 2 ^ 28) (a0 : Int) (ha0 : 0 ≤ a0) (ha1 : a0 ≤ 2 ^ 29) (Q : Exit → St → Prop) (tot : Option (Int × Int))
    (hend : ∀ fr hp nx last err, 2 ≤ nx → look fr 1 = .ptr 0 0 0 → look fr 3 = .ptr 1 0 0 → blkAt hp 0 = .var [.pv (.slice (s.nodes.map nodeC)), .pv (.slice (s.loads.map loadC)), .pv (.slice (s.pods.map podC))] →
      blkAt hp 1 = .var [.pv (.int .i64 (a0 + (s.loads.length : Int))), .pv (.int .i64 last), err] → ErrA err hp tot 1 nx → Q (.exit 2) ⟨fr, hp, nx⟩) :
    ∀ (rest : List Load) (i : Nat) (last : Int) (o : Option (Int × Int)) (err : AV), s.loads.drop i = rest → i ≤ s.loads.length → o.or (fstB Load.id loadBad last (a0 + i) rest) = tot → ∀ (fr : List (Nat × AV)) (hp : Hl) (nx : Nat), 2 ≤ nx → look fr 1 = .ptr 0 0 0 → look fr 3 = .ptr 1 0 0 →
      blkAt hp 0 = .var [.pv (.slice (s.nodes.map nodeC)), .pv (.slice (s.loads.map loadC)), .pv (.slice (s.pods.map podC))] → blkAt hp 1 = .var [.pv (.int .i64 (a0 + i)), .pv (.int .i64 last), err] → ErrA err hp o 1 nx →
      look fr 52 = .pv (.slice (s.loads.map loadC)) → look fr 53 = .pv (.int .i64 s.loads.length) → look fr 54 = .pv (.int .i64 i) → Wp T false (.loop f76l1) ⟨fr, hp, nx⟩ Q := by
  intro rest
  induction rest with
  | nil =>
    intro i last o err hd hi ho fr hp nx hnx g1 g3 b0 b1 hE hA hB hI
    have hlen := drop_nil hd hi
    simp only [fstB, Option.or_none] at ho
    subst ho
    rw [Wp_loop, Wp_eq f76l1.eq_1]
    simp only [runL, opQ, evOp, evO, evOs, guardV, argsA, pvs, putS, cellsOf, scals, scal, Nat.reduceEqDiff, Nat.reduceAdd, reduceCtorEq, fieldA, nonNil, cellsAt, mkAgg, allPV, storeB, patchL, Int.reduceToNat, Nat.reduceMul, Nat.reduceLT, stepA, Int.reduceNeg, Int.reduceLE, Int.reduceLT, Int.reduceEq, extractV, mkAgg, Nat.reduceLeDiff, fillA, pureVs, pureV, eqV, eqB, lenV.eq_1, lenV.eq_2, lenV.eq_3, lenV.eq_4, binV, intBin, intV, idxA, List.drop, List.take, RetP, retP, resV, resOne, snapV, snapVs, snapR, snapRs, ownSz, pickV, AO.isC, opE, opD, funV.eq_1, funV.eq_2, hA, hB, hI, hlen, Int.lt_irrefl]
    refine hend _ _ _ last err hnx ?_ ?_ b0 ?_ hE
    all_goals try simp only [look_if, blkAt_if, Nat.reduceEqDiff, if_true, if_false, g1, g3]
    rw [b1, hlen]
  | cons x r ih =>
    intro i last o err hd hi ho fr hp nx hnx g1 g3 b0 b1 hE hA hB hI
    obtain ⟨hget, hlt, hw, hd', hi', hbb⟩ := drop_cons hd (by omega)
    have n0 : ¬ nx = 0 := by omega
    have n1 : ¬ nx = 1 := by omega
    have ho' : (o.or (lookB (a0 + i) x.id last (loadBad x))).or (fstB Load.id loadBad x.id (a0 + ((i + 1 : Nat) : Int)) r) = tot := by
      rw [← ho, Option.or_assoc, fstB, show a0 + ((i + 1 : Nat) : Int) = a0 + i + 1 by omega]
    rw [Wp_loop, Wp_eq f76l1.eq_1]
    simp only [runL, opQ, evOp, evO, evOs, guardV, argsA, pvs, putS, cellsOf, scals, scal, Nat.reduceEqDiff, Nat.reduceAdd, reduceCtorEq, fieldA, nonNil, cellsAt, mkAgg, allPV, storeB, patchL, Int.reduceToNat, Nat.reduceMul, Nat.reduceLT, stepA, Int.reduceNeg, Int.reduceLE, Int.reduceLT, Int.reduceEq, extractV, mkAgg, Nat.reduceLeDiff, fillA, pureVs, pureV, eqV, eqB, lenV.eq_1, lenV.eq_2, lenV.eq_3, lenV.eq_4, binV, intBin, intV, idxA, List.drop, List.take, RetP, retP, resV, resOne, snapV, snapVs, snapR, snapRs, ownSz, pickV, AO.isC, opE, opD, funV.eq_1, funV.eq_2, g1, g3, hA, hB, hI, hlt, hget, loadC, n0, n1, mkFun, allPVs]
    obtain ⟨v, hp', nx', e, err', q1, q2, q3, q4⟩ := look_ok S.h16 S.h86 S.hA 1 (a0 + i) x.id last (loadBad x) err (.func 78 [] [.ptr nx 0 0]) 78 [.ptr nx 0 0] ((nx, .var (pvs (loadC x))) :: (nx, .var [.pv (.int .i64 0), .pv (.bool false), .pv (.int .i64 0), .pv (.int .i64 0), .pv (.int .i64 0)]) :: hp) (nx + 1) o rfl (by omega) (by simp only [look_if, blkAt_if, Nat.reduceEqDiff, if_true, if_false, n1, b1]) (lk78 S x _ _ nx (by omega) (by simp only [look_if, blkAt_if, Nat.reduceEqDiff, if_true, if_false])) (hE.mono (fun j hj hne => by simp only [look_if, blkAt_if, Nat.reduceEqDiff, if_true, if_false, show ¬ nx = j by omega]) (by omega)) (by omega) (by omega)
    rw [callQ_raw S.h16.raw e]
    simp only [runL, opQ, evOp, evO, evOs, guardV, argsA, pvs, putS, cellsOf, scals, scal, Nat.reduceEqDiff, Nat.reduceAdd, reduceCtorEq, fieldA, nonNil, cellsAt, mkAgg, allPV, storeB, patchL, Int.reduceToNat, Nat.reduceMul, Nat.reduceLT, stepA, Int.reduceNeg, Int.reduceLE, Int.reduceLT, Int.reduceEq, extractV, mkAgg, Nat.reduceLeDiff, fillA, pureVs, pureV, eqV, eqB, lenV.eq_1, lenV.eq_2, lenV.eq_3, lenV.eq_4, binV, intBin, intV, idxA, List.drop, List.take, RetP, retP, resV, resOne, snapV, snapVs, snapR, snapRs, ownSz, pickV, AO.isC, opE, opD, funV.eq_1, funV.eq_2, hI, hw]
    refine ih (i + 1) x.id _ err' hd' hi' ho' _ _ _ (by omega) ?_ ?_ ?_ ?_ q3 ?_ ?_ ?_
    all_goals try simp only [look_if, blkAt_if, Nat.reduceEqDiff, if_true, if_false, g1, g3, hA, hB]
    · rw [q4 0 (by omega) (by omega)]; simp only [look_if, blkAt_if, Nat.reduceEqDiff, if_true, if_false, n0, b0]
    · rw [q2, show a0 + ((i + 1 : Nat) : Int) = a0 + i + 1 by omega]
theorem check_2 (S : Std3 T) (s : Snap) (hn : s.nodes.length ≤ 2 ^ 28) (hl : s.loads.length ≤ 2 ^ 28) (hpl : s.pods.length ≤ 2 ^ 28) (a0 : Int) (ha0 : 0 ≤ a0) (ha1 : a0 ≤ 2 ^ 29) (Q : Exit → St → Prop) (tot : Option (Int × Int))
    (hend : ∀ fr hp nx last err, 2 ≤ nx → look fr 1 = .ptr 0 0 0 → look fr 3 = .ptr 1 0 0 → blkAt hp 0 = .var [.pv (.slice (s.nodes.map nodeC)), .pv (.slice (s.loads.map loadC)), .pv (.slice (s.pods.map podC))] →
      blkAt hp 1 = .var [.pv (.int .i64 (a0 + (s.pods.length : Int))), .pv (.int .i64 last), err] → ErrA err hp tot 1 nx → Q (.exit 4) ⟨fr, hp, nx⟩) :
    ∀ (rest : List Pod) (i : Nat) (last : Int) (o : Option (Int × Int)) (err : AV), s.pods.drop i = rest → i ≤ s.pods.length → o.or (fstB Pod.id (podBad s) last (a0 + i) rest) = tot → ∀ (fr : List (Nat × AV)) (hp : Hl) (nx : Nat), 2 ≤ nx → look fr 1 = .ptr 0 0 0 → look fr 3 = .ptr 1 0 0 →
      blkAt hp 0 = .var [.pv (.slice (s.nodes.map nodeC)), .pv (.slice (s.loads.map loadC)), .pv (.slice (s.pods.map podC))] → blkAt hp 1 = .var [.pv (.int .i64 (a0 + i)), .pv (.int .i64 last), err] → ErrA err hp o 1 nx →
      look fr 68 = .pv (.slice (s.pods.map podC)) → look fr 69 = .pv (.int .i64 s.pods.length) → look fr 70 = .pv (.int .i64 i) → Wp T false (.loop f76l2) ⟨fr, hp, nx⟩ Q := by
  intro rest
  induction rest with
  | nil =>
    intro i last o err hd hi ho fr hp nx hnx g1 g3 b0 b1 hE hA hB hI
    have hlen := drop_nil hd hi
    simp only [fstB, Option.or_none] at ho
    subst ho
    rw [Wp_loop, Wp_eq f76l2.eq_1]
    simp only [runL, opQ, evOp, evO, evOs, guardV, argsA, pvs, putS, cellsOf, scals, scal, Nat.reduceEqDiff, Nat.reduceAdd, reduceCtorEq, fieldA, nonNil, cellsAt, mkAgg, allPV, storeB, patchL, Int.reduceToNat, Nat.reduceMul, Nat.reduceLT, stepA, Int.reduceNeg, Int.reduceLE, Int.reduceLT, Int.reduceEq, extractV, mkAgg, Nat.reduceLeDiff, fillA, pureVs, pureV, eqV, eqB, lenV.eq_1, lenV.eq_2, lenV.eq_3, lenV.eq_4, binV, intBin, intV, idxA, List.drop, List.take, RetP, retP, resV, resOne, snapV, snapVs, snapR, snapRs, ownSz, pickV, AO.isC, opE, opD, funV.eq_1, funV.eq_2, hA, hB, hI, hlen, Int.lt_irrefl]
    refine hend _ _ _ last err hnx ?_ ?_ b0 ?_ hE
    all_goals try simp only [look_if, blkAt_if, Nat.reduceEqDiff, if_true, if_false, g1, g3]
    rw [b1, hlen]
  | cons x r ih =>
    intro i last o err hd hi ho fr hp nx hnx g1 g3 b0 b1 hE hA hB hI
    obtain ⟨hget, hlt, hw, hd', hi', hbb⟩ := drop_cons hd (by omega)
    have n0 : ¬ nx = 0 := by omega
    have n1 : ¬ nx = 1 := by omega
    have ho' : (o.or (lookB (a0 + i) x.id last ((podBad s) x))).or (fstB Pod.id (podBad s) x.id (a0 + ((i + 1 : Nat) : Int)) r) = tot := by
      rw [← ho, Option.or_assoc, fstB, show a0 + ((i + 1 : Nat) : Int) = a0 + i + 1 by omega]
    rw [Wp_loop, Wp_eq f76l2.eq_1]
    simp only [runL, opQ, evOp, evO, evOs, guardV, argsA, pvs, putS, cellsOf, scals, scal, Nat.reduceEqDiff, Nat.reduceAdd, reduceCtorEq, fieldA, nonNil, cellsAt, mkAgg, allPV, storeB, patchL, Int.reduceToNat, Nat.reduceMul, Nat.reduceLT, stepA, Int.reduceNeg, Int.reduceLE, Int.reduceLT, Int.reduceEq, extractV, mkAgg, Nat.reduceLeDiff, fillA, pureVs, pureV, eqV, eqB, lenV.eq_1, lenV.eq_2, lenV.eq_3, lenV.eq_4, binV, intBin, intV, idxA, List.drop, List.take, RetP, retP, resV, resOne, snapV, snapVs, snapR, snapRs, ownSz, pickV, AO.isC, opE, opD, funV.eq_1, funV.eq_2, g1, g3, hA, hB, hI, hlt, hget, podC, n0, n1, mkFun, allPVs]
    obtain ⟨v, hp', nx', e, err', q1, q2, q3, q4⟩ := look_ok S.h16 S.h86 S.hA 1 (a0 + i) x.id last ((podBad s) x) err (.func 79 [] [.ptr 0 0 0, .ptr nx 0 0]) 79 [.ptr 0 0 0, .ptr nx 0 0] ((nx, .var (pvs (podC x))) :: (nx, .var [.pv (.int .i64 0), .pv (.int .i64 0), .pv (.int .i64 0), .pv (.int .u64 0), .pv (.int .u64 0), .pv (.int .u64 0), .pv (.int .u64 0), .pv (.int .i64 0)]) :: hp) (nx + 1) o rfl (by omega) (by simp only [look_if, blkAt_if, Nat.reduceEqDiff, if_true, if_false, n1, b1]) (lk79 S s (by omega) (by omega) x _ _ nx (by omega) (by omega) (by simp only [look_if, blkAt_if, Nat.reduceEqDiff, if_true, if_false, n0, b0]) (by simp only [look_if, blkAt_if, Nat.reduceEqDiff, if_true, if_false])) (hE.mono (fun j hj hne => by simp only [look_if, blkAt_if, Nat.reduceEqDiff, if_true, if_false, show ¬ nx = j by omega]) (by omega)) (by omega) (by omega)
    rw [callQ_raw S.h16.raw e]
    simp only [runL, opQ, evOp, evO, evOs, guardV, argsA, pvs, putS, cellsOf, scals, scal, Nat.reduceEqDiff, Nat.reduceAdd, reduceCtorEq, fieldA, nonNil, cellsAt, mkAgg, allPV, storeB, patchL, Int.reduceToNat, Nat.reduceMul, Nat.reduceLT, stepA, Int.reduceNeg, Int.reduceLE, Int.reduceLT, Int.reduceEq, extractV, mkAgg, Nat.reduceLeDiff, fillA, pureVs, pureV, eqV, eqB, lenV.eq_1, lenV.eq_2, lenV.eq_3, lenV.eq_4, binV, intBin, intV, idxA, List.drop, List.take, RetP, retP, resV, resOne, snapV, snapVs, snapR, snapRs, ownSz, pickV, AO.isC, opE, opD, funV.eq_1, funV.eq_2, hI, hw]
    refine ih (i + 1) x.id _ err' hd' hi' ho' _ _ _ (by omega) ?_ ?_ ?_ ?_ q3 ?_ ?_ ?_
    all_goals try simp only [look_if, blkAt_if, Nat.reduceEqDiff, if_true, if_false, g1, g3, hA, hB]
    · rw [q4 0 (by omega) (by omega)]; simp only [look_if, blkAt_if, Nat.reduceEqDiff, if_true, if_false, n0, b0]
    · rw [q2, show a0 + ((i + 1 : Nat) : Int) = a0 + i + 1 by omega]
end
end Go.Proofs.YtdjpeonignkheaaDoor.Ab
set_option linter.unusedVariables false
set_option linter.unusedSimpArgs false
namespace Go.Proofs.YtdjpeonignkheaaDoor.Ab
open Go
theorem lookB_some {a n last c k b : Int} (h : lookB a n last c = some (k, b)) (hc : c = 0 ∨ 1 ≤ c ∧ c ≤ 17) : b = a ∧ 1 ≤ k ∧ k ≤ 17 := by
  unfold lookB at h
  split at h
  · rename_i h0
    simp only [Option.some.injEq, Prod.mk.injEq] at h
    obtain ⟨rfl, rfl⟩ := h
    refine ⟨rfl, ?_⟩
    have hi : idP n last = 0 ∨ 1 ≤ idP n last ∧ idP n last ≤ 5 := by
      unfold idP
      split
      · omega
      · split <;> omega
    unfold lookC at h0 ⊢
    split
    · omega
    · rename_i h1
      rw [if_neg h1] at h0
      omega
  · simp at h
theorem fstB_range {α : Type} {idOf own : α → Int} (hc : ∀ x, own x = 0 ∨ 1 ≤ own x ∧ own x ≤ 17) : ∀ (l : List α) (last a : Int) c b, fstB idOf own last a l = some (c, b) → a ≤ b ∧ 1 ≤ c ∧ c ≤ 17
  | [], last, a, c, b, h => by simp [fstB] at h
  | x :: r, last, a, c, b, h => by
    simp only [fstB] at h
    cases hl : lookB a (idOf x) last (own x) with
    | some q =>
      obtain ⟨k, b'⟩ := q
      rw [hl] at h
      simp only [Option.some_or, Option.some.injEq, Prod.mk.injEq] at h
      obtain ⟨rfl, rfl⟩ := h
      obtain ⟨rfl, h1⟩ := lookB_some hl (hc x)
      exact ⟨Int.le_refl _, h1⟩
    | none =>
      rw [hl, Option.none_or] at h
      obtain ⟨h1, h2⟩ := fstB_range hc r _ _ c b h
      exact ⟨by omega, h2⟩
theorem nodeBad_c (n : Node) : nodeBad n = 0 ∨ 1 ≤ nodeBad n ∧ nodeBad n ≤ 17 := by unfold nodeBad; split <;> omega
theorem loadBad_c (n : Load) : loadBad n = 0 ∨ 1 ≤ loadBad n ∧ loadBad n ≤ 17 := by unfold loadBad; split <;> omega
theorem podBad_c (s : Snap) (p : Pod) : podBad s p = 0 ∨ 1 ≤ podBad s p ∧ podBad s p ≤ 17 := by
  unfold podBad
  split
  · omega
  · split <;> omega
def ErrOK (o : Option (Int × Int)) : Prop := ∀ c a, o = some (c, a) → 1 ≤ c ∧ c ≤ 17 ∧ -1 ≤ a
theorem checkB_ok (s : Snap) : ErrOK (checkB s) := by
  intro c a h
  unfold checkB at h
  split at h
  · cases h1 : fstB Node.id nodeBad 0 0 s.nodes with
    | some q =>
      rw [h1] at h
      simp only [Option.some_or, Option.some.injEq] at h
      subst h
      have := fstB_range nodeBad_c _ _ _ _ _ h1
      omega
    | none =>
      rw [h1, Option.none_or] at h
      cases h2 : fstB Load.id loadBad 0 s.nodes.length s.loads with
      | some q =>
        rw [h2] at h
        simp only [Option.some_or, Option.some.injEq] at h
        subst h
        have := fstB_range loadBad_c _ _ _ _ _ h2
        omega
      | none =>
        rw [h2, Option.none_or] at h
        have := fstB_range (podBad_c s) _ _ _ _ _ h
        omega
  · simp only [Option.some.injEq, Prod.mk.injEq] at h
    omega
theorem errA_snap {err : AV} {hp : Hl} {o : Option (Int × Int)} {kid nx : Nat} (h : ErrA err hp o kid nx) (hpos : ∀ c a, o = some (c, a) → 0 ≤ a) : snapV (blkAt hp) err = some (errG o) := by
  cases o with
  | none =>
    have h' : err = .pv .nili := h
    subst h'
    rfl
  | some q =>
    obtain ⟨c, a⟩ := q
    obtain ⟨b, rfl, h1, h2, h3⟩ := h
    have := hpos c a rfl
    have hn : ¬ a < 0 := by omega
    simp only [snapV, h3, snapRs, snapR, errG, hn, if_false, spotE]
section
variable {T : Tab}
set_option maxRecDepth 100000 in
set_option maxHeartbeats 4000000 in
theorem check3_ok (S : Std3 T) (s : Snap) : Gives T 76 [snapP s] (errG (checkB s)) := by
  refine gives S.h76 rfl ?_
  by_cases hz : sizesOK s = true
  · have hz' := hz
    simp only [sizesOK, Bool.and_eq_true, decide_eq_true_eq] at hz'
    obtain ⟨z1, z2, z3, z4⟩ := hz'
    have y1 : ¬ (s.nodes.length : Int) < 1 := by omega
    have y2 : ¬ (8 : Int) < (s.nodes.length : Int) := by omega
    have y3 : ¬ (8 : Int) < (s.loads.length : Int) := by omega
    have y4 : ¬ (12 : Int) < (s.pods.length : Int) := by omega
    have hpos : ∀ c a, checkB s = some (c, a) → 0 ≤ a := by
      intro c a h
      unfold checkB at h
      rw [if_pos hz] at h
      cases h1 : fstB Node.id nodeBad 0 0 s.nodes with
      | some q =>
        rw [h1] at h
        simp only [Option.some_or, Option.some.injEq] at h
        subst h
        have := fstB_range nodeBad_c _ _ _ _ _ h1
        omega
      | none =>
        rw [h1, Option.none_or] at h
        cases h2 : fstB Load.id loadBad 0 s.nodes.length s.loads with
        | some q =>
          rw [h2] at h
          simp only [Option.some_or, Option.some.injEq] at h
          subst h
          have := fstB_range loadBad_c _ _ _ _ _ h2
          omega
        | none =>
          rw [h2, Option.none_or] at h
          have := fstB_range (podBad_c s) _ _ _ _ _ h
          omega
    simp only [f76, runL, opQ, evOp, evO, evOs, guardV, argsA, pvs, putS, cellsOf, scals, scal, Nat.reduceEqDiff, Nat.reduceAdd, reduceCtorEq, fieldA, nonNil, cellsAt, mkAgg, allPV, storeB, patchL, Int.reduceToNat, Nat.reduceMul, Nat.reduceLT, stepA, Int.reduceNeg, Int.reduceLE, Int.reduceLT, Int.reduceEq, extractV, mkAgg, Nat.reduceLeDiff, fillA, pureVs, pureV, eqV, eqB, lenV.eq_1, lenV.eq_2, lenV.eq_3, lenV.eq_4, binV, intBin, intV, idxA, List.drop, List.take, RetP, retP, resV, resOne, snapV, snapVs, snapR, snapRs, ownSz, pickV, AO.isC, opE, opD, funV.eq_1, funV.eq_2, snapP, y1, y2, y3, y4]
    refine check_0 S s (by omega) (by omega) (by omega) 0 (Int.le_refl _) (by omega) _ (fstB Node.id nodeBad 0 0 s.nodes) (fun fr hp nx last err hnx g1 g3 b0 b1 hE => ?_) s.nodes 0 0 none (.pv .nili) rfl (Nat.zero_le _) rfl _ _ _ (Nat.le_refl _) rfl rfl rfl rfl rfl rfl rfl rfl
    simp only [runL, opQ, evOp, evO, evOs, guardV, argsA, pvs, putS, cellsOf, scals, scal, Nat.reduceEqDiff, Nat.reduceAdd, reduceCtorEq, fieldA, nonNil, cellsAt, mkAgg, allPV, storeB, patchL, Int.reduceToNat, Nat.reduceMul, Nat.reduceLT, stepA, Int.reduceNeg, Int.reduceLE, Int.reduceLT, Int.reduceEq, extractV, mkAgg, Nat.reduceLeDiff, fillA, pureVs, pureV, eqV, eqB, lenV.eq_1, lenV.eq_2, lenV.eq_3, lenV.eq_4, binV, intBin, intV, idxA, List.drop, List.take, RetP, retP, resV, resOne, snapV, snapVs, snapR, snapRs, ownSz, pickV, AO.isC, opE, opD, funV.eq_1, funV.eq_2, g1, g3, b0, b1]
    refine check_1 S s (by omega) (by omega) (by omega) s.nodes.length (by omega) (by omega) _ ((fstB Node.id nodeBad 0 0 s.nodes).or (fstB Load.id loadBad 0 s.nodes.length s.loads)) (fun fr hp nx last err hnx g1 g3 b0 b1 hE => ?_) s.loads 0 0 (fstB Node.id nodeBad 0 0 s.nodes) err rfl (Nat.zero_le _) (by rw [show ((s.nodes.length : Int) + ((0 : Nat) : Int)) = s.nodes.length by omega]) _ _ _ hnx ?_ ?_ ?_ ?_ ?_ ?_ ?_ ?_
    · simp only [runL, opQ, evOp, evO, evOs, guardV, argsA, pvs, putS, cellsOf, scals, scal, Nat.reduceEqDiff, Nat.reduceAdd, reduceCtorEq, fieldA, nonNil, cellsAt, mkAgg, allPV, storeB, patchL, Int.reduceToNat, Nat.reduceMul, Nat.reduceLT, stepA, Int.reduceNeg, Int.reduceLE, Int.reduceLT, Int.reduceEq, extractV, mkAgg, Nat.reduceLeDiff, fillA, pureVs, pureV, eqV, eqB, lenV.eq_1, lenV.eq_2, lenV.eq_3, lenV.eq_4, binV, intBin, intV, idxA, List.drop, List.take, RetP, retP, resV, resOne, snapV, snapVs, snapR, snapRs, ownSz, pickV, AO.isC, opE, opD, funV.eq_1, funV.eq_2, g1, g3, b0, b1]
      refine check_2 S s (by omega) (by omega) (by omega) (s.nodes.length + s.loads.length) (by omega) (by omega) _ (checkB s) (fun fr hp nx last err hnx g1 g3 b0 b1 hE => ?_) s.pods 0 0 ((fstB Node.id nodeBad 0 0 s.nodes).or (fstB Load.id loadBad 0 s.nodes.length s.loads)) err rfl (Nat.zero_le _) ?_ _ _ _ hnx ?_ ?_ ?_ ?_ ?_ ?_ ?_ ?_
      · have hs := errA_snap hE hpos
        simp only [runL, opQ, evOp, evO, evOs, guardV, argsA, pvs, putS, cellsOf, scals, scal, Nat.reduceEqDiff, Nat.reduceAdd, reduceCtorEq, fieldA, nonNil, cellsAt, mkAgg, allPV, storeB, patchL, Int.reduceToNat, Nat.reduceMul, Nat.reduceLT, stepA, Int.reduceNeg, Int.reduceLE, Int.reduceLT, Int.reduceEq, extractV, mkAgg, Nat.reduceLeDiff, fillA, pureVs, pureV, eqV, eqB, lenV.eq_1, lenV.eq_2, lenV.eq_3, lenV.eq_4, binV, intBin, intV, idxA, List.drop, List.take, RetP, retP, resV, resOne, snapV, snapVs, snapR, snapRs, ownSz, pickV, AO.isC, opE, opD, funV.eq_1, funV.eq_2, g1, g3, b0, b1, hs]
      · rw [checkB, if_pos hz, show ((s.nodes.length : Int) + s.loads.length + ((0 : Nat) : Int)) = (s.nodes.length : Int) + s.loads.length by omega]
      all_goals try simp only [look_if, blkAt_if, Nat.reduceEqDiff, if_true, if_false, g1, g3, b0]
      · rw [show ((s.nodes.length : Int) + s.loads.length + ((0 : Nat) : Int)) = (s.nodes.length : Int) + s.loads.length by omega]
      · exact hE.mono (fun j hj hne => by simp only [look_if, blkAt_if, Nat.reduceEqDiff, if_true, if_false, show ¬ 1 = j from fun h => hne h.symm]) (Nat.le_refl _)
      · rfl
    all_goals try simp only [look_if, blkAt_if, Nat.reduceEqDiff, if_true, if_false, g1, g3, b0]
    · rw [show ((s.nodes.length : Int) + ((0 : Nat) : Int)) = 0 + (s.nodes.length : Int) by omega]
    · exact hE.mono (fun j hj hne => by simp only [look_if, blkAt_if, Nat.reduceEqDiff, if_true, if_false, show ¬ 1 = j from fun h => hne h.symm]) (Nat.le_refl _)
    · rfl
  · have hc : errG (checkB s) = .iface 0 (.int .i64 3) := by rw [checkB, if_neg hz]; rfl
    rw [hc]
    have hz' := hz
    simp only [sizesOK, Bool.and_eq_true, decide_eq_true_eq, not_and] at hz'
    by_cases c1 : (s.nodes.length : Int) < 1
    · simp only [f76, runL, opQ, evOp, evO, evOs, guardV, argsA, pvs, putS, cellsOf, scals, scal, Nat.reduceEqDiff, Nat.reduceAdd, reduceCtorEq, fieldA, nonNil, cellsAt, mkAgg, allPV, storeB, patchL, Int.reduceToNat, Nat.reduceMul, Nat.reduceLT, stepA, Int.reduceNeg, Int.reduceLE, Int.reduceLT, Int.reduceEq, extractV, mkAgg, Nat.reduceLeDiff, fillA, pureVs, pureV, eqV, eqB, lenV.eq_1, lenV.eq_2, lenV.eq_3, lenV.eq_4, binV, intBin, intV, idxA, List.drop, List.take, RetP, retP, resV, resOne, snapV, snapVs, snapR, snapRs, ownSz, pickV, AO.isC, opE, opD, funV.eq_1, funV.eq_2, snapP, c1]
    · by_cases c2 : (8 : Int) < (s.nodes.length : Int)
      · simp only [f76, runL, opQ, evOp, evO, evOs, guardV, argsA, pvs, putS, cellsOf, scals, scal, Nat.reduceEqDiff, Nat.reduceAdd, reduceCtorEq, fieldA, nonNil, cellsAt, mkAgg, allPV, storeB, patchL, Int.reduceToNat, Nat.reduceMul, Nat.reduceLT, stepA, Int.reduceNeg, Int.reduceLE, Int.reduceLT, Int.reduceEq, extractV, mkAgg, Nat.reduceLeDiff, fillA, pureVs, pureV, eqV, eqB, lenV.eq_1, lenV.eq_2, lenV.eq_3, lenV.eq_4, binV, intBin, intV, idxA, List.drop, List.take, RetP, retP, resV, resOne, snapV, snapVs, snapR, snapRs, ownSz, pickV, AO.isC, opE, opD, funV.eq_1, funV.eq_2, snapP, c1, c2]
      · by_cases c3 : (8 : Int) < (s.loads.length : Int)
        · simp only [f76, runL, opQ, evOp, evO, evOs, guardV, argsA, pvs, putS, cellsOf, scals, scal, Nat.reduceEqDiff, Nat.reduceAdd, reduceCtorEq, fieldA, nonNil, cellsAt, mkAgg, allPV, storeB, patchL, Int.reduceToNat, Nat.reduceMul, Nat.reduceLT, stepA, Int.reduceNeg, Int.reduceLE, Int.reduceLT, Int.reduceEq, extractV, mkAgg, Nat.reduceLeDiff, fillA, pureVs, pureV, eqV, eqB, lenV.eq_1, lenV.eq_2, lenV.eq_3, lenV.eq_4, binV, intBin, intV, idxA, List.drop, List.take, RetP, retP, resV, resOne, snapV, snapVs, snapR, snapRs, ownSz, pickV, AO.isC, opE, opD, funV.eq_1, funV.eq_2, snapP, c1, c2, c3]
        · have c4 : (12 : Int) < (s.pods.length : Int) := by have := hz' (by omega) (by omega) (by omega); omega
          simp only [f76, runL, opQ, evOp, evO, evOs, guardV, argsA, pvs, putS, cellsOf, scals, scal, Nat.reduceEqDiff, Nat.reduceAdd, reduceCtorEq, fieldA, nonNil, cellsAt, mkAgg, allPV, storeB, patchL, Int.reduceToNat, Nat.reduceMul, Nat.reduceLT, stepA, Int.reduceNeg, Int.reduceLE, Int.reduceLT, Int.reduceEq, extractV, mkAgg, Nat.reduceLeDiff, fillA, pureVs, pureV, eqV, eqB, lenV.eq_1, lenV.eq_2, lenV.eq_3, lenV.eq_4, binV, intBin, intV, idxA, List.drop, List.take, RetP, retP, resV, resOne, snapV, snapVs, snapR, snapRs, ownSz, pickV, AO.isC, opE, opD, funV.eq_1, funV.eq_2, snapP, c1, c2, c3, c4]
/-! ### Wants -/
def wantRest (pods : List Pod) (w : Want) : Int := if podOf w.pod pods = none then 4 else if w.stay = false ∧ w.req ≠ vec0 then 1 else 0
def wantBad (pods : List Pod) (prev : Option Want) (w : Want) : Int := match prev with
  | some v => if w.pod = v.pod then 5 else if w.pod < v.pod then 1 else wantRest pods w
  | none => wantRest pods w
def wantsFrom (pods : List Pod) : Option Want → Int → List Want → Option (Int × Int)
  | _, _, [] => none
  | prev, i, w :: r => if wantBad pods prev w ≠ 0 then some (wantBad pods prev w, i) else wantsFrom pods (some w) (i + 1) r
def fairB (s : Snap) (x : Spec) : Option (Int × Int) := match checkB s with
  | some e => some e
  | none => if 0 ≤ x.pre ∧ x.pre ≤ 40 ∧ 0 ≤ x.shi ∧ x.shi ≤ 40 then wantsFrom s.pods none 0 x.wants else some (3, -1)
structure StdC (T : Tab) : Prop where
  h282 : Std T 282 f282
  flat282 : T.flat 282 = true
  h287 : Std T 287 f287
  h91 : Std T 91 f91
theorem want1_ok (h91 : Std T 91 f91) (p : Pod) (w : Want) : Gives T 91 [.agg (podC p), .cptr (wantC w) 0] (.bool (decide (p.id = w.pod))) := by
  refine gives h91 rfl ?_
  simp only [f91, runL, opQ, evOp, evO, evOs, guardV, argsA, pvs, putS, cellsOf, scals, scal, Nat.reduceEqDiff, Nat.reduceAdd, reduceCtorEq, fieldA, nonNil, cellsAt, mkAgg, allPV, storeB, patchL, Int.reduceToNat, Nat.reduceMul, Nat.reduceLT, stepA, Int.reduceNeg, Int.reduceLE, Int.reduceLT, Int.reduceEq, extractV, mkAgg, Nat.reduceLeDiff, fillA, pureVs, pureV, eqV, eqB, lenV.eq_1, lenV.eq_2, lenV.eq_3, lenV.eq_4, binV, intBin, intV, idxA, List.drop, List.take, RetP, retP, resV, resOne, snapV, snapVs, snapR, snapRs, ownSz, pickV, AO.isC, opE, opD, funV.eq_1, funV.eq_2, podC, wantC]
theorem contains3_ok (S : StdC T) (pods : List Pod) (w : Want) (h : pods.length ≤ 2 ^ 30) : Gives T 282 [.slice (pods.map podC), .func 91 [] [.cptr (wantC w) 0]] (.bool (decide (podOf w.pod pods ≠ none))) := by
  refine gives S.h282 rfl ?_
  have k : Gives T 287 [.slice (pods.map podC), .func 91 [] [.cptr (wantC w) 0]] (.int .i64 (placeFrom w.pod 0 pods)) := by
    rw [← findFrom_place]
    exact index_ok _ S.h287 (pods.map podC) (by simpa using h) (fun e he => by
      obtain ⟨p, _, rfl⟩ := List.mem_map.1 he
      rfl) (fun e he => by
      obtain ⟨p, _, rfl⟩ := List.mem_map.1 he
      exact want1_ok S.h91 p w)
  rcases placeFrom_cases w.pod pods 0 with ⟨h1, h2⟩ | ⟨j, p, h1, h2, h3, h4⟩
  · rw [h2] at k
    simp only [f282, runL, opQ, evOp, evO, evOs, guardV, argsA, pvs, putS, cellsOf, scals, scal, Nat.reduceEqDiff, Nat.reduceAdd, reduceCtorEq, fieldA, nonNil, cellsAt, mkAgg, allPV, storeB, patchL, Int.reduceToNat, Nat.reduceMul, Nat.reduceLT, stepA, Int.reduceNeg, Int.reduceLE, Int.reduceLT, Int.reduceEq, extractV, mkAgg, Nat.reduceLeDiff, fillA, pureVs, pureV, eqV, eqB, lenV.eq_1, lenV.eq_2, lenV.eq_3, lenV.eq_4, binV, intBin, intV, idxA, List.drop, List.take, RetP, retP, resV, resOne, snapV, snapVs, snapR, snapRs, ownSz, pickV, AO.isC, opE, opD, funV.eq_1, funV.eq_2, k.call, h1]
  · rw [h3] at k
    have hj : (0 : Int) ≤ ((0 + j : Nat) : Int) := by omega
    have hj' : (0 : Int) ≤ (j : Int) := by omega
    simp only [f282, runL, opQ, evOp, evO, evOs, guardV, argsA, pvs, putS, cellsOf, scals, scal, Nat.reduceEqDiff, Nat.reduceAdd, reduceCtorEq, fieldA, nonNil, cellsAt, mkAgg, allPV, storeB, patchL, Int.reduceToNat, Nat.reduceMul, Nat.reduceLT, stepA, Int.reduceNeg, Int.reduceLE, Int.reduceLT, Int.reduceEq, extractV, mkAgg, Nat.reduceLeDiff, fillA, pureVs, pureV, eqV, eqB, lenV.eq_1, lenV.eq_2, lenV.eq_3, lenV.eq_4, binV, intBin, intV, idxA, List.drop, List.take, RetP, retP, resV, resOne, snapV, snapVs, snapR, snapRs, ownSz, pickV, AO.isC, opE, opD, funV.eq_1, funV.eq_2, k.call, h2, hj, hj', reduceCtorEq]
set_option maxRecDepth 100000 in
set_option maxHeartbeats 4000000 in
theorem want3_ok (h90 : Std T 90 f90) (S : StdC T) (s : Snap) (hp : s.pods.length ≤ 2 ^ 30) (l : List Want) (i : Nat) (w : Want) (prev : Option Want) (hi : i < 2 ^ 30) (hg : l[i]? = some w) (hprev : (i = 0 ∧ prev = none) ∨ ∃ j v, i = j + 1 ∧ prev = some v ∧ l[j]? = some v) :
    Gives T 90 [snapP s, .slice (l.map wantC), .int .i64 (i : Int)] (errC (wantBad s.pods prev w)) := by
  refine gives h90 rfl ?_
  have k := contains3_ok S s.pods w hp
  have kf := k.callF S.flat282 rfl
  simp only [wantC] at kf
  have rest : ∀ (Q : Int → Prop), (podOf w.pod s.pods = none → Q 4) → (podOf w.pod s.pods ≠ none → w.stay = false → w.req ≠ vec0 → Q 1) → (podOf w.pod s.pods ≠ none → w.stay = false → w.req = vec0 → Q 0) → (podOf w.pod s.pods ≠ none → w.stay = true → Q 0) → Q (wantRest s.pods w) := by
    intro Q q4 q1 q0 q0'
    unfold wantRest
    by_cases h1 : podOf w.pod s.pods = none
    · rw [if_pos h1]; exact q4 h1
    · rw [if_neg h1]
      cases h2 : w.stay
      · by_cases h3 : w.req = vec0
        · rw [if_neg (by simp [h3])]; exact q0 h1 h2 h3
        · rw [if_pos ⟨rfl, h3⟩]; exact q1 h1 h2 h3
      · rw [if_neg (by simp)]; exact q0' h1 h2
  rcases hprev with ⟨rfl, rfl⟩ | ⟨j, v, rfl, rfl, hv⟩
  · have z0 : ((0 : Nat) : Int) = 0 := rfl
    simp only [wantBad]
    refine rest (fun c => Wp T false f90.body ⟨argsA 0 (pvs [snapP s, .slice (l.map wantC), .int .i64 ((0 : Nat) : Int)]), [], 0⟩ (RetP f90.res (errC c))) (fun h1 => ?_) (fun h1 h2 h3 => ?_) (fun h1 h2 h3 => ?_) (fun h1 h2 => ?_)
    all_goals
      simp only [f90, runL, opQ, evOp, evO, evOs, guardV, argsA, pvs, putS, cellsOf, scals, scal, Nat.reduceEqDiff, Nat.reduceAdd, reduceCtorEq, fieldA, nonNil, cellsAt, mkAgg, allPV, storeB, patchL, Int.reduceToNat, Nat.reduceMul, Nat.reduceLT, stepA, Int.reduceNeg, Int.reduceLE, Int.reduceLT, Int.reduceEq, extractV, mkAgg, Nat.reduceLeDiff, fillA, pureVs, pureV, eqV, eqB, lenV.eq_1, lenV.eq_2, lenV.eq_3, lenV.eq_4, binV, intBin, intV, idxA, List.drop, List.take, RetP, retP, resV, resOne, snapV, snapVs, snapR, snapRs, ownSz, pickV, AO.isC, opE, opD, funV.eq_1, funV.eq_2, snapP, hg, wantC, z0]
      refine (Wp_calmS rfl).2 ?_
      simp only [runL, opQ, evOp, evO, evOs, guardV, argsA, pvs, putS, cellsOf, scals, scal, Nat.reduceEqDiff, Nat.reduceAdd, reduceCtorEq, fieldA, nonNil, cellsAt, mkAgg, allPV, storeB, patchL, Int.reduceToNat, Nat.reduceMul, Nat.reduceLT, stepA, Int.reduceNeg, Int.reduceLE, Int.reduceLT, Int.reduceEq, extractV, mkAgg, Nat.reduceLeDiff, fillA, pureVs, pureV, eqV, eqB, lenV.eq_1, lenV.eq_2, lenV.eq_3, lenV.eq_4, binV, intBin, intV, idxA, List.drop, List.take, RetP, retP, resV, resOne, snapV, snapVs, snapR, snapRs, ownSz, pickV, AO.isC, opE, opD, funV.eq_1, funV.eq_2]
      refine (Wp_calmS rfl).2 ?_
      simp only [runL, opQ, evOp, evO, evOs, guardV, argsA, pvs, putS, cellsOf, scals, scal, Nat.reduceEqDiff, Nat.reduceAdd, reduceCtorEq, fieldA, nonNil, cellsAt, mkAgg, allPV, storeB, patchL, Int.reduceToNat, Nat.reduceMul, Nat.reduceLT, stepA, Int.reduceNeg, Int.reduceLE, Int.reduceLT, Int.reduceEq, extractV, mkAgg, Nat.reduceLeDiff, fillA, pureVs, pureV, eqV, eqB, lenV.eq_1, lenV.eq_2, lenV.eq_3, lenV.eq_4, binV, intBin, intV, idxA, List.drop, List.take, RetP, retP, resV, resOne, snapV, snapVs, snapR, snapRs, ownSz, pickV, AO.isC, opE, opD, funV.eq_1, funV.eq_2, mkFun, allPVs]
      rw [kf _ _ _ _ _ (eq_true (by simp only [runL, opQ, evOp, evO, evOs, guardV, argsA, pvs, putS, cellsOf, scals, scal, Nat.reduceEqDiff, Nat.reduceAdd, reduceCtorEq, fieldA, nonNil, cellsAt, mkAgg, allPV, storeB, patchL, Int.reduceToNat, Nat.reduceMul, Nat.reduceLT, stepA, Int.reduceNeg, Int.reduceLE, Int.reduceLT, Int.reduceEq, extractV, mkAgg, Nat.reduceLeDiff, fillA, pureVs, pureV, eqV, eqB, lenV.eq_1, lenV.eq_2, lenV.eq_3, lenV.eq_4, binV, intBin, intV, idxA, List.drop, List.take, RetP, retP, resV, resOne, snapV, snapVs, snapR, snapRs, ownSz, pickV, AO.isC, opE, opD, funV.eq_1, funV.eq_2])) (eq_true (by simp only [runL, opQ, evOp, evO, evOs, guardV, argsA, pvs, putS, cellsOf, scals, scal, Nat.reduceEqDiff, Nat.reduceAdd, reduceCtorEq, fieldA, nonNil, cellsAt, mkAgg, allPV, storeB, patchL, Int.reduceToNat, Nat.reduceMul, Nat.reduceLT, stepA, Int.reduceNeg, Int.reduceLE, Int.reduceLT, Int.reduceEq, extractV, mkAgg, Nat.reduceLeDiff, fillA, pureVs, pureV, eqV, eqB, lenV.eq_1, lenV.eq_2, lenV.eq_3, lenV.eq_4, binV, intBin, intV, idxA, List.drop, List.take, RetP, retP, resV, resOne, snapV, snapVs, snapR, snapRs, ownSz, pickV, AO.isC, opE, opD, funV.eq_1, funV.eq_2]))]
    · simp only [runL, opQ, evOp, evO, evOs, guardV, argsA, pvs, putS, cellsOf, scals, scal, Nat.reduceEqDiff, Nat.reduceAdd, reduceCtorEq, fieldA, nonNil, cellsAt, mkAgg, allPV, storeB, patchL, Int.reduceToNat, Nat.reduceMul, Nat.reduceLT, stepA, Int.reduceNeg, Int.reduceLE, Int.reduceLT, Int.reduceEq, extractV, mkAgg, Nat.reduceLeDiff, fillA, pureVs, pureV, eqV, eqB, lenV.eq_1, lenV.eq_2, lenV.eq_3, lenV.eq_4, binV, intBin, intV, idxA, List.drop, List.take, RetP, retP, resV, resOne, snapV, snapVs, snapR, snapRs, ownSz, pickV, AO.isC, opE, opD, funV.eq_1, funV.eq_2, h1, errC4]
    · have hv := eqVec w.req vec0
      rw [decide_eq_false h3] at hv
      simp only [vec0] at hv
      simp only [runL, opQ, evOp, evO, evOs, guardV, argsA, pvs, putS, cellsOf, scals, scal, Nat.reduceEqDiff, Nat.reduceAdd, reduceCtorEq, fieldA, nonNil, cellsAt, mkAgg, allPV, storeB, patchL, Int.reduceToNat, Nat.reduceMul, Nat.reduceLT, stepA, Int.reduceNeg, Int.reduceLE, Int.reduceLT, Int.reduceEq, extractV, mkAgg, Nat.reduceLeDiff, fillA, pureVs, pureV, eqV, eqB, lenV.eq_1, lenV.eq_2, lenV.eq_3, lenV.eq_4, binV, intBin, intV, idxA, List.drop, List.take, RetP, retP, resV, resOne, snapV, snapVs, snapR, snapRs, ownSz, pickV, AO.isC, opE, opD, funV.eq_1, funV.eq_2, h1, h2, hv, errC1]
    · have hv := eqVec w.req vec0
      rw [decide_eq_true h3] at hv
      simp only [vec0] at hv
      simp only [runL, opQ, evOp, evO, evOs, guardV, argsA, pvs, putS, cellsOf, scals, scal, Nat.reduceEqDiff, Nat.reduceAdd, reduceCtorEq, fieldA, nonNil, cellsAt, mkAgg, allPV, storeB, patchL, Int.reduceToNat, Nat.reduceMul, Nat.reduceLT, stepA, Int.reduceNeg, Int.reduceLE, Int.reduceLT, Int.reduceEq, extractV, mkAgg, Nat.reduceLeDiff, fillA, pureVs, pureV, eqV, eqB, lenV.eq_1, lenV.eq_2, lenV.eq_3, lenV.eq_4, binV, intBin, intV, idxA, List.drop, List.take, RetP, retP, resV, resOne, snapV, snapVs, snapR, snapRs, ownSz, pickV, AO.isC, opE, opD, funV.eq_1, funV.eq_2, h1, h2, hv, errC0]
    · simp only [runL, opQ, evOp, evO, evOs, guardV, argsA, pvs, putS, cellsOf, scals, scal, Nat.reduceEqDiff, Nat.reduceAdd, reduceCtorEq, fieldA, nonNil, cellsAt, mkAgg, allPV, storeB, patchL, Int.reduceToNat, Nat.reduceMul, Nat.reduceLT, stepA, Int.reduceNeg, Int.reduceLE, Int.reduceLT, Int.reduceEq, extractV, mkAgg, Nat.reduceLeDiff, fillA, pureVs, pureV, eqV, eqB, lenV.eq_1, lenV.eq_2, lenV.eq_3, lenV.eq_4, binV, intBin, intV, idxA, List.drop, List.take, RetP, retP, resV, resOne, snapV, snapVs, snapR, snapRs, ownSz, pickV, AO.isC, opE, opD, funV.eq_1, funV.eq_2, h1, h2, errC0]
  · have w1 : IntKind.i64.wrap (((j + 1 : Nat) : Int) - 1) = (j : Int) := by rw [wrap6] <;> omega
    have p0 : (0 : Int) < ((j + 1 : Nat) : Int) := by omega
    simp only [wantBad]
    by_cases h5 : w.pod = v.pod
    · have d5 := decide_eq_true h5
      rw [if_pos h5]
      simp only [f90, runL, opQ, evOp, evO, evOs, guardV, argsA, pvs, putS, cellsOf, scals, scal, Nat.reduceEqDiff, Nat.reduceAdd, reduceCtorEq, fieldA, nonNil, cellsAt, mkAgg, allPV, storeB, patchL, Int.reduceToNat, Nat.reduceMul, Nat.reduceLT, stepA, Int.reduceNeg, Int.reduceLE, Int.reduceLT, Int.reduceEq, extractV, mkAgg, Nat.reduceLeDiff, fillA, pureVs, pureV, eqV, eqB, lenV.eq_1, lenV.eq_2, lenV.eq_3, lenV.eq_4, binV, intBin, intV, idxA, List.drop, List.take, RetP, retP, resV, resOne, snapV, snapVs, snapR, snapRs, ownSz, pickV, AO.isC, opE, opD, funV.eq_1, funV.eq_2, snapP, hg, wantC]
      refine (Wp_calmS rfl).2 ?_
      simp only [runL, opQ, evOp, evO, evOs, guardV, argsA, pvs, putS, cellsOf, scals, scal, Nat.reduceEqDiff, Nat.reduceAdd, reduceCtorEq, fieldA, nonNil, cellsAt, mkAgg, allPV, storeB, patchL, Int.reduceToNat, Nat.reduceMul, Nat.reduceLT, stepA, Int.reduceNeg, Int.reduceLE, Int.reduceLT, Int.reduceEq, extractV, mkAgg, Nat.reduceLeDiff, fillA, pureVs, pureV, eqV, eqB, lenV.eq_1, lenV.eq_2, lenV.eq_3, lenV.eq_4, binV, intBin, intV, idxA, List.drop, List.take, RetP, retP, resV, resOne, snapV, snapVs, snapR, snapRs, ownSz, pickV, AO.isC, opE, opD, funV.eq_1, funV.eq_2, hv, wantC, w1, p0, d5, errC5]
    · rw [if_neg h5]
      by_cases h6 : w.pod < v.pod
      · rw [if_pos h6]
        simp only [f90, runL, opQ, evOp, evO, evOs, guardV, argsA, pvs, putS, cellsOf, scals, scal, Nat.reduceEqDiff, Nat.reduceAdd, reduceCtorEq, fieldA, nonNil, cellsAt, mkAgg, allPV, storeB, patchL, Int.reduceToNat, Nat.reduceMul, Nat.reduceLT, stepA, Int.reduceNeg, Int.reduceLE, Int.reduceLT, Int.reduceEq, extractV, mkAgg, Nat.reduceLeDiff, fillA, pureVs, pureV, eqV, eqB, lenV.eq_1, lenV.eq_2, lenV.eq_3, lenV.eq_4, binV, intBin, intV, idxA, List.drop, List.take, RetP, retP, resV, resOne, snapV, snapVs, snapR, snapRs, ownSz, pickV, AO.isC, opE, opD, funV.eq_1, funV.eq_2, snapP, hg, wantC]
        refine (Wp_calmS rfl).2 ?_
        simp only [runL, opQ, evOp, evO, evOs, guardV, argsA, pvs, putS, cellsOf, scals, scal, Nat.reduceEqDiff, Nat.reduceAdd, reduceCtorEq, fieldA, nonNil, cellsAt, mkAgg, allPV, storeB, patchL, Int.reduceToNat, Nat.reduceMul, Nat.reduceLT, stepA, Int.reduceNeg, Int.reduceLE, Int.reduceLT, Int.reduceEq, extractV, mkAgg, Nat.reduceLeDiff, fillA, pureVs, pureV, eqV, eqB, lenV.eq_1, lenV.eq_2, lenV.eq_3, lenV.eq_4, binV, intBin, intV, idxA, List.drop, List.take, RetP, retP, resV, resOne, snapV, snapVs, snapR, snapRs, ownSz, pickV, AO.isC, opE, opD, funV.eq_1, funV.eq_2, hv, wantC, w1, p0, h5]
        refine (Wp_calmS rfl).2 ?_
        simp only [runL, opQ, evOp, evO, evOs, guardV, argsA, pvs, putS, cellsOf, scals, scal, Nat.reduceEqDiff, Nat.reduceAdd, reduceCtorEq, fieldA, nonNil, cellsAt, mkAgg, allPV, storeB, patchL, Int.reduceToNat, Nat.reduceMul, Nat.reduceLT, stepA, Int.reduceNeg, Int.reduceLE, Int.reduceLT, Int.reduceEq, extractV, mkAgg, Nat.reduceLeDiff, fillA, pureVs, pureV, eqV, eqB, lenV.eq_1, lenV.eq_2, lenV.eq_3, lenV.eq_4, binV, intBin, intV, idxA, List.drop, List.take, RetP, retP, resV, resOne, snapV, snapVs, snapR, snapRs, ownSz, pickV, AO.isC, opE, opD, funV.eq_1, funV.eq_2, hv, wantC, w1, p0, h6, errC1]
      · rw [if_neg h6]
        refine rest (fun c => Wp T false f90.body ⟨argsA 0 (pvs [snapP s, .slice (l.map wantC), .int .i64 ((j + 1 : Nat) : Int)]), [], 0⟩ (RetP f90.res (errC c))) (fun h1 => ?_) (fun h1 h2 h3 => ?_) (fun h1 h2 h3 => ?_) (fun h1 h2 => ?_)
        all_goals
          simp only [f90, runL, opQ, evOp, evO, evOs, guardV, argsA, pvs, putS, cellsOf, scals, scal, Nat.reduceEqDiff, Nat.reduceAdd, reduceCtorEq, fieldA, nonNil, cellsAt, mkAgg, allPV, storeB, patchL, Int.reduceToNat, Nat.reduceMul, Nat.reduceLT, stepA, Int.reduceNeg, Int.reduceLE, Int.reduceLT, Int.reduceEq, extractV, mkAgg, Nat.reduceLeDiff, fillA, pureVs, pureV, eqV, eqB, lenV.eq_1, lenV.eq_2, lenV.eq_3, lenV.eq_4, binV, intBin, intV, idxA, List.drop, List.take, RetP, retP, resV, resOne, snapV, snapVs, snapR, snapRs, ownSz, pickV, AO.isC, opE, opD, funV.eq_1, funV.eq_2, snapP, hg, wantC]
          refine (Wp_calmS rfl).2 ?_
          simp only [runL, opQ, evOp, evO, evOs, guardV, argsA, pvs, putS, cellsOf, scals, scal, Nat.reduceEqDiff, Nat.reduceAdd, reduceCtorEq, fieldA, nonNil, cellsAt, mkAgg, allPV, storeB, patchL, Int.reduceToNat, Nat.reduceMul, Nat.reduceLT, stepA, Int.reduceNeg, Int.reduceLE, Int.reduceLT, Int.reduceEq, extractV, mkAgg, Nat.reduceLeDiff, fillA, pureVs, pureV, eqV, eqB, lenV.eq_1, lenV.eq_2, lenV.eq_3, lenV.eq_4, binV, intBin, intV, idxA, List.drop, List.take, RetP, retP, resV, resOne, snapV, snapVs, snapR, snapRs, ownSz, pickV, AO.isC, opE, opD, funV.eq_1, funV.eq_2, hv, wantC, w1, p0, h5]
          refine (Wp_calmS rfl).2 ?_
          simp only [runL, opQ, evOp, evO, evOs, guardV, argsA, pvs, putS, cellsOf, scals, scal, Nat.reduceEqDiff, Nat.reduceAdd, reduceCtorEq, fieldA, nonNil, cellsAt, mkAgg, allPV, storeB, patchL, Int.reduceToNat, Nat.reduceMul, Nat.reduceLT, stepA, Int.reduceNeg, Int.reduceLE, Int.reduceLT, Int.reduceEq, extractV, mkAgg, Nat.reduceLeDiff, fillA, pureVs, pureV, eqV, eqB, lenV.eq_1, lenV.eq_2, lenV.eq_3, lenV.eq_4, binV, intBin, intV, idxA, List.drop, List.take, RetP, retP, resV, resOne, snapV, snapVs, snapR, snapRs, ownSz, pickV, AO.isC, opE, opD, funV.eq_1, funV.eq_2, hv, wantC, w1, p0, h6, mkFun, allPVs]
          rw [kf _ _ _ _ _ (eq_true (by simp only [runL, opQ, evOp, evO, evOs, guardV, argsA, pvs, putS, cellsOf, scals, scal, Nat.reduceEqDiff, Nat.reduceAdd, reduceCtorEq, fieldA, nonNil, cellsAt, mkAgg, allPV, storeB, patchL, Int.reduceToNat, Nat.reduceMul, Nat.reduceLT, stepA, Int.reduceNeg, Int.reduceLE, Int.reduceLT, Int.reduceEq, extractV, mkAgg, Nat.reduceLeDiff, fillA, pureVs, pureV, eqV, eqB, lenV.eq_1, lenV.eq_2, lenV.eq_3, lenV.eq_4, binV, intBin, intV, idxA, List.drop, List.take, RetP, retP, resV, resOne, snapV, snapVs, snapR, snapRs, ownSz, pickV, AO.isC, opE, opD, funV.eq_1, funV.eq_2])) (eq_true (by simp only [runL, opQ, evOp, evO, evOs, guardV, argsA, pvs, putS, cellsOf, scals, scal, Nat.reduceEqDiff, Nat.reduceAdd, reduceCtorEq, fieldA, nonNil, cellsAt, mkAgg, allPV, storeB, patchL, Int.reduceToNat, Nat.reduceMul, Nat.reduceLT, stepA, Int.reduceNeg, Int.reduceLE, Int.reduceLT, Int.reduceEq, extractV, mkAgg, Nat.reduceLeDiff, fillA, pureVs, pureV, eqV, eqB, lenV.eq_1, lenV.eq_2, lenV.eq_3, lenV.eq_4, binV, intBin, intV, idxA, List.drop, List.take, RetP, retP, resV, resOne, snapV, snapVs, snapR, snapRs, ownSz, pickV, AO.isC, opE, opD, funV.eq_1, funV.eq_2]))]
        · simp only [runL, opQ, evOp, evO, evOs, guardV, argsA, pvs, putS, cellsOf, scals, scal, Nat.reduceEqDiff, Nat.reduceAdd, reduceCtorEq, fieldA, nonNil, cellsAt, mkAgg, allPV, storeB, patchL, Int.reduceToNat, Nat.reduceMul, Nat.reduceLT, stepA, Int.reduceNeg, Int.reduceLE, Int.reduceLT, Int.reduceEq, extractV, mkAgg, Nat.reduceLeDiff, fillA, pureVs, pureV, eqV, eqB, lenV.eq_1, lenV.eq_2, lenV.eq_3, lenV.eq_4, binV, intBin, intV, idxA, List.drop, List.take, RetP, retP, resV, resOne, snapV, snapVs, snapR, snapRs, ownSz, pickV, AO.isC, opE, opD, funV.eq_1, funV.eq_2, h1, errC4]
        · have hv := eqVec w.req vec0
          rw [decide_eq_false h3] at hv
          simp only [vec0] at hv
          simp only [runL, opQ, evOp, evO, evOs, guardV, argsA, pvs, putS, cellsOf, scals, scal, Nat.reduceEqDiff, Nat.reduceAdd, reduceCtorEq, fieldA, nonNil, cellsAt, mkAgg, allPV, storeB, patchL, Int.reduceToNat, Nat.reduceMul, Nat.reduceLT, stepA, Int.reduceNeg, Int.reduceLE, Int.reduceLT, Int.reduceEq, extractV, mkAgg, Nat.reduceLeDiff, fillA, pureVs, pureV, eqV, eqB, lenV.eq_1, lenV.eq_2, lenV.eq_3, lenV.eq_4, binV, intBin, intV, idxA, List.drop, List.take, RetP, retP, resV, resOne, snapV, snapVs, snapR, snapRs, ownSz, pickV, AO.isC, opE, opD, funV.eq_1, funV.eq_2, h1, h2, hv, errC1]
        · have hv := eqVec w.req vec0
          rw [decide_eq_true h3] at hv
          simp only [vec0] at hv
          simp only [runL, opQ, evOp, evO, evOs, guardV, argsA, pvs, putS, cellsOf, scals, scal, Nat.reduceEqDiff, Nat.reduceAdd, reduceCtorEq, fieldA, nonNil, cellsAt, mkAgg, allPV, storeB, patchL, Int.reduceToNat, Nat.reduceMul, Nat.reduceLT, stepA, Int.reduceNeg, Int.reduceLE, Int.reduceLT, Int.reduceEq, extractV, mkAgg, Nat.reduceLeDiff, fillA, pureVs, pureV, eqV, eqB, lenV.eq_1, lenV.eq_2, lenV.eq_3, lenV.eq_4, binV, intBin, intV, idxA, List.drop, List.take, RetP, retP, resV, resOne, snapV, snapVs, snapR, snapRs, ownSz, pickV, AO.isC, opE, opD, funV.eq_1, funV.eq_2, h1, h2, hv, errC0]
        · simp only [runL, opQ, evOp, evO, evOs, guardV, argsA, pvs, putS, cellsOf, scals, scal, Nat.reduceEqDiff, Nat.reduceAdd, reduceCtorEq, fieldA, nonNil, cellsAt, mkAgg, allPV, storeB, patchL, Int.reduceToNat, Nat.reduceMul, Nat.reduceLT, stepA, Int.reduceNeg, Int.reduceLE, Int.reduceLT, Int.reduceEq, extractV, mkAgg, Nat.reduceLeDiff, fillA, pureVs, pureV, eqV, eqB, lenV.eq_1, lenV.eq_2, lenV.eq_3, lenV.eq_4, binV, intBin, intV, idxA, List.drop, List.take, RetP, retP, resV, resOne, snapV, snapVs, snapR, snapRs, ownSz, pickV, AO.isC, opE, opD, funV.eq_1, funV.eq_2, h1, h2, errC0]
end
end Go.Proofs.YtdjpeonignkheaaDoor.Ab
set_option linter.unusedVariables false
set_option linter.unusedSimpArgs false
namespace Go.Proofs.YtdjpeonignkheaaDoor.Ab
open Go
structure Std3f (T : Tab) : Prop where
  b : Std3 T
  h80 : Std T 80 f80
  h90 : Std T 90 f90
  c : StdC T
theorem wantBad_c (pods : List Pod) (p : Option Want) (w : Want) : wantBad pods p w = 0 ∨ 1 ≤ wantBad pods p w ∧ wantBad pods p w ≤ 17 := by
  have hr : wantRest pods w = 0 ∨ 1 ≤ wantRest pods w ∧ wantRest pods w ≤ 17 := by
    unfold wantRest
    split
    · omega
    · split <;> omega
  unfold wantBad
  split
  · split
    · omega
    · split
      · omega
      · exact hr
  · exact hr
theorem wantsFrom_range (pods : List Pod) : ∀ (l : List Want) (p : Option Want) (i : Int) c a, wantsFrom pods p i l = some (c, a) → i ≤ a ∧ 1 ≤ c ∧ c ≤ 17
  | [], p, i, c, a, h => by simp [wantsFrom] at h
  | w :: r, p, i, c, a, h => by
    simp only [wantsFrom] at h
    split at h
    · rename_i h0
      simp only [Option.some.injEq, Prod.mk.injEq] at h
      have := wantBad_c pods p w
      omega
    · have := wantsFrom_range pods r _ _ c a h
      omega
theorem fairB_ok (s : Snap) (x : Spec) : ErrOK (fairB s x) := by
  intro c a h
  unfold fairB at h
  cases hc : checkB s with
  | some e =>
    rw [hc] at h
    simp only [Option.some.injEq] at h
    subst h
    exact checkB_ok s c a hc
  | none =>
    rw [hc] at h
    simp only at h
    split at h
    · have := wantsFrom_range _ _ _ _ _ _ h
      omega
    · simp only [Option.some.injEq, Prod.mk.injEq] at h
      omega
section
variable {T : Tab}
theorem fair_loop (S : Std3f T) (s : Snap) (x : Spec) (hp : s.pods.length ≤ 2 ^ 30) (hx : x.wants.length ≤ 2 ^ 29) (Q : Exit → St → Prop) (o : Option (Int × Int))
    (hend : o = none → ∀ fr hp nx, Q (.exit 0) ⟨fr, hp, nx⟩)
    (hret : ∀ fr hp nx, retP [.t 4] ⟨fr, hp, nx⟩ = some (errG o) → Q .ret ⟨fr, hp, nx⟩) :
    ∀ (rest : List Want) (i : Nat) (prev : Option Want), x.wants.drop i = rest → i ≤ x.wants.length → ((i = 0 ∧ prev = none) ∨ ∃ j v, i = j + 1 ∧ prev = some v ∧ x.wants[j]? = some v) → wantsFrom s.pods prev i rest = o → ∀ (fr : List (Nat × AV)) (hp : Hl) (nx : Nat), 2 ≤ nx → look fr 2 = .ptr 0 0 0 → look fr 3 = .ptr 1 0 0 →
      blkAt hp 0 = .var [.pv (.slice (s.nodes.map nodeC)), .pv (.slice (s.loads.map loadC)), .pv (.slice (s.pods.map podC))] → blkAt hp 1 = .var [.pv (.slice (x.wants.map wantC)), .pv (.int .i64 x.pre), .pv (.int .i64 x.shi)] →
      look fr 34 = .pv (.int .i64 x.wants.length) → look fr 35 = .pv (.int .i64 i) → Wp T false (.loop f80l0) ⟨fr, hp, nx⟩ Q := by
  intro rest
  induction rest with
  | nil =>
    intro i prev hd hi hpv ho fr hp nx hnx g2 g3 b0 b1 h34 h35
    have hlen := drop_nil hd hi
    rw [Wp_loop, Wp_eq f80l0.eq_1]
    simp only [runL, opQ, evOp, evO, evOs, guardV, argsA, pvs, putS, cellsOf, scals, scal, Nat.reduceEqDiff, Nat.reduceAdd, reduceCtorEq, fieldA, nonNil, cellsAt, mkAgg, allPV, storeB, patchL, Int.reduceToNat, Nat.reduceMul, Nat.reduceLT, stepA, Int.reduceNeg, Int.reduceLE, Int.reduceLT, Int.reduceEq, extractV, mkAgg, Nat.reduceLeDiff, fillA, pureVs, pureV, eqV, eqB, lenV.eq_1, lenV.eq_2, lenV.eq_3, lenV.eq_4, binV, intBin, intV, idxA, List.drop, List.take, RetP, retP, resV, resOne, snapV, snapVs, snapR, snapRs, ownSz, pickV, AO.isC, opE, opD, funV.eq_1, funV.eq_2, h34, h35, hlen, Int.lt_irrefl]
    exact hend ho.symm _ _ _
  | cons w r ih =>
    intro i prev hd hi hpv ho fr hp nx hnx g2 g3 b0 b1 h34 h35
    obtain ⟨hget, hlt, hw, hd', hi', hbb⟩ := drop_cons hd (by omega)
    have n0 : ¬ nx = 0 := by omega
    have n1 : ¬ nx = 1 := by omega
    have k := want3_ok S.h90 S.c s (by assumption) x.wants i w prev hbb hget hpv
    simp only [snapP] at k
    simp only [wantsFrom] at ho
    rw [Wp_loop, Wp_eq f80l0.eq_1]
    by_cases hc : wantBad s.pods prev w = 0
    · rw [if_neg (by simpa using hc)] at ho
      rw [hc, errC0] at k
      simp only [runL, opQ, evOp, evO, evOs, guardV, argsA, pvs, putS, cellsOf, scals, scal, Nat.reduceEqDiff, Nat.reduceAdd, reduceCtorEq, fieldA, nonNil, cellsAt, mkAgg, allPV, storeB, patchL, Int.reduceToNat, Nat.reduceMul, Nat.reduceLT, stepA, Int.reduceNeg, Int.reduceLE, Int.reduceLT, Int.reduceEq, extractV, mkAgg, Nat.reduceLeDiff, fillA, pureVs, pureV, eqV, eqB, lenV.eq_1, lenV.eq_2, lenV.eq_3, lenV.eq_4, binV, intBin, intV, idxA, List.drop, List.take, RetP, retP, resV, resOne, snapV, snapVs, snapR, snapRs, ownSz, pickV, AO.isC, opE, opD, funV.eq_1, funV.eq_2, g2, g3, b0, b1, h34, h35, hlt, n0, n1, k.call, as_nilQ S.b.hA, hw]
      refine ih (i + 1) (some w) hd' hi' (.inr ⟨i, w, rfl, rfl, hget⟩) (by rw [← ho]; rfl) _ _ _ (by omega) ?_ ?_ ?_ ?_ ?_ ?_
      all_goals try simp only [look_if, blkAt_if, Nat.reduceEqDiff, if_true, if_false, g2, g3, n0, n1, b0, b1, h34]
    · rw [if_pos hc] at ho
      have hc' : errC (wantBad s.pods prev w) = .iface 0 (.int .i64 (wantBad s.pods prev w)) := if_neg hc
      rw [hc'] at k
      have hi0 : ¬ (i : Int) < 0 := by omega
      simp only [runL, opQ, evOp, evO, evOs, guardV, argsA, pvs, putS, cellsOf, scals, scal, Nat.reduceEqDiff, Nat.reduceAdd, reduceCtorEq, fieldA, nonNil, cellsAt, mkAgg, allPV, storeB, patchL, Int.reduceToNat, Nat.reduceMul, Nat.reduceLT, stepA, Int.reduceNeg, Int.reduceLE, Int.reduceLT, Int.reduceEq, extractV, mkAgg, Nat.reduceLeDiff, fillA, pureVs, pureV, eqV, eqB, lenV.eq_1, lenV.eq_2, lenV.eq_3, lenV.eq_4, binV, intBin, intV, idxA, List.drop, List.take, RetP, retP, resV, resOne, snapV, snapVs, snapR, snapRs, ownSz, pickV, AO.isC, opE, opD, funV.eq_1, funV.eq_2, g2, g3, b0, b1, h34, h35, hlt, n0, n1, k.call]
      refine (as_codeQ S.b.hA (o := 0) ?_).2 ?_
      · simp only [runL, opQ, evOp, evO, evOs, guardV, argsA, pvs, putS, cellsOf, scals, scal, Nat.reduceEqDiff, Nat.reduceAdd, reduceCtorEq, fieldA, nonNil, cellsAt, mkAgg, allPV, storeB, patchL, Int.reduceToNat, Nat.reduceMul, Nat.reduceLT, stepA, Int.reduceNeg, Int.reduceLE, Int.reduceLT, Int.reduceEq, extractV, mkAgg, Nat.reduceLeDiff, fillA, pureVs, pureV, eqV, eqB, lenV.eq_1, lenV.eq_2, lenV.eq_3, lenV.eq_4, binV, intBin, intV, idxA, List.drop, List.take, RetP, retP, resV, resOne, snapV, snapVs, snapR, snapRs, ownSz, pickV, AO.isC, opE, opD, funV.eq_1, funV.eq_2]
      · simp only [runL, opQ, evOp, evO, evOs, guardV, argsA, pvs, putS, cellsOf, scals, scal, Nat.reduceEqDiff, Nat.reduceAdd, reduceCtorEq, fieldA, nonNil, cellsAt, mkAgg, allPV, storeB, patchL, Int.reduceToNat, Nat.reduceMul, Nat.reduceLT, stepA, Int.reduceNeg, Int.reduceLE, Int.reduceLT, Int.reduceEq, extractV, mkAgg, Nat.reduceLeDiff, fillA, pureVs, pureV, eqV, eqB, lenV.eq_1, lenV.eq_2, lenV.eq_3, lenV.eq_4, binV, intBin, intV, idxA, List.drop, List.take, RetP, retP, resV, resOne, snapV, snapVs, snapR, snapRs, ownSz, pickV, AO.isC, opE, opD, funV.eq_1, funV.eq_2]
        refine hret _ _ _ ?_
        simp only [runL, opQ, evOp, evO, evOs, guardV, argsA, pvs, putS, cellsOf, scals, scal, Nat.reduceEqDiff, Nat.reduceAdd, reduceCtorEq, fieldA, nonNil, cellsAt, mkAgg, allPV, storeB, patchL, Int.reduceToNat, Nat.reduceMul, Nat.reduceLT, stepA, Int.reduceNeg, Int.reduceLE, Int.reduceLT, Int.reduceEq, extractV, mkAgg, Nat.reduceLeDiff, fillA, pureVs, pureV, eqV, eqB, lenV.eq_1, lenV.eq_2, lenV.eq_3, lenV.eq_4, binV, intBin, intV, idxA, List.drop, List.take, RetP, retP, resV, resOne, snapV, snapVs, snapR, snapRs, ownSz, pickV, AO.isC, opE, opD, funV.eq_1, funV.eq_2, ← ho, errG, hi0, spotE]
theorem fair3_ok (S : Std3f T) (s : Snap) (x : Spec) (hx : x.wants.length ≤ 2 ^ 29) : Gives T 80 [snapP s, specP x] (errG (fairB s x)) := by
  refine gives S.h80 rfl ?_
  have k := check3_ok S.b s
  simp only [snapP] at k
  unfold fairB
  cases hc : checkB s with
  | some e =>
    obtain ⟨c, a⟩ := e
    rw [hc] at k
    simp only [errG] at k ⊢
    by_cases ha : a < 0
    · rw [if_pos ha] at k ⊢
      simp only [codeE] at k
      simp only [f80, runL, opQ, evOp, evO, evOs, guardV, argsA, pvs, putS, cellsOf, scals, scal, Nat.reduceEqDiff, Nat.reduceAdd, reduceCtorEq, fieldA, nonNil, cellsAt, mkAgg, allPV, storeB, patchL, Int.reduceToNat, Nat.reduceMul, Nat.reduceLT, stepA, Int.reduceNeg, Int.reduceLE, Int.reduceLT, Int.reduceEq, extractV, mkAgg, Nat.reduceLeDiff, fillA, pureVs, pureV, eqV, eqB, lenV.eq_1, lenV.eq_2, lenV.eq_3, lenV.eq_4, binV, intBin, intV, idxA, List.drop, List.take, RetP, retP, resV, resOne, snapV, snapVs, snapR, snapRs, ownSz, pickV, AO.isC, opE, opD, funV.eq_1, funV.eq_2, snapP, specP, k.call, codeE]
    · rw [if_neg ha] at k ⊢
      simp only [spotE] at k
      simp only [f80, runL, opQ, evOp, evO, evOs, guardV, argsA, pvs, putS, cellsOf, scals, scal, Nat.reduceEqDiff, Nat.reduceAdd, reduceCtorEq, fieldA, nonNil, cellsAt, mkAgg, allPV, storeB, patchL, Int.reduceToNat, Nat.reduceMul, Nat.reduceLT, stepA, Int.reduceNeg, Int.reduceLE, Int.reduceLT, Int.reduceEq, extractV, mkAgg, Nat.reduceLeDiff, fillA, pureVs, pureV, eqV, eqB, lenV.eq_1, lenV.eq_2, lenV.eq_3, lenV.eq_4, binV, intBin, intV, idxA, List.drop, List.take, RetP, retP, resV, resOne, snapV, snapVs, snapR, snapRs, ownSz, pickV, AO.isC, opE, opD, funV.eq_1, funV.eq_2, snapP, specP, k.call, spotE]
  | none =>
    have hs : s.pods.length ≤ 2 ^ 30 := by
      unfold checkB at hc
      split at hc
      · rename_i hz
        simp only [sizesOK, Bool.and_eq_true, decide_eq_true_eq] at hz
        omega
      · simp at hc
    rw [hc] at k
    simp only [errG] at k
    simp only
    by_cases c1 : x.pre < 0
    · rw [if_neg (by omega)]
      simp only [f80, runL, opQ, evOp, evO, evOs, guardV, argsA, pvs, putS, cellsOf, scals, scal, Nat.reduceEqDiff, Nat.reduceAdd, reduceCtorEq, fieldA, nonNil, cellsAt, mkAgg, allPV, storeB, patchL, Int.reduceToNat, Nat.reduceMul, Nat.reduceLT, stepA, Int.reduceNeg, Int.reduceLE, Int.reduceLT, Int.reduceEq, extractV, mkAgg, Nat.reduceLeDiff, fillA, pureVs, pureV, eqV, eqB, lenV.eq_1, lenV.eq_2, lenV.eq_3, lenV.eq_4, binV, intBin, intV, idxA, List.drop, List.take, RetP, retP, resV, resOne, snapV, snapVs, snapR, snapRs, ownSz, pickV, AO.isC, opE, opD, funV.eq_1, funV.eq_2, snapP, specP, k.call, c1, errG, codeE]
    · by_cases c2 : 40 < x.pre
      · rw [if_neg (by omega)]
        simp only [f80, runL, opQ, evOp, evO, evOs, guardV, argsA, pvs, putS, cellsOf, scals, scal, Nat.reduceEqDiff, Nat.reduceAdd, reduceCtorEq, fieldA, nonNil, cellsAt, mkAgg, allPV, storeB, patchL, Int.reduceToNat, Nat.reduceMul, Nat.reduceLT, stepA, Int.reduceNeg, Int.reduceLE, Int.reduceLT, Int.reduceEq, extractV, mkAgg, Nat.reduceLeDiff, fillA, pureVs, pureV, eqV, eqB, lenV.eq_1, lenV.eq_2, lenV.eq_3, lenV.eq_4, binV, intBin, intV, idxA, List.drop, List.take, RetP, retP, resV, resOne, snapV, snapVs, snapR, snapRs, ownSz, pickV, AO.isC, opE, opD, funV.eq_1, funV.eq_2, snapP, specP, k.call, c1, c2, errG, codeE]
      · by_cases c3 : x.shi < 0
        · rw [if_neg (by omega)]
          simp only [f80, runL, opQ, evOp, evO, evOs, guardV, argsA, pvs, putS, cellsOf, scals, scal, Nat.reduceEqDiff, Nat.reduceAdd, reduceCtorEq, fieldA, nonNil, cellsAt, mkAgg, allPV, storeB, patchL, Int.reduceToNat, Nat.reduceMul, Nat.reduceLT, stepA, Int.reduceNeg, Int.reduceLE, Int.reduceLT, Int.reduceEq, extractV, mkAgg, Nat.reduceLeDiff, fillA, pureVs, pureV, eqV, eqB, lenV.eq_1, lenV.eq_2, lenV.eq_3, lenV.eq_4, binV, intBin, intV, idxA, List.drop, List.take, RetP, retP, resV, resOne, snapV, snapVs, snapR, snapRs, ownSz, pickV, AO.isC, opE, opD, funV.eq_1, funV.eq_2, snapP, specP, k.call, c1, c2, c3, errG, codeE]
        · by_cases c4 : 40 < x.shi
          · rw [if_neg (by omega)]
            simp only [f80, runL, opQ, evOp, evO, evOs, guardV, argsA, pvs, putS, cellsOf, scals, scal, Nat.reduceEqDiff, Nat.reduceAdd, reduceCtorEq, fieldA, nonNil, cellsAt, mkAgg, allPV, storeB, patchL, Int.reduceToNat, Nat.reduceMul, Nat.reduceLT, stepA, Int.reduceNeg, Int.reduceLE, Int.reduceLT, Int.reduceEq, extractV, mkAgg, Nat.reduceLeDiff, fillA, pureVs, pureV, eqV, eqB, lenV.eq_1, lenV.eq_2, lenV.eq_3, lenV.eq_4, binV, intBin, intV, idxA, List.drop, List.take, RetP, retP, resV, resOne, snapV, snapVs, snapR, snapRs, ownSz, pickV, AO.isC, opE, opD, funV.eq_1, funV.eq_2, snapP, specP, k.call, c1, c2, c3, c4, errG, codeE]
          · rw [if_pos (by omega)]
            simp only [f80, runL, opQ, evOp, evO, evOs, guardV, argsA, pvs, putS, cellsOf, scals, scal, Nat.reduceEqDiff, Nat.reduceAdd, reduceCtorEq, fieldA, nonNil, cellsAt, mkAgg, allPV, storeB, patchL, Int.reduceToNat, Nat.reduceMul, Nat.reduceLT, stepA, Int.reduceNeg, Int.reduceLE, Int.reduceLT, Int.reduceEq, extractV, mkAgg, Nat.reduceLeDiff, fillA, pureVs, pureV, eqV, eqB, lenV.eq_1, lenV.eq_2, lenV.eq_3, lenV.eq_4, binV, intBin, intV, idxA, List.drop, List.take, RetP, retP, resV, resOne, snapV, snapVs, snapR, snapRs, ownSz, pickV, AO.isC, opE, opD, funV.eq_1, funV.eq_2, snapP, specP, k.call, c1, c2, c3, c4]
            refine fair_loop S s x hs hx _ (wantsFrom s.pods none 0 x.wants) (fun ho fr hp nx => ?_) (fun fr hp nx hr => ?_) x.wants 0 none rfl (Nat.zero_le _) (.inl ⟨rfl, rfl⟩) rfl _ _ _ (Nat.le_refl _) rfl rfl rfl rfl rfl rfl
            · simp only [runL, opQ, evOp, evO, evOs, guardV, argsA, pvs, putS, cellsOf, scals, scal, Nat.reduceEqDiff, Nat.reduceAdd, reduceCtorEq, fieldA, nonNil, cellsAt, mkAgg, allPV, storeB, patchL, Int.reduceToNat, Nat.reduceMul, Nat.reduceLT, stepA, Int.reduceNeg, Int.reduceLE, Int.reduceLT, Int.reduceEq, extractV, mkAgg, Nat.reduceLeDiff, fillA, pureVs, pureV, eqV, eqB, lenV.eq_1, lenV.eq_2, lenV.eq_3, lenV.eq_4, binV, intBin, intV, idxA, List.drop, List.take, RetP, retP, resV, resOne, snapV, snapVs, snapR, snapRs, ownSz, pickV, AO.isC, opE, opD, funV.eq_1, funV.eq_2, ho, errG]
            · simp only [blkQ_ret, seqQ_ret, RetP, hr]
end
end Go.Proofs.YtdjpeonignkheaaDoor.Ab
set_option linter.unusedVariables false
set_option linter.unusedSimpArgs false
namespace Go.Proofs.YtdjpeonignkheaaDoor.Ab
open Go
def ixLoad (id : Int) : Nat → List Load → Int
  | _, [] => -1
  | i, p :: r => if p.id = id then i else ixLoad id (i + 1) r
theorem ixLoad_neg (id : Int) : ∀ (l : List Load) (i : Nat), (ixLoad id i l < 0) ↔ loadOf id l = none
  | [], i => by simp [ixLoad, loadOf]
  | p :: r, i => by
    by_cases hp : p.id = id
    · simp [ixLoad, loadOf, hp] <;> omega
    · have := ixLoad_neg id r (i + 1)
      simpa [ixLoad, loadOf, hp] using this
theorem ixNode_neg (id : Int) : ∀ (l : List Node) (i : Nat), (ixNode id i l < 0) ↔ nodeOf id l = none
  | [], i => by simp [ixNode, nodeOf]
  | p :: r, i => by
    by_cases hp : p.id = id
    · simp [ixNode, nodeOf, hp] <;> omega
    · have := ixNode_neg id r (i + 1)
      simpa [ixNode, nodeOf, hp] using this
structure Std3r (T : Tab) : Prop where
  h151 : Std T 151 f151
  h154 : Std T 154 f154
  h155 : Std T 155 f155
  h159 : Std T 159 f159
  h160 : Std T 160 f160
  h141 : Std T 141 f141
section
variable {T : Tab}
theorem countr_ok (h159 : Std T 159 f159) (n : Int) : Gives T 159 [.int .i64 n] (.bool (countB n)) := by
  refine gives h159 rfl ?_
  unfold countB
  by_cases h1 : 0 ≤ n
  · simp only [f159, runL, opQ, evOp, evO, evOs, guardV, argsA, pvs, putS, cellsOf, scals, scal, Nat.reduceEqDiff, Nat.reduceAdd, reduceCtorEq, fieldA, nonNil, cellsAt, mkAgg, allPV, storeB, patchL, Int.reduceToNat, Nat.reduceMul, Nat.reduceLT, stepA, Int.reduceNeg, Int.reduceLE, Int.reduceLT, Int.reduceEq, extractV, mkAgg, Nat.reduceLeDiff, fillA, pureVs, pureV, eqV, eqB, lenV.eq_1, lenV.eq_2, lenV.eq_3, lenV.eq_4, binV, intBin, intV, idxA, List.drop, List.take, RetP, retP, resV, resOne, snapV, snapVs, snapR, snapRs, ownSz, pickV, AO.isC, opE, opD, funV.eq_1, funV.eq_2, h1, Bool.true_and]
  · simp only [f159, runL, opQ, evOp, evO, evOs, guardV, argsA, pvs, putS, cellsOf, scals, scal, Nat.reduceEqDiff, Nat.reduceAdd, reduceCtorEq, fieldA, nonNil, cellsAt, mkAgg, allPV, storeB, patchL, Int.reduceToNat, Nat.reduceMul, Nat.reduceLT, stepA, Int.reduceNeg, Int.reduceLE, Int.reduceLT, Int.reduceEq, extractV, mkAgg, Nat.reduceLeDiff, fillA, pureVs, pureV, eqV, eqB, lenV.eq_1, lenV.eq_2, lenV.eq_3, lenV.eq_4, binV, intBin, intV, idxA, List.drop, List.take, RetP, retP, resV, resOne, snapV, snapVs, snapR, snapRs, ownSz, pickV, AO.isC, opE, opD, funV.eq_1, funV.eq_2, h1, Bool.false_and]
theorem idr_ok (h160 : Std T 160 f160) (n last : Int) : Gives T 160 [.int .i64 n, .int .i64 last] (.int .i64 (idR n last)) := by
  refine gives h160 rfl ?_
  unfold idR
  by_cases h1 : n < 1
  · rw [if_pos (.inl h1)]
    simp only [f160, runL, opQ, evOp, evO, evOs, guardV, argsA, pvs, putS, cellsOf, scals, scal, Nat.reduceEqDiff, Nat.reduceAdd, reduceCtorEq, fieldA, nonNil, cellsAt, mkAgg, allPV, storeB, patchL, Int.reduceToNat, Nat.reduceMul, Nat.reduceLT, stepA, Int.reduceNeg, Int.reduceLE, Int.reduceLT, Int.reduceEq, extractV, mkAgg, Nat.reduceLeDiff, fillA, pureVs, pureV, eqV, eqB, lenV.eq_1, lenV.eq_2, lenV.eq_3, lenV.eq_4, binV, intBin, intV, idxA, List.drop, List.take, RetP, retP, resV, resOne, snapV, snapVs, snapR, snapRs, ownSz, pickV, AO.isC, opE, opD, funV.eq_1, funV.eq_2, h1]
  · by_cases h2 : 2147483647 < n
    · rw [if_pos (.inr h2)]
      simp only [f160, runL, opQ, evOp, evO, evOs, guardV, argsA, pvs, putS, cellsOf, scals, scal, Nat.reduceEqDiff, Nat.reduceAdd, reduceCtorEq, fieldA, nonNil, cellsAt, mkAgg, allPV, storeB, patchL, Int.reduceToNat, Nat.reduceMul, Nat.reduceLT, stepA, Int.reduceNeg, Int.reduceLE, Int.reduceLT, Int.reduceEq, extractV, mkAgg, Nat.reduceLeDiff, fillA, pureVs, pureV, eqV, eqB, lenV.eq_1, lenV.eq_2, lenV.eq_3, lenV.eq_4, binV, intBin, intV, idxA, List.drop, List.take, RetP, retP, resV, resOne, snapV, snapVs, snapR, snapRs, ownSz, pickV, AO.isC, opE, opD, funV.eq_1, funV.eq_2, h1, h2]
    · rw [if_neg (by omega)]
      by_cases h3 : n = last
      · rw [if_pos h3]
        simp only [f160, runL, opQ, evOp, evO, evOs, guardV, argsA, pvs, putS, cellsOf, scals, scal, Nat.reduceEqDiff, Nat.reduceAdd, reduceCtorEq, fieldA, nonNil, cellsAt, mkAgg, allPV, storeB, patchL, Int.reduceToNat, Nat.reduceMul, Nat.reduceLT, stepA, Int.reduceNeg, Int.reduceLE, Int.reduceLT, Int.reduceEq, extractV, mkAgg, Nat.reduceLeDiff, fillA, pureVs, pureV, eqV, eqB, lenV.eq_1, lenV.eq_2, lenV.eq_3, lenV.eq_4, binV, intBin, intV, idxA, List.drop, List.take, RetP, retP, resV, resOne, snapV, snapVs, snapR, snapRs, ownSz, pickV, AO.isC, opE, opD, funV.eq_1, funV.eq_2, h1, h2, decide_eq_true h3]
      · rw [if_neg h3]
        by_cases h4 : n < last
        · rw [if_pos h4]
          simp only [f160, runL, opQ, evOp, evO, evOs, guardV, argsA, pvs, putS, cellsOf, scals, scal, Nat.reduceEqDiff, Nat.reduceAdd, reduceCtorEq, fieldA, nonNil, cellsAt, mkAgg, allPV, storeB, patchL, Int.reduceToNat, Nat.reduceMul, Nat.reduceLT, stepA, Int.reduceNeg, Int.reduceLE, Int.reduceLT, Int.reduceEq, extractV, mkAgg, Nat.reduceLeDiff, fillA, pureVs, pureV, eqV, eqB, lenV.eq_1, lenV.eq_2, lenV.eq_3, lenV.eq_4, binV, intBin, intV, idxA, List.drop, List.take, RetP, retP, resV, resOne, snapV, snapVs, snapR, snapRs, ownSz, pickV, AO.isC, opE, opD, funV.eq_1, funV.eq_2, h1, h2, h3, h4]
        · rw [if_neg h4]
          simp only [f160, runL, opQ, evOp, evO, evOs, guardV, argsA, pvs, putS, cellsOf, scals, scal, Nat.reduceEqDiff, Nat.reduceAdd, reduceCtorEq, fieldA, nonNil, cellsAt, mkAgg, allPV, storeB, patchL, Int.reduceToNat, Nat.reduceMul, Nat.reduceLT, stepA, Int.reduceNeg, Int.reduceLE, Int.reduceLT, Int.reduceEq, extractV, mkAgg, Nat.reduceLeDiff, fillA, pureVs, pureV, eqV, eqB, lenV.eq_1, lenV.eq_2, lenV.eq_3, lenV.eq_4, binV, intBin, intV, idxA, List.drop, List.take, RetP, retP, resV, resOne, snapV, snapVs, snapR, snapRs, ownSz, pickV, AO.isC, opE, opD, funV.eq_1, funV.eq_2, h1, h2, h3, h4]
theorem load3_loop (s : Snap) (id : Int) (hl : s.loads.length ≤ 2 ^ 30) (Q : Exit → St → Prop) (o : Int)
    (hend : o = -1 → ∀ fr hp nx, Q (.exit 0) ⟨fr, hp, nx⟩) (hret : ∀ fr hp nx, look fr 4 = .pv (.int .i64 o) → Q .ret ⟨fr, hp, nx⟩) :
    ∀ (rest : List Load) (i : Nat), s.loads.drop i = rest → i ≤ s.loads.length → ixLoad id i rest = o → ∀ (fr : List (Nat × AV)) (hp : Hl) (nx : Nat), look fr 5 = .pv (.int .i64 i) → look fr 1 = .pv (.int .i64 id) → look fr 2 = .ptr 0 0 0 →
      blkAt hp 0 = .var [.pv (.slice (s.nodes.map nodeC)), .pv (.slice (s.loads.map loadC)), .pv (.slice (s.pods.map podC))] → Wp T false (.loop f154l0) ⟨fr, hp, nx⟩ Q := by
  intro rest
  induction rest with
  | nil =>
    intro i hd hi ho fr hp nx h5 h1 h2 b0
    have hlen := drop_nil hd hi
    rw [Wp_loop, Wp_eq f154l0.eq_1]
    simp only [runL, opQ, evOp, evO, evOs, guardV, argsA, pvs, putS, cellsOf, scals, scal, Nat.reduceEqDiff, Nat.reduceAdd, reduceCtorEq, fieldA, nonNil, cellsAt, mkAgg, allPV, storeB, patchL, Int.reduceToNat, Nat.reduceMul, Nat.reduceLT, stepA, Int.reduceNeg, Int.reduceLE, Int.reduceLT, Int.reduceEq, extractV, mkAgg, Nat.reduceLeDiff, fillA, pureVs, pureV, eqV, eqB, lenV.eq_1, lenV.eq_2, lenV.eq_3, lenV.eq_4, binV, intBin, intV, idxA, List.drop, List.take, RetP, retP, resV, resOne, snapV, snapVs, snapR, snapRs, ownSz, pickV, AO.isC, opE, opD, funV.eq_1, funV.eq_2, h5, h1, h2, b0, hlen, Int.lt_irrefl]
    exact hend ho.symm _ _ _
  | cons n r ih =>
    intro i hd hi ho fr hp nx h5 h1 h2 b0
    obtain ⟨hget, hlt, hw, hd', hi', hb⟩ := drop_cons hd hl
    simp only [ixLoad] at ho
    rw [Wp_loop, Wp_eq f154l0.eq_1]
    by_cases hk : n.id = id
    · rw [if_pos hk] at ho
      simp only [runL, opQ, evOp, evO, evOs, guardV, argsA, pvs, putS, cellsOf, scals, scal, Nat.reduceEqDiff, Nat.reduceAdd, reduceCtorEq, fieldA, nonNil, cellsAt, mkAgg, allPV, storeB, patchL, Int.reduceToNat, Nat.reduceMul, Nat.reduceLT, stepA, Int.reduceNeg, Int.reduceLE, Int.reduceLT, Int.reduceEq, extractV, mkAgg, Nat.reduceLeDiff, fillA, pureVs, pureV, eqV, eqB, lenV.eq_1, lenV.eq_2, lenV.eq_3, lenV.eq_4, binV, intBin, intV, idxA, List.drop, List.take, RetP, retP, resV, resOne, snapV, snapVs, snapR, snapRs, ownSz, pickV, AO.isC, opE, opD, funV.eq_1, funV.eq_2, h5, h1, h2, b0, hlt, hget, loadC, hk]
      exact hret _ _ _ (by simp only [look_if, Nat.reduceEqDiff, if_true, if_false, ← ho])
    · rw [if_neg hk] at ho
      simp only [runL, opQ, evOp, evO, evOs, guardV, argsA, pvs, putS, cellsOf, scals, scal, Nat.reduceEqDiff, Nat.reduceAdd, reduceCtorEq, fieldA, nonNil, cellsAt, mkAgg, allPV, storeB, patchL, Int.reduceToNat, Nat.reduceMul, Nat.reduceLT, stepA, Int.reduceNeg, Int.reduceLE, Int.reduceLT, Int.reduceEq, extractV, mkAgg, Nat.reduceLeDiff, fillA, pureVs, pureV, eqV, eqB, lenV.eq_1, lenV.eq_2, lenV.eq_3, lenV.eq_4, binV, intBin, intV, idxA, List.drop, List.take, RetP, retP, resV, resOne, snapV, snapVs, snapR, snapRs, ownSz, pickV, AO.isC, opE, opD, funV.eq_1, funV.eq_2, h5, h1, h2, b0, hlt, hget, loadC, hk, hw]
      refine ih (i + 1) hd' hi' ho _ _ _ ?_ ?_ ?_ b0
      all_goals try simp only [look_if, blkAt_if, Nat.reduceEqDiff, if_true, if_false, h1, h2]
theorem load3_ok (h154 : Std T 154 f154) (s : Snap) (id : Int) (hl : s.loads.length ≤ 2 ^ 30) : Gives T 154 [snapP s, .int .i64 id] (.int .i64 (ixLoad id 0 s.loads)) := by
  refine gives h154 rfl ?_
  simp only [f154, runL, opQ, evOp, evO, evOs, guardV, argsA, pvs, putS, cellsOf, scals, scal, Nat.reduceEqDiff, Nat.reduceAdd, reduceCtorEq, fieldA, nonNil, cellsAt, mkAgg, allPV, storeB, patchL, Int.reduceToNat, Nat.reduceMul, Nat.reduceLT, stepA, Int.reduceNeg, Int.reduceLE, Int.reduceLT, Int.reduceEq, extractV, mkAgg, Nat.reduceLeDiff, fillA, pureVs, pureV, eqV, eqB, lenV.eq_1, lenV.eq_2, lenV.eq_3, lenV.eq_4, binV, intBin, intV, idxA, List.drop, List.take, RetP, retP, resV, resOne, snapV, snapVs, snapR, snapRs, ownSz, pickV, AO.isC, opE, opD, funV.eq_1, funV.eq_2, snapP]
  refine load3_loop s id hl _ (ixLoad id 0 s.loads) (fun ho fr hp nx => ?_) (fun fr hp nx h4 => ?_) s.loads 0 rfl (Nat.zero_le _) rfl _ _ _ rfl rfl rfl rfl
  · simp only [runL, opQ, evOp, evO, evOs, guardV, argsA, pvs, putS, cellsOf, scals, scal, Nat.reduceEqDiff, Nat.reduceAdd, reduceCtorEq, fieldA, nonNil, cellsAt, mkAgg, allPV, storeB, patchL, Int.reduceToNat, Nat.reduceMul, Nat.reduceLT, stepA, Int.reduceNeg, Int.reduceLE, Int.reduceLT, Int.reduceEq, extractV, mkAgg, Nat.reduceLeDiff, fillA, pureVs, pureV, eqV, eqB, lenV.eq_1, lenV.eq_2, lenV.eq_3, lenV.eq_4, binV, intBin, intV, idxA, List.drop, List.take, RetP, retP, resV, resOne, snapV, snapVs, snapR, snapRs, ownSz, pickV, AO.isC, opE, opD, funV.eq_1, funV.eq_2, ho]
  · simp only [runL, opQ, evOp, evO, evOs, guardV, argsA, pvs, putS, cellsOf, scals, scal, Nat.reduceEqDiff, Nat.reduceAdd, reduceCtorEq, fieldA, nonNil, cellsAt, mkAgg, allPV, storeB, patchL, Int.reduceToNat, Nat.reduceMul, Nat.reduceLT, stepA, Int.reduceNeg, Int.reduceLE, Int.reduceLT, Int.reduceEq, extractV, mkAgg, Nat.reduceLeDiff, fillA, pureVs, pureV, eqV, eqB, lenV.eq_1, lenV.eq_2, lenV.eq_3, lenV.eq_4, binV, intBin, intV, idxA, List.drop, List.take, RetP, retP, resV, resOne, snapV, snapVs, snapR, snapRs, ownSz, pickV, AO.isC, opE, opD, funV.eq_1, funV.eq_2, h4]
theorem pod3_loop (s : Snap) (id : Int) (hl : s.pods.length ≤ 2 ^ 30) (Q : Exit → St → Prop) (o : Int)
    (hend : o = -1 → ∀ fr hp nx, Q (.exit 0) ⟨fr, hp, nx⟩) (hret : ∀ fr hp nx, look fr 4 = .pv (.int .i64 o) → Q .ret ⟨fr, hp, nx⟩) :
    ∀ (rest : List Pod) (i : Nat), s.pods.drop i = rest → i ≤ s.pods.length → placeFrom id i rest = o → ∀ (fr : List (Nat × AV)) (hp : Hl) (nx : Nat), look fr 5 = .pv (.int .i64 i) → look fr 1 = .pv (.int .i64 id) → look fr 2 = .ptr 0 0 0 →
      blkAt hp 0 = .var [.pv (.slice (s.nodes.map nodeC)), .pv (.slice (s.loads.map loadC)), .pv (.slice (s.pods.map podC))] → Wp T false (.loop f156l0) ⟨fr, hp, nx⟩ Q := by
  intro rest
  induction rest with
  | nil =>
    intro i hd hi ho fr hp nx h5 h1 h2 b0
    have hlen := drop_nil hd hi
    rw [Wp_loop, Wp_eq f156l0.eq_1]
    simp only [runL, opQ, evOp, evO, evOs, guardV, argsA, pvs, putS, cellsOf, scals, scal, Nat.reduceEqDiff, Nat.reduceAdd, reduceCtorEq, fieldA, nonNil, cellsAt, mkAgg, allPV, storeB, patchL, Int.reduceToNat, Nat.reduceMul, Nat.reduceLT, stepA, Int.reduceNeg, Int.reduceLE, Int.reduceLT, Int.reduceEq, extractV, mkAgg, Nat.reduceLeDiff, fillA, pureVs, pureV, eqV, eqB, lenV.eq_1, lenV.eq_2, lenV.eq_3, lenV.eq_4, binV, intBin, intV, idxA, List.drop, List.take, RetP, retP, resV, resOne, snapV, snapVs, snapR, snapRs, ownSz, pickV, AO.isC, opE, opD, funV.eq_1, funV.eq_2, h5, h1, h2, b0, hlen, Int.lt_irrefl]
    exact hend ho.symm _ _ _
  | cons n r ih =>
    intro i hd hi ho fr hp nx h5 h1 h2 b0
    obtain ⟨hget, hlt, hw, hd', hi', hb⟩ := drop_cons hd hl
    simp only [placeFrom] at ho
    rw [Wp_loop, Wp_eq f156l0.eq_1]
    by_cases hk : n.id = id
    · rw [if_pos hk] at ho
      simp only [runL, opQ, evOp, evO, evOs, guardV, argsA, pvs, putS, cellsOf, scals, scal, Nat.reduceEqDiff, Nat.reduceAdd, reduceCtorEq, fieldA, nonNil, cellsAt, mkAgg, allPV, storeB, patchL, Int.reduceToNat, Nat.reduceMul, Nat.reduceLT, stepA, Int.reduceNeg, Int.reduceLE, Int.reduceLT, Int.reduceEq, extractV, mkAgg, Nat.reduceLeDiff, fillA, pureVs, pureV, eqV, eqB, lenV.eq_1, lenV.eq_2, lenV.eq_3, lenV.eq_4, binV, intBin, intV, idxA, List.drop, List.take, RetP, retP, resV, resOne, snapV, snapVs, snapR, snapRs, ownSz, pickV, AO.isC, opE, opD, funV.eq_1, funV.eq_2, h5, h1, h2, b0, hlt, hget, podC, hk]
      exact hret _ _ _ (by simp only [look_if, Nat.reduceEqDiff, if_true, if_false, ← ho])
    · rw [if_neg hk] at ho
      simp only [runL, opQ, evOp, evO, evOs, guardV, argsA, pvs, putS, cellsOf, scals, scal, Nat.reduceEqDiff, Nat.reduceAdd, reduceCtorEq, fieldA, nonNil, cellsAt, mkAgg, allPV, storeB, patchL, Int.reduceToNat, Nat.reduceMul, Nat.reduceLT, stepA, Int.reduceNeg, Int.reduceLE, Int.reduceLT, Int.reduceEq, extractV, mkAgg, Nat.reduceLeDiff, fillA, pureVs, pureV, eqV, eqB, lenV.eq_1, lenV.eq_2, lenV.eq_3, lenV.eq_4, binV, intBin, intV, idxA, List.drop, List.take, RetP, retP, resV, resOne, snapV, snapVs, snapR, snapRs, ownSz, pickV, AO.isC, opE, opD, funV.eq_1, funV.eq_2, h5, h1, h2, b0, hlt, hget, podC, hk, hw]
      refine ih (i + 1) hd' hi' ho _ _ _ ?_ ?_ ?_ b0
      all_goals try simp only [look_if, blkAt_if, Nat.reduceEqDiff, if_true, if_false, h1, h2]
theorem pod3_ok (h156 : Std T 156 f156) (s : Snap) (id : Int) (hl : s.pods.length ≤ 2 ^ 30) : Gives T 156 [snapP s, .int .i64 id] (.int .i64 (placeFrom id 0 s.pods)) := by
  refine gives h156 rfl ?_
  simp only [f156, runL, opQ, evOp, evO, evOs, guardV, argsA, pvs, putS, cellsOf, scals, scal, Nat.reduceEqDiff, Nat.reduceAdd, reduceCtorEq, fieldA, nonNil, cellsAt, mkAgg, allPV, storeB, patchL, Int.reduceToNat, Nat.reduceMul, Nat.reduceLT, stepA, Int.reduceNeg, Int.reduceLE, Int.reduceLT, Int.reduceEq, extractV, mkAgg, Nat.reduceLeDiff, fillA, pureVs, pureV, eqV, eqB, lenV.eq_1, lenV.eq_2, lenV.eq_3, lenV.eq_4, binV, intBin, intV, idxA, List.drop, List.take, RetP, retP, resV, resOne, snapV, snapVs, snapR, snapRs, ownSz, pickV, AO.isC, opE, opD, funV.eq_1, funV.eq_2, snapP]
  refine pod3_loop s id hl _ (placeFrom id 0 s.pods) (fun ho fr hp nx => ?_) (fun fr hp nx h4 => ?_) s.pods 0 rfl (Nat.zero_le _) rfl _ _ _ rfl rfl rfl rfl
  · simp only [runL, opQ, evOp, evO, evOs, guardV, argsA, pvs, putS, cellsOf, scals, scal, Nat.reduceEqDiff, Nat.reduceAdd, reduceCtorEq, fieldA, nonNil, cellsAt, mkAgg, allPV, storeB, patchL, Int.reduceToNat, Nat.reduceMul, Nat.reduceLT, stepA, Int.reduceNeg, Int.reduceLE, Int.reduceLT, Int.reduceEq, extractV, mkAgg, Nat.reduceLeDiff, fillA, pureVs, pureV, eqV, eqB, lenV.eq_1, lenV.eq_2, lenV.eq_3, lenV.eq_4, binV, intBin, intV, idxA, List.drop, List.take, RetP, retP, resV, resOne, snapV, snapVs, snapR, snapRs, ownSz, pickV, AO.isC, opE, opD, funV.eq_1, funV.eq_2, ho]
  · simp only [runL, opQ, evOp, evO, evOs, guardV, argsA, pvs, putS, cellsOf, scals, scal, Nat.reduceEqDiff, Nat.reduceAdd, reduceCtorEq, fieldA, nonNil, cellsAt, mkAgg, allPV, storeB, patchL, Int.reduceToNat, Nat.reduceMul, Nat.reduceLT, stepA, Int.reduceNeg, Int.reduceLE, Int.reduceLT, Int.reduceEq, extractV, mkAgg, Nat.reduceLeDiff, fillA, pureVs, pureV, eqV, eqB, lenV.eq_1, lenV.eq_2, lenV.eq_3, lenV.eq_4, binV, intBin, intV, idxA, List.drop, List.take, RetP, retP, resV, resOne, snapV, snapVs, snapR, snapRs, ownSz, pickV, AO.isC, opE, opD, funV.eq_1, funV.eq_2, h4]
theorem lookC_max {n last c : Int} (h : lookC n last c = 0) : n ≤ 2147483647 := by
  have hi : idP n last = 0 := by
    unfold lookC at h
    split at h
    · exact h
    · rename_i h0; simpa using h0
  unfold idP at hi
  split at hi
  · omega
  · split at hi <;> omega
set_option maxRecDepth 100000 in
set_option maxHeartbeats 4000000 in
theorem ref_0 (S : Std3r T) (s : Snap) (hn : s.nodes.length ≤ 2 ^ 28) (hl : s.loads.length ≤ 2 ^ 28) (hpl : s.pods.length ≤ 2 ^ 28) (a0 : Int) (ha0 : 0 ≤ a0) (ha1 : a0 ≤ 2 ^ 29) (Q : Exit → St → Prop) (tot : Option (Int × Int))
    (hend : tot = none → ∀ fr hp nx, 1 ≤ nx → look fr 1 = .ptr 0 0 0 → look fr 5 = .pv (.int .i64 (a0 + (s.nodes.length : Int))) → blkAt hp 0 = .var [.pv (.slice (s.nodes.map nodeC)), .pv (.slice (s.loads.map loadC)), .pv (.slice (s.pods.map podC))] → Q (.exit 0) ⟨fr, hp, nx⟩)
    (hret : ∀ c a, tot = some (c, a) → ∀ fr hp nx, look fr 2 = .pv (.int .i64 c) → look fr 3 = .pv (.int .i64 a) → Q .ret ⟨fr, hp, nx⟩) :
    ∀ (rest : List Node) (i : Nat) (last : Int), s.nodes.drop i = rest → i ≤ s.nodes.length → last ≤ 2147483647 → fstB Node.id nodeBad last (a0 + i) rest = tot → ∀ (fr : List (Nat × AV)) (hp : Hl) (nx : Nat), 1 ≤ nx → look fr 1 = .ptr 0 0 0 →
      blkAt hp 0 = .var [.pv (.slice (s.nodes.map nodeC)), .pv (.slice (s.loads.map loadC)), .pv (.slice (s.pods.map podC))] → look fr 4 = .pv (.int .i64 last) → look fr 5 = .pv (.int .i64 (a0 + i)) → look fr 6 = .pv (.int .i64 i) → Wp T false (.loop f151l0) ⟨fr, hp, nx⟩ Q := by
  intro rest
  induction rest with
  | nil =>
    intro i last hd hi hlast ho fr hp nx hnx g1 b0 g4 g5 gI
    have hlen := drop_nil hd hi
    rw [Wp_loop, Wp_eq f151l0.eq_1]
    simp only [runL, opQ, evOp, evO, evOs, guardV, argsA, pvs, putS, cellsOf, scals, scal, Nat.reduceEqDiff, Nat.reduceAdd, reduceCtorEq, fieldA, nonNil, cellsAt, mkAgg, allPV, storeB, patchL, Int.reduceToNat, Nat.reduceMul, Nat.reduceLT, stepA, Int.reduceNeg, Int.reduceLE, Int.reduceLT, Int.reduceEq, extractV, mkAgg, Nat.reduceLeDiff, fillA, pureVs, pureV, eqV, eqB, lenV.eq_1, lenV.eq_2, lenV.eq_3, lenV.eq_4, binV, intBin, intV, idxA, List.drop, List.take, RetP, retP, resV, resOne, snapV, snapVs, snapR, snapRs, ownSz, pickV, AO.isC, opE, opD, funV.eq_1, funV.eq_2, g1, b0, gI, hlen, Int.lt_irrefl]
    refine hend ho.symm _ _ _ hnx ?_ ?_ b0
    all_goals try simp only [look_if, blkAt_if, Nat.reduceEqDiff, if_true, if_false, g1, g5]
    rw [hlen]
  | cons x r ih =>
    intro i last hd hi hlast ho fr hp nx hnx g1 b0 g4 g5 gI
    obtain ⟨hget, hlt, hw, hd', hi', hbb⟩ := drop_cons hd (by omega)
    have n0 : ¬ nx = 0 := by omega
    have wa : IntKind.i64.wrap (a0 + (i : Int) + 1) = a0 + ((i + 1 : Nat) : Int) := by rw [wrap6] <;> omega
    have ki := idr_ok S.h160 x.id last
    rw [← idP_idR hlast] at ki
    have fin : ∀ c, lookC x.id last (nodeBad x) = c → c ≠ 0 → ∀ fr hp nx, look fr 2 = .pv (.int .i64 c) → look fr 3 = .pv (.int .i64 (a0 + i)) → Q .ret ⟨fr, hp, nx⟩ := by
      intro c h1 h2
      refine hret c _ ?_
      rw [← ho, fstB]
      unfold lookB
      rw [h1, if_pos h2, Option.some_or]
    have nxt : lookC x.id last (nodeBad x) = 0 → ∀ fr' hp' nx', 1 ≤ nx' → look fr' 1 = look fr 1 → blkAt hp' 0 = blkAt hp 0 → look fr' 4 = .pv (.int .i64 x.id) → look fr' 5 = .pv (.int .i64 (a0 + ((i + 1 : Nat) : Int))) → look fr' 6 = .pv (.int .i64 ((i + 1 : Nat) : Int)) → Wp T false (.loop f151l0) ⟨fr', hp', nx'⟩ Q := by
      intro h1 fr' hp' nx' q1 q2 q3 q4 q5 q6
      refine ih (i + 1) x.id hd' hi' (lookC_max h1) ?_ fr' hp' nx' q1 (q2.trans g1) (q3.trans b0) q4 q5 q6
      rw [← ho, fstB]
      unfold lookB
      rw [h1, if_neg (by simp), Option.none_or, show a0 + ((i + 1 : Nat) : Int) = a0 + i + 1 by omega]
    have kf := fits_ok S.h141 x.held x.cap
    simp only [vecP, vecC] at kf
    rw [Wp_loop, Wp_eq f151l0.eq_1]
    by_cases hid : idP x.id last = 0
    · have hlc : lookC x.id last (nodeBad x) = nodeBad x := by unfold lookC; rw [if_neg (by simpa using hid)]
      rw [hid] at ki
      by_cases c1 : x.zone < 1
      · have hb : nodeBad x = 1 := by unfold nodeBad; rw [if_neg (by omega)]
        simp only [runL, opQ, evOp, evO, evOs, guardV, argsA, pvs, putS, cellsOf, scals, scal, Nat.reduceEqDiff, Nat.reduceAdd, reduceCtorEq, fieldA, nonNil, cellsAt, mkAgg, allPV, storeB, patchL, Int.reduceToNat, Nat.reduceMul, Nat.reduceLT, stepA, Int.reduceNeg, Int.reduceLE, Int.reduceLT, Int.reduceEq, extractV, mkAgg, Nat.reduceLeDiff, fillA, pureVs, pureV, eqV, eqB, lenV.eq_1, lenV.eq_2, lenV.eq_3, lenV.eq_4, binV, intBin, intV, idxA, List.drop, List.take, RetP, retP, resV, resOne, snapV, snapVs, snapR, snapRs, ownSz, pickV, AO.isC, opE, opD, funV.eq_1, funV.eq_2, g1, b0, g4, g5, gI, hlt, hget, n0, ki.call, nodeC, kf.call, c1]
        refine fin _ (hlc.trans hb) (by decide) _ _ _ ?_ ?_
        all_goals try simp only [look_if, blkAt_if, Nat.reduceEqDiff, if_true, if_false, g5]
      · by_cases c2 : 8 < x.zone
        · have hb : nodeBad x = 1 := by unfold nodeBad; rw [if_neg (by omega)]
          simp only [runL, opQ, evOp, evO, evOs, guardV, argsA, pvs, putS, cellsOf, scals, scal, Nat.reduceEqDiff, Nat.reduceAdd, reduceCtorEq, fieldA, nonNil, cellsAt, mkAgg, allPV, storeB, patchL, Int.reduceToNat, Nat.reduceMul, Nat.reduceLT, stepA, Int.reduceNeg, Int.reduceLE, Int.reduceLT, Int.reduceEq, extractV, mkAgg, Nat.reduceLeDiff, fillA, pureVs, pureV, eqV, eqB, lenV.eq_1, lenV.eq_2, lenV.eq_3, lenV.eq_4, binV, intBin, intV, idxA, List.drop, List.take, RetP, retP, resV, resOne, snapV, snapVs, snapR, snapRs, ownSz, pickV, AO.isC, opE, opD, funV.eq_1, funV.eq_2, g1, b0, g4, g5, gI, hlt, hget, n0, ki.call, nodeC, kf.call, c1, c2]
          refine fin _ (hlc.trans hb) (by decide) _ _ _ ?_ ?_
          all_goals try simp only [look_if, blkAt_if, Nat.reduceEqDiff, if_true, if_false, g5]
        · cases hf : fitsB x.held x.cap
          · have hb : nodeBad x = 1 := by unfold nodeBad; rw [if_neg (by simp [hf])]
            rw [hf] at kf
            simp only [runL, opQ, evOp, evO, evOs, guardV, argsA, pvs, putS, cellsOf, scals, scal, Nat.reduceEqDiff, Nat.reduceAdd, reduceCtorEq, fieldA, nonNil, cellsAt, mkAgg, allPV, storeB, patchL, Int.reduceToNat, Nat.reduceMul, Nat.reduceLT, stepA, Int.reduceNeg, Int.reduceLE, Int.reduceLT, Int.reduceEq, extractV, mkAgg, Nat.reduceLeDiff, fillA, pureVs, pureV, eqV, eqB, lenV.eq_1, lenV.eq_2, lenV.eq_3, lenV.eq_4, binV, intBin, intV, idxA, List.drop, List.take, RetP, retP, resV, resOne, snapV, snapVs, snapR, snapRs, ownSz, pickV, AO.isC, opE, opD, funV.eq_1, funV.eq_2, g1, b0, g4, g5, gI, hlt, hget, n0, ki.call, nodeC, kf.call, c1, c2]
            refine fin _ (hlc.trans hb) (by decide) _ _ _ ?_ ?_
            all_goals try simp only [look_if, blkAt_if, Nat.reduceEqDiff, if_true, if_false, g5]
          · have hb : nodeBad x = 0 := by unfold nodeBad; rw [if_pos ⟨by omega, by omega, hf⟩]
            rw [hf] at kf
            simp only [runL, opQ, evOp, evO, evOs, guardV, argsA, pvs, putS, cellsOf, scals, scal, Nat.reduceEqDiff, Nat.reduceAdd, reduceCtorEq, fieldA, nonNil, cellsAt, mkAgg, allPV, storeB, patchL, Int.reduceToNat, Nat.reduceMul, Nat.reduceLT, stepA, Int.reduceNeg, Int.reduceLE, Int.reduceLT, Int.reduceEq, extractV, mkAgg, Nat.reduceLeDiff, fillA, pureVs, pureV, eqV, eqB, lenV.eq_1, lenV.eq_2, lenV.eq_3, lenV.eq_4, binV, intBin, intV, idxA, List.drop, List.take, RetP, retP, resV, resOne, snapV, snapVs, snapR, snapRs, ownSz, pickV, AO.isC, opE, opD, funV.eq_1, funV.eq_2, g1, b0, g4, g5, gI, hlt, hget, n0, ki.call, nodeC, kf.call, c1, c2, wa, hw]
            refine nxt (hlc.trans hb) _ _ _ (by omega) ?_ ?_ ?_ ?_ ?_
            all_goals try simp only [look_if, blkAt_if, Nat.reduceEqDiff, if_true, if_false, g1, n0, b0]
    · have hlc : lookC x.id last (nodeBad x) = idP x.id last := by unfold lookC; rw [if_pos hid]
      simp only [runL, opQ, evOp, evO, evOs, guardV, argsA, pvs, putS, cellsOf, scals, scal, Nat.reduceEqDiff, Nat.reduceAdd, reduceCtorEq, fieldA, nonNil, cellsAt, mkAgg, allPV, storeB, patchL, Int.reduceToNat, Nat.reduceMul, Nat.reduceLT, stepA, Int.reduceNeg, Int.reduceLE, Int.reduceLT, Int.reduceEq, extractV, mkAgg, Nat.reduceLeDiff, fillA, pureVs, pureV, eqV, eqB, lenV.eq_1, lenV.eq_2, lenV.eq_3, lenV.eq_4, binV, intBin, intV, idxA, List.drop, List.take, RetP, retP, resV, resOne, snapV, snapVs, snapR, snapRs, ownSz, pickV, AO.isC, opE, opD, funV.eq_1, funV.eq_2, g1, b0, g4, g5, gI, hlt, hget, n0, ki.call, nodeC, kf.call, hid]
      refine fin _ hlc hid _ _ _ ?_ ?_
      all_goals try simp only [look_if, blkAt_if, Nat.reduceEqDiff, if_true, if_false, g5]
set_option maxRecDepth 100000 in
set_option maxHeartbeats 4000000 in
theorem ref_1 (S : Std3r T) (s : Snap) (hn : s.nodes.length ≤ 2 ^ 28) (hl : s.loads.length ≤ 2 ^ 28) (hpl : s.pods.length ≤ 2 ^ 28) (a0 : Int) (ha0 : 0 ≤ a0) (ha1 : a0 ≤ 2 ^ 29) (Q : Exit → St → Prop) (tot : Option (Int × Int))
    (hend : tot = none → ∀ fr hp nx, 1 ≤ nx → look fr 1 = .ptr 0 0 0 → look fr 5 = .pv (.int .i64 (a0 + (s.loads.length : Int))) → blkAt hp 0 = .var [.pv (.slice (s.nodes.map nodeC)), .pv (.slice (s.loads.map loadC)), .pv (.slice (s.pods.map podC))] → Q (.exit 2) ⟨fr, hp, nx⟩)
    (hret : ∀ c a, tot = some (c, a) → ∀ fr hp nx, look fr 2 = .pv (.int .i64 c) → look fr 3 = .pv (.int .i64 a) → Q .ret ⟨fr, hp, nx⟩) :
    ∀ (rest : List Load) (i : Nat) (last : Int), s.loads.drop i = rest → i ≤ s.loads.length → last ≤ 2147483647 → fstB Load.id loadBad last (a0 + i) rest = tot → ∀ (fr : List (Nat × AV)) (hp : Hl) (nx : Nat), 1 ≤ nx → look fr 1 = .ptr 0 0 0 →
      blkAt hp 0 = .var [.pv (.slice (s.nodes.map nodeC)), .pv (.slice (s.loads.map loadC)), .pv (.slice (s.pods.map podC))] → look fr 4 = .pv (.int .i64 last) → look fr 5 = .pv (.int .i64 (a0 + i)) → look fr 10 = .pv (.int .i64 i) → Wp T false (.loop f151l1) ⟨fr, hp, nx⟩ Q := by
  intro rest
  induction rest with
  | nil =>
    intro i last hd hi hlast ho fr hp nx hnx g1 b0 g4 g5 gI
    have hlen := drop_nil hd hi
    rw [Wp_loop, Wp_eq f151l1.eq_1]
    simp only [runL, opQ, evOp, evO, evOs, guardV, argsA, pvs, putS, cellsOf, scals, scal, Nat.reduceEqDiff, Nat.reduceAdd, reduceCtorEq, fieldA, nonNil, cellsAt, mkAgg, allPV, storeB, patchL, Int.reduceToNat, Nat.reduceMul, Nat.reduceLT, stepA, Int.reduceNeg, Int.reduceLE, Int.reduceLT, Int.reduceEq, extractV, mkAgg, Nat.reduceLeDiff, fillA, pureVs, pureV, eqV, eqB, lenV.eq_1, lenV.eq_2, lenV.eq_3, lenV.eq_4, binV, intBin, intV, idxA, List.drop, List.take, RetP, retP, resV, resOne, snapV, snapVs, snapR, snapRs, ownSz, pickV, AO.isC, opE, opD, funV.eq_1, funV.eq_2, g1, b0, gI, hlen, Int.lt_irrefl]
    refine hend ho.symm _ _ _ hnx ?_ ?_ b0
    all_goals try simp only [look_if, blkAt_if, Nat.reduceEqDiff, if_true, if_false, g1, g5]
    rw [hlen]
  | cons x r ih =>
    intro i last hd hi hlast ho fr hp nx hnx g1 b0 g4 g5 gI
    obtain ⟨hget, hlt, hw, hd', hi', hbb⟩ := drop_cons hd (by omega)
    have n0 : ¬ nx = 0 := by omega
    have wa : IntKind.i64.wrap (a0 + (i : Int) + 1) = a0 + ((i + 1 : Nat) : Int) := by rw [wrap6] <;> omega
    have ki := idr_ok S.h160 x.id last
    rw [← idP_idR hlast] at ki
    have fin : ∀ c, lookC x.id last (loadBad x) = c → c ≠ 0 → ∀ fr hp nx, look fr 2 = .pv (.int .i64 c) → look fr 3 = .pv (.int .i64 (a0 + i)) → Q .ret ⟨fr, hp, nx⟩ := by
      intro c h1 h2
      refine hret c _ ?_
      rw [← ho, fstB]
      unfold lookB
      rw [h1, if_pos h2, Option.some_or]
    have nxt : lookC x.id last (loadBad x) = 0 → ∀ fr' hp' nx', 1 ≤ nx' → look fr' 1 = look fr 1 → blkAt hp' 0 = blkAt hp 0 → look fr' 4 = .pv (.int .i64 x.id) → look fr' 5 = .pv (.int .i64 (a0 + ((i + 1 : Nat) : Int))) → look fr' 10 = .pv (.int .i64 ((i + 1 : Nat) : Int)) → Wp T false (.loop f151l1) ⟨fr', hp', nx'⟩ Q := by
      intro h1 fr' hp' nx' q1 q2 q3 q4 q5 q6
      refine ih (i + 1) x.id hd' hi' (lookC_max h1) ?_ fr' hp' nx' q1 (q2.trans g1) (q3.trans b0) q4 q5 q6
      rw [← ho, fstB]
      unfold lookB
      rw [h1, if_neg (by simp), Option.none_or, show a0 + ((i + 1 : Nat) : Int) = a0 + i + 1 by omega]
    have k1 := countr_ok S.h159 x.skew
    have k2 := countr_ok S.h159 x.min
    have k3 := countr_ok S.h159 x.max
    rw [Wp_loop, Wp_eq f151l1.eq_1]
    by_cases hid : idP x.id last = 0
    · have hlc : lookC x.id last (loadBad x) = loadBad x := by unfold lookC; rw [if_neg (by simpa using hid)]
      rw [hid] at ki
      cases c1 : countB x.skew
      · have hb : loadBad x = 1 := by unfold loadBad; rw [if_neg (by simp [c1])]
        rw [c1] at k1
        simp only [runL, opQ, evOp, evO, evOs, guardV, argsA, pvs, putS, cellsOf, scals, scal, Nat.reduceEqDiff, Nat.reduceAdd, reduceCtorEq, fieldA, nonNil, cellsAt, mkAgg, allPV, storeB, patchL, Int.reduceToNat, Nat.reduceMul, Nat.reduceLT, stepA, Int.reduceNeg, Int.reduceLE, Int.reduceLT, Int.reduceEq, extractV, mkAgg, Nat.reduceLeDiff, fillA, pureVs, pureV, eqV, eqB, lenV.eq_1, lenV.eq_2, lenV.eq_3, lenV.eq_4, binV, intBin, intV, idxA, List.drop, List.take, RetP, retP, resV, resOne, snapV, snapVs, snapR, snapRs, ownSz, pickV, AO.isC, opE, opD, funV.eq_1, funV.eq_2, g1, b0, g4, g5, gI, hlt, hget, n0, ki.call, loadC, k1.call, k2.call, k3.call]
        refine fin _ (hlc.trans hb) (by decide) _ _ _ ?_ ?_
        all_goals try simp only [look_if, blkAt_if, Nat.reduceEqDiff, if_true, if_false, g5]
      · cases c2 : countB x.min
        · have hb : loadBad x = 1 := by unfold loadBad; rw [if_neg (by simp [c2])]
          rw [c1] at k1
          rw [c2] at k2
          simp only [runL, opQ, evOp, evO, evOs, guardV, argsA, pvs, putS, cellsOf, scals, scal, Nat.reduceEqDiff, Nat.reduceAdd, reduceCtorEq, fieldA, nonNil, cellsAt, mkAgg, allPV, storeB, patchL, Int.reduceToNat, Nat.reduceMul, Nat.reduceLT, stepA, Int.reduceNeg, Int.reduceLE, Int.reduceLT, Int.reduceEq, extractV, mkAgg, Nat.reduceLeDiff, fillA, pureVs, pureV, eqV, eqB, lenV.eq_1, lenV.eq_2, lenV.eq_3, lenV.eq_4, binV, intBin, intV, idxA, List.drop, List.take, RetP, retP, resV, resOne, snapV, snapVs, snapR, snapRs, ownSz, pickV, AO.isC, opE, opD, funV.eq_1, funV.eq_2, g1, b0, g4, g5, gI, hlt, hget, n0, ki.call, loadC, k1.call, k2.call, k3.call]
          refine fin _ (hlc.trans hb) (by decide) _ _ _ ?_ ?_
          all_goals try simp only [look_if, blkAt_if, Nat.reduceEqDiff, if_true, if_false, g5]
        · cases c3 : countB x.max
          · have hb : loadBad x = 1 := by unfold loadBad; rw [if_neg (by simp [c3])]
            rw [c1] at k1
            rw [c2] at k2
            rw [c3] at k3
            simp only [runL, opQ, evOp, evO, evOs, guardV, argsA, pvs, putS, cellsOf, scals, scal, Nat.reduceEqDiff, Nat.reduceAdd, reduceCtorEq, fieldA, nonNil, cellsAt, mkAgg, allPV, storeB, patchL, Int.reduceToNat, Nat.reduceMul, Nat.reduceLT, stepA, Int.reduceNeg, Int.reduceLE, Int.reduceLT, Int.reduceEq, extractV, mkAgg, Nat.reduceLeDiff, fillA, pureVs, pureV, eqV, eqB, lenV.eq_1, lenV.eq_2, lenV.eq_3, lenV.eq_4, binV, intBin, intV, idxA, List.drop, List.take, RetP, retP, resV, resOne, snapV, snapVs, snapR, snapRs, ownSz, pickV, AO.isC, opE, opD, funV.eq_1, funV.eq_2, g1, b0, g4, g5, gI, hlt, hget, n0, ki.call, loadC, k1.call, k2.call, k3.call]
            refine fin _ (hlc.trans hb) (by decide) _ _ _ ?_ ?_
            all_goals try simp only [look_if, blkAt_if, Nat.reduceEqDiff, if_true, if_false, g5]
          · rw [c1] at k1
            rw [c2] at k2
            rw [c3] at k3
            by_cases c4 : x.max < x.min
            · have hb : loadBad x = 1 := by unfold loadBad; rw [if_neg (by omega)]
              simp only [runL, opQ, evOp, evO, evOs, guardV, argsA, pvs, putS, cellsOf, scals, scal, Nat.reduceEqDiff, Nat.reduceAdd, reduceCtorEq, fieldA, nonNil, cellsAt, mkAgg, allPV, storeB, patchL, Int.reduceToNat, Nat.reduceMul, Nat.reduceLT, stepA, Int.reduceNeg, Int.reduceLE, Int.reduceLT, Int.reduceEq, extractV, mkAgg, Nat.reduceLeDiff, fillA, pureVs, pureV, eqV, eqB, lenV.eq_1, lenV.eq_2, lenV.eq_3, lenV.eq_4, binV, intBin, intV, idxA, List.drop, List.take, RetP, retP, resV, resOne, snapV, snapVs, snapR, snapRs, ownSz, pickV, AO.isC, opE, opD, funV.eq_1, funV.eq_2, g1, b0, g4, g5, gI, hlt, hget, n0, ki.call, loadC, k1.call, k2.call, k3.call, c4]
              refine fin _ (hlc.trans hb) (by decide) _ _ _ ?_ ?_
              all_goals try simp only [look_if, blkAt_if, Nat.reduceEqDiff, if_true, if_false, g5]
            · have hb : loadBad x = 0 := by unfold loadBad; rw [if_pos ⟨c1, c2, c3, by omega⟩]
              simp only [runL, opQ, evOp, evO, evOs, guardV, argsA, pvs, putS, cellsOf, scals, scal, Nat.reduceEqDiff, Nat.reduceAdd, reduceCtorEq, fieldA, nonNil, cellsAt, mkAgg, allPV, storeB, patchL, Int.reduceToNat, Nat.reduceMul, Nat.reduceLT, stepA, Int.reduceNeg, Int.reduceLE, Int.reduceLT, Int.reduceEq, extractV, mkAgg, Nat.reduceLeDiff, fillA, pureVs, pureV, eqV, eqB, lenV.eq_1, lenV.eq_2, lenV.eq_3, lenV.eq_4, binV, intBin, intV, idxA, List.drop, List.take, RetP, retP, resV, resOne, snapV, snapVs, snapR, snapRs, ownSz, pickV, AO.isC, opE, opD, funV.eq_1, funV.eq_2, g1, b0, g4, g5, gI, hlt, hget, n0, ki.call, loadC, k1.call, k2.call, k3.call, c4, wa, hw]
              refine nxt (hlc.trans hb) _ _ _ (by omega) ?_ ?_ ?_ ?_ ?_
              all_goals try simp only [look_if, blkAt_if, Nat.reduceEqDiff, if_true, if_false, g1, n0, b0]
    · have hlc : lookC x.id last (loadBad x) = idP x.id last := by unfold lookC; rw [if_pos hid]
      simp only [runL, opQ, evOp, evO, evOs, guardV, argsA, pvs, putS, cellsOf, scals, scal, Nat.reduceEqDiff, Nat.reduceAdd, reduceCtorEq, fieldA, nonNil, cellsAt, mkAgg, allPV, storeB, patchL, Int.reduceToNat, Nat.reduceMul, Nat.reduceLT, stepA, Int.reduceNeg, Int.reduceLE, Int.reduceLT, Int.reduceEq, extractV, mkAgg, Nat.reduceLeDiff, fillA, pureVs, pureV, eqV, eqB, lenV.eq_1, lenV.eq_2, lenV.eq_3, lenV.eq_4, binV, intBin, intV, idxA, List.drop, List.take, RetP, retP, resV, resOne, snapV, snapVs, snapR, snapRs, ownSz, pickV, AO.isC, opE, opD, funV.eq_1, funV.eq_2, g1, b0, g4, g5, gI, hlt, hget, n0, ki.call, loadC, k1.call, k2.call, k3.call, hid]
      refine fin _ hlc hid _ _ _ ?_ ?_
      all_goals try simp only [look_if, blkAt_if, Nat.reduceEqDiff, if_true, if_false, g5]
set_option maxRecDepth 100000 in
set_option maxHeartbeats 4000000 in
theorem ref_2 (S : Std3r T) (s : Snap) (hn : s.nodes.length ≤ 2 ^ 28) (hl : s.loads.length ≤ 2 ^ 28) (hpl : s.pods.length ≤ 2 ^ 28) (a0 : Int) (ha0 : 0 ≤ a0) (ha1 : a0 ≤ 2 ^ 29) (Q : Exit → St → Prop) (tot : Option (Int × Int))
    (hend : tot = none → ∀ fr hp nx, 1 ≤ nx → look fr 1 = .ptr 0 0 0 → look fr 5 = .pv (.int .i64 (a0 + (s.pods.length : Int))) → blkAt hp 0 = .var [.pv (.slice (s.nodes.map nodeC)), .pv (.slice (s.loads.map loadC)), .pv (.slice (s.pods.map podC))] → Q (.exit 4) ⟨fr, hp, nx⟩)
    (hret : ∀ c a, tot = some (c, a) → ∀ fr hp nx, look fr 2 = .pv (.int .i64 c) → look fr 3 = .pv (.int .i64 a) → Q .ret ⟨fr, hp, nx⟩) :
    ∀ (rest : List Pod) (i : Nat) (last : Int), s.pods.drop i = rest → i ≤ s.pods.length → last ≤ 2147483647 → fstB Pod.id (podBad s) last (a0 + i) rest = tot → ∀ (fr : List (Nat × AV)) (hp : Hl) (nx : Nat), 1 ≤ nx → look fr 1 = .ptr 0 0 0 →
      blkAt hp 0 = .var [.pv (.slice (s.nodes.map nodeC)), .pv (.slice (s.loads.map loadC)), .pv (.slice (s.pods.map podC))] → look fr 4 = .pv (.int .i64 last) → look fr 5 = .pv (.int .i64 (a0 + i)) → look fr 16 = .pv (.int .i64 i) → Wp T false (.loop f151l2) ⟨fr, hp, nx⟩ Q := by
  intro rest
  induction rest with
  | nil =>
    intro i last hd hi hlast ho fr hp nx hnx g1 b0 g4 g5 gI
    have hlen := drop_nil hd hi
    rw [Wp_loop, Wp_eq f151l2.eq_1]
    simp only [runL, opQ, evOp, evO, evOs, guardV, argsA, pvs, putS, cellsOf, scals, scal, Nat.reduceEqDiff, Nat.reduceAdd, reduceCtorEq, fieldA, nonNil, cellsAt, mkAgg, allPV, storeB, patchL, Int.reduceToNat, Nat.reduceMul, Nat.reduceLT, stepA, Int.reduceNeg, Int.reduceLE, Int.reduceLT, Int.reduceEq, extractV, mkAgg, Nat.reduceLeDiff, fillA, pureVs, pureV, eqV, eqB, lenV.eq_1, lenV.eq_2, lenV.eq_3, lenV.eq_4, binV, intBin, intV, idxA, List.drop, List.take, RetP, retP, resV, resOne, snapV, snapVs, snapR, snapRs, ownSz, pickV, AO.isC, opE, opD, funV.eq_1, funV.eq_2, g1, b0, gI, hlen, Int.lt_irrefl]
    refine hend ho.symm _ _ _ hnx ?_ ?_ b0
    all_goals try simp only [look_if, blkAt_if, Nat.reduceEqDiff, if_true, if_false, g1, g5]
    rw [hlen]
  | cons x r ih =>
    intro i last hd hi hlast ho fr hp nx hnx g1 b0 g4 g5 gI
    obtain ⟨hget, hlt, hw, hd', hi', hbb⟩ := drop_cons hd (by omega)
    have n0 : ¬ nx = 0 := by omega
    have wa : IntKind.i64.wrap (a0 + (i : Int) + 1) = a0 + ((i + 1 : Nat) : Int) := by rw [wrap6] <;> omega
    have ki := idr_ok S.h160 x.id last
    rw [← idP_idR hlast] at ki
    have fin : ∀ c, lookC x.id last ((podBad s) x) = c → c ≠ 0 → ∀ fr hp nx, look fr 2 = .pv (.int .i64 c) → look fr 3 = .pv (.int .i64 (a0 + i)) → Q .ret ⟨fr, hp, nx⟩ := by
      intro c h1 h2
      refine hret c _ ?_
      rw [← ho, fstB]
      unfold lookB
      rw [h1, if_pos h2, Option.some_or]
    have nxt : lookC x.id last ((podBad s) x) = 0 → ∀ fr' hp' nx', 1 ≤ nx' → look fr' 1 = look fr 1 → blkAt hp' 0 = blkAt hp 0 → look fr' 4 = .pv (.int .i64 x.id) → look fr' 5 = .pv (.int .i64 (a0 + ((i + 1 : Nat) : Int))) → look fr' 16 = .pv (.int .i64 ((i + 1 : Nat) : Int)) → Wp T false (.loop f151l2) ⟨fr', hp', nx'⟩ Q := by
      intro h1 fr' hp' nx' q1 q2 q3 q4 q5 q6
      refine ih (i + 1) x.id hd' hi' (lookC_max h1) ?_ fr' hp' nx' q1 (q2.trans g1) (q3.trans b0) q4 q5 q6
      rw [← ho, fstB]
      unfold lookB
      rw [h1, if_neg (by simp), Option.none_or, show a0 + ((i + 1 : Nat) : Int) = a0 + i + 1 by omega]
    have k1 := countr_ok S.h159 x.prio
    have k2 := load3_ok S.h154 s x.load (by omega)
    have k3 := node3_ok S.h155 s x.node (by omega)
    simp only [snapP] at k2 k3
    rw [Wp_loop, Wp_eq f151l2.eq_1]
    by_cases hid : idP x.id last = 0
    · have hlc : lookC x.id last ((podBad s) x) = (podBad s) x := by unfold lookC; rw [if_neg (by simpa using hid)]
      rw [hid] at ki
      cases c1 : countB x.prio
      · have hb : podBad s x = 1 := by unfold podBad; rw [if_pos c1]
        rw [c1] at k1
        simp only [runL, opQ, evOp, evO, evOs, guardV, argsA, pvs, putS, cellsOf, scals, scal, Nat.reduceEqDiff, Nat.reduceAdd, reduceCtorEq, fieldA, nonNil, cellsAt, mkAgg, allPV, storeB, patchL, Int.reduceToNat, Nat.reduceMul, Nat.reduceLT, stepA, Int.reduceNeg, Int.reduceLE, Int.reduceLT, Int.reduceEq, extractV, mkAgg, Nat.reduceLeDiff, fillA, pureVs, pureV, eqV, eqB, lenV.eq_1, lenV.eq_2, lenV.eq_3, lenV.eq_4, binV, intBin, intV, idxA, List.drop, List.take, RetP, retP, resV, resOne, snapV, snapVs, snapR, snapRs, ownSz, pickV, AO.isC, opE, opD, funV.eq_1, funV.eq_2, g1, b0, g4, g5, gI, hlt, hget, n0, ki.call, podC, k1.call, k2.call, k3.call]
        refine fin _ (hlc.trans hb) (by decide) _ _ _ ?_ ?_
        all_goals try simp only [look_if, blkAt_if, Nat.reduceEqDiff, if_true, if_false, g5]
      · rw [c1] at k1
        by_cases c2 : ixLoad x.load 0 s.loads < 0
        · have hb : podBad s x = 4 := by unfold podBad; rw [if_neg (by simp [c1]), if_pos (.inl ((ixLoad_neg _ _ _).1 c2))]
          simp only [runL, opQ, evOp, evO, evOs, guardV, argsA, pvs, putS, cellsOf, scals, scal, Nat.reduceEqDiff, Nat.reduceAdd, reduceCtorEq, fieldA, nonNil, cellsAt, mkAgg, allPV, storeB, patchL, Int.reduceToNat, Nat.reduceMul, Nat.reduceLT, stepA, Int.reduceNeg, Int.reduceLE, Int.reduceLT, Int.reduceEq, extractV, mkAgg, Nat.reduceLeDiff, fillA, pureVs, pureV, eqV, eqB, lenV.eq_1, lenV.eq_2, lenV.eq_3, lenV.eq_4, binV, intBin, intV, idxA, List.drop, List.take, RetP, retP, resV, resOne, snapV, snapVs, snapR, snapRs, ownSz, pickV, AO.isC, opE, opD, funV.eq_1, funV.eq_2, g1, b0, g4, g5, gI, hlt, hget, n0, ki.call, podC, k1.call, k2.call, k3.call, c2]
          refine fin _ (hlc.trans hb) (by decide) _ _ _ ?_ ?_
          all_goals try simp only [look_if, blkAt_if, Nat.reduceEqDiff, if_true, if_false, g5]
        · have c2' : loadOf x.load s.loads ≠ none := fun h => c2 ((ixLoad_neg _ _ _).2 h)
          by_cases c3 : x.node = 0
          · have hb : podBad s x = 0 := by unfold podBad; rw [if_neg (by simp [c1]), if_neg (by simp [c2', c3])]
            have d3 := decide_eq_true c3
            simp only [runL, opQ, evOp, evO, evOs, guardV, argsA, pvs, putS, cellsOf, scals, scal, Nat.reduceEqDiff, Nat.reduceAdd, reduceCtorEq, fieldA, nonNil, cellsAt, mkAgg, allPV, storeB, patchL, Int.reduceToNat, Nat.reduceMul, Nat.reduceLT, stepA, Int.reduceNeg, Int.reduceLE, Int.reduceLT, Int.reduceEq, extractV, mkAgg, Nat.reduceLeDiff, fillA, pureVs, pureV, eqV, eqB, lenV.eq_1, lenV.eq_2, lenV.eq_3, lenV.eq_4, binV, intBin, intV, idxA, List.drop, List.take, RetP, retP, resV, resOne, snapV, snapVs, snapR, snapRs, ownSz, pickV, AO.isC, opE, opD, funV.eq_1, funV.eq_2, g1, b0, g4, g5, gI, hlt, hget, n0, ki.call, podC, k1.call, k2.call, k3.call, c2, d3, wa, hw]
            refine nxt (hlc.trans hb) _ _ _ (by omega) ?_ ?_ ?_ ?_ ?_
            all_goals try simp only [look_if, blkAt_if, Nat.reduceEqDiff, if_true, if_false, g1, n0, b0]
          · by_cases c4 : ixNode x.node 0 s.nodes < 0
            · have hb : podBad s x = 4 := by unfold podBad; rw [if_neg (by simp [c1]), if_pos (.inr ⟨c3, (ixNode_neg _ _ _).1 c4⟩)]
              simp only [runL, opQ, evOp, evO, evOs, guardV, argsA, pvs, putS, cellsOf, scals, scal, Nat.reduceEqDiff, Nat.reduceAdd, reduceCtorEq, fieldA, nonNil, cellsAt, mkAgg, allPV, storeB, patchL, Int.reduceToNat, Nat.reduceMul, Nat.reduceLT, stepA, Int.reduceNeg, Int.reduceLE, Int.reduceLT, Int.reduceEq, extractV, mkAgg, Nat.reduceLeDiff, fillA, pureVs, pureV, eqV, eqB, lenV.eq_1, lenV.eq_2, lenV.eq_3, lenV.eq_4, binV, intBin, intV, idxA, List.drop, List.take, RetP, retP, resV, resOne, snapV, snapVs, snapR, snapRs, ownSz, pickV, AO.isC, opE, opD, funV.eq_1, funV.eq_2, g1, b0, g4, g5, gI, hlt, hget, n0, ki.call, podC, k1.call, k2.call, k3.call, c2, c3, c4]
              refine fin _ (hlc.trans hb) (by decide) _ _ _ ?_ ?_
              all_goals try simp only [look_if, blkAt_if, Nat.reduceEqDiff, if_true, if_false, g5]
            · have c4' : nodeOf x.node s.nodes ≠ none := fun h => c4 ((ixNode_neg _ _ _).2 h)
              have hb : podBad s x = 0 := by unfold podBad; rw [if_neg (by simp [c1]), if_neg (by simp [c2', c4'])]
              simp only [runL, opQ, evOp, evO, evOs, guardV, argsA, pvs, putS, cellsOf, scals, scal, Nat.reduceEqDiff, Nat.reduceAdd, reduceCtorEq, fieldA, nonNil, cellsAt, mkAgg, allPV, storeB, patchL, Int.reduceToNat, Nat.reduceMul, Nat.reduceLT, stepA, Int.reduceNeg, Int.reduceLE, Int.reduceLT, Int.reduceEq, extractV, mkAgg, Nat.reduceLeDiff, fillA, pureVs, pureV, eqV, eqB, lenV.eq_1, lenV.eq_2, lenV.eq_3, lenV.eq_4, binV, intBin, intV, idxA, List.drop, List.take, RetP, retP, resV, resOne, snapV, snapVs, snapR, snapRs, ownSz, pickV, AO.isC, opE, opD, funV.eq_1, funV.eq_2, g1, b0, g4, g5, gI, hlt, hget, n0, ki.call, podC, k1.call, k2.call, k3.call, c2, c3, c4, wa, hw]
              refine nxt (hlc.trans hb) _ _ _ (by omega) ?_ ?_ ?_ ?_ ?_
              all_goals try simp only [look_if, blkAt_if, Nat.reduceEqDiff, if_true, if_false, g1, n0, b0]
    · have hlc : lookC x.id last ((podBad s) x) = idP x.id last := by unfold lookC; rw [if_pos hid]
      simp only [runL, opQ, evOp, evO, evOs, guardV, argsA, pvs, putS, cellsOf, scals, scal, Nat.reduceEqDiff, Nat.reduceAdd, reduceCtorEq, fieldA, nonNil, cellsAt, mkAgg, allPV, storeB, patchL, Int.reduceToNat, Nat.reduceMul, Nat.reduceLT, stepA, Int.reduceNeg, Int.reduceLE, Int.reduceLT, Int.reduceEq, extractV, mkAgg, Nat.reduceLeDiff, fillA, pureVs, pureV, eqV, eqB, lenV.eq_1, lenV.eq_2, lenV.eq_3, lenV.eq_4, binV, intBin, intV, idxA, List.drop, List.take, RetP, retP, resV, resOne, snapV, snapVs, snapR, snapRs, ownSz, pickV, AO.isC, opE, opD, funV.eq_1, funV.eq_2, g1, b0, g4, g5, gI, hlt, hget, n0, ki.call, podC, k1.call, k2.call, k3.call, hid]
      refine fin _ hlc hid _ _ _ ?_ ?_
      all_goals try simp only [look_if, blkAt_if, Nat.reduceEqDiff, if_true, if_false, g5]
end
end Go.Proofs.YtdjpeonignkheaaDoor.Ab
set_option linter.unusedVariables false
set_option linter.unusedSimpArgs false
namespace Go.Proofs.YtdjpeonignkheaaDoor.Ab
open Go
section
variable {T : Tab}
set_option maxRecDepth 100000 in
set_option maxHeartbeats 4000000 in
theorem check3r_ok (S : Std3r T) (s : Snap) : Gives T 151 [snapP s] (badO (checkB s)) := by
  refine gives S.h151 rfl ?_
  by_cases hz : sizesOK s = true
  · have hz' := hz
    simp only [sizesOK, Bool.and_eq_true, decide_eq_true_eq] at hz'
    obtain ⟨z1, z2, z3, z4⟩ := hz'
    have y1 : ¬ (s.nodes.length : Int) = 0 := by omega
    have y2 : ¬ (8 : Int) < (s.nodes.length : Int) := by omega
    have y3 : ¬ (8 : Int) < (s.loads.length : Int) := by omega
    have y4 : ¬ (12 : Int) < (s.pods.length : Int) := by omega
    rw [checkB, if_pos hz]
    have R : ∀ (o : Option (Int × Int)) (c a : Int), o = some (c, a) → ∀ fr hp nx, look fr 2 = .pv (.int .i64 c) → look fr 3 = .pv (.int .i64 a) → RetP [.t 2, .t 3] (badO o) .ret ⟨fr, hp, nx⟩ := by
      rintro o c a rfl fr hp nx g2 g3
      simp only [runL, opQ, evOp, evO, evOs, guardV, argsA, pvs, putS, cellsOf, scals, scal, Nat.reduceEqDiff, Nat.reduceAdd, reduceCtorEq, fieldA, nonNil, cellsAt, mkAgg, allPV, storeB, patchL, Int.reduceToNat, Nat.reduceMul, Nat.reduceLT, stepA, Int.reduceNeg, Int.reduceLE, Int.reduceLT, Int.reduceEq, extractV, mkAgg, Nat.reduceLeDiff, fillA, pureVs, pureV, eqV, eqB, lenV.eq_1, lenV.eq_2, lenV.eq_3, lenV.eq_4, binV, intBin, intV, idxA, List.drop, List.take, RetP, retP, resV, resOne, snapV, snapVs, snapR, snapRs, ownSz, pickV, AO.isC, opE, opD, funV.eq_1, funV.eq_2, g2, g3, badO]
    simp only [f151, runL, opQ, evOp, evO, evOs, guardV, argsA, pvs, putS, cellsOf, scals, scal, Nat.reduceEqDiff, Nat.reduceAdd, reduceCtorEq, fieldA, nonNil, cellsAt, mkAgg, allPV, storeB, patchL, Int.reduceToNat, Nat.reduceMul, Nat.reduceLT, stepA, Int.reduceNeg, Int.reduceLE, Int.reduceLT, Int.reduceEq, extractV, mkAgg, Nat.reduceLeDiff, fillA, pureVs, pureV, eqV, eqB, lenV.eq_1, lenV.eq_2, lenV.eq_3, lenV.eq_4, binV, intBin, intV, idxA, List.drop, List.take, RetP, retP, resV, resOne, snapV, snapVs, snapR, snapRs, ownSz, pickV, AO.isC, opE, opD, funV.eq_1, funV.eq_2, snapP, y1, y2, y3, y4]
    cases h1 : fstB Node.id nodeBad 0 0 s.nodes with
    | some q =>
      rw [Option.some_or, Option.some_or]
      refine ref_0 S s (by omega) (by omega) (by omega) 0 (Int.le_refl _) (by omega) _ (some q) (fun h => by simp at h) (fun c a h fr hp nx g2 g3 => ?_) s.nodes 0 0 rfl (Nat.zero_le _) (by omega) h1 _ _ _ (Nat.le_refl _) rfl rfl rfl rfl rfl
      exact R _ c a h _ _ _ g2 g3
    | none =>
      rw [Option.none_or]
      refine ref_0 S s (by omega) (by omega) (by omega) 0 (Int.le_refl _) (by omega) _ none (fun _ fr hp nx hnx g1 g5 b0 => ?_) (fun c a h => by simp at h) s.nodes 0 0 rfl (Nat.zero_le _) (by omega) h1 _ _ _ (Nat.le_refl _) rfl rfl rfl rfl rfl
      simp only [runL, opQ, evOp, evO, evOs, guardV, argsA, pvs, putS, cellsOf, scals, scal, Nat.reduceEqDiff, Nat.reduceAdd, reduceCtorEq, fieldA, nonNil, cellsAt, mkAgg, allPV, storeB, patchL, Int.reduceToNat, Nat.reduceMul, Nat.reduceLT, stepA, Int.reduceNeg, Int.reduceLE, Int.reduceLT, Int.reduceEq, extractV, mkAgg, Nat.reduceLeDiff, fillA, pureVs, pureV, eqV, eqB, lenV.eq_1, lenV.eq_2, lenV.eq_3, lenV.eq_4, binV, intBin, intV, idxA, List.drop, List.take, RetP, retP, resV, resOne, snapV, snapVs, snapR, snapRs, ownSz, pickV, AO.isC, opE, opD, funV.eq_1, funV.eq_2, g1, g5, b0]
      have e0 : (s.nodes.length : Int) + ((0 : Nat) : Int) = s.nodes.length := by omega
      have e1 : (0 : Int) + (s.nodes.length : Int) = s.nodes.length := by omega
      cases h2 : fstB Load.id loadBad 0 s.nodes.length s.loads with
      | some q =>
        rw [Option.some_or]
        refine ref_1 S s (by omega) (by omega) (by omega) s.nodes.length (by omega) (by omega) _ (some q) (fun h => by simp at h) (fun c a h fr hp nx g2 g3 => ?_) s.loads 0 0 rfl (Nat.zero_le _) (by omega) (by rw [e0, h2]) _ _ _ hnx ?_ b0 ?_ ?_ ?_
        · exact R _ c a h _ _ _ g2 g3
        all_goals try simp only [look_if, blkAt_if, Nat.reduceEqDiff, if_true, if_false, g1, g5, e0, e1]
        rfl
      | none =>
        rw [Option.none_or]
        refine ref_1 S s (by omega) (by omega) (by omega) s.nodes.length (by omega) (by omega) _ none (fun _ fr hp nx hnx g1 g5 b0 => ?_) (fun c a h => by simp at h) s.loads 0 0 rfl (Nat.zero_le _) (by omega) (by rw [e0, h2]) _ _ _ hnx ?_ b0 ?_ ?_ ?_
        · simp only [runL, opQ, evOp, evO, evOs, guardV, argsA, pvs, putS, cellsOf, scals, scal, Nat.reduceEqDiff, Nat.reduceAdd, reduceCtorEq, fieldA, nonNil, cellsAt, mkAgg, allPV, storeB, patchL, Int.reduceToNat, Nat.reduceMul, Nat.reduceLT, stepA, Int.reduceNeg, Int.reduceLE, Int.reduceLT, Int.reduceEq, extractV, mkAgg, Nat.reduceLeDiff, fillA, pureVs, pureV, eqV, eqB, lenV.eq_1, lenV.eq_2, lenV.eq_3, lenV.eq_4, binV, intBin, intV, idxA, List.drop, List.take, RetP, retP, resV, resOne, snapV, snapVs, snapR, snapRs, ownSz, pickV, AO.isC, opE, opD, funV.eq_1, funV.eq_2, g1, g5, b0]
          have e2 : (s.nodes.length : Int) + s.loads.length + ((0 : Nat) : Int) = (s.nodes.length : Int) + s.loads.length := by omega
          cases h3 : fstB Pod.id (podBad s) 0 ((s.nodes.length : Int) + s.loads.length) s.pods with
          | some q =>
            refine ref_2 S s (by omega) (by omega) (by omega) (s.nodes.length + s.loads.length) (by omega) (by omega) _ (some q) (fun h => by simp at h) (fun c a h fr hp nx g2 g3 => ?_) s.pods 0 0 rfl (Nat.zero_le _) (by omega) (by rw [e2, h3]) _ _ _ hnx ?_ b0 ?_ ?_ ?_
            · exact R _ c a h _ _ _ g2 g3
            all_goals try simp only [look_if, blkAt_if, Nat.reduceEqDiff, if_true, if_false, g1, g5, e2]
            rfl
          | none =>
            refine ref_2 S s (by omega) (by omega) (by omega) (s.nodes.length + s.loads.length) (by omega) (by omega) _ none (fun _ fr hp nx hnx g1 g5 b0 => ?_) (fun c a h => by simp at h) s.pods 0 0 rfl (Nat.zero_le _) (by omega) (by rw [e2, h3]) _ _ _ hnx ?_ b0 ?_ ?_ ?_
            · simp only [runL, opQ, evOp, evO, evOs, guardV, argsA, pvs, putS, cellsOf, scals, scal, Nat.reduceEqDiff, Nat.reduceAdd, reduceCtorEq, fieldA, nonNil, cellsAt, mkAgg, allPV, storeB, patchL, Int.reduceToNat, Nat.reduceMul, Nat.reduceLT, stepA, Int.reduceNeg, Int.reduceLE, Int.reduceLT, Int.reduceEq, extractV, mkAgg, Nat.reduceLeDiff, fillA, pureVs, pureV, eqV, eqB, lenV.eq_1, lenV.eq_2, lenV.eq_3, lenV.eq_4, binV, intBin, intV, idxA, List.drop, List.take, RetP, retP, resV, resOne, snapV, snapVs, snapR, snapRs, ownSz, pickV, AO.isC, opE, opD, funV.eq_1, funV.eq_2, badO]
            all_goals try simp only [look_if, blkAt_if, Nat.reduceEqDiff, if_true, if_false, g1, g5, e2]
            rfl
        all_goals try simp only [look_if, blkAt_if, Nat.reduceEqDiff, if_true, if_false, g1, g5, e0, e1]
        rfl
  · have hc : badO (checkB s) = .tuple [.int .i64 3, .int .i64 (-1)] := by rw [checkB, if_neg hz]; rfl
    rw [hc]
    have hz' := hz
    simp only [sizesOK, Bool.and_eq_true, decide_eq_true_eq, not_and] at hz'
    by_cases c1 : (s.nodes.length : Int) = 0
    · have d1 := decide_eq_true c1
      simp only [f151, runL, opQ, evOp, evO, evOs, guardV, argsA, pvs, putS, cellsOf, scals, scal, Nat.reduceEqDiff, Nat.reduceAdd, reduceCtorEq, fieldA, nonNil, cellsAt, mkAgg, allPV, storeB, patchL, Int.reduceToNat, Nat.reduceMul, Nat.reduceLT, stepA, Int.reduceNeg, Int.reduceLE, Int.reduceLT, Int.reduceEq, extractV, mkAgg, Nat.reduceLeDiff, fillA, pureVs, pureV, eqV, eqB, lenV.eq_1, lenV.eq_2, lenV.eq_3, lenV.eq_4, binV, intBin, intV, idxA, List.drop, List.take, RetP, retP, resV, resOne, snapV, snapVs, snapR, snapRs, ownSz, pickV, AO.isC, opE, opD, funV.eq_1, funV.eq_2, snapP, d1]
    · by_cases c2 : (8 : Int) < (s.nodes.length : Int)
      · simp only [f151, runL, opQ, evOp, evO, evOs, guardV, argsA, pvs, putS, cellsOf, scals, scal, Nat.reduceEqDiff, Nat.reduceAdd, reduceCtorEq, fieldA, nonNil, cellsAt, mkAgg, allPV, storeB, patchL, Int.reduceToNat, Nat.reduceMul, Nat.reduceLT, stepA, Int.reduceNeg, Int.reduceLE, Int.reduceLT, Int.reduceEq, extractV, mkAgg, Nat.reduceLeDiff, fillA, pureVs, pureV, eqV, eqB, lenV.eq_1, lenV.eq_2, lenV.eq_3, lenV.eq_4, binV, intBin, intV, idxA, List.drop, List.take, RetP, retP, resV, resOne, snapV, snapVs, snapR, snapRs, ownSz, pickV, AO.isC, opE, opD, funV.eq_1, funV.eq_2, snapP, c1, c2]
      · by_cases c3 : (8 : Int) < (s.loads.length : Int)
        · simp only [f151, runL, opQ, evOp, evO, evOs, guardV, argsA, pvs, putS, cellsOf, scals, scal, Nat.reduceEqDiff, Nat.reduceAdd, reduceCtorEq, fieldA, nonNil, cellsAt, mkAgg, allPV, storeB, patchL, Int.reduceToNat, Nat.reduceMul, Nat.reduceLT, stepA, Int.reduceNeg, Int.reduceLE, Int.reduceLT, Int.reduceEq, extractV, mkAgg, Nat.reduceLeDiff, fillA, pureVs, pureV, eqV, eqB, lenV.eq_1, lenV.eq_2, lenV.eq_3, lenV.eq_4, binV, intBin, intV, idxA, List.drop, List.take, RetP, retP, resV, resOne, snapV, snapVs, snapR, snapRs, ownSz, pickV, AO.isC, opE, opD, funV.eq_1, funV.eq_2, snapP, c1, c2, c3]
        · have c4 : (12 : Int) < (s.pods.length : Int) := by have := hz' (by omega) (by omega) (by omega); omega
          simp only [f151, runL, opQ, evOp, evO, evOs, guardV, argsA, pvs, putS, cellsOf, scals, scal, Nat.reduceEqDiff, Nat.reduceAdd, reduceCtorEq, fieldA, nonNil, cellsAt, mkAgg, allPV, storeB, patchL, Int.reduceToNat, Nat.reduceMul, Nat.reduceLT, stepA, Int.reduceNeg, Int.reduceLE, Int.reduceLT, Int.reduceEq, extractV, mkAgg, Nat.reduceLeDiff, fillA, pureVs, pureV, eqV, eqB, lenV.eq_1, lenV.eq_2, lenV.eq_3, lenV.eq_4, binV, intBin, intV, idxA, List.drop, List.take, RetP, retP, resV, resOne, snapV, snapVs, snapR, snapRs, ownSz, pickV, AO.isC, opE, opD, funV.eq_1, funV.eq_2, snapP, c1, c2, c3, c4]
theorem fairr_loop (h156 : Std T 156 f156) (s : Snap) (x : Spec) (hp : s.pods.length ≤ 2 ^ 30) (hx : x.wants.length ≤ 2 ^ 29) (Q : Exit → St → Prop) (o : Option (Int × Int))
    (hend : o = none → ∀ fr hp nx, Q (.exit 0) ⟨fr, hp, nx⟩)
    (hret : ∀ c a, o = some (c, a) → ∀ fr hp nx, look fr 4 = .pv (.int .i64 c) → look fr 5 = .pv (.int .i64 a) → Q .ret ⟨fr, hp, nx⟩) :
    ∀ (rest : List Want) (i : Nat) (prev : Option Want), x.wants.drop i = rest → i ≤ x.wants.length → ((i = 0 ∧ prev = none) ∨ ∃ j v, i = j + 1 ∧ prev = some v ∧ x.wants[j]? = some v) → wantsFrom s.pods prev i rest = o → ∀ (fr : List (Nat × AV)) (hp : Hl) (nx : Nat), 2 ≤ nx → look fr 2 = .ptr 0 0 0 → look fr 3 = .ptr 1 0 0 →
      blkAt hp 0 = .var [.pv (.slice (s.nodes.map nodeC)), .pv (.slice (s.loads.map loadC)), .pv (.slice (s.pods.map podC))] → blkAt hp 1 = .var [.pv (.slice (x.wants.map wantC)), .pv (.int .i64 x.pre), .pv (.int .i64 x.shi)] →
      look fr 8 = .pv (.int .i64 i) → Wp T false (.loop f152l0) ⟨fr, hp, nx⟩ Q := by
  intro rest
  induction rest with
  | nil =>
    intro i prev hd hi hpv ho fr hp nx hnx g2 g3 b0 b1 h8
    have hlen := drop_nil hd hi
    rw [Wp_loop, Wp_eq f152l0.eq_1]
    simp only [runL, opQ, evOp, evO, evOs, guardV, argsA, pvs, putS, cellsOf, scals, scal, Nat.reduceEqDiff, Nat.reduceAdd, reduceCtorEq, fieldA, nonNil, cellsAt, mkAgg, allPV, storeB, patchL, Int.reduceToNat, Nat.reduceMul, Nat.reduceLT, stepA, Int.reduceNeg, Int.reduceLE, Int.reduceLT, Int.reduceEq, extractV, mkAgg, Nat.reduceLeDiff, fillA, pureVs, pureV, eqV, eqB, lenV.eq_1, lenV.eq_2, lenV.eq_3, lenV.eq_4, binV, intBin, intV, idxA, List.drop, List.take, RetP, retP, resV, resOne, snapV, snapVs, snapR, snapRs, ownSz, pickV, AO.isC, opE, opD, funV.eq_1, funV.eq_2, g3, b1, h8, hlen, Int.lt_irrefl]
    exact hend ho.symm _ _ _
  | cons w r ih =>
    intro i prev hd hi hpv ho fr hp nx hnx g2 g3 b0 b1 h8
    obtain ⟨hget, hlt, hw, hd', hi', hbb⟩ := drop_cons hd (by omega)
    have n0 : ¬ nx = 0 := by omega
    have n1 : ¬ nx = 1 := by omega
    have m0 : ¬ nx + 1 = 0 := by omega
    have m1 : ¬ nx + 1 = 1 := by omega
    have k := pod3_ok h156 s w.pod (by assumption)
    simp only [snapP] at k
    simp only [wantsFrom] at ho
    have fin : ∀ c, wantBad s.pods prev w = c → c ≠ 0 → ∀ fr hp nx, look fr 4 = .pv (.int .i64 c) → look fr 5 = .pv (.int .i64 i) → Q .ret ⟨fr, hp, nx⟩ := by
      intro c h1 h2
      refine hret c _ ?_
      rw [← ho, h1, if_pos h2]
    have nxt : wantBad s.pods prev w = 0 → ∀ fr' hp' nx', 2 ≤ nx' → look fr' 2 = look fr 2 → look fr' 3 = look fr 3 → blkAt hp' 0 = blkAt hp 0 → blkAt hp' 1 = blkAt hp 1 → look fr' 8 = .pv (.int .i64 ((i + 1 : Nat) : Int)) → Wp T false (.loop f152l0) ⟨fr', hp', nx'⟩ Q := by
      intro h1 fr' hp' nx' q1 q2 q3 q4 q5 q6
      refine ih (i + 1) (some w) hd' hi' (.inr ⟨i, w, rfl, rfl, hget⟩) ?_ fr' hp' nx' q1 (q2.trans g2) (q3.trans g3) (q4.trans b0) (q5.trans b1) q6
      rw [← ho, h1, if_neg (by simp)]
      rfl
    have rest : wantBad s.pods prev w = wantRest s.pods w → (¬ ∃ v, prev = some v ∧ (w.pod = v.pod ∨ w.pod < v.pod)) → Wp T false (.loop f152l0) ⟨fr, hp, nx⟩ Q := by
      intro hb hno
      have start : ∀ (K : Prop), (∀ (hj : i = 0 ∧ prev = none), K) → (∀ j v, i = j + 1 → prev = some v → x.wants[j]? = some v → ¬ w.pod = v.pod → ¬ w.pod < v.pod → K) → K := by
        intro K h1 h2
        rcases hpv with h | ⟨j, v, e1, e2, e3⟩
        · exact h1 h
        · exact h2 j v e1 e2 e3 (fun h => hno ⟨v, e2, .inl h⟩) (fun h => hno ⟨v, e2, .inr h⟩)
      refine start _ (fun hj => ?_) (fun j v e1 e2 e3 e4 e5 => ?_)
      · obtain ⟨rfl, _⟩ := hj
        have z0 : ((0 : Nat) : Int) = 0 := rfl
        rw [z0] at h8 hw hlt
        rw [Wp_loop, Wp_eq f152l0.eq_1]
        simp only [runL, opQ, evOp, evO, evOs, guardV, argsA, pvs, putS, cellsOf, scals, scal, Nat.reduceEqDiff, Nat.reduceAdd, reduceCtorEq, fieldA, nonNil, cellsAt, mkAgg, allPV, storeB, patchL, Int.reduceToNat, Nat.reduceMul, Nat.reduceLT, stepA, Int.reduceNeg, Int.reduceLE, Int.reduceLT, Int.reduceEq, extractV, mkAgg, Nat.reduceLeDiff, fillA, pureVs, pureV, eqV, eqB, lenV.eq_1, lenV.eq_2, lenV.eq_3, lenV.eq_4, binV, intBin, intV, idxA, List.drop, List.take, RetP, retP, resV, resOne, snapV, snapVs, snapR, snapRs, ownSz, pickV, AO.isC, opE, opD, funV.eq_1, funV.eq_2, g2, g3, b0, b1, h8, hlt, hget, wantC, n0, n1]
        refine (Wp_calmS rfl).2 ?_
        simp only [runL, opQ, evOp, evO, evOs, guardV, argsA, pvs, putS, cellsOf, scals, scal, Nat.reduceEqDiff, Nat.reduceAdd, reduceCtorEq, fieldA, nonNil, cellsAt, mkAgg, allPV, storeB, patchL, Int.reduceToNat, Nat.reduceMul, Nat.reduceLT, stepA, Int.reduceNeg, Int.reduceLE, Int.reduceLT, Int.reduceEq, extractV, mkAgg, Nat.reduceLeDiff, fillA, pureVs, pureV, eqV, eqB, lenV.eq_1, lenV.eq_2, lenV.eq_3, lenV.eq_4, binV, intBin, intV, idxA, List.drop, List.take, RetP, retP, resV, resOne, snapV, snapVs, snapR, snapRs, ownSz, pickV, AO.isC, opE, opD, funV.eq_1, funV.eq_2, g2, g3, b0, b1, h8, hlt, hget, wantC, n0, n1]
        refine (Wp_calmS rfl).2 ?_
        simp only [runL, opQ, evOp, evO, evOs, guardV, argsA, pvs, putS, cellsOf, scals, scal, Nat.reduceEqDiff, Nat.reduceAdd, reduceCtorEq, fieldA, nonNil, cellsAt, mkAgg, allPV, storeB, patchL, Int.reduceToNat, Nat.reduceMul, Nat.reduceLT, stepA, Int.reduceNeg, Int.reduceLE, Int.reduceLT, Int.reduceEq, extractV, mkAgg, Nat.reduceLeDiff, fillA, pureVs, pureV, eqV, eqB, lenV.eq_1, lenV.eq_2, lenV.eq_3, lenV.eq_4, binV, intBin, intV, idxA, List.drop, List.take, RetP, retP, resV, resOne, snapV, snapVs, snapR, snapRs, ownSz, pickV, AO.isC, opE, opD, funV.eq_1, funV.eq_2, g2, g3, b0, b1, h8, hlt, hget, wantC, n0, n1, k.call]
        unfold wantRest at hb
        by_cases q1 : podOf w.pod s.pods = none
        · rw [if_pos q1] at hb
          rcases placeFrom_cases w.pod s.pods 0 with ⟨p1, p2⟩ | ⟨j, p, p1, p2, p3, p4⟩
          · simp only [runL, opQ, evOp, evO, evOs, guardV, argsA, pvs, putS, cellsOf, scals, scal, Nat.reduceEqDiff, Nat.reduceAdd, reduceCtorEq, fieldA, nonNil, cellsAt, mkAgg, allPV, storeB, patchL, Int.reduceToNat, Nat.reduceMul, Nat.reduceLT, stepA, Int.reduceNeg, Int.reduceLE, Int.reduceLT, Int.reduceEq, extractV, mkAgg, Nat.reduceLeDiff, fillA, pureVs, pureV, eqV, eqB, lenV.eq_1, lenV.eq_2, lenV.eq_3, lenV.eq_4, binV, intBin, intV, idxA, List.drop, List.take, RetP, retP, resV, resOne, snapV, snapVs, snapR, snapRs, ownSz, pickV, AO.isC, opE, opD, funV.eq_1, funV.eq_2, p2, h8, Int.reduceNeg, Int.reduceLT]
            refine fin _ hb (by decide) _ _ _ ?_ ?_
            all_goals try simp only [look_if, blkAt_if, Nat.reduceEqDiff, if_true, if_false, z0]
          · rw [q1] at p2; simp at p2
        · rw [if_neg q1] at hb
          rcases placeFrom_cases w.pod s.pods 0 with ⟨p1, p2⟩ | ⟨j, p, p1, p2, p3, p4⟩
          · exact absurd p1 q1
          · have hj : ¬ ((0 + j : Nat) : Int) < 0 := by omega
            have hj' : ¬ (j : Int) < 0 := by omega
            cases q2 : w.stay
            · rw [q2] at hb
              have hv := eqVec w.req vec0
              by_cases q3 : w.req = vec0
              · rw [if_neg (by simp [q3])] at hb
                rw [decide_eq_true q3] at hv
                simp only [vec0] at hv
                simp only [runL, opQ, evOp, evO, evOs, guardV, argsA, pvs, putS, cellsOf, scals, scal, Nat.reduceEqDiff, Nat.reduceAdd, reduceCtorEq, fieldA, nonNil, cellsAt, mkAgg, allPV, storeB, patchL, Int.reduceToNat, Nat.reduceMul, Nat.reduceLT, stepA, Int.reduceNeg, Int.reduceLE, Int.reduceLT, Int.reduceEq, extractV, mkAgg, Nat.reduceLeDiff, fillA, pureVs, pureV, eqV, eqB, lenV.eq_1, lenV.eq_2, lenV.eq_3, lenV.eq_4, binV, intBin, intV, idxA, List.drop, List.take, RetP, retP, resV, resOne, snapV, snapVs, snapR, snapRs, ownSz, pickV, AO.isC, opE, opD, funV.eq_1, funV.eq_2, p3, hj, hj', hv, h8, hw, n0, n1, q2]
                refine nxt hb _ _ _ (by omega) ?_ ?_ ?_ ?_ ?_
                all_goals try simp only [look_if, blkAt_if, Nat.reduceEqDiff, if_true, if_false, g2, g3, n0, n1, b0, b1]
              · rw [if_pos ⟨rfl, q3⟩] at hb
                rw [decide_eq_false q3] at hv
                simp only [vec0] at hv
                simp only [runL, opQ, evOp, evO, evOs, guardV, argsA, pvs, putS, cellsOf, scals, scal, Nat.reduceEqDiff, Nat.reduceAdd, reduceCtorEq, fieldA, nonNil, cellsAt, mkAgg, allPV, storeB, patchL, Int.reduceToNat, Nat.reduceMul, Nat.reduceLT, stepA, Int.reduceNeg, Int.reduceLE, Int.reduceLT, Int.reduceEq, extractV, mkAgg, Nat.reduceLeDiff, fillA, pureVs, pureV, eqV, eqB, lenV.eq_1, lenV.eq_2, lenV.eq_3, lenV.eq_4, binV, intBin, intV, idxA, List.drop, List.take, RetP, retP, resV, resOne, snapV, snapVs, snapR, snapRs, ownSz, pickV, AO.isC, opE, opD, funV.eq_1, funV.eq_2, p3, hj, hj', hv, h8, n0, n1, q2]
                refine fin _ hb (by decide) _ _ _ ?_ ?_
                all_goals try simp only [look_if, blkAt_if, Nat.reduceEqDiff, if_true, if_false, z0]
            · rw [q2, if_neg (by simp)] at hb
              simp only [runL, opQ, evOp, evO, evOs, guardV, argsA, pvs, putS, cellsOf, scals, scal, Nat.reduceEqDiff, Nat.reduceAdd, reduceCtorEq, fieldA, nonNil, cellsAt, mkAgg, allPV, storeB, patchL, Int.reduceToNat, Nat.reduceMul, Nat.reduceLT, stepA, Int.reduceNeg, Int.reduceLE, Int.reduceLT, Int.reduceEq, extractV, mkAgg, Nat.reduceLeDiff, fillA, pureVs, pureV, eqV, eqB, lenV.eq_1, lenV.eq_2, lenV.eq_3, lenV.eq_4, binV, intBin, intV, idxA, List.drop, List.take, RetP, retP, resV, resOne, snapV, snapVs, snapR, snapRs, ownSz, pickV, AO.isC, opE, opD, funV.eq_1, funV.eq_2, p3, hj, hj', h8, hw, n0, n1, q2]
              refine nxt hb _ _ _ (by omega) ?_ ?_ ?_ ?_ ?_
              all_goals try simp only [look_if, blkAt_if, Nat.reduceEqDiff, if_true, if_false, g2, g3, n0, n1, b0, b1]
      · subst e1
        have w1 : IntKind.i64.wrap (((j + 1 : Nat) : Int) - 1) = (j : Int) := by rw [wrap6] <;> omega
        have p0 : (0 : Int) < ((j + 1 : Nat) : Int) := by omega
        rw [Wp_loop, Wp_eq f152l0.eq_1]
        simp only [runL, opQ, evOp, evO, evOs, guardV, argsA, pvs, putS, cellsOf, scals, scal, Nat.reduceEqDiff, Nat.reduceAdd, reduceCtorEq, fieldA, nonNil, cellsAt, mkAgg, allPV, storeB, patchL, Int.reduceToNat, Nat.reduceMul, Nat.reduceLT, stepA, Int.reduceNeg, Int.reduceLE, Int.reduceLT, Int.reduceEq, extractV, mkAgg, Nat.reduceLeDiff, fillA, pureVs, pureV, eqV, eqB, lenV.eq_1, lenV.eq_2, lenV.eq_3, lenV.eq_4, binV, intBin, intV, idxA, List.drop, List.take, RetP, retP, resV, resOne, snapV, snapVs, snapR, snapRs, ownSz, pickV, AO.isC, opE, opD, funV.eq_1, funV.eq_2, g2, g3, b0, b1, h8, hlt, hget, wantC, n0, n1]
        refine (Wp_calmS rfl).2 ?_
        simp only [runL, opQ, evOp, evO, evOs, guardV, argsA, pvs, putS, cellsOf, scals, scal, Nat.reduceEqDiff, Nat.reduceAdd, reduceCtorEq, fieldA, nonNil, cellsAt, mkAgg, allPV, storeB, patchL, Int.reduceToNat, Nat.reduceMul, Nat.reduceLT, stepA, Int.reduceNeg, Int.reduceLE, Int.reduceLT, Int.reduceEq, extractV, mkAgg, Nat.reduceLeDiff, fillA, pureVs, pureV, eqV, eqB, lenV.eq_1, lenV.eq_2, lenV.eq_3, lenV.eq_4, binV, intBin, intV, idxA, List.drop, List.take, RetP, retP, resV, resOne, snapV, snapVs, snapR, snapRs, ownSz, pickV, AO.isC, opE, opD, funV.eq_1, funV.eq_2, g2, g3, b0, b1, h8, hlt, hget, wantC, n0, n1, e3, w1, p0, e4]
        refine (Wp_calmS rfl).2 ?_
        simp only [runL, opQ, evOp, evO, evOs, guardV, argsA, pvs, putS, cellsOf, scals, scal, Nat.reduceEqDiff, Nat.reduceAdd, reduceCtorEq, fieldA, nonNil, cellsAt, mkAgg, allPV, storeB, patchL, Int.reduceToNat, Nat.reduceMul, Nat.reduceLT, stepA, Int.reduceNeg, Int.reduceLE, Int.reduceLT, Int.reduceEq, extractV, mkAgg, Nat.reduceLeDiff, fillA, pureVs, pureV, eqV, eqB, lenV.eq_1, lenV.eq_2, lenV.eq_3, lenV.eq_4, binV, intBin, intV, idxA, List.drop, List.take, RetP, retP, resV, resOne, snapV, snapVs, snapR, snapRs, ownSz, pickV, AO.isC, opE, opD, funV.eq_1, funV.eq_2, g2, g3, b0, b1, h8, hlt, hget, wantC, n0, n1, k.call, e3, w1, p0, e5]
        unfold wantRest at hb
        by_cases q1 : podOf w.pod s.pods = none
        · rw [if_pos q1] at hb
          rcases placeFrom_cases w.pod s.pods 0 with ⟨p1, p2⟩ | ⟨j, p, p1, p2, p3, p4⟩
          · simp only [runL, opQ, evOp, evO, evOs, guardV, argsA, pvs, putS, cellsOf, scals, scal, Nat.reduceEqDiff, Nat.reduceAdd, reduceCtorEq, fieldA, nonNil, cellsAt, mkAgg, allPV, storeB, patchL, Int.reduceToNat, Nat.reduceMul, Nat.reduceLT, stepA, Int.reduceNeg, Int.reduceLE, Int.reduceLT, Int.reduceEq, extractV, mkAgg, Nat.reduceLeDiff, fillA, pureVs, pureV, eqV, eqB, lenV.eq_1, lenV.eq_2, lenV.eq_3, lenV.eq_4, binV, intBin, intV, idxA, List.drop, List.take, RetP, retP, resV, resOne, snapV, snapVs, snapR, snapRs, ownSz, pickV, AO.isC, opE, opD, funV.eq_1, funV.eq_2, p2, h8, Int.reduceNeg, Int.reduceLT]
            refine fin _ hb (by decide) _ _ _ ?_ ?_
            all_goals try simp only [look_if, blkAt_if, Nat.reduceEqDiff, if_true, if_false, ]
          · rw [q1] at p2; simp at p2
        · rw [if_neg q1] at hb
          rcases placeFrom_cases w.pod s.pods 0 with ⟨p1, p2⟩ | ⟨j', p, p1, p2, p3, p4⟩
          · exact absurd p1 q1
          · have hj : ¬ ((0 + j' : Nat) : Int) < 0 := by omega
            have hj' : ¬ (j' : Int) < 0 := by omega
            cases q2 : w.stay
            · rw [q2] at hb
              have hv := eqVec w.req vec0
              by_cases q3 : w.req = vec0
              · rw [if_neg (by simp [q3])] at hb
                rw [decide_eq_true q3] at hv
                simp only [vec0] at hv
                simp only [runL, opQ, evOp, evO, evOs, guardV, argsA, pvs, putS, cellsOf, scals, scal, Nat.reduceEqDiff, Nat.reduceAdd, reduceCtorEq, fieldA, nonNil, cellsAt, mkAgg, allPV, storeB, patchL, Int.reduceToNat, Nat.reduceMul, Nat.reduceLT, stepA, Int.reduceNeg, Int.reduceLE, Int.reduceLT, Int.reduceEq, extractV, mkAgg, Nat.reduceLeDiff, fillA, pureVs, pureV, eqV, eqB, lenV.eq_1, lenV.eq_2, lenV.eq_3, lenV.eq_4, binV, intBin, intV, idxA, List.drop, List.take, RetP, retP, resV, resOne, snapV, snapVs, snapR, snapRs, ownSz, pickV, AO.isC, opE, opD, funV.eq_1, funV.eq_2, p3, hj, hj', hv, h8, hw, n0, n1, q2]
                refine nxt hb _ _ _ (by omega) ?_ ?_ ?_ ?_ ?_
                all_goals try simp only [look_if, blkAt_if, Nat.reduceEqDiff, if_true, if_false, g2, g3, n0, n1, b0, b1]
              · rw [if_pos ⟨rfl, q3⟩] at hb
                rw [decide_eq_false q3] at hv
                simp only [vec0] at hv
                simp only [runL, opQ, evOp, evO, evOs, guardV, argsA, pvs, putS, cellsOf, scals, scal, Nat.reduceEqDiff, Nat.reduceAdd, reduceCtorEq, fieldA, nonNil, cellsAt, mkAgg, allPV, storeB, patchL, Int.reduceToNat, Nat.reduceMul, Nat.reduceLT, stepA, Int.reduceNeg, Int.reduceLE, Int.reduceLT, Int.reduceEq, extractV, mkAgg, Nat.reduceLeDiff, fillA, pureVs, pureV, eqV, eqB, lenV.eq_1, lenV.eq_2, lenV.eq_3, lenV.eq_4, binV, intBin, intV, idxA, List.drop, List.take, RetP, retP, resV, resOne, snapV, snapVs, snapR, snapRs, ownSz, pickV, AO.isC, opE, opD, funV.eq_1, funV.eq_2, p3, hj, hj', hv, h8, n0, n1, q2]
                refine fin _ hb (by decide) _ _ _ ?_ ?_
                all_goals try simp only [look_if, blkAt_if, Nat.reduceEqDiff, if_true, if_false, ]
            · rw [q2, if_neg (by simp)] at hb
              simp only [runL, opQ, evOp, evO, evOs, guardV, argsA, pvs, putS, cellsOf, scals, scal, Nat.reduceEqDiff, Nat.reduceAdd, reduceCtorEq, fieldA, nonNil, cellsAt, mkAgg, allPV, storeB, patchL, Int.reduceToNat, Nat.reduceMul, Nat.reduceLT, stepA, Int.reduceNeg, Int.reduceLE, Int.reduceLT, Int.reduceEq, extractV, mkAgg, Nat.reduceLeDiff, fillA, pureVs, pureV, eqV, eqB, lenV.eq_1, lenV.eq_2, lenV.eq_3, lenV.eq_4, binV, intBin, intV, idxA, List.drop, List.take, RetP, retP, resV, resOne, snapV, snapVs, snapR, snapRs, ownSz, pickV, AO.isC, opE, opD, funV.eq_1, funV.eq_2, p3, hj, hj', h8, hw, n0, n1, q2]
              refine nxt hb _ _ _ (by omega) ?_ ?_ ?_ ?_ ?_
              all_goals try simp only [look_if, blkAt_if, Nat.reduceEqDiff, if_true, if_false, g2, g3, n0, n1, b0, b1]
    rcases hpv with ⟨rfl, rfl⟩ | ⟨j, v, rfl, rfl, hv⟩
    · exact rest rfl (by rintro ⟨v, h, _⟩; simp at h)
    · have w1 : IntKind.i64.wrap (((j + 1 : Nat) : Int) - 1) = (j : Int) := by rw [wrap6] <;> omega
      have p0 : (0 : Int) < ((j + 1 : Nat) : Int) := by omega
      by_cases h5 : w.pod = v.pod
      · have d5 := decide_eq_true h5
        have hb : wantBad s.pods (some v) w = 5 := by simp only [wantBad]; rw [if_pos h5]
        rw [Wp_loop, Wp_eq f152l0.eq_1]
        simp only [runL, opQ, evOp, evO, evOs, guardV, argsA, pvs, putS, cellsOf, scals, scal, Nat.reduceEqDiff, Nat.reduceAdd, reduceCtorEq, fieldA, nonNil, cellsAt, mkAgg, allPV, storeB, patchL, Int.reduceToNat, Nat.reduceMul, Nat.reduceLT, stepA, Int.reduceNeg, Int.reduceLE, Int.reduceLT, Int.reduceEq, extractV, mkAgg, Nat.reduceLeDiff, fillA, pureVs, pureV, eqV, eqB, lenV.eq_1, lenV.eq_2, lenV.eq_3, lenV.eq_4, binV, intBin, intV, idxA, List.drop, List.take, RetP, retP, resV, resOne, snapV, snapVs, snapR, snapRs, ownSz, pickV, AO.isC, opE, opD, funV.eq_1, funV.eq_2, g2, g3, b0, b1, h8, hlt, hget, wantC, n0, n1]
        refine (Wp_calmS rfl).2 ?_
        simp only [runL, opQ, evOp, evO, evOs, guardV, argsA, pvs, putS, cellsOf, scals, scal, Nat.reduceEqDiff, Nat.reduceAdd, reduceCtorEq, fieldA, nonNil, cellsAt, mkAgg, allPV, storeB, patchL, Int.reduceToNat, Nat.reduceMul, Nat.reduceLT, stepA, Int.reduceNeg, Int.reduceLE, Int.reduceLT, Int.reduceEq, extractV, mkAgg, Nat.reduceLeDiff, fillA, pureVs, pureV, eqV, eqB, lenV.eq_1, lenV.eq_2, lenV.eq_3, lenV.eq_4, binV, intBin, intV, idxA, List.drop, List.take, RetP, retP, resV, resOne, snapV, snapVs, snapR, snapRs, ownSz, pickV, AO.isC, opE, opD, funV.eq_1, funV.eq_2, g2, g3, b0, b1, h8, hlt, hget, wantC, n0, n1, hv, w1, p0, d5]
        refine fin _ hb (by decide) _ _ _ ?_ ?_
        all_goals try simp only [look_if, blkAt_if, Nat.reduceEqDiff, if_true, if_false, ]
      · by_cases h6 : w.pod < v.pod
        · have hb : wantBad s.pods (some v) w = 1 := by simp only [wantBad]; rw [if_neg h5, if_pos h6]
          rw [Wp_loop, Wp_eq f152l0.eq_1]
          simp only [runL, opQ, evOp, evO, evOs, guardV, argsA, pvs, putS, cellsOf, scals, scal, Nat.reduceEqDiff, Nat.reduceAdd, reduceCtorEq, fieldA, nonNil, cellsAt, mkAgg, allPV, storeB, patchL, Int.reduceToNat, Nat.reduceMul, Nat.reduceLT, stepA, Int.reduceNeg, Int.reduceLE, Int.reduceLT, Int.reduceEq, extractV, mkAgg, Nat.reduceLeDiff, fillA, pureVs, pureV, eqV, eqB, lenV.eq_1, lenV.eq_2, lenV.eq_3, lenV.eq_4, binV, intBin, intV, idxA, List.drop, List.take, RetP, retP, resV, resOne, snapV, snapVs, snapR, snapRs, ownSz, pickV, AO.isC, opE, opD, funV.eq_1, funV.eq_2, g2, g3, b0, b1, h8, hlt, hget, wantC, n0, n1]
          refine (Wp_calmS rfl).2 ?_
          simp only [runL, opQ, evOp, evO, evOs, guardV, argsA, pvs, putS, cellsOf, scals, scal, Nat.reduceEqDiff, Nat.reduceAdd, reduceCtorEq, fieldA, nonNil, cellsAt, mkAgg, allPV, storeB, patchL, Int.reduceToNat, Nat.reduceMul, Nat.reduceLT, stepA, Int.reduceNeg, Int.reduceLE, Int.reduceLT, Int.reduceEq, extractV, mkAgg, Nat.reduceLeDiff, fillA, pureVs, pureV, eqV, eqB, lenV.eq_1, lenV.eq_2, lenV.eq_3, lenV.eq_4, binV, intBin, intV, idxA, List.drop, List.take, RetP, retP, resV, resOne, snapV, snapVs, snapR, snapRs, ownSz, pickV, AO.isC, opE, opD, funV.eq_1, funV.eq_2, g2, g3, b0, b1, h8, hlt, hget, wantC, n0, n1, hv, w1, p0, h5]
          refine (Wp_calmS rfl).2 ?_
          simp only [runL, opQ, evOp, evO, evOs, guardV, argsA, pvs, putS, cellsOf, scals, scal, Nat.reduceEqDiff, Nat.reduceAdd, reduceCtorEq, fieldA, nonNil, cellsAt, mkAgg, allPV, storeB, patchL, Int.reduceToNat, Nat.reduceMul, Nat.reduceLT, stepA, Int.reduceNeg, Int.reduceLE, Int.reduceLT, Int.reduceEq, extractV, mkAgg, Nat.reduceLeDiff, fillA, pureVs, pureV, eqV, eqB, lenV.eq_1, lenV.eq_2, lenV.eq_3, lenV.eq_4, binV, intBin, intV, idxA, List.drop, List.take, RetP, retP, resV, resOne, snapV, snapVs, snapR, snapRs, ownSz, pickV, AO.isC, opE, opD, funV.eq_1, funV.eq_2, g2, g3, b0, b1, h8, hlt, hget, wantC, n0, n1, hv, w1, p0, h6]
          refine fin _ hb (by decide) _ _ _ ?_ ?_
          all_goals try simp only [look_if, blkAt_if, Nat.reduceEqDiff, if_true, if_false, ]
        · refine rest (by simp only [wantBad]; rw [if_neg h5, if_neg h6]) ?_
          rintro ⟨v', h, h'⟩
          simp only [Option.some.injEq] at h
          subst h
          rcases h' with h' | h'
          · exact h5 h'
          · exact h6 h'
theorem fair3r_ok (S : Std3r T) (h152 : Std T 152 f152) (h156 : Std T 156 f156) (s : Snap) (x : Spec) (hx : x.wants.length ≤ 2 ^ 29) : Gives T 152 [snapP s, specP x] (badO (fairB s x)) := by
  refine gives h152 rfl ?_
  have k := check3r_ok S s
  simp only [snapP] at k
  have kr := checkB_ok s
  unfold fairB
  cases hc : checkB s with
  | some e =>
    obtain ⟨c, a⟩ := e
    have := kr c a hc
    have hc0 : ¬ c = 0 := by omega
    rw [hc] at k
    simp only [badO] at k ⊢
    simp only [f152, runL, opQ, evOp, evO, evOs, guardV, argsA, pvs, putS, cellsOf, scals, scal, Nat.reduceEqDiff, Nat.reduceAdd, reduceCtorEq, fieldA, nonNil, cellsAt, mkAgg, allPV, storeB, patchL, Int.reduceToNat, Nat.reduceMul, Nat.reduceLT, stepA, Int.reduceNeg, Int.reduceLE, Int.reduceLT, Int.reduceEq, extractV, mkAgg, Nat.reduceLeDiff, fillA, pureVs, pureV, eqV, eqB, lenV.eq_1, lenV.eq_2, lenV.eq_3, lenV.eq_4, binV, intBin, intV, idxA, List.drop, List.take, RetP, retP, resV, resOne, snapV, snapVs, snapR, snapRs, ownSz, pickV, AO.isC, opE, opD, funV.eq_1, funV.eq_2, snapP, specP, k.call, hc0]
  | none =>
    have hs : s.pods.length ≤ 2 ^ 30 := by
      unfold checkB at hc
      split at hc
      · rename_i hz
        simp only [sizesOK, Bool.and_eq_true, decide_eq_true_eq] at hz
        omega
      · simp at hc
    rw [hc] at k
    simp only [badO] at k
    simp only
    by_cases c1 : x.pre < 0
    · rw [if_neg (by omega)]
      simp only [f152, runL, opQ, evOp, evO, evOs, guardV, argsA, pvs, putS, cellsOf, scals, scal, Nat.reduceEqDiff, Nat.reduceAdd, reduceCtorEq, fieldA, nonNil, cellsAt, mkAgg, allPV, storeB, patchL, Int.reduceToNat, Nat.reduceMul, Nat.reduceLT, stepA, Int.reduceNeg, Int.reduceLE, Int.reduceLT, Int.reduceEq, extractV, mkAgg, Nat.reduceLeDiff, fillA, pureVs, pureV, eqV, eqB, lenV.eq_1, lenV.eq_2, lenV.eq_3, lenV.eq_4, binV, intBin, intV, idxA, List.drop, List.take, RetP, retP, resV, resOne, snapV, snapVs, snapR, snapRs, ownSz, pickV, AO.isC, opE, opD, funV.eq_1, funV.eq_2, snapP, specP, k.call, c1, badO]
    · by_cases c2 : 40 < x.pre
      · rw [if_neg (by omega)]
        simp only [f152, runL, opQ, evOp, evO, evOs, guardV, argsA, pvs, putS, cellsOf, scals, scal, Nat.reduceEqDiff, Nat.reduceAdd, reduceCtorEq, fieldA, nonNil, cellsAt, mkAgg, allPV, storeB, patchL, Int.reduceToNat, Nat.reduceMul, Nat.reduceLT, stepA, Int.reduceNeg, Int.reduceLE, Int.reduceLT, Int.reduceEq, extractV, mkAgg, Nat.reduceLeDiff, fillA, pureVs, pureV, eqV, eqB, lenV.eq_1, lenV.eq_2, lenV.eq_3, lenV.eq_4, binV, intBin, intV, idxA, List.drop, List.take, RetP, retP, resV, resOne, snapV, snapVs, snapR, snapRs, ownSz, pickV, AO.isC, opE, opD, funV.eq_1, funV.eq_2, snapP, specP, k.call, c1, c2, badO]
      · by_cases c3 : x.shi < 0
        · rw [if_neg (by omega)]
          simp only [f152, runL, opQ, evOp, evO, evOs, guardV, argsA, pvs, putS, cellsOf, scals, scal, Nat.reduceEqDiff, Nat.reduceAdd, reduceCtorEq, fieldA, nonNil, cellsAt, mkAgg, allPV, storeB, patchL, Int.reduceToNat, Nat.reduceMul, Nat.reduceLT, stepA, Int.reduceNeg, Int.reduceLE, Int.reduceLT, Int.reduceEq, extractV, mkAgg, Nat.reduceLeDiff, fillA, pureVs, pureV, eqV, eqB, lenV.eq_1, lenV.eq_2, lenV.eq_3, lenV.eq_4, binV, intBin, intV, idxA, List.drop, List.take, RetP, retP, resV, resOne, snapV, snapVs, snapR, snapRs, ownSz, pickV, AO.isC, opE, opD, funV.eq_1, funV.eq_2, snapP, specP, k.call, c1, c2, c3, badO]
        · by_cases c4 : 40 < x.shi
          · rw [if_neg (by omega)]
            simp only [f152, runL, opQ, evOp, evO, evOs, guardV, argsA, pvs, putS, cellsOf, scals, scal, Nat.reduceEqDiff, Nat.reduceAdd, reduceCtorEq, fieldA, nonNil, cellsAt, mkAgg, allPV, storeB, patchL, Int.reduceToNat, Nat.reduceMul, Nat.reduceLT, stepA, Int.reduceNeg, Int.reduceLE, Int.reduceLT, Int.reduceEq, extractV, mkAgg, Nat.reduceLeDiff, fillA, pureVs, pureV, eqV, eqB, lenV.eq_1, lenV.eq_2, lenV.eq_3, lenV.eq_4, binV, intBin, intV, idxA, List.drop, List.take, RetP, retP, resV, resOne, snapV, snapVs, snapR, snapRs, ownSz, pickV, AO.isC, opE, opD, funV.eq_1, funV.eq_2, snapP, specP, k.call, c1, c2, c3, c4, badO]
          · rw [if_pos (by omega)]
            simp only [f152, runL, opQ, evOp, evO, evOs, guardV, argsA, pvs, putS, cellsOf, scals, scal, Nat.reduceEqDiff, Nat.reduceAdd, reduceCtorEq, fieldA, nonNil, cellsAt, mkAgg, allPV, storeB, patchL, Int.reduceToNat, Nat.reduceMul, Nat.reduceLT, stepA, Int.reduceNeg, Int.reduceLE, Int.reduceLT, Int.reduceEq, extractV, mkAgg, Nat.reduceLeDiff, fillA, pureVs, pureV, eqV, eqB, lenV.eq_1, lenV.eq_2, lenV.eq_3, lenV.eq_4, binV, intBin, intV, idxA, List.drop, List.take, RetP, retP, resV, resOne, snapV, snapVs, snapR, snapRs, ownSz, pickV, AO.isC, opE, opD, funV.eq_1, funV.eq_2, snapP, specP, k.call, c1, c2, c3, c4]
            refine fairr_loop h156 s x hs hx _ (wantsFrom s.pods none 0 x.wants) (fun ho fr hp nx => ?_) (fun c a ho fr hp nx g4 g5 => ?_) x.wants 0 none rfl (Nat.zero_le _) (.inl ⟨rfl, rfl⟩) rfl _ _ _ (Nat.le_refl _) rfl rfl rfl rfl rfl
            · simp only [runL, opQ, evOp, evO, evOs, guardV, argsA, pvs, putS, cellsOf, scals, scal, Nat.reduceEqDiff, Nat.reduceAdd, reduceCtorEq, fieldA, nonNil, cellsAt, mkAgg, allPV, storeB, patchL, Int.reduceToNat, Nat.reduceMul, Nat.reduceLT, stepA, Int.reduceNeg, Int.reduceLE, Int.reduceLT, Int.reduceEq, extractV, mkAgg, Nat.reduceLeDiff, fillA, pureVs, pureV, eqV, eqB, lenV.eq_1, lenV.eq_2, lenV.eq_3, lenV.eq_4, binV, intBin, intV, idxA, List.drop, List.take, RetP, retP, resV, resOne, snapV, snapVs, snapR, snapRs, ownSz, pickV, AO.isC, opE, opD, funV.eq_1, funV.eq_2, ho, badO]
            · simp only [runL, opQ, evOp, evO, evOs, guardV, argsA, pvs, putS, cellsOf, scals, scal, Nat.reduceEqDiff, Nat.reduceAdd, reduceCtorEq, fieldA, nonNil, cellsAt, mkAgg, allPV, storeB, patchL, Int.reduceToNat, Nat.reduceMul, Nat.reduceLT, stepA, Int.reduceNeg, Int.reduceLE, Int.reduceLT, Int.reduceEq, extractV, mkAgg, Nat.reduceLeDiff, fillA, pureVs, pureV, eqV, eqB, lenV.eq_1, lenV.eq_2, lenV.eq_3, lenV.eq_4, binV, intBin, intV, idxA, List.drop, List.take, RetP, retP, resV, resOne, snapV, snapVs, snapR, snapRs, ownSz, pickV, AO.isC, opE, opD, funV.eq_1, funV.eq_2, ho, g4, g5, badO]
theorem toldG_ok (h105 : Std T 105 f105) (h102 : Std T 102 f102) (h103 : StdP T 103 isP) (o : Option (Int × Int)) (h : ErrOK o) : Gives T 105 [errG o, .int .i64 (bad1 o), .int .i64 (bad2 o)] (.bool true) := by
  cases o with
  | none => exact told_ok h105 h102 h103 none (fun c i h => by simp at h)
  | some q =>
    obtain ⟨c, a⟩ := q
    obtain ⟨h1, h2, h3⟩ := h c a rfl
    by_cases ha : a < 0
    · have e : a = -1 := by omega
      subst e
      refine gives h105 rfl ?_
      have k := code_code h102 c h1 h2
      simp only [codeE] at k
      simp only [f105, runL, opQ, evOp, evO, evOs, guardV, argsA, pvs, putS, cellsOf, scals, scal, Nat.reduceEqDiff, Nat.reduceAdd, reduceCtorEq, fieldA, nonNil, cellsAt, mkAgg, allPV, storeB, patchL, Int.reduceToNat, Nat.reduceMul, Nat.reduceLT, stepA, Int.reduceNeg, Int.reduceLE, Int.reduceLT, Int.reduceEq, extractV, mkAgg, Nat.reduceLeDiff, fillA, pureVs, pureV, eqV, eqB, lenV.eq_1, lenV.eq_2, lenV.eq_3, lenV.eq_4, binV, intBin, intV, idxA, List.drop, List.take, RetP, retP, resV, resOne, snapV, snapVs, snapR, snapRs, ownSz, pickV, AO.isC, opE, opD, funV.eq_1, funV.eq_2, errG, bad1, bad2, codeE, Int.reduceNeg, Int.reduceLT, k.call]
    · have := told_ok h105 h102 h103 (some (c, a)) (fun c' i h => by simp at h; omega)
      simpa only [errG, if_neg ha, errO] using this
end
end Go.Proofs.YtdjpeonignkheaaDoor.Ab
set_option linter.unusedVariables false
set_option linter.unusedSimpArgs false
namespace Go.Proofs.YtdjpeonignkheaaDoor.Ab
open Go
def l03 : List (Nat × AFunc) := [(16, f16), (76, f76), (77, f77), (78, f78), (79, f79), (80, f80), (81, f81), (82, f82), (85, f85), (86, f86), (87, f87), (88, f88), (89, f89), (90, f90), (91, f91), (257, f257), (258, f258), (259, f259), (261, f261), (282, f282), (287, f287),
  (102, f102), (105, f105), (141, f141), (151, f151), (152, f152), (153, f153), (154, f154), (155, f155), (156, f156), (159, f159), (160, f160), (332, f332), (341, f341)]
def p03 : List (Nat × Prm) := [(103, isP), (266, asP)]
def T03 : Tab := tabOf l03 [16, 77, 78, 79, 266] [282] [] [341] p03
theorem up03 : Gives T03 341 [] (.bool true) := ⟨rfl, rfl, none, callP_true (k := 60) (by decide +kernel)⟩
def l03b : List (Nat × AFunc) := [(16, f16), (76, f76), (77, f77), (78, f78), (79, f79), (80, f80), (81, f81), (82, f82), (85, f85), (86, f86), (87, f87), (88, f88), (89, f89), (90, f90), (91, f91), (257, f257), (258, f258), (259, f259), (261, f261), (282, f282), (287, f287),
  (153, f153), (333, f333), (341, f341)]
def T03b : Tab := tabOf l03b [16, 77, 78, 79, 266] [282] [] [341] p03
theorem up03b : Gives T03b 341 [] (.bool true) := ⟨rfl, rfl, none, callP_true (k := 60) (by decide +kernel)⟩
theorem S3 : Std3f T03 := ⟨⟨⟨rfl, rfl, rfl, rfl⟩, ⟨rfl, rfl, rfl, rfl, rfl⟩, ⟨rfl, rfl⟩, ⟨rfl, rfl, rfl, rfl⟩, ⟨rfl, rfl, rfl, rfl⟩, ⟨rfl, rfl, rfl, rfl⟩, ⟨rfl, rfl, rfl, rfl, rfl⟩, ⟨rfl, rfl, rfl, rfl, rfl⟩, ⟨rfl, rfl, rfl, rfl, rfl⟩, ⟨rfl, rfl, rfl, rfl, rfl⟩, ⟨rfl, rfl, rfl, rfl, rfl⟩, ⟨rfl, rfl, rfl, rfl, rfl⟩, ⟨⟨rfl, rfl, rfl, rfl, rfl⟩, ⟨rfl, rfl, rfl, rfl, rfl⟩, ⟨rfl, rfl, rfl, rfl, rfl⟩, ⟨rfl, rfl, rfl, rfl, rfl⟩⟩, ⟨rfl, rfl, rfl, rfl, rfl⟩⟩, ⟨rfl, rfl, rfl, rfl, rfl⟩, ⟨rfl, rfl, rfl, rfl, rfl⟩, ⟨⟨rfl, rfl, rfl, rfl, rfl⟩, rfl, ⟨rfl, rfl, rfl, rfl, rfl⟩, ⟨rfl, rfl, rfl, rfl, rfl⟩⟩⟩
theorem S3b : Std3f T03b := ⟨⟨⟨rfl, rfl, rfl, rfl⟩, ⟨rfl, rfl, rfl, rfl, rfl⟩, ⟨rfl, rfl⟩, ⟨rfl, rfl, rfl, rfl⟩, ⟨rfl, rfl, rfl, rfl⟩, ⟨rfl, rfl, rfl, rfl⟩, ⟨rfl, rfl, rfl, rfl, rfl⟩, ⟨rfl, rfl, rfl, rfl, rfl⟩, ⟨rfl, rfl, rfl, rfl, rfl⟩, ⟨rfl, rfl, rfl, rfl, rfl⟩, ⟨rfl, rfl, rfl, rfl, rfl⟩, ⟨rfl, rfl, rfl, rfl, rfl⟩, ⟨⟨rfl, rfl, rfl, rfl, rfl⟩, ⟨rfl, rfl, rfl, rfl, rfl⟩, ⟨rfl, rfl, rfl, rfl, rfl⟩, ⟨rfl, rfl, rfl, rfl, rfl⟩⟩, ⟨rfl, rfl, rfl, rfl, rfl⟩⟩, ⟨rfl, rfl, rfl, rfl, rfl⟩, ⟨rfl, rfl, rfl, rfl, rfl⟩, ⟨⟨rfl, rfl, rfl, rfl, rfl⟩, rfl, ⟨rfl, rfl, rfl, rfl, rfl⟩, ⟨rfl, rfl, rfl, rfl, rfl⟩⟩⟩
theorem S3r : Std3r T03 := ⟨⟨rfl, rfl, rfl, rfl, rfl⟩, ⟨rfl, rfl, rfl, rfl, rfl⟩, ⟨rfl, rfl, rfl, rfl, rfl⟩, ⟨rfl, rfl, rfl, rfl, rfl⟩, ⟨rfl, rfl, rfl, rfl, rfl⟩, ⟨rfl, rfl, rfl, rfl, rfl⟩⟩
theorem badO_eq3 (o : Option (Int × Int)) : badO o = .tuple [.int .i64 (bad1 o), .int .i64 (bad2 o)] := by cases o <;> rfl
set_option maxRecDepth 100000 in
set_option maxHeartbeats 4000000 in
theorem law03a (s : Snap) (x : Spec) (_ : s.wf) (_ : x.wf) : Gives T03 332 [snapP s, specP x] (.bool true) := by
  refine gives (f := f332) ⟨rfl, rfl, rfl, rfl, rfl⟩ rfl ?_
  have kf := few3_ok (T := T03) ⟨rfl, rfl, rfl, rfl, rfl⟩ s
  simp only [snapP] at kf
  cases hf : few3 s
  · rw [hf] at kf
    simp only [f332, runL, opQ, evOp, evO, evOs, guardV, argsA, pvs, putS, cellsOf, scals, scal, Nat.reduceEqDiff, Nat.reduceAdd, reduceCtorEq, fieldA, nonNil, cellsAt, mkAgg, allPV, storeB, patchL, Int.reduceToNat, Nat.reduceMul, Nat.reduceLT, stepA, Int.reduceNeg, Int.reduceLE, Int.reduceLT, Int.reduceEq, extractV, mkAgg, Nat.reduceLeDiff, fillA, pureVs, pureV, eqV, eqB, lenV.eq_1, lenV.eq_2, lenV.eq_3, lenV.eq_4, binV, intBin, intV, idxA, List.drop, List.take, RetP, retP, resV, resOne, snapV, snapVs, snapR, snapRs, ownSz, pickV, AO.isC, opE, opD, funV.eq_1, funV.eq_2, up03.call, snapP, specP, kf.call]
  · rw [hf] at kf
    by_cases hx : (40 : Int) < (x.wants.length : Int)
    · simp only [f332, runL, opQ, evOp, evO, evOs, guardV, argsA, pvs, putS, cellsOf, scals, scal, Nat.reduceEqDiff, Nat.reduceAdd, reduceCtorEq, fieldA, nonNil, cellsAt, mkAgg, allPV, storeB, patchL, Int.reduceToNat, Nat.reduceMul, Nat.reduceLT, stepA, Int.reduceNeg, Int.reduceLE, Int.reduceLT, Int.reduceEq, extractV, mkAgg, Nat.reduceLeDiff, fillA, pureVs, pureV, eqV, eqB, lenV.eq_1, lenV.eq_2, lenV.eq_3, lenV.eq_4, binV, intBin, intV, idxA, List.drop, List.take, RetP, retP, resV, resOne, snapV, snapVs, snapR, snapRs, ownSz, pickV, AO.isC, opE, opD, funV.eq_1, funV.eq_2, up03.call, snapP, specP, kf.call, hx]
    · have k1 := check3_ok S3.b s
      have k2 := check3r_ok S3r s
      have k3 := fair3_ok S3 s x (by omega)
      have k4 := fair3r_ok S3r ⟨rfl, rfl, rfl, rfl, rfl⟩ ⟨rfl, rfl, rfl, rfl, rfl⟩ s x (by omega)
      have k5 := toldG_ok (T := T03) ⟨rfl, rfl, rfl, rfl, rfl⟩ ⟨rfl, rfl, rfl, rfl, rfl⟩ ⟨rfl, rfl, rfl⟩ (checkB s) (checkB_ok s)
      have k6 := toldG_ok (T := T03) ⟨rfl, rfl, rfl, rfl, rfl⟩ ⟨rfl, rfl, rfl, rfl, rfl⟩ ⟨rfl, rfl, rfl⟩ (fairB s x) (fairB_ok s x)
      rw [badO_eq3] at k2 k4
      simp only [snapP, specP] at k1 k2 k3 k4
      simp only [f332, runL, opQ, evOp, evO, evOs, guardV, argsA, pvs, putS, cellsOf, scals, scal, Nat.reduceEqDiff, Nat.reduceAdd, reduceCtorEq, fieldA, nonNil, cellsAt, mkAgg, allPV, storeB, patchL, Int.reduceToNat, Nat.reduceMul, Nat.reduceLT, stepA, Int.reduceNeg, Int.reduceLE, Int.reduceLT, Int.reduceEq, extractV, mkAgg, Nat.reduceLeDiff, fillA, pureVs, pureV, eqV, eqB, lenV.eq_1, lenV.eq_2, lenV.eq_3, lenV.eq_4, binV, intBin, intV, idxA, List.drop, List.take, RetP, retP, resV, resOne, snapV, snapVs, snapR, snapRs, ownSz, pickV, AO.isC, opE, opD, funV.eq_1, funV.eq_2, up03.call, snapP, specP, kf.call, hx, k1.call, k2.call, k3.call, k4.call, k5.call, k6.call]
theorem fstB_take {α : Type} {idOf own : α → Int} : ∀ (l : List α) (n : Nat) (last a : Int), fstB idOf own last a l = none → fstB idOf own last a (l.take n) = none
  | [], n, last, a, _ => by simp [fstB]
  | x :: r, 0, last, a, _ => by simp [fstB]
  | x :: r, n + 1, last, a, h => by
    simp only [fstB] at h
    cases hl : lookB a (idOf x) last (own x) with
    | some q => rw [hl, Option.some_or] at h; simp at h
    | none =>
      rw [hl, Option.none_or] at h
      simp only [List.take_succ_cons, fstB, hl, Option.none_or]
      exact fstB_take r n _ _ h
theorem checkB_take (s : Snap) (n : Nat) (h : checkB s = none) : checkB ⟨s.nodes, s.loads, s.pods.take n⟩ = none := by
  unfold checkB at h ⊢
  split at h
  · rename_i hz
    have hz' := hz
    simp only [sizesOK, Bool.and_eq_true, decide_eq_true_eq] at hz'
    rw [if_pos (by simp only [sizesOK, Bool.and_eq_true, decide_eq_true_eq, List.length_take]; omega)]
    cases h1 : fstB Node.id nodeBad 0 0 s.nodes with
    | some q => rw [h1, Option.some_or, Option.some_or] at h; simp at h
    | none =>
      cases h2 : fstB Load.id loadBad 0 s.nodes.length s.loads with
      | some q => rw [h1, h2, Option.none_or, Option.some_or] at h; simp at h
      | none =>
        rw [h1, h2, Option.none_or, Option.none_or] at h
        rw [Option.none_or, Option.none_or]
        exact fstB_take s.pods n _ _ h
  · simp at h
set_option maxRecDepth 100000 in
set_option maxHeartbeats 4000000 in
theorem law03b (s : Snap) (n : Int) (_ : s.wf) (_ : inI n) : Gives T03b 333 [snapP s, .int .i64 n] (.bool true) := by
  refine gives (f := f333) ⟨rfl, rfl, rfl, rfl, rfl⟩ rfl ?_
  have kf := few3_ok (T := T03b) ⟨rfl, rfl, rfl, rfl, rfl⟩ s
  simp only [snapP] at kf
  cases hf : few3 s
  · rw [hf] at kf
    simp only [f333, runL, opQ, evOp, evO, evOs, guardV, argsA, pvs, putS, cellsOf, scals, scal, Nat.reduceEqDiff, Nat.reduceAdd, reduceCtorEq, fieldA, nonNil, cellsAt, mkAgg, allPV, storeB, patchL, Int.reduceToNat, Nat.reduceMul, Nat.reduceLT, stepA, Int.reduceNeg, Int.reduceLE, Int.reduceLT, Int.reduceEq, extractV, mkAgg, Nat.reduceLeDiff, fillA, pureVs, pureV, eqV, eqB, lenV.eq_1, lenV.eq_2, lenV.eq_3, lenV.eq_4, binV, intBin, intV, idxA, List.drop, List.take, RetP, retP, resV, resOne, snapV, snapVs, snapR, snapRs, ownSz, pickV, AO.isC, opE, opD, funV.eq_1, funV.eq_2, up03b.call, snapP, kf.call]
  · rw [hf] at kf
    by_cases c1 : n < 0
    · simp only [f333, runL, opQ, evOp, evO, evOs, guardV, argsA, pvs, putS, cellsOf, scals, scal, Nat.reduceEqDiff, Nat.reduceAdd, reduceCtorEq, fieldA, nonNil, cellsAt, mkAgg, allPV, storeB, patchL, Int.reduceToNat, Nat.reduceMul, Nat.reduceLT, stepA, Int.reduceNeg, Int.reduceLE, Int.reduceLT, Int.reduceEq, extractV, mkAgg, Nat.reduceLeDiff, fillA, pureVs, pureV, eqV, eqB, lenV.eq_1, lenV.eq_2, lenV.eq_3, lenV.eq_4, binV, intBin, intV, idxA, List.drop, List.take, RetP, retP, resV, resOne, snapV, snapVs, snapR, snapRs, ownSz, pickV, AO.isC, opE, opD, funV.eq_1, funV.eq_2, up03b.call, snapP, kf.call, c1]
    · by_cases c2 : (s.pods.length : Int) < n
      · simp only [f333, runL, opQ, evOp, evO, evOs, guardV, argsA, pvs, putS, cellsOf, scals, scal, Nat.reduceEqDiff, Nat.reduceAdd, reduceCtorEq, fieldA, nonNil, cellsAt, mkAgg, allPV, storeB, patchL, Int.reduceToNat, Nat.reduceMul, Nat.reduceLT, stepA, Int.reduceNeg, Int.reduceLE, Int.reduceLT, Int.reduceEq, extractV, mkAgg, Nat.reduceLeDiff, fillA, pureVs, pureV, eqV, eqB, lenV.eq_1, lenV.eq_2, lenV.eq_3, lenV.eq_4, binV, intBin, intV, idxA, List.drop, List.take, RetP, retP, resV, resOne, snapV, snapVs, snapR, snapRs, ownSz, pickV, AO.isC, opE, opD, funV.eq_1, funV.eq_2, up03b.call, snapP, kf.call, c1, c2]
      · obtain ⟨m, rfl⟩ : ∃ m : Nat, n = m := ⟨n.toNat, by omega⟩
        have hm : m ≤ s.pods.length := by omega
        have k1 := check3_ok S3b.b s
        cases hc : checkB s with
        | some q =>
          obtain ⟨c, a⟩ := q
          rw [hc] at k1
          simp only [snapP, errG] at k1
          by_cases ha : a < 0
          · rw [if_pos ha] at k1
            simp only [codeE] at k1
            simp only [f333, runL, opQ, evOp, evO, evOs, guardV, argsA, pvs, putS, cellsOf, scals, scal, Nat.reduceEqDiff, Nat.reduceAdd, reduceCtorEq, fieldA, nonNil, cellsAt, mkAgg, allPV, storeB, patchL, Int.reduceToNat, Nat.reduceMul, Nat.reduceLT, stepA, Int.reduceNeg, Int.reduceLE, Int.reduceLT, Int.reduceEq, extractV, mkAgg, Nat.reduceLeDiff, fillA, pureVs, pureV, eqV, eqB, lenV.eq_1, lenV.eq_2, lenV.eq_3, lenV.eq_4, binV, intBin, intV, idxA, List.drop, List.take, RetP, retP, resV, resOne, snapV, snapVs, snapR, snapRs, ownSz, pickV, AO.isC, opE, opD, funV.eq_1, funV.eq_2, up03b.call, snapP, kf.call, c1, c2, k1.call]
          · rw [if_neg ha] at k1
            simp only [spotE] at k1
            simp only [f333, runL, opQ, evOp, evO, evOs, guardV, argsA, pvs, putS, cellsOf, scals, scal, Nat.reduceEqDiff, Nat.reduceAdd, reduceCtorEq, fieldA, nonNil, cellsAt, mkAgg, allPV, storeB, patchL, Int.reduceToNat, Nat.reduceMul, Nat.reduceLT, stepA, Int.reduceNeg, Int.reduceLE, Int.reduceLT, Int.reduceEq, extractV, mkAgg, Nat.reduceLeDiff, fillA, pureVs, pureV, eqV, eqB, lenV.eq_1, lenV.eq_2, lenV.eq_3, lenV.eq_4, binV, intBin, intV, idxA, List.drop, List.take, RetP, retP, resV, resOne, snapV, snapVs, snapR, snapRs, ownSz, pickV, AO.isC, opE, opD, funV.eq_1, funV.eq_2, up03b.call, snapP, kf.call, c1, c2, k1.call]
        | none =>
          rw [hc] at k1
          have hc2 := checkB_take s m hc
          have k2 := check3_ok S3b.b ⟨s.nodes, s.loads, s.pods.take m⟩
          have k3 := fair3_ok S3b ⟨s.nodes, s.loads, s.pods.take m⟩ ⟨[], 0, 0⟩ (by simp)
          rw [hc2] at k2
          have hfa : fairB ⟨s.nodes, s.loads, s.pods.take m⟩ ⟨[], 0, 0⟩ = none := by
            unfold fairB
            rw [hc2]
            simp [wantsFrom]
          rw [hfa] at k3
          simp only [snapP, specP, errG, List.map_nil, List.map_take] at k1 k2 k3
          simp only [f333, runL, opQ, evOp, evO, evOs, guardV, argsA, pvs, putS, cellsOf, scals, scal, Nat.reduceEqDiff, Nat.reduceAdd, reduceCtorEq, fieldA, nonNil, cellsAt, mkAgg, allPV, storeB, patchL, Int.reduceToNat, Nat.reduceMul, Nat.reduceLT, stepA, Int.reduceNeg, Int.reduceLE, Int.reduceLT, Int.reduceEq, extractV, mkAgg, Nat.reduceLeDiff, fillA, pureVs, pureV, eqV, eqB, lenV.eq_1, lenV.eq_2, lenV.eq_3, lenV.eq_4, binV, intBin, intV, idxA, List.drop, List.take, RetP, retP, resV, resOne, snapV, snapVs, snapR, snapRs, ownSz, pickV, AO.isC, opE, opD, funV.eq_1, funV.eq_2, up03b.call, snapP, kf.call, c1, c2, k1.call, bndO, subV, allLen_pods, Option.getD_some, Option.getD_none, Nat.zero_le, hm, Nat.sub_zero, k2.call, k3.call]
end Go.Proofs.YtdjpeonignkheaaDoor.Ab
