/- The layer, part 3: Sp8m. -/
import Derived.Test.YtimkghkokfhfcaaDoorA2
set_option linter.unusedVariables false
set_option linter.unusedSimpArgs false
namespace Go.Proofs.YtimkghkokfhfcaaDoor.Ab
open Go
def l08m : List (Nat × AFunc) := [(82, f82), (83, f83), (84, f84), (153, f153), (163, f163), (234, f234), (235, f235), (236, f236), (239, f239), (242, f242), (243, f243), (244, f244), (245, f245), (287, f287), (356, f356), (357, f357)]
def p08m : List (Nat × Prm) := [(103, isP), (279, cloneP 8), (281, compP), (290, foldP mostL), (291, foldP leastL), (293, sortP)]
def T08m : Tab := tabOf l08m [242, 281, 293] [287, 290, 291] [279] [357] p08m
theorem up08m : Gives T08m 357 [] (.bool true) := ⟨rfl, rfl, none, callP_true (k := 60) (by decide +kernel)⟩
theorem Z08m : StdZ T08m := ⟨rfl, rfl, rfl, rfl, ⟨rfl, rfl, rfl, rfl, rfl⟩⟩
theorem S08m : Std8 T08m := ⟨Z08m, ⟨rfl, rfl, rfl, rfl, rfl⟩, ⟨rfl, rfl, rfl, rfl, rfl⟩, ⟨rfl, rfl, rfl, rfl, rfl⟩, ⟨rfl, rfl, rfl⟩, ⟨rfl, rfl, rfl⟩, rfl, rfl⟩
theorem M08m : StdM T08m := ⟨⟨⟨rfl, rfl, rfl, rfl, rfl⟩, rfl, ⟨rfl, rfl, rfl, rfl, rfl⟩, ⟨rfl, rfl, rfl, rfl, rfl⟩⟩, ⟨rfl, rfl, rfl, rfl, rfl⟩, ⟨rfl, rfl, rfl, rfl, rfl⟩, ⟨rfl, rfl, rfl, rfl, rfl⟩, ⟨rfl, rfl, rfl, rfl⟩, ⟨rfl, rfl, rfl, rfl, rfl⟩, ⟨rfl, rfl, rfl⟩⟩
set_option maxRecDepth 100000 in
set_option maxHeartbeats 4000000 in
theorem law08c (s : Snap) (x : Spec) (t : State) (m : Move) (load : Int) (_ : s.wf) (_ : x.wf) (_ : t.wf) (_ : m.wf) (_ : inI load) : Gives T08m 356 [snapP s, specP x, stateP t, moveP m, .int .i64 load] (.bool true) := by
  refine gives (f := f356) ⟨rfl, rfl, rfl, rfl, rfl⟩ rfl ?_
  have kf := few5_ok (T := T08m) ⟨rfl, rfl, rfl, rfl, rfl⟩ ⟨rfl, rfl, rfl, rfl, rfl⟩ s x t
  simp only [snapP, specP, stateP] at kf
  cases hf : few5 s x t
  · rw [hf] at kf
    simp only [f356, runL, opQ, evOp, evO, evOs, guardV, argsA, pvs, putS, cellsOf, scals, scal, Nat.reduceEqDiff, Nat.reduceAdd, reduceCtorEq, fieldA, nonNil, cellsAt, mkAgg, allPV, storeB, patchL, Int.reduceToNat, Nat.reduceMul, Nat.reduceLT, stepA, Int.reduceNeg, Int.reduceLE, Int.reduceLT, Int.reduceEq, extractV, mkAgg, Nat.reduceLeDiff, fillA, pureVs, pureV, eqV, eqB, lenV.eq_1, lenV.eq_2, lenV.eq_3, lenV.eq_4, binV, intBin, intV, idxA, List.drop, List.take, RetP, retP, resV, resOne, snapV, snapVs, snapR, snapRs, ownSz, pickV, AO.isC, opE, opD, funV.eq_1, funV.eq_2, up08m.call, snapP, specP, stateP, moveP, moveC, kf.call]
  · have hf' := hf
    simp only [few5, few3, Bool.and_eq_true, decide_eq_true_eq] at hf'
    obtain ⟨⟨l1, l2, l3⟩, l4, l5⟩ := hf'
    rw [hf] at kf
    have km := make_ok M08m s x t m (by omega) (by omega) (by omega)
    have ks := skew8_ok S08m s t load (by omega) (by omega)
    simp only [snapP, specP, stateP, moveP, moveC] at km ks
    simp only [f356, runL, opQ, evOp, evO, evOs, guardV, argsA, pvs, putS, cellsOf, scals, scal, Nat.reduceEqDiff, Nat.reduceAdd, reduceCtorEq, fieldA, nonNil, cellsAt, mkAgg, allPV, storeB, patchL, Int.reduceToNat, Nat.reduceMul, Nat.reduceLT, stepA, Int.reduceNeg, Int.reduceLE, Int.reduceLT, Int.reduceEq, extractV, mkAgg, Nat.reduceLeDiff, fillA, pureVs, pureV, eqV, eqB, lenV.eq_1, lenV.eq_2, lenV.eq_3, lenV.eq_4, binV, intBin, intV, idxA, List.drop, List.take, RetP, retP, resV, resOne, snapV, snapVs, snapR, snapRs, ownSz, pickV, AO.isC, opE, opD, funV.eq_1, funV.eq_2, up08m.call, snapP, specP, stateP, moveP, moveC, kf.call]
    cases hm : makeS s x t m with
    | inl c =>
      rw [hm] at km
      simp only [makeR, codeE, stateP, List.map_nil] at km
      simp only [runL, opQ, evOp, evO, evOs, guardV, argsA, pvs, putS, cellsOf, scals, scal, Nat.reduceEqDiff, Nat.reduceAdd, reduceCtorEq, fieldA, nonNil, cellsAt, mkAgg, allPV, storeB, patchL, Int.reduceToNat, Nat.reduceMul, Nat.reduceLT, stepA, Int.reduceNeg, Int.reduceLE, Int.reduceLT, Int.reduceEq, extractV, mkAgg, Nat.reduceLeDiff, fillA, pureVs, pureV, eqV, eqB, lenV.eq_1, lenV.eq_2, lenV.eq_3, lenV.eq_4, binV, intBin, intV, idxA, List.drop, List.take, RetP, retP, resV, resOne, snapV, snapVs, snapR, snapRs, ownSz, pickV, AO.isC, opE, opD, funV.eq_1, funV.eq_2, km.call]
    | inr u =>
      rw [hm] at km
      simp only [makeR, stateP] at km
      obtain ⟨hn, hlen⟩ := near_moves s x t u m hm
      have ku := skew8_ok S08m s u load (by omega) (by omega)
      simp only [snapP, stateP] at ku
      have h1 := skewZ_range s load t.pods
      have h2 := skewZ_range s load u.pods
      rw [hlen] at h2
      have h3 := skewZ_near s load _ _ _ hn
      have w1 : IntKind.i64.wrap (skewZ s load u.pods - skewZ s load t.pods) = skewZ s load u.pods - skewZ s load t.pods := by rw [wrap6] <;> omega
      have w2 : IntKind.i64.wrap (0 - (skewZ s load u.pods - skewZ s load t.pods)) = 0 - (skewZ s load u.pods - skewZ s load t.pods) := by rw [wrap6] <;> omega
      simp only [runL, opQ, evOp, evO, evOs, guardV, argsA, pvs, putS, cellsOf, scals, scal, Nat.reduceEqDiff, Nat.reduceAdd, reduceCtorEq, fieldA, nonNil, cellsAt, mkAgg, allPV, storeB, patchL, Int.reduceToNat, Nat.reduceMul, Nat.reduceLT, stepA, Int.reduceNeg, Int.reduceLE, Int.reduceLT, Int.reduceEq, extractV, mkAgg, Nat.reduceLeDiff, fillA, pureVs, pureV, eqV, eqB, lenV.eq_1, lenV.eq_2, lenV.eq_3, lenV.eq_4, binV, intBin, intV, idxA, List.drop, List.take, RetP, retP, resV, resOne, snapV, snapVs, snapR, snapRs, ownSz, pickV, AO.isC, opE, opD, funV.eq_1, funV.eq_2, km.call]
      refine (Wp_calm rfl).2 ?_
      by_cases k4 : m.kind = 4
      · have d4 := decide_eq_true k4
        rw [if_pos k4] at h3
        have e1 : skewZ s load u.pods - skewZ s load t.pods ≤ 4 := by omega
        have e2 : 0 - (skewZ s load u.pods - skewZ s load t.pods) ≤ 4 := by omega
        simp only [runL, opQ, evOp, evO, evOs, guardV, argsA, pvs, putS, cellsOf, scals, scal, Nat.reduceEqDiff, Nat.reduceAdd, reduceCtorEq, fieldA, nonNil, cellsAt, mkAgg, allPV, storeB, patchL, Int.reduceToNat, Nat.reduceMul, Nat.reduceLT, stepA, Int.reduceNeg, Int.reduceLE, Int.reduceLT, Int.reduceEq, extractV, mkAgg, Nat.reduceLeDiff, fillA, pureVs, pureV, eqV, eqB, lenV.eq_1, lenV.eq_2, lenV.eq_3, lenV.eq_4, binV, intBin, intV, idxA, List.drop, List.take, RetP, retP, resV, resOne, snapV, snapVs, snapR, snapRs, ownSz, pickV, AO.isC, opE, opD, funV.eq_1, funV.eq_2, ku.callD, ks.callD, w1, d4, e1, e2, w2]
      · rw [if_neg k4] at h3
        have e1 : skewZ s load u.pods - skewZ s load t.pods ≤ 2 := by omega
        have e2 : 0 - (skewZ s load u.pods - skewZ s load t.pods) ≤ 2 := by omega
        simp only [runL, opQ, evOp, evO, evOs, guardV, argsA, pvs, putS, cellsOf, scals, scal, Nat.reduceEqDiff, Nat.reduceAdd, reduceCtorEq, fieldA, nonNil, cellsAt, mkAgg, allPV, storeB, patchL, Int.reduceToNat, Nat.reduceMul, Nat.reduceLT, stepA, Int.reduceNeg, Int.reduceLE, Int.reduceLT, Int.reduceEq, extractV, mkAgg, Nat.reduceLeDiff, fillA, pureVs, pureV, eqV, eqB, lenV.eq_1, lenV.eq_2, lenV.eq_3, lenV.eq_4, binV, intBin, intV, idxA, List.drop, List.take, RetP, retP, resV, resOne, snapV, snapVs, snapR, snapRs, ownSz, pickV, AO.isC, opE, opD, funV.eq_1, funV.eq_2, ku.callD, ks.callD, w1, k4, e1, e2, w2]
end Go.Proofs.YtimkghkokfhfcaaDoor.Ab
