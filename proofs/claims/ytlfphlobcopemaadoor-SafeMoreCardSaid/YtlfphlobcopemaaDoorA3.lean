/- The layer, part 3: Sp6b, Co11, Sp11, Sp11m. -/
import Derived.Test.YtlfphlobcopemaaDoorA2
set_option linter.unusedVariables false
set_option linter.unusedSimpArgs false
namespace Go.Proofs.YtlfphlobcopemaaDoor.Ab
open Go
section
variable {T : Tab}
def restC (s : Snap) (pods : List Pod) (id : Int) : Int × Vec := match nodeOf id s.nodes with
  | none => (4, vec0)
  | some n => match useO pods id with
    | none => (8, vec0)
    | some u => match subV' n.cap n.held with
      | none => (9, vec0)
      | some f => match subV' f u with
        | none => (9, vec0)
        | some r => (0, r)
def errC (c : Int) : PV := if c = 0 then .nili else codeE c
def restR (r : Int × Vec) : PV := .tuple [vecP r.2, errC r.1]
structure Std6 (T : Tab) : Prop where
  v : StdV T
  h82 : Std T 82 f82
  h221 : Std T 221 f221
  h258 : Std T 258 f258
  h259 : Std T 259 f259
  h220 : Std T 220 f220
  f260 : T.flat 260 = true
set_option maxRecDepth 100000 in
set_option maxHeartbeats 4000000 in
theorem rest_ok (S : Std6 T) (s : Snap) (t : State) (id : Int) (hn : s.nodes.length ≤ 2 ^ 30) (hl : t.pods.length ≤ 2 ^ 30) (hw : ∀ p ∈ t.pods, p.wf) : Gives T 220 [snapP s, stateP t, .int .i64 id] (restR (restC s t.pods id)) := by
  refine gives S.h220 rfl ?_
  have kn := node_ok S.h82 s id hn
  have ku := use_ok S.h221 S.v S.f260 t id hl hw
  unfold restC
  simp only [snapP] at kn
  simp only [stateP] at ku
  cases ho : nodeOf id s.nodes with
  | none =>
    rw [ho] at kn
    simp only [nodeR, nodeC, node0] at kn
    simp only [f220, runL, opQ, evOp, evO, evOs, guardV, argsA, pvs, putS, cellsOf, scals, scal, Nat.reduceEqDiff, Nat.reduceAdd, reduceCtorEq, fieldA, nonNil, cellsAt, mkAgg, allPV, storeB, patchL, Int.reduceToNat, Nat.reduceMul, Nat.reduceLT, stepA, Int.reduceNeg, Int.reduceLE, Int.reduceLT, Int.reduceEq, extractV, mkAgg, Nat.reduceLeDiff, fillA, pureVs, pureV, eqV, eqB, lenV, binV, intBin, intV, idxA, List.drop, List.take, RetP, retP, resV, resOne, snapV, snapVs, snapR, snapRs, ownSz, pickV, AO.isC, opE, opD, funV, snapP, stateP, kn.call, restR, errC, vecP, vecC, vec0, codeE]
  | some n =>
    rw [ho] at kn
    simp only [nodeR, nodeC] at kn
    cases hu : useO t.pods id with
    | none =>
      rw [hu] at ku
      simp only [vecR, vecP, vecC, vec0, codeE] at ku
      simp only [f220, runL, opQ, evOp, evO, evOs, guardV, argsA, pvs, putS, cellsOf, scals, scal, Nat.reduceEqDiff, Nat.reduceAdd, reduceCtorEq, fieldA, nonNil, cellsAt, mkAgg, allPV, storeB, patchL, Int.reduceToNat, Nat.reduceMul, Nat.reduceLT, stepA, Int.reduceNeg, Int.reduceLE, Int.reduceLT, Int.reduceEq, extractV, mkAgg, Nat.reduceLeDiff, fillA, pureVs, pureV, eqV, eqB, lenV, binV, intBin, intV, idxA, List.drop, List.take, RetP, retP, resV, resOne, snapV, snapVs, snapR, snapRs, ownSz, pickV, AO.isC, opE, opD, funV, snapP, stateP, kn.call, ku.call, restR, errC, vecP, vecC, vec0, codeE]
    | some u =>
      rw [hu] at ku
      simp only [vecR, vecP, vecC] at ku
      have k1 := sub_ok S.h258 S.v.h261 S.h259 n.cap n.held
      simp only [vecP, vecC] at k1
      cases h1 : subV' n.cap n.held with
      | none =>
        rw [h1] at k1
        simp only [vecR, vecP, vecC, vec0, codeE] at k1
        simp only [f220, runL, opQ, evOp, evO, evOs, guardV, argsA, pvs, putS, cellsOf, scals, scal, Nat.reduceEqDiff, Nat.reduceAdd, reduceCtorEq, fieldA, nonNil, cellsAt, mkAgg, allPV, storeB, patchL, Int.reduceToNat, Nat.reduceMul, Nat.reduceLT, stepA, Int.reduceNeg, Int.reduceLE, Int.reduceLT, Int.reduceEq, extractV, mkAgg, Nat.reduceLeDiff, fillA, pureVs, pureV, eqV, eqB, lenV, binV, intBin, intV, idxA, List.drop, List.take, RetP, retP, resV, resOne, snapV, snapVs, snapR, snapRs, ownSz, pickV, AO.isC, opE, opD, funV, snapP, stateP, kn.call, ku.call, k1.call, h1, restR, errC, vecP, vecC, vec0, codeE]
      | some f =>
        rw [h1] at k1
        simp only [vecR, vecP, vecC] at k1
        have k2 := sub_ok S.h258 S.v.h261 S.h259 f u
        simp only [vecP, vecC] at k2
        cases h2 : subV' f u with
        | none =>
          rw [h2] at k2
          simp only [vecR, vecP, vecC, vec0, codeE] at k2
          simp only [f220, runL, opQ, evOp, evO, evOs, guardV, argsA, pvs, putS, cellsOf, scals, scal, Nat.reduceEqDiff, Nat.reduceAdd, reduceCtorEq, fieldA, nonNil, cellsAt, mkAgg, allPV, storeB, patchL, Int.reduceToNat, Nat.reduceMul, Nat.reduceLT, stepA, Int.reduceNeg, Int.reduceLE, Int.reduceLT, Int.reduceEq, extractV, mkAgg, Nat.reduceLeDiff, fillA, pureVs, pureV, eqV, eqB, lenV, binV, intBin, intV, idxA, List.drop, List.take, RetP, retP, resV, resOne, snapV, snapVs, snapR, snapRs, ownSz, pickV, AO.isC, opE, opD, funV, snapP, stateP, kn.call, ku.call, k1.call, k2.call, h1, h2, restR, errC, vecP, vecC, vec0, codeE]
        | some r =>
          rw [h2] at k2
          simp only [vecR, vecP, vecC] at k2
          simp only [f220, runL, opQ, evOp, evO, evOs, guardV, argsA, pvs, putS, cellsOf, scals, scal, Nat.reduceEqDiff, Nat.reduceAdd, reduceCtorEq, fieldA, nonNil, cellsAt, mkAgg, allPV, storeB, patchL, Int.reduceToNat, Nat.reduceMul, Nat.reduceLT, stepA, Int.reduceNeg, Int.reduceLE, Int.reduceLT, Int.reduceEq, extractV, mkAgg, Nat.reduceLeDiff, fillA, pureVs, pureV, eqV, eqB, lenV, binV, intBin, intV, idxA, List.drop, List.take, RetP, retP, resV, resOne, snapV, snapVs, snapR, snapRs, ownSz, pickV, AO.isC, opE, opD, funV, snapP, stateP, kn.call, ku.call, k1.call, k2.call, h1, h2, restR, errC, vecP, vecC, vec0, codeE]
theorem restC_range (s : Snap) (pods : List Pod) (id : Int) : (restC s pods id).1 = 0 ∨ ((restC s pods id).1 ≠ 0 ∧ 1 ≤ (restC s pods id).1 ∧ (restC s pods id).1 ≤ 17) := by
  unfold restC
  repeat' split
  all_goals simp
def roomFrom (s : Snap) (pods : List Pod) : Nat → List Node → Option (Int × Int)
  | _, [] => none
  | i, n :: r => if (restC s pods n.id).1 = 0 then roomFrom s pods (i + 1) r else some ((restC s pods n.id).1, i)
set_option maxRecDepth 100000 in
set_option maxHeartbeats 4000000 in
theorem room_loop (S : Std6 T) (h219 : Std T 219 f219) (h266 : StdA T 266) (s : Snap) (t : State) (hn : s.nodes.length ≤ 2 ^ 30) (hl : t.pods.length ≤ 2 ^ 30) (hw : ∀ p ∈ t.pods, p.wf) (Q : Exit → St → Prop) (o : Option (Int × Int))
    (hend : o = none → ∀ fr hp nx, Q (.exit 0) ⟨fr, hp, nx⟩)
    (hret : ∀ c i, o = some (c, i) → ∀ fr hp nx id, look fr 4 = .iface 1 (.ptr id 0 0) → blkAt hp id = .var [.pv (.int .i64 i), .pv (.int .i64 c)] → Q .ret ⟨fr, hp, nx⟩) :
    ∀ (rest : List Node) (i : Nat), s.nodes.drop i = rest → i ≤ s.nodes.length → roomFrom s t.pods i rest = o → ∀ (fr : List (Nat × AV)) (hp : Hl) (nx : Nat), 2 ≤ nx →
      look fr 2 = .ptr 0 0 0 → blkAt hp 0 = .var [.pv (.slice (s.nodes.map nodeC)), .pv (.slice (s.loads.map loadC)), .pv (.slice (s.pods.map podC))] →
      look fr 3 = .ptr 1 0 0 → blkAt hp 1 = .var [.pv (.slice (t.pods.map podC)), .pv (.int .i64 t.pre), .pv (.int .i64 t.shi)] →
      look fr 11 = .pv (.slice (s.nodes.map nodeC)) → look fr 12 = .pv (.int .i64 s.nodes.length) → look fr 13 = .pv (.int .i64 i) → Wp T false (.loop f219l0) ⟨fr, hp, nx⟩ Q := by
  intro rest
  induction rest with
  | nil =>
    intro i hd hi ho fr hp nx hnx h2 b0 h3 b1 h11 h12 h13
    have hlen := drop_nil hd hi
    rw [Wp_loop, Wp_eq f219l0.eq_1]
    simp only [runL, opQ, evOp, evO, evOs, guardV, argsA, pvs, putS, cellsOf, scals, scal, Nat.reduceEqDiff, Nat.reduceAdd, reduceCtorEq, fieldA, nonNil, cellsAt, mkAgg, allPV, storeB, patchL, Int.reduceToNat, Nat.reduceMul, Nat.reduceLT, stepA, Int.reduceNeg, Int.reduceLE, Int.reduceLT, Int.reduceEq, extractV, mkAgg, Nat.reduceLeDiff, fillA, pureVs, pureV, eqV, eqB, lenV, binV, intBin, intV, idxA, List.drop, List.take, RetP, retP, resV, resOne, snapV, snapVs, snapR, snapRs, ownSz, pickV, AO.isC, opE, opD, funV, h11, h12, h13, hlen, Int.lt_irrefl]
    exact hend ho.symm _ _ _
  | cons n r ih =>
    intro i hd hi ho fr hp nx hnx h2 b0 h3 b1 h11 h12 h13
    obtain ⟨hget, hlt, hwi, hd', hi', hb⟩ := drop_cons hd hn
    have n0 : ¬ nx = 0 := by omega
    have n1 : ¬ nx = 1 := by omega
    have m0 : ¬ nx + 1 = 0 := by omega
    have m1 : ¬ nx + 1 = 1 := by omega
    have k := rest_ok S s t n.id hn hl hw
    simp only [snapP, stateP, restR, vecP, vecC] at k
    simp only [roomFrom] at ho
    rw [Wp_loop, Wp_eq f219l0.eq_1]
    rcases restC_range s t.pods n.id with hc | ⟨hc, _, _⟩
    · rw [if_pos hc] at ho
      simp only [errC, hc, if_true] at k
      simp only [runL, opQ, evOp, evO, evOs, guardV, argsA, pvs, putS, cellsOf, scals, scal, Nat.reduceEqDiff, Nat.reduceAdd, reduceCtorEq, fieldA, nonNil, cellsAt, mkAgg, allPV, storeB, patchL, Int.reduceToNat, Nat.reduceMul, Nat.reduceLT, stepA, Int.reduceNeg, Int.reduceLE, Int.reduceLT, Int.reduceEq, extractV, mkAgg, Nat.reduceLeDiff, fillA, pureVs, pureV, eqV, eqB, lenV, binV, intBin, intV, idxA, List.drop, List.take, RetP, retP, resV, resOne, snapV, snapVs, snapR, snapRs, ownSz, pickV, AO.isC, opE, opD, funV, h2, b0, h3, b1, h11, h12, h13, hlt, hget, nodeC, n0, n1, k.call, as_nilQ h266, hwi]
      refine ih (i + 1) hd' hi' ho _ _ _ ?_ ?_ ?_ ?_ ?_ ?_ ?_ ?_
      all_goals try simp only [look_if, blkAt_if, Nat.reduceEqDiff, if_true, if_false, h2, b0, h3, b1, n0, n1, m0, m1, h11, h12]
      all_goals first | omega | skip
    · rw [if_neg hc] at ho
      simp only [errC, hc, if_false, codeE] at k
      simp only [runL, opQ, evOp, evO, evOs, guardV, argsA, pvs, putS, cellsOf, scals, scal, Nat.reduceEqDiff, Nat.reduceAdd, reduceCtorEq, fieldA, nonNil, cellsAt, mkAgg, allPV, storeB, patchL, Int.reduceToNat, Nat.reduceMul, Nat.reduceLT, stepA, Int.reduceNeg, Int.reduceLE, Int.reduceLT, Int.reduceEq, extractV, mkAgg, Nat.reduceLeDiff, fillA, pureVs, pureV, eqV, eqB, lenV, binV, intBin, intV, idxA, List.drop, List.take, RetP, retP, resV, resOne, snapV, snapVs, snapR, snapRs, ownSz, pickV, AO.isC, opE, opD, funV, h2, b0, h3, b1, h11, h12, h13, hlt, hget, nodeC, n0, n1, k.call]
      refine (as_codeQ h266 (o := 0) ?_).2 ?_
      · simp only [runL, opQ, evOp, evO, evOs, guardV, argsA, pvs, putS, cellsOf, scals, scal, Nat.reduceEqDiff, Nat.reduceAdd, reduceCtorEq, fieldA, nonNil, cellsAt, mkAgg, allPV, storeB, patchL, Int.reduceToNat, Nat.reduceMul, Nat.reduceLT, stepA, Int.reduceNeg, Int.reduceLE, Int.reduceLT, Int.reduceEq, extractV, mkAgg, Nat.reduceLeDiff, fillA, pureVs, pureV, eqV, eqB, lenV, binV, intBin, intV, idxA, List.drop, List.take, RetP, retP, resV, resOne, snapV, snapVs, snapR, snapRs, ownSz, pickV, AO.isC, opE, opD, funV]
      · simp only [runL, opQ, evOp, evO, evOs, guardV, argsA, pvs, putS, cellsOf, scals, scal, Nat.reduceEqDiff, Nat.reduceAdd, reduceCtorEq, fieldA, nonNil, cellsAt, mkAgg, allPV, storeB, patchL, Int.reduceToNat, Nat.reduceMul, Nat.reduceLT, stepA, Int.reduceNeg, Int.reduceLE, Int.reduceLT, Int.reduceEq, extractV, mkAgg, Nat.reduceLeDiff, fillA, pureVs, pureV, eqV, eqB, lenV, binV, intBin, intV, idxA, List.drop, List.take, RetP, retP, resV, resOne, snapV, snapVs, snapR, snapRs, ownSz, pickV, AO.isC, opE, opD, funV, h2, b0, h3, b1, h11, h12, h13]
        refine hret _ _ ho.symm _ _ _ (nx + 1 + 1 + 1) ?_ ?_
        all_goals simp only [look_if, blkAt_if, Nat.reduceEqDiff, if_true, if_false]
theorem room_ok (S : Std6 T) (h219 : Std T 219 f219) (h266 : StdA T 266) (s : Snap) (t : State) (hn : s.nodes.length ≤ 2 ^ 30) (hl : t.pods.length ≤ 2 ^ 30) (hw : ∀ p ∈ t.pods, p.wf) : Gives T 219 [snapP s, stateP t] (errO (roomFrom s t.pods 0 s.nodes)) := by
  refine gives h219 rfl ?_
  simp only [f219, runL, opQ, evOp, evO, evOs, guardV, argsA, pvs, putS, cellsOf, scals, scal, Nat.reduceEqDiff, Nat.reduceAdd, reduceCtorEq, fieldA, nonNil, cellsAt, mkAgg, allPV, storeB, patchL, Int.reduceToNat, Nat.reduceMul, Nat.reduceLT, stepA, Int.reduceNeg, Int.reduceLE, Int.reduceLT, Int.reduceEq, extractV, mkAgg, Nat.reduceLeDiff, fillA, pureVs, pureV, eqV, eqB, lenV, binV, intBin, intV, idxA, List.drop, List.take, RetP, retP, resV, resOne, snapV, snapVs, snapR, snapRs, ownSz, pickV, AO.isC, opE, opD, funV, snapP, stateP]
  refine room_loop S h219 h266 s t hn hl hw _ (roomFrom s t.pods 0 s.nodes) (fun ho fr hp nx => ?_) (fun c i ho fr hp nx id h4 hb => ?_) s.nodes 0 rfl (Nat.zero_le _) rfl _ _ _ (Nat.le_refl _) rfl rfl rfl rfl rfl rfl rfl
  · simp only [runL, opQ, evOp, evO, evOs, guardV, argsA, pvs, putS, cellsOf, scals, scal, Nat.reduceEqDiff, Nat.reduceAdd, reduceCtorEq, fieldA, nonNil, cellsAt, mkAgg, allPV, storeB, patchL, Int.reduceToNat, Nat.reduceMul, Nat.reduceLT, stepA, Int.reduceNeg, Int.reduceLE, Int.reduceLT, Int.reduceEq, extractV, mkAgg, Nat.reduceLeDiff, fillA, pureVs, pureV, eqV, eqB, lenV, binV, intBin, intV, idxA, List.drop, List.take, RetP, retP, resV, resOne, snapV, snapVs, snapR, snapRs, ownSz, pickV, AO.isC, opE, opD, funV, ho, errO]
  · simp only [runL, opQ, evOp, evO, evOs, guardV, argsA, pvs, putS, cellsOf, scals, scal, Nat.reduceEqDiff, Nat.reduceAdd, reduceCtorEq, fieldA, nonNil, cellsAt, mkAgg, allPV, storeB, patchL, Int.reduceToNat, Nat.reduceMul, Nat.reduceLT, stepA, Int.reduceNeg, Int.reduceLE, Int.reduceLT, Int.reduceEq, extractV, mkAgg, Nat.reduceLeDiff, fillA, pureVs, pureV, eqV, eqB, lenV, binV, intBin, intV, idxA, List.drop, List.take, RetP, retP, resV, resOne, snapV, snapVs, snapR, snapRs, ownSz, pickV, AO.isC, opE, opD, funV, ho, errO, h4, hb, spotE]
end
end Go.Proofs.YtlfphlobcopemaaDoor.Ab
set_option linter.unusedVariables false
namespace Go.Proofs.YtlfphlobcopemaaDoor.Ab
open Go
def f222 : AFunc := ⟨12, [.t 6],
 (.seq (.ops [
   ⟨some 3, .box (.t 0), none, []⟩,
   ⟨some 4, .box (.t 1), none, []⟩,
   ⟨some 5, .box (.t 2), none, []⟩,
   ⟨some 6, .mv (.c (.pv (.bool false))), none, []⟩])
  (.seq (.ops [
   ⟨some 7, .load true 3 (.t 3), none, []⟩,
   ⟨some 8, .load true 3 (.t 4), none, []⟩,
   ⟨some 9, .load true 3 (.t 5), none, []⟩,
   ⟨some 10, .call 223 [(.t 7), (.t 8), (.t 9)], none, [0, 1, 2]⟩,
   ⟨some 11, .bin .eql (some (.iface true)) (.t 10) (.c (.pv .nili)), none, [3]⟩,
   ⟨some 6, .mv (.t 11), none, [4, 3, 0, 1, 2, 3, 4]⟩])
  .ret))⟩
def f223l0 : ACode :=
 (.seq (.ops [
   ⟨some 15, .bin .lss none (.t 14) (.c (.pv (.int .i64 5))), none, []⟩])
  (.seq (.cond (.t 15)
   .skip
   (.exit 0))
  (.seq (.block 1
   (.seq (.ops [
     ⟨some 16, .idxV false 5 1 (.t 13) (.t 14), none, []⟩,
     ⟨some 8, .mv (.t 16), none, [0, 0]⟩])
    (.seq (.ops [
     ⟨some 17, .mv (.t 8), none, []⟩,
     ⟨some 18, .callv (.t 17) [], none, [0]⟩,
     ⟨some 9, .mv (.t 18), none, [1, 1, 0, 1]⟩])
    (.seq (.ops [
     ⟨some 19, .mv (.t 9), none, []⟩,
     ⟨some 20, .bin .neq (some (.iface true)) (.t 19) (.c (.pv .nili)), none, [0]⟩])
    (.cond (.t 20)
     (.seq (.ops [
       ⟨some 21, .mv (.t 9), none, []⟩,
       ⟨some 6, .mv (.t 21), none, [0, 0]⟩])
      .ret)
     .skip)))))
  (.ops [
   ⟨some 22, .bin .add none (.t 14) (.c (.pv (.int .i64 1))), none, []⟩,
   ⟨some 14, .mv (.t 22), none, [0]⟩]))))
def f223 : AFunc := ⟨23, [.t 6],
 (.seq (.ops [
   ⟨some 3, .box (.t 0), none, []⟩,
   ⟨some 4, .box (.t 1), none, []⟩,
   ⟨some 5, .box (.t 2), none, []⟩,
   ⟨some 6, .mv (.c (.pv .nili)), none, []⟩])
  (.seq (.seq (.ops [
   ⟨some 10, .load true 3 (.t 3), none, []⟩,
   ⟨some 11, .load true 3 (.t 4), none, []⟩,
   ⟨some 12, .load true 3 (.t 5), none, []⟩,
   ⟨some 13, .call 224 [(.t 10), (.t 11), (.t 12)], none, [0, 1, 2]⟩,
   ⟨some 14, .mv (.c (.pv (.int .i64 0))), none, []⟩])
  (.block 0
   (.loop f223l0)))
  (.seq (.ops [
   ⟨some 6, .mv (.c (.pv .nili)), none, []⟩])
  .ret)))⟩
def f224 : AFunc := ⟨13, [.cell 6 true 5],
 (.seq (.ops [
   ⟨some 3, .box (.t 0), none, []⟩,
   ⟨some 4, .box (.t 1), none, []⟩,
   ⟨some 5, .box (.t 2), none, []⟩,
   ⟨some 6, .alloc [(.pv .nilf), (.pv .nilf), (.pv .nilf), (.pv .nilf), (.pv .nilf)], none, []⟩])
  (.seq (.ops [
   ⟨some 7, .mkF 225 [] [(.t 3), (.t 5)], none, []⟩,
   ⟨some 8, .mkF 226 [] [(.t 3), (.t 5)], none, []⟩,
   ⟨some 9, .mkF 227 [] [(.t 3), (.t 5)], none, []⟩,
   ⟨some 10, .mkF 228 [] [(.t 3), (.t 5)], none, []⟩,
   ⟨some 11, .mkF 229 [] [(.t 4), (.t 5)], none, []⟩,
   ⟨some 12, .build [(.pv .nilf), (.pv .nilf), (.pv .nilf), (.pv .nilf), (.pv .nilf)] [(0, 1, (.t 7)), (1, 1, (.t 8)), (2, 1, (.t 9)), (3, 1, (.t 10)), (4, 1, (.t 11))], none, [0, 1, 2, 3, 4]⟩,
   ⟨none, .store 5 (.t 6) (.t 12), none, [5, 0, 1, 2, 3, 4, 5]⟩])
  .ret))⟩
def f225 : AFunc := ⟨6, [.t 2],
 (.seq (.ops [
   ⟨some 2, .mv (.c (.pv .nili)), none, []⟩])
  (.seq (.ops [
   ⟨some 3, .load true 3 (.t 0), none, []⟩,
   ⟨some 4, .load true 3 (.t 1), none, []⟩,
   ⟨some 5, .call 219 [(.t 3), (.t 4)], none, [0, 1]⟩,
   ⟨some 2, .mv (.t 5), none, [2, 2, 0, 1, 2]⟩])
  .ret))⟩
def f226 : AFunc := ⟨6, [.t 2],
 (.seq (.ops [
   ⟨some 2, .mv (.c (.pv .nili)), none, []⟩])
  (.seq (.ops [
   ⟨some 3, .load true 3 (.t 0), none, []⟩,
   ⟨some 4, .load true 3 (.t 1), none, []⟩,
   ⟨some 5, .call 68 [(.t 3), (.t 4)], none, [0, 1]⟩,
   ⟨some 2, .mv (.t 5), none, [2, 2, 0, 1, 2]⟩])
  .ret))⟩
def f227 : AFunc := ⟨6, [.t 2],
 (.seq (.ops [
   ⟨some 2, .mv (.c (.pv .nili)), none, []⟩])
  (.seq (.ops [
   ⟨some 3, .load true 3 (.t 0), none, []⟩,
   ⟨some 4, .load true 3 (.t 1), none, []⟩,
   ⟨some 5, .call 234 [(.t 3), (.t 4)], none, [0, 1]⟩,
   ⟨some 2, .mv (.t 5), none, [2, 2, 0, 1, 2]⟩])
  .ret))⟩
def f228 : AFunc := ⟨6, [.t 2],
 (.seq (.ops [
   ⟨some 2, .mv (.c (.pv .nili)), none, []⟩])
  (.seq (.ops [
   ⟨some 3, .load true 3 (.t 0), none, []⟩,
   ⟨some 4, .load true 3 (.t 1), none, []⟩,
   ⟨some 5, .call 70 [(.t 3), (.t 4)], none, [0, 1]⟩,
   ⟨some 2, .mv (.t 5), none, [2, 2, 0, 1, 2]⟩])
  .ret))⟩
def f229 : AFunc := ⟨6, [.t 2],
 (.seq (.ops [
   ⟨some 2, .mv (.c (.pv .nili)), none, []⟩])
  (.seq (.ops [
   ⟨some 3, .load true 3 (.t 0), none, []⟩,
   ⟨some 4, .load true 3 (.t 1), none, []⟩,
   ⟨some 5, .call 72 [(.t 3), (.t 4)], none, [0, 1]⟩,
   ⟨some 2, .mv (.t 5), none, [2, 2, 0, 1, 2]⟩])
  .ret))⟩
def f359 : AFunc := ⟨61, [.t 8],
 (.seq (.ops [
   ⟨some 4, .box (.t 0), none, []⟩,
   ⟨some 5, .box (.t 1), none, []⟩,
   ⟨some 6, .box (.t 2), none, []⟩,
   ⟨some 8, .mv (.c (.pv (.bool false))), none, []⟩])
  (.seq (.ops [
   ⟨some 11, .call 360 [], none, []⟩,
   ⟨some 9, .mv (.t 11), none, [0, 0, 0]⟩])
  (.seq (.ops [
   ⟨some 12, .load true 3 (.t 4), none, []⟩,
   ⟨some 13, .load true 3 (.t 5), none, []⟩,
   ⟨some 14, .load true 3 (.t 6), none, []⟩,
   ⟨some 15, .call 163 [(.t 12), (.t 13), (.t 14)], none, [0, 1, 2]⟩,
   ⟨some 10, .mv (.t 15), none, [3, 3, 0, 1, 2, 3]⟩])
  (.seq (.seq (.ops [
   ⟨some 16, .mv (.t 10), none, []⟩,
   ⟨some 17, .not (.t 16), none, [0]⟩,
   ⟨some 18, .mv (.t 17), none, [1]⟩,
   ⟨some 19, .mv (.t 3), some (18, false), [2]⟩,
   ⟨some 20, .bin .lss none (.t 19) (.c (.pv (.int .i64 0))), some (18, false), [3, 2]⟩,
   ⟨some 21, .pick (.t 18) (.c (.pv (.bool true))) (.t 20), none, [2, 4]⟩,
   ⟨some 22, .mv (.t 21), none, [5, 2]⟩,
   ⟨some 23, .mv (.t 3), some (22, false), [6]⟩,
   ⟨some 24, .bin .gtr none (.t 23) (.c (.pv (.int .i64 1000))), some (22, false), [7, 6]⟩,
   ⟨some 25, .pick (.t 22) (.c (.pv (.bool true))) (.t 24), none, [6, 8]⟩,
   ⟨some 26, .mv (.t 25), none, [9, 6]⟩,
   ⟨some 27, .fieldAddr 1 (.t 5), some (26, false), [10]⟩,
   ⟨some 28, .load false 1 (.t 27), some (26, false), [11, 10]⟩,
   ⟨some 29, .bin .gtr none (.t 28) (.c (.pv (.int .i64 1000))), some (26, false), [12, 10]⟩,
   ⟨some 30, .pick (.t 26) (.c (.pv (.bool true))) (.t 29), none, [10, 13]⟩,
   ⟨some 31, .mv (.t 30), none, [14, 10]⟩,
   ⟨some 32, .fieldAddr 2 (.t 5), some (31, false), [15]⟩,
   ⟨some 33, .load false 1 (.t 32), some (31, false), [16, 15]⟩,
   ⟨some 34, .bin .gtr none (.t 33) (.c (.pv (.int .i64 1000))), some (31, false), [17, 15]⟩,
   ⟨some 35, .pick (.t 31) (.c (.pv (.bool true))) (.t 34), none, [15, 18]⟩,
   ⟨some 36, .mv (.t 35), none, [19, 15]⟩,
   ⟨some 37, .load true 3 (.t 4), some (36, false), [20]⟩,
   ⟨some 38, .load true 3 (.t 5), some (36, false), [20]⟩,
   ⟨some 39, .load true 3 (.t 6), some (36, false), [20]⟩,
   ⟨some 40, .call 222 [(.t 37), (.t 38), (.t 39)], some (36, false), [21, 22, 23, 20, 20]⟩,
   ⟨some 41, .not (.t 40), some (36, false), [24, 20]⟩,
   ⟨some 42, .pick (.t 36) (.c (.pv (.bool true))) (.t 41), none, [20, 25]⟩])
  (.cond (.t 42)
   (.seq (.ops [
     ⟨some 43, .mv (.t 9), none, []⟩,
     ⟨some 8, .mv (.t 43), none, [0, 0]⟩])
    .ret)
   .skip))
  (.seq (.ops [
   ⟨some 44, .fieldAddr 1 (.t 5), none, []⟩,
   ⟨some 45, .load false 1 (.t 44), none, [0]⟩,
   ⟨some 46, .mv (.t 3), none, []⟩,
   ⟨some 47, .bin .add none (.t 45) (.t 46), none, [1, 2]⟩,
   ⟨some 48, .fieldAddr 1 (.t 5), none, [0, 1, 2, 3]⟩,
   ⟨none, .store 1 (.t 48) (.t 47), none, [4, 3, 0, 1, 2, 3]⟩])
  (.seq (.ops [
   ⟨some 49, .fieldAddr 2 (.t 5), none, []⟩,
   ⟨some 50, .load false 1 (.t 49), none, [0]⟩,
   ⟨some 51, .mv (.t 3), none, []⟩,
   ⟨some 52, .bin .add none (.t 50) (.t 51), none, [1, 2]⟩,
   ⟨some 53, .fieldAddr 2 (.t 5), none, [0, 1, 2, 3]⟩,
   ⟨none, .store 1 (.t 53) (.t 52), none, [4, 3, 0, 1, 2, 3]⟩])
  (.seq (.ops [
   ⟨some 54, .mv (.t 9), none, []⟩,
   ⟨some 55, .mv (.t 54), none, [0]⟩,
   ⟨some 56, .load true 3 (.t 4), some (55, true), [1]⟩,
   ⟨some 57, .load true 3 (.t 5), some (55, true), [1]⟩,
   ⟨some 58, .load true 3 (.t 6), some (55, true), [1]⟩,
   ⟨some 59, .call 222 [(.t 56), (.t 57), (.t 58)], some (55, true), [2, 3, 4, 1, 1]⟩,
   ⟨some 60, .pick (.t 55) (.t 59) (.c (.pv (.bool false))), none, [1, 5]⟩,
   ⟨some 8, .mv (.t 60), none, [6, 5, 0, 1, 2, 3, 4, 5, 6]⟩])
  .ret)))))))⟩
def f360 : AFunc := ⟨31, [.t 0],
 (.seq (.ops [
   ⟨some 0, .mv (.c (.pv (.bool false))), none, []⟩])
  (.seq (.ops [
   ⟨some 3, .build [(.pv (.int .i64 0)), (.pv (.bool false)), (.pv (.int .i64 0)), (.pv (.int .i64 0)), (.pv (.int .i64 0))] [(0, 1, (.c (.pv (.int .i64 2)))), (3, 1, (.c (.pv (.int .i64 1)))), (4, 1, (.c (.pv (.int .i64 1))))], none, []⟩,
   ⟨some 4, .bslice 5 1 [(.pv (.int .i64 0)), (.pv (.bool false)), (.pv (.int .i64 0)), (.pv (.int .i64 0)), (.pv (.int .i64 0))] [(0, 5, (.t 3))], none, [0]⟩,
   ⟨some 5, .build [.nils, .nils, .nils] [(1, 1, (.t 4))], none, [1]⟩,
   ⟨some 1, .alloc [.nils, .nils, .nils], none, []⟩,
   ⟨none, .store 3 (.t 1) (.t 5), none, [3, 2, 0, 1, 2, 3]⟩])
  (.seq (.ops [
   ⟨some 6, .load true 3 (.t 1), none, []⟩,
   ⟨some 7, .build [.nils, (.pv (.int .i64 0)), (.pv (.int .i64 0))] [], none, []⟩,
   ⟨some 8, .build [.nils, (.pv (.int .i64 0)), (.pv (.int .i64 0))] [(2, 1, (.c (.pv (.int .i64 1))))], none, []⟩,
   ⟨some 9, .call 361 [(.t 6), (.t 7), (.t 8)], none, [0, 1, 2]⟩,
   ⟨some 2, .mv (.t 9), none, [3, 3, 0, 1, 2, 3]⟩])
  (.seq (.ops [
   ⟨some 10, .build [.nils, .nils, .nils] [], none, []⟩,
   ⟨some 11, .build [.nils, (.pv (.int .i64 0)), (.pv (.int .i64 0))] [], none, []⟩,
   ⟨some 12, .build [.nils, (.pv (.int .i64 0)), (.pv (.int .i64 0))] [], none, []⟩,
   ⟨some 13, .call 222 [(.t 10), (.t 11), (.t 12)], none, [0, 1, 2]⟩,
   ⟨some 14, .mv (.t 13), none, [3, 3]⟩,
   ⟨some 15, .mv (.t 2), some (14, true), [4]⟩,
   ⟨some 16, .len (.t 15), some (14, true), [5, 4]⟩,
   ⟨some 17, .bin .eql none (.t 16) (.c (.pv (.int .i64 2))), some (14, true), [6, 4]⟩,
   ⟨some 18, .pick (.t 14) (.t 17) (.c (.pv (.bool false))), none, [4, 7]⟩,
   ⟨some 19, .mv (.t 18), none, [8, 4]⟩,
   ⟨some 20, .mv (.t 2), some (19, true), [9]⟩,
   ⟨some 21, .idxAddr 1 (.t 20) (.c (.pv (.int .i64 0))), some (19, true), [10, 9]⟩,
   ⟨some 22, .load false 1 (.t 21), some (19, true), [11, 9]⟩,
   ⟨some 23, .bin .eql none (.t 22) (.c (.pv (.int .i64 12))), some (19, true), [12, 9]⟩,
   ⟨some 24, .pick (.t 19) (.t 23) (.c (.pv (.bool false))), none, [9, 13]⟩,
   ⟨some 25, .mv (.t 24), none, [14, 9]⟩,
   ⟨some 26, .mv (.t 2), some (25, true), [15]⟩,
   ⟨some 27, .idxAddr 1 (.t 26) (.c (.pv (.int .i64 1))), some (25, true), [16, 15]⟩,
   ⟨some 28, .load false 1 (.t 27), some (25, true), [17, 15]⟩,
   ⟨some 29, .bin .eql none (.t 28) (.c (.pv (.int .i64 15))), some (25, true), [18, 15]⟩,
   ⟨some 30, .pick (.t 25) (.t 29) (.c (.pv (.bool false))), none, [15, 19]⟩,
   ⟨some 0, .mv (.t 30), none, [20, 15, 0, 1, 2, 3, 4, 5, 6, 7, 8, 9, 10, 11, 12, 13, 14, 15, 16, 17, 18, 19, 20]⟩])
  .ret))))⟩
def f361l0 : ACode :=
 (.seq (.ops [
   ⟨some 16, .bin .lss none (.t 15) (.c (.pv (.int .i64 5))), none, []⟩])
  (.seq (.cond (.t 16)
   .skip
   (.exit 0))
  (.seq (.block 1
   (.seq (.ops [
     ⟨some 17, .idxV false 5 1 (.t 14) (.t 15), none, []⟩,
     ⟨some 9, .mv (.t 17), none, [0, 0]⟩])
    (.seq (.ops [
     ⟨some 10, .alloc [(.pv (.int .i64 0))], none, []⟩])
    (.seq (.ops [
     ⟨some 18, .mv (.t 9), none, []⟩,
     ⟨some 19, .callv (.t 18) [], none, [0]⟩,
     ⟨some 20, .mkI 3 (.t 10), none, []⟩,
     ⟨some 21, .call 266 [(.t 19), (.t 20)], none, [1, 2, 1]⟩])
    (.cond (.t 21)
     (.ops [
       ⟨some 22, .mv (.t 7), none, []⟩,
       ⟨some 23, .load false 1 (.t 10), none, []⟩,
       ⟨some 24, .bslice 1 1 [(.pv (.int .i64 0))] [(0, 1, (.t 23))], none, [1]⟩,
       ⟨some 25, .append 1 8 (.t 22) (.t 24), none, [0, 2]⟩,
       ⟨some 7, .mv (.t 25), none, [3, 3, 0, 1, 2, 3]⟩])
     .skip)))))
  (.ops [
   ⟨some 26, .bin .add none (.t 15) (.c (.pv (.int .i64 1))), none, []⟩,
   ⟨some 15, .mv (.t 26), none, [0]⟩]))))
def f361 : AFunc := ⟨28, [.t 6],
 (.seq (.ops [
   ⟨some 3, .box (.t 0), none, []⟩,
   ⟨some 4, .box (.t 1), none, []⟩,
   ⟨some 5, .box (.t 2), none, []⟩,
   ⟨some 6, .mv (.c .nils), none, []⟩])
  (.seq (.ops [
   ⟨some 7, .mv (.c .nils), none, []⟩])
  (.seq (.seq (.ops [
   ⟨some 11, .load true 3 (.t 3), none, []⟩,
   ⟨some 12, .load true 3 (.t 4), none, []⟩,
   ⟨some 13, .load true 3 (.t 5), none, []⟩,
   ⟨some 14, .call 224 [(.t 11), (.t 12), (.t 13)], none, [0, 1, 2]⟩,
   ⟨some 15, .mv (.c (.pv (.int .i64 0))), none, []⟩])
  (.block 0
   (.loop f361l0)))
  (.seq (.ops [
   ⟨some 27, .mv (.t 7), none, []⟩,
   ⟨some 6, .mv (.t 27), none, [0, 0]⟩])
  .ret))))⟩
end Go.Proofs.YtlfphlobcopemaaDoor.Ab
set_option linter.unusedVariables false
set_option linter.unusedSimpArgs false
namespace Go.Proofs.YtlfphlobcopemaaDoor.Ab
open Go
/-! ### The spread's Check -/
def spreadFrom (s : Snap) (pods : List Pod) : Nat → List Load → Option (Int × Int)
  | _, [] => none
  | i, l :: r => if 0 < l.skew ∧ l.skew < skewZ s l.id pods then some (11, i) else spreadFrom s pods (i + 1) r
section
variable {T : Tab}
theorem spread_loop (S : Std8 T) (s : Snap) (t : State) (hn : s.nodes.length ≤ 2 ^ 29) (hl : t.pods.length ≤ 2 ^ 29) (hll : s.loads.length ≤ 2 ^ 29) (Q : Exit → St → Prop) (o : Option (Int × Int))
    (hend : o = none → ∀ fr hp nx, Q (.exit 0) ⟨fr, hp, nx⟩)
    (hret : ∀ c i, o = some (c, i) → ∀ fr hp nx id, look fr 4 = .iface 1 (.ptr id 0 0) → blkAt hp id = .var [.pv (.int .i64 i), .pv (.int .i64 c)] → Q .ret ⟨fr, hp, nx⟩) :
    ∀ (rest : List Load) (i : Nat), s.loads.drop i = rest → i ≤ s.loads.length → spreadFrom s t.pods i rest = o → ∀ (fr : List (Nat × AV)) (hp : Hl) (nx : Nat), 2 ≤ nx →
      look fr 2 = .ptr 0 0 0 → look fr 3 = .ptr 1 0 0 → blkAt hp 0 = .var [.pv (.slice (s.nodes.map nodeC)), .pv (.slice (s.loads.map loadC)), .pv (.slice (s.pods.map podC))] →
      blkAt hp 1 = .var [.pv (.slice (t.pods.map podC)), .pv (.int .i64 t.pre), .pv (.int .i64 t.shi)] →
      look fr 8 = .pv (.slice (s.loads.map loadC)) → look fr 9 = .pv (.int .i64 s.loads.length) → look fr 10 = .pv (.int .i64 i) → Wp T false (.loop f234l0) ⟨fr, hp, nx⟩ Q := by
  intro rest
  induction rest with
  | nil =>
    intro i hd hi ho fr hp nx hnx h2 h3 b0 b1 h8 h9 h10
    have hlen := drop_nil hd hi
    rw [Wp_loop, Wp_eq f234l0.eq_1]
    simp only [runL, opQ, evOp, evO, evOs, guardV, argsA, pvs, putS, cellsOf, scals, scal, Nat.reduceEqDiff, Nat.reduceAdd, reduceCtorEq, fieldA, nonNil, cellsAt, mkAgg, allPV, storeB, patchL, Int.reduceToNat, Nat.reduceMul, Nat.reduceLT, stepA, Int.reduceNeg, Int.reduceLE, Int.reduceLT, Int.reduceEq, extractV, mkAgg, Nat.reduceLeDiff, fillA, pureVs, pureV, eqV, eqB, lenV.eq_1, lenV.eq_2, lenV.eq_3, lenV.eq_4, binV, intBin, intV, idxA, List.drop, List.take, RetP, retP, resV, resOne, snapV, snapVs, snapR, snapRs, ownSz, pickV, AO.isC, opE, opD, funV.eq_1, funV.eq_2, h8, h9, h10, hlen, Int.lt_irrefl]
    exact hend ho.symm _ _ _
  | cons l r ih =>
    intro i hd hi ho fr hp nx hnx h2 h3 b0 b1 h8 h9 h10
    obtain ⟨hget, hlt, hw, hd', hi', hb⟩ := drop_cons hd (by omega)
    have n0 : ¬ nx = 0 := by omega
    have n1 : ¬ nx = 1 := by omega
    have k := skew8_ok S s t l.id hn hl
    simp only [snapP, stateP] at k
    simp only [spreadFrom] at ho
    rw [Wp_loop, Wp_eq f234l0.eq_1]
    simp only [runL, opQ, evOp, evO, evOs, guardV, argsA, pvs, putS, cellsOf, scals, scal, Nat.reduceEqDiff, Nat.reduceAdd, reduceCtorEq, fieldA, nonNil, cellsAt, mkAgg, allPV, storeB, patchL, Int.reduceToNat, Nat.reduceMul, Nat.reduceLT, stepA, Int.reduceNeg, Int.reduceLE, Int.reduceLT, Int.reduceEq, extractV, mkAgg, Nat.reduceLeDiff, fillA, pureVs, pureV, eqV, eqB, lenV.eq_1, lenV.eq_2, lenV.eq_3, lenV.eq_4, binV, intBin, intV, idxA, List.drop, List.take, RetP, retP, resV, resOne, snapV, snapVs, snapR, snapRs, ownSz, pickV, AO.isC, opE, opD, funV.eq_1, funV.eq_2, h2, h3, b0, b1, h8, h9, h10, hlt, hget, loadC, n0, n1]
    refine (Wp_calm rfl).2 ?_
    by_cases c1 : 0 < l.skew
    · by_cases c2 : l.skew < skewZ s l.id t.pods
      · rw [if_pos ⟨c1, c2⟩] at ho
        simp only [runL, opQ, evOp, evO, evOs, guardV, argsA, pvs, putS, cellsOf, scals, scal, Nat.reduceEqDiff, Nat.reduceAdd, reduceCtorEq, fieldA, nonNil, cellsAt, mkAgg, allPV, storeB, patchL, Int.reduceToNat, Nat.reduceMul, Nat.reduceLT, stepA, Int.reduceNeg, Int.reduceLE, Int.reduceLT, Int.reduceEq, extractV, mkAgg, Nat.reduceLeDiff, fillA, pureVs, pureV, eqV, eqB, lenV.eq_1, lenV.eq_2, lenV.eq_3, lenV.eq_4, binV, intBin, intV, idxA, List.drop, List.take, RetP, retP, resV, resOne, snapV, snapVs, snapR, snapRs, ownSz, pickV, AO.isC, opE, opD, funV.eq_1, funV.eq_2, h2, h3, b0, b1, h8, h9, h10, n0, n1, k.callD, c1, c2]
        refine hret 11 i ho.symm _ _ _ (nx + 1) ?_ ?_
        all_goals try simp only [look_if, blkAt_if, Nat.reduceEqDiff, if_true, if_false, ]
      · rw [if_neg fun h => c2 h.2] at ho
        simp only [runL, opQ, evOp, evO, evOs, guardV, argsA, pvs, putS, cellsOf, scals, scal, Nat.reduceEqDiff, Nat.reduceAdd, reduceCtorEq, fieldA, nonNil, cellsAt, mkAgg, allPV, storeB, patchL, Int.reduceToNat, Nat.reduceMul, Nat.reduceLT, stepA, Int.reduceNeg, Int.reduceLE, Int.reduceLT, Int.reduceEq, extractV, mkAgg, Nat.reduceLeDiff, fillA, pureVs, pureV, eqV, eqB, lenV.eq_1, lenV.eq_2, lenV.eq_3, lenV.eq_4, binV, intBin, intV, idxA, List.drop, List.take, RetP, retP, resV, resOne, snapV, snapVs, snapR, snapRs, ownSz, pickV, AO.isC, opE, opD, funV.eq_1, funV.eq_2, h2, h3, b0, b1, h8, h9, h10, n0, n1, k.callD, c1, c2, hw]
        refine ih (i + 1) hd' hi' ho _ _ _ (by omega) ?_ ?_ ?_ ?_ ?_ ?_ ?_
        all_goals try simp only [look_if, blkAt_if, Nat.reduceEqDiff, if_true, if_false, h2, h3, b0, b1, h8, h9, n0, n1]
    · rw [if_neg fun h => c1 h.1] at ho
      simp only [runL, opQ, evOp, evO, evOs, guardV, argsA, pvs, putS, cellsOf, scals, scal, Nat.reduceEqDiff, Nat.reduceAdd, reduceCtorEq, fieldA, nonNil, cellsAt, mkAgg, allPV, storeB, patchL, Int.reduceToNat, Nat.reduceMul, Nat.reduceLT, stepA, Int.reduceNeg, Int.reduceLE, Int.reduceLT, Int.reduceEq, extractV, mkAgg, Nat.reduceLeDiff, fillA, pureVs, pureV, eqV, eqB, lenV.eq_1, lenV.eq_2, lenV.eq_3, lenV.eq_4, binV, intBin, intV, idxA, List.drop, List.take, RetP, retP, resV, resOne, snapV, snapVs, snapR, snapRs, ownSz, pickV, AO.isC, opE, opD, funV.eq_1, funV.eq_2, h2, h3, b0, b1, h8, h9, h10, n0, n1, k.callD, c1, hw]
      refine ih (i + 1) hd' hi' ho _ _ _ (by omega) ?_ ?_ ?_ ?_ ?_ ?_ ?_
      all_goals try simp only [look_if, blkAt_if, Nat.reduceEqDiff, if_true, if_false, h2, h3, b0, b1, h8, h9, n0, n1]
theorem spread_ok (S : Std8 T) (h234 : Std T 234 f234) (s : Snap) (t : State) (hn : s.nodes.length ≤ 2 ^ 29) (hl : t.pods.length ≤ 2 ^ 29) (hll : s.loads.length ≤ 2 ^ 29) : Gives T 234 [snapP s, stateP t] (errO (spreadFrom s t.pods 0 s.loads)) := by
  refine gives h234 rfl ?_
  simp only [f234, runL, opQ, evOp, evO, evOs, guardV, argsA, pvs, putS, cellsOf, scals, scal, Nat.reduceEqDiff, Nat.reduceAdd, reduceCtorEq, fieldA, nonNil, cellsAt, mkAgg, allPV, storeB, patchL, Int.reduceToNat, Nat.reduceMul, Nat.reduceLT, stepA, Int.reduceNeg, Int.reduceLE, Int.reduceLT, Int.reduceEq, extractV, mkAgg, Nat.reduceLeDiff, fillA, pureVs, pureV, eqV, eqB, lenV.eq_1, lenV.eq_2, lenV.eq_3, lenV.eq_4, binV, intBin, intV, idxA, List.drop, List.take, RetP, retP, resV, resOne, snapV, snapVs, snapR, snapRs, ownSz, pickV, AO.isC, opE, opD, funV.eq_1, funV.eq_2, snapP, stateP]
  refine spread_loop S s t hn hl hll _ (spreadFrom s t.pods 0 s.loads) (fun ho fr hp nx => ?_) (fun c i ho fr hp nx id h4 hb => ?_) s.loads 0 rfl (Nat.zero_le _) rfl _ _ _ (Nat.le_refl _) rfl rfl rfl rfl rfl rfl rfl
  · simp only [runL, opQ, evOp, evO, evOs, guardV, argsA, pvs, putS, cellsOf, scals, scal, Nat.reduceEqDiff, Nat.reduceAdd, reduceCtorEq, fieldA, nonNil, cellsAt, mkAgg, allPV, storeB, patchL, Int.reduceToNat, Nat.reduceMul, Nat.reduceLT, stepA, Int.reduceNeg, Int.reduceLE, Int.reduceLT, Int.reduceEq, extractV, mkAgg, Nat.reduceLeDiff, fillA, pureVs, pureV, eqV, eqB, lenV.eq_1, lenV.eq_2, lenV.eq_3, lenV.eq_4, binV, intBin, intV, idxA, List.drop, List.take, RetP, retP, resV, resOne, snapV, snapVs, snapR, snapRs, ownSz, pickV, AO.isC, opE, opD, funV.eq_1, funV.eq_2, ho, errO]
  · simp only [runL, opQ, evOp, evO, evOs, guardV, argsA, pvs, putS, cellsOf, scals, scal, Nat.reduceEqDiff, Nat.reduceAdd, reduceCtorEq, fieldA, nonNil, cellsAt, mkAgg, allPV, storeB, patchL, Int.reduceToNat, Nat.reduceMul, Nat.reduceLT, stepA, Int.reduceNeg, Int.reduceLE, Int.reduceLT, Int.reduceEq, extractV, mkAgg, Nat.reduceLeDiff, fillA, pureVs, pureV, eqV, eqB, lenV.eq_1, lenV.eq_2, lenV.eq_3, lenV.eq_4, binV, intBin, intV, idxA, List.drop, List.take, RetP, retP, resV, resOne, snapV, snapVs, snapR, snapRs, ownSz, pickV, AO.isC, opE, opD, funV.eq_1, funV.eq_2, ho, errO, h4, hb, spotE]
/-! ### The five -/
def csP (s : Snap) : PV := .cptr [.slice (s.nodes.map nodeC), .slice (s.loads.map loadC), .slice (s.pods.map podC)] 0
def cxP (x : Spec) : PV := .cptr [.slice (x.wants.map wantC), .int .i64 x.pre, .int .i64 x.shi] 0
def ctP (t : State) : PV := .cptr [.slice (t.pods.map podC), .int .i64 t.pre, .int .i64 t.shi] 0
def fiveP (s : Snap) (x : Spec) (t : State) : List PV := [.func 225 [] [csP s, ctP t], .func 226 [] [csP s, ctP t], .func 227 [] [csP s, ctP t], .func 228 [] [csP s, ctP t], .func 229 [] [cxP x, ctP t]]
structure Std11 (T : Tab) : Prop where
  s6 : Std6 T
  s8 : Std8 T
  h219 : Std T 219 f219
  h266 : StdA T 266
  h68 : Std T 68 f68
  h69 : Std T 69 f69
  h81 : Std T 81 f81
  h234 : Std T 234 f234
  h70 : Std T 70 f70
  h71 : Std T 71 f71
  h72 : Std T 72 f72
  h222 : Std T 222 f222
  h223 : Std T 223 f223
  h224 : Std T 224 f224
  h225 : Std T 225 f225
  h226 : Std T 226 f226
  h227 : Std T 227 f227
  h228 : Std T 228 f228
  h229 : Std T 229 f229
theorem five_ok (S : Std11 T) (s : Snap) (x : Spec) (t : State) : Gives T 224 [snapP s, specP x, stateP t] (.agg (fiveP s x t)) := by
  refine gives S.h224 rfl ?_
  simp only [f224, runL, opQ, evOp, evO, evOs, guardV, argsA, pvs, putS, cellsOf, scals, scal, Nat.reduceEqDiff, Nat.reduceAdd, reduceCtorEq, fieldA, nonNil, cellsAt, mkAgg, allPV, storeB, patchL, Int.reduceToNat, Nat.reduceMul, Nat.reduceLT, stepA, Int.reduceNeg, Int.reduceLE, Int.reduceLT, Int.reduceEq, extractV, mkAgg, Nat.reduceLeDiff, fillA, pureVs, pureV, eqV, eqB, lenV.eq_1, lenV.eq_2, lenV.eq_3, lenV.eq_4, binV, intBin, intV, idxA, List.drop, List.take, RetP, retP, resV, resOne, snapV, snapVs, snapR, snapRs, ownSz, pickV, AO.isC, opE, opD, funV.eq_1, funV.eq_2, snapP, specP, stateP, mkFun, allPVs, fiveP, csP, cxP, ctP]
theorem c225_ok (S : Std11 T) (s : Snap) (t : State) (hn : s.nodes.length ≤ 2 ^ 29) (hl : t.pods.length ≤ 2 ^ 29) (hw : ∀ p ∈ t.pods, p.wf) : Gives T 225 [csP s, ctP t] (errO (roomFrom s t.pods 0 s.nodes)) := by
  have k := room_ok S.s6 S.h219 S.h266 s t (by omega) (by omega) hw
  simp only [snapP, stateP] at k
  refine gives S.h225 rfl ?_
  simp only [f225, runL, opQ, evOp, evO, evOs, guardV, argsA, pvs, putS, cellsOf, scals, scal, Nat.reduceEqDiff, Nat.reduceAdd, reduceCtorEq, fieldA, nonNil, cellsAt, mkAgg, allPV, storeB, patchL, Int.reduceToNat, Nat.reduceMul, Nat.reduceLT, stepA, Int.reduceNeg, Int.reduceLE, Int.reduceLT, Int.reduceEq, extractV, mkAgg, Nat.reduceLeDiff, fillA, pureVs, pureV, eqV, eqB, lenV.eq_1, lenV.eq_2, lenV.eq_3, lenV.eq_4, binV, intBin, intV, idxA, List.drop, List.take, RetP, retP, resV, resOne, snapV, snapVs, snapR, snapRs, ownSz, pickV, AO.isC, opE, opD, funV.eq_1, funV.eq_2, csP, ctP, k.call]
theorem c226_ok (S : Std11 T) (s : Snap) (t : State) (hn : s.loads.length ≤ 2 ^ 29) (hl : t.pods.length ≤ 2 ^ 29) : Gives T 226 [csP s, ctP t] (errO (apartFrom s.loads [] t.pods)) := by
  have k := apart_ok S.h68 S.h69 S.h81 s t (by omega) (by omega)
  simp only [snapP, stateP] at k
  refine gives S.h226 rfl ?_
  simp only [f226, runL, opQ, evOp, evO, evOs, guardV, argsA, pvs, putS, cellsOf, scals, scal, Nat.reduceEqDiff, Nat.reduceAdd, reduceCtorEq, fieldA, nonNil, cellsAt, mkAgg, allPV, storeB, patchL, Int.reduceToNat, Nat.reduceMul, Nat.reduceLT, stepA, Int.reduceNeg, Int.reduceLE, Int.reduceLT, Int.reduceEq, extractV, mkAgg, Nat.reduceLeDiff, fillA, pureVs, pureV, eqV, eqB, lenV.eq_1, lenV.eq_2, lenV.eq_3, lenV.eq_4, binV, intBin, intV, idxA, List.drop, List.take, RetP, retP, resV, resOne, snapV, snapVs, snapR, snapRs, ownSz, pickV, AO.isC, opE, opD, funV.eq_1, funV.eq_2, csP, ctP, k.call]
theorem c227_ok (S : Std11 T) (s : Snap) (t : State) (hn : s.nodes.length ≤ 2 ^ 29) (hl : t.pods.length ≤ 2 ^ 29) (hll : s.loads.length ≤ 2 ^ 29) : Gives T 227 [csP s, ctP t] (errO (spreadFrom s t.pods 0 s.loads)) := by
  have k := spread_ok S.s8 S.h234 s t hn hl hll
  simp only [snapP, stateP] at k
  refine gives S.h227 rfl ?_
  simp only [f227, runL, opQ, evOp, evO, evOs, guardV, argsA, pvs, putS, cellsOf, scals, scal, Nat.reduceEqDiff, Nat.reduceAdd, reduceCtorEq, fieldA, nonNil, cellsAt, mkAgg, allPV, storeB, patchL, Int.reduceToNat, Nat.reduceMul, Nat.reduceLT, stepA, Int.reduceNeg, Int.reduceLE, Int.reduceLT, Int.reduceEq, extractV, mkAgg, Nat.reduceLeDiff, fillA, pureVs, pureV, eqV, eqB, lenV.eq_1, lenV.eq_2, lenV.eq_3, lenV.eq_4, binV, intBin, intV, idxA, List.drop, List.take, RetP, retP, resV, resOne, snapV, snapVs, snapR, snapRs, ownSz, pickV, AO.isC, opE, opD, funV.eq_1, funV.eq_2, csP, ctP, k.call]
theorem c228_ok (S : Std11 T) (s : Snap) (t : State) (hl : t.pods.length ≤ 2 ^ 29) (hll : s.loads.length ≤ 2 ^ 29) : Gives T 228 [csP s, ctP t] (errO (badLoad t.pods 0 s.loads)) := by
  have k := check9_ok S.h70 S.h71 s t (by omega) (by omega)
  simp only [snapP, stateP] at k
  refine gives S.h228 rfl ?_
  simp only [f228, runL, opQ, evOp, evO, evOs, guardV, argsA, pvs, putS, cellsOf, scals, scal, Nat.reduceEqDiff, Nat.reduceAdd, reduceCtorEq, fieldA, nonNil, cellsAt, mkAgg, allPV, storeB, patchL, Int.reduceToNat, Nat.reduceMul, Nat.reduceLT, stepA, Int.reduceNeg, Int.reduceLE, Int.reduceLT, Int.reduceEq, extractV, mkAgg, Nat.reduceLeDiff, fillA, pureVs, pureV, eqV, eqB, lenV.eq_1, lenV.eq_2, lenV.eq_3, lenV.eq_4, binV, intBin, intV, idxA, List.drop, List.take, RetP, retP, resV, resOne, snapV, snapVs, snapR, snapRs, ownSz, pickV, AO.isC, opE, opD, funV.eq_1, funV.eq_2, csP, ctP, k.call]
theorem c229_ok (S : Std11 T) (x : Spec) (t : State) : Gives T 229 [cxP x, ctP t] (cond (usedB x t) (codeE 15) .nili) := by
  have k := used9_ok S.h72 x t
  simp only [specP, stateP] at k
  refine gives S.h229 rfl ?_
  simp only [f229, runL, opQ, evOp, evO, evOs, guardV, argsA, pvs, putS, cellsOf, scals, scal, Nat.reduceEqDiff, Nat.reduceAdd, reduceCtorEq, fieldA, nonNil, cellsAt, mkAgg, allPV, storeB, patchL, Int.reduceToNat, Nat.reduceMul, Nat.reduceLT, stepA, Int.reduceNeg, Int.reduceLE, Int.reduceLT, Int.reduceEq, extractV, mkAgg, Nat.reduceLeDiff, fillA, pureVs, pureV, eqV, eqB, lenV.eq_1, lenV.eq_2, lenV.eq_3, lenV.eq_4, binV, intBin, intV, idxA, List.drop, List.take, RetP, retP, resV, resOne, snapV, snapVs, snapR, snapRs, ownSz, pickV, AO.isC, opE, opD, funV.eq_1, funV.eq_2, cxP, ctP, k.call]
/-! ### Why, Is -/
def ErrV (r : PV) : Prop := r = .nili ∨ (∃ a n, r = spotE a n) ∨ ∃ n, r = codeE n
theorem errV_O (o : Option (Int × Int)) : ErrV (errO o) := by
  cases o with
  | none => exact .inl rfl
  | some q => exact .inr (.inl ⟨_, _, rfl⟩)
theorem errV_used (x : Spec) (t : State) : ErrV (cond (usedB x t) (codeE 15) .nili) := by
  cases usedB x t
  · exact .inl rfl
  · exact .inr (.inr ⟨_, rfl⟩)
def firstE : List PV → PV
  | [] => .nili
  | .nili :: r => firstE r
  | e :: _ => e
def isNilP : PV → Bool
  | .nili => true
  | _ => false
def errsL (s : Snap) (x : Spec) (t : State) : List PV := [errO (roomFrom s t.pods 0 s.nodes), errO (apartFrom s.loads [] t.pods), errO (spreadFrom s t.pods 0 s.loads), errO (badLoad t.pods 0 s.loads), cond (usedB x t) (codeE 15) .nili]
def whyP (s : Snap) (x : Spec) (t : State) : PV := firstE (errsL s x t)
theorem firstE_V : ∀ (l : List PV), (∀ e ∈ l, ErrV e) → ErrV (firstE l)
  | [], _ => .inl rfl
  | e :: r, h => by
    have h1 := h e (List.mem_cons_self ..)
    have h2 := firstE_V r fun e he => h e (List.mem_cons_of_mem _ he)
    rcases h1 with rfl | ⟨a, n, rfl⟩ | ⟨n, rfl⟩
    · exact h2
    · exact .inr (.inl ⟨_, _, rfl⟩)
    · exact .inr (.inr ⟨_, rfl⟩)
theorem errs_V (s : Snap) (x : Spec) (t : State) : ∀ e ∈ errsL s x t, ErrV e := by
  intro e he
  simp only [errsL, List.mem_cons, List.not_mem_nil, or_false] at he
  rcases he with rfl | rfl | rfl | rfl | rfl
  · exact errV_O _
  · exact errV_O _
  · exact errV_O _
  · exact errV_O _
  · exact errV_used _ _
theorem why_step {fs : List PV} {i n : Nat} {a b r : PV} (hi : i < 5) (hf : fs[i]? = some (.func n [] [a, b])) (k : Gives T n [a, b] r) (hr : ErrV r) (Q : Exit → St → Prop) (fr : List (Nat × AV)) (hp : Hl) (nx : Nat)
    (h13 : look fr 13 = .pv (.agg fs)) (h14 : look fr 14 = .pv (.int .i64 i))
    (hn : r = .nili → ∀ fr', look fr' 13 = .pv (.agg fs) → look fr' 14 = .pv (.int .i64 ((i + 1 : Nat) : Int)) → Wp T false (.loop f223l0) ⟨fr', hp, nx⟩ Q)
    (hs : r ≠ .nili → ∀ fr', look fr' 6 = .pv r → Q .ret ⟨fr', hp, nx⟩) : Wp T false (.loop f223l0) ⟨fr, hp, nx⟩ Q := by
  have hlt : (i : Int) < 5 := by omega
  have hw : IntKind.i64.wrap ((i : Int) + 1) = ((i + 1 : Nat) : Int) := by rw [wrap6] <;> omega
  have hld : loadV false 1 (List.drop (i * 1) (pvs fs)) = some (.pv (.func n [] [a, b])) := by
    have hlen : i < fs.length := (List.getElem?_eq_some_iff.1 hf).1
    have hl2 : i < (pvs fs).length := by rw [pvs_length]; exact hlen
    have hg : (pvs fs)[i]? = some (.pv (.func n [] [a, b])) := by rw [pvs_get, hf]; rfl
    have hg2 : (pvs fs)[i] = .pv (.func n [] [a, b]) := by
      rw [List.getElem?_eq_getElem hl2] at hg
      simpa using hg
    rw [Nat.mul_one, List.drop_eq_getElem_cons hl2, hg2]
    rfl
  rw [Wp_loop, Wp_eq f223l0.eq_1]
  rcases hr with rfl | ⟨c, m, rfl⟩ | ⟨m, rfl⟩
  · simp only [runL, opQ, evOp, evO, evOs, guardV, argsA, pvs, putS, cellsOf, scals, scal, Nat.reduceEqDiff, Nat.reduceAdd, reduceCtorEq, fieldA, nonNil, cellsAt, mkAgg, allPV, storeB, patchL, Int.reduceToNat, Nat.reduceMul, Nat.reduceLT, stepA, Int.reduceNeg, Int.reduceLE, Int.reduceLT, Int.reduceEq, extractV, mkAgg, Nat.reduceLeDiff, fillA, pureVs, pureV, eqV, eqB, lenV.eq_1, lenV.eq_2, lenV.eq_3, lenV.eq_4, binV, intBin, intV, idxA, List.drop, List.take, RetP, retP, resV, resOne, snapV, snapVs, snapR, snapRs, ownSz, pickV, AO.isC, opE, opD, funV.eq_1, funV.eq_2, funQ_some, aggV, h13, h14, hlt, hi, hld, k.call, hw]
    refine hn rfl _ ?_ ?_
    all_goals try simp only [look_if, blkAt_if, Nat.reduceEqDiff, if_true, if_false, h13, h14]
  · simp only [spotE] at k
    simp only [runL, opQ, evOp, evO, evOs, guardV, argsA, pvs, putS, cellsOf, scals, scal, Nat.reduceEqDiff, Nat.reduceAdd, reduceCtorEq, fieldA, nonNil, cellsAt, mkAgg, allPV, storeB, patchL, Int.reduceToNat, Nat.reduceMul, Nat.reduceLT, stepA, Int.reduceNeg, Int.reduceLE, Int.reduceLT, Int.reduceEq, extractV, mkAgg, Nat.reduceLeDiff, fillA, pureVs, pureV, eqV, eqB, lenV.eq_1, lenV.eq_2, lenV.eq_3, lenV.eq_4, binV, intBin, intV, idxA, List.drop, List.take, RetP, retP, resV, resOne, snapV, snapVs, snapR, snapRs, ownSz, pickV, AO.isC, opE, opD, funV.eq_1, funV.eq_2, funQ_some, aggV, h13, h14, hlt, hi, hld, k.call, hw]
    refine hs (by simp [spotE]) _ ?_
    all_goals try simp only [look_if, blkAt_if, Nat.reduceEqDiff, if_true, if_false, spotE]
  · simp only [codeE] at k
    simp only [runL, opQ, evOp, evO, evOs, guardV, argsA, pvs, putS, cellsOf, scals, scal, Nat.reduceEqDiff, Nat.reduceAdd, reduceCtorEq, fieldA, nonNil, cellsAt, mkAgg, allPV, storeB, patchL, Int.reduceToNat, Nat.reduceMul, Nat.reduceLT, stepA, Int.reduceNeg, Int.reduceLE, Int.reduceLT, Int.reduceEq, extractV, mkAgg, Nat.reduceLeDiff, fillA, pureVs, pureV, eqV, eqB, lenV.eq_1, lenV.eq_2, lenV.eq_3, lenV.eq_4, binV, intBin, intV, idxA, List.drop, List.take, RetP, retP, resV, resOne, snapV, snapVs, snapR, snapRs, ownSz, pickV, AO.isC, opE, opD, funV.eq_1, funV.eq_2, funQ_some, aggV, h13, h14, hlt, hi, hld, k.call, hw]
    refine hs (by simp [codeE]) _ ?_
    all_goals try simp only [look_if, blkAt_if, Nat.reduceEqDiff, if_true, if_false, codeE]
theorem firstE_ne {e : PV} {r : List PV} (h : e ≠ .nili) : firstE (e :: r) = e := by
  cases e <;> first | rfl | exact absurd rfl h
theorem why_ok (S : Std11 T) (s : Snap) (x : Spec) (t : State) (hn : s.nodes.length ≤ 2 ^ 29) (hl : t.pods.length ≤ 2 ^ 29) (hll : s.loads.length ≤ 2 ^ 29) (hw : ∀ p ∈ t.pods, p.wf) : Gives T 223 [snapP s, specP x, stateP t] (whyP s x t) := by
  have k0 := five_ok S s x t
  have k1 := c225_ok S s t hn hl hw
  have k2 := c226_ok S s t hll hl
  have k3 := c227_ok S s t hn hl hll
  have k4 := c228_ok S s t hl hll
  have k5 := c229_ok S x t
  simp only [snapP, specP, stateP] at k0
  refine gives S.h223 rfl ?_
  simp only [f223, runL, opQ, evOp, evO, evOs, guardV, argsA, pvs, putS, cellsOf, scals, scal, Nat.reduceEqDiff, Nat.reduceAdd, reduceCtorEq, fieldA, nonNil, cellsAt, mkAgg, allPV, storeB, patchL, Int.reduceToNat, Nat.reduceMul, Nat.reduceLT, stepA, Int.reduceNeg, Int.reduceLE, Int.reduceLT, Int.reduceEq, extractV, mkAgg, Nat.reduceLeDiff, fillA, pureVs, pureV, eqV, eqB, lenV.eq_1, lenV.eq_2, lenV.eq_3, lenV.eq_4, binV, intBin, intV, idxA, List.drop, List.take, RetP, retP, resV, resOne, snapV, snapVs, snapR, snapRs, ownSz, pickV, AO.isC, opE, opD, funV.eq_1, funV.eq_2, snapP, specP, stateP, k0.call]
  unfold whyP errsL
  refine why_step (i := 0) (by omega) rfl k1 (errV_O _) _ _ _ _ rfl rfl (fun e1 fr h13 h14 => ?_) (fun e1 fr h6 => ?_)
  · rw [e1, firstE]
    refine why_step (i := 1) (by omega) rfl k2 (errV_O _) _ _ _ _ h13 h14 (fun e1 fr h13 h14 => ?_) (fun e1 fr h6 => ?_)
    · rw [e1, firstE]
      refine why_step (i := 2) (by omega) rfl k3 (errV_O _) _ _ _ _ h13 h14 (fun e1 fr h13 h14 => ?_) (fun e1 fr h6 => ?_)
      · rw [e1, firstE]
        refine why_step (i := 3) (by omega) rfl k4 (errV_O _) _ _ _ _ h13 h14 (fun e1 fr h13 h14 => ?_) (fun e1 fr h6 => ?_)
        · rw [e1, firstE]
          refine why_step (i := 4) (by omega) rfl k5 (errV_used _ _) _ _ _ _ h13 h14 (fun e1 fr h13 h14 => ?_) (fun e1 fr h6 => ?_)
          · rw [e1, firstE]
            have h14' : look fr 14 = .pv (.int .i64 5) := h14
            rw [Wp_loop, Wp_eq f223l0.eq_1]
            simp only [runL, opQ, evOp, evO, evOs, guardV, argsA, pvs, putS, cellsOf, scals, scal, Nat.reduceEqDiff, Nat.reduceAdd, reduceCtorEq, fieldA, nonNil, cellsAt, mkAgg, allPV, storeB, patchL, Int.reduceToNat, Nat.reduceMul, Nat.reduceLT, stepA, Int.reduceNeg, Int.reduceLE, Int.reduceLT, Int.reduceEq, extractV, mkAgg, Nat.reduceLeDiff, fillA, pureVs, pureV, eqV, eqB, lenV.eq_1, lenV.eq_2, lenV.eq_3, lenV.eq_4, binV, intBin, intV, idxA, List.drop, List.take, RetP, retP, resV, resOne, snapV, snapVs, snapR, snapRs, ownSz, pickV, AO.isC, opE, opD, funV.eq_1, funV.eq_2, h13, h14', Int.lt_irrefl, firstE]
          · rw [firstE_ne e1]
            simp only [runL, opQ, evOp, evO, evOs, guardV, argsA, pvs, putS, cellsOf, scals, scal, Nat.reduceEqDiff, Nat.reduceAdd, reduceCtorEq, fieldA, nonNil, cellsAt, mkAgg, allPV, storeB, patchL, Int.reduceToNat, Nat.reduceMul, Nat.reduceLT, stepA, Int.reduceNeg, Int.reduceLE, Int.reduceLT, Int.reduceEq, extractV, mkAgg, Nat.reduceLeDiff, fillA, pureVs, pureV, eqV, eqB, lenV.eq_1, lenV.eq_2, lenV.eq_3, lenV.eq_4, binV, intBin, intV, idxA, List.drop, List.take, RetP, retP, resV, resOne, snapV, snapVs, snapR, snapRs, ownSz, pickV, AO.isC, opE, opD, funV.eq_1, funV.eq_2, h6]
        · rw [firstE_ne e1]
          simp only [runL, opQ, evOp, evO, evOs, guardV, argsA, pvs, putS, cellsOf, scals, scal, Nat.reduceEqDiff, Nat.reduceAdd, reduceCtorEq, fieldA, nonNil, cellsAt, mkAgg, allPV, storeB, patchL, Int.reduceToNat, Nat.reduceMul, Nat.reduceLT, stepA, Int.reduceNeg, Int.reduceLE, Int.reduceLT, Int.reduceEq, extractV, mkAgg, Nat.reduceLeDiff, fillA, pureVs, pureV, eqV, eqB, lenV.eq_1, lenV.eq_2, lenV.eq_3, lenV.eq_4, binV, intBin, intV, idxA, List.drop, List.take, RetP, retP, resV, resOne, snapV, snapVs, snapR, snapRs, ownSz, pickV, AO.isC, opE, opD, funV.eq_1, funV.eq_2, h6]
      · rw [firstE_ne e1]
        simp only [runL, opQ, evOp, evO, evOs, guardV, argsA, pvs, putS, cellsOf, scals, scal, Nat.reduceEqDiff, Nat.reduceAdd, reduceCtorEq, fieldA, nonNil, cellsAt, mkAgg, allPV, storeB, patchL, Int.reduceToNat, Nat.reduceMul, Nat.reduceLT, stepA, Int.reduceNeg, Int.reduceLE, Int.reduceLT, Int.reduceEq, extractV, mkAgg, Nat.reduceLeDiff, fillA, pureVs, pureV, eqV, eqB, lenV.eq_1, lenV.eq_2, lenV.eq_3, lenV.eq_4, binV, intBin, intV, idxA, List.drop, List.take, RetP, retP, resV, resOne, snapV, snapVs, snapR, snapRs, ownSz, pickV, AO.isC, opE, opD, funV.eq_1, funV.eq_2, h6]
    · rw [firstE_ne e1]
      simp only [runL, opQ, evOp, evO, evOs, guardV, argsA, pvs, putS, cellsOf, scals, scal, Nat.reduceEqDiff, Nat.reduceAdd, reduceCtorEq, fieldA, nonNil, cellsAt, mkAgg, allPV, storeB, patchL, Int.reduceToNat, Nat.reduceMul, Nat.reduceLT, stepA, Int.reduceNeg, Int.reduceLE, Int.reduceLT, Int.reduceEq, extractV, mkAgg, Nat.reduceLeDiff, fillA, pureVs, pureV, eqV, eqB, lenV.eq_1, lenV.eq_2, lenV.eq_3, lenV.eq_4, binV, intBin, intV, idxA, List.drop, List.take, RetP, retP, resV, resOne, snapV, snapVs, snapR, snapRs, ownSz, pickV, AO.isC, opE, opD, funV.eq_1, funV.eq_2, h6]
  · rw [firstE_ne e1]
    simp only [runL, opQ, evOp, evO, evOs, guardV, argsA, pvs, putS, cellsOf, scals, scal, Nat.reduceEqDiff, Nat.reduceAdd, reduceCtorEq, fieldA, nonNil, cellsAt, mkAgg, allPV, storeB, patchL, Int.reduceToNat, Nat.reduceMul, Nat.reduceLT, stepA, Int.reduceNeg, Int.reduceLE, Int.reduceLT, Int.reduceEq, extractV, mkAgg, Nat.reduceLeDiff, fillA, pureVs, pureV, eqV, eqB, lenV.eq_1, lenV.eq_2, lenV.eq_3, lenV.eq_4, binV, intBin, intV, idxA, List.drop, List.take, RetP, retP, resV, resOne, snapV, snapVs, snapR, snapRs, ownSz, pickV, AO.isC, opE, opD, funV.eq_1, funV.eq_2, h6]
theorem is11_ok (S : Std11 T) (s : Snap) (x : Spec) (t : State) (hn : s.nodes.length ≤ 2 ^ 29) (hl : t.pods.length ≤ 2 ^ 29) (hll : s.loads.length ≤ 2 ^ 29) (hw : ∀ p ∈ t.pods, p.wf) : Gives T 222 [snapP s, specP x, stateP t] (.bool (isNilP (whyP s x t))) := by
  have k := why_ok S s x t hn hl hll hw
  have hv : ErrV (whyP s x t) := firstE_V _ (errs_V s x t)
  refine gives S.h222 rfl ?_
  rcases hv with e | ⟨a, n, e⟩ | ⟨n, e⟩ <;>
  · rw [e] at k ⊢
    simp only [snapP, specP, stateP, spotE, codeE] at k
    simp only [f222, runL, opQ, evOp, evO, evOs, guardV, argsA, pvs, putS, cellsOf, scals, scal, Nat.reduceEqDiff, Nat.reduceAdd, reduceCtorEq, fieldA, nonNil, cellsAt, mkAgg, allPV, storeB, patchL, Int.reduceToNat, Nat.reduceMul, Nat.reduceLT, stepA, Int.reduceNeg, Int.reduceLE, Int.reduceLT, Int.reduceEq, extractV, mkAgg, Nat.reduceLeDiff, fillA, pureVs, pureV, eqV, eqB, lenV.eq_1, lenV.eq_2, lenV.eq_3, lenV.eq_4, binV, intBin, intV, idxA, List.drop, List.take, RetP, retP, resV, resOne, snapV, snapVs, snapR, snapRs, ownSz, pickV, AO.isC, opE, opD, funV.eq_1, funV.eq_2, snapP, specP, stateP, k.call, isNilP, spotE, codeE]
end
end Go.Proofs.YtlfphlobcopemaaDoor.Ab
set_option linter.unusedVariables false
set_option linter.unusedSimpArgs false
namespace Go.Proofs.YtlfphlobcopemaaDoor.Ab
open Go
def l11 : List (Nat × AFunc) := [(68, f68), (69, f69), (70, f70), (71, f71), (72, f72), (81, f81), (82, f82), (84, f84), (153, f153), (163, f163), (219, f219), (220, f220), (221, f221), (222, f222), (223, f223), (224, f224), (225, f225), (226, f226), (227, f227), (228, f228), (229, f229),
  (234, f234), (235, f235), (236, f236), (255, f255), (258, f258), (259, f259), (260, f260), (261, f261), (359, f359), (360, f360), (361, f361)]
def p11 : List (Nat × Prm) := [(256, add1P), (266, asP), (281, compP), (290, foldP mostL), (291, foldP leastL), (293, sortP)]
def T11 : Tab := tabOf l11 [266, 281, 293] [260, 290, 291] [] [360] p11
theorem up11 : Gives T11 360 [] (.bool true) := ⟨rfl, rfl, none, callP_true (k := 60) (by decide +kernel)⟩
theorem S11 : Std11 T11 where
  s6 := ⟨⟨⟨rfl, rfl, rfl, rfl, rfl⟩, ⟨rfl, rfl, rfl, rfl, rfl⟩, ⟨rfl, rfl, rfl⟩, ⟨rfl, rfl, rfl, rfl, rfl⟩⟩, ⟨rfl, rfl, rfl, rfl, rfl⟩, ⟨rfl, rfl, rfl, rfl, rfl⟩, ⟨rfl, rfl, rfl, rfl, rfl⟩, ⟨rfl, rfl, rfl, rfl, rfl⟩, ⟨rfl, rfl, rfl, rfl, rfl⟩, rfl⟩
  s8 := ⟨⟨rfl, rfl, rfl, rfl, ⟨rfl, rfl, rfl, rfl, rfl⟩⟩, ⟨rfl, rfl, rfl, rfl, rfl⟩, ⟨rfl, rfl, rfl, rfl, rfl⟩, ⟨rfl, rfl, rfl, rfl, rfl⟩, ⟨rfl, rfl, rfl⟩, ⟨rfl, rfl, rfl⟩, rfl, rfl⟩
  h219 := ⟨rfl, rfl, rfl, rfl, rfl⟩
  h266 := ⟨rfl, rfl⟩
  h68 := ⟨rfl, rfl, rfl, rfl, rfl⟩
  h69 := ⟨rfl, rfl, rfl, rfl, rfl⟩
  h81 := ⟨rfl, rfl, rfl, rfl, rfl⟩
  h234 := ⟨rfl, rfl, rfl, rfl, rfl⟩
  h70 := ⟨rfl, rfl, rfl, rfl, rfl⟩
  h71 := ⟨rfl, rfl, rfl, rfl, rfl⟩
  h72 := ⟨rfl, rfl, rfl, rfl, rfl⟩
  h222 := ⟨rfl, rfl, rfl, rfl, rfl⟩
  h223 := ⟨rfl, rfl, rfl, rfl, rfl⟩
  h224 := ⟨rfl, rfl, rfl, rfl, rfl⟩
  h225 := ⟨rfl, rfl, rfl, rfl, rfl⟩
  h226 := ⟨rfl, rfl, rfl, rfl, rfl⟩
  h227 := ⟨rfl, rfl, rfl, rfl, rfl⟩
  h228 := ⟨rfl, rfl, rfl, rfl, rfl⟩
  h229 := ⟨rfl, rfl, rfl, rfl, rfl⟩
theorem safe_more (s : Snap) (x y : Spec) (t : State) (h1 : x.pre ≤ y.pre) (h2 : x.shi ≤ y.shi) (h : isNilP (whyP s x t) = true) : isNilP (whyP s y t) = true := by
  revert h
  unfold whyP errsL
  have bad : ∀ {p : Prop}, false = true → p := fun h => absurd h (by decide)
  cases roomFrom s t.pods 0 s.nodes with
  | some q => exact fun h => bad h
  | none =>
    cases apartFrom s.loads [] t.pods with
    | some q => exact fun h => bad h
    | none =>
      cases spreadFrom s t.pods 0 s.loads with
      | some q => exact fun h => bad h
      | none =>
        cases badLoad t.pods 0 s.loads with
        | some q => exact fun h => bad h
        | none =>
          cases hu : usedB x t with
          | true => exact fun h => bad h
          | false =>
            have hv : usedB y t = false := by
              simp only [usedB, Bool.or_eq_false_iff, decide_eq_false_iff_not] at hu ⊢
              omega
            rw [hv]
            exact fun _ => rfl
set_option maxRecDepth 100000 in
set_option maxHeartbeats 4000000 in
theorem law11b (s : Snap) (x : Spec) (t : State) (more : Int) (_ : s.wf) (hx : x.wf) (ht : t.wf) (_ : inI more) : Gives T11 359 [snapP s, specP x, stateP t, .int .i64 more] (.bool true) := by
  refine gives (f := f359) ⟨rfl, rfl, rfl, rfl, rfl⟩ rfl ?_
  have kf := few5_ok (T := T11) ⟨rfl, rfl, rfl, rfl, rfl⟩ ⟨rfl, rfl, rfl, rfl, rfl⟩ s x t
  simp only [snapP, specP, stateP] at kf
  cases hf : few5 s x t
  · rw [hf] at kf
    simp only [f359, runL, opQ, evOp, evO, evOs, guardV, argsA, pvs, putS, cellsOf, scals, scal, Nat.reduceEqDiff, Nat.reduceAdd, reduceCtorEq, fieldA, nonNil, cellsAt, mkAgg, allPV, storeB, patchL, Int.reduceToNat, Nat.reduceMul, Nat.reduceLT, stepA, Int.reduceNeg, Int.reduceLE, Int.reduceLT, Int.reduceEq, extractV, mkAgg, Nat.reduceLeDiff, fillA, pureVs, pureV, eqV, eqB, lenV.eq_1, lenV.eq_2, lenV.eq_3, lenV.eq_4, binV, intBin, intV, idxA, List.drop, List.take, RetP, retP, resV, resOne, snapV, snapVs, snapR, snapRs, ownSz, pickV, AO.isC, opE, opD, funV.eq_1, funV.eq_2, up11.call, snapP, specP, stateP, kf.call]
  · have hf' := hf
    simp only [few5, few3, Bool.and_eq_true, decide_eq_true_eq] at hf'
    obtain ⟨⟨l1, l2, l3⟩, l4, l5⟩ := hf'
    rw [hf] at kf
    have ki := is11_ok S11 s x t (by omega) (by omega) (by omega) ht.1
    simp only [snapP, specP, stateP] at ki
    simp only [f359, runL, opQ, evOp, evO, evOs, guardV, argsA, pvs, putS, cellsOf, scals, scal, Nat.reduceEqDiff, Nat.reduceAdd, reduceCtorEq, fieldA, nonNil, cellsAt, mkAgg, allPV, storeB, patchL, Int.reduceToNat, Nat.reduceMul, Nat.reduceLT, stepA, Int.reduceNeg, Int.reduceLE, Int.reduceLT, Int.reduceEq, extractV, mkAgg, Nat.reduceLeDiff, fillA, pureVs, pureV, eqV, eqB, lenV.eq_1, lenV.eq_2, lenV.eq_3, lenV.eq_4, binV, intBin, intV, idxA, List.drop, List.take, RetP, retP, resV, resOne, snapV, snapVs, snapR, snapRs, ownSz, pickV, AO.isC, opE, opD, funV.eq_1, funV.eq_2, up11.call, snapP, specP, stateP, kf.call]
    by_cases c1 : more < 0
    · simp only [runL, opQ, evOp, evO, evOs, guardV, argsA, pvs, putS, cellsOf, scals, scal, Nat.reduceEqDiff, Nat.reduceAdd, reduceCtorEq, fieldA, nonNil, cellsAt, mkAgg, allPV, storeB, patchL, Int.reduceToNat, Nat.reduceMul, Nat.reduceLT, stepA, Int.reduceNeg, Int.reduceLE, Int.reduceLT, Int.reduceEq, extractV, mkAgg, Nat.reduceLeDiff, fillA, pureVs, pureV, eqV, eqB, lenV.eq_1, lenV.eq_2, lenV.eq_3, lenV.eq_4, binV, intBin, intV, idxA, List.drop, List.take, RetP, retP, resV, resOne, snapV, snapVs, snapR, snapRs, ownSz, pickV, AO.isC, opE, opD, funV.eq_1, funV.eq_2, c1]
    · by_cases c2 : 1000 < more
      · simp only [runL, opQ, evOp, evO, evOs, guardV, argsA, pvs, putS, cellsOf, scals, scal, Nat.reduceEqDiff, Nat.reduceAdd, reduceCtorEq, fieldA, nonNil, cellsAt, mkAgg, allPV, storeB, patchL, Int.reduceToNat, Nat.reduceMul, Nat.reduceLT, stepA, Int.reduceNeg, Int.reduceLE, Int.reduceLT, Int.reduceEq, extractV, mkAgg, Nat.reduceLeDiff, fillA, pureVs, pureV, eqV, eqB, lenV.eq_1, lenV.eq_2, lenV.eq_3, lenV.eq_4, binV, intBin, intV, idxA, List.drop, List.take, RetP, retP, resV, resOne, snapV, snapVs, snapR, snapRs, ownSz, pickV, AO.isC, opE, opD, funV.eq_1, funV.eq_2, c1, c2]
      · by_cases c3 : 1000 < x.pre
        · simp only [runL, opQ, evOp, evO, evOs, guardV, argsA, pvs, putS, cellsOf, scals, scal, Nat.reduceEqDiff, Nat.reduceAdd, reduceCtorEq, fieldA, nonNil, cellsAt, mkAgg, allPV, storeB, patchL, Int.reduceToNat, Nat.reduceMul, Nat.reduceLT, stepA, Int.reduceNeg, Int.reduceLE, Int.reduceLT, Int.reduceEq, extractV, mkAgg, Nat.reduceLeDiff, fillA, pureVs, pureV, eqV, eqB, lenV.eq_1, lenV.eq_2, lenV.eq_3, lenV.eq_4, binV, intBin, intV, idxA, List.drop, List.take, RetP, retP, resV, resOne, snapV, snapVs, snapR, snapRs, ownSz, pickV, AO.isC, opE, opD, funV.eq_1, funV.eq_2, c1, c2, c3]
        · by_cases c4 : 1000 < x.shi
          · simp only [runL, opQ, evOp, evO, evOs, guardV, argsA, pvs, putS, cellsOf, scals, scal, Nat.reduceEqDiff, Nat.reduceAdd, reduceCtorEq, fieldA, nonNil, cellsAt, mkAgg, allPV, storeB, patchL, Int.reduceToNat, Nat.reduceMul, Nat.reduceLT, stepA, Int.reduceNeg, Int.reduceLE, Int.reduceLT, Int.reduceEq, extractV, mkAgg, Nat.reduceLeDiff, fillA, pureVs, pureV, eqV, eqB, lenV.eq_1, lenV.eq_2, lenV.eq_3, lenV.eq_4, binV, intBin, intV, idxA, List.drop, List.take, RetP, retP, resV, resOne, snapV, snapVs, snapR, snapRs, ownSz, pickV, AO.isC, opE, opD, funV.eq_1, funV.eq_2, c1, c2, c3, c4]
          · cases hs : isNilP (whyP s x t) with
            | false =>
              rw [hs] at ki
              simp only [runL, opQ, evOp, evO, evOs, guardV, argsA, pvs, putS, cellsOf, scals, scal, Nat.reduceEqDiff, Nat.reduceAdd, reduceCtorEq, fieldA, nonNil, cellsAt, mkAgg, allPV, storeB, patchL, Int.reduceToNat, Nat.reduceMul, Nat.reduceLT, stepA, Int.reduceNeg, Int.reduceLE, Int.reduceLT, Int.reduceEq, extractV, mkAgg, Nat.reduceLeDiff, fillA, pureVs, pureV, eqV, eqB, lenV.eq_1, lenV.eq_2, lenV.eq_3, lenV.eq_4, binV, intBin, intV, idxA, List.drop, List.take, RetP, retP, resV, resOne, snapV, snapVs, snapR, snapRs, ownSz, pickV, AO.isC, opE, opD, funV.eq_1, funV.eq_2, c1, c2, c3, c4, ki.call]
            | true =>
              rw [hs] at ki
              have hw := hx
              simp only [Spec.wf, inI] at hw
              have w1 : IntKind.i64.wrap (x.pre + more) = x.pre + more := by rw [wrap6] <;> omega
              have w2 : IntKind.i64.wrap (x.shi + more) = x.shi + more := by rw [wrap6] <;> omega
              have kj := is11_ok S11 s ⟨x.wants, x.pre + more, x.shi + more⟩ t (by omega) (by omega) (by omega) ht.1
              rw [safe_more s x ⟨x.wants, x.pre + more, x.shi + more⟩ t (by simp only; omega) (by simp only; omega) hs] at kj
              simp only [snapP, specP, stateP] at kj
              simp only [runL, opQ, evOp, evO, evOs, guardV, argsA, pvs, putS, cellsOf, scals, scal, Nat.reduceEqDiff, Nat.reduceAdd, reduceCtorEq, fieldA, nonNil, cellsAt, mkAgg, allPV, storeB, patchL, Int.reduceToNat, Nat.reduceMul, Nat.reduceLT, stepA, Int.reduceNeg, Int.reduceLE, Int.reduceLT, Int.reduceEq, extractV, mkAgg, Nat.reduceLeDiff, fillA, pureVs, pureV, eqV, eqB, lenV.eq_1, lenV.eq_2, lenV.eq_3, lenV.eq_4, binV, intBin, intV, idxA, List.drop, List.take, RetP, retP, resV, resOne, snapV, snapVs, snapR, snapRs, ownSz, pickV, AO.isC, opE, opD, funV.eq_1, funV.eq_2, c1, c2, c3, c4, ki.call, w1, w2, kj.call]
end Go.Proofs.YtlfphlobcopemaaDoor.Ab
