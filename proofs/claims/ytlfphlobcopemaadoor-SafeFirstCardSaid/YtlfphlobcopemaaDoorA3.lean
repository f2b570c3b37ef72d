/- The layer, part 3: Sp6, Sp6b, Co11, Sp11, Ab59, Sp11f. -/
import Derived.Test.YtlfphlobcopemaaDoorA2
set_option linter.unusedVariables false
set_option linter.unusedSimpArgs false
namespace Go.Proofs.YtlfphlobcopemaaDoor.Ab
open Go
section
variable {T : Tab}
/-! ### Code, of codes -/
theorem code_loop (c : Int) (Q : Exit → St → Prop) (hret : ∀ fr hp nx, look fr 2 = .pv (.int .i64 c) → Q .ret ⟨fr, hp, nx⟩) :
    ∀ (k : Nat) (i : Int), c = i + k → 1 ≤ i → c ≤ 17 → ∀ (fr : List (Nat × AV)) (hp : Hl) (nx : Nat), look fr 0 = .pv (.iface 0 (.int .i64 c)) → look fr 3 = .pv (.int .i64 i) → Wp T false (.loop f102l0) ⟨fr, hp, nx⟩ Q := by
  intro k
  induction k with
  | zero =>
    intro i hi h1 h2 fr hp nx g0 g3
    have hi' : i = c := by omega
    subst hi'
    rw [Wp_loop, Wp_eq f102l0.eq_1]
    simp only [runL, opQ, evOp, evO, evOs, guardV, argsA, pvs, putS, cellsOf, scals, scal, Nat.reduceEqDiff, Nat.reduceAdd, reduceCtorEq, fieldA, nonNil, cellsAt, mkAgg, allPV, storeB, patchL, Int.reduceToNat, Nat.reduceMul, Nat.reduceLT, stepA, Int.reduceNeg, Int.reduceLE, Int.reduceLT, Int.reduceEq, extractV, mkAgg, Nat.reduceLeDiff, fillA, pureVs, pureV, eqV, eqB, lenV, binV, intBin, intV, idxA, List.drop, List.take, RetP, retP, resV, resOne, snapV, snapVs, snapR, snapRs, ownSz, pickV, AO.isC, opE, opD, funV, g0, g3, h2]
    exact hret _ _ _ (by simp only [look_if, Nat.reduceEqDiff, if_true, if_false])
  | succ k ih =>
    intro i hi h1 h2 fr hp nx g0 g3
    have hne : ¬ c = i := by omega
    have hle : i ≤ 17 := by omega
    have hw : IntKind.i64.wrap (i + 1) = i + 1 := by rw [wrap6] <;> omega
    rw [Wp_loop, Wp_eq f102l0.eq_1]
    simp only [runL, opQ, evOp, evO, evOs, guardV, argsA, pvs, putS, cellsOf, scals, scal, Nat.reduceEqDiff, Nat.reduceAdd, reduceCtorEq, fieldA, nonNil, cellsAt, mkAgg, allPV, storeB, patchL, Int.reduceToNat, Nat.reduceMul, Nat.reduceLT, stepA, Int.reduceNeg, Int.reduceLE, Int.reduceLT, Int.reduceEq, extractV, mkAgg, Nat.reduceLeDiff, fillA, pureVs, pureV, eqV, eqB, lenV, binV, intBin, intV, idxA, List.drop, List.take, RetP, retP, resV, resOne, snapV, snapVs, snapR, snapRs, ownSz, pickV, AO.isC, opE, opD, funV, g0, g3, hle, hne, hw]
    refine ih (i + 1) (by omega) (by omega) h2 _ _ _ ?_ ?_
    all_goals simp only [look_if, Nat.reduceEqDiff, if_true, if_false, g0]
theorem code_code (h102 : Std T 102 f102) (c : Int) (h1 : 1 ≤ c) (h2 : c ≤ 17) : Gives T 102 [codeE c] (.int .i64 c) := by
  refine gives h102 rfl ?_
  simp only [f102, runL, opQ, evOp, evO, evOs, guardV, argsA, pvs, putS, cellsOf, scals, scal, Nat.reduceEqDiff, Nat.reduceAdd, reduceCtorEq, fieldA, nonNil, cellsAt, mkAgg, allPV, storeB, patchL, Int.reduceToNat, Nat.reduceMul, Nat.reduceLT, stepA, Int.reduceNeg, Int.reduceLE, Int.reduceLT, Int.reduceEq, extractV, mkAgg, Nat.reduceLeDiff, fillA, pureVs, pureV, eqV, eqB, lenV, binV, intBin, intV, idxA, List.drop, List.take, RetP, retP, resV, resOne, snapV, snapVs, snapR, snapRs, ownSz, pickV, AO.isC, opE, opD, funV, codeE]
  refine code_loop c _ (fun fr hp nx g => ?_) (c - 1).toNat 1 (by omega) (by omega) h2 _ _ _ rfl rfl
  simp only [runL, opQ, evOp, evO, evOs, guardV, argsA, pvs, putS, cellsOf, scals, scal, Nat.reduceEqDiff, Nat.reduceAdd, reduceCtorEq, fieldA, nonNil, cellsAt, mkAgg, allPV, storeB, patchL, Int.reduceToNat, Nat.reduceMul, Nat.reduceLT, stepA, Int.reduceNeg, Int.reduceLE, Int.reduceLT, Int.reduceEq, extractV, mkAgg, Nat.reduceLeDiff, fillA, pureVs, pureV, eqV, eqB, lenV, binV, intBin, intV, idxA, List.drop, List.take, RetP, retP, resV, resOne, snapV, snapVs, snapR, snapRs, ownSz, pickV, AO.isC, opE, opD, funV, g]
/-! ### The document's search for a node -/
/-! ### What is used -/
def reqs (node : Int) : List Pod → List Vec
  | [] => []
  | p :: r => if p.node = node then p.req :: reqs node r else reqs node r
theorem reqs_le (node : Int) : ∀ l, (reqs node l).length ≤ l.length
  | [] => Nat.le_refl _
  | p :: r => by
    have := reqs_le node r
    simp only [reqs, List.length_cons]
    split
    · simp only [List.length_cons]; omega
    · omega
theorem reqs_wf (node : Int) : ∀ l : List Pod, (∀ p ∈ l, p.wf) → ∀ v ∈ reqs node l, v.wf
  | [], _, v, hv => by simp [reqs] at hv
  | p :: r, h, v, hv => by
    have ih := reqs_wf node r (fun q hq => h q (List.mem_cons_of_mem _ hq)) v
    simp only [reqs] at hv
    split at hv
    · rcases List.mem_cons.1 hv with rfl | hv
      · exact (h p (List.mem_cons_self ..)).2.2.2.1
      · exact ih hv
    · exact ih hv
def useO (pods : List Pod) (node : Int) : Option Vec := sumFrom vec0 (reqs node pods)
def OwnR (v : AV) (hp : Hl) (sz : Nat) (es : List (List PV)) (lo nx : Nat) : Prop := (es = [] ∧ v = .nils) ∨ ∃ id, v = .ms id ∧ lo ≤ id ∧ id < nx ∧ blkAt hp id = .row sz es
theorem use_loop (pods : List Pod) (node : Int) (hl : pods.length ≤ 2 ^ 30) (Q : Exit → St → Prop) (tot : List Vec) (htot : tot.length ≤ 2 ^ 30)
    (hend : ∀ fr hp nx, look fr 4 = .ptr 1 0 0 → blkAt hp 1 = .var (pvs (vecC vec0)) → OwnR (look fr 6) hp 4 (tot.map vecC) 2 nx → Q (.exit 0) ⟨fr, hp, nx⟩) :
    ∀ (rest : List Pod) (i : Nat) (acc : List Vec), pods.drop i = rest → i ≤ pods.length → acc ++ reqs node rest = tot → ∀ (fr : List (Nat × AV)) (hp : Hl) (nx : Nat), 2 ≤ nx → look fr 4 = .ptr 1 0 0 → blkAt hp 1 = .var (pvs (vecC vec0)) →
      look fr 1 = .pv (.int .i64 node) → look fr 10 = .pv (.slice (pods.map podC)) → look fr 11 = .pv (.int .i64 pods.length) → look fr 12 = .pv (.int .i64 i) → OwnR (look fr 6) hp 4 (acc.map vecC) 2 nx → Wp T false (.loop f221l0) ⟨fr, hp, nx⟩ Q := by
  intro rest
  induction rest with
  | nil =>
    intro i acc hd hi ho fr hp nx hn h4 b1 h1 h10 h11 h12 h6
    have hlen := drop_nil hd hi
    simp only [reqs, List.append_nil] at ho
    subst ho
    rw [Wp_loop, Wp_eq f221l0.eq_1]
    simp only [runL, opQ, evOp, evO, evOs, guardV, argsA, pvs, putS, cellsOf, scals, scal, Nat.reduceEqDiff, Nat.reduceAdd, reduceCtorEq, fieldA, nonNil, cellsAt, mkAgg, allPV, storeB, patchL, Int.reduceToNat, Nat.reduceMul, Nat.reduceLT, stepA, Int.reduceNeg, Int.reduceLE, Int.reduceLT, Int.reduceEq, extractV, mkAgg, Nat.reduceLeDiff, fillA, pureVs, pureV, eqV, eqB, lenV, binV, intBin, intV, idxA, List.drop, List.take, RetP, retP, resV, resOne, snapV, snapVs, snapR, snapRs, ownSz, pickV, AO.isC, opE, opD, funV, h10, h11, h12, hlen, Int.lt_irrefl]
    refine hend _ _ _ ?_ b1 ?_
    all_goals simp only [look_if, Nat.reduceEqDiff, if_false, h4, h6]
  | cons p r ih =>
    intro i acc hd hi ho fr hp nx hn h4 b1 h1 h10 h11 h12 h6
    obtain ⟨hget, hlt, hw, hd', hi', hb⟩ := drop_cons hd hl
    have n1 : ¬ nx = 1 := by omega
    simp only [reqs] at ho
    rw [Wp_loop, Wp_eq f221l0.eq_1]
    by_cases hk : p.node = node
    · rw [if_pos hk] at ho
      have ho' : (acc ++ [p.req]) ++ reqs node r = tot := by rw [← ho]; simp
      have hlen : acc.length + 1 ≤ 2 ^ 30 := by
        have := congrArg List.length ho'
        simp at this
        omega
      rcases h6 with ⟨he, h6⟩ | ⟨id, h6, i1, i2, i3⟩
      · have hacc : acc = [] := by simpa using he
        have n0 : ¬ nx = 0 := by omega
        subst hacc
        simp only [runL, opQ, evOp, evO, evOs, guardV, argsA, pvs, putS, cellsOf, scals, scal, Nat.reduceEqDiff, Nat.reduceAdd, reduceCtorEq, fieldA, nonNil, cellsAt, mkAgg, allPV, storeB, patchL, Int.reduceToNat, Nat.reduceMul, Nat.reduceLT, stepA, Int.reduceNeg, Int.reduceLE, Int.reduceLT, Int.reduceEq, extractV, mkAgg, Nat.reduceLeDiff, fillA, pureVs, pureV, eqV, eqB, lenV, binV, intBin, intV, idxA, List.drop, List.take, RetP, retP, resV, resOne, snapV, snapVs, snapR, snapRs, ownSz, pickV, AO.isC, opE, opD, funV, h1, h10, h11, h12, hlt, hget, podC, n1, hk, h6, partsScal, srcV, chunk, appV, baseV, allLen, List.all_cons, List.all_nil, hw, Nat.one_le_two_pow]
        refine ih (i + 1) _ hd' hi' ho' _ _ _ ?_ ?_ ?_ ?_ ?_ ?_ ?_ (.inr ⟨nx + 2, ?_, ?_, ?_, ?_⟩)
        all_goals try simp only [look_if, blkAt_if, Nat.reduceEqDiff, if_true, if_false, h4, b1, n0, n1, h1, h10, h11, List.map_append, List.map_cons, List.map_nil, vecC, List.nil_append]
        all_goals first | omega | skip
      · have d1 : ¬ nx + 1 = id := by omega
        have d2 : ¬ nx = id := by omega
        have d3 : ¬ id = 1 := by omega
        have d4 : ¬ nx + 1 = 1 := by omega
        have d5 : ¬ nx + 1 + 1 = 1 := by omega
        have d6 : ¬ id = nx + 1 + 1 := by omega
        simp only [runL, opQ, evOp, evO, evOs, guardV, argsA, pvs, putS, cellsOf, scals, scal, Nat.reduceEqDiff, Nat.reduceAdd, reduceCtorEq, fieldA, nonNil, cellsAt, mkAgg, allPV, storeB, patchL, Int.reduceToNat, Nat.reduceMul, Nat.reduceLT, stepA, Int.reduceNeg, Int.reduceLE, Int.reduceLT, Int.reduceEq, extractV, mkAgg, Nat.reduceLeDiff, fillA, pureVs, pureV, eqV, eqB, lenV, binV, intBin, intV, idxA, List.drop, List.take, RetP, retP, resV, resOne, snapV, snapVs, snapR, snapRs, ownSz, pickV, AO.isC, opE, opD, funV, h1, h10, h11, h12, hlt, hget, podC, n1, hk, h6, i3, partsScal, srcV, chunk, appV, baseV, allLen, List.all_cons, List.all_nil, hw, d1, d2, hlen]
        refine ih (i + 1) _ hd' hi' ho' _ _ _ ?_ ?_ ?_ ?_ ?_ ?_ ?_ (.inr ⟨nx + 1 + 1, ?_, ?_, ?_, ?_⟩)
        all_goals try simp only [look_if, blkAt_if, Nat.reduceEqDiff, if_true, if_false, h4, b1, n1, d3, d4, d5, d6, h1, h10, h11, List.map_append, List.map_cons, List.map_nil, vecC]
        all_goals first | omega | skip
    · rw [if_neg hk] at ho
      simp only [runL, opQ, evOp, evO, evOs, guardV, argsA, pvs, putS, cellsOf, scals, scal, Nat.reduceEqDiff, Nat.reduceAdd, reduceCtorEq, fieldA, nonNil, cellsAt, mkAgg, allPV, storeB, patchL, Int.reduceToNat, Nat.reduceMul, Nat.reduceLT, stepA, Int.reduceNeg, Int.reduceLE, Int.reduceLT, Int.reduceEq, extractV, mkAgg, Nat.reduceLeDiff, fillA, pureVs, pureV, eqV, eqB, lenV, binV, intBin, intV, idxA, List.drop, List.take, RetP, retP, resV, resOne, snapV, snapVs, snapR, snapRs, ownSz, pickV, AO.isC, opE, opD, funV, h1, h10, h11, h12, hlt, hget, podC, n1, hk, hw]
      refine ih (i + 1) acc hd' hi' ho _ _ _ (by omega) ?_ ?_ ?_ ?_ ?_ ?_ ?_
      all_goals simp only [look_if, blkAt_if, Nat.reduceEqDiff, if_true, if_false, h4, b1, h1, h10, h11, n1]
      rcases h6 with ⟨he, h6⟩ | ⟨id, h6, i1, i2, i3⟩
      · exact .inl ⟨he, h6⟩
      · have : ¬ nx = id := by omega
        exact .inr ⟨id, h6, i1, by omega, by simp only [blkAt_if, this, if_false, i3]⟩
theorem flat_vecR (o : Option Vec) : flatP (vecR o) = true := by cases o <;> rfl
theorem use_ok (h221 : Std T 221 f221) (S : StdV T) (hf : T.flat 260 = true) (t : State) (node : Int) (hl : t.pods.length ≤ 2 ^ 30) (hw : ∀ p ∈ t.pods, p.wf) : Gives T 221 [stateP t, .int .i64 node] (vecR (useO t.pods node)) := by
  refine gives h221 rfl ?_
  have hr : (reqs node t.pods).length ≤ 2 ^ 30 := Nat.le_trans (reqs_le _ _) hl
  have k := sum_ok S (reqs node t.pods) hr (reqs_wf node t.pods hw)
  have e : sumFrom vec0 (reqs node t.pods) = useO t.pods node := rfl
  rw [e] at k
  have kf := k.callF hf (flat_vecR _)
  simp only [f221, runL, opQ, evOp, evO, evOs, guardV, argsA, pvs, putS, cellsOf, scals, scal, Nat.reduceEqDiff, Nat.reduceAdd, reduceCtorEq, fieldA, nonNil, cellsAt, mkAgg, allPV, storeB, patchL, Int.reduceToNat, Nat.reduceMul, Nat.reduceLT, stepA, Int.reduceNeg, Int.reduceLE, Int.reduceLT, Int.reduceEq, extractV, mkAgg, Nat.reduceLeDiff, fillA, pureVs, pureV, eqV, eqB, lenV, binV, intBin, intV, idxA, List.drop, List.take, RetP, retP, resV, resOne, snapV, snapVs, snapR, snapRs, ownSz, pickV, AO.isC, opE, opD, funV, stateP]
  refine use_loop t.pods node hl _ (reqs node t.pods) hr (fun fr hp nx h4 b1 h6 => ?_) t.pods 0 [] rfl (Nat.zero_le _) (List.nil_append _) _ _ _ (Nat.le_refl _) rfl rfl rfl rfl rfl rfl (.inl ⟨rfl, rfl⟩)
  simp only [vecC, vec0, pvs] at b1
  rcases h6 with ⟨he, h6⟩ | ⟨id, h6, i1, i2, i3⟩
  · rw [he] at k
    cases ho : useO t.pods node <;> rw [ho] at k <;> simp only [vecR, vecP, vecC, vec0, codeE] at k <;>
    simp only [runL, opQ, evOp, evO, evOs, guardV, argsA, pvs, putS, cellsOf, scals, scal, Nat.reduceEqDiff, Nat.reduceAdd, reduceCtorEq, fieldA, nonNil, cellsAt, mkAgg, allPV, storeB, patchL, Int.reduceToNat, Nat.reduceMul, Nat.reduceLT, stepA, Int.reduceNeg, Int.reduceLE, Int.reduceLT, Int.reduceEq, extractV, mkAgg, Nat.reduceLeDiff, fillA, pureVs, pureV, eqV, eqB, lenV, binV, intBin, intV, idxA, List.drop, List.take, RetP, retP, resV, resOne, snapV, snapVs, snapR, snapRs, ownSz, pickV, AO.isC, opE, opD, funV, h4, b1, h6, k.call, vecR, vecP, vecC, vec0, codeE]
  · cases ho : useO t.pods node <;> rw [ho] at kf <;> simp only [vecR, vecP, vecC, vec0, codeE] at kf <;>
    simp only [runL, opQ, evOp, evO, evOs, guardV, argsA, pvs, putS, cellsOf, scals, scal, Nat.reduceEqDiff, Nat.reduceAdd, reduceCtorEq, fieldA, nonNil, cellsAt, mkAgg, allPV, storeB, patchL, Int.reduceToNat, Nat.reduceMul, Nat.reduceLT, stepA, Int.reduceNeg, Int.reduceLE, Int.reduceLT, Int.reduceEq, extractV, mkAgg, Nat.reduceLeDiff, fillA, pureVs, pureV, eqV, eqB, lenV, binV, intBin, intV, idxA, List.drop, List.take, RetP, retP, resV, resOne, snapV, snapVs, snapR, snapRs, ownSz, pickV, AO.isC, opE, opD, funV, h4, b1, h6, i3, kf, vecR, vecP, vecC, vec0, codeE]
end
end Go.Proofs.YtlfphlobcopemaaDoor.Ab
set_option linter.unusedVariables false
set_option linter.unusedSimpArgs false
namespace Go.Proofs.YtlfphlobcopemaaDoor.Ab
open Go
section
variable {T : Tab}
def restC (s : Snap) (pods : List Pod) (id : Int) : Int × Vec := match nodeOf id s.nodes with
  | none => (4, vec0)
  | some n => match useO pods id with
    | none => (8, vec0)
    | some u => match subV' n.cap n.held with
      | none => (9, vec0)
      | some f => match subV' f u with
        | none => (9, vec0)
        | some r => (0, r)
def errC (c : Int) : PV := if c = 0 then .nili else codeE c
def restR (r : Int × Vec) : PV := .tuple [vecP r.2, errC r.1]
structure Std6 (T : Tab) : Prop where
  v : StdV T
  h82 : Std T 82 f82
  h221 : Std T 221 f221
  h258 : Std T 258 f258
  h259 : Std T 259 f259
  h220 : Std T 220 f220
  f260 : T.flat 260 = true
set_option maxRecDepth 100000 in
set_option maxHeartbeats 4000000 in
theorem rest_ok (S : Std6 T) (s : Snap) (t : State) (id : Int) (hn : s.nodes.length ≤ 2 ^ 30) (hl : t.pods.length ≤ 2 ^ 30) (hw : ∀ p ∈ t.pods, p.wf) : Gives T 220 [snapP s, stateP t, .int .i64 id] (restR (restC s t.pods id)) := by
  refine gives S.h220 rfl ?_
  have kn := node_ok S.h82 s id hn
  have ku := use_ok S.h221 S.v S.f260 t id hl hw
  unfold restC
  simp only [snapP] at kn
  simp only [stateP] at ku
  cases ho : nodeOf id s.nodes with
  | none =>
    rw [ho] at kn
    simp only [nodeR, nodeC, node0] at kn
    simp only [f220, runL, opQ, evOp, evO, evOs, guardV, argsA, pvs, putS, cellsOf, scals, scal, Nat.reduceEqDiff, Nat.reduceAdd, reduceCtorEq, fieldA, nonNil, cellsAt, mkAgg, allPV, storeB, patchL, Int.reduceToNat, Nat.reduceMul, Nat.reduceLT, stepA, Int.reduceNeg, Int.reduceLE, Int.reduceLT, Int.reduceEq, extractV, mkAgg, Nat.reduceLeDiff, fillA, pureVs, pureV, eqV, eqB, lenV, binV, intBin, intV, idxA, List.drop, List.take, RetP, retP, resV, resOne, snapV, snapVs, snapR, snapRs, ownSz, pickV, AO.isC, opE, opD, funV, snapP, stateP, kn.call, restR, errC, vecP, vecC, vec0, codeE]
  | some n =>
    rw [ho] at kn
    simp only [nodeR, nodeC] at kn
    cases hu : useO t.pods id with
    | none =>
      rw [hu] at ku
      simp only [vecR, vecP, vecC, vec0, codeE] at ku
      simp only [f220, runL, opQ, evOp, evO, evOs, guardV, argsA, pvs, putS, cellsOf, scals, scal, Nat.reduceEqDiff, Nat.reduceAdd, reduceCtorEq, fieldA, nonNil, cellsAt, mkAgg, allPV, storeB, patchL, Int.reduceToNat, Nat.reduceMul, Nat.reduceLT, stepA, Int.reduceNeg, Int.reduceLE, Int.reduceLT, Int.reduceEq, extractV, mkAgg, Nat.reduceLeDiff, fillA, pureVs, pureV, eqV, eqB, lenV, binV, intBin, intV, idxA, List.drop, List.take, RetP, retP, resV, resOne, snapV, snapVs, snapR, snapRs, ownSz, pickV, AO.isC, opE, opD, funV, snapP, stateP, kn.call, ku.call, restR, errC, vecP, vecC, vec0, codeE]
    | some u =>
      rw [hu] at ku
      simp only [vecR, vecP, vecC] at ku
      have k1 := sub_ok S.h258 S.v.h261 S.h259 n.cap n.held
      simp only [vecP, vecC] at k1
      cases h1 : subV' n.cap n.held with
      | none =>
        rw [h1] at k1
        simp only [vecR, vecP, vecC, vec0, codeE] at k1
        simp only [f220, runL, opQ, evOp, evO, evOs, guardV, argsA, pvs, putS, cellsOf, scals, scal, Nat.reduceEqDiff, Nat.reduceAdd, reduceCtorEq, fieldA, nonNil, cellsAt, mkAgg, allPV, storeB, patchL, Int.reduceToNat, Nat.reduceMul, Nat.reduceLT, stepA, Int.reduceNeg, Int.reduceLE, Int.reduceLT, Int.reduceEq, extractV, mkAgg, Nat.reduceLeDiff, fillA, pureVs, pureV, eqV, eqB, lenV, binV, intBin, intV, idxA, List.drop, List.take, RetP, retP, resV, resOne, snapV, snapVs, snapR, snapRs, ownSz, pickV, AO.isC, opE, opD, funV, snapP, stateP, kn.call, ku.call, k1.call, h1, restR, errC, vecP, vecC, vec0, codeE]
      | some f =>
        rw [h1] at k1
        simp only [vecR, vecP, vecC] at k1
        have k2 := sub_ok S.h258 S.v.h261 S.h259 f u
        simp only [vecP, vecC] at k2
        cases h2 : subV' f u with
        | none =>
          rw [h2] at k2
          simp only [vecR, vecP, vecC, vec0, codeE] at k2
          simp only [f220, runL, opQ, evOp, evO, evOs, guardV, argsA, pvs, putS, cellsOf, scals, scal, Nat.reduceEqDiff, Nat.reduceAdd, reduceCtorEq, fieldA, nonNil, cellsAt, mkAgg, allPV, storeB, patchL, Int.reduceToNat, Nat.reduceMul, Nat.reduceLT, stepA, Int.reduceNeg, Int.reduceLE, Int.reduceLT, Int.reduceEq, extractV, mkAgg, Nat.reduceLeDiff, fillA, pureVs, pureV, eqV, eqB, lenV, binV, intBin, intV, idxA, List.drop, List.take, RetP, retP, resV, resOne, snapV, snapVs, snapR, snapRs, ownSz, pickV, AO.isC, opE, opD, funV, snapP, stateP, kn.call, ku.call, k1.call, k2.call, h1, h2, restR, errC, vecP, vecC, vec0, codeE]
        | some r =>
          rw [h2] at k2
          simp only [vecR, vecP, vecC] at k2
          simp only [f220, runL, opQ, evOp, evO, evOs, guardV, argsA, pvs, putS, cellsOf, scals, scal, Nat.reduceEqDiff, Nat.reduceAdd, reduceCtorEq, fieldA, nonNil, cellsAt, mkAgg, allPV, storeB, patchL, Int.reduceToNat, Nat.reduceMul, Nat.reduceLT, stepA, Int.reduceNeg, Int.reduceLE, Int.reduceLT, Int.reduceEq, extractV, mkAgg, Nat.reduceLeDiff, fillA, pureVs, pureV, eqV, eqB, lenV, binV, intBin, intV, idxA, List.drop, List.take, RetP, retP, resV, resOne, snapV, snapVs, snapR, snapRs, ownSz, pickV, AO.isC, opE, opD, funV, snapP, stateP, kn.call, ku.call, k1.call, k2.call, h1, h2, restR, errC, vecP, vecC, vec0, codeE]
theorem restC_range (s : Snap) (pods : List Pod) (id : Int) : (restC s pods id).1 = 0 ∨ ((restC s pods id).1 ≠ 0 ∧ 1 ≤ (restC s pods id).1 ∧ (restC s pods id).1 ≤ 17) := by
  unfold restC
  repeat' split
  all_goals simp
def roomFrom (s : Snap) (pods : List Pod) : Nat → List Node → Option (Int × Int)
  | _, [] => none
  | i, n :: r => if (restC s pods n.id).1 = 0 then roomFrom s pods (i + 1) r else some ((restC s pods n.id).1, i)
set_option maxRecDepth 100000 in
set_option maxHeartbeats 4000000 in
theorem room_loop (S : Std6 T) (h219 : Std T 219 f219) (h266 : StdA T 266) (s : Snap) (t : State) (hn : s.nodes.length ≤ 2 ^ 30) (hl : t.pods.length ≤ 2 ^ 30) (hw : ∀ p ∈ t.pods, p.wf) (Q : Exit → St → Prop) (o : Option (Int × Int))
    (hend : o = none → ∀ fr hp nx, Q (.exit 0) ⟨fr, hp, nx⟩)
    (hret : ∀ c i, o = some (c, i) → ∀ fr hp nx id, look fr 4 = .iface 1 (.ptr id 0 0) → blkAt hp id = .var [.pv (.int .i64 i), .pv (.int .i64 c)] → Q .ret ⟨fr, hp, nx⟩) :
    ∀ (rest : List Node) (i : Nat), s.nodes.drop i = rest → i ≤ s.nodes.length → roomFrom s t.pods i rest = o → ∀ (fr : List (Nat × AV)) (hp : Hl) (nx : Nat), 2 ≤ nx →
      look fr 2 = .ptr 0 0 0 → blkAt hp 0 = .var [.pv (.slice (s.nodes.map nodeC)), .pv (.slice (s.loads.map loadC)), .pv (.slice (s.pods.map podC))] →
      look fr 3 = .ptr 1 0 0 → blkAt hp 1 = .var [.pv (.slice (t.pods.map podC)), .pv (.int .i64 t.pre), .pv (.int .i64 t.shi)] →
      look fr 11 = .pv (.slice (s.nodes.map nodeC)) → look fr 12 = .pv (.int .i64 s.nodes.length) → look fr 13 = .pv (.int .i64 i) → Wp T false (.loop f219l0) ⟨fr, hp, nx⟩ Q := by
  intro rest
  induction rest with
  | nil =>
    intro i hd hi ho fr hp nx hnx h2 b0 h3 b1 h11 h12 h13
    have hlen := drop_nil hd hi
    rw [Wp_loop, Wp_eq f219l0.eq_1]
    simp only [runL, opQ, evOp, evO, evOs, guardV, argsA, pvs, putS, cellsOf, scals, scal, Nat.reduceEqDiff, Nat.reduceAdd, reduceCtorEq, fieldA, nonNil, cellsAt, mkAgg, allPV, storeB, patchL, Int.reduceToNat, Nat.reduceMul, Nat.reduceLT, stepA, Int.reduceNeg, Int.reduceLE, Int.reduceLT, Int.reduceEq, extractV, mkAgg, Nat.reduceLeDiff, fillA, pureVs, pureV, eqV, eqB, lenV, binV, intBin, intV, idxA, List.drop, List.take, RetP, retP, resV, resOne, snapV, snapVs, snapR, snapRs, ownSz, pickV, AO.isC, opE, opD, funV, h11, h12, h13, hlen, Int.lt_irrefl]
    exact hend ho.symm _ _ _
  | cons n r ih =>
    intro i hd hi ho fr hp nx hnx h2 b0 h3 b1 h11 h12 h13
    obtain ⟨hget, hlt, hwi, hd', hi', hb⟩ := drop_cons hd hn
    have n0 : ¬ nx = 0 := by omega
    have n1 : ¬ nx = 1 := by omega
    have m0 : ¬ nx + 1 = 0 := by omega
    have m1 : ¬ nx + 1 = 1 := by omega
    have k := rest_ok S s t n.id hn hl hw
    simp only [snapP, stateP, restR, vecP, vecC] at k
    simp only [roomFrom] at ho
    rw [Wp_loop, Wp_eq f219l0.eq_1]
    rcases restC_range s t.pods n.id with hc | ⟨hc, _, _⟩
    · rw [if_pos hc] at ho
      simp only [errC, hc, if_true] at k
      simp only [runL, opQ, evOp, evO, evOs, guardV, argsA, pvs, putS, cellsOf, scals, scal, Nat.reduceEqDiff, Nat.reduceAdd, reduceCtorEq, fieldA, nonNil, cellsAt, mkAgg, allPV, storeB, patchL, Int.reduceToNat, Nat.reduceMul, Nat.reduceLT, stepA, Int.reduceNeg, Int.reduceLE, Int.reduceLT, Int.reduceEq, extractV, mkAgg, Nat.reduceLeDiff, fillA, pureVs, pureV, eqV, eqB, lenV, binV, intBin, intV, idxA, List.drop, List.take, RetP, retP, resV, resOne, snapV, snapVs, snapR, snapRs, ownSz, pickV, AO.isC, opE, opD, funV, h2, b0, h3, b1, h11, h12, h13, hlt, hget, nodeC, n0, n1, k.call, as_nilQ h266, hwi]
      refine ih (i + 1) hd' hi' ho _ _ _ ?_ ?_ ?_ ?_ ?_ ?_ ?_ ?_
      all_goals try simp only [look_if, blkAt_if, Nat.reduceEqDiff, if_true, if_false, h2, b0, h3, b1, n0, n1, m0, m1, h11, h12]
      all_goals first | omega | skip
    · rw [if_neg hc] at ho
      simp only [errC, hc, if_false, codeE] at k
      simp only [runL, opQ, evOp, evO, evOs, guardV, argsA, pvs, putS, cellsOf, scals, scal, Nat.reduceEqDiff, Nat.reduceAdd, reduceCtorEq, fieldA, nonNil, cellsAt, mkAgg, allPV, storeB, patchL, Int.reduceToNat, Nat.reduceMul, Nat.reduceLT, stepA, Int.reduceNeg, Int.reduceLE, Int.reduceLT, Int.reduceEq, extractV, mkAgg, Nat.reduceLeDiff, fillA, pureVs, pureV, eqV, eqB, lenV, binV, intBin, intV, idxA, List.drop, List.take, RetP, retP, resV, resOne, snapV, snapVs, snapR, snapRs, ownSz, pickV, AO.isC, opE, opD, funV, h2, b0, h3, b1, h11, h12, h13, hlt, hget, nodeC, n0, n1, k.call]
      refine (as_codeQ h266 (o := 0) ?_).2 ?_
      · simp only [runL, opQ, evOp, evO, evOs, guardV, argsA, pvs, putS, cellsOf, scals, scal, Nat.reduceEqDiff, Nat.reduceAdd, reduceCtorEq, fieldA, nonNil, cellsAt, mkAgg, allPV, storeB, patchL, Int.reduceToNat, Nat.reduceMul, Nat.reduceLT, stepA, Int.reduceNeg, Int.reduceLE, Int.reduceLT, Int.reduceEq, extractV, mkAgg, Nat.reduceLeDiff, fillA, pureVs, pureV, eqV, eqB, lenV, binV, intBin, intV, idxA, List.drop, List.take, RetP, retP, resV, resOne, snapV, snapVs, snapR, snapRs, ownSz, pickV, AO.isC, opE, opD, funV]
      · simp only [runL, opQ, evOp, evO, evOs, guardV, argsA, pvs, putS, cellsOf, scals, scal, Nat.reduceEqDiff, Nat.reduceAdd, reduceCtorEq, fieldA, nonNil, cellsAt, mkAgg, allPV, storeB, patchL, Int.reduceToNat, Nat.reduceMul, Nat.reduceLT, stepA, Int.reduceNeg, Int.reduceLE, Int.reduceLT, Int.reduceEq, extractV, mkAgg, Nat.reduceLeDiff, fillA, pureVs, pureV, eqV, eqB, lenV, binV, intBin, intV, idxA, List.drop, List.take, RetP, retP, resV, resOne, snapV, snapVs, snapR, snapRs, ownSz, pickV, AO.isC, opE, opD, funV, h2, b0, h3, b1, h11, h12, h13]
        refine hret _ _ ho.symm _ _ _ (nx + 1 + 1 + 1) ?_ ?_
        all_goals simp only [look_if, blkAt_if, Nat.reduceEqDiff, if_true, if_false]
theorem room_ok (S : Std6 T) (h219 : Std T 219 f219) (h266 : StdA T 266) (s : Snap) (t : State) (hn : s.nodes.length ≤ 2 ^ 30) (hl : t.pods.length ≤ 2 ^ 30) (hw : ∀ p ∈ t.pods, p.wf) : Gives T 219 [snapP s, stateP t] (errO (roomFrom s t.pods 0 s.nodes)) := by
  refine gives h219 rfl ?_
  simp only [f219, runL, opQ, evOp, evO, evOs, guardV, argsA, pvs, putS, cellsOf, scals, scal, Nat.reduceEqDiff, Nat.reduceAdd, reduceCtorEq, fieldA, nonNil, cellsAt, mkAgg, allPV, storeB, patchL, Int.reduceToNat, Nat.reduceMul, Nat.reduceLT, stepA, Int.reduceNeg, Int.reduceLE, Int.reduceLT, Int.reduceEq, extractV, mkAgg, Nat.reduceLeDiff, fillA, pureVs, pureV, eqV, eqB, lenV, binV, intBin, intV, idxA, List.drop, List.take, RetP, retP, resV, resOne, snapV, snapVs, snapR, snapRs, ownSz, pickV, AO.isC, opE, opD, funV, snapP, stateP]
  refine room_loop S h219 h266 s t hn hl hw _ (roomFrom s t.pods 0 s.nodes) (fun ho fr hp nx => ?_) (fun c i ho fr hp nx id h4 hb => ?_) s.nodes 0 rfl (Nat.zero_le _) rfl _ _ _ (Nat.le_refl _) rfl rfl rfl rfl rfl rfl rfl
  · simp only [runL, opQ, evOp, evO, evOs, guardV, argsA, pvs, putS, cellsOf, scals, scal, Nat.reduceEqDiff, Nat.reduceAdd, reduceCtorEq, fieldA, nonNil, cellsAt, mkAgg, allPV, storeB, patchL, Int.reduceToNat, Nat.reduceMul, Nat.reduceLT, stepA, Int.reduceNeg, Int.reduceLE, Int.reduceLT, Int.reduceEq, extractV, mkAgg, Nat.reduceLeDiff, fillA, pureVs, pureV, eqV, eqB, lenV, binV, intBin, intV, idxA, List.drop, List.take, RetP, retP, resV, resOne, snapV, snapVs, snapR, snapRs, ownSz, pickV, AO.isC, opE, opD, funV, ho, errO]
  · simp only [runL, opQ, evOp, evO, evOs, guardV, argsA, pvs, putS, cellsOf, scals, scal, Nat.reduceEqDiff, Nat.reduceAdd, reduceCtorEq, fieldA, nonNil, cellsAt, mkAgg, allPV, storeB, patchL, Int.reduceToNat, Nat.reduceMul, Nat.reduceLT, stepA, Int.reduceNeg, Int.reduceLE, Int.reduceLT, Int.reduceEq, extractV, mkAgg, Nat.reduceLeDiff, fillA, pureVs, pureV, eqV, eqB, lenV, binV, intBin, intV, idxA, List.drop, List.take, RetP, retP, resV, resOne, snapV, snapVs, snapR, snapRs, ownSz, pickV, AO.isC, opE, opD, funV, ho, errO, h4, hb, spotE]
end
end Go.Proofs.YtlfphlobcopemaaDoor.Ab
set_option linter.unusedVariables false
namespace Go.Proofs.YtlfphlobcopemaaDoor.Ab
open Go
def f104 : AFunc := ⟨18, [.t 2, .t 3],
 (.seq (.ops [
   ⟨some 2, .mv (.c (.pv (.int .i64 0))), none, []⟩,
   ⟨some 3, .mv (.c (.pv (.int .i64 0))), none, [0]⟩])
  (.seq (.ops [
   ⟨some 4, .alloc [(.pv .nilp)], none, []⟩])
  (.seq (.seq (.ops [
   ⟨some 5, .mv (.t 0), none, []⟩,
   ⟨some 6, .mkI 2 (.t 4), none, []⟩,
   ⟨some 7, .call 266 [(.t 5), (.t 6)], none, [0, 1]⟩])
  (.cond (.t 7)
   (.seq (.draw [
     ⟨some 8, .load false 1 (.t 4), none, []⟩,
     ⟨some 9, .nilchk (.t 8), none, [0]⟩,
     ⟨some 10, .fieldAddr 1 (.t 9), none, [1]⟩,
     ⟨some 11, .load false 1 (.t 10), none, [2]⟩,
     ⟨some 12, .load false 1 (.t 4), none, []⟩,
     ⟨some 13, .nilchk (.t 12), none, [4]⟩,
     ⟨some 14, .fieldAddr 0 (.t 13), none, [5]⟩,
     ⟨some 15, .load false 1 (.t 14), none, [6]⟩,
     ⟨some 2, .mv (.t 11), none, [3, 0, 1, 2, 3]⟩,
     ⟨some 3, .mv (.t 15), none, [7, 8, 0, 1, 2, 3, 4, 5, 6, 7, 8]⟩])
    .ret)
   .skip))
  (.seq (.ops [
   ⟨some 16, .mv (.t 0), none, []⟩,
   ⟨some 17, .call 102 [(.t 16)], none, [0]⟩,
   ⟨some 2, .mv (.t 17), none, [1, 1, 0, 1]⟩,
   ⟨some 3, .mv (.c (.pv (.int .i64 (-1)))), none, [2, 0, 1, 2]⟩])
  .ret))))⟩
def f222 : AFunc := ⟨12, [.t 6],
 (.seq (.ops [
   ⟨some 3, .box (.t 0), none, []⟩,
   ⟨some 4, .box (.t 1), none, []⟩,
   ⟨some 5, .box (.t 2), none, []⟩,
   ⟨some 6, .mv (.c (.pv (.bool false))), none, []⟩])
  (.seq (.ops [
   ⟨some 7, .load true 3 (.t 3), none, []⟩,
   ⟨some 8, .load true 3 (.t 4), none, []⟩,
   ⟨some 9, .load true 3 (.t 5), none, []⟩,
   ⟨some 10, .call 223 [(.t 7), (.t 8), (.t 9)], none, [0, 1, 2]⟩,
   ⟨some 11, .bin .eql (some (.iface true)) (.t 10) (.c (.pv .nili)), none, [3]⟩,
   ⟨some 6, .mv (.t 11), none, [4, 3, 0, 1, 2, 3, 4]⟩])
  .ret))⟩
def f223l0 : ACode :=
 (.seq (.ops [
   ⟨some 15, .bin .lss none (.t 14) (.c (.pv (.int .i64 5))), none, []⟩])
  (.seq (.cond (.t 15)
   .skip
   (.exit 0))
  (.seq (.block 1
   (.seq (.ops [
     ⟨some 16, .idxV false 5 1 (.t 13) (.t 14), none, []⟩,
     ⟨some 8, .mv (.t 16), none, [0, 0]⟩])
    (.seq (.ops [
     ⟨some 17, .mv (.t 8), none, []⟩,
     ⟨some 18, .callv (.t 17) [], none, [0]⟩,
     ⟨some 9, .mv (.t 18), none, [1, 1, 0, 1]⟩])
    (.seq (.ops [
     ⟨some 19, .mv (.t 9), none, []⟩,
     ⟨some 20, .bin .neq (some (.iface true)) (.t 19) (.c (.pv .nili)), none, [0]⟩])
    (.cond (.t 20)
     (.seq (.ops [
       ⟨some 21, .mv (.t 9), none, []⟩,
       ⟨some 6, .mv (.t 21), none, [0, 0]⟩])
      .ret)
     .skip)))))
  (.ops [
   ⟨some 22, .bin .add none (.t 14) (.c (.pv (.int .i64 1))), none, []⟩,
   ⟨some 14, .mv (.t 22), none, [0]⟩]))))
def f223 : AFunc := ⟨23, [.t 6],
 (.seq (.ops [
   ⟨some 3, .box (.t 0), none, []⟩,
   ⟨some 4, .box (.t 1), none, []⟩,
   ⟨some 5, .box (.t 2), none, []⟩,
   ⟨some 6, .mv (.c (.pv .nili)), none, []⟩])
  (.seq (.seq (.ops [
   ⟨some 10, .load true 3 (.t 3), none, []⟩,
   ⟨some 11, .load true 3 (.t 4), none, []⟩,
   ⟨some 12, .load true 3 (.t 5), none, []⟩,
   ⟨some 13, .call 224 [(.t 10), (.t 11), (.t 12)], none, [0, 1, 2]⟩,
   ⟨some 14, .mv (.c (.pv (.int .i64 0))), none, []⟩])
  (.block 0
   (.loop f223l0)))
  (.seq (.ops [
   ⟨some 6, .mv (.c (.pv .nili)), none, []⟩])
  .ret)))⟩
def f224 : AFunc := ⟨13, [.cell 6 true 5],
 (.seq (.ops [
   ⟨some 3, .box (.t 0), none, []⟩,
   ⟨some 4, .box (.t 1), none, []⟩,
   ⟨some 5, .box (.t 2), none, []⟩,
   ⟨some 6, .alloc [(.pv .nilf), (.pv .nilf), (.pv .nilf), (.pv .nilf), (.pv .nilf)], none, []⟩])
  (.seq (.ops [
   ⟨some 7, .mkF 225 [] [(.t 3), (.t 5)], none, []⟩,
   ⟨some 8, .mkF 226 [] [(.t 3), (.t 5)], none, []⟩,
   ⟨some 9, .mkF 227 [] [(.t 3), (.t 5)], none, []⟩,
   ⟨some 10, .mkF 228 [] [(.t 3), (.t 5)], none, []⟩,
   ⟨some 11, .mkF 229 [] [(.t 4), (.t 5)], none, []⟩,
   ⟨some 12, .build [(.pv .nilf), (.pv .nilf), (.pv .nilf), (.pv .nilf), (.pv .nilf)] [(0, 1, (.t 7)), (1, 1, (.t 8)), (2, 1, (.t 9)), (3, 1, (.t 10)), (4, 1, (.t 11))], none, [0, 1, 2, 3, 4]⟩,
   ⟨none, .store 5 (.t 6) (.t 12), none, [5, 0, 1, 2, 3, 4, 5]⟩])
  .ret))⟩
def f225 : AFunc := ⟨6, [.t 2],
 (.seq (.ops [
   ⟨some 2, .mv (.c (.pv .nili)), none, []⟩])
  (.seq (.ops [
   ⟨some 3, .load true 3 (.t 0), none, []⟩,
   ⟨some 4, .load true 3 (.t 1), none, []⟩,
   ⟨some 5, .call 219 [(.t 3), (.t 4)], none, [0, 1]⟩,
   ⟨some 2, .mv (.t 5), none, [2, 2, 0, 1, 2]⟩])
  .ret))⟩
def f226 : AFunc := ⟨6, [.t 2],
 (.seq (.ops [
   ⟨some 2, .mv (.c (.pv .nili)), none, []⟩])
  (.seq (.ops [
   ⟨some 3, .load true 3 (.t 0), none, []⟩,
   ⟨some 4, .load true 3 (.t 1), none, []⟩,
   ⟨some 5, .call 68 [(.t 3), (.t 4)], none, [0, 1]⟩,
   ⟨some 2, .mv (.t 5), none, [2, 2, 0, 1, 2]⟩])
  .ret))⟩
def f227 : AFunc := ⟨6, [.t 2],
 (.seq (.ops [
   ⟨some 2, .mv (.c (.pv .nili)), none, []⟩])
  (.seq (.ops [
   ⟨some 3, .load true 3 (.t 0), none, []⟩,
   ⟨some 4, .load true 3 (.t 1), none, []⟩,
   ⟨some 5, .call 234 [(.t 3), (.t 4)], none, [0, 1]⟩,
   ⟨some 2, .mv (.t 5), none, [2, 2, 0, 1, 2]⟩])
  .ret))⟩
def f228 : AFunc := ⟨6, [.t 2],
 (.seq (.ops [
   ⟨some 2, .mv (.c (.pv .nili)), none, []⟩])
  (.seq (.ops [
   ⟨some 3, .load true 3 (.t 0), none, []⟩,
   ⟨some 4, .load true 3 (.t 1), none, []⟩,
   ⟨some 5, .call 70 [(.t 3), (.t 4)], none, [0, 1]⟩,
   ⟨some 2, .mv (.t 5), none, [2, 2, 0, 1, 2]⟩])
  .ret))⟩
def f229 : AFunc := ⟨6, [.t 2],
 (.seq (.ops [
   ⟨some 2, .mv (.c (.pv .nili)), none, []⟩])
  (.seq (.ops [
   ⟨some 3, .load true 3 (.t 0), none, []⟩,
   ⟨some 4, .load true 3 (.t 1), none, []⟩,
   ⟨some 5, .call 72 [(.t 3), (.t 4)], none, [0, 1]⟩,
   ⟨some 2, .mv (.t 5), none, [2, 2, 0, 1, 2]⟩])
  .ret))⟩
def f358 : AFunc := ⟨64, [.t 6],
 (.seq (.ops [
   ⟨some 3, .box (.t 0), none, []⟩,
   ⟨some 4, .box (.t 1), none, []⟩,
   ⟨some 5, .box (.t 2), none, []⟩,
   ⟨some 6, .mv (.c (.pv (.bool false))), none, []⟩])
  (.seq (.ops [
   ⟨some 12, .call 360 [], none, []⟩,
   ⟨some 7, .mv (.t 12), none, [0, 0, 0]⟩])
  (.seq (.ops [
   ⟨some 13, .load true 3 (.t 3), none, []⟩,
   ⟨some 14, .load true 3 (.t 4), none, []⟩,
   ⟨some 15, .load true 3 (.t 5), none, []⟩,
   ⟨some 16, .call 163 [(.t 13), (.t 14), (.t 15)], none, [0, 1, 2]⟩,
   ⟨some 8, .mv (.t 16), none, [3, 3, 0, 1, 2, 3]⟩])
  (.seq (.seq (.ops [
   ⟨some 17, .mv (.t 8), none, []⟩,
   ⟨some 18, .not (.t 17), none, [0]⟩])
  (.cond (.t 18)
   (.seq (.ops [
     ⟨some 19, .mv (.t 7), none, []⟩,
     ⟨some 6, .mv (.t 19), none, [0, 0]⟩])
    .ret)
   .skip))
  (.seq (.ops [
   ⟨some 20, .load true 3 (.t 3), none, []⟩,
   ⟨some 21, .load true 3 (.t 4), none, []⟩,
   ⟨some 22, .load true 3 (.t 5), none, []⟩,
   ⟨some 23, .call 361 [(.t 20), (.t 21), (.t 22)], none, [0, 1, 2]⟩,
   ⟨some 9, .mv (.t 23), none, [3, 3, 0, 1, 2, 3]⟩])
  (.seq (.ops [
   ⟨some 25, .load true 3 (.t 3), none, []⟩,
   ⟨some 26, .load true 3 (.t 4), none, []⟩,
   ⟨some 27, .load true 3 (.t 5), none, []⟩,
   ⟨some 28, .call 223 [(.t 25), (.t 26), (.t 27)], none, [0, 1, 2]⟩,
   ⟨some 29, .call 104 [(.t 28)], none, [3, 3]⟩,
   ⟨some 24, .mv (.t 29), none, [4]⟩,
   ⟨some 30, .extract (.t 24) 0, none, [5]⟩,
   ⟨some 31, .extract (.t 24) 1, none, [5]⟩,
   ⟨some 10, .mv (.t 30), none, [6, 4, 0, 1, 2, 3, 4, 5, 6]⟩,
   ⟨some 11, .mv (.t 31), none, [7, 8, 0, 1, 2, 3, 4, 5, 6, 7, 8]⟩])
  (.seq (.seq (.ops [
   ⟨some 32, .mv (.t 9), none, []⟩,
   ⟨some 33, .len (.t 32), none, [0]⟩,
   ⟨some 34, .bin .eql none (.t 33) (.c (.pv (.int .i64 0))), none, [1]⟩])
  (.cond (.t 34)
   (.seq (.ops [
     ⟨some 35, .mv (.t 7), none, []⟩,
     ⟨some 36, .mv (.t 35), none, [0]⟩,
     ⟨some 37, .load true 3 (.t 3), some (36, true), [1]⟩,
     ⟨some 38, .load true 3 (.t 4), some (36, true), [1]⟩,
     ⟨some 39, .load true 3 (.t 5), some (36, true), [1]⟩,
     ⟨some 40, .call 222 [(.t 37), (.t 38), (.t 39)], some (36, true), [2, 3, 4, 1, 1]⟩,
     ⟨some 41, .pick (.t 36) (.t 40) (.c (.pv (.bool false))), none, [1, 5]⟩,
     ⟨some 42, .mv (.t 41), none, [6, 5]⟩,
     ⟨some 43, .load true 3 (.t 3), some (42, true), [7]⟩,
     ⟨some 44, .load true 3 (.t 4), some (42, true), [7]⟩,
     ⟨some 45, .load true 3 (.t 5), some (42, true), [7]⟩,
     ⟨some 46, .call 223 [(.t 43), (.t 44), (.t 45)], some (42, true), [8, 9, 10, 7, 7]⟩,
     ⟨some 47, .bin .eql (some (.iface true)) (.t 46) (.c (.pv .nili)), some (42, true), [11, 7]⟩,
     ⟨some 48, .pick (.t 42) (.t 47) (.c (.pv (.bool false))), none, [7, 12]⟩,
     ⟨some 6, .mv (.t 48), none, [13, 11, 0, 1, 2, 3, 4, 5, 6, 7, 8, 9, 10, 11, 12, 13]⟩])
    .ret)
   .skip))
  (.seq (.ops [
   ⟨some 49, .mv (.t 7), none, []⟩,
   ⟨some 50, .mv (.t 49), none, [0]⟩,
   ⟨some 51, .load true 3 (.t 3), some (50, true), [1]⟩,
   ⟨some 52, .load true 3 (.t 4), some (50, true), [1]⟩,
   ⟨some 53, .load true 3 (.t 5), some (50, true), [1]⟩,
   ⟨some 54, .call 222 [(.t 51), (.t 52), (.t 53)], some (50, true), [2, 3, 4, 1, 1]⟩,
   ⟨some 55, .not (.t 54), some (50, true), [5, 1]⟩,
   ⟨some 56, .pick (.t 50) (.t 55) (.c (.pv (.bool false))), none, [1, 6]⟩,
   ⟨some 57, .mv (.t 56), none, [7, 5]⟩,
   ⟨some 58, .mv (.t 9), some (57, true), [8]⟩,
   ⟨some 59, .idxAddr 1 (.t 58) (.c (.pv (.int .i64 0))), some (57, true), [9, 8]⟩,
   ⟨some 60, .load false 1 (.t 59), some (57, true), [10, 8]⟩,
   ⟨some 61, .mv (.t 10), some (57, true), [8]⟩,
   ⟨some 62, .bin .eql none (.t 60) (.t 61), some (57, true), [11, 12, 8]⟩,
   ⟨some 63, .pick (.t 57) (.t 62) (.c (.pv (.bool false))), none, [8, 13]⟩,
   ⟨some 6, .mv (.t 63), none, [14, 8, 0, 1, 2, 3, 4, 5, 6, 7, 8, 9, 10, 11, 12, 13, 14]⟩])
  .ret))))))))⟩
def f360 : AFunc := ⟨31, [.t 0],
 (.seq (.ops [
   ⟨some 0, .mv (.c (.pv (.bool false))), none, []⟩])
  (.seq (.ops [
   ⟨some 3, .build [(.pv (.int .i64 0)), (.pv (.bool false)), (.pv (.int .i64 0)), (.pv (.int .i64 0)), (.pv (.int .i64 0))] [(0, 1, (.c (.pv (.int .i64 2)))), (3, 1, (.c (.pv (.int .i64 1)))), (4, 1, (.c (.pv (.int .i64 1))))], none, []⟩,
   ⟨some 4, .bslice 5 1 [(.pv (.int .i64 0)), (.pv (.bool false)), (.pv (.int .i64 0)), (.pv (.int .i64 0)), (.pv (.int .i64 0))] [(0, 5, (.t 3))], none, [0]⟩,
   ⟨some 5, .build [.nils, .nils, .nils] [(1, 1, (.t 4))], none, [1]⟩,
   ⟨some 1, .alloc [.nils, .nils, .nils], none, []⟩,
   ⟨none, .store 3 (.t 1) (.t 5), none, [3, 2, 0, 1, 2, 3]⟩])
  (.seq (.ops [
   ⟨some 6, .load true 3 (.t 1), none, []⟩,
   ⟨some 7, .build [.nils, (.pv (.int .i64 0)), (.pv (.int .i64 0))] [], none, []⟩,
   ⟨some 8, .build [.nils, (.pv (.int .i64 0)), (.pv (.int .i64 0))] [(2, 1, (.c (.pv (.int .i64 1))))], none, []⟩,
   ⟨some 9, .call 361 [(.t 6), (.t 7), (.t 8)], none, [0, 1, 2]⟩,
   ⟨some 2, .mv (.t 9), none, [3, 3, 0, 1, 2, 3]⟩])
  (.seq (.ops [
   ⟨some 10, .build [.nils, .nils, .nils] [], none, []⟩,
   ⟨some 11, .build [.nils, (.pv (.int .i64 0)), (.pv (.int .i64 0))] [], none, []⟩,
   ⟨some 12, .build [.nils, (.pv (.int .i64 0)), (.pv (.int .i64 0))] [], none, []⟩,
   ⟨some 13, .call 222 [(.t 10), (.t 11), (.t 12)], none, [0, 1, 2]⟩,
   ⟨some 14, .mv (.t 13), none, [3, 3]⟩,
   ⟨some 15, .mv (.t 2), some (14, true), [4]⟩,
   ⟨some 16, .len (.t 15), some (14, true), [5, 4]⟩,
   ⟨some 17, .bin .eql none (.t 16) (.c (.pv (.int .i64 2))), some (14, true), [6, 4]⟩,
   ⟨some 18, .pick (.t 14) (.t 17) (.c (.pv (.bool false))), none, [4, 7]⟩,
   ⟨some 19, .mv (.t 18), none, [8, 4]⟩,
   ⟨some 20, .mv (.t 2), some (19, true), [9]⟩,
   ⟨some 21, .idxAddr 1 (.t 20) (.c (.pv (.int .i64 0))), some (19, true), [10, 9]⟩,
   ⟨some 22, .load false 1 (.t 21), some (19, true), [11, 9]⟩,
   ⟨some 23, .bin .eql none (.t 22) (.c (.pv (.int .i64 12))), some (19, true), [12, 9]⟩,
   ⟨some 24, .pick (.t 19) (.t 23) (.c (.pv (.bool false))), none, [9, 13]⟩,
   ⟨some 25, .mv (.t 24), none, [14, 9]⟩,
   ⟨some 26, .mv (.t 2), some (25, true), [15]⟩,
   ⟨some 27, .idxAddr 1 (.t 26) (.c (.pv (.int .i64 1))), some (25, true), [16, 15]⟩,
   ⟨some 28, .load false 1 (.t 27), some (25, true), [17, 15]⟩,
   ⟨some 29, .bin .eql none (.t 28) (.c (.pv (.int .i64 15))), some (25, true), [18, 15]⟩,
   ⟨some 30, .pick (.t 25) (.t 29) (.c (.pv (.bool false))), none, [15, 19]⟩,
   ⟨some 0, .mv (.t 30), none, [20, 15, 0, 1, 2, 3, 4, 5, 6, 7, 8, 9, 10, 11, 12, 13, 14, 15, 16, 17, 18, 19, 20]⟩])
  .ret))))⟩
def f361l0 : ACode :=
 (.seq (.ops [
   ⟨some 16, .bin .lss none (.t 15) (.c (.pv (.int .i64 5))), none, []⟩])
  (.seq (.cond (.t 16)
   .skip
   (.exit 0))
  (.seq (.block 1
   (.seq (.ops [
     ⟨some 17, .idxV false 5 1 (.t 14) (.t 15), none, []⟩,
     ⟨some 9, .mv (.t 17), none, [0, 0]⟩])
    (.seq (.ops [
     ⟨some 10, .alloc [(.pv (.int .i64 0))], none, []⟩])
    (.seq (.ops [
     ⟨some 18, .mv (.t 9), none, []⟩,
     ⟨some 19, .callv (.t 18) [], none, [0]⟩,
     ⟨some 20, .mkI 3 (.t 10), none, []⟩,
     ⟨some 21, .call 266 [(.t 19), (.t 20)], none, [1, 2, 1]⟩])
    (.cond (.t 21)
     (.ops [
       ⟨some 22, .mv (.t 7), none, []⟩,
       ⟨some 23, .load false 1 (.t 10), none, []⟩,
       ⟨some 24, .bslice 1 1 [(.pv (.int .i64 0))] [(0, 1, (.t 23))], none, [1]⟩,
       ⟨some 25, .append 1 8 (.t 22) (.t 24), none, [0, 2]⟩,
       ⟨some 7, .mv (.t 25), none, [3, 3, 0, 1, 2, 3]⟩])
     .skip)))))
  (.ops [
   ⟨some 26, .bin .add none (.t 15) (.c (.pv (.int .i64 1))), none, []⟩,
   ⟨some 15, .mv (.t 26), none, [0]⟩]))))
def f361 : AFunc := ⟨28, [.t 6],
 (.seq (.ops [
   ⟨some 3, .box (.t 0), none, []⟩,
   ⟨some 4, .box (.t 1), none, []⟩,
   ⟨some 5, .box (.t 2), none, []⟩,
   ⟨some 6, .mv (.c .nils), none, []⟩])
  (.seq (.ops [
   ⟨some 7, .mv (.c .nils), none, []⟩])
  (.seq (.seq (.ops [
   ⟨some 11, .load true 3 (.t 3), none, []⟩,
   ⟨some 12, .load true 3 (.t 4), none, []⟩,
   ⟨some 13, .load true 3 (.t 5), none, []⟩,
   ⟨some 14, .call 224 [(.t 11), (.t 12), (.t 13)], none, [0, 1, 2]⟩,
   ⟨some 15, .mv (.c (.pv (.int .i64 0))), none, []⟩])
  (.block 0
   (.loop f361l0)))
  (.seq (.ops [
   ⟨some 27, .mv (.t 7), none, []⟩,
   ⟨some 6, .mv (.t 27), none, [0, 0]⟩])
  .ret))))⟩
end Go.Proofs.YtlfphlobcopemaaDoor.Ab
set_option linter.unusedVariables false
set_option linter.unusedSimpArgs false
namespace Go.Proofs.YtlfphlobcopemaaDoor.Ab
open Go
/-! ### The spread's Check -/
def spreadFrom (s : Snap) (pods : List Pod) : Nat → List Load → Option (Int × Int)
  | _, [] => none
  | i, l :: r => if 0 < l.skew ∧ l.skew < skewZ s l.id pods then some (11, i) else spreadFrom s pods (i + 1) r
section
variable {T : Tab}
theorem spread_loop (S : Std8 T) (s : Snap) (t : State) (hn : s.nodes.length ≤ 2 ^ 29) (hl : t.pods.length ≤ 2 ^ 29) (hll : s.loads.length ≤ 2 ^ 29) (Q : Exit → St → Prop) (o : Option (Int × Int))
    (hend : o = none → ∀ fr hp nx, Q (.exit 0) ⟨fr, hp, nx⟩)
    (hret : ∀ c i, o = some (c, i) → ∀ fr hp nx id, look fr 4 = .iface 1 (.ptr id 0 0) → blkAt hp id = .var [.pv (.int .i64 i), .pv (.int .i64 c)] → Q .ret ⟨fr, hp, nx⟩) :
    ∀ (rest : List Load) (i : Nat), s.loads.drop i = rest → i ≤ s.loads.length → spreadFrom s t.pods i rest = o → ∀ (fr : List (Nat × AV)) (hp : Hl) (nx : Nat), 2 ≤ nx →
      look fr 2 = .ptr 0 0 0 → look fr 3 = .ptr 1 0 0 → blkAt hp 0 = .var [.pv (.slice (s.nodes.map nodeC)), .pv (.slice (s.loads.map loadC)), .pv (.slice (s.pods.map podC))] →
      blkAt hp 1 = .var [.pv (.slice (t.pods.map podC)), .pv (.int .i64 t.pre), .pv (.int .i64 t.shi)] →
      look fr 8 = .pv (.slice (s.loads.map loadC)) → look fr 9 = .pv (.int .i64 s.loads.length) → look fr 10 = .pv (.int .i64 i) → Wp T false (.loop f234l0) ⟨fr, hp, nx⟩ Q := by
  intro rest
  induction rest with
  | nil =>
    intro i hd hi ho fr hp nx hnx h2 h3 b0 b1 h8 h9 h10
    have hlen := drop_nil hd hi
    rw [Wp_loop, Wp_eq f234l0.eq_1]
    simp only [runL, opQ, evOp, evO, evOs, guardV, argsA, pvs, putS, cellsOf, scals, scal, Nat.reduceEqDiff, Nat.reduceAdd, reduceCtorEq, fieldA, nonNil, cellsAt, mkAgg, allPV, storeB, patchL, Int.reduceToNat, Nat.reduceMul, Nat.reduceLT, stepA, Int.reduceNeg, Int.reduceLE, Int.reduceLT, Int.reduceEq, extractV, mkAgg, Nat.reduceLeDiff, fillA, pureVs, pureV, eqV, eqB, lenV.eq_1, lenV.eq_2, lenV.eq_3, lenV.eq_4, binV, intBin, intV, idxA, List.drop, List.take, RetP, retP, resV, resOne, snapV, snapVs, snapR, snapRs, ownSz, pickV, AO.isC, opE, opD, funV.eq_1, funV.eq_2, h8, h9, h10, hlen, Int.lt_irrefl]
    exact hend ho.symm _ _ _
  | cons l r ih =>
    intro i hd hi ho fr hp nx hnx h2 h3 b0 b1 h8 h9 h10
    obtain ⟨hget, hlt, hw, hd', hi', hb⟩ := drop_cons hd (by omega)
    have n0 : ¬ nx = 0 := by omega
    have n1 : ¬ nx = 1 := by omega
    have k := skew8_ok S s t l.id hn hl
    simp only [snapP, stateP] at k
    simp only [spreadFrom] at ho
    rw [Wp_loop, Wp_eq f234l0.eq_1]
    simp only [runL, opQ, evOp, evO, evOs, guardV, argsA, pvs, putS, cellsOf, scals, scal, Nat.reduceEqDiff, Nat.reduceAdd, reduceCtorEq, fieldA, nonNil, cellsAt, mkAgg, allPV, storeB, patchL, Int.reduceToNat, Nat.reduceMul, Nat.reduceLT, stepA, Int.reduceNeg, Int.reduceLE, Int.reduceLT, Int.reduceEq, extractV, mkAgg, Nat.reduceLeDiff, fillA, pureVs, pureV, eqV, eqB, lenV.eq_1, lenV.eq_2, lenV.eq_3, lenV.eq_4, binV, intBin, intV, idxA, List.drop, List.take, RetP, retP, resV, resOne, snapV, snapVs, snapR, snapRs, ownSz, pickV, AO.isC, opE, opD, funV.eq_1, funV.eq_2, h2, h3, b0, b1, h8, h9, h10, hlt, hget, loadC, n0, n1]
    refine (Wp_calm rfl).2 ?_
    by_cases c1 : 0 < l.skew
    · by_cases c2 : l.skew < skewZ s l.id t.pods
      · rw [if_pos ⟨c1, c2⟩] at ho
        simp only [runL, opQ, evOp, evO, evOs, guardV, argsA, pvs, putS, cellsOf, scals, scal, Nat.reduceEqDiff, Nat.reduceAdd, reduceCtorEq, fieldA, nonNil, cellsAt, mkAgg, allPV, storeB, patchL, Int.reduceToNat, Nat.reduceMul, Nat.reduceLT, stepA, Int.reduceNeg, Int.reduceLE, Int.reduceLT, Int.reduceEq, extractV, mkAgg, Nat.reduceLeDiff, fillA, pureVs, pureV, eqV, eqB, lenV.eq_1, lenV.eq_2, lenV.eq_3, lenV.eq_4, binV, intBin, intV, idxA, List.drop, List.take, RetP, retP, resV, resOne, snapV, snapVs, snapR, snapRs, ownSz, pickV, AO.isC, opE, opD, funV.eq_1, funV.eq_2, h2, h3, b0, b1, h8, h9, h10, n0, n1, k.callD, c1, c2]
        refine hret 11 i ho.symm _ _ _ (nx + 1) ?_ ?_
        all_goals try simp only [look_if, blkAt_if, Nat.reduceEqDiff, if_true, if_false, ]
      · rw [if_neg fun h => c2 h.2] at ho
        simp only [runL, opQ, evOp, evO, evOs, guardV, argsA, pvs, putS, cellsOf, scals, scal, Nat.reduceEqDiff, Nat.reduceAdd, reduceCtorEq, fieldA, nonNil, cellsAt, mkAgg, allPV, storeB, patchL, Int.reduceToNat, Nat.reduceMul, Nat.reduceLT, stepA, Int.reduceNeg, Int.reduceLE, Int.reduceLT, Int.reduceEq, extractV, mkAgg, Nat.reduceLeDiff, fillA, pureVs, pureV, eqV, eqB, lenV.eq_1, lenV.eq_2, lenV.eq_3, lenV.eq_4, binV, intBin, intV, idxA, List.drop, List.take, RetP, retP, resV, resOne, snapV, snapVs, snapR, snapRs, ownSz, pickV, AO.isC, opE, opD, funV.eq_1, funV.eq_2, h2, h3, b0, b1, h8, h9, h10, n0, n1, k.callD, c1, c2, hw]
        refine ih (i + 1) hd' hi' ho _ _ _ (by omega) ?_ ?_ ?_ ?_ ?_ ?_ ?_
        all_goals try simp only [look_if, blkAt_if, Nat.reduceEqDiff, if_true, if_false, h2, h3, b0, b1, h8, h9, n0, n1]
    · rw [if_neg fun h => c1 h.1] at ho
      simp only [runL, opQ, evOp, evO, evOs, guardV, argsA, pvs, putS, cellsOf, scals, scal, Nat.reduceEqDiff, Nat.reduceAdd, reduceCtorEq, fieldA, nonNil, cellsAt, mkAgg, allPV, storeB, patchL, Int.reduceToNat, Nat.reduceMul, Nat.reduceLT, stepA, Int.reduceNeg, Int.reduceLE, Int.reduceLT, Int.reduceEq, extractV, mkAgg, Nat.reduceLeDiff, fillA, pureVs, pureV, eqV, eqB, lenV.eq_1, lenV.eq_2, lenV.eq_3, lenV.eq_4, binV, intBin, intV, idxA, List.drop, List.take, RetP, retP, resV, resOne, snapV, snapVs, snapR, snapRs, ownSz, pickV, AO.isC, opE, opD, funV.eq_1, funV.eq_2, h2, h3, b0, b1, h8, h9, h10, n0, n1, k.callD, c1, hw]
      refine ih (i + 1) hd' hi' ho _ _ _ (by omega) ?_ ?_ ?_ ?_ ?_ ?_ ?_
      all_goals try simp only [look_if, blkAt_if, Nat.reduceEqDiff, if_true, if_false, h2, h3, b0, b1, h8, h9, n0, n1]
theorem spread_ok (S : Std8 T) (h234 : Std T 234 f234) (s : Snap) (t : State) (hn : s.nodes.length ≤ 2 ^ 29) (hl : t.pods.length ≤ 2 ^ 29) (hll : s.loads.length ≤ 2 ^ 29) : Gives T 234 [snapP s, stateP t] (errO (spreadFrom s t.pods 0 s.loads)) := by
  refine gives h234 rfl ?_
  simp only [f234, runL, opQ, evOp, evO, evOs, guardV, argsA, pvs, putS, cellsOf, scals, scal, Nat.reduceEqDiff, Nat.reduceAdd, reduceCtorEq, fieldA, nonNil, cellsAt, mkAgg, allPV, storeB, patchL, Int.reduceToNat, Nat.reduceMul, Nat.reduceLT, stepA, Int.reduceNeg, Int.reduceLE, Int.reduceLT, Int.reduceEq, extractV, mkAgg, Nat.reduceLeDiff, fillA, pureVs, pureV, eqV, eqB, lenV.eq_1, lenV.eq_2, lenV.eq_3, lenV.eq_4, binV, intBin, intV, idxA, List.drop, List.take, RetP, retP, resV, resOne, snapV, snapVs, snapR, snapRs, ownSz, pickV, AO.isC, opE, opD, funV.eq_1, funV.eq_2, snapP, stateP]
  refine spread_loop S s t hn hl hll _ (spreadFrom s t.pods 0 s.loads) (fun ho fr hp nx => ?_) (fun c i ho fr hp nx id h4 hb => ?_) s.loads 0 rfl (Nat.zero_le _) rfl _ _ _ (Nat.le_refl _) rfl rfl rfl rfl rfl rfl rfl
  · simp only [runL, opQ, evOp, evO, evOs, guardV, argsA, pvs, putS, cellsOf, scals, scal, Nat.reduceEqDiff, Nat.reduceAdd, reduceCtorEq, fieldA, nonNil, cellsAt, mkAgg, allPV, storeB, patchL, Int.reduceToNat, Nat.reduceMul, Nat.reduceLT, stepA, Int.reduceNeg, Int.reduceLE, Int.reduceLT, Int.reduceEq, extractV, mkAgg, Nat.reduceLeDiff, fillA, pureVs, pureV, eqV, eqB, lenV.eq_1, lenV.eq_2, lenV.eq_3, lenV.eq_4, binV, intBin, intV, idxA, List.drop, List.take, RetP, retP, resV, resOne, snapV, snapVs, snapR, snapRs, ownSz, pickV, AO.isC, opE, opD, funV.eq_1, funV.eq_2, ho, errO]
  · simp only [runL, opQ, evOp, evO, evOs, guardV, argsA, pvs, putS, cellsOf, scals, scal, Nat.reduceEqDiff, Nat.reduceAdd, reduceCtorEq, fieldA, nonNil, cellsAt, mkAgg, allPV, storeB, patchL, Int.reduceToNat, Nat.reduceMul, Nat.reduceLT, stepA, Int.reduceNeg, Int.reduceLE, Int.reduceLT, Int.reduceEq, extractV, mkAgg, Nat.reduceLeDiff, fillA, pureVs, pureV, eqV, eqB, lenV.eq_1, lenV.eq_2, lenV.eq_3, lenV.eq_4, binV, intBin, intV, idxA, List.drop, List.take, RetP, retP, resV, resOne, snapV, snapVs, snapR, snapRs, ownSz, pickV, AO.isC, opE, opD, funV.eq_1, funV.eq_2, ho, errO, h4, hb, spotE]
/-! ### The five -/
def csP (s : Snap) : PV := .cptr [.slice (s.nodes.map nodeC), .slice (s.loads.map loadC), .slice (s.pods.map podC)] 0
def cxP (x : Spec) : PV := .cptr [.slice (x.wants.map wantC), .int .i64 x.pre, .int .i64 x.shi] 0
def ctP (t : State) : PV := .cptr [.slice (t.pods.map podC), .int .i64 t.pre, .int .i64 t.shi] 0
def fiveP (s : Snap) (x : Spec) (t : State) : List PV := [.func 225 [] [csP s, ctP t], .func 226 [] [csP s, ctP t], .func 227 [] [csP s, ctP t], .func 228 [] [csP s, ctP t], .func 229 [] [cxP x, ctP t]]
structure Std11 (T : Tab) : Prop where
  s6 : Std6 T
  s8 : Std8 T
  h219 : Std T 219 f219
  h266 : StdA T 266
  h68 : Std T 68 f68
  h69 : Std T 69 f69
  h81 : Std T 81 f81
  h234 : Std T 234 f234
  h70 : Std T 70 f70
  h71 : Std T 71 f71
  h72 : Std T 72 f72
  h222 : Std T 222 f222
  h223 : Std T 223 f223
  h224 : Std T 224 f224
  h225 : Std T 225 f225
  h226 : Std T 226 f226
  h227 : Std T 227 f227
  h228 : Std T 228 f228
  h229 : Std T 229 f229
theorem five_ok (S : Std11 T) (s : Snap) (x : Spec) (t : State) : Gives T 224 [snapP s, specP x, stateP t] (.agg (fiveP s x t)) := by
  refine gives S.h224 rfl ?_
  simp only [f224, runL, opQ, evOp, evO, evOs, guardV, argsA, pvs, putS, cellsOf, scals, scal, Nat.reduceEqDiff, Nat.reduceAdd, reduceCtorEq, fieldA, nonNil, cellsAt, mkAgg, allPV, storeB, patchL, Int.reduceToNat, Nat.reduceMul, Nat.reduceLT, stepA, Int.reduceNeg, Int.reduceLE, Int.reduceLT, Int.reduceEq, extractV, mkAgg, Nat.reduceLeDiff, fillA, pureVs, pureV, eqV, eqB, lenV.eq_1, lenV.eq_2, lenV.eq_3, lenV.eq_4, binV, intBin, intV, idxA, List.drop, List.take, RetP, retP, resV, resOne, snapV, snapVs, snapR, snapRs, ownSz, pickV, AO.isC, opE, opD, funV.eq_1, funV.eq_2, snapP, specP, stateP, mkFun, allPVs, fiveP, csP, cxP, ctP]
theorem c225_ok (S : Std11 T) (s : Snap) (t : State) (hn : s.nodes.length ≤ 2 ^ 29) (hl : t.pods.length ≤ 2 ^ 29) (hw : ∀ p ∈ t.pods, p.wf) : Gives T 225 [csP s, ctP t] (errO (roomFrom s t.pods 0 s.nodes)) := by
  have k := room_ok S.s6 S.h219 S.h266 s t (by omega) (by omega) hw
  simp only [snapP, stateP] at k
  refine gives S.h225 rfl ?_
  simp only [f225, runL, opQ, evOp, evO, evOs, guardV, argsA, pvs, putS, cellsOf, scals, scal, Nat.reduceEqDiff, Nat.reduceAdd, reduceCtorEq, fieldA, nonNil, cellsAt, mkAgg, allPV, storeB, patchL, Int.reduceToNat, Nat.reduceMul, Nat.reduceLT, stepA, Int.reduceNeg, Int.reduceLE, Int.reduceLT, Int.reduceEq, extractV, mkAgg, Nat.reduceLeDiff, fillA, pureVs, pureV, eqV, eqB, lenV.eq_1, lenV.eq_2, lenV.eq_3, lenV.eq_4, binV, intBin, intV, idxA, List.drop, List.take, RetP, retP, resV, resOne, snapV, snapVs, snapR, snapRs, ownSz, pickV, AO.isC, opE, opD, funV.eq_1, funV.eq_2, csP, ctP, k.call]
theorem c226_ok (S : Std11 T) (s : Snap) (t : State) (hn : s.loads.length ≤ 2 ^ 29) (hl : t.pods.length ≤ 2 ^ 29) : Gives T 226 [csP s, ctP t] (errO (apartFrom s.loads [] t.pods)) := by
  have k := apart_ok S.h68 S.h69 S.h81 s t (by omega) (by omega)
  simp only [snapP, stateP] at k
  refine gives S.h226 rfl ?_
  simp only [f226, runL, opQ, evOp, evO, evOs, guardV, argsA, pvs, putS, cellsOf, scals, scal, Nat.reduceEqDiff, Nat.reduceAdd, reduceCtorEq, fieldA, nonNil, cellsAt, mkAgg, allPV, storeB, patchL, Int.reduceToNat, Nat.reduceMul, Nat.reduceLT, stepA, Int.reduceNeg, Int.reduceLE, Int.reduceLT, Int.reduceEq, extractV, mkAgg, Nat.reduceLeDiff, fillA, pureVs, pureV, eqV, eqB, lenV.eq_1, lenV.eq_2, lenV.eq_3, lenV.eq_4, binV, intBin, intV, idxA, List.drop, List.take, RetP, retP, resV, resOne, snapV, snapVs, snapR, snapRs, ownSz, pickV, AO.isC, opE, opD, funV.eq_1, funV.eq_2, csP, ctP, k.call]
theorem c227_ok (S : Std11 T) (s : Snap) (t : State) (hn : s.nodes.length ≤ 2 ^ 29) (hl : t.pods.length ≤ 2 ^ 29) (hll : s.loads.length ≤ 2 ^ 29) : Gives T 227 [csP s, ctP t] (errO (spreadFrom s t.pods 0 s.loads)) := by
  have k := spread_ok S.s8 S.h234 s t hn hl hll
  simp only [snapP, stateP] at k
  refine gives S.h227 rfl ?_
  simp only [f227, runL, opQ, evOp, evO, evOs, guardV, argsA, pvs, putS, cellsOf, scals, scal, Nat.reduceEqDiff, Nat.reduceAdd, reduceCtorEq, fieldA, nonNil, cellsAt, mkAgg, allPV, storeB, patchL, Int.reduceToNat, Nat.reduceMul, Nat.reduceLT, stepA, Int.reduceNeg, Int.reduceLE, Int.reduceLT, Int.reduceEq, extractV, mkAgg, Nat.reduceLeDiff, fillA, pureVs, pureV, eqV, eqB, lenV.eq_1, lenV.eq_2, lenV.eq_3, lenV.eq_4, binV, intBin, intV, idxA, List.drop, List.take, RetP, retP, resV, resOne, snapV, snapVs, snapR, snapRs, ownSz, pickV, AO.isC, opE, opD, funV.eq_1, funV.eq_2, csP, ctP, k.call]
theorem c228_ok (S : Std11 T) (s : Snap) (t : State) (hl : t.pods.length ≤ 2 ^ 29) (hll : s.loads.length ≤ 2 ^ 29) : Gives T 228 [csP s, ctP t] (errO (badLoad t.pods 0 s.loads)) := by
  have k := check9_ok S.h70 S.h71 s t (by omega) (by omega)
  simp only [snapP, stateP] at k
  refine gives S.h228 rfl ?_
  simp only [f228, runL, opQ, evOp, evO, evOs, guardV, argsA, pvs, putS, cellsOf, scals, scal, Nat.reduceEqDiff, Nat.reduceAdd, reduceCtorEq, fieldA, nonNil, cellsAt, mkAgg, allPV, storeB, patchL, Int.reduceToNat, Nat.reduceMul, Nat.reduceLT, stepA, Int.reduceNeg, Int.reduceLE, Int.reduceLT, Int.reduceEq, extractV, mkAgg, Nat.reduceLeDiff, fillA, pureVs, pureV, eqV, eqB, lenV.eq_1, lenV.eq_2, lenV.eq_3, lenV.eq_4, binV, intBin, intV, idxA, List.drop, List.take, RetP, retP, resV, resOne, snapV, snapVs, snapR, snapRs, ownSz, pickV, AO.isC, opE, opD, funV.eq_1, funV.eq_2, csP, ctP, k.call]
theorem c229_ok (S : Std11 T) (x : Spec) (t : State) : Gives T 229 [cxP x, ctP t] (cond (usedB x t) (codeE 15) .nili) := by
  have k := used9_ok S.h72 x t
  simp only [specP, stateP] at k
  refine gives S.h229 rfl ?_
  simp only [f229, runL, opQ, evOp, evO, evOs, guardV, argsA, pvs, putS, cellsOf, scals, scal, Nat.reduceEqDiff, Nat.reduceAdd, reduceCtorEq, fieldA, nonNil, cellsAt, mkAgg, allPV, storeB, patchL, Int.reduceToNat, Nat.reduceMul, Nat.reduceLT, stepA, Int.reduceNeg, Int.reduceLE, Int.reduceLT, Int.reduceEq, extractV, mkAgg, Nat.reduceLeDiff, fillA, pureVs, pureV, eqV, eqB, lenV.eq_1, lenV.eq_2, lenV.eq_3, lenV.eq_4, binV, intBin, intV, idxA, List.drop, List.take, RetP, retP, resV, resOne, snapV, snapVs, snapR, snapRs, ownSz, pickV, AO.isC, opE, opD, funV.eq_1, funV.eq_2, cxP, ctP, k.call]
/-! ### Why, Is -/
def ErrV (r : PV) : Prop := r = .nili ∨ (∃ a n, r = spotE a n) ∨ ∃ n, r = codeE n
theorem errV_O (o : Option (Int × Int)) : ErrV (errO o) := by
  cases o with
  | none => exact .inl rfl
  | some q => exact .inr (.inl ⟨_, _, rfl⟩)
theorem errV_used (x : Spec) (t : State) : ErrV (cond (usedB x t) (codeE 15) .nili) := by
  cases usedB x t
  · exact .inl rfl
  · exact .inr (.inr ⟨_, rfl⟩)
def firstE : List PV → PV
  | [] => .nili
  | .nili :: r => firstE r
  | e :: _ => e
def isNilP : PV → Bool
  | .nili => true
  | _ => false
def errsL (s : Snap) (x : Spec) (t : State) : List PV := [errO (roomFrom s t.pods 0 s.nodes), errO (apartFrom s.loads [] t.pods), errO (spreadFrom s t.pods 0 s.loads), errO (badLoad t.pods 0 s.loads), cond (usedB x t) (codeE 15) .nili]
def whyP (s : Snap) (x : Spec) (t : State) : PV := firstE (errsL s x t)
theorem firstE_V : ∀ (l : List PV), (∀ e ∈ l, ErrV e) → ErrV (firstE l)
  | [], _ => .inl rfl
  | e :: r, h => by
    have h1 := h e (List.mem_cons_self ..)
    have h2 := firstE_V r fun e he => h e (List.mem_cons_of_mem _ he)
    rcases h1 with rfl | ⟨a, n, rfl⟩ | ⟨n, rfl⟩
    · exact h2
    · exact .inr (.inl ⟨_, _, rfl⟩)
    · exact .inr (.inr ⟨_, rfl⟩)
theorem errs_V (s : Snap) (x : Spec) (t : State) : ∀ e ∈ errsL s x t, ErrV e := by
  intro e he
  simp only [errsL, List.mem_cons, List.not_mem_nil, or_false] at he
  rcases he with rfl | rfl | rfl | rfl | rfl
  · exact errV_O _
  · exact errV_O _
  · exact errV_O _
  · exact errV_O _
  · exact errV_used _ _
theorem why_step {fs : List PV} {i n : Nat} {a b r : PV} (hi : i < 5) (hf : fs[i]? = some (.func n [] [a, b])) (k : Gives T n [a, b] r) (hr : ErrV r) (Q : Exit → St → Prop) (fr : List (Nat × AV)) (hp : Hl) (nx : Nat)
    (h13 : look fr 13 = .pv (.agg fs)) (h14 : look fr 14 = .pv (.int .i64 i))
    (hn : r = .nili → ∀ fr', look fr' 13 = .pv (.agg fs) → look fr' 14 = .pv (.int .i64 ((i + 1 : Nat) : Int)) → Wp T false (.loop f223l0) ⟨fr', hp, nx⟩ Q)
    (hs : r ≠ .nili → ∀ fr', look fr' 6 = .pv r → Q .ret ⟨fr', hp, nx⟩) : Wp T false (.loop f223l0) ⟨fr, hp, nx⟩ Q := by
  have hlt : (i : Int) < 5 := by omega
  have hw : IntKind.i64.wrap ((i : Int) + 1) = ((i + 1 : Nat) : Int) := by rw [wrap6] <;> omega
  have hld : loadV false 1 (List.drop (i * 1) (pvs fs)) = some (.pv (.func n [] [a, b])) := by
    have hlen : i < fs.length := (List.getElem?_eq_some_iff.1 hf).1
    have hl2 : i < (pvs fs).length := by rw [pvs_length]; exact hlen
    have hg : (pvs fs)[i]? = some (.pv (.func n [] [a, b])) := by rw [pvs_get, hf]; rfl
    have hg2 : (pvs fs)[i] = .pv (.func n [] [a, b]) := by
      rw [List.getElem?_eq_getElem hl2] at hg
      simpa using hg
    rw [Nat.mul_one, List.drop_eq_getElem_cons hl2, hg2]
    rfl
  rw [Wp_loop, Wp_eq f223l0.eq_1]
  rcases hr with rfl | ⟨c, m, rfl⟩ | ⟨m, rfl⟩
  · simp only [runL, opQ, evOp, evO, evOs, guardV, argsA, pvs, putS, cellsOf, scals, scal, Nat.reduceEqDiff, Nat.reduceAdd, reduceCtorEq, fieldA, nonNil, cellsAt, mkAgg, allPV, storeB, patchL, Int.reduceToNat, Nat.reduceMul, Nat.reduceLT, stepA, Int.reduceNeg, Int.reduceLE, Int.reduceLT, Int.reduceEq, extractV, mkAgg, Nat.reduceLeDiff, fillA, pureVs, pureV, eqV, eqB, lenV.eq_1, lenV.eq_2, lenV.eq_3, lenV.eq_4, binV, intBin, intV, idxA, List.drop, List.take, RetP, retP, resV, resOne, snapV, snapVs, snapR, snapRs, ownSz, pickV, AO.isC, opE, opD, funV.eq_1, funV.eq_2, funQ_some, aggV, h13, h14, hlt, hi, hld, k.call, hw]
    refine hn rfl _ ?_ ?_
    all_goals try simp only [look_if, blkAt_if, Nat.reduceEqDiff, if_true, if_false, h13, h14]
  · simp only [spotE] at k
    simp only [runL, opQ, evOp, evO, evOs, guardV, argsA, pvs, putS, cellsOf, scals, scal, Nat.reduceEqDiff, Nat.reduceAdd, reduceCtorEq, fieldA, nonNil, cellsAt, mkAgg, allPV, storeB, patchL, Int.reduceToNat, Nat.reduceMul, Nat.reduceLT, stepA, Int.reduceNeg, Int.reduceLE, Int.reduceLT, Int.reduceEq, extractV, mkAgg, Nat.reduceLeDiff, fillA, pureVs, pureV, eqV, eqB, lenV.eq_1, lenV.eq_2, lenV.eq_3, lenV.eq_4, binV, intBin, intV, idxA, List.drop, List.take, RetP, retP, resV, resOne, snapV, snapVs, snapR, snapRs, ownSz, pickV, AO.isC, opE, opD, funV.eq_1, funV.eq_2, funQ_some, aggV, h13, h14, hlt, hi, hld, k.call, hw]
    refine hs (by simp [spotE]) _ ?_
    all_goals try simp only [look_if, blkAt_if, Nat.reduceEqDiff, if_true, if_false, spotE]
  · simp only [codeE] at k
    simp only [runL, opQ, evOp, evO, evOs, guardV, argsA, pvs, putS, cellsOf, scals, scal, Nat.reduceEqDiff, Nat.reduceAdd, reduceCtorEq, fieldA, nonNil, cellsAt, mkAgg, allPV, storeB, patchL, Int.reduceToNat, Nat.reduceMul, Nat.reduceLT, stepA, Int.reduceNeg, Int.reduceLE, Int.reduceLT, Int.reduceEq, extractV, mkAgg, Nat.reduceLeDiff, fillA, pureVs, pureV, eqV, eqB, lenV.eq_1, lenV.eq_2, lenV.eq_3, lenV.eq_4, binV, intBin, intV, idxA, List.drop, List.take, RetP, retP, resV, resOne, snapV, snapVs, snapR, snapRs, ownSz, pickV, AO.isC, opE, opD, funV.eq_1, funV.eq_2, funQ_some, aggV, h13, h14, hlt, hi, hld, k.call, hw]
    refine hs (by simp [codeE]) _ ?_
    all_goals try simp only [look_if, blkAt_if, Nat.reduceEqDiff, if_true, if_false, codeE]
theorem firstE_ne {e : PV} {r : List PV} (h : e ≠ .nili) : firstE (e :: r) = e := by
  cases e <;> first | rfl | exact absurd rfl h
theorem why_ok (S : Std11 T) (s : Snap) (x : Spec) (t : State) (hn : s.nodes.length ≤ 2 ^ 29) (hl : t.pods.length ≤ 2 ^ 29) (hll : s.loads.length ≤ 2 ^ 29) (hw : ∀ p ∈ t.pods, p.wf) : Gives T 223 [snapP s, specP x, stateP t] (whyP s x t) := by
  have k0 := five_ok S s x t
  have k1 := c225_ok S s t hn hl hw
  have k2 := c226_ok S s t hll hl
  have k3 := c227_ok S s t hn hl hll
  have k4 := c228_ok S s t hl hll
  have k5 := c229_ok S x t
  simp only [snapP, specP, stateP] at k0
  refine gives S.h223 rfl ?_
  simp only [f223, runL, opQ, evOp, evO, evOs, guardV, argsA, pvs, putS, cellsOf, scals, scal, Nat.reduceEqDiff, Nat.reduceAdd, reduceCtorEq, fieldA, nonNil, cellsAt, mkAgg, allPV, storeB, patchL, Int.reduceToNat, Nat.reduceMul, Nat.reduceLT, stepA, Int.reduceNeg, Int.reduceLE, Int.reduceLT, Int.reduceEq, extractV, mkAgg, Nat.reduceLeDiff, fillA, pureVs, pureV, eqV, eqB, lenV.eq_1, lenV.eq_2, lenV.eq_3, lenV.eq_4, binV, intBin, intV, idxA, List.drop, List.take, RetP, retP, resV, resOne, snapV, snapVs, snapR, snapRs, ownSz, pickV, AO.isC, opE, opD, funV.eq_1, funV.eq_2, snapP, specP, stateP, k0.call]
  unfold whyP errsL
  refine why_step (i := 0) (by omega) rfl k1 (errV_O _) _ _ _ _ rfl rfl (fun e1 fr h13 h14 => ?_) (fun e1 fr h6 => ?_)
  · rw [e1, firstE]
    refine why_step (i := 1) (by omega) rfl k2 (errV_O _) _ _ _ _ h13 h14 (fun e1 fr h13 h14 => ?_) (fun e1 fr h6 => ?_)
    · rw [e1, firstE]
      refine why_step (i := 2) (by omega) rfl k3 (errV_O _) _ _ _ _ h13 h14 (fun e1 fr h13 h14 => ?_) (fun e1 fr h6 => ?_)
      · rw [e1, firstE]
        refine why_step (i := 3) (by omega) rfl k4 (errV_O _) _ _ _ _ h13 h14 (fun e1 fr h13 h14 => ?_) (fun e1 fr h6 => ?_)
        · rw [e1, firstE]
          refine why_step (i := 4) (by omega) rfl k5 (errV_used _ _) _ _ _ _ h13 h14 (fun e1 fr h13 h14 => ?_) (fun e1 fr h6 => ?_)
          · rw [e1, firstE]
            have h14' : look fr 14 = .pv (.int .i64 5) := h14
            rw [Wp_loop, Wp_eq f223l0.eq_1]
            simp only [runL, opQ, evOp, evO, evOs, guardV, argsA, pvs, putS, cellsOf, scals, scal, Nat.reduceEqDiff, Nat.reduceAdd, reduceCtorEq, fieldA, nonNil, cellsAt, mkAgg, allPV, storeB, patchL, Int.reduceToNat, Nat.reduceMul, Nat.reduceLT, stepA, Int.reduceNeg, Int.reduceLE, Int.reduceLT, Int.reduceEq, extractV, mkAgg, Nat.reduceLeDiff, fillA, pureVs, pureV, eqV, eqB, lenV.eq_1, lenV.eq_2, lenV.eq_3, lenV.eq_4, binV, intBin, intV, idxA, List.drop, List.take, RetP, retP, resV, resOne, snapV, snapVs, snapR, snapRs, ownSz, pickV, AO.isC, opE, opD, funV.eq_1, funV.eq_2, h13, h14', Int.lt_irrefl, firstE]
          · rw [firstE_ne e1]
            simp only [runL, opQ, evOp, evO, evOs, guardV, argsA, pvs, putS, cellsOf, scals, scal, Nat.reduceEqDiff, Nat.reduceAdd, reduceCtorEq, fieldA, nonNil, cellsAt, mkAgg, allPV, storeB, patchL, Int.reduceToNat, Nat.reduceMul, Nat.reduceLT, stepA, Int.reduceNeg, Int.reduceLE, Int.reduceLT, Int.reduceEq, extractV, mkAgg, Nat.reduceLeDiff, fillA, pureVs, pureV, eqV, eqB, lenV.eq_1, lenV.eq_2, lenV.eq_3, lenV.eq_4, binV, intBin, intV, idxA, List.drop, List.take, RetP, retP, resV, resOne, snapV, snapVs, snapR, snapRs, ownSz, pickV, AO.isC, opE, opD, funV.eq_1, funV.eq_2, h6]
        · rw [firstE_ne e1]
          simp only [runL, opQ, evOp, evO, evOs, guardV, argsA, pvs, putS, cellsOf, scals, scal, Nat.reduceEqDiff, Nat.reduceAdd, reduceCtorEq, fieldA, nonNil, cellsAt, mkAgg, allPV, storeB, patchL, Int.reduceToNat, Nat.reduceMul, Nat.reduceLT, stepA, Int.reduceNeg, Int.reduceLE, Int.reduceLT, Int.reduceEq, extractV, mkAgg, Nat.reduceLeDiff, fillA, pureVs, pureV, eqV, eqB, lenV.eq_1, lenV.eq_2, lenV.eq_3, lenV.eq_4, binV, intBin, intV, idxA, List.drop, List.take, RetP, retP, resV, resOne, snapV, snapVs, snapR, snapRs, ownSz, pickV, AO.isC, opE, opD, funV.eq_1, funV.eq_2, h6]
      · rw [firstE_ne e1]
        simp only [runL, opQ, evOp, evO, evOs, guardV, argsA, pvs, putS, cellsOf, scals, scal, Nat.reduceEqDiff, Nat.reduceAdd, reduceCtorEq, fieldA, nonNil, cellsAt, mkAgg, allPV, storeB, patchL, Int.reduceToNat, Nat.reduceMul, Nat.reduceLT, stepA, Int.reduceNeg, Int.reduceLE, Int.reduceLT, Int.reduceEq, extractV, mkAgg, Nat.reduceLeDiff, fillA, pureVs, pureV, eqV, eqB, lenV.eq_1, lenV.eq_2, lenV.eq_3, lenV.eq_4, binV, intBin, intV, idxA, List.drop, List.take, RetP, retP, resV, resOne, snapV, snapVs, snapR, snapRs, ownSz, pickV, AO.isC, opE, opD, funV.eq_1, funV.eq_2, h6]
    · rw [firstE_ne e1]
      simp only [runL, opQ, evOp, evO, evOs, guardV, argsA, pvs, putS, cellsOf, scals, scal, Nat.reduceEqDiff, Nat.reduceAdd, reduceCtorEq, fieldA, nonNil, cellsAt, mkAgg, allPV, storeB, patchL, Int.reduceToNat, Nat.reduceMul, Nat.reduceLT, stepA, Int.reduceNeg, Int.reduceLE, Int.reduceLT, Int.reduceEq, extractV, mkAgg, Nat.reduceLeDiff, fillA, pureVs, pureV, eqV, eqB, lenV.eq_1, lenV.eq_2, lenV.eq_3, lenV.eq_4, binV, intBin, intV, idxA, List.drop, List.take, RetP, retP, resV, resOne, snapV, snapVs, snapR, snapRs, ownSz, pickV, AO.isC, opE, opD, funV.eq_1, funV.eq_2, h6]
  · rw [firstE_ne e1]
    simp only [runL, opQ, evOp, evO, evOs, guardV, argsA, pvs, putS, cellsOf, scals, scal, Nat.reduceEqDiff, Nat.reduceAdd, reduceCtorEq, fieldA, nonNil, cellsAt, mkAgg, allPV, storeB, patchL, Int.reduceToNat, Nat.reduceMul, Nat.reduceLT, stepA, Int.reduceNeg, Int.reduceLE, Int.reduceLT, Int.reduceEq, extractV, mkAgg, Nat.reduceLeDiff, fillA, pureVs, pureV, eqV, eqB, lenV.eq_1, lenV.eq_2, lenV.eq_3, lenV.eq_4, binV, intBin, intV, idxA, List.drop, List.take, RetP, retP, resV, resOne, snapV, snapVs, snapR, snapRs, ownSz, pickV, AO.isC, opE, opD, funV.eq_1, funV.eq_2, h6]
theorem is11_ok (S : Std11 T) (s : Snap) (x : Spec) (t : State) (hn : s.nodes.length ≤ 2 ^ 29) (hl : t.pods.length ≤ 2 ^ 29) (hll : s.loads.length ≤ 2 ^ 29) (hw : ∀ p ∈ t.pods, p.wf) : Gives T 222 [snapP s, specP x, stateP t] (.bool (isNilP (whyP s x t))) := by
  have k := why_ok S s x t hn hl hll hw
  have hv : ErrV (whyP s x t) := firstE_V _ (errs_V s x t)
  refine gives S.h222 rfl ?_
  rcases hv with e | ⟨a, n, e⟩ | ⟨n, e⟩ <;>
  · rw [e] at k ⊢
    simp only [snapP, specP, stateP, spotE, codeE] at k
    simp only [f222, runL, opQ, evOp, evO, evOs, guardV, argsA, pvs, putS, cellsOf, scals, scal, Nat.reduceEqDiff, Nat.reduceAdd, reduceCtorEq, fieldA, nonNil, cellsAt, mkAgg, allPV, storeB, patchL, Int.reduceToNat, Nat.reduceMul, Nat.reduceLT, stepA, Int.reduceNeg, Int.reduceLE, Int.reduceLT, Int.reduceEq, extractV, mkAgg, Nat.reduceLeDiff, fillA, pureVs, pureV, eqV, eqB, lenV.eq_1, lenV.eq_2, lenV.eq_3, lenV.eq_4, binV, intBin, intV, idxA, List.drop, List.take, RetP, retP, resV, resOne, snapV, snapVs, snapR, snapRs, ownSz, pickV, AO.isC, opE, opD, funV.eq_1, funV.eq_2, snapP, specP, stateP, k.call, isNilP, spotE, codeE]
end
end Go.Proofs.YtlfphlobcopemaaDoor.Ab
set_option linter.unusedVariables false
set_option linter.unusedSimpArgs false
namespace Go.Proofs.YtlfphlobcopemaaDoor.Ab
open Go
def as2P (args : List AV) (hp : Hl) (nx : Nat) : Option (AV × Hl × Nat) :=
  match args with
  | [.pv .nili, .iface 2 (.ptr k 0 0)] => some (.pv (.bool false), hp, nx)
  | [.pv (.iface 0 (.int .i64 n)), .iface 2 (.ptr k 0 0)] => match blkAt hp k with
    | .var [.pv .nilp] => some (.pv (.bool false), hp, nx)
    | _ => none
  | [.pv (.iface 1 (.cptr [.int .i64 a, .int .i64 n] 0)), .iface 2 (.ptr k 0 0)] => match blkAt hp k with
    | .var [.pv .nilp] => some (.pv (.bool true), (k, .var [.pv (.cptr [.int .i64 a, .int .i64 n] 0)]) :: hp, nx)
    | _ => none
  | _ => asP args hp nx
theorem Rel.setPtr {X : Ctx} {M : Nat → Nat} {F : Fr} {hp : Hl} {nx : Nat} {a : Act} {w : World} (R : Rel X M F (blkAt hp) (fun i => i < nx) a w) {k : Nat} {p0 p : PV} {ad : Addr} (hb : blkAt hp k = .var [.pv p0])
    (hu : VA (viewOf X w (fun i => i < nx) M (blkAt hp)) (.pv p) (.pointer (some ad))) :
    Rel X M F (blkAt ((k, .var [.pv p]) :: hp)) (fun i => i < nx) a (w.setCell ⟨M k, 0, none⟩ (.pointer (some ad))) := by
  have hB := R.blk k
  rw [hb] at hB
  obtain ⟨c, t, h1, h2, h3⟩ := hB
  simp only [viewOf] at h1
  have hsz : c.size = 1 := by simpa using h2
  rw [setCell_eq h1]
  have e : blkAt ((k, .var [.pv p]) :: hp) = wr (blkAt hp) [(k, .var [.pv p])] := by
    funext i
    rw [← blkAt_wr]
    rfl
  rw [e]
  have hlt : M k < w.heap.size := (Array.getElem?_eq_some_iff.1 h1).1
  have hsh : ∀ o, (setB w (M k) (.cells o t (0, 0))).shape? (M k) = w.shape? (M k) ∨ o.size ≠ c.size := by
    intro o
    by_cases ho : o.size = c.size
    · refine .inl ?_
      simp only [World.shape?]
      rw [setB_same _ hlt, h1]
      simp [ho]
    · exact .inr ho
  have hsh' : (setB w (M k) (.cells (c.set! 0 (.pointer (some ad))) t (0, 0))).shape? (M k) = w.shape? (M k) := (hsh _).resolve_right (by simp)
  have T := R.write_turn (.cells (c.set! 0 (.pointer (some ad))) t (0, 0)) (.var [.pv p]) k (by rw [hb]; simp) (by rw [hb]; rfl) hsh'
  refine R.write _ _ k (by rw [hb]; simp) (by simp) (by rw [hb]; rfl) hsh' ?_
  refine ⟨_, t, setB_same _ hlt, by simp [hsz], ?_⟩
  simp only [ARun, and_true]
  refine ⟨.pointer (some ad), ?_, by simp [Scalar], VA_turns T _ _ hu⟩
  simp only [World.cell?, viewOf]
  rw [setB_same _ hlt]
  simp [hsz]
theorem Rel.tgt {X : Ctx} {M : Nat → Nat} {F : Fr} {hp : Hl} {nx : Nat} {a : Act} {w : World} (R : Rel X M F (blkAt hp) (fun i => i < nx) a w) {k : Nat} {p0 : PV} {u : Value} (hb : blkAt hp k = .var [.pv p0]) (hu : VA (viewOf X w (fun i => i < nx) M (blkAt hp)) (.ptr k 0 0) u) :
    u = .pointer (some ⟨M k, 0, none⟩) ∧ (∃ old, w.cell? ⟨M k, 0, none⟩ = some old) ∧ w.frozen? ⟨M k, 0, none⟩ = false := by
  simp only [VA, viewOf] at hu
  obtain ⟨_, _, hu⟩ := hu
  have e := hu (0, 0) (by rw [hb]; rfl)
  have hB := R.blk k
  rw [hb] at hB
  obtain ⟨c, t, q1, q2, q3⟩ := hB
  simp only [viewOf] at q1
  have hsz : c.size = 1 := by simpa using q2
  simp only [ARun, and_true] at q3
  obtain ⟨x, q4, _, _⟩ := q3
  refine ⟨by simpa using e, ⟨x, q4⟩, ?_⟩
  simp only [World.frozen?, q1]
  simp
theorem as2P_raw {E : Env} {n : Nat} {g : Nat × Value} (hent : Ent E n) (hg : g ∈ E.gl)
    (h1 : ∀ (t : Value) (w : World), Calls E.P (E.ρ n) #[.nilIface, t] w fun e w' => e = .returned (.bool false) ∧ w' = w)
    (h2 : ∀ (t : Addr) (old : Value) (w : World) (m : Int), w.cell? ⟨g.1, 0, none⟩ = some g.2 → w.cell? t = some old → w.frozen? t = false →
      Calls E.P (E.ρ n) #[.iface (E.τ 0) (.int .i64 m), .iface (E.τ 3) (.pointer (some t))] w fun e w' => e = .returned (.bool true) ∧ ∃ w1, Go.RowKit.Below w.heap.size w w1 ∧ w' = w1.setCell t (.int .i64 m))
    (h3 : ∀ (t : Addr) (old : Value) (w : World) (b o : Nat) (a m : Int), w.cell? ⟨b, o, none⟩ = some (.int .i64 a) → w.cell? ⟨b, o + 1, none⟩ = some (.int .i64 m) → w.cell? ⟨g.1, 0, none⟩ = some g.2 → w.cell? t = some old → w.frozen? t = false →
      Calls E.P (E.ρ n) #[.iface (E.τ 1) (.pointer (some ⟨b, o, none⟩)), .iface (E.τ 3) (.pointer (some t))] w fun e w' => e = .returned (.bool true) ∧ ∃ w1, Go.RowKit.Below w.heap.size w w1 ∧ w' = w1.setCell t (.int .i64 m))
    (h4 : ∀ (t : Addr) (old : Value) (w : World) (m : Int), w.cell? ⟨g.1, 0, none⟩ = some g.2 → w.cell? t = some old → w.frozen? t = false →
      Calls E.P (E.ρ n) #[.iface (E.τ 0) (.int .i64 m), .iface (E.τ 2) (.pointer (some t))] w fun e w' => e = .returned (.bool false) ∧ Go.RowKit.Below w.heap.size w w')
    (h5 : ∀ (t : Addr) (old : Value) (w : World) (ad : Addr), w.cell? ⟨g.1, 0, none⟩ = some g.2 → w.cell? t = some old → w.frozen? t = false →
      Calls E.P (E.ρ n) #[.iface (E.τ 1) (.pointer (some ad)), .iface (E.τ 2) (.pointer (some t))] w fun e w' => e = .returned (.bool true) ∧ ∃ w1, Go.RowKit.Below w.heap.size w w1 ∧ w' = w1.setCell t (.pointer (some ad)))
    (args : List AV) (hp : Hl) (nx : Nat) (v : AV) (hp' : Hl) (nx' : Nat) (h : as2P args hp nx = some (v, hp', nx')) : RawC E n args hp nx v hp' nx' := by
  unfold as2P at h
  split at h
  · rename_i k
    simp only [Option.some.injEq, Prod.mk.injEq] at h
    obtain ⟨rfl, rfl, rfl⟩ := h
    refine ⟨hent, fun X M F a w vs hX R hv => ?_⟩
    subst hX
    simp only [VAs, VA, VP] at hv
    obtain ⟨_, _, rfl, rfl, u, _, rfl, _, rfl⟩ := hv
    refine (h1 u w).mono fun e w' ⟨he, hw⟩ => ?_
    subst he hw
    exact ⟨_, M, rfl, R, by simp only [VA, VP]⟩
  · rename_i m k
    split at h
    · rename_i hb
      simp only [Option.some.injEq, Prod.mk.injEq] at h
      obtain ⟨rfl, rfl, rfl⟩ := h
      refine ⟨hent, fun X M F a w vs hX R hv => ?_⟩
      subst hX
      simp only [VAs] at hv
      obtain ⟨u1, _, rfl, hu1, u2, _, rfl, hu2, rfl⟩ := hv
      simp only [VA, VP] at hu1
      obtain ⟨_, rfl, rfl⟩ := hu1
      rw [VA] at hu2
      obtain ⟨u3, rfl, hu3⟩ := hu2
      obtain ⟨rfl, ⟨old, c1⟩, c2⟩ := R.tgt hb hu3
      refine (h4 ⟨M k, 0, none⟩ old w m (R.inv g hg).2 c1 c2).mono fun e w' ⟨he, hw⟩ => ?_
      subst he
      exact ⟨_, M, rfl, R.grown (keeps_of hw), by simp only [VA, VP]⟩
    · simp at h
  · rename_i a' m k
    split at h
    · rename_i hb
      simp only [Option.some.injEq, Prod.mk.injEq] at h
      obtain ⟨rfl, rfl, rfl⟩ := h
      refine ⟨hent, fun X M F a w vs hX R hv => ?_⟩
      subst hX
      simp only [VAs] at hv
      obtain ⟨u1, _, rfl, hu1, u2, _, rfl, hu2, rfl⟩ := hv
      have hu1' : ∃ ad, u1 = .iface (X.E.τ 1) (.pointer (some ad)) ∧ VA (viewOf X w (fun i => i < nx) M (blkAt hp)) (.pv (.cptr [.int .i64 a', .int .i64 m] 0)) (.pointer (some ad)) := by
        simp only [VA, VP] at hu1 ⊢
        obtain ⟨q, rfl, b, o, rfl, hh⟩ := hu1
        exact ⟨_, rfl, b, o, rfl, hh⟩
      obtain ⟨ad, rfl, hp1⟩ := hu1'
      rw [VA] at hu2
      obtain ⟨u3, rfl, hu3⟩ := hu2
      obtain ⟨rfl, ⟨old, c1⟩, c2⟩ := R.tgt hb hu3
      refine (h5 ⟨M k, 0, none⟩ old w ad (R.inv g hg).2 c1 c2).mono fun e w' ⟨he, w1, hbl, hw⟩ => ?_
      subst he hw
      exact ⟨_, M, rfl, (R.grown (keeps_of hbl)).setPtr hb (VA_turns (R.keeps_turn (keeps_of hbl)) _ _ hp1), by simp only [VA, VP]⟩
    · simp at h
  · exact asP_raw hent hg h1 h2 h3 args hp nx v hp' nx' h
theorem as2P_asP {args : List AV} {hp : Hl} {nx : Nat} {r : AV × Hl × Nat} (h : asP args hp nx = some r) : as2P args hp nx = some r := by
  unfold as2P
  split
  · simp [asP] at h
  · simp [asP] at h
  · simp [asP] at h
  · exact h
structure StdA2 (T : Tab) (n : Nat) : Prop where
  prim : T.prim n = some as2P
  raw : T.raw n = true
theorem StdA2.a {T : Tab} {n : Nat} (S : StdA2 T n) : StdA T n := ⟨⟨_, S.prim, fun _ _ _ _ h => as2P_asP h⟩, S.raw⟩
section
variable {T : Tab} {n : Nat} (S : StdA2 T n)
include S
theorem as2_nilQ {k : Nat} {d : Option Nat} {l : List AOper} {st : St} {K : St → Prop} :
    callQ T n [.pv .nili, .iface 2 (.ptr k 0 0)] d l st K ↔ WpO T l ⟨putS st d (.pv (.bool false)), st.hp, st.nx⟩ K := by
  have h : as2P [.pv .nili, .iface 2 (.ptr k 0 0)] st.hp st.nx = some (.pv (.bool false), st.hp, st.nx) := by simp only [as2P]
  unfold callQ doCall
  simp only [S.raw, D_prim S.prim h, Option.some.injEq]
  constructor
  · rintro ⟨st', rfl, h⟩; exact h
  · exact fun h => ⟨_, rfl, h⟩
theorem as2_codeQ {k : Nat} {m : Int} {d : Option Nat} {l : List AOper} {st : St} {K : St → Prop} (hb : blkAt st.hp k = .var [.pv .nilp]) :
    callQ T n [.pv (.iface 0 (.int .i64 m)), .iface 2 (.ptr k 0 0)] d l st K ↔ WpO T l ⟨putS st d (.pv (.bool false)), st.hp, st.nx⟩ K := by
  have h : as2P [.pv (.iface 0 (.int .i64 m)), .iface 2 (.ptr k 0 0)] st.hp st.nx = some (.pv (.bool false), st.hp, st.nx) := by simp only [as2P, hb]
  unfold callQ doCall
  simp only [S.raw, D_prim S.prim h, Option.some.injEq]
  constructor
  · rintro ⟨st', rfl, h⟩; exact h
  · exact fun h => ⟨_, rfl, h⟩
theorem as2_spotQ {k : Nat} {a m : Int} {d : Option Nat} {l : List AOper} {st : St} {K : St → Prop} (hb : blkAt st.hp k = .var [.pv .nilp]) :
    callQ T n [.pv (.iface 1 (.cptr [.int .i64 a, .int .i64 m] 0)), .iface 2 (.ptr k 0 0)] d l st K ↔ WpO T l ⟨putS st d (.pv (.bool true)), (k, .var [.pv (.cptr [.int .i64 a, .int .i64 m] 0)]) :: st.hp, st.nx⟩ K := by
  have h : as2P [.pv (.iface 1 (.cptr [.int .i64 a, .int .i64 m] 0)), .iface 2 (.ptr k 0 0)] st.hp st.nx = some (.pv (.bool true), (k, .var [.pv (.cptr [.int .i64 a, .int .i64 m] 0)]) :: st.hp, st.nx) := by simp only [as2P, hb]
  unfold callQ doCall
  simp only [S.raw, D_prim S.prim h, Option.some.injEq]
  constructor
  · rintro ⟨st', rfl, h⟩; exact h
  · exact fun h => ⟨_, rfl, h⟩
end
end Go.Proofs.YtlfphlobcopemaaDoor.Ab
set_option linter.unusedVariables false
set_option linter.unusedSimpArgs false
namespace Go.Proofs.YtlfphlobcopemaaDoor.Ab
open Go
/-! ### Of -/
def codesOf : PV → List Int
  | .iface 0 (.int _ n) => [n]
  | .iface 1 (.cptr [_, .int _ n] _) => [n]
  | _ => []
def codeNo (r : PV) : Int := (codesOf r).headD 0
def atNo : PV → Int
  | .iface 1 (.cptr [.int _ a, _] _) => a
  | _ => -1
section
variable {T : Tab}
theorem of_ok (h104 : Std T 104 f104) (h102 : Std T 102 f102) (A : StdA2 T 266) {r : PV} (hr : ErrV r) (hc : ∀ n, r = codeE n → 1 ≤ n ∧ n ≤ 17) : Gives T 104 [r] (.tuple [.int .i64 (codeNo r), .int .i64 (atNo r)]) := by
  refine gives h104 rfl ?_
  rcases hr with rfl | ⟨a, n, rfl⟩ | ⟨n, rfl⟩
  · have k := code_nil h102
    simp only [f104, runL, opQ, evOp, evO, evOs, guardV, argsA, pvs, putS, cellsOf, scals, scal, Nat.reduceEqDiff, Nat.reduceAdd, reduceCtorEq, fieldA, nonNil, cellsAt, mkAgg, allPV, storeB, patchL, Int.reduceToNat, Nat.reduceMul, Nat.reduceLT, stepA, Int.reduceNeg, Int.reduceLE, Int.reduceLT, Int.reduceEq, extractV, mkAgg, Nat.reduceLeDiff, fillA, pureVs, pureV, eqV, eqB, lenV.eq_1, lenV.eq_2, lenV.eq_3, lenV.eq_4, binV, intBin, intV, idxA, List.drop, List.take, RetP, retP, resV, resOne, snapV, snapVs, snapR, snapRs, ownSz, pickV, AO.isC, opE, opD, funV.eq_1, funV.eq_2, as2_nilQ A, k.call, codeNo, codesOf, atNo, List.headD_nil]
  · simp only [f104, runL, opQ, evOp, evO, evOs, guardV, argsA, pvs, putS, cellsOf, scals, scal, Nat.reduceEqDiff, Nat.reduceAdd, reduceCtorEq, fieldA, nonNil, cellsAt, mkAgg, allPV, storeB, patchL, Int.reduceToNat, Nat.reduceMul, Nat.reduceLT, stepA, Int.reduceNeg, Int.reduceLE, Int.reduceLT, Int.reduceEq, extractV, mkAgg, Nat.reduceLeDiff, fillA, pureVs, pureV, eqV, eqB, lenV.eq_1, lenV.eq_2, lenV.eq_3, lenV.eq_4, binV, intBin, intV, idxA, List.drop, List.take, RetP, retP, resV, resOne, snapV, snapVs, snapR, snapRs, ownSz, pickV, AO.isC, opE, opD, funV.eq_1, funV.eq_2, spotE]
    rw [as2_spotQ A (by simp only [blkAt_if, if_true])]
    simp only [runL, opQ, evOp, evO, evOs, guardV, argsA, pvs, putS, cellsOf, scals, scal, Nat.reduceEqDiff, Nat.reduceAdd, reduceCtorEq, fieldA, nonNil, cellsAt, mkAgg, allPV, storeB, patchL, Int.reduceToNat, Nat.reduceMul, Nat.reduceLT, stepA, Int.reduceNeg, Int.reduceLE, Int.reduceLT, Int.reduceEq, extractV, mkAgg, Nat.reduceLeDiff, fillA, pureVs, pureV, eqV, eqB, lenV.eq_1, lenV.eq_2, lenV.eq_3, lenV.eq_4, binV, intBin, intV, idxA, List.drop, List.take, RetP, retP, resV, resOne, snapV, snapVs, snapR, snapRs, ownSz, pickV, AO.isC, opE, opD, funV.eq_1, funV.eq_2]
    refine (Wp_calm rfl).2 ?_
    simp only [runL, opQ, evOp, evO, evOs, guardV, argsA, pvs, putS, cellsOf, scals, scal, Nat.reduceEqDiff, Nat.reduceAdd, reduceCtorEq, fieldA, nonNil, cellsAt, mkAgg, allPV, storeB, patchL, Int.reduceToNat, Nat.reduceMul, Nat.reduceLT, stepA, Int.reduceNeg, Int.reduceLE, Int.reduceLT, Int.reduceEq, extractV, mkAgg, Nat.reduceLeDiff, fillA, pureVs, pureV, eqV, eqB, lenV.eq_1, lenV.eq_2, lenV.eq_3, lenV.eq_4, binV, intBin, intV, idxA, List.drop, List.take, RetP, retP, resV, resOne, snapV, snapVs, snapR, snapRs, ownSz, pickV, AO.isC, opE, opD, funV.eq_1, funV.eq_2, codeNo, codesOf, atNo, List.headD_cons]
  · have k := code_code h102 n (hc n rfl).1 (hc n rfl).2
    simp only [codeE] at k
    simp only [f104, runL, opQ, evOp, evO, evOs, guardV, argsA, pvs, putS, cellsOf, scals, scal, Nat.reduceEqDiff, Nat.reduceAdd, reduceCtorEq, fieldA, nonNil, cellsAt, mkAgg, allPV, storeB, patchL, Int.reduceToNat, Nat.reduceMul, Nat.reduceLT, stepA, Int.reduceNeg, Int.reduceLE, Int.reduceLT, Int.reduceEq, extractV, mkAgg, Nat.reduceLeDiff, fillA, pureVs, pureV, eqV, eqB, lenV.eq_1, lenV.eq_2, lenV.eq_3, lenV.eq_4, binV, intBin, intV, idxA, List.drop, List.take, RetP, retP, resV, resOne, snapV, snapVs, snapR, snapRs, ownSz, pickV, AO.isC, opE, opD, funV.eq_1, funV.eq_2, codeE]
    rw [as2_codeQ A (by simp only [blkAt_if, if_true])]
    simp only [runL, opQ, evOp, evO, evOs, guardV, argsA, pvs, putS, cellsOf, scals, scal, Nat.reduceEqDiff, Nat.reduceAdd, reduceCtorEq, fieldA, nonNil, cellsAt, mkAgg, allPV, storeB, patchL, Int.reduceToNat, Nat.reduceMul, Nat.reduceLT, stepA, Int.reduceNeg, Int.reduceLE, Int.reduceLT, Int.reduceEq, extractV, mkAgg, Nat.reduceLeDiff, fillA, pureVs, pureV, eqV, eqB, lenV.eq_1, lenV.eq_2, lenV.eq_3, lenV.eq_4, binV, intBin, intV, idxA, List.drop, List.take, RetP, retP, resV, resOne, snapV, snapVs, snapR, snapRs, ownSz, pickV, AO.isC, opE, opD, funV.eq_1, funV.eq_2, k.call, codeNo, codesOf, atNo, List.headD_cons]
/-! ### All -/
theorem all_step {fs : List PV} {i n : Nat} {a b r : PV} (hi : i < 5) (hf : fs[i]? = some (.func n [] [a, b])) (k : Gives T n [a, b] r) (hr : ErrV r) (A : StdA T 266) (Q : Exit → St → Prop) (acc : List Int) (ha : acc.length ≤ 10) (fr : List (Nat × AV)) (hp : Hl) (nx : Nat) (hnx : 3 ≤ nx)
    (h7 : Own (look fr 7) hp 1 (acc.map i64C) 3 nx) (h14 : look fr 14 = .pv (.agg fs)) (h15 : look fr 15 = .pv (.int .i64 i))
    (hn : ∀ fr' hp' nx', 3 ≤ nx' → Own (look fr' 7) hp' 1 ((acc ++ codesOf r).map i64C) 3 nx' → look fr' 14 = .pv (.agg fs) → look fr' 15 = .pv (.int .i64 ((i + 1 : Nat) : Int)) → Wp T false (.loop f361l0) ⟨fr', hp', nx'⟩ Q) : Wp T false (.loop f361l0) ⟨fr, hp, nx⟩ Q := by
  have hlt : (i : Int) < 5 := by omega
  have hw : IntKind.i64.wrap ((i : Int) + 1) = ((i + 1 : Nat) : Int) := by rw [wrap6] <;> omega
  have hld : loadV false 1 (List.drop (i * 1) (pvs fs)) = some (.pv (.func n [] [a, b])) := by
    have hlen : i < fs.length := (List.getElem?_eq_some_iff.1 hf).1
    have hl2 : i < (pvs fs).length := by rw [pvs_length]; exact hlen
    have hg : (pvs fs)[i]? = some (.pv (.func n [] [a, b])) := by rw [pvs_get, hf]; rfl
    have hg2 : (pvs fs)[i] = .pv (.func n [] [a, b]) := by
      rw [List.getElem?_eq_getElem hl2] at hg
      simpa using hg
    rw [Nat.mul_one, List.drop_eq_getElem_cons hl2, hg2]
    rfl
  rw [Wp_loop, Wp_eq f361l0.eq_1]
  rcases hr with rfl | ⟨c, m, rfl⟩ | ⟨m, rfl⟩
  · simp only [runL, opQ, evOp, evO, evOs, guardV, argsA, pvs, putS, cellsOf, scals, scal, Nat.reduceEqDiff, Nat.reduceAdd, reduceCtorEq, fieldA, nonNil, cellsAt, mkAgg, allPV, storeB, patchL, Int.reduceToNat, Nat.reduceMul, Nat.reduceLT, stepA, Int.reduceNeg, Int.reduceLE, Int.reduceLT, Int.reduceEq, extractV, mkAgg, Nat.reduceLeDiff, fillA, pureVs, pureV, eqV, eqB, lenV.eq_1, lenV.eq_2, lenV.eq_3, lenV.eq_4, binV, intBin, intV, idxA, List.drop, List.take, RetP, retP, resV, resOne, snapV, snapVs, snapR, snapRs, ownSz, pickV, AO.isC, opE, opD, funV.eq_1, funV.eq_2, funQ_some, aggV, h14, h15, hlt, hi, hld, k.call, as_nilQ A, hw]
    refine hn _ _ _ ?_ ?_ ?_ ?_
    · omega
    · simp only [look_if, blkAt_if, Nat.reduceEqDiff, if_true, if_false, codesOf, List.append_nil]
      exact (h7.over (.inr (Nat.le_refl _))).up (Nat.le_succ nx)
    all_goals try simp only [look_if, blkAt_if, Nat.reduceEqDiff, if_true, if_false, h14, h15]
  · have hp1 := ((h7.over (i := nx) (b := .var [.pv (.int .i64 0)]) (.inr (Nat.le_refl _))).over (i := nx) (b := .var [.pv (.int .i64 m)]) (.inr (Nat.le_refl _))).up (Nat.le_succ nx)
    obtain ⟨v', W, q, a1, a2, a3⟩ := hp1.app1 (by omega) (i64C m) (by rw [List.length_map]; omega)
    simp only [i64C] at a1 a3
    simp only [spotE] at k
    simp only [runL, opQ, evOp, evO, evOs, guardV, argsA, pvs, putS, cellsOf, scals, scal, Nat.reduceEqDiff, Nat.reduceAdd, reduceCtorEq, fieldA, nonNil, cellsAt, mkAgg, allPV, storeB, patchL, Int.reduceToNat, Nat.reduceMul, Nat.reduceLT, stepA, Int.reduceNeg, Int.reduceLE, Int.reduceLT, Int.reduceEq, extractV, mkAgg, Nat.reduceLeDiff, fillA, pureVs, pureV, eqV, eqB, lenV.eq_1, lenV.eq_2, lenV.eq_3, lenV.eq_4, binV, intBin, intV, idxA, List.drop, List.take, RetP, retP, resV, resOne, snapV, snapVs, snapR, snapRs, ownSz, pickV, AO.isC, opE, opD, funV.eq_1, funV.eq_2, funQ_some, aggV, h14, h15, hlt, hi, hld, k.call]
    rw [as_spotQ A (o := 0) (by simp only [blkAt_if, if_true])]
    simp only [runL, opQ, evOp, evO, evOs, guardV, argsA, pvs, putS, cellsOf, scals, scal, Nat.reduceEqDiff, Nat.reduceAdd, reduceCtorEq, fieldA, nonNil, cellsAt, mkAgg, allPV, storeB, patchL, Int.reduceToNat, Nat.reduceMul, Nat.reduceLT, stepA, Int.reduceNeg, Int.reduceLE, Int.reduceLT, Int.reduceEq, extractV, mkAgg, Nat.reduceLeDiff, fillA, pureVs, pureV, eqV, eqB, lenV.eq_1, lenV.eq_2, lenV.eq_3, lenV.eq_4, binV, intBin, intV, idxA, List.drop, List.take, RetP, retP, resV, resOne, snapV, snapVs, snapR, snapRs, ownSz, pickV, AO.isC, opE, opD, funV.eq_1, funV.eq_2, partsScal, srcV, chunk, allLen, List.all_cons, List.all_nil, a1, h14, h15, hw]
    refine hn _ _ _ ?_ ?_ ?_ ?_
    · omega
    · simp only [look_if, blkAt_if, Nat.reduceEqDiff, if_true, if_false, codesOf, spotE, List.map_append, List.map_cons, List.map_nil]
      exact a3
    all_goals try simp only [look_if, blkAt_if, Nat.reduceEqDiff, if_true, if_false, h14, h15]
  · have hp1 := ((h7.over (i := nx) (b := .var [.pv (.int .i64 0)]) (.inr (Nat.le_refl _))).over (i := nx) (b := .var [.pv (.int .i64 m)]) (.inr (Nat.le_refl _))).up (Nat.le_succ nx)
    obtain ⟨v', W, q, a1, a2, a3⟩ := hp1.app1 (by omega) (i64C m) (by rw [List.length_map]; omega)
    simp only [i64C] at a1 a3
    simp only [codeE] at k
    simp only [runL, opQ, evOp, evO, evOs, guardV, argsA, pvs, putS, cellsOf, scals, scal, Nat.reduceEqDiff, Nat.reduceAdd, reduceCtorEq, fieldA, nonNil, cellsAt, mkAgg, allPV, storeB, patchL, Int.reduceToNat, Nat.reduceMul, Nat.reduceLT, stepA, Int.reduceNeg, Int.reduceLE, Int.reduceLT, Int.reduceEq, extractV, mkAgg, Nat.reduceLeDiff, fillA, pureVs, pureV, eqV, eqB, lenV.eq_1, lenV.eq_2, lenV.eq_3, lenV.eq_4, binV, intBin, intV, idxA, List.drop, List.take, RetP, retP, resV, resOne, snapV, snapVs, snapR, snapRs, ownSz, pickV, AO.isC, opE, opD, funV.eq_1, funV.eq_2, funQ_some, aggV, h14, h15, hlt, hi, hld, k.call]
    rw [as_codeQ A (o := 0) (by simp only [blkAt_if, if_true])]
    simp only [runL, opQ, evOp, evO, evOs, guardV, argsA, pvs, putS, cellsOf, scals, scal, Nat.reduceEqDiff, Nat.reduceAdd, reduceCtorEq, fieldA, nonNil, cellsAt, mkAgg, allPV, storeB, patchL, Int.reduceToNat, Nat.reduceMul, Nat.reduceLT, stepA, Int.reduceNeg, Int.reduceLE, Int.reduceLT, Int.reduceEq, extractV, mkAgg, Nat.reduceLeDiff, fillA, pureVs, pureV, eqV, eqB, lenV.eq_1, lenV.eq_2, lenV.eq_3, lenV.eq_4, binV, intBin, intV, idxA, List.drop, List.take, RetP, retP, resV, resOne, snapV, snapVs, snapR, snapRs, ownSz, pickV, AO.isC, opE, opD, funV.eq_1, funV.eq_2, partsScal, srcV, chunk, allLen, List.all_cons, List.all_nil, a1, h14, h15, hw]
    refine hn _ _ _ ?_ ?_ ?_ ?_
    · omega
    · simp only [look_if, blkAt_if, Nat.reduceEqDiff, if_true, if_false, codesOf, codeE, List.map_append, List.map_cons, List.map_nil]
      exact a3
    all_goals try simp only [look_if, blkAt_if, Nat.reduceEqDiff, if_true, if_false, h14, h15]
def allL (s : Snap) (x : Spec) (t : State) : List Int := (errsL s x t).flatMap codesOf
theorem codesOf_le {r : PV} (h : ErrV r) : (codesOf r).length ≤ 1 := by
  rcases h with rfl | ⟨a, n, rfl⟩ | ⟨n, rfl⟩ <;> simp [codesOf, spotE, codeE]
theorem all_ok (S : Std11 T) (h361 : Std T 361 f361) (s : Snap) (x : Spec) (t : State) (hn : s.nodes.length ≤ 2 ^ 29) (hl : t.pods.length ≤ 2 ^ 29) (hll : s.loads.length ≤ 2 ^ 29) (hw : ∀ p ∈ t.pods, p.wf) : Gives T 361 [snapP s, specP x, stateP t] (.slice ((allL s x t).map i64C)) := by
  have k0 := five_ok S s x t
  have k1 := c225_ok S s t hn hl hw
  have k2 := c226_ok S s t hll hl
  have k3 := c227_ok S s t hn hl hll
  have k4 := c228_ok S s t hl hll
  have k5 := c229_ok S x t
  have v1 := errV_O (roomFrom s t.pods 0 s.nodes)
  have v2 := errV_O (apartFrom s.loads [] t.pods)
  have v3 := errV_O (spreadFrom s t.pods 0 s.loads)
  have v4 := errV_O (badLoad t.pods 0 s.loads)
  have v5 := errV_used x t
  have e : allL s x t = ((((([] ++ codesOf (errO (roomFrom s t.pods 0 s.nodes))) ++ codesOf (errO (apartFrom s.loads [] t.pods))) ++ codesOf (errO (spreadFrom s t.pods 0 s.loads))) ++ codesOf (errO (badLoad t.pods 0 s.loads))) ++ codesOf (cond (usedB x t) (codeE 15) .nili)) := by
    simp only [allL, errsL, List.flatMap_cons, List.flatMap_nil, List.nil_append, List.append_nil, List.append_assoc]
  rw [e]
  generalize errO (roomFrom s t.pods 0 s.nodes) = r1 at *
  generalize errO (apartFrom s.loads [] t.pods) = r2 at *
  generalize errO (spreadFrom s t.pods 0 s.loads) = r3 at *
  generalize errO (badLoad t.pods 0 s.loads) = r4 at *
  generalize cond (usedB x t) (codeE 15) .nili = r5 at *
  have l1 := codesOf_le v1
  have l2 := codesOf_le v2
  have l3 := codesOf_le v3
  have l4 := codesOf_le v4
  simp only [snapP, specP, stateP] at k0
  refine gives h361 rfl ?_
  simp only [f361, runL, opQ, evOp, evO, evOs, guardV, argsA, pvs, putS, cellsOf, scals, scal, Nat.reduceEqDiff, Nat.reduceAdd, reduceCtorEq, fieldA, nonNil, cellsAt, mkAgg, allPV, storeB, patchL, Int.reduceToNat, Nat.reduceMul, Nat.reduceLT, stepA, Int.reduceNeg, Int.reduceLE, Int.reduceLT, Int.reduceEq, extractV, mkAgg, Nat.reduceLeDiff, fillA, pureVs, pureV, eqV, eqB, lenV.eq_1, lenV.eq_2, lenV.eq_3, lenV.eq_4, binV, intBin, intV, idxA, List.drop, List.take, RetP, retP, resV, resOne, snapV, snapVs, snapR, snapRs, ownSz, pickV, AO.isC, opE, opD, funV.eq_1, funV.eq_2, snapP, specP, stateP, k0.call]
  refine all_step (i := 0) (by omega) rfl k1 v1 S.h266 _ [] (by simp) _ _ _ ?_ ?_ rfl rfl (fun fr hp nx hx h7 h14 h15 => ?_)
  · omega
  · exact Own.nil
  refine all_step (i := 1) (by omega) rfl k2 v2 S.h266 _ _ (by simp; omega) _ _ _ hx h7 h14 h15 (fun fr hp nx hx h7 h14 h15 => ?_)
  refine all_step (i := 2) (by omega) rfl k3 v3 S.h266 _ _ (by simp; omega) _ _ _ hx h7 h14 h15 (fun fr hp nx hx h7 h14 h15 => ?_)
  refine all_step (i := 3) (by omega) rfl k4 v4 S.h266 _ _ (by simp; omega) _ _ _ hx h7 h14 h15 (fun fr hp nx hx h7 h14 h15 => ?_)
  refine all_step (i := 4) (by omega) rfl k5 v5 S.h266 _ _ (by simp; omega) _ _ _ hx h7 h14 h15 (fun fr hp nx hx h7 h14 h15 => ?_)
  have h15' : look fr 15 = .pv (.int .i64 5) := h15
  rw [Wp_loop, Wp_eq f361l0.eq_1]
  simp only [runL, opQ, evOp, evO, evOs, guardV, argsA, pvs, putS, cellsOf, scals, scal, Nat.reduceEqDiff, Nat.reduceAdd, reduceCtorEq, fieldA, nonNil, cellsAt, mkAgg, allPV, storeB, patchL, Int.reduceToNat, Nat.reduceMul, Nat.reduceLT, stepA, Int.reduceNeg, Int.reduceLE, Int.reduceLT, Int.reduceEq, extractV, mkAgg, Nat.reduceLeDiff, fillA, pureVs, pureV, eqV, eqB, lenV.eq_1, lenV.eq_2, lenV.eq_3, lenV.eq_4, binV, intBin, intV, idxA, List.drop, List.take, RetP, retP, resV, resOne, snapV, snapVs, snapR, snapRs, ownSz, pickV, AO.isC, opE, opD, funV.eq_1, funV.eq_2, h14, h15', Int.lt_irrefl, h7.snap]
end
/-! ### The plain law -/
theorem first_all : ∀ (l : List PV), (∀ e ∈ l, ErrV e) → (l.flatMap codesOf = [] → firstE l = .nili) ∧ (∀ c r, l.flatMap codesOf = c :: r → isNilP (firstE l) = false ∧ codeNo (firstE l) = c)
  | [], _ => ⟨fun _ => rfl, fun c r h => by simp at h⟩
  | e :: r, h => by
    have h1 := h e (List.mem_cons_self ..)
    have h2 := first_all r fun e he => h e (List.mem_cons_of_mem _ he)
    rcases h1 with rfl | ⟨a, n, rfl⟩ | ⟨n, rfl⟩
    · exact h2
    · refine ⟨fun hh => by simp [codesOf, spotE] at hh, fun c q hh => ?_⟩
      simp only [List.flatMap_cons, codesOf, spotE, List.cons_append, List.nil_append, List.cons.injEq] at hh
      exact ⟨rfl, hh.1⟩
    · refine ⟨fun hh => by simp [codesOf, codeE] at hh, fun c q hh => ?_⟩
      simp only [List.flatMap_cons, codesOf, codeE, List.cons_append, List.nil_append, List.cons.injEq] at hh
      exact ⟨rfl, hh.1⟩
def CodeOK (e : PV) : Prop := ∀ n, e = codeE n → 1 ≤ n ∧ n ≤ 17
theorem firstE_code : ∀ (l : List PV), (∀ e ∈ l, CodeOK e) → CodeOK (firstE l)
  | [], _ => fun n h => by simp [firstE, codeE] at h
  | e :: r, h => by
    have h1 := h e (List.mem_cons_self ..)
    have h2 := firstE_code r fun e he => h e (List.mem_cons_of_mem _ he)
    by_cases he : e = .nili
    · subst he
      exact h2
    · rw [firstE_ne he]
      exact h1
theorem codeOK_O (o : Option (Int × Int)) : CodeOK (errO o) := by
  intro n h
  cases o <;> simp [errO, codeE, spotE] at h
theorem why_code (s : Snap) (x : Spec) (t : State) : CodeOK (whyP s x t) := by
  refine firstE_code _ fun e he => ?_
  simp only [errsL, List.mem_cons, List.not_mem_nil, or_false] at he
  rcases he with rfl | rfl | rfl | rfl | rfl
  · exact codeOK_O _
  · exact codeOK_O _
  · exact codeOK_O _
  · exact codeOK_O _
  · intro n h
    cases hu : usedB x t with
    | false => simp [hu, codeE] at h
    | true =>
      rw [hu] at h
      simp only [cond_true, codeE, PV.iface.injEq, PV.int.injEq, true_and] at h
      omega
/-! ### The walk -/
def l11f : List (Nat × AFunc) := [(68, f68), (69, f69), (70, f70), (71, f71), (72, f72), (81, f81), (82, f82), (84, f84), (102, f102), (104, f104), (153, f153), (163, f163), (219, f219), (220, f220), (221, f221), (222, f222), (223, f223), (224, f224), (225, f225), (226, f226), (227, f227), (228, f228), (229, f229),
  (234, f234), (235, f235), (236, f236), (255, f255), (258, f258), (259, f259), (260, f260), (261, f261), (358, f358), (360, f360), (361, f361)]
def p11f : List (Nat × Prm) := [(256, add1P), (266, as2P), (281, compP), (290, foldP mostL), (291, foldP leastL), (293, sortP)]
def T11f : Tab := tabOf l11f [266, 281, 293] [260, 290, 291] [] [360] p11f
theorem up11f : Gives T11f 360 [] (.bool true) := ⟨rfl, rfl, none, callP_true (k := 60) (by decide +kernel)⟩
theorem A11f : StdA2 T11f 266 := ⟨rfl, rfl⟩
theorem S11f : Std11 T11f where
  s6 := ⟨⟨⟨rfl, rfl, rfl, rfl, rfl⟩, ⟨rfl, rfl, rfl, rfl, rfl⟩, ⟨rfl, rfl, rfl⟩, ⟨rfl, rfl, rfl, rfl, rfl⟩⟩, ⟨rfl, rfl, rfl, rfl, rfl⟩, ⟨rfl, rfl, rfl, rfl, rfl⟩, ⟨rfl, rfl, rfl, rfl, rfl⟩, ⟨rfl, rfl, rfl, rfl, rfl⟩, ⟨rfl, rfl, rfl, rfl, rfl⟩, rfl⟩
  s8 := ⟨⟨rfl, rfl, rfl, rfl, ⟨rfl, rfl, rfl, rfl, rfl⟩⟩, ⟨rfl, rfl, rfl, rfl, rfl⟩, ⟨rfl, rfl, rfl, rfl, rfl⟩, ⟨rfl, rfl, rfl, rfl, rfl⟩, ⟨rfl, rfl, rfl⟩, ⟨rfl, rfl, rfl⟩, rfl, rfl⟩
  h219 := ⟨rfl, rfl, rfl, rfl, rfl⟩
  h266 := A11f.a
  h68 := ⟨rfl, rfl, rfl, rfl, rfl⟩
  h69 := ⟨rfl, rfl, rfl, rfl, rfl⟩
  h81 := ⟨rfl, rfl, rfl, rfl, rfl⟩
  h234 := ⟨rfl, rfl, rfl, rfl, rfl⟩
  h70 := ⟨rfl, rfl, rfl, rfl, rfl⟩
  h71 := ⟨rfl, rfl, rfl, rfl, rfl⟩
  h72 := ⟨rfl, rfl, rfl, rfl, rfl⟩
  h222 := ⟨rfl, rfl, rfl, rfl, rfl⟩
  h223 := ⟨rfl, rfl, rfl, rfl, rfl⟩
  h224 := ⟨rfl, rfl, rfl, rfl, rfl⟩
  h225 := ⟨rfl, rfl, rfl, rfl, rfl⟩
  h226 := ⟨rfl, rfl, rfl, rfl, rfl⟩
  h227 := ⟨rfl, rfl, rfl, rfl, rfl⟩
  h228 := ⟨rfl, rfl, rfl, rfl, rfl⟩
  h229 := ⟨rfl, rfl, rfl, rfl, rfl⟩
set_option maxRecDepth 100000 in
set_option maxHeartbeats 4000000 in
theorem law11a (s : Snap) (x : Spec) (t : State) (_ : s.wf) (hx : x.wf) (ht : t.wf) : Gives T11f 358 [snapP s, specP x, stateP t] (.bool true) := by
  refine gives (f := f358) ⟨rfl, rfl, rfl, rfl, rfl⟩ rfl ?_
  have kf := few5_ok (T := T11f) ⟨rfl, rfl, rfl, rfl, rfl⟩ ⟨rfl, rfl, rfl, rfl, rfl⟩ s x t
  simp only [snapP, specP, stateP] at kf
  cases hf : few5 s x t
  · rw [hf] at kf
    simp only [f358, runL, opQ, evOp, evO, evOs, guardV, argsA, pvs, putS, cellsOf, scals, scal, Nat.reduceEqDiff, Nat.reduceAdd, reduceCtorEq, fieldA, nonNil, cellsAt, mkAgg, allPV, storeB, patchL, Int.reduceToNat, Nat.reduceMul, Nat.reduceLT, stepA, Int.reduceNeg, Int.reduceLE, Int.reduceLT, Int.reduceEq, extractV, mkAgg, Nat.reduceLeDiff, fillA, pureVs, pureV, eqV, eqB, lenV.eq_1, lenV.eq_2, lenV.eq_3, lenV.eq_4, binV, intBin, intV, idxA, List.drop, List.take, RetP, retP, resV, resOne, snapV, snapVs, snapR, snapRs, ownSz, pickV, AO.isC, opE, opD, funV.eq_1, funV.eq_2, up11f.call, snapP, specP, stateP, kf.call]
  · have hf' := hf
    simp only [few5, few3, Bool.and_eq_true, decide_eq_true_eq] at hf'
    obtain ⟨⟨l1, l2, l3⟩, l4, l5⟩ := hf'
    rw [hf] at kf
    have ki := is11_ok S11f s x t (by omega) (by omega) (by omega) ht.1
    have kw := why_ok S11f s x t (by omega) (by omega) (by omega) ht.1
    have ka := all_ok S11f ⟨rfl, rfl, rfl, rfl, rfl⟩ s x t (by omega) (by omega) (by omega) ht.1
    have ko := of_ok (T := T11f) ⟨rfl, rfl, rfl, rfl, rfl⟩ ⟨rfl, rfl, rfl, rfl, rfl⟩ A11f (firstE_V _ (errs_V s x t)) (why_code s x t)
    have hfa := first_all (errsL s x t) (errs_V s x t)
    have e1 : firstE (errsL s x t) = whyP s x t := rfl
    have e2 : (errsL s x t).flatMap codesOf = allL s x t := rfl
    rw [e1] at ko
    rw [e1, e2] at hfa
    simp only [snapP, specP, stateP] at ki kw ka
    cases hl : allL s x t with
    | nil =>
      have hw := hfa.1 hl
      rw [hl, List.map_nil] at ka
      rw [hw] at ki kw ko
      simp only [isNilP] at ki
      have z0 : ((0 : Nat) : Int) = 0 := rfl
      simp only [f358, runL, opQ, evOp, evO, evOs, guardV, argsA, pvs, putS, cellsOf, scals, scal, Nat.reduceEqDiff, Nat.reduceAdd, reduceCtorEq, fieldA, nonNil, cellsAt, mkAgg, allPV, storeB, patchL, Int.reduceToNat, Nat.reduceMul, Nat.reduceLT, stepA, Int.reduceNeg, Int.reduceLE, Int.reduceLT, Int.reduceEq, extractV, mkAgg, Nat.reduceLeDiff, fillA, pureVs, pureV, eqV, eqB, lenV.eq_1, lenV.eq_2, lenV.eq_3, lenV.eq_4, binV, intBin, intV, idxA, List.drop, List.take, RetP, retP, resV, resOne, snapV, snapVs, snapR, snapRs, ownSz, pickV, AO.isC, opE, opD, funV.eq_1, funV.eq_2, up11f.call, snapP, specP, stateP, kf.call, ka.call, kw.call, ko.call, ki.call, z0]
    | cons c r =>
      obtain ⟨h1, h2⟩ := hfa.2 c r hl
      rw [hl, List.map_cons] at ka
      rw [h1] at ki
      rw [h2] at ko
      have hlen : ¬ (((r.length + 1 : Nat) : Int) = 0) := by omega
      simp only [f358, runL, opQ, evOp, evO, evOs, guardV, argsA, pvs, putS, cellsOf, scals, scal, Nat.reduceEqDiff, Nat.reduceAdd, reduceCtorEq, fieldA, nonNil, cellsAt, mkAgg, allPV, storeB, patchL, Int.reduceToNat, Nat.reduceMul, Nat.reduceLT, stepA, Int.reduceNeg, Int.reduceLE, Int.reduceLT, Int.reduceEq, extractV, mkAgg, Nat.reduceLeDiff, fillA, pureVs, pureV, eqV, eqB, lenV.eq_1, lenV.eq_2, lenV.eq_3, lenV.eq_4, binV, intBin, intV, idxA, List.drop, List.take, RetP, retP, resV, resOne, snapV, snapVs, snapR, snapRs, ownSz, pickV, AO.isC, opE, opD, funV.eq_1, funV.eq_2, up11f.call, snapP, specP, stateP, kf.call, ka.call, kw.call, ko.call, ki.call, List.length_map, hlen, i64C]
end Go.Proofs.YtlfphlobcopemaaDoor.Ab
