/- The layer, part 2: Sp5b, Ab48, Ab49, Sp5c. -/
import Derived.Test.YthkkelmafjobgaaA1
/- Layer 5: contracts of state. -/
set_option linter.unusedVariables false
set_option linter.unusedSimpArgs false
namespace Go.Proofs.Ythkkelmafjobgaa.Ab
open Go

section
variable {T : Tab}

/-- The first one's place, from here on. -/
def findFrom (P : List PV → Bool) : Nat → List (List PV) → Int
  | _, [] => -1
  | i, e :: r => if P e = true then i else findFrom P (i + 1) r

theorem index_ok {n : Nat} {cs : List PV} (P : List PV → Bool) (h287 : Std T 287 f287) (es : List (List PV)) (h : es.length ≤ 2 ^ 30) (hl : ∀ e ∈ es, e.length = 8) (hP : ∀ e ∈ es, Gives T n (.agg e :: cs) (.bool (P e))) :
    Gives T 287 [.slice es, .func n [] cs] (.int .i64 (findFrom P 0 es)) := by
  refine gives h287 rfl ?_
  simp only [f287, Wp_seq, Wp_ops, Wp_cond, Wp_skip, Wp_ret, Wp_exit, Wp_block, WpO_cons, WpO_nil, opQ, evOp, evO, evOs, evQ_some, guardV, guardQ_true, guardQ_false, boolQ_true, boolQ_false, argsA, pvs, putS, cellsOf, scals, scal, seqQ_normal, seqQ_ret, seqQ_exit, blkQ_normal, blkQ_ret, blkQ_exit, look_if, blkAt_if, if_true, if_false, Nat.reduceEqDiff, Nat.reduceAdd, true_implies, reduceCtorEq, false_implies, and_true, true_and, List.nil_append, List.cons_append, Bool.and_self, Nat.zero_add, Nat.add_zero, fieldA, nonNil, cellsAt, loadV_one, loadV_pvs, loadV_cons, mkAgg, allPV, List.drop_zero, List.drop_succ_cons, List.take_succ_cons, List.take_zero, List.length_cons, List.length_nil, Nat.beq_eq, storeB, patchL, beq_self_eq_true, ge_iff_le, gt_iff_lt, Int.reduceNeg, Int.reduceLE, Int.reduceLT, Int.reduceEq, extractV, List.getElem?_cons_zero, List.getElem?_cons_succ, mkAgg, Nat.add_eq_left, Nat.left_eq_add, Nat.one_ne_zero, ble_dec, beq_dec, decide_eq_true_eq, Nat.reduceLeDiff, Nat.le_refl, fillA, pureVs, pureV, beq_int, bne_int, Int.natCast_inj, eq_self, eqV, eqB, decide_true, decide_false, List.length_map, Int.toNat_natCast, List.getElem?_map, Option.map_some, Option.map_none, Int.natCast_nonneg, Option.some.injEq, lenV, binV, intBin, intV, idxA, ne_eq, not_true_eq_false, not_false_eq_true, List.drop, List.take, RetP, retP, resV, resOne, snapV, snapVs, snapR, ownSz, pickV, cond_true, cond_false, bTT, bTF, bFT, bFF, Bool.not_true, Bool.not_false, WpD_cons, WpD_nil, opD, evD_some, guardD_true, guardD_false]
  have loop : ∀ (rest : List (List PV)) (i : Nat) (fr : List (Nat × AV)), es.drop i = rest → i ≤ es.length → look fr 8 = .pv (.int .i64 i) → look fr 7 = .pv (.int .i64 es.length) → look fr 0 = .pv (.slice es) → look fr 1 = .pv (.func n [] cs) →
      Wp T false (.loop f287l0) ⟨fr, [], 0⟩
        (blkQ 0 (seqQ T false (.seq (.ops [⟨some 4, .mv (.c (.pv (.int .i64 (-1)))), none, []⟩]) .ret) (RetP [.t 4] (.int .i64 (findFrom P i rest))))) := by
    intro rest
    induction rest with
    | nil =>
      intro i fr hd hi h8 h7 h0 h1
      have hlen : es.length = i := by
        have := congrArg List.length hd
        simp at this
        omega
      rw [Wp_loop, Wp_eq f287l0.eq_1]
      simp only [Wp_seq, Wp_ops, Wp_cond, Wp_skip, Wp_ret, Wp_exit, Wp_block, WpO_cons, WpO_nil, opQ, evOp, evO, evOs, evQ_some, guardV, guardQ_true, guardQ_false, boolQ_true, boolQ_false, argsA, pvs, putS, cellsOf, scals, scal, seqQ_normal, seqQ_ret, seqQ_exit, blkQ_normal, blkQ_ret, blkQ_exit, look_if, blkAt_if, if_true, if_false, Nat.reduceEqDiff, Nat.reduceAdd, true_implies, reduceCtorEq, false_implies, and_true, true_and, List.nil_append, List.cons_append, Bool.and_self, Nat.zero_add, Nat.add_zero, fieldA, nonNil, cellsAt, loadV_one, loadV_pvs, loadV_cons, mkAgg, allPV, List.drop_zero, List.drop_succ_cons, List.take_succ_cons, List.take_zero, List.length_cons, List.length_nil, Nat.beq_eq, storeB, patchL, beq_self_eq_true, ge_iff_le, gt_iff_lt, Int.reduceNeg, Int.reduceLE, Int.reduceLT, Int.reduceEq, extractV, List.getElem?_cons_zero, List.getElem?_cons_succ, mkAgg, Nat.add_eq_left, Nat.left_eq_add, Nat.one_ne_zero, ble_dec, beq_dec, decide_eq_true_eq, Nat.reduceLeDiff, Nat.le_refl, fillA, pureVs, pureV, beq_int, bne_int, Int.natCast_inj, eq_self, eqV, eqB, decide_true, decide_false, List.length_map, Int.toNat_natCast, List.getElem?_map, Option.map_some, Option.map_none, Int.natCast_nonneg, Option.some.injEq, lenV, binV, intBin, intV, idxA, ne_eq, not_true_eq_false, not_false_eq_true, List.drop, List.take, RetP, retP, resV, resOne, snapV, snapVs, snapR, ownSz, pickV, cond_true, cond_false, bTT, bTF, bFT, bFF, Bool.not_true, Bool.not_false, WpD_cons, WpD_nil, opD, evD_some, guardD_true, guardD_false, h8, h7, h0, h1, hlen, Int.lt_irrefl, findFrom]
    | cons e r ih =>
      intro i fr hd hi h8 h7 h0 h1
      have hget : es[i]? = some e := by
        have := congrArg (·[0]?) hd
        simpa using this
      have hmem : e ∈ es := List.mem_of_getElem? hget
      have hlt : i < es.length := (List.getElem?_eq_some_iff.1 hget).1
      have hlt' : (i : Int) < (es.length : Int) := by omega
      have hw : IntKind.i64.wrap ((i : Int) + 1) = ((i + 1 : Nat) : Int) := by rw [wrap6] <;> omega
      have hc : pureVs (.pv (.agg e) :: pvs cs) = some (.agg e :: cs) := by
        have : pureVs (pvs (.agg e :: cs)) = some (.agg e :: cs) := pureVs_pvs _
        exact this
      rw [Wp_loop, Wp_eq f287l0.eq_1]
      simp only [Wp_seq, Wp_ops, Wp_cond, Wp_skip, Wp_ret, Wp_exit, Wp_block, WpO_cons, WpO_nil, opQ, evOp, evO, evOs, evQ_some, guardV, guardQ_true, guardQ_false, boolQ_true, boolQ_false, argsA, pvs, putS, cellsOf, scals, scal, seqQ_normal, seqQ_ret, seqQ_exit, blkQ_normal, blkQ_ret, blkQ_exit, look_if, blkAt_if, if_true, if_false, Nat.reduceEqDiff, Nat.reduceAdd, true_implies, reduceCtorEq, false_implies, and_true, true_and, List.nil_append, List.cons_append, Bool.and_self, Nat.zero_add, Nat.add_zero, fieldA, nonNil, cellsAt, loadV_one, loadV_pvs, loadV_cons, mkAgg, allPV, List.drop_zero, List.drop_succ_cons, List.take_succ_cons, List.take_zero, List.length_cons, List.length_nil, Nat.beq_eq, storeB, patchL, beq_self_eq_true, ge_iff_le, gt_iff_lt, Int.reduceNeg, Int.reduceLE, Int.reduceLT, Int.reduceEq, extractV, List.getElem?_cons_zero, List.getElem?_cons_succ, mkAgg, Nat.add_eq_left, Nat.left_eq_add, Nat.one_ne_zero, ble_dec, beq_dec, decide_eq_true_eq, Nat.reduceLeDiff, Nat.le_refl, fillA, pureVs, pureV, beq_int, bne_int, Int.natCast_inj, eq_self, eqV, eqB, decide_true, decide_false, List.length_map, Int.toNat_natCast, List.getElem?_map, Option.map_some, Option.map_none, Int.natCast_nonneg, Option.some.injEq, lenV, binV, intBin, intV, idxA, ne_eq, not_true_eq_false, not_false_eq_true, List.drop, List.take, RetP, retP, resV, resOne, snapV, snapVs, snapR, ownSz, pickV, cond_true, cond_false, bTT, bTF, bFT, bFF, Bool.not_true, Bool.not_false, WpD_cons, WpD_nil, opD, evD_some, guardD_true, guardD_false, h8, h7, h0, h1, hlt', hget, hl e hmem, funV, funQ_some, List.append_nil]
      rw [(hP e hmem).call _ _ _ _ _ (by simp only [hc])]
      cases hp : P e
      · simp only [Wp_seq, Wp_ops, Wp_cond, Wp_skip, Wp_ret, Wp_exit, Wp_block, WpO_cons, WpO_nil, opQ, evOp, evO, evOs, evQ_some, guardV, guardQ_true, guardQ_false, boolQ_true, boolQ_false, argsA, pvs, putS, cellsOf, scals, scal, seqQ_normal, seqQ_ret, seqQ_exit, blkQ_normal, blkQ_ret, blkQ_exit, look_if, blkAt_if, if_true, if_false, Nat.reduceEqDiff, Nat.reduceAdd, true_implies, reduceCtorEq, false_implies, and_true, true_and, List.nil_append, List.cons_append, Bool.and_self, Nat.zero_add, Nat.add_zero, fieldA, nonNil, cellsAt, loadV_one, loadV_pvs, loadV_cons, mkAgg, allPV, List.drop_zero, List.drop_succ_cons, List.take_succ_cons, List.take_zero, List.length_cons, List.length_nil, Nat.beq_eq, storeB, patchL, beq_self_eq_true, ge_iff_le, gt_iff_lt, Int.reduceNeg, Int.reduceLE, Int.reduceLT, Int.reduceEq, extractV, List.getElem?_cons_zero, List.getElem?_cons_succ, mkAgg, Nat.add_eq_left, Nat.left_eq_add, Nat.one_ne_zero, ble_dec, beq_dec, decide_eq_true_eq, Nat.reduceLeDiff, Nat.le_refl, fillA, pureVs, pureV, beq_int, bne_int, Int.natCast_inj, eq_self, eqV, eqB, decide_true, decide_false, List.length_map, Int.toNat_natCast, List.getElem?_map, Option.map_some, Option.map_none, Int.natCast_nonneg, Option.some.injEq, lenV, binV, intBin, intV, idxA, ne_eq, not_true_eq_false, not_false_eq_true, List.drop, List.take, RetP, retP, resV, resOne, snapV, snapVs, snapR, ownSz, pickV, cond_true, cond_false, bTT, bTF, bFT, bFF, Bool.not_true, Bool.not_false, WpD_cons, WpD_nil, opD, evD_some, guardD_true, guardD_false, h8, h7, h0, h1, hw, findFrom, hp]
        refine ih (i + 1) _ ?_ (by omega) ?_ ?_ ?_ ?_
        · rw [← List.drop_drop, hd]; rfl
        all_goals simp only [look_if, Nat.reduceEqDiff, if_true, if_false, h7, h0, h1]
      · simp only [Wp_seq, Wp_ops, Wp_cond, Wp_skip, Wp_ret, Wp_exit, Wp_block, WpO_cons, WpO_nil, opQ, evOp, evO, evOs, evQ_some, guardV, guardQ_true, guardQ_false, boolQ_true, boolQ_false, argsA, pvs, putS, cellsOf, scals, scal, seqQ_normal, seqQ_ret, seqQ_exit, blkQ_normal, blkQ_ret, blkQ_exit, look_if, blkAt_if, if_true, if_false, Nat.reduceEqDiff, Nat.reduceAdd, true_implies, reduceCtorEq, false_implies, and_true, true_and, List.nil_append, List.cons_append, Bool.and_self, Nat.zero_add, Nat.add_zero, fieldA, nonNil, cellsAt, loadV_one, loadV_pvs, loadV_cons, mkAgg, allPV, List.drop_zero, List.drop_succ_cons, List.take_succ_cons, List.take_zero, List.length_cons, List.length_nil, Nat.beq_eq, storeB, patchL, beq_self_eq_true, ge_iff_le, gt_iff_lt, Int.reduceNeg, Int.reduceLE, Int.reduceLT, Int.reduceEq, extractV, List.getElem?_cons_zero, List.getElem?_cons_succ, mkAgg, Nat.add_eq_left, Nat.left_eq_add, Nat.one_ne_zero, ble_dec, beq_dec, decide_eq_true_eq, Nat.reduceLeDiff, Nat.le_refl, fillA, pureVs, pureV, beq_int, bne_int, Int.natCast_inj, eq_self, eqV, eqB, decide_true, decide_false, List.length_map, Int.toNat_natCast, List.getElem?_map, Option.map_some, Option.map_none, Int.natCast_nonneg, Option.some.injEq, lenV, binV, intBin, intV, idxA, ne_eq, not_true_eq_false, not_false_eq_true, List.drop, List.take, RetP, retP, resV, resOne, snapV, snapVs, snapR, ownSz, pickV, cond_true, cond_false, bTT, bTF, bFT, bFF, Bool.not_true, Bool.not_false, WpD_cons, WpD_nil, opD, evD_some, guardD_true, guardD_false, h8, h7, h0, h1, hw, findFrom, hp]
  exact loop es 0 _ rfl (Nat.zero_le _) rfl rfl rfl rfl

theorem place1_ok (h245 : Std T 245 f245) (p : Pod) (id : Int) : Gives T 245 [podP p, .cptr [.int .i64 id] 0] (.bool (decide (p.id = id))) := by
  refine gives h245 rfl ?_
  simp only [f245, Wp_seq, Wp_ops, Wp_cond, Wp_skip, Wp_ret, Wp_exit, Wp_block, WpO_cons, WpO_nil, opQ, evOp, evO, evOs, evQ_some, guardV, guardQ_true, guardQ_false, boolQ_true, boolQ_false, argsA, pvs, putS, cellsOf, scals, scal, seqQ_normal, seqQ_ret, seqQ_exit, blkQ_normal, blkQ_ret, blkQ_exit, look_if, blkAt_if, if_true, if_false, Nat.reduceEqDiff, Nat.reduceAdd, true_implies, reduceCtorEq, false_implies, and_true, true_and, List.nil_append, List.cons_append, Bool.and_self, Nat.zero_add, Nat.add_zero, fieldA, nonNil, cellsAt, loadV_one, loadV_pvs, loadV_cons, mkAgg, allPV, List.drop_zero, List.drop_succ_cons, List.take_succ_cons, List.take_zero, List.length_cons, List.length_nil, Nat.beq_eq, storeB, patchL, beq_self_eq_true, ge_iff_le, gt_iff_lt, Int.reduceNeg, Int.reduceLE, Int.reduceLT, Int.reduceEq, extractV, List.getElem?_cons_zero, List.getElem?_cons_succ, mkAgg, Nat.add_eq_left, Nat.left_eq_add, Nat.one_ne_zero, ble_dec, beq_dec, decide_eq_true_eq, Nat.reduceLeDiff, Nat.le_refl, fillA, pureVs, pureV, beq_int, bne_int, Int.natCast_inj, eq_self, eqV, eqB, decide_true, decide_false, List.length_map, Int.toNat_natCast, List.getElem?_map, Option.map_some, Option.map_none, Int.natCast_nonneg, Option.some.injEq, lenV, binV, intBin, intV, idxA, ne_eq, not_true_eq_false, not_false_eq_true, List.drop, List.take, RetP, retP, resV, resOne, snapV, snapVs, snapR, ownSz, pickV, cond_true, cond_false, bTT, bTF, bFT, bFF, Bool.not_true, Bool.not_false, WpD_cons, WpD_nil, opD, evD_some, guardD_true, guardD_false, podP, podC]

theorem findFrom_place (id : Int) : ∀ (l : List Pod) (i : Nat), findFrom (fun e => match e with | .int _ n :: _ => decide (n = id) | _ => false) i (l.map podC) = placeFrom id i l
  | [], i => rfl
  | p :: r, i => by
    simp only [List.map_cons, findFrom, podC, placeFrom, decide_eq_true_eq]
    split
    · rfl
    · exact findFrom_place id r (i + 1)

/-- What the library's IndexFunc needs. -/
structure Std5 (T : Tab) : Prop where
  h287 : Std T 287 f287
  flat287 : T.flat 287 = true
  h245 : Std T 245 f245
  h244 : Std T 244 f244

theorem place5_ok (S : Std5 T) (t : State) (id : Int) (h : t.pods.length ≤ 2 ^ 30) : Gives T 244 [stateP t, .int .i64 id] (.int .i64 (placeFrom id 0 t.pods)) := by
  refine gives S.h244 rfl ?_
  have k := index_ok (n := 245) (cs := [.cptr [.int .i64 id] 0]) (fun e => match e with | .int _ n :: _ => decide (n = id) | _ => false) S.h287 (t.pods.map podC) (by simpa using h) (fun e he => by
    obtain ⟨p, _, rfl⟩ := List.mem_map.1 he
    rfl) (fun e he => by
    obtain ⟨p, _, rfl⟩ := List.mem_map.1 he
    exact place1_ok S.h245 p id)
  rw [findFrom_place] at k
  simp only [f244, Wp_seq, Wp_ops, Wp_cond, Wp_skip, Wp_ret, Wp_exit, Wp_block, WpO_cons, WpO_nil, opQ, evOp, evO, evOs, evQ_some, guardV, guardQ_true, guardQ_false, boolQ_true, boolQ_false, argsA, pvs, putS, cellsOf, scals, scal, seqQ_normal, seqQ_ret, seqQ_exit, blkQ_normal, blkQ_ret, blkQ_exit, look_if, blkAt_if, if_true, if_false, Nat.reduceEqDiff, Nat.reduceAdd, true_implies, reduceCtorEq, false_implies, and_true, true_and, List.nil_append, List.cons_append, Bool.and_self, Nat.zero_add, Nat.add_zero, fieldA, nonNil, cellsAt, loadV_one, loadV_pvs, loadV_cons, mkAgg, allPV, List.drop_zero, List.drop_succ_cons, List.take_succ_cons, List.take_zero, List.length_cons, List.length_nil, Nat.beq_eq, storeB, patchL, beq_self_eq_true, ge_iff_le, gt_iff_lt, Int.reduceNeg, Int.reduceLE, Int.reduceLT, Int.reduceEq, extractV, List.getElem?_cons_zero, List.getElem?_cons_succ, mkAgg, Nat.add_eq_left, Nat.left_eq_add, Nat.one_ne_zero, ble_dec, beq_dec, decide_eq_true_eq, Nat.reduceLeDiff, Nat.le_refl, fillA, pureVs, pureV, beq_int, bne_int, Int.natCast_inj, eq_self, eqV, eqB, decide_true, decide_false, List.length_map, Int.toNat_natCast, List.getElem?_map, Option.map_some, Option.map_none, Int.natCast_nonneg, Option.some.injEq, lenV, binV, intBin, intV, idxA, ne_eq, not_true_eq_false, not_false_eq_true, List.drop, List.take, RetP, retP, resV, resOne, snapV, snapVs, snapR, ownSz, pickV, cond_true, cond_false, bTT, bTF, bFT, bFF, Bool.not_true, Bool.not_false, WpD_cons, WpD_nil, opD, evD_some, guardD_true, guardD_false, stateP]
  rw [k.callF S.flat287 rfl _ _ _ _ _ (eq_true rfl) (eq_true rfl)]
  simp only [Wp_seq, Wp_ops, Wp_cond, Wp_skip, Wp_ret, Wp_exit, Wp_block, WpO_cons, WpO_nil, opQ, evOp, evO, evOs, evQ_some, guardV, guardQ_true, guardQ_false, boolQ_true, boolQ_false, argsA, pvs, putS, cellsOf, scals, scal, seqQ_normal, seqQ_ret, seqQ_exit, blkQ_normal, blkQ_ret, blkQ_exit, look_if, blkAt_if, if_true, if_false, Nat.reduceEqDiff, Nat.reduceAdd, true_implies, reduceCtorEq, false_implies, and_true, true_and, List.nil_append, List.cons_append, Bool.and_self, Nat.zero_add, Nat.add_zero, fieldA, nonNil, cellsAt, loadV_one, loadV_pvs, loadV_cons, mkAgg, allPV, List.drop_zero, List.drop_succ_cons, List.take_succ_cons, List.take_zero, List.length_cons, List.length_nil, Nat.beq_eq, storeB, patchL, beq_self_eq_true, ge_iff_le, gt_iff_lt, Int.reduceNeg, Int.reduceLE, Int.reduceLT, Int.reduceEq, extractV, List.getElem?_cons_zero, List.getElem?_cons_succ, mkAgg, Nat.add_eq_left, Nat.left_eq_add, Nat.one_ne_zero, ble_dec, beq_dec, decide_eq_true_eq, Nat.reduceLeDiff, Nat.le_refl, fillA, pureVs, pureV, beq_int, bne_int, Int.natCast_inj, eq_self, eqV, eqB, decide_true, decide_false, List.length_map, Int.toNat_natCast, List.getElem?_map, Option.map_some, Option.map_none, Int.natCast_nonneg, Option.some.injEq, lenV, binV, intBin, intV, idxA, ne_eq, not_true_eq_false, not_false_eq_true, List.drop, List.take, RetP, retP, resV, resOne, snapV, snapVs, snapR, ownSz, pickV, cond_true, cond_false, bTT, bTF, bFT, bFF, Bool.not_true, Bool.not_false, WpD_cons, WpD_nil, opD, evD_some, guardD_true, guardD_false]

def podOf (id : Int) (l : List Pod) : Option Pod := l.find? (fun p => decide (p.id = id))
theorem placeFrom_cases (id : Int) : ∀ (l : List Pod) (i : Nat), (podOf id l = none ∧ placeFrom id i l = -1) ∨ ∃ j p, l[j]? = some p ∧ podOf id l = some p ∧ placeFrom id i l = ((i + j : Nat) : Int) ∧ j < l.length
  | [], i => .inl ⟨rfl, rfl⟩
  | q :: r, i => by
    by_cases h : q.id = id
    · refine .inr ⟨0, q, rfl, by simp [podOf, h], by simp [placeFrom, h], by simp⟩
    · rcases placeFrom_cases id r (i + 1) with ⟨h1, h2⟩ | ⟨j, p, h1, h2, h3, h4⟩
      · refine .inl ⟨?_, ?_⟩
        · simp only [podOf] at h1 ⊢; simp [h, h1]
        · simp only [placeFrom, h, if_false, h2]
      · refine .inr ⟨j + 1, p, by simpa using h1, ?_, ?_, by simp only [List.length_cons]; omega⟩
        · simp only [podOf] at h2 ⊢; simp [h, h2]
        · simp only [placeFrom, h, if_false, h3]; omega

def pod0 : Pod := ⟨0, 0, 0, ⟨0, 0, 0, 0⟩, 0⟩
def podR (o : Option Pod) : PV := match o with
  | some p => .tuple [podP p, .bool true]
  | none => .tuple [podP pod0, .bool false]

theorem pod5_ok (S : Std5 T) (h240 : Std T 240 f240) (t : State) (id : Int) (h : t.pods.length ≤ 2 ^ 30) : Gives T 240 [stateP t, .int .i64 id] (podR (podOf id t.pods)) := by
  refine gives h240 rfl ?_
  have k := place5_ok S t id h
  rcases placeFrom_cases id t.pods 0 with ⟨h1, h2⟩ | ⟨j, p, h1, h2, h3, h4⟩
  · rw [h2] at k
    simp only [f240, Wp_seq, Wp_ops, Wp_cond, Wp_skip, Wp_ret, Wp_exit, Wp_block, WpO_cons, WpO_nil, opQ, evOp, evO, evOs, evQ_some, guardV, guardQ_true, guardQ_false, boolQ_true, boolQ_false, argsA, pvs, putS, cellsOf, scals, scal, seqQ_normal, seqQ_ret, seqQ_exit, blkQ_normal, blkQ_ret, blkQ_exit, look_if, blkAt_if, if_true, if_false, Nat.reduceEqDiff, Nat.reduceAdd, true_implies, reduceCtorEq, false_implies, and_true, true_and, List.nil_append, List.cons_append, Bool.and_self, Nat.zero_add, Nat.add_zero, fieldA, nonNil, cellsAt, loadV_one, loadV_pvs, loadV_cons, mkAgg, allPV, List.drop_zero, List.drop_succ_cons, List.take_succ_cons, List.take_zero, List.length_cons, List.length_nil, Nat.beq_eq, storeB, patchL, beq_self_eq_true, ge_iff_le, gt_iff_lt, Int.reduceNeg, Int.reduceLE, Int.reduceLT, Int.reduceEq, extractV, List.getElem?_cons_zero, List.getElem?_cons_succ, mkAgg, Nat.add_eq_left, Nat.left_eq_add, Nat.one_ne_zero, ble_dec, beq_dec, decide_eq_true_eq, Nat.reduceLeDiff, Nat.le_refl, fillA, pureVs, pureV, beq_int, bne_int, Int.natCast_inj, eq_self, eqV, eqB, decide_true, decide_false, List.length_map, Int.toNat_natCast, List.getElem?_map, Option.map_some, Option.map_none, Int.natCast_nonneg, Option.some.injEq, lenV, binV, intBin, intV, idxA, ne_eq, not_true_eq_false, not_false_eq_true, List.drop, List.take, RetP, retP, resV, resOne, snapV, snapVs, snapR, ownSz, pickV, cond_true, cond_false, bTT, bTF, bFT, bFF, Bool.not_true, Bool.not_false, WpD_cons, WpD_nil, opD, evD_some, guardD_true, guardD_false, stateP, k.call, h1, podR, podP, pod0, podC, Int.reduceNeg, Int.reduceLT, fillA]
  · rw [h3] at k
    have hj : ¬ ((j : Int) < 0) := by omega
    simp only [f240, Wp_seq, Wp_ops, Wp_cond, Wp_skip, Wp_ret, Wp_exit, Wp_block, WpO_cons, WpO_nil, opQ, evOp, evO, evOs, evQ_some, guardV, guardQ_true, guardQ_false, boolQ_true, boolQ_false, argsA, pvs, putS, cellsOf, scals, scal, seqQ_normal, seqQ_ret, seqQ_exit, blkQ_normal, blkQ_ret, blkQ_exit, look_if, blkAt_if, if_true, if_false, Nat.reduceEqDiff, Nat.reduceAdd, true_implies, reduceCtorEq, false_implies, and_true, true_and, List.nil_append, List.cons_append, Bool.and_self, Nat.zero_add, Nat.add_zero, fieldA, nonNil, cellsAt, loadV_one, loadV_pvs, loadV_cons, mkAgg, allPV, List.drop_zero, List.drop_succ_cons, List.take_succ_cons, List.take_zero, List.length_cons, List.length_nil, Nat.beq_eq, storeB, patchL, beq_self_eq_true, ge_iff_le, gt_iff_lt, Int.reduceNeg, Int.reduceLE, Int.reduceLT, Int.reduceEq, extractV, List.getElem?_cons_zero, List.getElem?_cons_succ, mkAgg, Nat.add_eq_left, Nat.left_eq_add, Nat.one_ne_zero, ble_dec, beq_dec, decide_eq_true_eq, Nat.reduceLeDiff, Nat.le_refl, fillA, pureVs, pureV, beq_int, bne_int, Int.natCast_inj, eq_self, eqV, eqB, decide_true, decide_false, List.length_map, Int.toNat_natCast, List.getElem?_map, Option.map_some, Option.map_none, Int.natCast_nonneg, Option.some.injEq, lenV, binV, intBin, intV, idxA, ne_eq, not_true_eq_false, not_false_eq_true, List.drop, List.take, RetP, retP, resV, resOne, snapV, snapVs, snapR, ownSz, pickV, cond_true, cond_false, bTT, bTF, bFT, bFF, Bool.not_true, Bool.not_false, WpD_cons, WpD_nil, opD, evD_some, guardD_true, guardD_false, stateP, k.call, h2, podR, podP, podC, hj, h1]

/-- slices.Equal of pods. -/
theorem equal5_ok (h286 : Std T 286 f286) (a b : List Pod) (ha : a.length ≤ 2 ^ 30) : Gives T 286 [.slice (a.map podC), .slice (b.map podC)] (.bool (decide (a = b))) := by
  refine gives h286 rfl ?_
  have loop : ∀ (ra rb : List Pod) (i : Nat), a.length = b.length → a.drop i = ra → b.drop i = rb → i ≤ a.length → ∀ (fr : List (Nat × AV)), look fr 13 = .pv (.int .i64 i) → look fr 12 = .pv (.int .i64 a.length) → look fr 0 = .pv (.slice (a.map podC)) → look fr 1 = .pv (.slice (b.map podC)) →
      Wp T false (.loop f286l0) ⟨fr, [], 0⟩ (blkQ 0 (seqQ T false (.seq (.ops [⟨some 4, .mv (.c (.pv (.bool true))), none, []⟩]) .ret) (RetP [.t 4] (.bool (decide (ra = rb)))))) := by
    intro ra
    induction ra with
    | nil =>
      intro rb i hl hda hdb hi fr h5 h2 h0 h1
      have hlen : a.length = i := by
        have := congrArg List.length hda
        simp at this
        omega
      have : rb = [] := by
        rw [← hdb]
        exact List.drop_eq_nil_of_le (by omega)
      subst this
      rw [Wp_loop, Wp_eq f286l0.eq_1]
      simp only [Wp_seq, Wp_ops, Wp_cond, Wp_skip, Wp_ret, Wp_exit, Wp_block, WpO_cons, WpO_nil, opQ, evOp, evO, evOs, evQ_some, guardV, guardQ_true, guardQ_false, boolQ_true, boolQ_false, argsA, pvs, putS, cellsOf, scals, scal, seqQ_normal, seqQ_ret, seqQ_exit, blkQ_normal, blkQ_ret, blkQ_exit, look_if, blkAt_if, if_true, if_false, Nat.reduceEqDiff, Nat.reduceAdd, true_implies, reduceCtorEq, false_implies, and_true, true_and, List.nil_append, List.cons_append, Bool.and_self, Nat.zero_add, Nat.add_zero, fieldA, nonNil, cellsAt, loadV_one, loadV_pvs, loadV_cons, mkAgg, allPV, List.drop_zero, List.drop_succ_cons, List.take_succ_cons, List.take_zero, List.length_cons, List.length_nil, Nat.beq_eq, storeB, patchL, beq_self_eq_true, ge_iff_le, gt_iff_lt, Int.reduceNeg, Int.reduceLE, Int.reduceLT, Int.reduceEq, extractV, List.getElem?_cons_zero, List.getElem?_cons_succ, mkAgg, Nat.add_eq_left, Nat.left_eq_add, Nat.one_ne_zero, ble_dec, beq_dec, decide_eq_true_eq, Nat.reduceLeDiff, Nat.le_refl, fillA, pureVs, pureV, beq_int, bne_int, Int.natCast_inj, eq_self, eqV, eqB, decide_true, decide_false, List.length_map, Int.toNat_natCast, List.getElem?_map, Option.map_some, Option.map_none, Int.natCast_nonneg, Option.some.injEq, lenV, binV, intBin, intV, idxA, ne_eq, not_true_eq_false, not_false_eq_true, List.drop, List.take, RetP, retP, resV, resOne, snapV, snapVs, snapR, ownSz, pickV, cond_true, cond_false, bTT, bTF, bFT, bFF, Bool.not_true, Bool.not_false, WpD_cons, WpD_nil, opD, evD_some, guardD_true, guardD_false, h5, h2, h0, h1, hlen, Int.lt_irrefl]
    | cons p r ih =>
      intro rb i hl hda hdb hi fr h5 h2 h0 h1
      have hga : a[i]? = some p := by
        have := congrArg (·[0]?) hda
        simpa using this
      have hlt : i < a.length := (List.getElem?_eq_some_iff.1 hga).1
      have hlt' : (i : Int) < (a.length : Int) := by omega
      cases rb with
      | nil =>
        have := congrArg List.length hdb
        simp at this
        omega
      | cons q rb =>
        have hgb : b[i]? = some q := by
          have := congrArg (·[0]?) hdb
          simpa using this
        rw [Wp_loop, Wp_eq f286l0.eq_1]
        simp only [Wp_seq, Wp_ops, Wp_cond, Wp_skip, Wp_ret, Wp_exit, Wp_block, WpO_cons, WpO_nil, opQ, evOp, evO, evOs, evQ_some, guardV, guardQ_true, guardQ_false, boolQ_true, boolQ_false, argsA, pvs, putS, cellsOf, scals, scal, seqQ_normal, seqQ_ret, seqQ_exit, blkQ_normal, blkQ_ret, blkQ_exit, look_if, blkAt_if, if_true, if_false, Nat.reduceEqDiff, Nat.reduceAdd, true_implies, reduceCtorEq, false_implies, and_true, true_and, List.nil_append, List.cons_append, Bool.and_self, Nat.zero_add, Nat.add_zero, fieldA, nonNil, cellsAt, loadV_one, loadV_pvs, loadV_cons, mkAgg, allPV, List.drop_zero, List.drop_succ_cons, List.take_succ_cons, List.take_zero, List.length_cons, List.length_nil, Nat.beq_eq, storeB, patchL, beq_self_eq_true, ge_iff_le, gt_iff_lt, Int.reduceNeg, Int.reduceLE, Int.reduceLT, Int.reduceEq, extractV, List.getElem?_cons_zero, List.getElem?_cons_succ, mkAgg, Nat.add_eq_left, Nat.left_eq_add, Nat.one_ne_zero, ble_dec, beq_dec, decide_eq_true_eq, Nat.reduceLeDiff, Nat.le_refl, fillA, pureVs, pureV, beq_int, bne_int, Int.natCast_inj, eq_self, eqV, eqB, decide_true, decide_false, List.length_map, Int.toNat_natCast, List.getElem?_map, Option.map_some, Option.map_none, Int.natCast_nonneg, Option.some.injEq, lenV, binV, intBin, intV, idxA, ne_eq, not_true_eq_false, not_false_eq_true, List.drop, List.take, RetP, retP, resV, resOne, snapV, snapVs, snapR, ownSz, pickV, cond_true, cond_false, bTT, bTF, bFT, bFF, Bool.not_true, Bool.not_false, WpD_cons, WpD_nil, opD, evD_some, guardD_true, guardD_false, h5, h2, h0, h1, hlt']
        refine (Wp_calm rfl).2 ?_
        have hw : IntKind.i64.wrap ((i : Int) + 1) = ((i + 1 : Nat) : Int) := by rw [wrap6] <;> omega
        by_cases hpq : p = q
        · subst hpq
          simp only [Wp_seq, Wp_ops, Wp_cond, Wp_skip, Wp_ret, Wp_exit, Wp_block, WpO_cons, WpO_nil, opQ, evOp, evO, evOs, evQ_some, guardV, guardQ_true, guardQ_false, boolQ_true, boolQ_false, argsA, pvs, putS, cellsOf, scals, scal, seqQ_normal, seqQ_ret, seqQ_exit, blkQ_normal, blkQ_ret, blkQ_exit, look_if, blkAt_if, if_true, if_false, Nat.reduceEqDiff, Nat.reduceAdd, true_implies, reduceCtorEq, false_implies, and_true, true_and, List.nil_append, List.cons_append, Bool.and_self, Nat.zero_add, Nat.add_zero, fieldA, nonNil, cellsAt, loadV_one, loadV_pvs, loadV_cons, mkAgg, allPV, List.drop_zero, List.drop_succ_cons, List.take_succ_cons, List.take_zero, List.length_cons, List.length_nil, Nat.beq_eq, storeB, patchL, beq_self_eq_true, ge_iff_le, gt_iff_lt, Int.reduceNeg, Int.reduceLE, Int.reduceLT, Int.reduceEq, extractV, List.getElem?_cons_zero, List.getElem?_cons_succ, mkAgg, Nat.add_eq_left, Nat.left_eq_add, Nat.one_ne_zero, ble_dec, beq_dec, decide_eq_true_eq, Nat.reduceLeDiff, Nat.le_refl, fillA, pureVs, pureV, beq_int, bne_int, Int.natCast_inj, eq_self, eqV, eqB, decide_true, decide_false, List.length_map, Int.toNat_natCast, List.getElem?_map, Option.map_some, Option.map_none, Int.natCast_nonneg, Option.some.injEq, lenV, binV, intBin, intV, idxA, ne_eq, not_true_eq_false, not_false_eq_true, List.drop, List.take, RetP, retP, resV, resOne, snapV, snapVs, snapR, ownSz, pickV, cond_true, cond_false, bTT, bTF, bFT, bFF, Bool.not_true, Bool.not_false, WpD_cons, WpD_nil, opD, evD_some, guardD_true, guardD_false, h5, h2, h0, h1, hga, hgb, podC_length, eqPods, hw, List.cons.injEq]
          refine ih rb (i + 1) hl ?_ ?_ (by omega) _ ?_ ?_ ?_ ?_
          · rw [← List.drop_drop, hda]; rfl
          · rw [← List.drop_drop, hdb]; rfl
          all_goals simp only [look_if, Nat.reduceEqDiff, if_true, if_false, h2, h0, h1]
        · simp only [Wp_seq, Wp_ops, Wp_cond, Wp_skip, Wp_ret, Wp_exit, Wp_block, WpO_cons, WpO_nil, opQ, evOp, evO, evOs, evQ_some, guardV, guardQ_true, guardQ_false, boolQ_true, boolQ_false, argsA, pvs, putS, cellsOf, scals, scal, seqQ_normal, seqQ_ret, seqQ_exit, blkQ_normal, blkQ_ret, blkQ_exit, look_if, blkAt_if, if_true, if_false, Nat.reduceEqDiff, Nat.reduceAdd, true_implies, reduceCtorEq, false_implies, and_true, true_and, List.nil_append, List.cons_append, Bool.and_self, Nat.zero_add, Nat.add_zero, fieldA, nonNil, cellsAt, loadV_one, loadV_pvs, loadV_cons, mkAgg, allPV, List.drop_zero, List.drop_succ_cons, List.take_succ_cons, List.take_zero, List.length_cons, List.length_nil, Nat.beq_eq, storeB, patchL, beq_self_eq_true, ge_iff_le, gt_iff_lt, Int.reduceNeg, Int.reduceLE, Int.reduceLT, Int.reduceEq, extractV, List.getElem?_cons_zero, List.getElem?_cons_succ, mkAgg, Nat.add_eq_left, Nat.left_eq_add, Nat.one_ne_zero, ble_dec, beq_dec, decide_eq_true_eq, Nat.reduceLeDiff, Nat.le_refl, fillA, pureVs, pureV, beq_int, bne_int, Int.natCast_inj, eq_self, eqV, eqB, decide_true, decide_false, List.length_map, Int.toNat_natCast, List.getElem?_map, Option.map_some, Option.map_none, Int.natCast_nonneg, Option.some.injEq, lenV, binV, intBin, intV, idxA, ne_eq, not_true_eq_false, not_false_eq_true, List.drop, List.take, RetP, retP, resV, resOne, snapV, snapVs, snapR, ownSz, pickV, cond_true, cond_false, bTT, bTF, bFT, bFF, Bool.not_true, Bool.not_false, WpD_cons, WpD_nil, opD, evD_some, guardD_true, guardD_false, h5, h2, h0, h1, hga, hgb, podC_length, eqPods, hpq, hw, List.cons.injEq, false_and]
  simp only [f286, Wp_seq, Wp_ops, Wp_cond, Wp_skip, Wp_ret, Wp_exit, Wp_block, WpO_cons, WpO_nil, opQ, evOp, evO, evOs, evQ_some, guardV, guardQ_true, guardQ_false, boolQ_true, boolQ_false, argsA, pvs, putS, cellsOf, scals, scal, seqQ_normal, seqQ_ret, seqQ_exit, blkQ_normal, blkQ_ret, blkQ_exit, look_if, blkAt_if, if_true, if_false, Nat.reduceEqDiff, Nat.reduceAdd, true_implies, reduceCtorEq, false_implies, and_true, true_and, List.nil_append, List.cons_append, Bool.and_self, Nat.zero_add, Nat.add_zero, fieldA, nonNil, cellsAt, loadV_one, loadV_pvs, loadV_cons, mkAgg, allPV, List.drop_zero, List.drop_succ_cons, List.take_succ_cons, List.take_zero, List.length_cons, List.length_nil, Nat.beq_eq, storeB, patchL, beq_self_eq_true, ge_iff_le, gt_iff_lt, Int.reduceNeg, Int.reduceLE, Int.reduceLT, Int.reduceEq, extractV, List.getElem?_cons_zero, List.getElem?_cons_succ, mkAgg, Nat.add_eq_left, Nat.left_eq_add, Nat.one_ne_zero, ble_dec, beq_dec, decide_eq_true_eq, Nat.reduceLeDiff, Nat.le_refl, fillA, pureVs, pureV, beq_int, bne_int, Int.natCast_inj, eq_self, eqV, eqB, decide_true, decide_false, List.length_map, Int.toNat_natCast, List.getElem?_map, Option.map_some, Option.map_none, Int.natCast_nonneg, Option.some.injEq, lenV, binV, intBin, intV, idxA, ne_eq, not_true_eq_false, not_false_eq_true, List.drop, List.take, RetP, retP, resV, resOne, snapV, snapVs, snapR, ownSz, pickV, cond_true, cond_false, bTT, bTF, bFT, bFF, Bool.not_true, Bool.not_false, WpD_cons, WpD_nil, opD, evD_some, guardD_true, guardD_false]
  by_cases hl : a.length = b.length
  · simp only [Wp_seq, Wp_ops, Wp_cond, Wp_skip, Wp_ret, Wp_exit, Wp_block, WpO_cons, WpO_nil, opQ, evOp, evO, evOs, evQ_some, guardV, guardQ_true, guardQ_false, boolQ_true, boolQ_false, argsA, pvs, putS, cellsOf, scals, scal, seqQ_normal, seqQ_ret, seqQ_exit, blkQ_normal, blkQ_ret, blkQ_exit, look_if, blkAt_if, if_true, if_false, Nat.reduceEqDiff, Nat.reduceAdd, true_implies, reduceCtorEq, false_implies, and_true, true_and, List.nil_append, List.cons_append, Bool.and_self, Nat.zero_add, Nat.add_zero, fieldA, nonNil, cellsAt, loadV_one, loadV_pvs, loadV_cons, mkAgg, allPV, List.drop_zero, List.drop_succ_cons, List.take_succ_cons, List.take_zero, List.length_cons, List.length_nil, Nat.beq_eq, storeB, patchL, beq_self_eq_true, ge_iff_le, gt_iff_lt, Int.reduceNeg, Int.reduceLE, Int.reduceLT, Int.reduceEq, extractV, List.getElem?_cons_zero, List.getElem?_cons_succ, mkAgg, Nat.add_eq_left, Nat.left_eq_add, Nat.one_ne_zero, ble_dec, beq_dec, decide_eq_true_eq, Nat.reduceLeDiff, Nat.le_refl, fillA, pureVs, pureV, beq_int, bne_int, Int.natCast_inj, eq_self, eqV, eqB, decide_true, decide_false, List.length_map, Int.toNat_natCast, List.getElem?_map, Option.map_some, Option.map_none, Int.natCast_nonneg, Option.some.injEq, lenV, binV, intBin, intV, idxA, ne_eq, not_true_eq_false, not_false_eq_true, List.drop, List.take, RetP, retP, resV, resOne, snapV, snapVs, snapR, ownSz, pickV, cond_true, cond_false, bTT, bTF, bFT, bFF, Bool.not_true, Bool.not_false, WpD_cons, WpD_nil, opD, evD_some, guardD_true, guardD_false, hl]
    have := loop a b 0 hl rfl rfl (Nat.zero_le _)
    rw [hl] at this
    exact this _ rfl rfl rfl rfl
  · have hl' : ¬ a = b := fun h => hl (by rw [h])
    simp only [Wp_seq, Wp_ops, Wp_cond, Wp_skip, Wp_ret, Wp_exit, Wp_block, WpO_cons, WpO_nil, opQ, evOp, evO, evOs, evQ_some, guardV, guardQ_true, guardQ_false, boolQ_true, boolQ_false, argsA, pvs, putS, cellsOf, scals, scal, seqQ_normal, seqQ_ret, seqQ_exit, blkQ_normal, blkQ_ret, blkQ_exit, look_if, blkAt_if, if_true, if_false, Nat.reduceEqDiff, Nat.reduceAdd, true_implies, reduceCtorEq, false_implies, and_true, true_and, List.nil_append, List.cons_append, Bool.and_self, Nat.zero_add, Nat.add_zero, fieldA, nonNil, cellsAt, loadV_one, loadV_pvs, loadV_cons, mkAgg, allPV, List.drop_zero, List.drop_succ_cons, List.take_succ_cons, List.take_zero, List.length_cons, List.length_nil, Nat.beq_eq, storeB, patchL, beq_self_eq_true, ge_iff_le, gt_iff_lt, Int.reduceNeg, Int.reduceLE, Int.reduceLT, Int.reduceEq, extractV, List.getElem?_cons_zero, List.getElem?_cons_succ, mkAgg, Nat.add_eq_left, Nat.left_eq_add, Nat.one_ne_zero, ble_dec, beq_dec, decide_eq_true_eq, Nat.reduceLeDiff, Nat.le_refl, fillA, pureVs, pureV, beq_int, bne_int, Int.natCast_inj, eq_self, eqV, eqB, decide_true, decide_false, List.length_map, Int.toNat_natCast, List.getElem?_map, Option.map_some, Option.map_none, Int.natCast_nonneg, Option.some.injEq, lenV, binV, intBin, intV, idxA, ne_eq, not_true_eq_false, not_false_eq_true, List.drop, List.take, RetP, retP, resV, resOne, snapV, snapVs, snapR, ownSz, pickV, cond_true, cond_false, bTT, bTF, bFT, bFF, Bool.not_true, Bool.not_false, WpD_cons, WpD_nil, opD, evD_some, guardD_true, guardD_false, hl, hl']

theorem same5b_ok (h241 : Std T 241 f241) (h286 : Std T 286 f286) (a b : State) (ha : a.pods.length ≤ 2 ^ 30) : Gives T 241 [stateP a, stateP b] (.bool (decide (a = b))) := by
  refine gives h241 rfl ?_
  have hab : a = b ↔ a.pre = b.pre ∧ a.shi = b.shi ∧ a.pods = b.pods := by cases a; cases b; simp; grind
  simp only [f241, Wp_seq, Wp_ops, Wp_cond, Wp_skip, Wp_ret, Wp_exit, Wp_block, WpO_cons, WpO_nil, opQ, evOp, evO, evOs, evQ_some, guardV, guardQ_true, guardQ_false, boolQ_true, boolQ_false, argsA, pvs, putS, cellsOf, scals, scal, seqQ_normal, seqQ_ret, seqQ_exit, blkQ_normal, blkQ_ret, blkQ_exit, look_if, blkAt_if, if_true, if_false, Nat.reduceEqDiff, Nat.reduceAdd, true_implies, reduceCtorEq, false_implies, and_true, true_and, List.nil_append, List.cons_append, Bool.and_self, Nat.zero_add, Nat.add_zero, fieldA, nonNil, cellsAt, loadV_one, loadV_pvs, loadV_cons, mkAgg, allPV, List.drop_zero, List.drop_succ_cons, List.take_succ_cons, List.take_zero, List.length_cons, List.length_nil, Nat.beq_eq, storeB, patchL, beq_self_eq_true, ge_iff_le, gt_iff_lt, Int.reduceNeg, Int.reduceLE, Int.reduceLT, Int.reduceEq, extractV, List.getElem?_cons_zero, List.getElem?_cons_succ, mkAgg, Nat.add_eq_left, Nat.left_eq_add, Nat.one_ne_zero, ble_dec, beq_dec, decide_eq_true_eq, Nat.reduceLeDiff, Nat.le_refl, fillA, pureVs, pureV, beq_int, bne_int, Int.natCast_inj, eq_self, eqV, eqB, decide_true, decide_false, List.length_map, Int.toNat_natCast, List.getElem?_map, Option.map_some, Option.map_none, Int.natCast_nonneg, Option.some.injEq, lenV, binV, intBin, intV, idxA, ne_eq, not_true_eq_false, not_false_eq_true, List.drop, List.take, RetP, retP, resV, resOne, snapV, snapVs, snapR, ownSz, pickV, cond_true, cond_false, bTT, bTF, bFT, bFF, Bool.not_true, Bool.not_false, WpD_cons, WpD_nil, opD, evD_some, guardD_true, guardD_false, stateP]
  by_cases hp : a.pre = b.pre
  · by_cases hs : a.shi = b.shi
    · simp only [Wp_seq, Wp_ops, Wp_cond, Wp_skip, Wp_ret, Wp_exit, Wp_block, WpO_cons, WpO_nil, opQ, evOp, evO, evOs, evQ_some, guardV, guardQ_true, guardQ_false, boolQ_true, boolQ_false, argsA, pvs, putS, cellsOf, scals, scal, seqQ_normal, seqQ_ret, seqQ_exit, blkQ_normal, blkQ_ret, blkQ_exit, look_if, blkAt_if, if_true, if_false, Nat.reduceEqDiff, Nat.reduceAdd, true_implies, reduceCtorEq, false_implies, and_true, true_and, List.nil_append, List.cons_append, Bool.and_self, Nat.zero_add, Nat.add_zero, fieldA, nonNil, cellsAt, loadV_one, loadV_pvs, loadV_cons, mkAgg, allPV, List.drop_zero, List.drop_succ_cons, List.take_succ_cons, List.take_zero, List.length_cons, List.length_nil, Nat.beq_eq, storeB, patchL, beq_self_eq_true, ge_iff_le, gt_iff_lt, Int.reduceNeg, Int.reduceLE, Int.reduceLT, Int.reduceEq, extractV, List.getElem?_cons_zero, List.getElem?_cons_succ, mkAgg, Nat.add_eq_left, Nat.left_eq_add, Nat.one_ne_zero, ble_dec, beq_dec, decide_eq_true_eq, Nat.reduceLeDiff, Nat.le_refl, fillA, pureVs, pureV, beq_int, bne_int, Int.natCast_inj, eq_self, eqV, eqB, decide_true, decide_false, List.length_map, Int.toNat_natCast, List.getElem?_map, Option.map_some, Option.map_none, Int.natCast_nonneg, Option.some.injEq, lenV, binV, intBin, intV, idxA, ne_eq, not_true_eq_false, not_false_eq_true, List.drop, List.take, RetP, retP, resV, resOne, snapV, snapVs, snapR, ownSz, pickV, cond_true, cond_false, bTT, bTF, bFT, bFF, Bool.not_true, Bool.not_false, WpD_cons, WpD_nil, opD, evD_some, guardD_true, guardD_false, hp, hs, hab, (equal5_ok h286 a.pods b.pods ha).call]
    · simp only [Wp_seq, Wp_ops, Wp_cond, Wp_skip, Wp_ret, Wp_exit, Wp_block, WpO_cons, WpO_nil, opQ, evOp, evO, evOs, evQ_some, guardV, guardQ_true, guardQ_false, boolQ_true, boolQ_false, argsA, pvs, putS, cellsOf, scals, scal, seqQ_normal, seqQ_ret, seqQ_exit, blkQ_normal, blkQ_ret, blkQ_exit, look_if, blkAt_if, if_true, if_false, Nat.reduceEqDiff, Nat.reduceAdd, true_implies, reduceCtorEq, false_implies, and_true, true_and, List.nil_append, List.cons_append, Bool.and_self, Nat.zero_add, Nat.add_zero, fieldA, nonNil, cellsAt, loadV_one, loadV_pvs, loadV_cons, mkAgg, allPV, List.drop_zero, List.drop_succ_cons, List.take_succ_cons, List.take_zero, List.length_cons, List.length_nil, Nat.beq_eq, storeB, patchL, beq_self_eq_true, ge_iff_le, gt_iff_lt, Int.reduceNeg, Int.reduceLE, Int.reduceLT, Int.reduceEq, extractV, List.getElem?_cons_zero, List.getElem?_cons_succ, mkAgg, Nat.add_eq_left, Nat.left_eq_add, Nat.one_ne_zero, ble_dec, beq_dec, decide_eq_true_eq, Nat.reduceLeDiff, Nat.le_refl, fillA, pureVs, pureV, beq_int, bne_int, Int.natCast_inj, eq_self, eqV, eqB, decide_true, decide_false, List.length_map, Int.toNat_natCast, List.getElem?_map, Option.map_some, Option.map_none, Int.natCast_nonneg, Option.some.injEq, lenV, binV, intBin, intV, idxA, ne_eq, not_true_eq_false, not_false_eq_true, List.drop, List.take, RetP, retP, resV, resOne, snapV, snapVs, snapR, ownSz, pickV, cond_true, cond_false, bTT, bTF, bFT, bFF, Bool.not_true, Bool.not_false, WpD_cons, WpD_nil, opD, evD_some, guardD_true, guardD_false, hp, hs, hab, false_and]
  · simp only [Wp_seq, Wp_ops, Wp_cond, Wp_skip, Wp_ret, Wp_exit, Wp_block, WpO_cons, WpO_nil, opQ, evOp, evO, evOs, evQ_some, guardV, guardQ_true, guardQ_false, boolQ_true, boolQ_false, argsA, pvs, putS, cellsOf, scals, scal, seqQ_normal, seqQ_ret, seqQ_exit, blkQ_normal, blkQ_ret, blkQ_exit, look_if, blkAt_if, if_true, if_false, Nat.reduceEqDiff, Nat.reduceAdd, true_implies, reduceCtorEq, false_implies, and_true, true_and, List.nil_append, List.cons_append, Bool.and_self, Nat.zero_add, Nat.add_zero, fieldA, nonNil, cellsAt, loadV_one, loadV_pvs, loadV_cons, mkAgg, allPV, List.drop_zero, List.drop_succ_cons, List.take_succ_cons, List.take_zero, List.length_cons, List.length_nil, Nat.beq_eq, storeB, patchL, beq_self_eq_true, ge_iff_le, gt_iff_lt, Int.reduceNeg, Int.reduceLE, Int.reduceLT, Int.reduceEq, extractV, List.getElem?_cons_zero, List.getElem?_cons_succ, mkAgg, Nat.add_eq_left, Nat.left_eq_add, Nat.one_ne_zero, ble_dec, beq_dec, decide_eq_true_eq, Nat.reduceLeDiff, Nat.le_refl, fillA, pureVs, pureV, beq_int, bne_int, Int.natCast_inj, eq_self, eqV, eqB, decide_true, decide_false, List.length_map, Int.toNat_natCast, List.getElem?_map, Option.map_some, Option.map_none, Int.natCast_nonneg, Option.some.injEq, lenV, binV, intBin, intV, idxA, ne_eq, not_true_eq_false, not_false_eq_true, List.drop, List.take, RetP, retP, resV, resOne, snapV, snapVs, snapR, ownSz, pickV, cond_true, cond_false, bTT, bTF, bFT, bFF, Bool.not_true, Bool.not_false, WpD_cons, WpD_nil, opD, evD_some, guardD_true, guardD_false, hp, hab, false_and]

/-- slices.Clone of pods. -/
structure Cln (T : Tab) (n sz : Nat) : Prop where
  prim : T.prim n = some (cloneP sz)
  raw : T.raw n = false
  own : T.own n = true
theorem Cln.call {n sz : Nat} (S : Cln T n sz) {es : List (List PV)} (h : allLen sz es = true) (hl : es.length ≤ 2 ^ 30) (d : Option Nat) (l : List AOper) (st : St) (K : St → Prop) :
    callQ T n [.pv (.slice es)] d l st K ↔ WpO T l (match es with | [] => ⟨putS st d (.pv (.slice [])), st.hp, st.nx⟩ | e :: r => ⟨putS st d (.ms st.nx), (st.nx, .row sz (e :: r)) :: st.hp, st.nx + 1⟩) K := by
  cases es with
  | nil =>
    have hc : callP (D T) n [.slice []] = some (none, .slice []) := by
      unfold callP
      rw [D_prim S.prim (show cloneP sz (pvs [.slice []]) [] 0 = some (.pv (.slice []), [], 2) from rfl)]
      rfl
    rw [callQ_pure S.raw rfl hc, S.own]
    rfl
  | cons e r =>
    have hc : callP (D T) n [.slice (e :: r)] = some (some sz, .slice (e :: r)) := by
      unfold callP
      rw [D_prim S.prim (show cloneP sz (pvs [.slice (e :: r)]) [] 0 = some (.ms 1, [(1, .row sz (e :: r))], 2) from by
        simp only [cloneP, pvs]; rw [if_pos ⟨h, hl⟩])]
      rfl
    rw [callQ_pure S.raw rfl hc, S.own]
    rfl
theorem allLen_pods (l : List Pod) : allLen 8 (l.map podC) = true := by
  simp [allLen, podC]

def firstOf (s : Snap) : State := ⟨s.pods, 0, 0⟩
theorem first5_ok (h237 : Std T 237 f237) (h279 : Cln T 279 8) (s : Snap) (h : s.pods.length ≤ 2 ^ 30) : Gives T 237 [snapP s] (stateP (firstOf s)) := by
  refine gives h237 rfl ?_
  simp only [f237, Wp_seq, Wp_ops, Wp_cond, Wp_skip, Wp_ret, Wp_exit, Wp_block, WpO_cons, WpO_nil, opQ, evOp, evO, evOs, evQ_some, guardV, guardQ_true, guardQ_false, boolQ_true, boolQ_false, argsA, pvs, putS, cellsOf, scals, scal, seqQ_normal, seqQ_ret, seqQ_exit, blkQ_normal, blkQ_ret, blkQ_exit, look_if, blkAt_if, if_true, if_false, Nat.reduceEqDiff, Nat.reduceAdd, true_implies, reduceCtorEq, false_implies, and_true, true_and, List.nil_append, List.cons_append, Bool.and_self, Nat.zero_add, Nat.add_zero, fieldA, nonNil, cellsAt, loadV_one, loadV_pvs, loadV_cons, mkAgg, allPV, List.drop_zero, List.drop_succ_cons, List.take_succ_cons, List.take_zero, List.length_cons, List.length_nil, Nat.beq_eq, storeB, patchL, beq_self_eq_true, ge_iff_le, gt_iff_lt, Int.reduceNeg, Int.reduceLE, Int.reduceLT, Int.reduceEq, extractV, List.getElem?_cons_zero, List.getElem?_cons_succ, mkAgg, Nat.add_eq_left, Nat.left_eq_add, Nat.one_ne_zero, ble_dec, beq_dec, decide_eq_true_eq, Nat.reduceLeDiff, Nat.le_refl, fillA, pureVs, pureV, beq_int, bne_int, Int.natCast_inj, eq_self, eqV, eqB, decide_true, decide_false, List.length_map, Int.toNat_natCast, List.getElem?_map, Option.map_some, Option.map_none, Int.natCast_nonneg, Option.some.injEq, lenV, binV, intBin, intV, idxA, ne_eq, not_true_eq_false, not_false_eq_true, List.drop, List.take, RetP, retP, resV, resOne, snapV, snapVs, snapR, ownSz, pickV, cond_true, cond_false, bTT, bTF, bFT, bFF, Bool.not_true, Bool.not_false, WpD_cons, WpD_nil, opD, evD_some, guardD_true, guardD_false, snapP, stateP, firstOf]
  rw [h279.call (allLen_pods _) (by simpa using h)]
  cases hs : s.pods with
  | nil => simp only [Wp_seq, Wp_ops, Wp_cond, Wp_skip, Wp_ret, Wp_exit, Wp_block, WpO_cons, WpO_nil, opQ, evOp, evO, evOs, evQ_some, guardV, guardQ_true, guardQ_false, boolQ_true, boolQ_false, argsA, pvs, putS, cellsOf, scals, scal, seqQ_normal, seqQ_ret, seqQ_exit, blkQ_normal, blkQ_ret, blkQ_exit, look_if, blkAt_if, if_true, if_false, Nat.reduceEqDiff, Nat.reduceAdd, true_implies, reduceCtorEq, false_implies, and_true, true_and, List.nil_append, List.cons_append, Bool.and_self, Nat.zero_add, Nat.add_zero, fieldA, nonNil, cellsAt, loadV_one, loadV_pvs, loadV_cons, mkAgg, allPV, List.drop_zero, List.drop_succ_cons, List.take_succ_cons, List.take_zero, List.length_cons, List.length_nil, Nat.beq_eq, storeB, patchL, beq_self_eq_true, ge_iff_le, gt_iff_lt, Int.reduceNeg, Int.reduceLE, Int.reduceLT, Int.reduceEq, extractV, List.getElem?_cons_zero, List.getElem?_cons_succ, mkAgg, Nat.add_eq_left, Nat.left_eq_add, Nat.one_ne_zero, ble_dec, beq_dec, decide_eq_true_eq, Nat.reduceLeDiff, Nat.le_refl, fillA, pureVs, pureV, beq_int, bne_int, Int.natCast_inj, eq_self, eqV, eqB, decide_true, decide_false, List.length_map, Int.toNat_natCast, List.getElem?_map, Option.map_some, Option.map_none, Int.natCast_nonneg, Option.some.injEq, lenV, binV, intBin, intV, idxA, ne_eq, not_true_eq_false, not_false_eq_true, List.drop, List.take, RetP, retP, resV, resOne, snapV, snapVs, snapR, ownSz, pickV, cond_true, cond_false, bTT, bTF, bFT, bFF, Bool.not_true, Bool.not_false, WpD_cons, WpD_nil, opD, evD_some, guardD_true, guardD_false, List.map_nil]
  | cons p r => simp only [Wp_seq, Wp_ops, Wp_cond, Wp_skip, Wp_ret, Wp_exit, Wp_block, WpO_cons, WpO_nil, opQ, evOp, evO, evOs, evQ_some, guardV, guardQ_true, guardQ_false, boolQ_true, boolQ_false, argsA, pvs, putS, cellsOf, scals, scal, seqQ_normal, seqQ_ret, seqQ_exit, blkQ_normal, blkQ_ret, blkQ_exit, look_if, blkAt_if, if_true, if_false, Nat.reduceEqDiff, Nat.reduceAdd, true_implies, reduceCtorEq, false_implies, and_true, true_and, List.nil_append, List.cons_append, Bool.and_self, Nat.zero_add, Nat.add_zero, fieldA, nonNil, cellsAt, loadV_one, loadV_pvs, loadV_cons, mkAgg, allPV, List.drop_zero, List.drop_succ_cons, List.take_succ_cons, List.take_zero, List.length_cons, List.length_nil, Nat.beq_eq, storeB, patchL, beq_self_eq_true, ge_iff_le, gt_iff_lt, Int.reduceNeg, Int.reduceLE, Int.reduceLT, Int.reduceEq, extractV, List.getElem?_cons_zero, List.getElem?_cons_succ, mkAgg, Nat.add_eq_left, Nat.left_eq_add, Nat.one_ne_zero, ble_dec, beq_dec, decide_eq_true_eq, Nat.reduceLeDiff, Nat.le_refl, fillA, pureVs, pureV, beq_int, bne_int, Int.natCast_inj, eq_self, eqV, eqB, decide_true, decide_false, List.length_map, Int.toNat_natCast, List.getElem?_map, Option.map_some, Option.map_none, Int.natCast_nonneg, Option.some.injEq, lenV, binV, intBin, intV, idxA, ne_eq, not_true_eq_false, not_false_eq_true, List.drop, List.take, RetP, retP, resV, resOne, snapV, snapVs, snapR, ownSz, pickV, cond_true, cond_false, bTT, bTF, bFT, bFF, Bool.not_true, Bool.not_false, WpD_cons, WpD_nil, opD, evD_some, guardD_true, guardD_false, List.map_cons]
theorem first5b_ok (h164 : Std T 164 f164) (s : Snap) (h : s.pods.length ≤ 2 ^ 30) : Gives T 164 [snapP s] (stateP (firstOf s)) := by
  refine gives h164 rfl ?_
  simp only [f164, Wp_seq, Wp_ops, Wp_cond, Wp_skip, Wp_ret, Wp_exit, Wp_block, WpO_cons, WpO_nil, opQ, evOp, evO, evOs, evQ_some, guardV, guardQ_true, guardQ_false, boolQ_true, boolQ_false, argsA, pvs, putS, cellsOf, scals, scal, seqQ_normal, seqQ_ret, seqQ_exit, blkQ_normal, blkQ_ret, blkQ_exit, look_if, blkAt_if, if_true, if_false, Nat.reduceEqDiff, Nat.reduceAdd, true_implies, reduceCtorEq, false_implies, and_true, true_and, List.nil_append, List.cons_append, Bool.and_self, Nat.zero_add, Nat.add_zero, fieldA, nonNil, cellsAt, loadV_one, loadV_pvs, loadV_cons, mkAgg, allPV, List.drop_zero, List.drop_succ_cons, List.take_succ_cons, List.take_zero, List.length_cons, List.length_nil, Nat.beq_eq, storeB, patchL, beq_self_eq_true, ge_iff_le, gt_iff_lt, Int.reduceNeg, Int.reduceLE, Int.reduceLT, Int.reduceEq, extractV, List.getElem?_cons_zero, List.getElem?_cons_succ, mkAgg, Nat.add_eq_left, Nat.left_eq_add, Nat.one_ne_zero, ble_dec, beq_dec, decide_eq_true_eq, Nat.reduceLeDiff, Nat.le_refl, fillA, pureVs, pureV, beq_int, bne_int, Int.natCast_inj, eq_self, eqV, eqB, decide_true, decide_false, List.length_map, Int.toNat_natCast, List.getElem?_map, Option.map_some, Option.map_none, Int.natCast_nonneg, Option.some.injEq, lenV, binV, intBin, intV, idxA, ne_eq, not_true_eq_false, not_false_eq_true, List.drop, List.take, RetP, retP, resV, resOne, snapV, snapVs, snapR, ownSz, pickV, cond_true, cond_false, bTT, bTF, bFT, bFF, Bool.not_true, Bool.not_false, WpD_cons, WpD_nil, opD, evD_some, guardD_true, guardD_false, snapP, stateP, firstOf, allLen_pods, partsScal, srcV, chunk, appV, baseV, h]

/-- A want is met. -/
def metB (w : Want) (l : List Pod) : Bool := match podOf w.pod l with
  | none => false
  | some p => if w.stay = true then decide (p.node ≠ 0) && decide (p.req = w.req) else decide (p.node = 0)
def goalB (ws : List Want) (l : List Pod) : Bool := ws.all (fun w => metB w l)

theorem eqVec (v v' : Vec) : eqCells [false, false, false, false] [.int .u64 v.a, .int .u64 v.b, .int .u64 v.c, .int .u64 v.d] [.int .u64 v'.a, .int .u64 v'.b, .int .u64 v'.c, .int .u64 v'.d] = some (decide (v = v')) := by
  obtain ⟨a, b, c, d⟩ := v
  obtain ⟨a', b', c', d'⟩ := v'
  simp only [eqCells, if_true, Option.some.injEq]
  rw [Bool.eq_iff_iff]
  simp

theorem goal5_ok (S : Std5 T) (h240 : Std T 240 f240) (h238 : Std T 238 f238) (x : Spec) (t : State) (hx : x.wants.length ≤ 2 ^ 30) (h : t.pods.length ≤ 2 ^ 30) : Gives T 238 [specP x, stateP t] (.bool (goalB x.wants t.pods)) := by
  refine gives h238 rfl ?_
  have loop : ∀ (rest : List Want) (i : Nat), x.wants.drop i = rest → i ≤ x.wants.length → ∀ (fr : List (Nat × AV)) (hp : Hl) (nx : Nat), 2 ≤ nx →
      blkAt hp 1 = .var [.pv (.slice (t.pods.map podC)), .pv (.int .i64 t.pre), .pv (.int .i64 t.shi)] → look fr 3 = .ptr 1 0 0 →
      look fr 12 = .pv (.int .i64 i) → look fr 11 = .pv (.int .i64 x.wants.length) → look fr 10 = .pv (.slice (x.wants.map wantC)) →
      Wp T false (.loop f238l0) ⟨fr, hp, nx⟩ (blkQ 0 (seqQ T false (.seq (.ops [⟨some 4, .mv (.c (.pv (.bool true))), none, []⟩]) .ret) (RetP [.t 4] (.bool (goalB rest t.pods))))) := by
    intro rest
    induction rest with
    | nil =>
      intro i hd hi fr hp nx hn b1 h3 h12 h11 h10
      have hlen : x.wants.length = i := by
        have := congrArg List.length hd
        simp at this
        omega
      rw [Wp_loop, Wp_eq f238l0.eq_1]
      simp only [Wp_seq, Wp_ops, Wp_cond, Wp_skip, Wp_ret, Wp_exit, Wp_block, WpO_cons, WpO_nil, opQ, evOp, evO, evOs, evQ_some, guardV, guardQ_true, guardQ_false, boolQ_true, boolQ_false, argsA, pvs, putS, cellsOf, scals, scal, seqQ_normal, seqQ_ret, seqQ_exit, blkQ_normal, blkQ_ret, blkQ_exit, look_if, blkAt_if, if_true, if_false, Nat.reduceEqDiff, Nat.reduceAdd, true_implies, reduceCtorEq, false_implies, and_true, true_and, List.nil_append, List.cons_append, Bool.and_self, Nat.zero_add, Nat.add_zero, fieldA, nonNil, cellsAt, loadV_one, loadV_pvs, loadV_cons, mkAgg, allPV, List.drop_zero, List.drop_succ_cons, List.take_succ_cons, List.take_zero, List.length_cons, List.length_nil, Nat.beq_eq, storeB, patchL, beq_self_eq_true, ge_iff_le, gt_iff_lt, Int.reduceNeg, Int.reduceLE, Int.reduceLT, Int.reduceEq, extractV, List.getElem?_cons_zero, List.getElem?_cons_succ, mkAgg, Nat.add_eq_left, Nat.left_eq_add, Nat.one_ne_zero, ble_dec, beq_dec, decide_eq_true_eq, Nat.reduceLeDiff, Nat.le_refl, fillA, pureVs, pureV, beq_int, bne_int, Int.natCast_inj, eq_self, eqV, eqB, decide_true, decide_false, List.length_map, Int.toNat_natCast, List.getElem?_map, Option.map_some, Option.map_none, Int.natCast_nonneg, Option.some.injEq, lenV, binV, intBin, intV, idxA, ne_eq, not_true_eq_false, not_false_eq_true, List.drop, List.take, RetP, retP, resV, resOne, snapV, snapVs, snapR, ownSz, pickV, cond_true, cond_false, bTT, bTF, bFT, bFF, Bool.not_true, Bool.not_false, WpD_cons, WpD_nil, opD, evD_some, guardD_true, guardD_false, h3, h12, h11, h10, hlen, Int.lt_irrefl, goalB, List.all_nil]
    | cons w r ih =>
      intro i hd hi fr hp nx hn b1 h3 h12 h11 h10
      have hget : x.wants[i]? = some w := by
        have := congrArg (·[0]?) hd
        simpa using this
      have hlt : i < x.wants.length := (List.getElem?_eq_some_iff.1 hget).1
      have hlt' : (i : Int) < (x.wants.length : Int) := by omega
      have n1 : ¬ nx = 1 := by omega
      have n2 : ¬ nx + 1 = 1 := by omega
      have hw : IntKind.i64.wrap ((i : Int) + 1) = ((i + 1 : Nat) : Int) := by rw [wrap6] <;> omega
      have k := pod5_ok S h240 t w.pod h
      have next : metB w t.pods = true → ∀ (fr' : List (Nat × AV)) (hp' : Hl) (nx' : Nat), 2 ≤ nx' → blkAt hp' 1 = blkAt hp 1 → look fr' 3 = look fr 3 → look fr' 12 = .pv (.int .i64 ((i + 1 : Nat) : Int)) → look fr' 11 = look fr 11 → look fr' 10 = look fr 10 →
          Wp T false (.loop f238l0) ⟨fr', hp', nx'⟩ (blkQ 0 (seqQ T false (.seq (.ops [⟨some 4, .mv (.c (.pv (.bool true))), none, []⟩]) .ret) (RetP [.t 4] (.bool (goalB (w :: r) t.pods))))) := by
        intro hm fr' hp' nx' hn' b1' h3' h12' h11' h10'
        have : goalB (w :: r) t.pods = goalB r t.pods := by simp only [goalB, List.all_cons, hm, Bool.true_and]
        rw [this]
        exact ih (i + 1) (by rw [← List.drop_drop, hd]; rfl) (by omega) fr' hp' nx' hn' (b1'.trans b1) (h3'.trans h3) h12' (h11'.trans h11) (h10'.trans h10)
      have stop : metB w t.pods = false → goalB (w :: r) t.pods = false := by
        intro hm
        simp only [goalB, List.all_cons, hm, Bool.false_and]
      rw [Wp_loop, Wp_eq f238l0.eq_1]
      simp only [Wp_seq, Wp_ops, Wp_cond, Wp_skip, Wp_ret, Wp_exit, Wp_block, WpO_cons, WpO_nil, opQ, evOp, evO, evOs, evQ_some, guardV, guardQ_true, guardQ_false, boolQ_true, boolQ_false, argsA, pvs, putS, cellsOf, scals, scal, seqQ_normal, seqQ_ret, seqQ_exit, blkQ_normal, blkQ_ret, blkQ_exit, look_if, blkAt_if, if_true, if_false, Nat.reduceEqDiff, Nat.reduceAdd, true_implies, reduceCtorEq, false_implies, and_true, true_and, List.nil_append, List.cons_append, Bool.and_self, Nat.zero_add, Nat.add_zero, fieldA, nonNil, cellsAt, loadV_one, loadV_pvs, loadV_cons, mkAgg, allPV, List.drop_zero, List.drop_succ_cons, List.take_succ_cons, List.take_zero, List.length_cons, List.length_nil, Nat.beq_eq, storeB, patchL, beq_self_eq_true, ge_iff_le, gt_iff_lt, Int.reduceNeg, Int.reduceLE, Int.reduceLT, Int.reduceEq, extractV, List.getElem?_cons_zero, List.getElem?_cons_succ, mkAgg, Nat.add_eq_left, Nat.left_eq_add, Nat.one_ne_zero, ble_dec, beq_dec, decide_eq_true_eq, Nat.reduceLeDiff, Nat.le_refl, fillA, pureVs, pureV, beq_int, bne_int, Int.natCast_inj, eq_self, eqV, eqB, decide_true, decide_false, List.length_map, Int.toNat_natCast, List.getElem?_map, Option.map_some, Option.map_none, Int.natCast_nonneg, Option.some.injEq, lenV, binV, intBin, intV, idxA, ne_eq, not_true_eq_false, not_false_eq_true, List.drop, List.take, RetP, retP, resV, resOne, snapV, snapVs, snapR, ownSz, pickV, cond_true, cond_false, bTT, bTF, bFT, bFF, Bool.not_true, Bool.not_false, WpD_cons, WpD_nil, opD, evD_some, guardD_true, guardD_false, h3, h12, h11, h10, hlt', hget, wantC, b1, n1, n2, k.call, stateP]
      cases hp0 : podOf w.pod t.pods with
      | none =>
        have := stop (by simp only [metB, hp0])
        simp only [Wp_seq, Wp_ops, Wp_cond, Wp_skip, Wp_ret, Wp_exit, Wp_block, WpO_cons, WpO_nil, opQ, evOp, evO, evOs, evQ_some, guardV, guardQ_true, guardQ_false, boolQ_true, boolQ_false, argsA, pvs, putS, cellsOf, scals, scal, seqQ_normal, seqQ_ret, seqQ_exit, blkQ_normal, blkQ_ret, blkQ_exit, look_if, blkAt_if, if_true, if_false, Nat.reduceEqDiff, Nat.reduceAdd, true_implies, reduceCtorEq, false_implies, and_true, true_and, List.nil_append, List.cons_append, Bool.and_self, Nat.zero_add, Nat.add_zero, fieldA, nonNil, cellsAt, loadV_one, loadV_pvs, loadV_cons, mkAgg, allPV, List.drop_zero, List.drop_succ_cons, List.take_succ_cons, List.take_zero, List.length_cons, List.length_nil, Nat.beq_eq, storeB, patchL, beq_self_eq_true, ge_iff_le, gt_iff_lt, Int.reduceNeg, Int.reduceLE, Int.reduceLT, Int.reduceEq, extractV, List.getElem?_cons_zero, List.getElem?_cons_succ, mkAgg, Nat.add_eq_left, Nat.left_eq_add, Nat.one_ne_zero, ble_dec, beq_dec, decide_eq_true_eq, Nat.reduceLeDiff, Nat.le_refl, fillA, pureVs, pureV, beq_int, bne_int, Int.natCast_inj, eq_self, eqV, eqB, decide_true, decide_false, List.length_map, Int.toNat_natCast, List.getElem?_map, Option.map_some, Option.map_none, Int.natCast_nonneg, Option.some.injEq, lenV, binV, intBin, intV, idxA, ne_eq, not_true_eq_false, not_false_eq_true, List.drop, List.take, RetP, retP, resV, resOne, snapV, snapVs, snapR, ownSz, pickV, cond_true, cond_false, bTT, bTF, bFT, bFF, Bool.not_true, Bool.not_false, WpD_cons, WpD_nil, opD, evD_some, guardD_true, guardD_false, podR, podP, pod0, podC, n1, n2, this]
      | some p =>
        cases hst : w.stay
        · by_cases hn : p.node = 0
          · simp only [Wp_seq, Wp_ops, Wp_cond, Wp_skip, Wp_ret, Wp_exit, Wp_block, WpO_cons, WpO_nil, opQ, evOp, evO, evOs, evQ_some, guardV, guardQ_true, guardQ_false, boolQ_true, boolQ_false, argsA, pvs, putS, cellsOf, scals, scal, seqQ_normal, seqQ_ret, seqQ_exit, blkQ_normal, blkQ_ret, blkQ_exit, look_if, blkAt_if, if_true, if_false, Nat.reduceEqDiff, Nat.reduceAdd, true_implies, reduceCtorEq, false_implies, and_true, true_and, List.nil_append, List.cons_append, Bool.and_self, Nat.zero_add, Nat.add_zero, fieldA, nonNil, cellsAt, loadV_one, loadV_pvs, loadV_cons, mkAgg, allPV, List.drop_zero, List.drop_succ_cons, List.take_succ_cons, List.take_zero, List.length_cons, List.length_nil, Nat.beq_eq, storeB, patchL, beq_self_eq_true, ge_iff_le, gt_iff_lt, Int.reduceNeg, Int.reduceLE, Int.reduceLT, Int.reduceEq, extractV, List.getElem?_cons_zero, List.getElem?_cons_succ, mkAgg, Nat.add_eq_left, Nat.left_eq_add, Nat.one_ne_zero, ble_dec, beq_dec, decide_eq_true_eq, Nat.reduceLeDiff, Nat.le_refl, fillA, pureVs, pureV, beq_int, bne_int, Int.natCast_inj, eq_self, eqV, eqB, decide_true, decide_false, List.length_map, Int.toNat_natCast, List.getElem?_map, Option.map_some, Option.map_none, Int.natCast_nonneg, Option.some.injEq, lenV, binV, intBin, intV, idxA, ne_eq, not_true_eq_false, not_false_eq_true, List.drop, List.take, RetP, retP, resV, resOne, snapV, snapVs, snapR, ownSz, pickV, cond_true, cond_false, bTT, bTF, bFT, bFF, Bool.not_true, Bool.not_false, WpD_cons, WpD_nil, opD, evD_some, guardD_true, guardD_false, podR, podP, podC, n1, n2, hst, hn, h12, hw]
            refine next (by simp [metB, hp0, hst, hn]) _ _ _ (by omega) ?_ ?_ ?_ ?_ ?_
            all_goals simp only [look_if, blkAt_if, Nat.reduceEqDiff, if_true, if_false, n1, n2]
          · have := stop (by simp [metB, hp0, hst, hn])
            simp only [Wp_seq, Wp_ops, Wp_cond, Wp_skip, Wp_ret, Wp_exit, Wp_block, WpO_cons, WpO_nil, opQ, evOp, evO, evOs, evQ_some, guardV, guardQ_true, guardQ_false, boolQ_true, boolQ_false, argsA, pvs, putS, cellsOf, scals, scal, seqQ_normal, seqQ_ret, seqQ_exit, blkQ_normal, blkQ_ret, blkQ_exit, look_if, blkAt_if, if_true, if_false, Nat.reduceEqDiff, Nat.reduceAdd, true_implies, reduceCtorEq, false_implies, and_true, true_and, List.nil_append, List.cons_append, Bool.and_self, Nat.zero_add, Nat.add_zero, fieldA, nonNil, cellsAt, loadV_one, loadV_pvs, loadV_cons, mkAgg, allPV, List.drop_zero, List.drop_succ_cons, List.take_succ_cons, List.take_zero, List.length_cons, List.length_nil, Nat.beq_eq, storeB, patchL, beq_self_eq_true, ge_iff_le, gt_iff_lt, Int.reduceNeg, Int.reduceLE, Int.reduceLT, Int.reduceEq, extractV, List.getElem?_cons_zero, List.getElem?_cons_succ, mkAgg, Nat.add_eq_left, Nat.left_eq_add, Nat.one_ne_zero, ble_dec, beq_dec, decide_eq_true_eq, Nat.reduceLeDiff, Nat.le_refl, fillA, pureVs, pureV, beq_int, bne_int, Int.natCast_inj, eq_self, eqV, eqB, decide_true, decide_false, List.length_map, Int.toNat_natCast, List.getElem?_map, Option.map_some, Option.map_none, Int.natCast_nonneg, Option.some.injEq, lenV, binV, intBin, intV, idxA, ne_eq, not_true_eq_false, not_false_eq_true, List.drop, List.take, RetP, retP, resV, resOne, snapV, snapVs, snapR, ownSz, pickV, cond_true, cond_false, bTT, bTF, bFT, bFF, Bool.not_true, Bool.not_false, WpD_cons, WpD_nil, opD, evD_some, guardD_true, guardD_false, podR, podP, podC, n1, n2, hst, hn, this]
        · by_cases hn : p.node = 0
          · have := stop (by simp [metB, hp0, hst, hn])
            simp only [Wp_seq, Wp_ops, Wp_cond, Wp_skip, Wp_ret, Wp_exit, Wp_block, WpO_cons, WpO_nil, opQ, evOp, evO, evOs, evQ_some, guardV, guardQ_true, guardQ_false, boolQ_true, boolQ_false, argsA, pvs, putS, cellsOf, scals, scal, seqQ_normal, seqQ_ret, seqQ_exit, blkQ_normal, blkQ_ret, blkQ_exit, look_if, blkAt_if, if_true, if_false, Nat.reduceEqDiff, Nat.reduceAdd, true_implies, reduceCtorEq, false_implies, and_true, true_and, List.nil_append, List.cons_append, Bool.and_self, Nat.zero_add, Nat.add_zero, fieldA, nonNil, cellsAt, loadV_one, loadV_pvs, loadV_cons, mkAgg, allPV, List.drop_zero, List.drop_succ_cons, List.take_succ_cons, List.take_zero, List.length_cons, List.length_nil, Nat.beq_eq, storeB, patchL, beq_self_eq_true, ge_iff_le, gt_iff_lt, Int.reduceNeg, Int.reduceLE, Int.reduceLT, Int.reduceEq, extractV, List.getElem?_cons_zero, List.getElem?_cons_succ, mkAgg, Nat.add_eq_left, Nat.left_eq_add, Nat.one_ne_zero, ble_dec, beq_dec, decide_eq_true_eq, Nat.reduceLeDiff, Nat.le_refl, fillA, pureVs, pureV, beq_int, bne_int, Int.natCast_inj, eq_self, eqV, eqB, decide_true, decide_false, List.length_map, Int.toNat_natCast, List.getElem?_map, Option.map_some, Option.map_none, Int.natCast_nonneg, Option.some.injEq, lenV, binV, intBin, intV, idxA, ne_eq, not_true_eq_false, not_false_eq_true, List.drop, List.take, RetP, retP, resV, resOne, snapV, snapVs, snapR, ownSz, pickV, cond_true, cond_false, bTT, bTF, bFT, bFF, Bool.not_true, Bool.not_false, WpD_cons, WpD_nil, opD, evD_some, guardD_true, guardD_false, podR, podP, podC, n1, n2, hst, hn, this]
          · by_cases hr : p.req = w.req
            · simp only [Wp_seq, Wp_ops, Wp_cond, Wp_skip, Wp_ret, Wp_exit, Wp_block, WpO_cons, WpO_nil, opQ, evOp, evO, evOs, evQ_some, guardV, guardQ_true, guardQ_false, boolQ_true, boolQ_false, argsA, pvs, putS, cellsOf, scals, scal, seqQ_normal, seqQ_ret, seqQ_exit, blkQ_normal, blkQ_ret, blkQ_exit, look_if, blkAt_if, if_true, if_false, Nat.reduceEqDiff, Nat.reduceAdd, true_implies, reduceCtorEq, false_implies, and_true, true_and, List.nil_append, List.cons_append, Bool.and_self, Nat.zero_add, Nat.add_zero, fieldA, nonNil, cellsAt, loadV_one, loadV_pvs, loadV_cons, mkAgg, allPV, List.drop_zero, List.drop_succ_cons, List.take_succ_cons, List.take_zero, List.length_cons, List.length_nil, Nat.beq_eq, storeB, patchL, beq_self_eq_true, ge_iff_le, gt_iff_lt, Int.reduceNeg, Int.reduceLE, Int.reduceLT, Int.reduceEq, extractV, List.getElem?_cons_zero, List.getElem?_cons_succ, mkAgg, Nat.add_eq_left, Nat.left_eq_add, Nat.one_ne_zero, ble_dec, beq_dec, decide_eq_true_eq, Nat.reduceLeDiff, Nat.le_refl, fillA, pureVs, pureV, beq_int, bne_int, Int.natCast_inj, eq_self, eqV, eqB, decide_true, decide_false, List.length_map, Int.toNat_natCast, List.getElem?_map, Option.map_some, Option.map_none, Int.natCast_nonneg, Option.some.injEq, lenV, binV, intBin, intV, idxA, ne_eq, not_true_eq_false, not_false_eq_true, List.drop, List.take, RetP, retP, resV, resOne, snapV, snapVs, snapR, ownSz, pickV, cond_true, cond_false, bTT, bTF, bFT, bFF, Bool.not_true, Bool.not_false, WpD_cons, WpD_nil, opD, evD_some, guardD_true, guardD_false, podR, podP, podC, n1, n2, hst, hn, eqVec, hr, h12, hw]
              refine next (by simp [metB, hp0, hst, hn, hr]) _ _ _ (by omega) ?_ ?_ ?_ ?_ ?_
              all_goals simp only [look_if, blkAt_if, Nat.reduceEqDiff, if_true, if_false, n1, n2]
            · have := stop (by simp [metB, hp0, hst, hn, hr])
              simp only [Wp_seq, Wp_ops, Wp_cond, Wp_skip, Wp_ret, Wp_exit, Wp_block, WpO_cons, WpO_nil, opQ, evOp, evO, evOs, evQ_some, guardV, guardQ_true, guardQ_false, boolQ_true, boolQ_false, argsA, pvs, putS, cellsOf, scals, scal, seqQ_normal, seqQ_ret, seqQ_exit, blkQ_normal, blkQ_ret, blkQ_exit, look_if, blkAt_if, if_true, if_false, Nat.reduceEqDiff, Nat.reduceAdd, true_implies, reduceCtorEq, false_implies, and_true, true_and, List.nil_append, List.cons_append, Bool.and_self, Nat.zero_add, Nat.add_zero, fieldA, nonNil, cellsAt, loadV_one, loadV_pvs, loadV_cons, mkAgg, allPV, List.drop_zero, List.drop_succ_cons, List.take_succ_cons, List.take_zero, List.length_cons, List.length_nil, Nat.beq_eq, storeB, patchL, beq_self_eq_true, ge_iff_le, gt_iff_lt, Int.reduceNeg, Int.reduceLE, Int.reduceLT, Int.reduceEq, extractV, List.getElem?_cons_zero, List.getElem?_cons_succ, mkAgg, Nat.add_eq_left, Nat.left_eq_add, Nat.one_ne_zero, ble_dec, beq_dec, decide_eq_true_eq, Nat.reduceLeDiff, Nat.le_refl, fillA, pureVs, pureV, beq_int, bne_int, Int.natCast_inj, eq_self, eqV, eqB, decide_true, decide_false, List.length_map, Int.toNat_natCast, List.getElem?_map, Option.map_some, Option.map_none, Int.natCast_nonneg, Option.some.injEq, lenV, binV, intBin, intV, idxA, ne_eq, not_true_eq_false, not_false_eq_true, List.drop, List.take, RetP, retP, resV, resOne, snapV, snapVs, snapR, ownSz, pickV, cond_true, cond_false, bTT, bTF, bFT, bFF, Bool.not_true, Bool.not_false, WpD_cons, WpD_nil, opD, evD_some, guardD_true, guardD_false, podR, podP, podC, n1, n2, hst, hn, eqVec, hr, this]
  simp only [f238, Wp_seq, Wp_ops, Wp_cond, Wp_skip, Wp_ret, Wp_exit, Wp_block, WpO_cons, WpO_nil, opQ, evOp, evO, evOs, evQ_some, guardV, guardQ_true, guardQ_false, boolQ_true, boolQ_false, argsA, pvs, putS, cellsOf, scals, scal, seqQ_normal, seqQ_ret, seqQ_exit, blkQ_normal, blkQ_ret, blkQ_exit, look_if, blkAt_if, if_true, if_false, Nat.reduceEqDiff, Nat.reduceAdd, true_implies, reduceCtorEq, false_implies, and_true, true_and, List.nil_append, List.cons_append, Bool.and_self, Nat.zero_add, Nat.add_zero, fieldA, nonNil, cellsAt, loadV_one, loadV_pvs, loadV_cons, mkAgg, allPV, List.drop_zero, List.drop_succ_cons, List.take_succ_cons, List.take_zero, List.length_cons, List.length_nil, Nat.beq_eq, storeB, patchL, beq_self_eq_true, ge_iff_le, gt_iff_lt, Int.reduceNeg, Int.reduceLE, Int.reduceLT, Int.reduceEq, extractV, List.getElem?_cons_zero, List.getElem?_cons_succ, mkAgg, Nat.add_eq_left, Nat.left_eq_add, Nat.one_ne_zero, ble_dec, beq_dec, decide_eq_true_eq, Nat.reduceLeDiff, Nat.le_refl, fillA, pureVs, pureV, beq_int, bne_int, Int.natCast_inj, eq_self, eqV, eqB, decide_true, decide_false, List.length_map, Int.toNat_natCast, List.getElem?_map, Option.map_some, Option.map_none, Int.natCast_nonneg, Option.some.injEq, lenV, binV, intBin, intV, idxA, ne_eq, not_true_eq_false, not_false_eq_true, List.drop, List.take, RetP, retP, resV, resOne, snapV, snapVs, snapR, ownSz, pickV, cond_true, cond_false, bTT, bTF, bFT, bFF, Bool.not_true, Bool.not_false, WpD_cons, WpD_nil, opD, evD_some, guardD_true, guardD_false, specP, stateP]
  exact loop x.wants 0 rfl (Nat.zero_le _) _ _ 2 (Nat.le_refl _) rfl rfl rfl rfl rfl

theorem goal5b_ok (h165 : Std T 165 f165) (h167 : Std T 167 f167) (x : Spec) (t : State) (hx : x.wants.length ≤ 2 ^ 30) (h : t.pods.length ≤ 2 ^ 30) : Gives T 165 [specP x, stateP t] (.bool (goalB x.wants t.pods)) := by
  refine gives h165 rfl ?_
  have loop : ∀ (rest : List Want) (i : Nat), x.wants.drop i = rest → i ≤ x.wants.length → ∀ (fr : List (Nat × AV)) (hp : Hl) (nx : Nat), 2 ≤ nx →
      blkAt hp 0 = .var [.pv (.slice (x.wants.map wantC)), .pv (.int .i64 x.pre), .pv (.int .i64 x.shi)] →
      blkAt hp 1 = .var [.pv (.slice (t.pods.map podC)), .pv (.int .i64 t.pre), .pv (.int .i64 t.shi)] → look fr 2 = .ptr 0 0 0 → look fr 3 = .ptr 1 0 0 → look fr 5 = .pv (.int .i64 i) →
      Wp T false (.loop f165l0) ⟨fr, hp, nx⟩ (blkQ 0 (seqQ T false (.seq (.ops [⟨some 4, .mv (.c (.pv (.bool true))), none, []⟩]) .ret) (RetP [.t 4] (.bool (goalB rest t.pods))))) := by
    intro rest
    induction rest with
    | nil =>
      intro i hd hi fr hp nx hn b0 b1 h2 h3 h5
      have hlen : x.wants.length = i := by
        have := congrArg List.length hd
        simp at this
        omega
      rw [Wp_loop, Wp_eq f165l0.eq_1]
      simp only [Wp_seq, Wp_ops, Wp_cond, Wp_skip, Wp_ret, Wp_exit, Wp_block, WpO_cons, WpO_nil, opQ, evOp, evO, evOs, evQ_some, guardV, guardQ_true, guardQ_false, boolQ_true, boolQ_false, argsA, pvs, putS, cellsOf, scals, scal, seqQ_normal, seqQ_ret, seqQ_exit, blkQ_normal, blkQ_ret, blkQ_exit, look_if, blkAt_if, if_true, if_false, Nat.reduceEqDiff, Nat.reduceAdd, true_implies, reduceCtorEq, false_implies, and_true, true_and, List.nil_append, List.cons_append, Bool.and_self, Nat.zero_add, Nat.add_zero, fieldA, nonNil, cellsAt, loadV_one, loadV_pvs, loadV_cons, mkAgg, allPV, List.drop_zero, List.drop_succ_cons, List.take_succ_cons, List.take_zero, List.length_cons, List.length_nil, Nat.beq_eq, storeB, patchL, beq_self_eq_true, ge_iff_le, gt_iff_lt, Int.reduceNeg, Int.reduceLE, Int.reduceLT, Int.reduceEq, extractV, List.getElem?_cons_zero, List.getElem?_cons_succ, mkAgg, Nat.add_eq_left, Nat.left_eq_add, Nat.one_ne_zero, ble_dec, beq_dec, decide_eq_true_eq, Nat.reduceLeDiff, Nat.le_refl, fillA, pureVs, pureV, beq_int, bne_int, Int.natCast_inj, eq_self, eqV, eqB, decide_true, decide_false, List.length_map, Int.toNat_natCast, List.getElem?_map, Option.map_some, Option.map_none, Int.natCast_nonneg, Option.some.injEq, lenV, binV, intBin, intV, idxA, ne_eq, not_true_eq_false, not_false_eq_true, List.drop, List.take, RetP, retP, resV, resOne, snapV, snapVs, snapR, ownSz, pickV, cond_true, cond_false, bTT, bTF, bFT, bFF, Bool.not_true, Bool.not_false, WpD_cons, WpD_nil, opD, evD_some, guardD_true, guardD_false, b0, h2, h3, h5, hlen, Int.lt_irrefl, goalB, List.all_nil]
    | cons w r ih =>
      intro i hd hi fr hp nx hn b0 b1 h2 h3 h5
      have hget : x.wants[i]? = some w := by
        have := congrArg (·[0]?) hd
        simpa using this
      have hlt : i < x.wants.length := (List.getElem?_eq_some_iff.1 hget).1
      have hlt' : (i : Int) < (x.wants.length : Int) := by omega
      have n0 : ¬ nx = 0 := by omega
      have n1 : ¬ nx = 1 := by omega
      have hw : IntKind.i64.wrap ((i : Int) + 1) = ((i + 1 : Nat) : Int) := by rw [wrap6] <;> omega
      have k := place_ok h167 t w.pod h
      have next : metB w t.pods = true → ∀ (fr' : List (Nat × AV)) (hp' : Hl) (nx' : Nat), 2 ≤ nx' → blkAt hp' 0 = blkAt hp 0 → blkAt hp' 1 = blkAt hp 1 → look fr' 2 = look fr 2 → look fr' 3 = look fr 3 → look fr' 5 = .pv (.int .i64 ((i + 1 : Nat) : Int)) →
          Wp T false (.loop f165l0) ⟨fr', hp', nx'⟩ (blkQ 0 (seqQ T false (.seq (.ops [⟨some 4, .mv (.c (.pv (.bool true))), none, []⟩]) .ret) (RetP [.t 4] (.bool (goalB (w :: r) t.pods))))) := by
        intro hm fr' hp' nx' hn' b0' b1' h2' h3' h5'
        have : goalB (w :: r) t.pods = goalB r t.pods := by simp only [goalB, List.all_cons, hm, Bool.true_and]
        rw [this]
        exact ih (i + 1) (by rw [← List.drop_drop, hd]; rfl) (by omega) fr' hp' nx' hn' (b0'.trans b0) (b1'.trans b1) (h2'.trans h2) (h3'.trans h3) h5'
      have stop : metB w t.pods = false → goalB (w :: r) t.pods = false := by
        intro hm
        simp only [goalB, List.all_cons, hm, Bool.false_and]
      rw [Wp_loop, Wp_eq f165l0.eq_1]
      simp only [Wp_seq, Wp_ops, Wp_cond, Wp_skip, Wp_ret, Wp_exit, Wp_block, WpO_cons, WpO_nil, opQ, evOp, evO, evOs, evQ_some, guardV, guardQ_true, guardQ_false, boolQ_true, boolQ_false, argsA, pvs, putS, cellsOf, scals, scal, seqQ_normal, seqQ_ret, seqQ_exit, blkQ_normal, blkQ_ret, blkQ_exit, look_if, blkAt_if, if_true, if_false, Nat.reduceEqDiff, Nat.reduceAdd, true_implies, reduceCtorEq, false_implies, and_true, true_and, List.nil_append, List.cons_append, Bool.and_self, Nat.zero_add, Nat.add_zero, fieldA, nonNil, cellsAt, loadV_one, loadV_pvs, loadV_cons, mkAgg, allPV, List.drop_zero, List.drop_succ_cons, List.take_succ_cons, List.take_zero, List.length_cons, List.length_nil, Nat.beq_eq, storeB, patchL, beq_self_eq_true, ge_iff_le, gt_iff_lt, Int.reduceNeg, Int.reduceLE, Int.reduceLT, Int.reduceEq, extractV, List.getElem?_cons_zero, List.getElem?_cons_succ, mkAgg, Nat.add_eq_left, Nat.left_eq_add, Nat.one_ne_zero, ble_dec, beq_dec, decide_eq_true_eq, Nat.reduceLeDiff, Nat.le_refl, fillA, pureVs, pureV, beq_int, bne_int, Int.natCast_inj, eq_self, eqV, eqB, decide_true, decide_false, List.length_map, Int.toNat_natCast, List.getElem?_map, Option.map_some, Option.map_none, Int.natCast_nonneg, Option.some.injEq, lenV, binV, intBin, intV, idxA, ne_eq, not_true_eq_false, not_false_eq_true, List.drop, List.take, RetP, retP, resV, resOne, snapV, snapVs, snapR, ownSz, pickV, cond_true, cond_false, bTT, bTF, bFT, bFF, Bool.not_true, Bool.not_false, WpD_cons, WpD_nil, opD, evD_some, guardD_true, guardD_false, b0, h2, h3, h5, hlt']
      refine (Wp_calm rfl).2 ?_
      rcases placeFrom_cases w.pod t.pods 0 with ⟨e1, e2⟩ | ⟨j, p, e1, e2, e3, e4⟩
      · have := stop (by simp only [metB, e1])
        rw [e2] at k
        simp only [Wp_seq, Wp_ops, Wp_cond, Wp_skip, Wp_ret, Wp_exit, Wp_block, WpO_cons, WpO_nil, opQ, evOp, evO, evOs, evQ_some, guardV, guardQ_true, guardQ_false, boolQ_true, boolQ_false, argsA, pvs, putS, cellsOf, scals, scal, seqQ_normal, seqQ_ret, seqQ_exit, blkQ_normal, blkQ_ret, blkQ_exit, look_if, blkAt_if, if_true, if_false, Nat.reduceEqDiff, Nat.reduceAdd, true_implies, reduceCtorEq, false_implies, and_true, true_and, List.nil_append, List.cons_append, Bool.and_self, Nat.zero_add, Nat.add_zero, fieldA, nonNil, cellsAt, loadV_one, loadV_pvs, loadV_cons, mkAgg, allPV, List.drop_zero, List.drop_succ_cons, List.take_succ_cons, List.take_zero, List.length_cons, List.length_nil, Nat.beq_eq, storeB, patchL, beq_self_eq_true, ge_iff_le, gt_iff_lt, Int.reduceNeg, Int.reduceLE, Int.reduceLT, Int.reduceEq, extractV, List.getElem?_cons_zero, List.getElem?_cons_succ, mkAgg, Nat.add_eq_left, Nat.left_eq_add, Nat.one_ne_zero, ble_dec, beq_dec, decide_eq_true_eq, Nat.reduceLeDiff, Nat.le_refl, fillA, pureVs, pureV, beq_int, bne_int, Int.natCast_inj, eq_self, eqV, eqB, decide_true, decide_false, List.length_map, Int.toNat_natCast, List.getElem?_map, Option.map_some, Option.map_none, Int.natCast_nonneg, Option.some.injEq, lenV, binV, intBin, intV, idxA, ne_eq, not_true_eq_false, not_false_eq_true, List.drop, List.take, RetP, retP, resV, resOne, snapV, snapVs, snapR, ownSz, pickV, cond_true, cond_false, bTT, bTF, bFT, bFF, Bool.not_true, Bool.not_false, WpD_cons, WpD_nil, opD, evD_some, guardD_true, guardD_false, b0, b1, h2, h3, h5, hget, wantC, k.callD, stateP, this, Int.reduceNeg, Int.reduceLT]
      · have hj : ¬ ((j : Int) < 0) := by omega
        rw [e3] at k
        simp only [Wp_seq, Wp_ops, Wp_cond, Wp_skip, Wp_ret, Wp_exit, Wp_block, WpO_cons, WpO_nil, opQ, evOp, evO, evOs, evQ_some, guardV, guardQ_true, guardQ_false, boolQ_true, boolQ_false, argsA, pvs, putS, cellsOf, scals, scal, seqQ_normal, seqQ_ret, seqQ_exit, blkQ_normal, blkQ_ret, blkQ_exit, look_if, blkAt_if, if_true, if_false, Nat.reduceEqDiff, Nat.reduceAdd, true_implies, reduceCtorEq, false_implies, and_true, true_and, List.nil_append, List.cons_append, Bool.and_self, Nat.zero_add, Nat.add_zero, fieldA, nonNil, cellsAt, loadV_one, loadV_pvs, loadV_cons, mkAgg, allPV, List.drop_zero, List.drop_succ_cons, List.take_succ_cons, List.take_zero, List.length_cons, List.length_nil, Nat.beq_eq, storeB, patchL, beq_self_eq_true, ge_iff_le, gt_iff_lt, Int.reduceNeg, Int.reduceLE, Int.reduceLT, Int.reduceEq, extractV, List.getElem?_cons_zero, List.getElem?_cons_succ, mkAgg, Nat.add_eq_left, Nat.left_eq_add, Nat.one_ne_zero, ble_dec, beq_dec, decide_eq_true_eq, Nat.reduceLeDiff, Nat.le_refl, fillA, pureVs, pureV, beq_int, bne_int, Int.natCast_inj, eq_self, eqV, eqB, decide_true, decide_false, List.length_map, Int.toNat_natCast, List.getElem?_map, Option.map_some, Option.map_none, Int.natCast_nonneg, Option.some.injEq, lenV, binV, intBin, intV, idxA, ne_eq, not_true_eq_false, not_false_eq_true, List.drop, List.take, RetP, retP, resV, resOne, snapV, snapVs, snapR, ownSz, pickV, cond_true, cond_false, bTT, bTF, bFT, bFF, Bool.not_true, Bool.not_false, WpD_cons, WpD_nil, opD, evD_some, guardD_true, guardD_false, b0, b1, h2, h3, h5, hget, wantC, k.callD, stateP, hj, e1, podC]
        refine (Wp_calm rfl).2 ?_
        cases hst : w.stay
        · by_cases hn : p.node = 0
          · simp only [Wp_seq, Wp_ops, Wp_cond, Wp_skip, Wp_ret, Wp_exit, Wp_block, WpO_cons, WpO_nil, opQ, evOp, evO, evOs, evQ_some, guardV, guardQ_true, guardQ_false, boolQ_true, boolQ_false, argsA, pvs, putS, cellsOf, scals, scal, seqQ_normal, seqQ_ret, seqQ_exit, blkQ_normal, blkQ_ret, blkQ_exit, look_if, blkAt_if, if_true, if_false, Nat.reduceEqDiff, Nat.reduceAdd, true_implies, reduceCtorEq, false_implies, and_true, true_and, List.nil_append, List.cons_append, Bool.and_self, Nat.zero_add, Nat.add_zero, fieldA, nonNil, cellsAt, loadV_one, loadV_pvs, loadV_cons, mkAgg, allPV, List.drop_zero, List.drop_succ_cons, List.take_succ_cons, List.take_zero, List.length_cons, List.length_nil, Nat.beq_eq, storeB, patchL, beq_self_eq_true, ge_iff_le, gt_iff_lt, Int.reduceNeg, Int.reduceLE, Int.reduceLT, Int.reduceEq, extractV, List.getElem?_cons_zero, List.getElem?_cons_succ, mkAgg, Nat.add_eq_left, Nat.left_eq_add, Nat.one_ne_zero, ble_dec, beq_dec, decide_eq_true_eq, Nat.reduceLeDiff, Nat.le_refl, fillA, pureVs, pureV, beq_int, bne_int, Int.natCast_inj, eq_self, eqV, eqB, decide_true, decide_false, List.length_map, Int.toNat_natCast, List.getElem?_map, Option.map_some, Option.map_none, Int.natCast_nonneg, Option.some.injEq, lenV, binV, intBin, intV, idxA, ne_eq, not_true_eq_false, not_false_eq_true, List.drop, List.take, RetP, retP, resV, resOne, snapV, snapVs, snapR, ownSz, pickV, cond_true, cond_false, bTT, bTF, bFT, bFF, Bool.not_true, Bool.not_false, WpD_cons, WpD_nil, opD, evD_some, guardD_true, guardD_false, podC, wantC, n0, n1, hst, hn, b0, h2, h5, hget, hw]
            refine next (by simp [metB, e2, hst, hn]) _ _ _ (by omega) ?_ ?_ ?_ ?_ ?_
            all_goals simp only [look_if, blkAt_if, Nat.reduceEqDiff, if_true, if_false, n0, n1]
          · have := stop (by simp [metB, e2, hst, hn])
            simp only [Wp_seq, Wp_ops, Wp_cond, Wp_skip, Wp_ret, Wp_exit, Wp_block, WpO_cons, WpO_nil, opQ, evOp, evO, evOs, evQ_some, guardV, guardQ_true, guardQ_false, boolQ_true, boolQ_false, argsA, pvs, putS, cellsOf, scals, scal, seqQ_normal, seqQ_ret, seqQ_exit, blkQ_normal, blkQ_ret, blkQ_exit, look_if, blkAt_if, if_true, if_false, Nat.reduceEqDiff, Nat.reduceAdd, true_implies, reduceCtorEq, false_implies, and_true, true_and, List.nil_append, List.cons_append, Bool.and_self, Nat.zero_add, Nat.add_zero, fieldA, nonNil, cellsAt, loadV_one, loadV_pvs, loadV_cons, mkAgg, allPV, List.drop_zero, List.drop_succ_cons, List.take_succ_cons, List.take_zero, List.length_cons, List.length_nil, Nat.beq_eq, storeB, patchL, beq_self_eq_true, ge_iff_le, gt_iff_lt, Int.reduceNeg, Int.reduceLE, Int.reduceLT, Int.reduceEq, extractV, List.getElem?_cons_zero, List.getElem?_cons_succ, mkAgg, Nat.add_eq_left, Nat.left_eq_add, Nat.one_ne_zero, ble_dec, beq_dec, decide_eq_true_eq, Nat.reduceLeDiff, Nat.le_refl, fillA, pureVs, pureV, beq_int, bne_int, Int.natCast_inj, eq_self, eqV, eqB, decide_true, decide_false, List.length_map, Int.toNat_natCast, List.getElem?_map, Option.map_some, Option.map_none, Int.natCast_nonneg, Option.some.injEq, lenV, binV, intBin, intV, idxA, ne_eq, not_true_eq_false, not_false_eq_true, List.drop, List.take, RetP, retP, resV, resOne, snapV, snapVs, snapR, ownSz, pickV, cond_true, cond_false, bTT, bTF, bFT, bFF, Bool.not_true, Bool.not_false, WpD_cons, WpD_nil, opD, evD_some, guardD_true, guardD_false, podC, wantC, n0, n1, hst, hn, b0, h2, h5, hget, this]
        · by_cases hn : p.node = 0
          · have := stop (by simp [metB, e2, hst, hn])
            simp only [Wp_seq, Wp_ops, Wp_cond, Wp_skip, Wp_ret, Wp_exit, Wp_block, WpO_cons, WpO_nil, opQ, evOp, evO, evOs, evQ_some, guardV, guardQ_true, guardQ_false, boolQ_true, boolQ_false, argsA, pvs, putS, cellsOf, scals, scal, seqQ_normal, seqQ_ret, seqQ_exit, blkQ_normal, blkQ_ret, blkQ_exit, look_if, blkAt_if, if_true, if_false, Nat.reduceEqDiff, Nat.reduceAdd, true_implies, reduceCtorEq, false_implies, and_true, true_and, List.nil_append, List.cons_append, Bool.and_self, Nat.zero_add, Nat.add_zero, fieldA, nonNil, cellsAt, loadV_one, loadV_pvs, loadV_cons, mkAgg, allPV, List.drop_zero, List.drop_succ_cons, List.take_succ_cons, List.take_zero, List.length_cons, List.length_nil, Nat.beq_eq, storeB, patchL, beq_self_eq_true, ge_iff_le, gt_iff_lt, Int.reduceNeg, Int.reduceLE, Int.reduceLT, Int.reduceEq, extractV, List.getElem?_cons_zero, List.getElem?_cons_succ, mkAgg, Nat.add_eq_left, Nat.left_eq_add, Nat.one_ne_zero, ble_dec, beq_dec, decide_eq_true_eq, Nat.reduceLeDiff, Nat.le_refl, fillA, pureVs, pureV, beq_int, bne_int, Int.natCast_inj, eq_self, eqV, eqB, decide_true, decide_false, List.length_map, Int.toNat_natCast, List.getElem?_map, Option.map_some, Option.map_none, Int.natCast_nonneg, Option.some.injEq, lenV, binV, intBin, intV, idxA, ne_eq, not_true_eq_false, not_false_eq_true, List.drop, List.take, RetP, retP, resV, resOne, snapV, snapVs, snapR, ownSz, pickV, cond_true, cond_false, bTT, bTF, bFT, bFF, Bool.not_true, Bool.not_false, WpD_cons, WpD_nil, opD, evD_some, guardD_true, guardD_false, podC, wantC, n0, n1, hst, hn, b0, h2, h5, hget, this]
          · by_cases hr : p.req = w.req
            · simp only [Wp_seq, Wp_ops, Wp_cond, Wp_skip, Wp_ret, Wp_exit, Wp_block, WpO_cons, WpO_nil, opQ, evOp, evO, evOs, evQ_some, guardV, guardQ_true, guardQ_false, boolQ_true, boolQ_false, argsA, pvs, putS, cellsOf, scals, scal, seqQ_normal, seqQ_ret, seqQ_exit, blkQ_normal, blkQ_ret, blkQ_exit, look_if, blkAt_if, if_true, if_false, Nat.reduceEqDiff, Nat.reduceAdd, true_implies, reduceCtorEq, false_implies, and_true, true_and, List.nil_append, List.cons_append, Bool.and_self, Nat.zero_add, Nat.add_zero, fieldA, nonNil, cellsAt, loadV_one, loadV_pvs, loadV_cons, mkAgg, allPV, List.drop_zero, List.drop_succ_cons, List.take_succ_cons, List.take_zero, List.length_cons, List.length_nil, Nat.beq_eq, storeB, patchL, beq_self_eq_true, ge_iff_le, gt_iff_lt, Int.reduceNeg, Int.reduceLE, Int.reduceLT, Int.reduceEq, extractV, List.getElem?_cons_zero, List.getElem?_cons_succ, mkAgg, Nat.add_eq_left, Nat.left_eq_add, Nat.one_ne_zero, ble_dec, beq_dec, decide_eq_true_eq, Nat.reduceLeDiff, Nat.le_refl, fillA, pureVs, pureV, beq_int, bne_int, Int.natCast_inj, eq_self, eqV, eqB, decide_true, decide_false, List.length_map, Int.toNat_natCast, List.getElem?_map, Option.map_some, Option.map_none, Int.natCast_nonneg, Option.some.injEq, lenV, binV, intBin, intV, idxA, ne_eq, not_true_eq_false, not_false_eq_true, List.drop, List.take, RetP, retP, resV, resOne, snapV, snapVs, snapR, ownSz, pickV, cond_true, cond_false, bTT, bTF, bFT, bFF, Bool.not_true, Bool.not_false, WpD_cons, WpD_nil, opD, evD_some, guardD_true, guardD_false, podC, wantC, n0, n1, hst, hn, eqVec, hr, b0, h2, h5, hget, hw]
              refine next (by simp [metB, e2, hst, hn, hr]) _ _ _ (by omega) ?_ ?_ ?_ ?_ ?_
              all_goals simp only [look_if, blkAt_if, Nat.reduceEqDiff, if_true, if_false, n0, n1]
            · have := stop (by simp [metB, e2, hst, hn, hr])
              simp only [Wp_seq, Wp_ops, Wp_cond, Wp_skip, Wp_ret, Wp_exit, Wp_block, WpO_cons, WpO_nil, opQ, evOp, evO, evOs, evQ_some, guardV, guardQ_true, guardQ_false, boolQ_true, boolQ_false, argsA, pvs, putS, cellsOf, scals, scal, seqQ_normal, seqQ_ret, seqQ_exit, blkQ_normal, blkQ_ret, blkQ_exit, look_if, blkAt_if, if_true, if_false, Nat.reduceEqDiff, Nat.reduceAdd, true_implies, reduceCtorEq, false_implies, and_true, true_and, List.nil_append, List.cons_append, Bool.and_self, Nat.zero_add, Nat.add_zero, fieldA, nonNil, cellsAt, loadV_one, loadV_pvs, loadV_cons, mkAgg, allPV, List.drop_zero, List.drop_succ_cons, List.take_succ_cons, List.take_zero, List.length_cons, List.length_nil, Nat.beq_eq, storeB, patchL, beq_self_eq_true, ge_iff_le, gt_iff_lt, Int.reduceNeg, Int.reduceLE, Int.reduceLT, Int.reduceEq, extractV, List.getElem?_cons_zero, List.getElem?_cons_succ, mkAgg, Nat.add_eq_left, Nat.left_eq_add, Nat.one_ne_zero, ble_dec, beq_dec, decide_eq_true_eq, Nat.reduceLeDiff, Nat.le_refl, fillA, pureVs, pureV, beq_int, bne_int, Int.natCast_inj, eq_self, eqV, eqB, decide_true, decide_false, List.length_map, Int.toNat_natCast, List.getElem?_map, Option.map_some, Option.map_none, Int.natCast_nonneg, Option.some.injEq, lenV, binV, intBin, intV, idxA, ne_eq, not_true_eq_false, not_false_eq_true, List.drop, List.take, RetP, retP, resV, resOne, snapV, snapVs, snapR, ownSz, pickV, cond_true, cond_false, bTT, bTF, bFT, bFF, Bool.not_true, Bool.not_false, WpD_cons, WpD_nil, opD, evD_some, guardD_true, guardD_false, podC, wantC, n0, n1, hst, hn, eqVec, hr, b0, h2, h5, hget, this]
  simp only [f165, Wp_seq, Wp_ops, Wp_cond, Wp_skip, Wp_ret, Wp_exit, Wp_block, WpO_cons, WpO_nil, opQ, evOp, evO, evOs, evQ_some, guardV, guardQ_true, guardQ_false, boolQ_true, boolQ_false, argsA, pvs, putS, cellsOf, scals, scal, seqQ_normal, seqQ_ret, seqQ_exit, blkQ_normal, blkQ_ret, blkQ_exit, look_if, blkAt_if, if_true, if_false, Nat.reduceEqDiff, Nat.reduceAdd, true_implies, reduceCtorEq, false_implies, and_true, true_and, List.nil_append, List.cons_append, Bool.and_self, Nat.zero_add, Nat.add_zero, fieldA, nonNil, cellsAt, loadV_one, loadV_pvs, loadV_cons, mkAgg, allPV, List.drop_zero, List.drop_succ_cons, List.take_succ_cons, List.take_zero, List.length_cons, List.length_nil, Nat.beq_eq, storeB, patchL, beq_self_eq_true, ge_iff_le, gt_iff_lt, Int.reduceNeg, Int.reduceLE, Int.reduceLT, Int.reduceEq, extractV, List.getElem?_cons_zero, List.getElem?_cons_succ, mkAgg, Nat.add_eq_left, Nat.left_eq_add, Nat.one_ne_zero, ble_dec, beq_dec, decide_eq_true_eq, Nat.reduceLeDiff, Nat.le_refl, fillA, pureVs, pureV, beq_int, bne_int, Int.natCast_inj, eq_self, eqV, eqB, decide_true, decide_false, List.length_map, Int.toNat_natCast, List.getElem?_map, Option.map_some, Option.map_none, Int.natCast_nonneg, Option.some.injEq, lenV, binV, intBin, intV, idxA, ne_eq, not_true_eq_false, not_false_eq_true, List.drop, List.take, RetP, retP, resV, resOne, snapV, snapVs, snapR, ownSz, pickV, cond_true, cond_false, bTT, bTF, bFT, bFF, Bool.not_true, Bool.not_false, WpD_cons, WpD_nil, opD, evD_some, guardD_true, guardD_false, specP, stateP]
  exact loop x.wants 0 rfl (Nat.zero_le _) _ _ 2 (Nat.le_refl _) rfl rfl rfl rfl rfl
end
end Go.Proofs.Ythkkelmafjobgaa.Ab
/- What a reading of a law's arguments tells: they are pure values of their types' shapes. -/
set_option linter.unusedVariables false
set_option linter.unusedSimpArgs false
namespace Go.Proofs.Ythkkelmafjobgaa.Ab
open Go

/-- A cell's shape. -/
inductive Sh where
  | bo
  | nu (k : IntKind)
  | st
  | sl (es : List Sh)

/-- No slice in it. -/
def Sh.flat : Sh → Bool
  | .sl _ => false
  | _ => true

section
variable (P : Program)
def shFs (rec : TypeId → Option (List Sh)) : Nat → List Field → Option (List Sh)
  | _, [] => some []
  | off, f :: r => match rec f.type with
    | some s => if f.offset = off ∧ s.length = P.cellsOf f.type then match shFs rec (off + s.length) r with
        | some ss => some (s ++ ss)
        | none => none
      else none
    | none => none
def shRep (s : List Sh) : Nat → List Sh
  | 0 => []
  | n + 1 => s ++ shRep s n
/-- The shapes of a type's cells. -/
def shOf : Nat → TypeId → Option (List Sh)
  | 0, _ => none
  | n + 1, t => match P.underlying t with
    | some .bool => some [.bo]
    | some (.int k) => some [.nu k]
    | some .string => some [.st]
    | some (.slice e) => match shOf n e with
      | some es => if es.all Sh.flat = true ∧ es.length = P.cellsOf e ∧ 0 < es.length then some [.sl es] else none
      | none => none
    | some (.struct fs) => match shFs P (shOf n) 0 fs.toList with
      | some ss => if ss.length = P.cellsOf t then some ss else none
      | none => none
    | some (.array m e) => match shOf n e with
      | some es => if es.length = P.cellsOf e ∧ m * P.cellsOf e = P.cellsOf t then some (shRep es m) else none
      | none => none
    | _ => none
end

mutual
/-- A value of this shape. -/
def Fits : Sh → PV → Prop
  | .bo, p => ∃ x, p = .bool x
  | .nu k, p => ∃ n, p = .int k n ∧ (Lit.int k n).wf = true
  | .st, p => ∃ x, p = .str x ∧ x.size ≤ maxLen
  | .sl es, p => ∃ l : List (List PV), p = .slice l ∧ ∀ e ∈ l, FitsL es e
def FitsL : List Sh → List PV → Prop
  | [], ps => ps = []
  | s :: r, ps => ∃ p q, ps = p :: q ∧ Fits s p ∧ FitsL r q
end

theorem FitsL_append : ∀ {a b : List Sh} {p q : List PV}, FitsL a p → FitsL b q → FitsL (a ++ b) (p ++ q)
  | [], b, p, q, h1, h2 => by simp only [FitsL] at h1; subst h1; exact h2
  | s :: r, b, p, q, h1, h2 => by
    simp only [FitsL] at h1
    obtain ⟨x, y, rfl, h3, h4⟩ := h1
    simp only [List.cons_append, FitsL]
    exact ⟨x, y ++ q, rfl, h3, FitsL_append h4 h2⟩
theorem FitsL_length : ∀ {a : List Sh} {p : List PV}, FitsL a p → p.length = a.length
  | [], p, h => by simp only [FitsL] at h; subst h; rfl
  | s :: r, p, h => by
    simp only [FitsL] at h
    obtain ⟨x, y, rfl, h3, h4⟩ := h
    simp [FitsL_length h4]

theorem VPs_append {E : Env} {w : World} {ok : Nat → Prop} : ∀ {a b : List PV} {u v : List Value}, VPs E w ok a u → VPs E w ok b v → VPs E w ok (a ++ b) (u ++ v)
  | [], b, u, v, h1, h2 => by simp only [VPs] at h1; subst h1; exact h2
  | p :: r, b, u, v, h1, h2 => by
    simp only [VPs] at h1
    obtain ⟨x, y, rfl, h3, h4⟩ := h1
    simp only [List.cons_append, VPs]
    exact ⟨x, y ++ v, rfl, h3, VPs_append h4 h2⟩

section
variable {E : Env} {P : Program} {w : World} {H : Type} {enc : TypeId × Value → H} {base : Nat} {spare : Nat → Bool} {held : Bool}

/-- What an opening tells of a type's cells. -/
def Opens (E : Env) (w : World) (shs : List Sh) (cs : List Value) : Prop :=
  ∃ ps, FitsL shs ps ∧ VPs E w (fun b => b < w.heap.size) ps cs ∧ (∀ v ∈ cs, Scalar v) ∧ (shs.all Sh.flat = true → ∀ v ∈ cs, ∀ a l c, v ≠ .slice a l c)

theorem Opens.nil : Opens E w [] [] := ⟨[], rfl, by simp [VPs], by simp, by simp⟩
theorem Opens.append {a b : List Sh} {u v : List Value} (h1 : Opens E w a u) (h2 : Opens E w b v) : Opens E w (a ++ b) (u ++ v) := by
  obtain ⟨p, f1, v1, s1, l1⟩ := h1
  obtain ⟨q, f2, v2, s2, l2⟩ := h2
  refine ⟨p ++ q, FitsL_append f1 f2, VPs_append v1 v2, fun x hx => ?_, fun hf x hx => ?_⟩
  · rcases List.mem_append.1 hx with h | h
    · exact s1 x h
    · exact s2 x h
  · simp only [List.all_append, Bool.and_eq_true] at hf
    rcases List.mem_append.1 hx with h | h
    · exact l1 hf.1 x h
    · exact l2 hf.2 x h

theorem Opens.length {a : List Sh} {u : List Value} (h : Opens E w a u) : u.length = a.length := by
  obtain ⟨p, f1, v1, _⟩ := h
  rw [← FitsL_length f1]
  clear f1
  rename_i hh
  clear hh
  induction p generalizing u with
  | nil => simp only [VPs] at v1; subst v1; rfl
  | cons x r ih =>
    simp only [VPs] at v1
    obtain ⟨y, z, rfl, _, h⟩ := v1
    simp [ih h]

/-- No slice begins within a cell. -/
def Spots (ss : List Sh) (cs : List Value) : Prop := ss.all Sh.flat = true ∨ ∀ v ∈ cs, ∀ a l c, v = .slice (some a) l c → a.spot = none

theorem open_fs {rec : TypeId → Option (List Sh)} {n : Nat} {cs : List Value}
    (hrec : ∀ t ss cs' x, rec t = some ss → DataW.trod enc P w base spare held n t cs' = some x → Spots ss cs' → Opens E w ss cs') :
    ∀ (fs : List Field) (off : Nat) (ss : List Sh), Spots ss cs → shFs P rec off fs = some ss → (∀ f ∈ fs, ∃ x, DataW.trod enc P w base spare held n f.type ((cs.drop f.offset).take (P.cellsOf f.type)) = some x) → Opens E w ss ((cs.drop off).take ss.length)
  | [], off, ss, _, h, _ => by
    simp only [shFs, Option.some.injEq] at h
    subst h
    simpa using Opens.nil
  | f :: r, off, ss, hsp, h, hall => by
    simp only [shFs] at h
    split at h
    · rename_i s hs
      split at h
      · rename_i hc
        split at h
        · rename_i ss' hss
          simp only [Option.some.injEq] at h
          subst h
          obtain ⟨x, hx⟩ := hall f (by simp)
          have hf : (s ++ ss').all Sh.flat = true → s.all Sh.flat = true ∧ ss'.all Sh.flat = true := by
            intro h; rw [List.all_append, Bool.and_eq_true] at h; exact h
          have h1 := hrec _ _ _ _ hs hx (hsp.elim (fun h => .inl (hf h).1) fun h => .inr fun v hv => h v (List.mem_of_mem_drop (List.mem_of_mem_take hv)))
          have h2 := open_fs hrec r (off + s.length) ss' (hsp.elim (fun h => .inl (hf h).2) .inr) hss (fun g hg => hall g (by simp [hg]))
          rw [hc.1, ← hc.2] at h1
          have : (cs.drop off).take (s ++ ss').length = (cs.drop off).take s.length ++ (cs.drop (off + s.length)).take ss'.length := by
            rw [List.length_append, List.take_add, List.drop_drop]
          rw [this]
          exact h1.append h2
        · simp at h
      · simp at h
    · simp at h

theorem open_rep {es : List Sh} {n : Nat} {e : TypeId} {cs : List Value}
    (hrec : ∀ cs' x, DataW.trod enc P w base spare held n e cs' = some x → Spots es cs' → Opens E w es cs') (hl : es.length = P.cellsOf e) :
    ∀ (m k : Nat), Spots (shRep es m) cs → (∀ i, i < m → ∃ x, DataW.trod enc P w base spare held n e ((cs.drop ((k + i) * P.cellsOf e)).take (P.cellsOf e)) = some x) → Opens E w (shRep es m) ((cs.drop (k * P.cellsOf e)).take (m * P.cellsOf e))
  | 0, k, _, _ => by simpa [shRep] using Opens.nil
  | m + 1, k, hsp, hall => by
    have hf : (es ++ shRep es m).all Sh.flat = true → es.all Sh.flat = true ∧ (shRep es m).all Sh.flat = true := by
      intro h; rw [List.all_append, Bool.and_eq_true] at h; exact h
    obtain ⟨x, hx⟩ := hall 0 (by omega)
    have h1 := hrec _ _ hx (hsp.elim (fun h => .inl (hf h).1) fun h => .inr fun v hv => h v (List.mem_of_mem_drop (List.mem_of_mem_take hv)))
    have h2 := open_rep hrec hl m (k + 1) (hsp.elim (fun h => .inl (hf h).2) .inr) (fun i hi => by
      have := hall (i + 1) (by omega)
      rwa [show k + (i + 1) = k + 1 + i by omega] at this)
    have : (cs.drop (k * P.cellsOf e)).take ((m + 1) * P.cellsOf e) = (cs.drop (k * P.cellsOf e)).take (P.cellsOf e) ++ (cs.drop ((k + 1) * P.cellsOf e)).take (m * P.cellsOf e) := by
      rw [Nat.succ_mul, Nat.add_comm (m * P.cellsOf e), List.take_add, List.drop_drop, Nat.succ_mul]
    rw [this]
    exact h1.append h2

theorem add_at (b o n : Nat) : (⟨b, o, none⟩ : Addr).add n = ⟨b, o + n, none⟩ := by
  unfold Addr.add
  split
  · rename_i h; subst h; rfl
  · rfl
theorem open_elems {P : Program} {es : List Sh} {e : TypeId} {ab : Nat} (hlen : es.length = P.cellsOf e) :
    ∀ (len ao : Nat), (∀ i, i < len → ∃ cs', w.cells? base ((⟨ab, ao, none⟩ : Addr).add (i * P.cellsOf e)) (P.cellsOf e) = some cs' ∧ Opens E w es cs') →
      ∃ rows : List (List PV), rows.length = len ∧ (∀ r ∈ rows, FitsL es r) ∧ VElems E w (fun b => b < w.heap.size) rows ab ao (P.cellsOf e)
  | 0, ao, _ => ⟨[], rfl, by simp, by simp [VElems]⟩
  | len + 1, ao, h => by
    obtain ⟨cs', h1, ps, f1, v1, s1, _⟩ := h 0 (by omega)
    obtain ⟨rows, g1, g2, g3⟩ := open_elems hlen len (ao + P.cellsOf e) (fun i hi => by
      have := h (i + 1) (by omega)
      rw [add_at] at this ⊢
      rwa [Nat.succ_mul, Nat.add_comm (i * P.cellsOf e), ← Nat.add_assoc] at this)
    obtain ⟨_, c1, c2⟩ := World.cells?_some h1
    refine ⟨ps :: rows, by simp [g1], fun r hr => ?_, ?_⟩
    · rcases List.mem_cons.1 hr with rfl | hr
      · exact f1
      · exact g2 r hr
    · simp only [VElems]
      refine ⟨by rw [FitsL_length f1, hlen], ?_, g3⟩
      have hcell : ∀ i, i < P.cellsOf e → w.cell? ⟨ab, ao + i, none⟩ = cs'[i]? := fun i hi => by
        have := c2 i hi
        rwa [Nat.zero_mul, add_at, add_at, Nat.add_zero] at this
      clear f1 h1 c2 g3
      rw [← c1] at hcell
      have key : ∀ (ps : List PV) (cs' : List Value) (o : Nat), VPs E w (fun b => b < w.heap.size) ps cs' → (∀ v ∈ cs', Scalar v) → (∀ i, i < cs'.length → w.cell? ⟨ab, o + i, none⟩ = cs'[i]?) → VRun E w (fun b => b < w.heap.size) ps ab o := by
        intro ps
        induction ps with
        | nil => intro cs' o _ _ _; simp [VRun]
        | cons p r ih =>
          intro cs' o hv hs hc
          simp only [VPs] at hv
          obtain ⟨u, us, rfl, k1, k2⟩ := hv
          simp only [VRun]
          refine ⟨⟨u, ?_, hs u (by simp), k1⟩, ih us (o + 1) k2 (fun v hv => hs v (by simp [hv])) fun i hi => ?_⟩
          · have := hc 0 (by simp)
            simpa using this
          · have := hc (i + 1) (by simpa using hi)
            rw [show o + (i + 1) = o + 1 + i by omega] at this
            simpa using this
      exact key ps cs' ao v1 s1 hcell

theorem open_sh {P : Program} : ∀ (d : Nat) (t : TypeId) (ss : List Sh), shOf P d t = some ss → ∀ (n : Nat) (cs : List Value) (x : DataW H × List MemPlace), DataW.trod enc P w base spare held n t cs = some x → Spots ss cs → Opens E w ss cs
  | 0, t, ss, hs, _, _, _, _, _ => by simp [shOf] at hs
  | d + 1, t, ss, hs, n, cs, x, h, hsp => by
    simp only [shOf] at hs
    split at hs
    · rename_i ht
      simp at hs; subst hs
      obtain ⟨b, rfl, _⟩ := DataW.trod_bool ht h
      exact ⟨[.bool b], ⟨_, _, rfl, ⟨b, rfl⟩, rfl⟩, by simp [VPs, VP], by simp [Scalar], by simp⟩
    · rename_i k ht
      simp at hs; subst hs
      obtain ⟨m, rfl, _, hw⟩ := DataW.trod_int ht h
      exact ⟨[.int k m], ⟨_, _, rfl, ⟨m, rfl, hw⟩, rfl⟩, by simp [VPs, VP], by simp [Scalar], by simp⟩
    · rename_i ht
      simp at hs; subst hs
      obtain ⟨s, rfl, _, hw⟩ := DataW.trod_string ht h
      exact ⟨[.str s], ⟨_, _, rfl, ⟨s, rfl, hw⟩, rfl⟩, by simp [VPs, VP], by simp [Scalar], by simp⟩
    · rename_i e ht
      split at hs
      · rename_i es he
        split at hs
        · rename_i hc
          simp at hs; subst hs
          obtain ⟨hflat, hlen, hpos⟩ := hc
          rcases DataW.trod_slice ht h with ⟨rfl, _⟩ | ⟨a, len, cap, elems, rest, m, _, rfl, _, hb, hl, hm, hel, hcs, _⟩
          · exact ⟨[.slice []], ⟨_, _, rfl, ⟨[], rfl, by simp⟩, rfl⟩, ⟨_, _, rfl, ⟨none, 0, 0, rfl, rfl, Nat.le_refl _, fun h => by simp at h⟩, rfl⟩, by simp [Scalar], by simp [Sh.flat]⟩
          · have hspot : a.spot = none := by
              rcases hsp with h | h
              · simp [Sh.flat] at h
              · exact h _ (List.mem_singleton.2 rfl) a len cap rfl
            obtain ⟨ab, ao, asp⟩ := a
            simp only at hspot
            subst hspot
            have each : ∀ i, i < len → ∃ cs', w.cells? base ((⟨ab, ao, none⟩ : Addr).add (i * P.cellsOf e)) (P.cellsOf e) = some cs' ∧ Opens E w es cs' := by
              intro i hi
              have h1 := hcs i hi
              have : ∃ y, elems[i]? = some y := ⟨elems[i]'(by omega), by simp [hel, hi]⟩
              obtain ⟨y, hy⟩ := this
              rw [hy, Option.bind_eq_some_iff] at h1
              obtain ⟨cs', hc1, hc2⟩ := h1
              exact ⟨cs', hc1, open_sh d e es he _ _ _ hc2 (.inl hflat)⟩
            obtain ⟨rows, r1, r2, r3⟩ := open_elems hlen len ao each
            refine ⟨[.slice rows], ⟨_, _, rfl, ⟨rows, rfl, r2⟩, rfl⟩, ?_, by simp [Scalar], by simp [Sh.flat]⟩
            simp only [VPs, VP]
            refine ⟨_, _, rfl, ⟨some ⟨ab, ao, none⟩, len, cap, rfl, r1.symm, hl, fun hp => ⟨ab, ao, P.cellsOf e, rfl, ?_, r3⟩⟩, rfl⟩
            obtain ⟨cs', c1, _⟩ := each 0 (by omega)
            have := World.cells?_block c1 (by omega)
            rwa [add_at] at this
        · simp at hs
      · simp at hs
    · rename_i fs ht
      split at hs
      · rename_i ss' hss
        split at hs
        · rename_i hc
          simp at hs; subst hs
          obtain ⟨xs, m, rfl, _, hlen, hxl, hall⟩ := DataW.trod_struct ht h
          have h1 := open_fs (E := E) (cs := cs) (rec := shOf P d) (n := m) (enc := enc) (base := base) (spare := spare) (held := held) (fun t ss cs' x hr hx hsp' => open_sh d t ss hr m cs' x hx hsp') fs.toList 0 ss' hsp hss (fun f hf => by
            obtain ⟨i, hi, rfl⟩ := List.getElem_of_mem hf
            have hi' : i < fs.size := by simpa using hi
            have := hall i fs[i] (by simp [hi'])
            refine ⟨xs[i]'(by omega), ?_⟩
            rw [Array.getElem_toList, this]
            simp [hxl, hi'])
          rwa [hc, ← hlen, List.drop_zero, List.take_length] at h1
        · simp at hs
      · simp at hs
    · rename_i m e ht
      split at hs
      · rename_i es he
        split at hs
        · rename_i hc
          simp at hs; subst hs
          obtain ⟨xs, k, rfl, _, hlen, hxl, hall⟩ := DataW.trod_array ht h
          have h1 := open_rep (E := E) (cs := cs) (es := es) (e := e) (n := k) (enc := enc) (base := base) (spare := spare) (held := held) (fun cs' x hx hsp' => open_sh d e es he k cs' x hx hsp') hc.1 m 0 hsp (fun i hi => by
            have := hall i hi
            rw [Nat.zero_add]
            exact ⟨xs[i]'(by omega), by rw [this]; simp [hxl, hi]⟩)
          rwa [hc.2, ← hlen, Nat.zero_mul, List.drop_zero, List.take_length] at h1
        · simp at hs
      · simp at hs
    · simp at hs

theorem spot_of_cell {r : Reach} {base : Nat} {u : TypeId} {a : Addr} {l c : Nat} (h : Cell.okWide P w r base u (.slice (some a) l c)) : a.spot = none := by
  unfold Cell.okWide at h
  split at h <;> rename_i h2 <;> first | (simp at h2; done) | skip
  unfold Cell.ok at h
  split at h <;> rename_i h3 h4 <;> first | (simp at h4; done) | skip
  all_goals first | exact h.elim | (simp at h4; obtain ⟨rfl, rfl, rfl⟩ := h4; exact h.2.2.2.1)

/-- An argument that is a struct or an array. -/
theorem open_agg {r : Reach} {d : Nat} {t : TypeId} {v : Value} {ss : List Sh} {x : DataW H} {ps : List MemPlace} (hagg : (match P.underlying t with | some (.struct _) => true | some (.array _ _) => true | _ => false) = true)
    (hs : shOf P d t = some ss) (hval : Value.okWide P w r base t v) (h : DataW.Trod enc P w 0 (fun _ => true) true t v x ps) : ∃ l, FitsL ss l ∧ VP E w (fun b => b < w.heap.size) (.agg l) v := by
  obtain ⟨n, h⟩ := h
  have : ∃ cs, v = .agg cs ∧ Row.okWide P w r base t cs := by
    unfold Value.okWide at hval
    split at hagg
    · rename_i hu; rw [hu] at hval; obtain ⟨cs, h1, _, h2⟩ := hval; exact ⟨cs, h1, h2⟩
    · rename_i hu; rw [hu] at hval; obtain ⟨cs, h1, _, h2⟩ := hval; exact ⟨cs, h1, h2⟩
    · simp at hagg
  obtain ⟨cs, rfl, ts, _, _, hcell⟩ := this
  obtain ⟨l, h1, h2, _, _⟩ := open_sh (E := E) d t ss hs n _ _ h (.inr fun v hv a l c hvv => by
    obtain ⟨i, hi, hiv⟩ := List.getElem_of_mem (show v ∈ cs.toList from hv)
    obtain ⟨u, _, h5⟩ := hcell i v (by rw [← Array.getElem?_toList, List.getElem?_eq_getElem hi, hiv])
    rw [hvv] at h5
    exact spot_of_cell h5)
  refine ⟨l, h1, ?_⟩
  simp only [VP]
  exact ⟨cs.toList, by simp, h2⟩

/-- An argument of one cell. -/
theorem open_one {r : Reach} {d : Nat} {t : TypeId} {v : Value} {s : Sh} {x : DataW H} {ps : List MemPlace} (hagg : (match P.underlying t with | some (.struct _) => true | some (.array _ _) => true | _ => false) = false)
    (hs : shOf P d t = some [s]) (hval : Value.okWide P w r base t v) (h : DataW.Trod enc P w 0 (fun _ => true) true t v x ps) : ∃ p, Fits s p ∧ VP E w (fun b => b < w.heap.size) p v := by
  obtain ⟨n, h⟩ := h
  have hc : Cell.okWide P w r base t v := by
    unfold Value.okWide at hval
    split at hval
    · rename_i hu; simp [hu] at hagg
    · rename_i hu; simp [hu] at hagg
    · exact hval
  have hv : v.cells.toList = [v] := by
    cases v <;> first | rfl | skip
    unfold Cell.okWide at hc
    split at hc <;> rename_i h2 <;> first | (simp at h2; done) | skip
    unfold Cell.ok at hc
    split at hc <;> rename_i h3 h4 <;> first | (simp at h4; done) | exact hc.elim
  rw [hv] at h
  obtain ⟨l, h1, h2, _, _⟩ := open_sh (E := E) d t [s] hs n _ _ h (.inr fun u hu a l c hvv => by
    simp only [List.mem_singleton] at hu
    subst hu
    rw [hvv] at hc
    exact spot_of_cell hc)
  simp only [FitsL] at h1
  obtain ⟨p, q, rfl, h3, rfl⟩ := h1
  simp only [VPs] at h2
  obtain ⟨u, us, h4, h5, rfl⟩ := h2
  simp only [List.cons.injEq] at h4
  exact ⟨p, h3, h4.1 ▸ h5⟩
end
end Go.Proofs.Ythkkelmafjobgaa.Ab
/- Environments and tables out of lists; from a law of the layer to the program's calls. -/
set_option linter.unusedVariables false
set_option linter.unusedSimpArgs false
namespace Go.Proofs.Ythkkelmafjobgaa.Ab
open Go

def lkN : List (Nat × Nat) → Nat → Option Nat
  | [], _ => none
  | (a, b) :: r, n => cond (Nat.beq a n) (some b) (lkN r n)
def lkR : List (Nat × Nat) → Nat → Option Nat
  | [], _ => none
  | (a, b) :: r, n => cond (Nat.beq b n) (some a) (lkR r n)

/-- An environment: our numbers, the program's. -/
def envOf (P : Program) (fs ts : List (Nat × Nat)) (nt : Nat) : Env :=
  ⟨P, fun n => (lkN fs n).getD 1000000, fun n => (lkN ts n).getD (1000000 + n), lkR fs, lkR ts, nt⟩

def okN (fs : List (Nat × Nat)) : Bool := fs.all fun p => Nat.beq ((lkN fs p.1).getD 1000000) p.2
def okT (ts : List (Nat × Nat)) (nt : Nat) : Bool := ts.all (fun p => Nat.beq ((lkN ts p.1).getD (1000000 + p.1)) p.2 && Nat.blt p.1 nt) &&
  (List.range nt).all fun n => (List.range nt).all fun m => Nat.beq n m || !(Nat.beq ((lkN ts n).getD (1000000 + n)) ((lkN ts m).getD (1000000 + m)))

theorem lkR_mem : ∀ {l : List (Nat × Nat)} {f n : Nat}, lkR l f = some n → (n, f) ∈ l
  | [], f, n, h => by simp [lkR] at h
  | (a, b) :: r, f, n, h => by
    simp only [lkR] at h
    by_cases hb : b = f
    · subst hb; rw [beq_self] at h; simp at h; subst h; simp
    · rw [beq_ne hb] at h; exact List.mem_cons_of_mem _ (lkR_mem h)

theorem envOf_ok {P : Program} {fs ts : List (Nat × Nat)} {nt : Nat} (h1 : okN fs = true) (h2 : okT ts nt = true) (h3 : P.follows .mixedOrders = true) : (envOf P fs ts nt).OK where
  rho := fun f n h => by
    have := List.all_eq_true.1 h1 _ (lkR_mem h)
    exact Nat.eq_of_beq_eq_true this
  tau := fun t n h => by
    unfold okT at h2
    rw [Bool.and_eq_true] at h2
    have := List.all_eq_true.1 h2.1 _ (lkR_mem h)
    rw [Bool.and_eq_true] at this
    exact ⟨Nat.eq_of_beq_eq_true this.1, Nat.le_of_ble_eq_true this.2⟩
  inj := fun n m hn hm h => by
    unfold okT at h2
    rw [Bool.and_eq_true] at h2
    have := List.all_eq_true.1 (List.all_eq_true.1 h2.2 n (List.mem_range.2 hn)) m (List.mem_range.2 hm)
    rw [Bool.or_eq_true] at this
    rcases this with h' | h'
    · exact Nat.eq_of_beq_eq_true h'
    · have h : (lkN ts n).getD (1000000 + n) = (lkN ts m).getD (1000000 + m) := h
      rw [h, beq_self] at h'
      simp at h'
  mixed := h3

abbrev Prm := List AV → Hl → Nat → Option (AV × Hl × Nat)
def lkF : List (Nat × AFunc) → Nat → Option AFunc
  | [], _ => none
  | (a, f) :: r, n => cond (Nat.beq a n) (some f) (lkF r n)
def lkP : List (Nat × Prm) → Nat → Option Prm
  | [], _ => none
  | (a, f) :: r, n => cond (Nat.beq a n) (some f) (lkP r n)
def inL (l : List Nat) (n : Nat) : Bool := l.any fun a => Nat.beq a n
/-- A table out of lists. -/
def tabOf (l : List (Nat × AFunc)) (raw flat own still : List Nat) (ps : List (Nat × Prm)) : Tab := ⟨lkF l, inL raw, inL flat, inL own, inL still, lkP ps⟩

theorem lkF_mem : ∀ {l : List (Nat × AFunc)} {n : Nat} {f : AFunc}, lkF l n = some f → (n, f) ∈ l
  | [], n, f, h => by simp [lkF] at h
  | (a, b) :: r, n, f, h => by
    simp only [lkF] at h
    by_cases hb : a = n
    · subst hb; rw [beq_self] at h; simp at h; subst h; simp
    · rw [beq_ne hb] at h; exact List.mem_cons_of_mem _ (lkF_mem h)
theorem lkP_mem : ∀ {l : List (Nat × Prm)} {n : Nat} {f : Prm}, lkP l n = some f → (n, f) ∈ l
  | [], n, f, h => by simp [lkP] at h
  | (a, b) :: r, n, f, h => by
    simp only [lkP] at h
    by_cases hb : a = n
    · subst hb; rw [beq_self] at h; simp at h; subst h; simp
    · rw [beq_ne hb] at h; exact List.mem_cons_of_mem _ (lkP_mem h)

/-- All of a list's functions are the program's. -/
def TiesL (E : Env) : List (Nat × AFunc) → Prop
  | [] => True
  | (n, f) :: r => cFunc E n = some f ∧ TiesL E r
def PrimsL (E : Env) : List (Nat × Prm) → Prop
  | [] => True
  | (n, g) :: r => (∀ args hp nx v hp' nx', g args hp nx = some (v, hp', nx') → RawC E n args hp nx v hp' nx') ∧ PrimsL E r
theorem TiesL.mem {E : Env} : ∀ {l : List (Nat × AFunc)}, TiesL E l → ∀ {n : Nat} {f : AFunc}, (n, f) ∈ l → cFunc E n = some f
  | (a, b) :: r, h, n, f, hm => by
    rcases List.mem_cons.1 hm with hm | hm
    · simp only [Prod.mk.injEq] at hm
      obtain ⟨rfl, rfl⟩ := hm
      exact h.1
    · exact TiesL.mem h.2 hm
theorem PrimsL.mem {E : Env} : ∀ {l : List (Nat × Prm)}, PrimsL E l → ∀ {n : Nat} {g : Prm}, (n, g) ∈ l → ∀ args hp nx v hp' nx', g args hp nx = some (v, hp', nx') → RawC E n args hp nx v hp' nx'
  | (a, b) :: r, h, n, f, hm => by
    rcases List.mem_cons.1 hm with hm | hm
    · simp only [Prod.mk.injEq] at hm
      obtain ⟨rfl, rfl⟩ := hm
      exact h.1
    · exact PrimsL.mem h.2 hm
theorem tied_of {E : Env} {l : List (Nat × AFunc)} {raw flat own still : List Nat} {ps : List (Nat × Prm)} (h1 : TiesL E l) (h2 : PrimsL E ps) : Tied E (tabOf l raw flat own still ps) where
  fn := fun n f _ h => h1.mem (lkF_mem h)
  prim := fun n g h => h2.mem (lkP_mem h)

/-- From a law to the program's call. -/
theorem law_calls {E : Env} {T : Tab} (hE : E.OK) (hT : Tied E T) {n : Nat} {ps : List PV} (h : Gives T n ps (.bool true)) {w : World} {vs : List Value} (hv : VPs E w (fun b => b < w.heap.size) ps vs) :
    Calls E.P (E.ρ n) vs.toArray w fun e w' => e = .returned (.bool true) ∧ Go.RowKit.Below w.heap.size w w' := by
  obtain ⟨_, _, o, hc⟩ := h
  obtain ⟨v, hp, nx, h1, h2, _⟩ := callP_spec hc
  have hP := (D_sound hE hT _ _ _ _ _ _ _ h1).pure h2
  refine (hP.2 (fun _ => False) w vs (fun b hb => hb.elim) (VPs_mono ⟨fun b hb => ⟨hb, fun h => h⟩, fun _ _ => rfl⟩ _ _ hv)).mono fun e w' hh => ?_
  obtain ⟨u, rfl, h3, h4⟩ := hh
  simp only [VP] at h3
  subst h3
  exact ⟨rfl, h4.os, h4.tape, h4.output, h4.size, fun k hk => h4.block k hk (fun h => h)⟩

/-! ### What the laws are handed -/
def inI (n : Int) : Prop := -9223372036854775808 ≤ n ∧ n ≤ 9223372036854775807
def inU (n : Int) : Prop := 0 ≤ n ∧ n ≤ 18446744073709551615
theorem wf_i64 {n : Int} (h : (Lit.int .i64 n).wf = true) : inI n := by
  simp only [Lit.wf, Bool.and_eq_true, decide_eq_true_eq] at h
  exact h
theorem wf_u64 {n : Int} (h : (Lit.int .u64 n).wf = true) : inU n := by
  simp only [Lit.wf, Bool.and_eq_true, decide_eq_true_eq] at h
  exact h
theorem rows_map {α : Type} {enc : α → List PV} {W : α → Prop} : ∀ {l : List (List PV)}, (∀ e ∈ l, ∃ x, e = enc x ∧ W x) → ∃ xs : List α, l = xs.map enc ∧ ∀ x ∈ xs, W x
  | [], _ => ⟨[], rfl, by simp⟩
  | e :: r, h => by
    obtain ⟨x, rfl, hx⟩ := h e (by simp)
    obtain ⟨xs, rfl, hxs⟩ := rows_map (fun e he => h e (List.mem_cons_of_mem _ he))
    exact ⟨x :: xs, rfl, by simpa using ⟨hx, hxs⟩⟩

def Vec.wf (v : Vec) : Prop := inU v.a ∧ inU v.b ∧ inU v.c ∧ inU v.d
def Node.wf (n : Node) : Prop := inI n.id ∧ inI n.zone ∧ n.cap.wf ∧ n.held.wf
def Load.wf (l : Load) : Prop := inI l.id ∧ inI l.skew ∧ inI l.min ∧ inI l.max
def Pod.wf (p : Pod) : Prop := inI p.id ∧ inI p.load ∧ inI p.prio ∧ p.req.wf ∧ inI p.node
def Want.wf (w : Want) : Prop := inI w.pod ∧ w.req.wf
def Move.wf (m : Move) : Prop := inI m.kind ∧ inI m.pod ∧ inI m.node ∧ inI m.over
def Snap.wf (s : Snap) : Prop := (∀ n ∈ s.nodes, n.wf) ∧ (∀ l ∈ s.loads, l.wf) ∧ ∀ p ∈ s.pods, p.wf
def Spec.wf (x : Spec) : Prop := (∀ w ∈ x.wants, w.wf) ∧ inI x.pre ∧ inI x.shi
def State.wf (t : State) : Prop := (∀ p ∈ t.pods, p.wf) ∧ inI t.pre ∧ inI t.shi

def nodeS : List Sh := [.nu .i64, .nu .i64, .nu .u64, .nu .u64, .nu .u64, .nu .u64, .nu .u64, .nu .u64, .nu .u64, .nu .u64]
def loadS : List Sh := [.nu .i64, .bo, .nu .i64, .nu .i64, .nu .i64]
def podS : List Sh := [.nu .i64, .nu .i64, .nu .i64, .nu .u64, .nu .u64, .nu .u64, .nu .u64, .nu .i64]
def wantS : List Sh := [.nu .i64, .nu .u64, .nu .u64, .nu .u64, .nu .u64, .bo]
def moveS : List Sh := [.nu .i64, .nu .i64, .nu .i64, .nu .i64]

theorem fits_node {e : List PV} (h : FitsL nodeS e) : ∃ n : Node, e = nodeC n ∧ n.wf := by
  simp only [nodeS, FitsL, Fits] at h
  obtain ⟨_, _, rfl, ⟨a, rfl, h1⟩, _, _, rfl, ⟨b, rfl, h2⟩, _, _, rfl, ⟨c, rfl, h3⟩, _, _, rfl, ⟨d, rfl, h4⟩, _, _, rfl, ⟨f, rfl, h5⟩, _, _, rfl, ⟨g, rfl, h6⟩, _, _, rfl, ⟨i, rfl, h7⟩, _, _, rfl, ⟨j, rfl, h8⟩, _, _, rfl, ⟨k, rfl, h9⟩, _, _, rfl, ⟨l, rfl, h10⟩, rfl⟩ := h
  exact ⟨⟨a, b, ⟨c, d, f, g⟩, ⟨i, j, k, l⟩⟩, rfl, wf_i64 h1, wf_i64 h2, ⟨wf_u64 h3, wf_u64 h4, wf_u64 h5, wf_u64 h6⟩, wf_u64 h7, wf_u64 h8, wf_u64 h9, wf_u64 h10⟩
theorem fits_load {e : List PV} (h : FitsL loadS e) : ∃ n : Load, e = loadC n ∧ n.wf := by
  simp only [loadS, FitsL, Fits] at h
  obtain ⟨_, _, rfl, ⟨a, rfl, h1⟩, _, _, rfl, ⟨b, rfl⟩, _, _, rfl, ⟨c, rfl, h3⟩, _, _, rfl, ⟨d, rfl, h4⟩, _, _, rfl, ⟨f, rfl, h5⟩, rfl⟩ := h
  exact ⟨⟨a, b, c, d, f⟩, rfl, wf_i64 h1, wf_i64 h3, wf_i64 h4, wf_i64 h5⟩
theorem fits_pod {e : List PV} (h : FitsL podS e) : ∃ n : Pod, e = podC n ∧ n.wf := by
  simp only [podS, FitsL, Fits] at h
  obtain ⟨_, _, rfl, ⟨a, rfl, h1⟩, _, _, rfl, ⟨b, rfl, h2⟩, _, _, rfl, ⟨c, rfl, h3⟩, _, _, rfl, ⟨d, rfl, h4⟩, _, _, rfl, ⟨f, rfl, h5⟩, _, _, rfl, ⟨g, rfl, h6⟩, _, _, rfl, ⟨i, rfl, h7⟩, _, _, rfl, ⟨j, rfl, h8⟩, rfl⟩ := h
  exact ⟨⟨a, b, c, ⟨d, f, g, i⟩, j⟩, rfl, wf_i64 h1, wf_i64 h2, wf_i64 h3, ⟨wf_u64 h4, wf_u64 h5, wf_u64 h6, wf_u64 h7⟩, wf_i64 h8⟩
theorem fits_want {e : List PV} (h : FitsL wantS e) : ∃ n : Want, e = wantC n ∧ n.wf := by
  simp only [wantS, FitsL, Fits] at h
  obtain ⟨_, _, rfl, ⟨a, rfl, h1⟩, _, _, rfl, ⟨b, rfl, h2⟩, _, _, rfl, ⟨c, rfl, h3⟩, _, _, rfl, ⟨d, rfl, h4⟩, _, _, rfl, ⟨f, rfl, h5⟩, _, _, rfl, ⟨g, rfl⟩, rfl⟩ := h
  exact ⟨⟨a, ⟨b, c, d, f⟩, g⟩, rfl, wf_i64 h1, wf_u64 h2, wf_u64 h3, wf_u64 h4, wf_u64 h5⟩
theorem fits_move {e : List PV} (h : FitsL moveS e) : ∃ n : Move, e = moveC n ∧ n.wf := by
  simp only [moveS, FitsL, Fits] at h
  obtain ⟨_, _, rfl, ⟨a, rfl, h1⟩, _, _, rfl, ⟨b, rfl, h2⟩, _, _, rfl, ⟨c, rfl, h3⟩, _, _, rfl, ⟨d, rfl, h4⟩, rfl⟩ := h
  exact ⟨⟨a, b, c, d⟩, rfl, wf_i64 h1, wf_i64 h2, wf_i64 h3, wf_i64 h4⟩
theorem fits_snap {e : List PV} (h : FitsL [.sl nodeS, .sl loadS, .sl podS] e) : ∃ s : Snap, .agg e = snapP s ∧ s.wf := by
  simp only [FitsL, Fits] at h
  obtain ⟨_, _, rfl, ⟨a, rfl, h1⟩, _, _, rfl, ⟨b, rfl, h2⟩, _, _, rfl, ⟨c, rfl, h3⟩, rfl⟩ := h
  obtain ⟨x, rfl, k1⟩ := rows_map (fun e he => fits_node (h1 e he))
  obtain ⟨y, rfl, k2⟩ := rows_map (fun e he => fits_load (h2 e he))
  obtain ⟨z, rfl, k3⟩ := rows_map (fun e he => fits_pod (h3 e he))
  exact ⟨⟨x, y, z⟩, rfl, k1, k2, k3⟩
theorem fits_spec {e : List PV} (h : FitsL [.sl wantS, .nu .i64, .nu .i64] e) : ∃ s : Spec, .agg e = specP s ∧ s.wf := by
  simp only [FitsL, Fits] at h
  obtain ⟨_, _, rfl, ⟨a, rfl, h1⟩, _, _, rfl, ⟨b, rfl, h2⟩, _, _, rfl, ⟨c, rfl, h3⟩, rfl⟩ := h
  obtain ⟨x, rfl, k1⟩ := rows_map (fun e he => fits_want (h1 e he))
  exact ⟨⟨x, b, c⟩, rfl, k1, wf_i64 h2, wf_i64 h3⟩
theorem fits_state {e : List PV} (h : FitsL [.sl podS, .nu .i64, .nu .i64] e) : ∃ s : State, .agg e = stateP s ∧ s.wf := by
  simp only [FitsL, Fits] at h
  obtain ⟨_, _, rfl, ⟨a, rfl, h1⟩, _, _, rfl, ⟨b, rfl, h2⟩, _, _, rfl, ⟨c, rfl, h3⟩, rfl⟩ := h
  obtain ⟨x, rfl, k1⟩ := rows_map (fun e he => fits_pod (h1 e he))
  exact ⟨⟨x, b, c⟩, rfl, k1, wf_i64 h2, wf_i64 h3⟩
theorem fits_int {p : PV} (h : Fits (.nu .i64) p) : ∃ n, p = .int .i64 n ∧ inI n := by
  simp only [Fits] at h
  obtain ⟨n, rfl, h⟩ := h
  exact ⟨n, rfl, wf_i64 h⟩
end Go.Proofs.Ythkkelmafjobgaa.Ab
/- Law 5: StateTells. -/
set_option linter.unusedVariables false
set_option linter.unusedSimpArgs false
namespace Go.Proofs.Ythkkelmafjobgaa.Ab
open Go

/-- The functions that StateTells reaches. -/
def l05 : List (Nat × AFunc) := [(82, f82), (83, f83), (106, f106), (107, f107), (153, f153), (163, f163), (164, f164), (165, f165), (167, f167), (168, f168),
  (237, f237), (238, f238), (239, f239), (240, f240), (241, f241), (242, f242), (243, f243), (244, f244), (245, f245), (286, f286), (287, f287)]
def p05 : List (Nat × Prm) := [(279, cloneP 8)]
def T05 : Tab := tabOf l05 [242] [287] [279] [107] p05

theorem up05 : Gives T05 107 [] (.bool true) := by
  refine ⟨rfl, rfl, none, ?_⟩
  exact callP_true (k := 60) (by decide +kernel)

theorem eqPods0 : eqCells [false, false, false, false, false, false, false, false] [.int .i64 0, .int .i64 0, .int .i64 0, .int .u64 0, .int .u64 0, .int .u64 0, .int .u64 0, .int .i64 0] [.int .i64 0, .int .i64 0, .int .i64 0, .int .u64 0, .int .u64 0, .int .u64 0, .int .u64 0, .int .i64 0] = some true := rfl
theorem S05 : Std5 T05 := ⟨⟨rfl, rfl, rfl, rfl, rfl⟩, rfl, ⟨rfl, rfl, rfl, rfl, rfl⟩, ⟨rfl, rfl, rfl, rfl, rfl⟩⟩

theorem law05 (s : Snap) (x : Spec) (t u : State) (id : Int) (_ : s.wf) (_ : x.wf) (_ : t.wf) (_ : u.wf) (_ : inI id) : Gives T05 106 [snapP s, specP x, stateP t, stateP u, .int .i64 id] (.bool true) := by
  refine gives (f := f106) ⟨rfl, rfl, rfl, rfl, rfl⟩ rfl ?_
  have kf := few5_ok (T := T05) ⟨rfl, rfl, rfl, rfl, rfl⟩ ⟨rfl, rfl, rfl, rfl, rfl⟩ s x t
  cases hf : few5 s x t
  · simp only [f106, Wp_seq, Wp_ops, Wp_cond, Wp_skip, Wp_ret, Wp_exit, Wp_block, WpO_cons, WpO_nil, opQ, evOp, evO, evOs, evQ_some, guardV, guardQ_true, guardQ_false, boolQ_true, boolQ_false, argsA, pvs, putS, cellsOf, scals, scal, seqQ_normal, seqQ_ret, seqQ_exit, blkQ_normal, blkQ_ret, blkQ_exit, look_if, blkAt_if, if_true, if_false, Nat.reduceEqDiff, Nat.reduceAdd, true_implies, reduceCtorEq, false_implies, and_true, true_and, List.nil_append, List.cons_append, Bool.and_self, Nat.zero_add, Nat.add_zero, fieldA, nonNil, cellsAt, loadV_one, loadV_pvs, loadV_cons, mkAgg, allPV, List.drop_zero, List.drop_succ_cons, List.take_succ_cons, List.take_zero, List.length_cons, List.length_nil, Nat.beq_eq, storeB, patchL, beq_self_eq_true, ge_iff_le, gt_iff_lt, Int.reduceNeg, Int.reduceLE, Int.reduceLT, Int.reduceEq, extractV, List.getElem?_cons_zero, List.getElem?_cons_succ, mkAgg, Nat.add_eq_left, Nat.left_eq_add, Nat.one_ne_zero, ble_dec, beq_dec, decide_eq_true_eq, Nat.reduceLeDiff, Nat.le_refl, fillA, pureVs, pureV, beq_int, bne_int, Int.natCast_inj, eq_self, eqV, eqB, decide_true, decide_false, List.length_map, Int.toNat_natCast, List.getElem?_map, Option.map_some, Option.map_none, Int.natCast_nonneg, Option.some.injEq, lenV, binV, intBin, intV, idxA, ne_eq, not_true_eq_false, not_false_eq_true, List.drop, List.take, RetP, retP, resV, resOne, snapV, snapVs, snapR, ownSz, pickV, cond_true, cond_false, bTT, bTF, bFT, bFF, Bool.not_true, Bool.not_false, WpD_cons, WpD_nil, opD, evD_some, guardD_true, guardD_false, up05.call, snapP, specP, stateP, kf.call, hf]
  · have hf' := hf
    simp only [few5, few3, Bool.and_eq_true, decide_eq_true_eq] at hf'
    obtain ⟨⟨l1, l2, l3⟩, l4, l5⟩ := hf'
    by_cases hu : (u.pods.length : Int) > 40
    · simp only [f106, Wp_seq, Wp_ops, Wp_cond, Wp_skip, Wp_ret, Wp_exit, Wp_block, WpO_cons, WpO_nil, opQ, evOp, evO, evOs, evQ_some, guardV, guardQ_true, guardQ_false, boolQ_true, boolQ_false, argsA, pvs, putS, cellsOf, scals, scal, seqQ_normal, seqQ_ret, seqQ_exit, blkQ_normal, blkQ_ret, blkQ_exit, look_if, blkAt_if, if_true, if_false, Nat.reduceEqDiff, Nat.reduceAdd, true_implies, reduceCtorEq, false_implies, and_true, true_and, List.nil_append, List.cons_append, Bool.and_self, Nat.zero_add, Nat.add_zero, fieldA, nonNil, cellsAt, loadV_one, loadV_pvs, loadV_cons, mkAgg, allPV, List.drop_zero, List.drop_succ_cons, List.take_succ_cons, List.take_zero, List.length_cons, List.length_nil, Nat.beq_eq, storeB, patchL, beq_self_eq_true, ge_iff_le, gt_iff_lt, Int.reduceNeg, Int.reduceLE, Int.reduceLT, Int.reduceEq, extractV, List.getElem?_cons_zero, List.getElem?_cons_succ, mkAgg, Nat.add_eq_left, Nat.left_eq_add, Nat.one_ne_zero, ble_dec, beq_dec, decide_eq_true_eq, Nat.reduceLeDiff, Nat.le_refl, fillA, pureVs, pureV, beq_int, bne_int, Int.natCast_inj, eq_self, eqV, eqB, decide_true, decide_false, List.length_map, Int.toNat_natCast, List.getElem?_map, Option.map_some, Option.map_none, Int.natCast_nonneg, Option.some.injEq, lenV, binV, intBin, intV, idxA, ne_eq, not_true_eq_false, not_false_eq_true, List.drop, List.take, RetP, retP, resV, resOne, snapV, snapVs, snapR, ownSz, pickV, cond_true, cond_false, bTT, bTF, bFT, bFF, Bool.not_true, Bool.not_false, WpD_cons, WpD_nil, opD, evD_some, guardD_true, guardD_false, up05.call, snapP, specP, stateP, kf.call, hf, hu]
    · have b3 : s.pods.length ≤ 2 ^ 30 := by omega
      have b4 : x.wants.length ≤ 2 ^ 30 := by omega
      have b5 : t.pods.length ≤ 2 ^ 30 := by omega
      have kpod := pod5_ok (T := T05) S05 ⟨rfl, rfl, rfl, rfl, rfl⟩ t id b5
      have kpl := place_ok (T := T05) ⟨rfl, rfl, rfl, rfl, rfl⟩ t id b5
      have kfa := first5_ok (T := T05) ⟨rfl, rfl, rfl, rfl, rfl⟩ ⟨rfl, rfl, rfl⟩ s b3
      have kfb := first5b_ok (T := T05) ⟨rfl, rfl, rfl, rfl, rfl⟩ s b3
      have ksf := same5_ok (T := T05) ⟨rfl, rfl, rfl, rfl, rfl⟩ (firstOf s) (firstOf s) b3
      have ksa := same5_ok (T := T05) ⟨rfl, rfl, rfl, rfl, rfl⟩ t u b5
      have ksb := same5b_ok (T := T05) ⟨rfl, rfl, rfl, rfl, rfl⟩ ⟨rfl, rfl, rfl, rfl, rfl⟩ t u b5
      have kst := same5b_ok (T := T05) ⟨rfl, rfl, rfl, rfl, rfl⟩ ⟨rfl, rfl, rfl, rfl, rfl⟩ t t b5
      have kga := goal5_ok (T := T05) S05 ⟨rfl, rfl, rfl, rfl, rfl⟩ ⟨rfl, rfl, rfl, rfl, rfl⟩ x t b4 b5
      have kgb := goal5b_ok (T := T05) ⟨rfl, rfl, rfl, rfl, rfl⟩ ⟨rfl, rfl, rfl, rfl, rfl⟩ x t b4 b5
      simp only [eq_self, decide_true] at ksf kst
      rcases placeFrom_cases id t.pods 0 with ⟨h1, h2⟩ | ⟨j, p, h1, h2, h3, h4⟩
      · rw [h2] at kpl
        simp only [f106, Wp_seq, Wp_ops, Wp_cond, Wp_skip, Wp_ret, Wp_exit, Wp_block, WpO_cons, WpO_nil, opQ, evOp, evO, evOs, evQ_some, guardV, guardQ_true, guardQ_false, boolQ_true, boolQ_false, argsA, pvs, putS, cellsOf, scals, scal, seqQ_normal, seqQ_ret, seqQ_exit, blkQ_normal, blkQ_ret, blkQ_exit, look_if, blkAt_if, if_true, if_false, Nat.reduceEqDiff, Nat.reduceAdd, true_implies, reduceCtorEq, false_implies, and_true, true_and, List.nil_append, List.cons_append, Bool.and_self, Nat.zero_add, Nat.add_zero, fieldA, nonNil, cellsAt, loadV_one, loadV_pvs, loadV_cons, mkAgg, allPV, List.drop_zero, List.drop_succ_cons, List.take_succ_cons, List.take_zero, List.length_cons, List.length_nil, Nat.beq_eq, storeB, patchL, beq_self_eq_true, ge_iff_le, gt_iff_lt, Int.reduceNeg, Int.reduceLE, Int.reduceLT, Int.reduceEq, extractV, List.getElem?_cons_zero, List.getElem?_cons_succ, mkAgg, Nat.add_eq_left, Nat.left_eq_add, Nat.one_ne_zero, ble_dec, beq_dec, decide_eq_true_eq, Nat.reduceLeDiff, Nat.le_refl, fillA, pureVs, pureV, beq_int, bne_int, Int.natCast_inj, eq_self, eqV, eqB, decide_true, decide_false, List.length_map, Int.toNat_natCast, List.getElem?_map, Option.map_some, Option.map_none, Int.natCast_nonneg, Option.some.injEq, lenV, binV, intBin, intV, idxA, ne_eq, not_true_eq_false, not_false_eq_true, List.drop, List.take, RetP, retP, resV, resOne, snapV, snapVs, snapR, ownSz, pickV, cond_true, cond_false, bTT, bTF, bFT, bFF, Bool.not_true, Bool.not_false, WpD_cons, WpD_nil, opD, evD_some, guardD_true, guardD_false, up05.call, snapP, specP, stateP, kf.call, hf, hu, kpod.call, kpl.call, h1, podR, podP, pod0, podC]
        refine (Wp_calm rfl).2 ?_
        simp only [Wp_seq, Wp_ops, Wp_cond, Wp_skip, Wp_ret, Wp_exit, Wp_block, WpO_cons, WpO_nil, opQ, evOp, evO, evOs, evQ_some, guardV, guardQ_true, guardQ_false, boolQ_true, boolQ_false, argsA, pvs, putS, cellsOf, scals, scal, seqQ_normal, seqQ_ret, seqQ_exit, blkQ_normal, blkQ_ret, blkQ_exit, look_if, blkAt_if, if_true, if_false, Nat.reduceEqDiff, Nat.reduceAdd, true_implies, reduceCtorEq, false_implies, and_true, true_and, List.nil_append, List.cons_append, Bool.and_self, Nat.zero_add, Nat.add_zero, fieldA, nonNil, cellsAt, loadV_one, loadV_pvs, loadV_cons, mkAgg, allPV, List.drop_zero, List.drop_succ_cons, List.take_succ_cons, List.take_zero, List.length_cons, List.length_nil, Nat.beq_eq, storeB, patchL, beq_self_eq_true, ge_iff_le, gt_iff_lt, Int.reduceNeg, Int.reduceLE, Int.reduceLT, Int.reduceEq, extractV, List.getElem?_cons_zero, List.getElem?_cons_succ, mkAgg, Nat.add_eq_left, Nat.left_eq_add, Nat.one_ne_zero, ble_dec, beq_dec, decide_eq_true_eq, Nat.reduceLeDiff, Nat.le_refl, fillA, pureVs, pureV, beq_int, bne_int, Int.natCast_inj, eq_self, eqV, eqB, decide_true, decide_false, List.length_map, Int.toNat_natCast, List.getElem?_map, Option.map_some, Option.map_none, Int.natCast_nonneg, Option.some.injEq, lenV, binV, intBin, intV, idxA, ne_eq, not_true_eq_false, not_false_eq_true, List.drop, List.take, RetP, retP, resV, resOne, snapV, snapVs, snapR, ownSz, pickV, cond_true, cond_false, bTT, bTF, bFT, bFF, Bool.not_true, Bool.not_false, WpD_cons, WpD_nil, opD, evD_some, guardD_true, guardD_false, eqPods0]
        refine (Wp_calm rfl).2 ?_
        simp only [Wp_seq, Wp_ops, Wp_cond, Wp_skip, Wp_ret, Wp_exit, Wp_block, WpO_cons, WpO_nil, opQ, evOp, evO, evOs, evQ_some, guardV, guardQ_true, guardQ_false, boolQ_true, boolQ_false, argsA, pvs, putS, cellsOf, scals, scal, seqQ_normal, seqQ_ret, seqQ_exit, blkQ_normal, blkQ_ret, blkQ_exit, look_if, blkAt_if, if_true, if_false, Nat.reduceEqDiff, Nat.reduceAdd, true_implies, reduceCtorEq, false_implies, and_true, true_and, List.nil_append, List.cons_append, Bool.and_self, Nat.zero_add, Nat.add_zero, fieldA, nonNil, cellsAt, loadV_one, loadV_pvs, loadV_cons, mkAgg, allPV, List.drop_zero, List.drop_succ_cons, List.take_succ_cons, List.take_zero, List.length_cons, List.length_nil, Nat.beq_eq, storeB, patchL, beq_self_eq_true, ge_iff_le, gt_iff_lt, Int.reduceNeg, Int.reduceLE, Int.reduceLT, Int.reduceEq, extractV, List.getElem?_cons_zero, List.getElem?_cons_succ, mkAgg, Nat.add_eq_left, Nat.left_eq_add, Nat.one_ne_zero, ble_dec, beq_dec, decide_eq_true_eq, Nat.reduceLeDiff, Nat.le_refl, fillA, pureVs, pureV, beq_int, bne_int, Int.natCast_inj, eq_self, eqV, eqB, decide_true, decide_false, List.length_map, Int.toNat_natCast, List.getElem?_map, Option.map_some, Option.map_none, Int.natCast_nonneg, Option.some.injEq, lenV, binV, intBin, intV, idxA, ne_eq, not_true_eq_false, not_false_eq_true, List.drop, List.take, RetP, retP, resV, resOne, snapV, snapVs, snapR, ownSz, pickV, cond_true, cond_false, bTT, bTF, bFT, bFF, Bool.not_true, Bool.not_false, WpD_cons, WpD_nil, opD, evD_some, guardD_true, guardD_false, kfa.callD, kfb.callD, ksf.callD, ksa.callD, ksb.callD, kst.callD, kga.callD, kgb.callD, snapP, specP, stateP, firstOf]
      · have hj : ¬ ((j : Int) < 0) := by omega
        rw [h3] at kpl
        simp only [f106, Wp_seq, Wp_ops, Wp_cond, Wp_skip, Wp_ret, Wp_exit, Wp_block, WpO_cons, WpO_nil, opQ, evOp, evO, evOs, evQ_some, guardV, guardQ_true, guardQ_false, boolQ_true, boolQ_false, argsA, pvs, putS, cellsOf, scals, scal, seqQ_normal, seqQ_ret, seqQ_exit, blkQ_normal, blkQ_ret, blkQ_exit, look_if, blkAt_if, if_true, if_false, Nat.reduceEqDiff, Nat.reduceAdd, true_implies, reduceCtorEq, false_implies, and_true, true_and, List.nil_append, List.cons_append, Bool.and_self, Nat.zero_add, Nat.add_zero, fieldA, nonNil, cellsAt, loadV_one, loadV_pvs, loadV_cons, mkAgg, allPV, List.drop_zero, List.drop_succ_cons, List.take_succ_cons, List.take_zero, List.length_cons, List.length_nil, Nat.beq_eq, storeB, patchL, beq_self_eq_true, ge_iff_le, gt_iff_lt, Int.reduceNeg, Int.reduceLE, Int.reduceLT, Int.reduceEq, extractV, List.getElem?_cons_zero, List.getElem?_cons_succ, mkAgg, Nat.add_eq_left, Nat.left_eq_add, Nat.one_ne_zero, ble_dec, beq_dec, decide_eq_true_eq, Nat.reduceLeDiff, Nat.le_refl, fillA, pureVs, pureV, beq_int, bne_int, Int.natCast_inj, eq_self, eqV, eqB, decide_true, decide_false, List.length_map, Int.toNat_natCast, List.getElem?_map, Option.map_some, Option.map_none, Int.natCast_nonneg, Option.some.injEq, lenV, binV, intBin, intV, idxA, ne_eq, not_true_eq_false, not_false_eq_true, List.drop, List.take, RetP, retP, resV, resOne, snapV, snapVs, snapR, ownSz, pickV, cond_true, cond_false, bTT, bTF, bFT, bFF, Bool.not_true, Bool.not_false, WpD_cons, WpD_nil, opD, evD_some, guardD_true, guardD_false, up05.call, snapP, specP, stateP, kf.call, hf, hu, kpod.call, kpl.call, h2, podR, podP, podC]
        refine (Wp_calm rfl).2 ?_
        have e1 := @eqPods p p
        simp only [podC] at e1
        simp only [Wp_seq, Wp_ops, Wp_cond, Wp_skip, Wp_ret, Wp_exit, Wp_block, WpO_cons, WpO_nil, opQ, evOp, evO, evOs, evQ_some, guardV, guardQ_true, guardQ_false, boolQ_true, boolQ_false, argsA, pvs, putS, cellsOf, scals, scal, seqQ_normal, seqQ_ret, seqQ_exit, blkQ_normal, blkQ_ret, blkQ_exit, look_if, blkAt_if, if_true, if_false, Nat.reduceEqDiff, Nat.reduceAdd, true_implies, reduceCtorEq, false_implies, and_true, true_and, List.nil_append, List.cons_append, Bool.and_self, Nat.zero_add, Nat.add_zero, fieldA, nonNil, cellsAt, loadV_one, loadV_pvs, loadV_cons, mkAgg, allPV, List.drop_zero, List.drop_succ_cons, List.take_succ_cons, List.take_zero, List.length_cons, List.length_nil, Nat.beq_eq, storeB, patchL, beq_self_eq_true, ge_iff_le, gt_iff_lt, Int.reduceNeg, Int.reduceLE, Int.reduceLT, Int.reduceEq, extractV, List.getElem?_cons_zero, List.getElem?_cons_succ, mkAgg, Nat.add_eq_left, Nat.left_eq_add, Nat.one_ne_zero, ble_dec, beq_dec, decide_eq_true_eq, Nat.reduceLeDiff, Nat.le_refl, fillA, pureVs, pureV, beq_int, bne_int, Int.natCast_inj, eq_self, eqV, eqB, decide_true, decide_false, List.length_map, Int.toNat_natCast, List.getElem?_map, Option.map_some, Option.map_none, Int.natCast_nonneg, Option.some.injEq, lenV, binV, intBin, intV, idxA, ne_eq, not_true_eq_false, not_false_eq_true, List.drop, List.take, RetP, retP, resV, resOne, snapV, snapVs, snapR, ownSz, pickV, cond_true, cond_false, bTT, bTF, bFT, bFF, Bool.not_true, Bool.not_false, WpD_cons, WpD_nil, opD, evD_some, guardD_true, guardD_false, h1, podC, e1]
        refine (Wp_calm rfl).2 ?_
        simp only [Wp_seq, Wp_ops, Wp_cond, Wp_skip, Wp_ret, Wp_exit, Wp_block, WpO_cons, WpO_nil, opQ, evOp, evO, evOs, evQ_some, guardV, guardQ_true, guardQ_false, boolQ_true, boolQ_false, argsA, pvs, putS, cellsOf, scals, scal, seqQ_normal, seqQ_ret, seqQ_exit, blkQ_normal, blkQ_ret, blkQ_exit, look_if, blkAt_if, if_true, if_false, Nat.reduceEqDiff, Nat.reduceAdd, true_implies, reduceCtorEq, false_implies, and_true, true_and, List.nil_append, List.cons_append, Bool.and_self, Nat.zero_add, Nat.add_zero, fieldA, nonNil, cellsAt, loadV_one, loadV_pvs, loadV_cons, mkAgg, allPV, List.drop_zero, List.drop_succ_cons, List.take_succ_cons, List.take_zero, List.length_cons, List.length_nil, Nat.beq_eq, storeB, patchL, beq_self_eq_true, ge_iff_le, gt_iff_lt, Int.reduceNeg, Int.reduceLE, Int.reduceLT, Int.reduceEq, extractV, List.getElem?_cons_zero, List.getElem?_cons_succ, mkAgg, Nat.add_eq_left, Nat.left_eq_add, Nat.one_ne_zero, ble_dec, beq_dec, decide_eq_true_eq, Nat.reduceLeDiff, Nat.le_refl, fillA, pureVs, pureV, beq_int, bne_int, Int.natCast_inj, eq_self, eqV, eqB, decide_true, decide_false, List.length_map, Int.toNat_natCast, List.getElem?_map, Option.map_some, Option.map_none, Int.natCast_nonneg, Option.some.injEq, lenV, binV, intBin, intV, idxA, ne_eq, not_true_eq_false, not_false_eq_true, List.drop, List.take, RetP, retP, resV, resOne, snapV, snapVs, snapR, ownSz, pickV, cond_true, cond_false, bTT, bTF, bFT, bFF, Bool.not_true, Bool.not_false, WpD_cons, WpD_nil, opD, evD_some, guardD_true, guardD_false, kfa.callD, kfb.callD, ksf.callD, ksa.callD, ksb.callD, kst.callD, kga.callD, kgb.callD, snapP, specP, stateP, firstOf]
end Go.Proofs.Ythkkelmafjobgaa.Ab
