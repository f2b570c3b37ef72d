/- The layer, part 2: Ab47, Sp5b, Sp5d, Co09, Ab48. -/
import Derived.Test.YtmeigdjfcecidaaDoorA1
/- A slice's comparison with nil, of which a value does not tell; slices.Clone. -/
set_option linter.unusedVariables false
set_option linter.unusedSimpArgs false
namespace Go.Proofs.YtmeigdjfcecidaaDoor.Ab
open Go

section
variable {E : Env} {N : Nat}

theorem qs_nx (d : Nat) {P : Program} {w : World} {t : TypeId} {e n m} (h : P.underlying t = some (.slice e)) : (Op.equalIn (d + 1) t (.slice none n m) (.slice none 0 0)).run P w = .ok true w := by simp [Op.equalIn, run_underlying h]
/-- A slice against nil: it is one of both; where it has elements it is no. -/
theorem WPo.nilAny {d : Nat} {x y : AO} {es : List (List PV)} {ds : List Nat} {l : List AOper} {Q : St → Prop} {st : St} (hE' : E.OK) (hx : evO (look st.fr) x = .pv (.slice es)) (hy : evO (look st.fr) y = .nils)
    (h : ∀ b, (es ≠ [] → b = false) → WPo E N l Q ⟨putS st (some d) (.pv (.bool b)), st.hp, st.nx⟩) : WPo E N (⟨some d, .bin .eql (some .slice) x y, none, ds⟩ :: l) Q st := by
  intro ops k hk hl X M a w Q' hE hN R hq
  obtain ⟨o, ho, hc⟩ := hl 0 _ rfl
  obtain ⟨h1, h2, h3, h4⟩ := cOper_spec hc
  simp only [List.length_cons, List.range'_succ]
  rw [wpOps_cons]
  unfold wpOp
  rw [show ops[k]? = some o from ho]
  simp only
  have hw := guard_ok (X := X) (o := o) (b := true) R (by rw [hN]; exact h4) rfl
  rw [if_pos hw]
  left
  subst hE
  obtain ⟨t, x', y', u, hop, hcx, hcy, hkk⟩ := inv_bin h1
  obtain ⟨dd, hd, e, rfl⟩ := eqK_spec hkk.symm
  have vx := cO_ok hE' R hcx
  have vy := cO_ok hE' R hcy
  rw [hx] at vx
  rw [hy] at vy
  simp only [VA, VP] at vx vy
  obtain ⟨ad, len, cap, e1, e2, e3, e4⟩ := vx
  have hex : execOp a.eval o = (do pure (Next.value (← (do eqGuard .eql t x' y' (a.eval x') (a.eval y'); binOp .eql t (a.eval x') (a.eval y')))) : Sem Next) := by
    unfold execOp
    rw [hop]
  have hrun : ∃ b, (es ≠ [] → b = false) ∧ (execOp a.eval o).run X.E.P w = .ok (.value (.bool b)) w := by
    rw [hex, e1, vy]
    have hg : (eqGuard .eql t x' y' (.slice ad len cap) (.slice none 0 0)).run X.E.P w = .ok () w := by
      unfold eqGuard
      simp only [Bool.not_true, Bool.false_eq_true, if_false]
      rfl
    have hb : ∀ b, (Op.equalIn 10000 t (.slice ad len cap) (.slice none 0 0)).run X.E.P w = .ok b w → (binOp .eql t (.slice ad len cap) (.slice none 0 0)).run X.E.P w = .ok (.bool b) w := by
      intro b hb
      simp only [binOp]
      rw [rb (show (Op.equal t (.slice ad len cap) (.slice none 0 0)).run X.E.P w = .ok b w from hb)]
      rfl
    cases ad with
    | none =>
      refine ⟨true, fun hne => ?_, r_value (by rw [rb hg]; exact hb true (qs_nx _ hd))⟩
      obtain ⟨b, o, sz, hh, _⟩ := e4 (by cases es <;> simp at hne ⊢)
      simp at hh
    | some ad =>
      exact ⟨false, fun _ => rfl, r_value (by rw [rb hg]; exact hb false (qs_pn _ hd))⟩
  obtain ⟨b, hb1, hb2⟩ := hrun
  rw [Oper.wp, hb2, Oper.upon_value]
  refine h b hb1 ops (k + 1) (by simp at hk; omega) (fun j y hy => ?_) X M _ _ Q' rfl hN ?_ hq
  · have := hl (j + 1) y (by simpa using hy)
    rwa [← Nat.add_assoc, Nat.add_right_comm] at this
  · unfold Rl
    simp only
    rw [look_put, show some d = o.dst from h2.symm]
    exact Rel.put R (by simp only [VA, VP]) (fun k hk => by rw [hN]; exact h3 k hk)

/-- slices.Clone of elements of so many cells. -/
def cloneF (sz b : Nat) : AFunc := ⟨8, [.t 2],
 (.seq (.ops [
   ⟨some 2, .mv (.c .nils), none, []⟩])
  (.seq (.seq (.ops [
   ⟨some 3, .mv (.t 0), none, []⟩,
   ⟨some 4, .bin .eql (some .slice) (.t 3) (.c .nils), none, [0]⟩])
  (.cond (.t 4)
   (.seq (.ops [
     ⟨some 2, .mv (.c .nils), none, []⟩])
    .ret)
   .skip))
  (.seq (.ops [
   ⟨some 5, .bslice sz 0 [] [], none, []⟩,
   ⟨some 6, .mv (.t 0), none, []⟩,
   ⟨some 7, .append sz b (.t 5) (.t 6), none, [0, 1]⟩,
   ⟨some 2, .mv (.t 7), none, [2, 2, 0, 1, 2]⟩])
  .ret)))⟩

def cloneP (sz : Nat) (args : List AV) (hp : Hl) (nx : Nat) : Option (AV × Hl × Nat) :=
  match args, hp with
  | [.pv (.slice [])], [] => some (.pv (.slice []), [], nx + 2)
  | [.pv (.slice (e :: r))], [] => if allLen sz (e :: r) = true ∧ (e :: r).length ≤ 2 ^ 30 then some (.ms (nx + 1), [(nx + 1, .row sz (e :: r))], nx + 2) else none
  | _, _ => none

/-- No functions at all. -/
def T0 : Tab := ⟨fun _ => none, fun _ => false, fun _ => false, fun _ => false, fun _ => false, fun _ => none⟩
theorem T0_tied : Tied E T0 := ⟨fun n f h1 h2 => by simp [T0] at h2, fun n g h => by simp [T0] at h⟩
theorem Wp_WP {T : Tab} (hE : E.OK) (hT : Tied E T) {s : Bool} {c : ACode} {st : St} {Q : Exit → St → Prop} (h : Wp T s c st Q) : WP E N c Q st := by
  obtain ⟨e, st', h1, h2⟩ := h
  obtain ⟨k0, hk⟩ := h1.late
  exact run_sound hE (den_sound hE hT k0) _ _ _ _ _ (hk k0 k0 (Nat.le_refl _) (Nat.le_refl _)) _ h2

theorem clone_raw {n sz b : Nat} (hE : E.OK) (hf : cFunc E n = some (cloneF sz b)) (args : List AV) (hp : Hl) (nx : Nat) (v : AV) (hp' : Hl) (nx' : Nat) (h : cloneP sz args hp nx = some (v, hp', nx')) : RawC E n args hp nx v hp' nx' := by
  have hT := @T0_tied E
  have key : ∃ es, args = [.pv (.slice es)] ∧ hp = [] := by
    unfold cloneP at h
    split at h
    · exact ⟨_, rfl, rfl⟩
    · exact ⟨_, rfl, rfl⟩
    · simp at h
  obtain ⟨es, rfl, rfl⟩ := key
  refine RawC.of_conv hE hf (by simp [cloneF]) ?_
  unfold cloneF
  simp only
  refine WP.seq (Wp_WP hE hT (s := false) ?_)
  rw [Wp_ops, WpO_cons]
  simp only [guardV, guardQ, opQ, evOp, evQ, evO, WpO_nil, thenQ]
  refine WP.seq (WP.seq (WP.ops hE ?_))
  refine doO_sound (T := T0) (C := D T0) hE (D_sound hE hT) (st1 := ⟨(3, .pv (.slice es)) :: (2, .nils) :: argsA 0 [.pv (.slice es)], [], nx⟩) rfl ?_
  refine WPo.nilAny (es := es) hE rfl rfl fun bb hbb => WPo.nil ?_
  simp only [thenQ]
  refine WP.cond (b := bb) hE rfl (fun hb => ?_) (fun hb => WP.skip ?_)
  · subst hb
    have hes : es = [] := Classical.byContradiction fun hh => by simpa using hbb hh
    subst hes
    refine Wp_WP hE hT (s := false) ?_
    simp only [cloneP, Option.some.injEq, Prod.mk.injEq] at h
    obtain ⟨rfl, rfl, rfl⟩ := h
    simp only [Wp_seq, Wp_ops, Wp_cond, Wp_skip, Wp_ret, Wp_exit, Wp_block, WpO_cons, WpO_nil, opQ, evOp, evO, evOs, evQ_some, guardV, guardQ_true, guardQ_false, boolQ_true, boolQ_false, argsA, pvs, putS, cellsOf, scals, scal, seqQ_normal, seqQ_ret, seqQ_exit, blkQ_normal, blkQ_ret, blkQ_exit, look_if, blkAt_if, if_true, if_false, Nat.reduceEqDiff, Nat.reduceAdd, true_implies, reduceCtorEq, false_implies, and_true, true_and, List.nil_append, List.cons_append, Bool.and_self, Nat.zero_add, Nat.add_zero, fieldA, nonNil, cellsAt, loadV_one, loadV_pvs, loadV_cons, mkAgg, allPV, List.drop_zero, List.drop_succ_cons, List.take_succ_cons, List.take_zero, List.length_cons, List.length_nil, Nat.beq_eq, storeB, patchL, beq_self_eq_true, ge_iff_le, gt_iff_lt, Int.reduceNeg, Int.reduceLE, Int.reduceLT, Int.reduceEq, extractV, List.getElem?_cons_zero, List.getElem?_cons_succ, mkAgg, Nat.add_eq_left, Nat.left_eq_add, Nat.one_ne_zero, ble_dec, beq_dec, decide_eq_true_eq, Nat.reduceLeDiff, Nat.le_refl, fillA, pureVs, pureV, beq_int, bne_int, Int.natCast_inj, eq_self, eqV, eqB, decide_true, decide_false, List.length_map, Int.toNat_natCast, List.getElem?_map, Option.map_some, Option.map_none, Int.natCast_nonneg, Option.some.injEq, lenV, binV, intBin, intV, idxA, ne_eq, not_true_eq_false, not_false_eq_true, List.drop, List.take, RetP, retP, resV, resOne, snapV, snapVs, snapR, snapRs, ownSz, pickV, cond_true, cond_false, bTT, bTF, bFT, bFF, Bool.not_true, Bool.not_false, AO.isC, Bool.or_true, Bool.true_or, Bool.or_false, Bool.false_or, WpE_cons, WpE_nil, opE, evE_some, guardE_true, guardE_false, WpD_cons, WpD_nil, opD, evD_some, guardD_true, guardD_false, thenQ]
    refine ⟨.inl trivial, _, rfl, fun X M F a w u hX R hu => ⟨R.used_mono fun i hi => by show i < nx + 2; have : i < nx := hi; omega, ?_⟩⟩
    simp only [VA] at hu
    subst hu
    simp only [VA, VP]
    exact ⟨none, 0, 0, rfl, rfl, Nat.le_refl _, fun h => by simp at h⟩
  · subst hb
    simp only [thenQ]
    refine Wp_WP hE hT (s := false) ?_
    cases es with
    | nil =>
      simp only [cloneP, Option.some.injEq, Prod.mk.injEq] at h
      obtain ⟨rfl, rfl, rfl⟩ := h
      simp only [Wp_seq, Wp_ops, Wp_cond, Wp_skip, Wp_ret, Wp_exit, Wp_block, WpO_cons, WpO_nil, opQ, evOp, evO, evOs, evQ_some, guardV, guardQ_true, guardQ_false, boolQ_true, boolQ_false, argsA, pvs, putS, cellsOf, scals, scal, seqQ_normal, seqQ_ret, seqQ_exit, blkQ_normal, blkQ_ret, blkQ_exit, look_if, blkAt_if, if_true, if_false, Nat.reduceEqDiff, Nat.reduceAdd, true_implies, reduceCtorEq, false_implies, and_true, true_and, List.nil_append, List.cons_append, Bool.and_self, Nat.zero_add, Nat.add_zero, fieldA, nonNil, cellsAt, loadV_one, loadV_pvs, loadV_cons, mkAgg, allPV, List.drop_zero, List.drop_succ_cons, List.take_succ_cons, List.take_zero, List.length_cons, List.length_nil, Nat.beq_eq, storeB, patchL, beq_self_eq_true, ge_iff_le, gt_iff_lt, Int.reduceNeg, Int.reduceLE, Int.reduceLT, Int.reduceEq, extractV, List.getElem?_cons_zero, List.getElem?_cons_succ, mkAgg, Nat.add_eq_left, Nat.left_eq_add, Nat.one_ne_zero, ble_dec, beq_dec, decide_eq_true_eq, Nat.reduceLeDiff, Nat.le_refl, fillA, pureVs, pureV, beq_int, bne_int, Int.natCast_inj, eq_self, eqV, eqB, decide_true, decide_false, List.length_map, Int.toNat_natCast, List.getElem?_map, Option.map_some, Option.map_none, Int.natCast_nonneg, Option.some.injEq, lenV, binV, intBin, intV, idxA, ne_eq, not_true_eq_false, not_false_eq_true, List.drop, List.take, RetP, retP, resV, resOne, snapV, snapVs, snapR, snapRs, ownSz, pickV, cond_true, cond_false, bTT, bTF, bFT, bFF, Bool.not_true, Bool.not_false, AO.isC, Bool.or_true, Bool.true_or, Bool.or_false, Bool.false_or, WpE_cons, WpE_nil, opE, evE_some, guardE_true, guardE_false, WpD_cons, WpD_nil, opD, evD_some, guardD_true, guardD_false, fillA, partsScal, chunk, srcV, baseV, appV, allLen, List.all_nil, beq_self, Nat.reducePow, Nat.zero_le]
      refine ⟨.inl trivial, _, rfl, fun X M F a w u hX R hu => ?_⟩
      have e1 : wr (blkAt [(nx, .dead), (nx + 1, .row sz []), (nx, .row sz [])]) [(nx + 1, .dead)] = blkAt [] := by
        funext i
        rw [← blkAt_wr]
        simp only [List.cons_append, List.nil_append, blkAt]
        by_cases h1 : nx + 1 = i
        · subst h1; rw [beq_self]; rfl
        · rw [beq_ne h1]
          by_cases h2 : nx = i
          · subst h2; rw [beq_self]; rfl
          · rw [beq_ne h2]; rfl
      have e2 : blkAt [(nx, .dead), (nx + 1, .row sz []), (nx, .row sz [])] (nx + 1) = .row sz [] := by
        simp only [blkAt]
        rw [beq_ne (by omega : nx ≠ nx + 1), beq_self]
        rfl
      have R1 := R.kill (nx + 1)
      rw [e1] at R1
      refine ⟨R1, ?_⟩
      have Rb : Rl X M ⟨[], [(nx, .dead), (nx + 1, .row sz []), (nx, .row sz [])], nx + 2⟩ a w := { R with fr := fun t => by simp only [look, VA] }
      have := Rb.frzA (nx + 1) (args := [.ms (nx + 1)]) (vs := [u]) (by simp only [VAs]; exact ⟨u, [], rfl, hu, rfl⟩)
      have e3 : frzA (nx + 1) ⟨[], [(nx, .dead), (nx + 1, .row sz []), (nx, .row sz [])], nx + 2⟩ [.ms (nx + 1)] = [.pv (.slice [])] := by
        simp only [Ab.frzA, e2, frzVs, frzV, beq_self, cond_true]
      have e4 : frzS (nx + 1) ⟨[], [(nx, .dead), (nx + 1, .row sz []), (nx, .row sz [])], nx + 2⟩ = ⟨[], [(nx + 1, .dead), (nx, .dead), (nx + 1, .row sz []), (nx, .row sz [])], nx + 2⟩ := by
        simp only [frzS, e2, frzF, frzH, frzB]
      rw [e3, e4] at this
      have e5 : blkAt [(nx + 1, .dead), (nx, .dead), (nx + 1, .row sz []), (nx, .row sz [])] = blkAt [] := by
        funext i
        have := congrFun e1 i
        rw [← blkAt_wr] at this
        exact this
      simp only [e5] at this
      simp only [VAs] at this
      obtain ⟨u', us', h1, h2, h3⟩ := this
      simp only [List.cons.injEq] at h1
      rw [h1.1]
      exact h2
    | cons e r =>
      simp only [cloneP] at h
      split at h
      · rename_i hc
        simp only [Option.some.injEq, Prod.mk.injEq] at h
        obtain ⟨rfl, rfl, rfl⟩ := h
        have h1 : (List.all (e :: r) fun e => decide (e.length = sz)) = true := by simpa only [allLen, beq_dec] using hc.1
        have h2 : r.length + 1 ≤ 2 ^ 30 := hc.2
        simp only [Wp_seq, Wp_ops, Wp_cond, Wp_skip, Wp_ret, Wp_exit, Wp_block, WpO_cons, WpO_nil, opQ, evOp, evO, evOs, evQ_some, guardV, guardQ_true, guardQ_false, boolQ_true, boolQ_false, argsA, pvs, putS, cellsOf, scals, scal, seqQ_normal, seqQ_ret, seqQ_exit, blkQ_normal, blkQ_ret, blkQ_exit, look_if, blkAt_if, if_true, if_false, Nat.reduceEqDiff, Nat.reduceAdd, true_implies, reduceCtorEq, false_implies, and_true, true_and, List.nil_append, List.cons_append, Bool.and_self, Nat.zero_add, Nat.add_zero, fieldA, nonNil, cellsAt, loadV_one, loadV_pvs, loadV_cons, mkAgg, allPV, List.drop_zero, List.drop_succ_cons, List.take_succ_cons, List.take_zero, List.length_cons, List.length_nil, Nat.beq_eq, storeB, patchL, beq_self_eq_true, ge_iff_le, gt_iff_lt, Int.reduceNeg, Int.reduceLE, Int.reduceLT, Int.reduceEq, extractV, List.getElem?_cons_zero, List.getElem?_cons_succ, mkAgg, Nat.add_eq_left, Nat.left_eq_add, Nat.one_ne_zero, ble_dec, beq_dec, decide_eq_true_eq, Nat.reduceLeDiff, Nat.le_refl, fillA, pureVs, pureV, beq_int, bne_int, Int.natCast_inj, eq_self, eqV, eqB, decide_true, decide_false, List.length_map, Int.toNat_natCast, List.getElem?_map, Option.map_some, Option.map_none, Int.natCast_nonneg, Option.some.injEq, lenV, binV, intBin, intV, idxA, ne_eq, not_true_eq_false, not_false_eq_true, List.drop, List.take, RetP, retP, resV, resOne, snapV, snapVs, snapR, snapRs, ownSz, pickV, cond_true, cond_false, bTT, bTF, bFT, bFF, Bool.not_true, Bool.not_false, AO.isC, Bool.or_true, Bool.true_or, Bool.or_false, Bool.false_or, WpE_cons, WpE_nil, opE, evE_some, guardE_true, guardE_false, WpD_cons, WpD_nil, opD, evD_some, guardD_true, guardD_false, fillA, partsScal, chunk, srcV, baseV, appV, allLen, h1, h2, beq_self]
        refine ⟨.inl trivial, _, rfl, fun X M F a w u hX R hu => ?_⟩
        have : blkAt [(nx, .dead), (nx + 1, .row sz (e :: r)), (nx, .row sz [])] = blkAt [(nx + 1, .row sz (e :: r))] := by
          funext i
          simp only [blkAt]
          by_cases hi : nx = i
          · subst hi
            rw [beq_self, beq_ne (by omega : nx + 1 ≠ nx)]
            rfl
          · rw [beq_ne hi]
            rfl
        simp only [this] at R hu
        exact ⟨R, hu⟩
      · simp at h
end
end Go.Proofs.YtmeigdjfcecidaaDoor.Ab
/- Layer 5: contracts of state. -/
set_option linter.unusedVariables false
set_option linter.unusedSimpArgs false
namespace Go.Proofs.YtmeigdjfcecidaaDoor.Ab
open Go

section
variable {T : Tab}

/-- The first one's place, from here on. -/
def findFrom (P : List PV → Bool) : Nat → List (List PV) → Int
  | _, [] => -1
  | i, e :: r => if P e = true then i else findFrom P (i + 1) r

theorem index_ok {n : Nat} {cs : List PV} (P : List PV → Bool) (h287 : Std T 287 f287) (es : List (List PV)) (h : es.length ≤ 2 ^ 30) (hl : ∀ e ∈ es, e.length = 8) (hP : ∀ e ∈ es, Gives T n (.agg e :: cs) (.bool (P e))) :
    Gives T 287 [.slice es, .func n [] cs] (.int .i64 (findFrom P 0 es)) := by
  refine gives h287 rfl ?_
  simp only [f287, Wp_seq, Wp_ops, Wp_cond, Wp_skip, Wp_ret, Wp_exit, Wp_block, WpO_cons, WpO_nil, opQ, evOp, evO, evOs, evQ_some, guardV, guardQ_true, guardQ_false, boolQ_true, boolQ_false, argsA, pvs, putS, cellsOf, scals, scal, seqQ_normal, seqQ_ret, seqQ_exit, blkQ_normal, blkQ_ret, blkQ_exit, look_if, blkAt_if, if_true, if_false, Nat.reduceEqDiff, Nat.reduceAdd, true_implies, reduceCtorEq, false_implies, and_true, true_and, List.nil_append, List.cons_append, Bool.and_self, Nat.zero_add, Nat.add_zero, fieldA, nonNil, cellsAt, loadV_one, loadV_pvs, loadV_cons, mkAgg, allPV, List.drop_zero, List.drop_succ_cons, List.take_succ_cons, List.take_zero, List.length_cons, List.length_nil, Nat.beq_eq, storeB, patchL, beq_self_eq_true, ge_iff_le, gt_iff_lt, Int.reduceNeg, Int.reduceLE, Int.reduceLT, Int.reduceEq, extractV, List.getElem?_cons_zero, List.getElem?_cons_succ, mkAgg, Nat.add_eq_left, Nat.left_eq_add, Nat.one_ne_zero, ble_dec, beq_dec, decide_eq_true_eq, Nat.reduceLeDiff, Nat.le_refl, fillA, pureVs, pureV, beq_int, bne_int, Int.natCast_inj, eq_self, eqV, eqB, decide_true, decide_false, List.length_map, Int.toNat_natCast, List.getElem?_map, Option.map_some, Option.map_none, Int.natCast_nonneg, Option.some.injEq, lenV, binV, intBin, intV, idxA, ne_eq, not_true_eq_false, not_false_eq_true, List.drop, List.take, RetP, retP, resV, resOne, snapV, snapVs, snapR, snapRs, ownSz, pickV, cond_true, cond_false, bTT, bTF, bFT, bFF, Bool.not_true, Bool.not_false, AO.isC, Bool.or_true, Bool.true_or, Bool.or_false, Bool.false_or, WpE_cons, WpE_nil, opE, evE_some, guardE_true, guardE_false, WpD_cons, WpD_nil, opD, evD_some, guardD_true, guardD_false]
  have loop : ∀ (rest : List (List PV)) (i : Nat) (fr : List (Nat × AV)), es.drop i = rest → i ≤ es.length → look fr 8 = .pv (.int .i64 i) → look fr 7 = .pv (.int .i64 es.length) → look fr 0 = .pv (.slice es) → look fr 1 = .pv (.func n [] cs) →
      Wp T false (.loop f287l0) ⟨fr, [], 0⟩
        (blkQ 0 (seqQ T false (.seq (.ops [⟨some 4, .mv (.c (.pv (.int .i64 (-1)))), none, []⟩]) .ret) (RetP [.t 4] (.int .i64 (findFrom P i rest))))) := by
    intro rest
    induction rest with
    | nil =>
      intro i fr hd hi h8 h7 h0 h1
      have hlen : es.length = i := by
        have := congrArg List.length hd
        simp at this
        omega
      rw [Wp_loop, Wp_eq f287l0.eq_1]
      simp only [Wp_seq, Wp_ops, Wp_cond, Wp_skip, Wp_ret, Wp_exit, Wp_block, WpO_cons, WpO_nil, opQ, evOp, evO, evOs, evQ_some, guardV, guardQ_true, guardQ_false, boolQ_true, boolQ_false, argsA, pvs, putS, cellsOf, scals, scal, seqQ_normal, seqQ_ret, seqQ_exit, blkQ_normal, blkQ_ret, blkQ_exit, look_if, blkAt_if, if_true, if_false, Nat.reduceEqDiff, Nat.reduceAdd, true_implies, reduceCtorEq, false_implies, and_true, true_and, List.nil_append, List.cons_append, Bool.and_self, Nat.zero_add, Nat.add_zero, fieldA, nonNil, cellsAt, loadV_one, loadV_pvs, loadV_cons, mkAgg, allPV, List.drop_zero, List.drop_succ_cons, List.take_succ_cons, List.take_zero, List.length_cons, List.length_nil, Nat.beq_eq, storeB, patchL, beq_self_eq_true, ge_iff_le, gt_iff_lt, Int.reduceNeg, Int.reduceLE, Int.reduceLT, Int.reduceEq, extractV, List.getElem?_cons_zero, List.getElem?_cons_succ, mkAgg, Nat.add_eq_left, Nat.left_eq_add, Nat.one_ne_zero, ble_dec, beq_dec, decide_eq_true_eq, Nat.reduceLeDiff, Nat.le_refl, fillA, pureVs, pureV, beq_int, bne_int, Int.natCast_inj, eq_self, eqV, eqB, decide_true, decide_false, List.length_map, Int.toNat_natCast, List.getElem?_map, Option.map_some, Option.map_none, Int.natCast_nonneg, Option.some.injEq, lenV, binV, intBin, intV, idxA, ne_eq, not_true_eq_false, not_false_eq_true, List.drop, List.take, RetP, retP, resV, resOne, snapV, snapVs, snapR, snapRs, ownSz, pickV, cond_true, cond_false, bTT, bTF, bFT, bFF, Bool.not_true, Bool.not_false, AO.isC, Bool.or_true, Bool.true_or, Bool.or_false, Bool.false_or, WpE_cons, WpE_nil, opE, evE_some, guardE_true, guardE_false, WpD_cons, WpD_nil, opD, evD_some, guardD_true, guardD_false, h8, h7, h0, h1, hlen, Int.lt_irrefl, findFrom]
    | cons e r ih =>
      intro i fr hd hi h8 h7 h0 h1
      have hget : es[i]? = some e := by
        have := congrArg (·[0]?) hd
        simpa using this
      have hmem : e ∈ es := List.mem_of_getElem? hget
      have hlt : i < es.length := (List.getElem?_eq_some_iff.1 hget).1
      have hlt' : (i : Int) < (es.length : Int) := by omega
      have hw : IntKind.i64.wrap ((i : Int) + 1) = ((i + 1 : Nat) : Int) := by rw [wrap6] <;> omega
      have hc : pureVs (.pv (.agg e) :: pvs cs) = some (.agg e :: cs) := by
        have : pureVs (pvs (.agg e :: cs)) = some (.agg e :: cs) := pureVs_pvs _
        exact this
      rw [Wp_loop, Wp_eq f287l0.eq_1]
      simp only [Wp_seq, Wp_ops, Wp_cond, Wp_skip, Wp_ret, Wp_exit, Wp_block, WpO_cons, WpO_nil, opQ, evOp, evO, evOs, evQ_some, guardV, guardQ_true, guardQ_false, boolQ_true, boolQ_false, argsA, pvs, putS, cellsOf, scals, scal, seqQ_normal, seqQ_ret, seqQ_exit, blkQ_normal, blkQ_ret, blkQ_exit, look_if, blkAt_if, if_true, if_false, Nat.reduceEqDiff, Nat.reduceAdd, true_implies, reduceCtorEq, false_implies, and_true, true_and, List.nil_append, List.cons_append, Bool.and_self, Nat.zero_add, Nat.add_zero, fieldA, nonNil, cellsAt, loadV_one, loadV_pvs, loadV_cons, mkAgg, allPV, List.drop_zero, List.drop_succ_cons, List.take_succ_cons, List.take_zero, List.length_cons, List.length_nil, Nat.beq_eq, storeB, patchL, beq_self_eq_true, ge_iff_le, gt_iff_lt, Int.reduceNeg, Int.reduceLE, Int.reduceLT, Int.reduceEq, extractV, List.getElem?_cons_zero, List.getElem?_cons_succ, mkAgg, Nat.add_eq_left, Nat.left_eq_add, Nat.one_ne_zero, ble_dec, beq_dec, decide_eq_true_eq, Nat.reduceLeDiff, Nat.le_refl, fillA, pureVs, pureV, beq_int, bne_int, Int.natCast_inj, eq_self, eqV, eqB, decide_true, decide_false, List.length_map, Int.toNat_natCast, List.getElem?_map, Option.map_some, Option.map_none, Int.natCast_nonneg, Option.some.injEq, lenV, binV, intBin, intV, idxA, ne_eq, not_true_eq_false, not_false_eq_true, List.drop, List.take, RetP, retP, resV, resOne, snapV, snapVs, snapR, snapRs, ownSz, pickV, cond_true, cond_false, bTT, bTF, bFT, bFF, Bool.not_true, Bool.not_false, AO.isC, Bool.or_true, Bool.true_or, Bool.or_false, Bool.false_or, WpE_cons, WpE_nil, opE, evE_some, guardE_true, guardE_false, WpD_cons, WpD_nil, opD, evD_some, guardD_true, guardD_false, h8, h7, h0, h1, hlt', hget, hl e hmem, funV, funQ_some, List.append_nil]
      rw [(hP e hmem).call _ _ _ _ _ (by simp only [hc])]
      cases hp : P e
      · simp only [Wp_seq, Wp_ops, Wp_cond, Wp_skip, Wp_ret, Wp_exit, Wp_block, WpO_cons, WpO_nil, opQ, evOp, evO, evOs, evQ_some, guardV, guardQ_true, guardQ_false, boolQ_true, boolQ_false, argsA, pvs, putS, cellsOf, scals, scal, seqQ_normal, seqQ_ret, seqQ_exit, blkQ_normal, blkQ_ret, blkQ_exit, look_if, blkAt_if, if_true, if_false, Nat.reduceEqDiff, Nat.reduceAdd, true_implies, reduceCtorEq, false_implies, and_true, true_and, List.nil_append, List.cons_append, Bool.and_self, Nat.zero_add, Nat.add_zero, fieldA, nonNil, cellsAt, loadV_one, loadV_pvs, loadV_cons, mkAgg, allPV, List.drop_zero, List.drop_succ_cons, List.take_succ_cons, List.take_zero, List.length_cons, List.length_nil, Nat.beq_eq, storeB, patchL, beq_self_eq_true, ge_iff_le, gt_iff_lt, Int.reduceNeg, Int.reduceLE, Int.reduceLT, Int.reduceEq, extractV, List.getElem?_cons_zero, List.getElem?_cons_succ, mkAgg, Nat.add_eq_left, Nat.left_eq_add, Nat.one_ne_zero, ble_dec, beq_dec, decide_eq_true_eq, Nat.reduceLeDiff, Nat.le_refl, fillA, pureVs, pureV, beq_int, bne_int, Int.natCast_inj, eq_self, eqV, eqB, decide_true, decide_false, List.length_map, Int.toNat_natCast, List.getElem?_map, Option.map_some, Option.map_none, Int.natCast_nonneg, Option.some.injEq, lenV, binV, intBin, intV, idxA, ne_eq, not_true_eq_false, not_false_eq_true, List.drop, List.take, RetP, retP, resV, resOne, snapV, snapVs, snapR, snapRs, ownSz, pickV, cond_true, cond_false, bTT, bTF, bFT, bFF, Bool.not_true, Bool.not_false, AO.isC, Bool.or_true, Bool.true_or, Bool.or_false, Bool.false_or, WpE_cons, WpE_nil, opE, evE_some, guardE_true, guardE_false, WpD_cons, WpD_nil, opD, evD_some, guardD_true, guardD_false, h8, h7, h0, h1, hw, findFrom, hp]
        refine ih (i + 1) _ ?_ (by omega) ?_ ?_ ?_ ?_
        · rw [← List.drop_drop, hd]; rfl
        all_goals simp only [look_if, Nat.reduceEqDiff, if_true, if_false, h7, h0, h1]
      · simp only [Wp_seq, Wp_ops, Wp_cond, Wp_skip, Wp_ret, Wp_exit, Wp_block, WpO_cons, WpO_nil, opQ, evOp, evO, evOs, evQ_some, guardV, guardQ_true, guardQ_false, boolQ_true, boolQ_false, argsA, pvs, putS, cellsOf, scals, scal, seqQ_normal, seqQ_ret, seqQ_exit, blkQ_normal, blkQ_ret, blkQ_exit, look_if, blkAt_if, if_true, if_false, Nat.reduceEqDiff, Nat.reduceAdd, true_implies, reduceCtorEq, false_implies, and_true, true_and, List.nil_append, List.cons_append, Bool.and_self, Nat.zero_add, Nat.add_zero, fieldA, nonNil, cellsAt, loadV_one, loadV_pvs, loadV_cons, mkAgg, allPV, List.drop_zero, List.drop_succ_cons, List.take_succ_cons, List.take_zero, List.length_cons, List.length_nil, Nat.beq_eq, storeB, patchL, beq_self_eq_true, ge_iff_le, gt_iff_lt, Int.reduceNeg, Int.reduceLE, Int.reduceLT, Int.reduceEq, extractV, List.getElem?_cons_zero, List.getElem?_cons_succ, mkAgg, Nat.add_eq_left, Nat.left_eq_add, Nat.one_ne_zero, ble_dec, beq_dec, decide_eq_true_eq, Nat.reduceLeDiff, Nat.le_refl, fillA, pureVs, pureV, beq_int, bne_int, Int.natCast_inj, eq_self, eqV, eqB, decide_true, decide_false, List.length_map, Int.toNat_natCast, List.getElem?_map, Option.map_some, Option.map_none, Int.natCast_nonneg, Option.some.injEq, lenV, binV, intBin, intV, idxA, ne_eq, not_true_eq_false, not_false_eq_true, List.drop, List.take, RetP, retP, resV, resOne, snapV, snapVs, snapR, snapRs, ownSz, pickV, cond_true, cond_false, bTT, bTF, bFT, bFF, Bool.not_true, Bool.not_false, AO.isC, Bool.or_true, Bool.true_or, Bool.or_false, Bool.false_or, WpE_cons, WpE_nil, opE, evE_some, guardE_true, guardE_false, WpD_cons, WpD_nil, opD, evD_some, guardD_true, guardD_false, h8, h7, h0, h1, hw, findFrom, hp]
  exact loop es 0 _ rfl (Nat.zero_le _) rfl rfl rfl rfl

theorem place1_ok (h245 : Std T 245 f245) (p : Pod) (id : Int) : Gives T 245 [podP p, .cptr [.int .i64 id] 0] (.bool (decide (p.id = id))) := by
  refine gives h245 rfl ?_
  simp only [f245, Wp_seq, Wp_ops, Wp_cond, Wp_skip, Wp_ret, Wp_exit, Wp_block, WpO_cons, WpO_nil, opQ, evOp, evO, evOs, evQ_some, guardV, guardQ_true, guardQ_false, boolQ_true, boolQ_false, argsA, pvs, putS, cellsOf, scals, scal, seqQ_normal, seqQ_ret, seqQ_exit, blkQ_normal, blkQ_ret, blkQ_exit, look_if, blkAt_if, if_true, if_false, Nat.reduceEqDiff, Nat.reduceAdd, true_implies, reduceCtorEq, false_implies, and_true, true_and, List.nil_append, List.cons_append, Bool.and_self, Nat.zero_add, Nat.add_zero, fieldA, nonNil, cellsAt, loadV_one, loadV_pvs, loadV_cons, mkAgg, allPV, List.drop_zero, List.drop_succ_cons, List.take_succ_cons, List.take_zero, List.length_cons, List.length_nil, Nat.beq_eq, storeB, patchL, beq_self_eq_true, ge_iff_le, gt_iff_lt, Int.reduceNeg, Int.reduceLE, Int.reduceLT, Int.reduceEq, extractV, List.getElem?_cons_zero, List.getElem?_cons_succ, mkAgg, Nat.add_eq_left, Nat.left_eq_add, Nat.one_ne_zero, ble_dec, beq_dec, decide_eq_true_eq, Nat.reduceLeDiff, Nat.le_refl, fillA, pureVs, pureV, beq_int, bne_int, Int.natCast_inj, eq_self, eqV, eqB, decide_true, decide_false, List.length_map, Int.toNat_natCast, List.getElem?_map, Option.map_some, Option.map_none, Int.natCast_nonneg, Option.some.injEq, lenV, binV, intBin, intV, idxA, ne_eq, not_true_eq_false, not_false_eq_true, List.drop, List.take, RetP, retP, resV, resOne, snapV, snapVs, snapR, snapRs, ownSz, pickV, cond_true, cond_false, bTT, bTF, bFT, bFF, Bool.not_true, Bool.not_false, AO.isC, Bool.or_true, Bool.true_or, Bool.or_false, Bool.false_or, WpE_cons, WpE_nil, opE, evE_some, guardE_true, guardE_false, WpD_cons, WpD_nil, opD, evD_some, guardD_true, guardD_false, podP, podC]

theorem findFrom_place (id : Int) : ∀ (l : List Pod) (i : Nat), findFrom (fun e => match e with | .int _ n :: _ => decide (n = id) | _ => false) i (l.map podC) = placeFrom id i l
  | [], i => rfl
  | p :: r, i => by
    simp only [List.map_cons, findFrom, podC, placeFrom, decide_eq_true_eq]
    split
    · rfl
    · exact findFrom_place id r (i + 1)

/-- What the library's IndexFunc needs. -/
structure Std5 (T : Tab) : Prop where
  h287 : Std T 287 f287
  flat287 : T.flat 287 = true
  h245 : Std T 245 f245
  h244 : Std T 244 f244

theorem place5_ok (S : Std5 T) (t : State) (id : Int) (h : t.pods.length ≤ 2 ^ 30) : Gives T 244 [stateP t, .int .i64 id] (.int .i64 (placeFrom id 0 t.pods)) := by
  refine gives S.h244 rfl ?_
  have k := index_ok (n := 245) (cs := [.cptr [.int .i64 id] 0]) (fun e => match e with | .int _ n :: _ => decide (n = id) | _ => false) S.h287 (t.pods.map podC) (by simpa using h) (fun e he => by
    obtain ⟨p, _, rfl⟩ := List.mem_map.1 he
    rfl) (fun e he => by
    obtain ⟨p, _, rfl⟩ := List.mem_map.1 he
    exact place1_ok S.h245 p id)
  rw [findFrom_place] at k
  simp only [f244, Wp_seq, Wp_ops, Wp_cond, Wp_skip, Wp_ret, Wp_exit, Wp_block, WpO_cons, WpO_nil, opQ, evOp, evO, evOs, evQ_some, guardV, guardQ_true, guardQ_false, boolQ_true, boolQ_false, argsA, pvs, putS, cellsOf, scals, scal, seqQ_normal, seqQ_ret, seqQ_exit, blkQ_normal, blkQ_ret, blkQ_exit, look_if, blkAt_if, if_true, if_false, Nat.reduceEqDiff, Nat.reduceAdd, true_implies, reduceCtorEq, false_implies, and_true, true_and, List.nil_append, List.cons_append, Bool.and_self, Nat.zero_add, Nat.add_zero, fieldA, nonNil, cellsAt, loadV_one, loadV_pvs, loadV_cons, mkAgg, allPV, List.drop_zero, List.drop_succ_cons, List.take_succ_cons, List.take_zero, List.length_cons, List.length_nil, Nat.beq_eq, storeB, patchL, beq_self_eq_true, ge_iff_le, gt_iff_lt, Int.reduceNeg, Int.reduceLE, Int.reduceLT, Int.reduceEq, extractV, List.getElem?_cons_zero, List.getElem?_cons_succ, mkAgg, Nat.add_eq_left, Nat.left_eq_add, Nat.one_ne_zero, ble_dec, beq_dec, decide_eq_true_eq, Nat.reduceLeDiff, Nat.le_refl, fillA, pureVs, pureV, beq_int, bne_int, Int.natCast_inj, eq_self, eqV, eqB, decide_true, decide_false, List.length_map, Int.toNat_natCast, List.getElem?_map, Option.map_some, Option.map_none, Int.natCast_nonneg, Option.some.injEq, lenV, binV, intBin, intV, idxA, ne_eq, not_true_eq_false, not_false_eq_true, List.drop, List.take, RetP, retP, resV, resOne, snapV, snapVs, snapR, snapRs, ownSz, pickV, cond_true, cond_false, bTT, bTF, bFT, bFF, Bool.not_true, Bool.not_false, AO.isC, Bool.or_true, Bool.true_or, Bool.or_false, Bool.false_or, WpE_cons, WpE_nil, opE, evE_some, guardE_true, guardE_false, WpD_cons, WpD_nil, opD, evD_some, guardD_true, guardD_false, stateP]
  rw [k.callF S.flat287 rfl _ _ _ _ _ (eq_true rfl) (eq_true rfl)]
  simp only [Wp_seq, Wp_ops, Wp_cond, Wp_skip, Wp_ret, Wp_exit, Wp_block, WpO_cons, WpO_nil, opQ, evOp, evO, evOs, evQ_some, guardV, guardQ_true, guardQ_false, boolQ_true, boolQ_false, argsA, pvs, putS, cellsOf, scals, scal, seqQ_normal, seqQ_ret, seqQ_exit, blkQ_normal, blkQ_ret, blkQ_exit, look_if, blkAt_if, if_true, if_false, Nat.reduceEqDiff, Nat.reduceAdd, true_implies, reduceCtorEq, false_implies, and_true, true_and, List.nil_append, List.cons_append, Bool.and_self, Nat.zero_add, Nat.add_zero, fieldA, nonNil, cellsAt, loadV_one, loadV_pvs, loadV_cons, mkAgg, allPV, List.drop_zero, List.drop_succ_cons, List.take_succ_cons, List.take_zero, List.length_cons, List.length_nil, Nat.beq_eq, storeB, patchL, beq_self_eq_true, ge_iff_le, gt_iff_lt, Int.reduceNeg, Int.reduceLE, Int.reduceLT, Int.reduceEq, extractV, List.getElem?_cons_zero, List.getElem?_cons_succ, mkAgg, Nat.add_eq_left, Nat.left_eq_add, Nat.one_ne_zero, ble_dec, beq_dec, decide_eq_true_eq, Nat.reduceLeDiff, Nat.le_refl, fillA, pureVs, pureV, beq_int, bne_int, Int.natCast_inj, eq_self, eqV, eqB, decide_true, decide_false, List.length_map, Int.toNat_natCast, List.getElem?_map, Option.map_some, Option.map_none, Int.natCast_nonneg, Option.some.injEq, lenV, binV, intBin, intV, idxA, ne_eq, not_true_eq_false, not_false_eq_true, List.drop, List.take, RetP, retP, resV, resOne, snapV, snapVs, snapR, snapRs, ownSz, pickV, cond_true, cond_false, bTT, bTF, bFT, bFF, Bool.not_true, Bool.not_false, AO.isC, Bool.or_true, Bool.true_or, Bool.or_false, Bool.false_or, WpE_cons, WpE_nil, opE, evE_some, guardE_true, guardE_false, WpD_cons, WpD_nil, opD, evD_some, guardD_true, guardD_false]

def podOf (id : Int) (l : List Pod) : Option Pod := l.find? (fun p => decide (p.id = id))
theorem placeFrom_cases (id : Int) : ∀ (l : List Pod) (i : Nat), (podOf id l = none ∧ placeFrom id i l = -1) ∨ ∃ j p, l[j]? = some p ∧ podOf id l = some p ∧ placeFrom id i l = ((i + j : Nat) : Int) ∧ j < l.length
  | [], i => .inl ⟨rfl, rfl⟩
  | q :: r, i => by
    by_cases h : q.id = id
    · refine .inr ⟨0, q, rfl, by simp [podOf, h], by simp [placeFrom, h], by simp⟩
    · rcases placeFrom_cases id r (i + 1) with ⟨h1, h2⟩ | ⟨j, p, h1, h2, h3, h4⟩
      · refine .inl ⟨?_, ?_⟩
        · simp only [podOf] at h1 ⊢; simp [h, h1]
        · simp only [placeFrom, h, if_false, h2]
      · refine .inr ⟨j + 1, p, by simpa using h1, ?_, ?_, by simp only [List.length_cons]; omega⟩
        · simp only [podOf] at h2 ⊢; simp [h, h2]
        · simp only [placeFrom, h, if_false, h3]; omega

def pod0 : Pod := ⟨0, 0, 0, ⟨0, 0, 0, 0⟩, 0⟩
def podR (o : Option Pod) : PV := match o with
  | some p => .tuple [podP p, .bool true]
  | none => .tuple [podP pod0, .bool false]

theorem pod5_ok (S : Std5 T) (h240 : Std T 240 f240) (t : State) (id : Int) (h : t.pods.length ≤ 2 ^ 30) : Gives T 240 [stateP t, .int .i64 id] (podR (podOf id t.pods)) := by
  refine gives h240 rfl ?_
  have k := place5_ok S t id h
  rcases placeFrom_cases id t.pods 0 with ⟨h1, h2⟩ | ⟨j, p, h1, h2, h3, h4⟩
  · rw [h2] at k
    simp only [f240, Wp_seq, Wp_ops, Wp_cond, Wp_skip, Wp_ret, Wp_exit, Wp_block, WpO_cons, WpO_nil, opQ, evOp, evO, evOs, evQ_some, guardV, guardQ_true, guardQ_false, boolQ_true, boolQ_false, argsA, pvs, putS, cellsOf, scals, scal, seqQ_normal, seqQ_ret, seqQ_exit, blkQ_normal, blkQ_ret, blkQ_exit, look_if, blkAt_if, if_true, if_false, Nat.reduceEqDiff, Nat.reduceAdd, true_implies, reduceCtorEq, false_implies, and_true, true_and, List.nil_append, List.cons_append, Bool.and_self, Nat.zero_add, Nat.add_zero, fieldA, nonNil, cellsAt, loadV_one, loadV_pvs, loadV_cons, mkAgg, allPV, List.drop_zero, List.drop_succ_cons, List.take_succ_cons, List.take_zero, List.length_cons, List.length_nil, Nat.beq_eq, storeB, patchL, beq_self_eq_true, ge_iff_le, gt_iff_lt, Int.reduceNeg, Int.reduceLE, Int.reduceLT, Int.reduceEq, extractV, List.getElem?_cons_zero, List.getElem?_cons_succ, mkAgg, Nat.add_eq_left, Nat.left_eq_add, Nat.one_ne_zero, ble_dec, beq_dec, decide_eq_true_eq, Nat.reduceLeDiff, Nat.le_refl, fillA, pureVs, pureV, beq_int, bne_int, Int.natCast_inj, eq_self, eqV, eqB, decide_true, decide_false, List.length_map, Int.toNat_natCast, List.getElem?_map, Option.map_some, Option.map_none, Int.natCast_nonneg, Option.some.injEq, lenV, binV, intBin, intV, idxA, ne_eq, not_true_eq_false, not_false_eq_true, List.drop, List.take, RetP, retP, resV, resOne, snapV, snapVs, snapR, snapRs, ownSz, pickV, cond_true, cond_false, bTT, bTF, bFT, bFF, Bool.not_true, Bool.not_false, AO.isC, Bool.or_true, Bool.true_or, Bool.or_false, Bool.false_or, WpE_cons, WpE_nil, opE, evE_some, guardE_true, guardE_false, WpD_cons, WpD_nil, opD, evD_some, guardD_true, guardD_false, stateP, k.call, h1, podR, podP, pod0, podC, Int.reduceNeg, Int.reduceLT, fillA]
  · rw [h3] at k
    have hj : ¬ ((j : Int) < 0) := by omega
    simp only [f240, Wp_seq, Wp_ops, Wp_cond, Wp_skip, Wp_ret, Wp_exit, Wp_block, WpO_cons, WpO_nil, opQ, evOp, evO, evOs, evQ_some, guardV, guardQ_true, guardQ_false, boolQ_true, boolQ_false, argsA, pvs, putS, cellsOf, scals, scal, seqQ_normal, seqQ_ret, seqQ_exit, blkQ_normal, blkQ_ret, blkQ_exit, look_if, blkAt_if, if_true, if_false, Nat.reduceEqDiff, Nat.reduceAdd, true_implies, reduceCtorEq, false_implies, and_true, true_and, List.nil_append, List.cons_append, Bool.and_self, Nat.zero_add, Nat.add_zero, fieldA, nonNil, cellsAt, loadV_one, loadV_pvs, loadV_cons, mkAgg, allPV, List.drop_zero, List.drop_succ_cons, List.take_succ_cons, List.take_zero, List.length_cons, List.length_nil, Nat.beq_eq, storeB, patchL, beq_self_eq_true, ge_iff_le, gt_iff_lt, Int.reduceNeg, Int.reduceLE, Int.reduceLT, Int.reduceEq, extractV, List.getElem?_cons_zero, List.getElem?_cons_succ, mkAgg, Nat.add_eq_left, Nat.left_eq_add, Nat.one_ne_zero, ble_dec, beq_dec, decide_eq_true_eq, Nat.reduceLeDiff, Nat.le_refl, fillA, pureVs, pureV, beq_int, bne_int, Int.natCast_inj, eq_self, eqV, eqB, decide_true, decide_false, List.length_map, Int.toNat_natCast, List.getElem?_map, Option.map_some, Option.map_none, Int.natCast_nonneg, Option.some.injEq, lenV, binV, intBin, intV, idxA, ne_eq, not_true_eq_false, not_false_eq_true, List.drop, List.take, RetP, retP, resV, resOne, snapV, snapVs, snapR, snapRs, ownSz, pickV, cond_true, cond_false, bTT, bTF, bFT, bFF, Bool.not_true, Bool.not_false, AO.isC, Bool.or_true, Bool.true_or, Bool.or_false, Bool.false_or, WpE_cons, WpE_nil, opE, evE_some, guardE_true, guardE_false, WpD_cons, WpD_nil, opD, evD_some, guardD_true, guardD_false, stateP, k.call, h2, podR, podP, podC, hj, h1]

/-- slices.Equal of pods. -/
theorem equal5_ok (h286 : Std T 286 f286) (a b : List Pod) (ha : a.length ≤ 2 ^ 30) : Gives T 286 [.slice (a.map podC), .slice (b.map podC)] (.bool (decide (a = b))) := by
  refine gives h286 rfl ?_
  have loop : ∀ (ra rb : List Pod) (i : Nat), a.length = b.length → a.drop i = ra → b.drop i = rb → i ≤ a.length → ∀ (fr : List (Nat × AV)), look fr 13 = .pv (.int .i64 i) → look fr 12 = .pv (.int .i64 a.length) → look fr 0 = .pv (.slice (a.map podC)) → look fr 1 = .pv (.slice (b.map podC)) →
      Wp T false (.loop f286l0) ⟨fr, [], 0⟩ (blkQ 0 (seqQ T false (.seq (.ops [⟨some 4, .mv (.c (.pv (.bool true))), none, []⟩]) .ret) (RetP [.t 4] (.bool (decide (ra = rb)))))) := by
    intro ra
    induction ra with
    | nil =>
      intro rb i hl hda hdb hi fr h5 h2 h0 h1
      have hlen : a.length = i := by
        have := congrArg List.length hda
        simp at this
        omega
      have : rb = [] := by
        rw [← hdb]
        exact List.drop_eq_nil_of_le (by omega)
      subst this
      rw [Wp_loop, Wp_eq f286l0.eq_1]
      simp only [Wp_seq, Wp_ops, Wp_cond, Wp_skip, Wp_ret, Wp_exit, Wp_block, WpO_cons, WpO_nil, opQ, evOp, evO, evOs, evQ_some, guardV, guardQ_true, guardQ_false, boolQ_true, boolQ_false, argsA, pvs, putS, cellsOf, scals, scal, seqQ_normal, seqQ_ret, seqQ_exit, blkQ_normal, blkQ_ret, blkQ_exit, look_if, blkAt_if, if_true, if_false, Nat.reduceEqDiff, Nat.reduceAdd, true_implies, reduceCtorEq, false_implies, and_true, true_and, List.nil_append, List.cons_append, Bool.and_self, Nat.zero_add, Nat.add_zero, fieldA, nonNil, cellsAt, loadV_one, loadV_pvs, loadV_cons, mkAgg, allPV, List.drop_zero, List.drop_succ_cons, List.take_succ_cons, List.take_zero, List.length_cons, List.length_nil, Nat.beq_eq, storeB, patchL, beq_self_eq_true, ge_iff_le, gt_iff_lt, Int.reduceNeg, Int.reduceLE, Int.reduceLT, Int.reduceEq, extractV, List.getElem?_cons_zero, List.getElem?_cons_succ, mkAgg, Nat.add_eq_left, Nat.left_eq_add, Nat.one_ne_zero, ble_dec, beq_dec, decide_eq_true_eq, Nat.reduceLeDiff, Nat.le_refl, fillA, pureVs, pureV, beq_int, bne_int, Int.natCast_inj, eq_self, eqV, eqB, decide_true, decide_false, List.length_map, Int.toNat_natCast, List.getElem?_map, Option.map_some, Option.map_none, Int.natCast_nonneg, Option.some.injEq, lenV, binV, intBin, intV, idxA, ne_eq, not_true_eq_false, not_false_eq_true, List.drop, List.take, RetP, retP, resV, resOne, snapV, snapVs, snapR, snapRs, ownSz, pickV, cond_true, cond_false, bTT, bTF, bFT, bFF, Bool.not_true, Bool.not_false, AO.isC, Bool.or_true, Bool.true_or, Bool.or_false, Bool.false_or, WpE_cons, WpE_nil, opE, evE_some, guardE_true, guardE_false, WpD_cons, WpD_nil, opD, evD_some, guardD_true, guardD_false, h5, h2, h0, h1, hlen, Int.lt_irrefl]
    | cons p r ih =>
      intro rb i hl hda hdb hi fr h5 h2 h0 h1
      have hga : a[i]? = some p := by
        have := congrArg (·[0]?) hda
        simpa using this
      have hlt : i < a.length := (List.getElem?_eq_some_iff.1 hga).1
      have hlt' : (i : Int) < (a.length : Int) := by omega
      cases rb with
      | nil =>
        have := congrArg List.length hdb
        simp at this
        omega
      | cons q rb =>
        have hgb : b[i]? = some q := by
          have := congrArg (·[0]?) hdb
          simpa using this
        rw [Wp_loop, Wp_eq f286l0.eq_1]
        simp only [Wp_seq, Wp_ops, Wp_cond, Wp_skip, Wp_ret, Wp_exit, Wp_block, WpO_cons, WpO_nil, opQ, evOp, evO, evOs, evQ_some, guardV, guardQ_true, guardQ_false, boolQ_true, boolQ_false, argsA, pvs, putS, cellsOf, scals, scal, seqQ_normal, seqQ_ret, seqQ_exit, blkQ_normal, blkQ_ret, blkQ_exit, look_if, blkAt_if, if_true, if_false, Nat.reduceEqDiff, Nat.reduceAdd, true_implies, reduceCtorEq, false_implies, and_true, true_and, List.nil_append, List.cons_append, Bool.and_self, Nat.zero_add, Nat.add_zero, fieldA, nonNil, cellsAt, loadV_one, loadV_pvs, loadV_cons, mkAgg, allPV, List.drop_zero, List.drop_succ_cons, List.take_succ_cons, List.take_zero, List.length_cons, List.length_nil, Nat.beq_eq, storeB, patchL, beq_self_eq_true, ge_iff_le, gt_iff_lt, Int.reduceNeg, Int.reduceLE, Int.reduceLT, Int.reduceEq, extractV, List.getElem?_cons_zero, List.getElem?_cons_succ, mkAgg, Nat.add_eq_left, Nat.left_eq_add, Nat.one_ne_zero, ble_dec, beq_dec, decide_eq_true_eq, Nat.reduceLeDiff, Nat.le_refl, fillA, pureVs, pureV, beq_int, bne_int, Int.natCast_inj, eq_self, eqV, eqB, decide_true, decide_false, List.length_map, Int.toNat_natCast, List.getElem?_map, Option.map_some, Option.map_none, Int.natCast_nonneg, Option.some.injEq, lenV, binV, intBin, intV, idxA, ne_eq, not_true_eq_false, not_false_eq_true, List.drop, List.take, RetP, retP, resV, resOne, snapV, snapVs, snapR, snapRs, ownSz, pickV, cond_true, cond_false, bTT, bTF, bFT, bFF, Bool.not_true, Bool.not_false, AO.isC, Bool.or_true, Bool.true_or, Bool.or_false, Bool.false_or, WpE_cons, WpE_nil, opE, evE_some, guardE_true, guardE_false, WpD_cons, WpD_nil, opD, evD_some, guardD_true, guardD_false, h5, h2, h0, h1, hlt']
        refine (Wp_calm rfl).2 ?_
        have hw : IntKind.i64.wrap ((i : Int) + 1) = ((i + 1 : Nat) : Int) := by rw [wrap6] <;> omega
        by_cases hpq : p = q
        · subst hpq
          simp only [Wp_seq, Wp_ops, Wp_cond, Wp_skip, Wp_ret, Wp_exit, Wp_block, WpO_cons, WpO_nil, opQ, evOp, evO, evOs, evQ_some, guardV, guardQ_true, guardQ_false, boolQ_true, boolQ_false, argsA, pvs, putS, cellsOf, scals, scal, seqQ_normal, seqQ_ret, seqQ_exit, blkQ_normal, blkQ_ret, blkQ_exit, look_if, blkAt_if, if_true, if_false, Nat.reduceEqDiff, Nat.reduceAdd, true_implies, reduceCtorEq, false_implies, and_true, true_and, List.nil_append, List.cons_append, Bool.and_self, Nat.zero_add, Nat.add_zero, fieldA, nonNil, cellsAt, loadV_one, loadV_pvs, loadV_cons, mkAgg, allPV, List.drop_zero, List.drop_succ_cons, List.take_succ_cons, List.take_zero, List.length_cons, List.length_nil, Nat.beq_eq, storeB, patchL, beq_self_eq_true, ge_iff_le, gt_iff_lt, Int.reduceNeg, Int.reduceLE, Int.reduceLT, Int.reduceEq, extractV, List.getElem?_cons_zero, List.getElem?_cons_succ, mkAgg, Nat.add_eq_left, Nat.left_eq_add, Nat.one_ne_zero, ble_dec, beq_dec, decide_eq_true_eq, Nat.reduceLeDiff, Nat.le_refl, fillA, pureVs, pureV, beq_int, bne_int, Int.natCast_inj, eq_self, eqV, eqB, decide_true, decide_false, List.length_map, Int.toNat_natCast, List.getElem?_map, Option.map_some, Option.map_none, Int.natCast_nonneg, Option.some.injEq, lenV, binV, intBin, intV, idxA, ne_eq, not_true_eq_false, not_false_eq_true, List.drop, List.take, RetP, retP, resV, resOne, snapV, snapVs, snapR, snapRs, ownSz, pickV, cond_true, cond_false, bTT, bTF, bFT, bFF, Bool.not_true, Bool.not_false, AO.isC, Bool.or_true, Bool.true_or, Bool.or_false, Bool.false_or, WpE_cons, WpE_nil, opE, evE_some, guardE_true, guardE_false, WpD_cons, WpD_nil, opD, evD_some, guardD_true, guardD_false, h5, h2, h0, h1, hga, hgb, podC_length, eqPods, hw, List.cons.injEq]
          refine ih rb (i + 1) hl ?_ ?_ (by omega) _ ?_ ?_ ?_ ?_
          · rw [← List.drop_drop, hda]; rfl
          · rw [← List.drop_drop, hdb]; rfl
          all_goals simp only [look_if, Nat.reduceEqDiff, if_true, if_false, h2, h0, h1]
        · simp only [Wp_seq, Wp_ops, Wp_cond, Wp_skip, Wp_ret, Wp_exit, Wp_block, WpO_cons, WpO_nil, opQ, evOp, evO, evOs, evQ_some, guardV, guardQ_true, guardQ_false, boolQ_true, boolQ_false, argsA, pvs, putS, cellsOf, scals, scal, seqQ_normal, seqQ_ret, seqQ_exit, blkQ_normal, blkQ_ret, blkQ_exit, look_if, blkAt_if, if_true, if_false, Nat.reduceEqDiff, Nat.reduceAdd, true_implies, reduceCtorEq, false_implies, and_true, true_and, List.nil_append, List.cons_append, Bool.and_self, Nat.zero_add, Nat.add_zero, fieldA, nonNil, cellsAt, loadV_one, loadV_pvs, loadV_cons, mkAgg, allPV, List.drop_zero, List.drop_succ_cons, List.take_succ_cons, List.take_zero, List.length_cons, List.length_nil, Nat.beq_eq, storeB, patchL, beq_self_eq_true, ge_iff_le, gt_iff_lt, Int.reduceNeg, Int.reduceLE, Int.reduceLT, Int.reduceEq, extractV, List.getElem?_cons_zero, List.getElem?_cons_succ, mkAgg, Nat.add_eq_left, Nat.left_eq_add, Nat.one_ne_zero, ble_dec, beq_dec, decide_eq_true_eq, Nat.reduceLeDiff, Nat.le_refl, fillA, pureVs, pureV, beq_int, bne_int, Int.natCast_inj, eq_self, eqV, eqB, decide_true, decide_false, List.length_map, Int.toNat_natCast, List.getElem?_map, Option.map_some, Option.map_none, Int.natCast_nonneg, Option.some.injEq, lenV, binV, intBin, intV, idxA, ne_eq, not_true_eq_false, not_false_eq_true, List.drop, List.take, RetP, retP, resV, resOne, snapV, snapVs, snapR, snapRs, ownSz, pickV, cond_true, cond_false, bTT, bTF, bFT, bFF, Bool.not_true, Bool.not_false, AO.isC, Bool.or_true, Bool.true_or, Bool.or_false, Bool.false_or, WpE_cons, WpE_nil, opE, evE_some, guardE_true, guardE_false, WpD_cons, WpD_nil, opD, evD_some, guardD_true, guardD_false, h5, h2, h0, h1, hga, hgb, podC_length, eqPods, hpq, hw, List.cons.injEq, false_and]
  simp only [f286, Wp_seq, Wp_ops, Wp_cond, Wp_skip, Wp_ret, Wp_exit, Wp_block, WpO_cons, WpO_nil, opQ, evOp, evO, evOs, evQ_some, guardV, guardQ_true, guardQ_false, boolQ_true, boolQ_false, argsA, pvs, putS, cellsOf, scals, scal, seqQ_normal, seqQ_ret, seqQ_exit, blkQ_normal, blkQ_ret, blkQ_exit, look_if, blkAt_if, if_true, if_false, Nat.reduceEqDiff, Nat.reduceAdd, true_implies, reduceCtorEq, false_implies, and_true, true_and, List.nil_append, List.cons_append, Bool.and_self, Nat.zero_add, Nat.add_zero, fieldA, nonNil, cellsAt, loadV_one, loadV_pvs, loadV_cons, mkAgg, allPV, List.drop_zero, List.drop_succ_cons, List.take_succ_cons, List.take_zero, List.length_cons, List.length_nil, Nat.beq_eq, storeB, patchL, beq_self_eq_true, ge_iff_le, gt_iff_lt, Int.reduceNeg, Int.reduceLE, Int.reduceLT, Int.reduceEq, extractV, List.getElem?_cons_zero, List.getElem?_cons_succ, mkAgg, Nat.add_eq_left, Nat.left_eq_add, Nat.one_ne_zero, ble_dec, beq_dec, decide_eq_true_eq, Nat.reduceLeDiff, Nat.le_refl, fillA, pureVs, pureV, beq_int, bne_int, Int.natCast_inj, eq_self, eqV, eqB, decide_true, decide_false, List.length_map, Int.toNat_natCast, List.getElem?_map, Option.map_some, Option.map_none, Int.natCast_nonneg, Option.some.injEq, lenV, binV, intBin, intV, idxA, ne_eq, not_true_eq_false, not_false_eq_true, List.drop, List.take, RetP, retP, resV, resOne, snapV, snapVs, snapR, snapRs, ownSz, pickV, cond_true, cond_false, bTT, bTF, bFT, bFF, Bool.not_true, Bool.not_false, AO.isC, Bool.or_true, Bool.true_or, Bool.or_false, Bool.false_or, WpE_cons, WpE_nil, opE, evE_some, guardE_true, guardE_false, WpD_cons, WpD_nil, opD, evD_some, guardD_true, guardD_false]
  by_cases hl : a.length = b.length
  · simp only [Wp_seq, Wp_ops, Wp_cond, Wp_skip, Wp_ret, Wp_exit, Wp_block, WpO_cons, WpO_nil, opQ, evOp, evO, evOs, evQ_some, guardV, guardQ_true, guardQ_false, boolQ_true, boolQ_false, argsA, pvs, putS, cellsOf, scals, scal, seqQ_normal, seqQ_ret, seqQ_exit, blkQ_normal, blkQ_ret, blkQ_exit, look_if, blkAt_if, if_true, if_false, Nat.reduceEqDiff, Nat.reduceAdd, true_implies, reduceCtorEq, false_implies, and_true, true_and, List.nil_append, List.cons_append, Bool.and_self, Nat.zero_add, Nat.add_zero, fieldA, nonNil, cellsAt, loadV_one, loadV_pvs, loadV_cons, mkAgg, allPV, List.drop_zero, List.drop_succ_cons, List.take_succ_cons, List.take_zero, List.length_cons, List.length_nil, Nat.beq_eq, storeB, patchL, beq_self_eq_true, ge_iff_le, gt_iff_lt, Int.reduceNeg, Int.reduceLE, Int.reduceLT, Int.reduceEq, extractV, List.getElem?_cons_zero, List.getElem?_cons_succ, mkAgg, Nat.add_eq_left, Nat.left_eq_add, Nat.one_ne_zero, ble_dec, beq_dec, decide_eq_true_eq, Nat.reduceLeDiff, Nat.le_refl, fillA, pureVs, pureV, beq_int, bne_int, Int.natCast_inj, eq_self, eqV, eqB, decide_true, decide_false, List.length_map, Int.toNat_natCast, List.getElem?_map, Option.map_some, Option.map_none, Int.natCast_nonneg, Option.some.injEq, lenV, binV, intBin, intV, idxA, ne_eq, not_true_eq_false, not_false_eq_true, List.drop, List.take, RetP, retP, resV, resOne, snapV, snapVs, snapR, snapRs, ownSz, pickV, cond_true, cond_false, bTT, bTF, bFT, bFF, Bool.not_true, Bool.not_false, AO.isC, Bool.or_true, Bool.true_or, Bool.or_false, Bool.false_or, WpE_cons, WpE_nil, opE, evE_some, guardE_true, guardE_false, WpD_cons, WpD_nil, opD, evD_some, guardD_true, guardD_false, hl]
    have := loop a b 0 hl rfl rfl (Nat.zero_le _)
    rw [hl] at this
    exact this _ rfl rfl rfl rfl
  · have hl' : ¬ a = b := fun h => hl (by rw [h])
    simp only [Wp_seq, Wp_ops, Wp_cond, Wp_skip, Wp_ret, Wp_exit, Wp_block, WpO_cons, WpO_nil, opQ, evOp, evO, evOs, evQ_some, guardV, guardQ_true, guardQ_false, boolQ_true, boolQ_false, argsA, pvs, putS, cellsOf, scals, scal, seqQ_normal, seqQ_ret, seqQ_exit, blkQ_normal, blkQ_ret, blkQ_exit, look_if, blkAt_if, if_true, if_false, Nat.reduceEqDiff, Nat.reduceAdd, true_implies, reduceCtorEq, false_implies, and_true, true_and, List.nil_append, List.cons_append, Bool.and_self, Nat.zero_add, Nat.add_zero, fieldA, nonNil, cellsAt, loadV_one, loadV_pvs, loadV_cons, mkAgg, allPV, List.drop_zero, List.drop_succ_cons, List.take_succ_cons, List.take_zero, List.length_cons, List.length_nil, Nat.beq_eq, storeB, patchL, beq_self_eq_true, ge_iff_le, gt_iff_lt, Int.reduceNeg, Int.reduceLE, Int.reduceLT, Int.reduceEq, extractV, List.getElem?_cons_zero, List.getElem?_cons_succ, mkAgg, Nat.add_eq_left, Nat.left_eq_add, Nat.one_ne_zero, ble_dec, beq_dec, decide_eq_true_eq, Nat.reduceLeDiff, Nat.le_refl, fillA, pureVs, pureV, beq_int, bne_int, Int.natCast_inj, eq_self, eqV, eqB, decide_true, decide_false, List.length_map, Int.toNat_natCast, List.getElem?_map, Option.map_some, Option.map_none, Int.natCast_nonneg, Option.some.injEq, lenV, binV, intBin, intV, idxA, ne_eq, not_true_eq_false, not_false_eq_true, List.drop, List.take, RetP, retP, resV, resOne, snapV, snapVs, snapR, snapRs, ownSz, pickV, cond_true, cond_false, bTT, bTF, bFT, bFF, Bool.not_true, Bool.not_false, AO.isC, Bool.or_true, Bool.true_or, Bool.or_false, Bool.false_or, WpE_cons, WpE_nil, opE, evE_some, guardE_true, guardE_false, WpD_cons, WpD_nil, opD, evD_some, guardD_true, guardD_false, hl, hl']

theorem same5b_ok (h241 : Std T 241 f241) (h286 : Std T 286 f286) (a b : State) (ha : a.pods.length ≤ 2 ^ 30) : Gives T 241 [stateP a, stateP b] (.bool (decide (a = b))) := by
  refine gives h241 rfl ?_
  have hab : a = b ↔ a.pre = b.pre ∧ a.shi = b.shi ∧ a.pods = b.pods := by cases a; cases b; simp; grind
  simp only [f241, Wp_seq, Wp_ops, Wp_cond, Wp_skip, Wp_ret, Wp_exit, Wp_block, WpO_cons, WpO_nil, opQ, evOp, evO, evOs, evQ_some, guardV, guardQ_true, guardQ_false, boolQ_true, boolQ_false, argsA, pvs, putS, cellsOf, scals, scal, seqQ_normal, seqQ_ret, seqQ_exit, blkQ_normal, blkQ_ret, blkQ_exit, look_if, blkAt_if, if_true, if_false, Nat.reduceEqDiff, Nat.reduceAdd, true_implies, reduceCtorEq, false_implies, and_true, true_and, List.nil_append, List.cons_append, Bool.and_self, Nat.zero_add, Nat.add_zero, fieldA, nonNil, cellsAt, loadV_one, loadV_pvs, loadV_cons, mkAgg, allPV, List.drop_zero, List.drop_succ_cons, List.take_succ_cons, List.take_zero, List.length_cons, List.length_nil, Nat.beq_eq, storeB, patchL, beq_self_eq_true, ge_iff_le, gt_iff_lt, Int.reduceNeg, Int.reduceLE, Int.reduceLT, Int.reduceEq, extractV, List.getElem?_cons_zero, List.getElem?_cons_succ, mkAgg, Nat.add_eq_left, Nat.left_eq_add, Nat.one_ne_zero, ble_dec, beq_dec, decide_eq_true_eq, Nat.reduceLeDiff, Nat.le_refl, fillA, pureVs, pureV, beq_int, bne_int, Int.natCast_inj, eq_self, eqV, eqB, decide_true, decide_false, List.length_map, Int.toNat_natCast, List.getElem?_map, Option.map_some, Option.map_none, Int.natCast_nonneg, Option.some.injEq, lenV, binV, intBin, intV, idxA, ne_eq, not_true_eq_false, not_false_eq_true, List.drop, List.take, RetP, retP, resV, resOne, snapV, snapVs, snapR, snapRs, ownSz, pickV, cond_true, cond_false, bTT, bTF, bFT, bFF, Bool.not_true, Bool.not_false, AO.isC, Bool.or_true, Bool.true_or, Bool.or_false, Bool.false_or, WpE_cons, WpE_nil, opE, evE_some, guardE_true, guardE_false, WpD_cons, WpD_nil, opD, evD_some, guardD_true, guardD_false, stateP]
  by_cases hp : a.pre = b.pre
  · by_cases hs : a.shi = b.shi
    · simp only [Wp_seq, Wp_ops, Wp_cond, Wp_skip, Wp_ret, Wp_exit, Wp_block, WpO_cons, WpO_nil, opQ, evOp, evO, evOs, evQ_some, guardV, guardQ_true, guardQ_false, boolQ_true, boolQ_false, argsA, pvs, putS, cellsOf, scals, scal, seqQ_normal, seqQ_ret, seqQ_exit, blkQ_normal, blkQ_ret, blkQ_exit, look_if, blkAt_if, if_true, if_false, Nat.reduceEqDiff, Nat.reduceAdd, true_implies, reduceCtorEq, false_implies, and_true, true_and, List.nil_append, List.cons_append, Bool.and_self, Nat.zero_add, Nat.add_zero, fieldA, nonNil, cellsAt, loadV_one, loadV_pvs, loadV_cons, mkAgg, allPV, List.drop_zero, List.drop_succ_cons, List.take_succ_cons, List.take_zero, List.length_cons, List.length_nil, Nat.beq_eq, storeB, patchL, beq_self_eq_true, ge_iff_le, gt_iff_lt, Int.reduceNeg, Int.reduceLE, Int.reduceLT, Int.reduceEq, extractV, List.getElem?_cons_zero, List.getElem?_cons_succ, mkAgg, Nat.add_eq_left, Nat.left_eq_add, Nat.one_ne_zero, ble_dec, beq_dec, decide_eq_true_eq, Nat.reduceLeDiff, Nat.le_refl, fillA, pureVs, pureV, beq_int, bne_int, Int.natCast_inj, eq_self, eqV, eqB, decide_true, decide_false, List.length_map, Int.toNat_natCast, List.getElem?_map, Option.map_some, Option.map_none, Int.natCast_nonneg, Option.some.injEq, lenV, binV, intBin, intV, idxA, ne_eq, not_true_eq_false, not_false_eq_true, List.drop, List.take, RetP, retP, resV, resOne, snapV, snapVs, snapR, snapRs, ownSz, pickV, cond_true, cond_false, bTT, bTF, bFT, bFF, Bool.not_true, Bool.not_false, AO.isC, Bool.or_true, Bool.true_or, Bool.or_false, Bool.false_or, WpE_cons, WpE_nil, opE, evE_some, guardE_true, guardE_false, WpD_cons, WpD_nil, opD, evD_some, guardD_true, guardD_false, hp, hs, hab, (equal5_ok h286 a.pods b.pods ha).call]
    · simp only [Wp_seq, Wp_ops, Wp_cond, Wp_skip, Wp_ret, Wp_exit, Wp_block, WpO_cons, WpO_nil, opQ, evOp, evO, evOs, evQ_some, guardV, guardQ_true, guardQ_false, boolQ_true, boolQ_false, argsA, pvs, putS, cellsOf, scals, scal, seqQ_normal, seqQ_ret, seqQ_exit, blkQ_normal, blkQ_ret, blkQ_exit, look_if, blkAt_if, if_true, if_false, Nat.reduceEqDiff, Nat.reduceAdd, true_implies, reduceCtorEq, false_implies, and_true, true_and, List.nil_append, List.cons_append, Bool.and_self, Nat.zero_add, Nat.add_zero, fieldA, nonNil, cellsAt, loadV_one, loadV_pvs, loadV_cons, mkAgg, allPV, List.drop_zero, List.drop_succ_cons, List.take_succ_cons, List.take_zero, List.length_cons, List.length_nil, Nat.beq_eq, storeB, patchL, beq_self_eq_true, ge_iff_le, gt_iff_lt, Int.reduceNeg, Int.reduceLE, Int.reduceLT, Int.reduceEq, extractV, List.getElem?_cons_zero, List.getElem?_cons_succ, mkAgg, Nat.add_eq_left, Nat.left_eq_add, Nat.one_ne_zero, ble_dec, beq_dec, decide_eq_true_eq, Nat.reduceLeDiff, Nat.le_refl, fillA, pureVs, pureV, beq_int, bne_int, Int.natCast_inj, eq_self, eqV, eqB, decide_true, decide_false, List.length_map, Int.toNat_natCast, List.getElem?_map, Option.map_some, Option.map_none, Int.natCast_nonneg, Option.some.injEq, lenV, binV, intBin, intV, idxA, ne_eq, not_true_eq_false, not_false_eq_true, List.drop, List.take, RetP, retP, resV, resOne, snapV, snapVs, snapR, snapRs, ownSz, pickV, cond_true, cond_false, bTT, bTF, bFT, bFF, Bool.not_true, Bool.not_false, AO.isC, Bool.or_true, Bool.true_or, Bool.or_false, Bool.false_or, WpE_cons, WpE_nil, opE, evE_some, guardE_true, guardE_false, WpD_cons, WpD_nil, opD, evD_some, guardD_true, guardD_false, hp, hs, hab, false_and]
  · simp only [Wp_seq, Wp_ops, Wp_cond, Wp_skip, Wp_ret, Wp_exit, Wp_block, WpO_cons, WpO_nil, opQ, evOp, evO, evOs, evQ_some, guardV, guardQ_true, guardQ_false, boolQ_true, boolQ_false, argsA, pvs, putS, cellsOf, scals, scal, seqQ_normal, seqQ_ret, seqQ_exit, blkQ_normal, blkQ_ret, blkQ_exit, look_if, blkAt_if, if_true, if_false, Nat.reduceEqDiff, Nat.reduceAdd, true_implies, reduceCtorEq, false_implies, and_true, true_and, List.nil_append, List.cons_append, Bool.and_self, Nat.zero_add, Nat.add_zero, fieldA, nonNil, cellsAt, loadV_one, loadV_pvs, loadV_cons, mkAgg, allPV, List.drop_zero, List.drop_succ_cons, List.take_succ_cons, List.take_zero, List.length_cons, List.length_nil, Nat.beq_eq, storeB, patchL, beq_self_eq_true, ge_iff_le, gt_iff_lt, Int.reduceNeg, Int.reduceLE, Int.reduceLT, Int.reduceEq, extractV, List.getElem?_cons_zero, List.getElem?_cons_succ, mkAgg, Nat.add_eq_left, Nat.left_eq_add, Nat.one_ne_zero, ble_dec, beq_dec, decide_eq_true_eq, Nat.reduceLeDiff, Nat.le_refl, fillA, pureVs, pureV, beq_int, bne_int, Int.natCast_inj, eq_self, eqV, eqB, decide_true, decide_false, List.length_map, Int.toNat_natCast, List.getElem?_map, Option.map_some, Option.map_none, Int.natCast_nonneg, Option.some.injEq, lenV, binV, intBin, intV, idxA, ne_eq, not_true_eq_false, not_false_eq_true, List.drop, List.take, RetP, retP, resV, resOne, snapV, snapVs, snapR, snapRs, ownSz, pickV, cond_true, cond_false, bTT, bTF, bFT, bFF, Bool.not_true, Bool.not_false, AO.isC, Bool.or_true, Bool.true_or, Bool.or_false, Bool.false_or, WpE_cons, WpE_nil, opE, evE_some, guardE_true, guardE_false, WpD_cons, WpD_nil, opD, evD_some, guardD_true, guardD_false, hp, hab, false_and]

/-- slices.Clone of pods. -/
structure Cln (T : Tab) (n sz : Nat) : Prop where
  prim : T.prim n = some (cloneP sz)
  raw : T.raw n = false
  own : T.own n = true
theorem Cln.call {n sz : Nat} (S : Cln T n sz) {es : List (List PV)} (h : allLen sz es = true) (hl : es.length ≤ 2 ^ 30) (d : Option Nat) (l : List AOper) (st : St) (K : St → Prop) :
    callQ T n [.pv (.slice es)] d l st K ↔ WpO T l (match es with | [] => ⟨putS st d (.pv (.slice [])), st.hp, st.nx⟩ | e :: r => ⟨putS st d (.ms st.nx), (st.nx, .row sz (e :: r)) :: st.hp, st.nx + 1⟩) K := by
  cases es with
  | nil =>
    have hc : callP (D T) n [.slice []] = some (none, .slice []) := by
      unfold callP
      rw [D_prim S.prim (show cloneP sz (pvs [.slice []]) [] 0 = some (.pv (.slice []), [], 2) from rfl)]
      rfl
    rw [callQ_pure S.raw rfl hc, S.own]
    rfl
  | cons e r =>
    have hc : callP (D T) n [.slice (e :: r)] = some (some sz, .slice (e :: r)) := by
      unfold callP
      rw [D_prim S.prim (show cloneP sz (pvs [.slice (e :: r)]) [] 0 = some (.ms 1, [(1, .row sz (e :: r))], 2) from by
        simp only [cloneP, pvs]; rw [if_pos ⟨h, hl⟩])]
      rfl
    rw [callQ_pure S.raw rfl hc, S.own]
    rfl
theorem allLen_pods (l : List Pod) : allLen 8 (l.map podC) = true := by
  simp [allLen, podC]

def firstOf (s : Snap) : State := ⟨s.pods, 0, 0⟩
theorem first5_ok (h237 : Std T 237 f237) (h279 : Cln T 279 8) (s : Snap) (h : s.pods.length ≤ 2 ^ 30) : Gives T 237 [snapP s] (stateP (firstOf s)) := by
  refine gives h237 rfl ?_
  simp only [f237, Wp_seq, Wp_ops, Wp_cond, Wp_skip, Wp_ret, Wp_exit, Wp_block, WpO_cons, WpO_nil, opQ, evOp, evO, evOs, evQ_some, guardV, guardQ_true, guardQ_false, boolQ_true, boolQ_false, argsA, pvs, putS, cellsOf, scals, scal, seqQ_normal, seqQ_ret, seqQ_exit, blkQ_normal, blkQ_ret, blkQ_exit, look_if, blkAt_if, if_true, if_false, Nat.reduceEqDiff, Nat.reduceAdd, true_implies, reduceCtorEq, false_implies, and_true, true_and, List.nil_append, List.cons_append, Bool.and_self, Nat.zero_add, Nat.add_zero, fieldA, nonNil, cellsAt, loadV_one, loadV_pvs, loadV_cons, mkAgg, allPV, List.drop_zero, List.drop_succ_cons, List.take_succ_cons, List.take_zero, List.length_cons, List.length_nil, Nat.beq_eq, storeB, patchL, beq_self_eq_true, ge_iff_le, gt_iff_lt, Int.reduceNeg, Int.reduceLE, Int.reduceLT, Int.reduceEq, extractV, List.getElem?_cons_zero, List.getElem?_cons_succ, mkAgg, Nat.add_eq_left, Nat.left_eq_add, Nat.one_ne_zero, ble_dec, beq_dec, decide_eq_true_eq, Nat.reduceLeDiff, Nat.le_refl, fillA, pureVs, pureV, beq_int, bne_int, Int.natCast_inj, eq_self, eqV, eqB, decide_true, decide_false, List.length_map, Int.toNat_natCast, List.getElem?_map, Option.map_some, Option.map_none, Int.natCast_nonneg, Option.some.injEq, lenV, binV, intBin, intV, idxA, ne_eq, not_true_eq_false, not_false_eq_true, List.drop, List.take, RetP, retP, resV, resOne, snapV, snapVs, snapR, snapRs, ownSz, pickV, cond_true, cond_false, bTT, bTF, bFT, bFF, Bool.not_true, Bool.not_false, AO.isC, Bool.or_true, Bool.true_or, Bool.or_false, Bool.false_or, WpE_cons, WpE_nil, opE, evE_some, guardE_true, guardE_false, WpD_cons, WpD_nil, opD, evD_some, guardD_true, guardD_false, snapP, stateP, firstOf]
  rw [h279.call (allLen_pods _) (by simpa using h)]
  cases hs : s.pods with
  | nil => simp only [Wp_seq, Wp_ops, Wp_cond, Wp_skip, Wp_ret, Wp_exit, Wp_block, WpO_cons, WpO_nil, opQ, evOp, evO, evOs, evQ_some, guardV, guardQ_true, guardQ_false, boolQ_true, boolQ_false, argsA, pvs, putS, cellsOf, scals, scal, seqQ_normal, seqQ_ret, seqQ_exit, blkQ_normal, blkQ_ret, blkQ_exit, look_if, blkAt_if, if_true, if_false, Nat.reduceEqDiff, Nat.reduceAdd, true_implies, reduceCtorEq, false_implies, and_true, true_and, List.nil_append, List.cons_append, Bool.and_self, Nat.zero_add, Nat.add_zero, fieldA, nonNil, cellsAt, loadV_one, loadV_pvs, loadV_cons, mkAgg, allPV, List.drop_zero, List.drop_succ_cons, List.take_succ_cons, List.take_zero, List.length_cons, List.length_nil, Nat.beq_eq, storeB, patchL, beq_self_eq_true, ge_iff_le, gt_iff_lt, Int.reduceNeg, Int.reduceLE, Int.reduceLT, Int.reduceEq, extractV, List.getElem?_cons_zero, List.getElem?_cons_succ, mkAgg, Nat.add_eq_left, Nat.left_eq_add, Nat.one_ne_zero, ble_dec, beq_dec, decide_eq_true_eq, Nat.reduceLeDiff, Nat.le_refl, fillA, pureVs, pureV, beq_int, bne_int, Int.natCast_inj, eq_self, eqV, eqB, decide_true, decide_false, List.length_map, Int.toNat_natCast, List.getElem?_map, Option.map_some, Option.map_none, Int.natCast_nonneg, Option.some.injEq, lenV, binV, intBin, intV, idxA, ne_eq, not_true_eq_false, not_false_eq_true, List.drop, List.take, RetP, retP, resV, resOne, snapV, snapVs, snapR, snapRs, ownSz, pickV, cond_true, cond_false, bTT, bTF, bFT, bFF, Bool.not_true, Bool.not_false, AO.isC, Bool.or_true, Bool.true_or, Bool.or_false, Bool.false_or, WpE_cons, WpE_nil, opE, evE_some, guardE_true, guardE_false, WpD_cons, WpD_nil, opD, evD_some, guardD_true, guardD_false, List.map_nil]
  | cons p r => simp only [Wp_seq, Wp_ops, Wp_cond, Wp_skip, Wp_ret, Wp_exit, Wp_block, WpO_cons, WpO_nil, opQ, evOp, evO, evOs, evQ_some, guardV, guardQ_true, guardQ_false, boolQ_true, boolQ_false, argsA, pvs, putS, cellsOf, scals, scal, seqQ_normal, seqQ_ret, seqQ_exit, blkQ_normal, blkQ_ret, blkQ_exit, look_if, blkAt_if, if_true, if_false, Nat.reduceEqDiff, Nat.reduceAdd, true_implies, reduceCtorEq, false_implies, and_true, true_and, List.nil_append, List.cons_append, Bool.and_self, Nat.zero_add, Nat.add_zero, fieldA, nonNil, cellsAt, loadV_one, loadV_pvs, loadV_cons, mkAgg, allPV, List.drop_zero, List.drop_succ_cons, List.take_succ_cons, List.take_zero, List.length_cons, List.length_nil, Nat.beq_eq, storeB, patchL, beq_self_eq_true, ge_iff_le, gt_iff_lt, Int.reduceNeg, Int.reduceLE, Int.reduceLT, Int.reduceEq, extractV, List.getElem?_cons_zero, List.getElem?_cons_succ, mkAgg, Nat.add_eq_left, Nat.left_eq_add, Nat.one_ne_zero, ble_dec, beq_dec, decide_eq_true_eq, Nat.reduceLeDiff, Nat.le_refl, fillA, pureVs, pureV, beq_int, bne_int, Int.natCast_inj, eq_self, eqV, eqB, decide_true, decide_false, List.length_map, Int.toNat_natCast, List.getElem?_map, Option.map_some, Option.map_none, Int.natCast_nonneg, Option.some.injEq, lenV, binV, intBin, intV, idxA, ne_eq, not_true_eq_false, not_false_eq_true, List.drop, List.take, RetP, retP, resV, resOne, snapV, snapVs, snapR, snapRs, ownSz, pickV, cond_true, cond_false, bTT, bTF, bFT, bFF, Bool.not_true, Bool.not_false, AO.isC, Bool.or_true, Bool.true_or, Bool.or_false, Bool.false_or, WpE_cons, WpE_nil, opE, evE_some, guardE_true, guardE_false, WpD_cons, WpD_nil, opD, evD_some, guardD_true, guardD_false, List.map_cons]
theorem first5b_ok (h164 : Std T 164 f164) (s : Snap) (h : s.pods.length ≤ 2 ^ 30) : Gives T 164 [snapP s] (stateP (firstOf s)) := by
  refine gives h164 rfl ?_
  simp only [f164, Wp_seq, Wp_ops, Wp_cond, Wp_skip, Wp_ret, Wp_exit, Wp_block, WpO_cons, WpO_nil, opQ, evOp, evO, evOs, evQ_some, guardV, guardQ_true, guardQ_false, boolQ_true, boolQ_false, argsA, pvs, putS, cellsOf, scals, scal, seqQ_normal, seqQ_ret, seqQ_exit, blkQ_normal, blkQ_ret, blkQ_exit, look_if, blkAt_if, if_true, if_false, Nat.reduceEqDiff, Nat.reduceAdd, true_implies, reduceCtorEq, false_implies, and_true, true_and, List.nil_append, List.cons_append, Bool.and_self, Nat.zero_add, Nat.add_zero, fieldA, nonNil, cellsAt, loadV_one, loadV_pvs, loadV_cons, mkAgg, allPV, List.drop_zero, List.drop_succ_cons, List.take_succ_cons, List.take_zero, List.length_cons, List.length_nil, Nat.beq_eq, storeB, patchL, beq_self_eq_true, ge_iff_le, gt_iff_lt, Int.reduceNeg, Int.reduceLE, Int.reduceLT, Int.reduceEq, extractV, List.getElem?_cons_zero, List.getElem?_cons_succ, mkAgg, Nat.add_eq_left, Nat.left_eq_add, Nat.one_ne_zero, ble_dec, beq_dec, decide_eq_true_eq, Nat.reduceLeDiff, Nat.le_refl, fillA, pureVs, pureV, beq_int, bne_int, Int.natCast_inj, eq_self, eqV, eqB, decide_true, decide_false, List.length_map, Int.toNat_natCast, List.getElem?_map, Option.map_some, Option.map_none, Int.natCast_nonneg, Option.some.injEq, lenV, binV, intBin, intV, idxA, ne_eq, not_true_eq_false, not_false_eq_true, List.drop, List.take, RetP, retP, resV, resOne, snapV, snapVs, snapR, snapRs, ownSz, pickV, cond_true, cond_false, bTT, bTF, bFT, bFF, Bool.not_true, Bool.not_false, AO.isC, Bool.or_true, Bool.true_or, Bool.or_false, Bool.false_or, WpE_cons, WpE_nil, opE, evE_some, guardE_true, guardE_false, WpD_cons, WpD_nil, opD, evD_some, guardD_true, guardD_false, snapP, stateP, firstOf, allLen_pods, partsScal, srcV, chunk, appV, baseV, h]

/-- A want is met. -/
def metB (w : Want) (l : List Pod) : Bool := match podOf w.pod l with
  | none => false
  | some p => if w.stay = true then decide (p.node ≠ 0) && decide (p.req = w.req) else decide (p.node = 0)
def goalB (ws : List Want) (l : List Pod) : Bool := ws.all (fun w => metB w l)

theorem eqVec (v v' : Vec) : eqCells [false, false, false, false] [.int .u64 v.a, .int .u64 v.b, .int .u64 v.c, .int .u64 v.d] [.int .u64 v'.a, .int .u64 v'.b, .int .u64 v'.c, .int .u64 v'.d] = some (decide (v = v')) := by
  obtain ⟨a, b, c, d⟩ := v
  obtain ⟨a', b', c', d'⟩ := v'
  simp only [eqCells, if_true, Option.some.injEq]
  rw [Bool.eq_iff_iff]
  simp

theorem goal5_ok (S : Std5 T) (h240 : Std T 240 f240) (h238 : Std T 238 f238) (x : Spec) (t : State) (hx : x.wants.length ≤ 2 ^ 30) (h : t.pods.length ≤ 2 ^ 30) : Gives T 238 [specP x, stateP t] (.bool (goalB x.wants t.pods)) := by
  refine gives h238 rfl ?_
  have loop : ∀ (rest : List Want) (i : Nat), x.wants.drop i = rest → i ≤ x.wants.length → ∀ (fr : List (Nat × AV)) (hp : Hl) (nx : Nat), 2 ≤ nx →
      blkAt hp 1 = .var [.pv (.slice (t.pods.map podC)), .pv (.int .i64 t.pre), .pv (.int .i64 t.shi)] → look fr 3 = .ptr 1 0 0 →
      look fr 12 = .pv (.int .i64 i) → look fr 11 = .pv (.int .i64 x.wants.length) → look fr 10 = .pv (.slice (x.wants.map wantC)) →
      Wp T false (.loop f238l0) ⟨fr, hp, nx⟩ (blkQ 0 (seqQ T false (.seq (.ops [⟨some 4, .mv (.c (.pv (.bool true))), none, []⟩]) .ret) (RetP [.t 4] (.bool (goalB rest t.pods))))) := by
    intro rest
    induction rest with
    | nil =>
      intro i hd hi fr hp nx hn b1 h3 h12 h11 h10
      have hlen : x.wants.length = i := by
        have := congrArg List.length hd
        simp at this
        omega
      rw [Wp_loop, Wp_eq f238l0.eq_1]
      simp only [Wp_seq, Wp_ops, Wp_cond, Wp_skip, Wp_ret, Wp_exit, Wp_block, WpO_cons, WpO_nil, opQ, evOp, evO, evOs, evQ_some, guardV, guardQ_true, guardQ_false, boolQ_true, boolQ_false, argsA, pvs, putS, cellsOf, scals, scal, seqQ_normal, seqQ_ret, seqQ_exit, blkQ_normal, blkQ_ret, blkQ_exit, look_if, blkAt_if, if_true, if_false, Nat.reduceEqDiff, Nat.reduceAdd, true_implies, reduceCtorEq, false_implies, and_true, true_and, List.nil_append, List.cons_append, Bool.and_self, Nat.zero_add, Nat.add_zero, fieldA, nonNil, cellsAt, loadV_one, loadV_pvs, loadV_cons, mkAgg, allPV, List.drop_zero, List.drop_succ_cons, List.take_succ_cons, List.take_zero, List.length_cons, List.length_nil, Nat.beq_eq, storeB, patchL, beq_self_eq_true, ge_iff_le, gt_iff_lt, Int.reduceNeg, Int.reduceLE, Int.reduceLT, Int.reduceEq, extractV, List.getElem?_cons_zero, List.getElem?_cons_succ, mkAgg, Nat.add_eq_left, Nat.left_eq_add, Nat.one_ne_zero, ble_dec, beq_dec, decide_eq_true_eq, Nat.reduceLeDiff, Nat.le_refl, fillA, pureVs, pureV, beq_int, bne_int, Int.natCast_inj, eq_self, eqV, eqB, decide_true, decide_false, List.length_map, Int.toNat_natCast, List.getElem?_map, Option.map_some, Option.map_none, Int.natCast_nonneg, Option.some.injEq, lenV, binV, intBin, intV, idxA, ne_eq, not_true_eq_false, not_false_eq_true, List.drop, List.take, RetP, retP, resV, resOne, snapV, snapVs, snapR, snapRs, ownSz, pickV, cond_true, cond_false, bTT, bTF, bFT, bFF, Bool.not_true, Bool.not_false, AO.isC, Bool.or_true, Bool.true_or, Bool.or_false, Bool.false_or, WpE_cons, WpE_nil, opE, evE_some, guardE_true, guardE_false, WpD_cons, WpD_nil, opD, evD_some, guardD_true, guardD_false, h3, h12, h11, h10, hlen, Int.lt_irrefl, goalB, List.all_nil]
    | cons w r ih =>
      intro i hd hi fr hp nx hn b1 h3 h12 h11 h10
      have hget : x.wants[i]? = some w := by
        have := congrArg (·[0]?) hd
        simpa using this
      have hlt : i < x.wants.length := (List.getElem?_eq_some_iff.1 hget).1
      have hlt' : (i : Int) < (x.wants.length : Int) := by omega
      have n1 : ¬ nx = 1 := by omega
      have n2 : ¬ nx + 1 = 1 := by omega
      have hw : IntKind.i64.wrap ((i : Int) + 1) = ((i + 1 : Nat) : Int) := by rw [wrap6] <;> omega
      have k := pod5_ok S h240 t w.pod h
      have next : metB w t.pods = true → ∀ (fr' : List (Nat × AV)) (hp' : Hl) (nx' : Nat), 2 ≤ nx' → blkAt hp' 1 = blkAt hp 1 → look fr' 3 = look fr 3 → look fr' 12 = .pv (.int .i64 ((i + 1 : Nat) : Int)) → look fr' 11 = look fr 11 → look fr' 10 = look fr 10 →
          Wp T false (.loop f238l0) ⟨fr', hp', nx'⟩ (blkQ 0 (seqQ T false (.seq (.ops [⟨some 4, .mv (.c (.pv (.bool true))), none, []⟩]) .ret) (RetP [.t 4] (.bool (goalB (w :: r) t.pods))))) := by
        intro hm fr' hp' nx' hn' b1' h3' h12' h11' h10'
        have : goalB (w :: r) t.pods = goalB r t.pods := by simp only [goalB, List.all_cons, hm, Bool.true_and]
        rw [this]
        exact ih (i + 1) (by rw [← List.drop_drop, hd]; rfl) (by omega) fr' hp' nx' hn' (b1'.trans b1) (h3'.trans h3) h12' (h11'.trans h11) (h10'.trans h10)
      have stop : metB w t.pods = false → goalB (w :: r) t.pods = false := by
        intro hm
        simp only [goalB, List.all_cons, hm, Bool.false_and]
      rw [Wp_loop, Wp_eq f238l0.eq_1]
      simp only [Wp_seq, Wp_ops, Wp_cond, Wp_skip, Wp_ret, Wp_exit, Wp_block, WpO_cons, WpO_nil, opQ, evOp, evO, evOs, evQ_some, guardV, guardQ_true, guardQ_false, boolQ_true, boolQ_false, argsA, pvs, putS, cellsOf, scals, scal, seqQ_normal, seqQ_ret, seqQ_exit, blkQ_normal, blkQ_ret, blkQ_exit, look_if, blkAt_if, if_true, if_false, Nat.reduceEqDiff, Nat.reduceAdd, true_implies, reduceCtorEq, false_implies, and_true, true_and, List.nil_append, List.cons_append, Bool.and_self, Nat.zero_add, Nat.add_zero, fieldA, nonNil, cellsAt, loadV_one, loadV_pvs, loadV_cons, mkAgg, allPV, List.drop_zero, List.drop_succ_cons, List.take_succ_cons, List.take_zero, List.length_cons, List.length_nil, Nat.beq_eq, storeB, patchL, beq_self_eq_true, ge_iff_le, gt_iff_lt, Int.reduceNeg, Int.reduceLE, Int.reduceLT, Int.reduceEq, extractV, List.getElem?_cons_zero, List.getElem?_cons_succ, mkAgg, Nat.add_eq_left, Nat.left_eq_add, Nat.one_ne_zero, ble_dec, beq_dec, decide_eq_true_eq, Nat.reduceLeDiff, Nat.le_refl, fillA, pureVs, pureV, beq_int, bne_int, Int.natCast_inj, eq_self, eqV, eqB, decide_true, decide_false, List.length_map, Int.toNat_natCast, List.getElem?_map, Option.map_some, Option.map_none, Int.natCast_nonneg, Option.some.injEq, lenV, binV, intBin, intV, idxA, ne_eq, not_true_eq_false, not_false_eq_true, List.drop, List.take, RetP, retP, resV, resOne, snapV, snapVs, snapR, snapRs, ownSz, pickV, cond_true, cond_false, bTT, bTF, bFT, bFF, Bool.not_true, Bool.not_false, AO.isC, Bool.or_true, Bool.true_or, Bool.or_false, Bool.false_or, WpE_cons, WpE_nil, opE, evE_some, guardE_true, guardE_false, WpD_cons, WpD_nil, opD, evD_some, guardD_true, guardD_false, h3, h12, h11, h10, hlt', hget, wantC, b1, n1, n2, k.call, stateP]
      cases hp0 : podOf w.pod t.pods with
      | none =>
        have := stop (by simp only [metB, hp0])
        simp only [Wp_seq, Wp_ops, Wp_cond, Wp_skip, Wp_ret, Wp_exit, Wp_block, WpO_cons, WpO_nil, opQ, evOp, evO, evOs, evQ_some, guardV, guardQ_true, guardQ_false, boolQ_true, boolQ_false, argsA, pvs, putS, cellsOf, scals, scal, seqQ_normal, seqQ_ret, seqQ_exit, blkQ_normal, blkQ_ret, blkQ_exit, look_if, blkAt_if, if_true, if_false, Nat.reduceEqDiff, Nat.reduceAdd, true_implies, reduceCtorEq, false_implies, and_true, true_and, List.nil_append, List.cons_append, Bool.and_self, Nat.zero_add, Nat.add_zero, fieldA, nonNil, cellsAt, loadV_one, loadV_pvs, loadV_cons, mkAgg, allPV, List.drop_zero, List.drop_succ_cons, List.take_succ_cons, List.take_zero, List.length_cons, List.length_nil, Nat.beq_eq, storeB, patchL, beq_self_eq_true, ge_iff_le, gt_iff_lt, Int.reduceNeg, Int.reduceLE, Int.reduceLT, Int.reduceEq, extractV, List.getElem?_cons_zero, List.getElem?_cons_succ, mkAgg, Nat.add_eq_left, Nat.left_eq_add, Nat.one_ne_zero, ble_dec, beq_dec, decide_eq_true_eq, Nat.reduceLeDiff, Nat.le_refl, fillA, pureVs, pureV, beq_int, bne_int, Int.natCast_inj, eq_self, eqV, eqB, decide_true, decide_false, List.length_map, Int.toNat_natCast, List.getElem?_map, Option.map_some, Option.map_none, Int.natCast_nonneg, Option.some.injEq, lenV, binV, intBin, intV, idxA, ne_eq, not_true_eq_false, not_false_eq_true, List.drop, List.take, RetP, retP, resV, resOne, snapV, snapVs, snapR, snapRs, ownSz, pickV, cond_true, cond_false, bTT, bTF, bFT, bFF, Bool.not_true, Bool.not_false, AO.isC, Bool.or_true, Bool.true_or, Bool.or_false, Bool.false_or, WpE_cons, WpE_nil, opE, evE_some, guardE_true, guardE_false, WpD_cons, WpD_nil, opD, evD_some, guardD_true, guardD_false, podR, podP, pod0, podC, n1, n2, this]
      | some p =>
        cases hst : w.stay
        · by_cases hn : p.node = 0
          · simp only [Wp_seq, Wp_ops, Wp_cond, Wp_skip, Wp_ret, Wp_exit, Wp_block, WpO_cons, WpO_nil, opQ, evOp, evO, evOs, evQ_some, guardV, guardQ_true, guardQ_false, boolQ_true, boolQ_false, argsA, pvs, putS, cellsOf, scals, scal, seqQ_normal, seqQ_ret, seqQ_exit, blkQ_normal, blkQ_ret, blkQ_exit, look_if, blkAt_if, if_true, if_false, Nat.reduceEqDiff, Nat.reduceAdd, true_implies, reduceCtorEq, false_implies, and_true, true_and, List.nil_append, List.cons_append, Bool.and_self, Nat.zero_add, Nat.add_zero, fieldA, nonNil, cellsAt, loadV_one, loadV_pvs, loadV_cons, mkAgg, allPV, List.drop_zero, List.drop_succ_cons, List.take_succ_cons, List.take_zero, List.length_cons, List.length_nil, Nat.beq_eq, storeB, patchL, beq_self_eq_true, ge_iff_le, gt_iff_lt, Int.reduceNeg, Int.reduceLE, Int.reduceLT, Int.reduceEq, extractV, List.getElem?_cons_zero, List.getElem?_cons_succ, mkAgg, Nat.add_eq_left, Nat.left_eq_add, Nat.one_ne_zero, ble_dec, beq_dec, decide_eq_true_eq, Nat.reduceLeDiff, Nat.le_refl, fillA, pureVs, pureV, beq_int, bne_int, Int.natCast_inj, eq_self, eqV, eqB, decide_true, decide_false, List.length_map, Int.toNat_natCast, List.getElem?_map, Option.map_some, Option.map_none, Int.natCast_nonneg, Option.some.injEq, lenV, binV, intBin, intV, idxA, ne_eq, not_true_eq_false, not_false_eq_true, List.drop, List.take, RetP, retP, resV, resOne, snapV, snapVs, snapR, snapRs, ownSz, pickV, cond_true, cond_false, bTT, bTF, bFT, bFF, Bool.not_true, Bool.not_false, AO.isC, Bool.or_true, Bool.true_or, Bool.or_false, Bool.false_or, WpE_cons, WpE_nil, opE, evE_some, guardE_true, guardE_false, WpD_cons, WpD_nil, opD, evD_some, guardD_true, guardD_false, podR, podP, podC, n1, n2, hst, hn, h12, hw]
            refine next (by simp [metB, hp0, hst, hn]) _ _ _ (by omega) ?_ ?_ ?_ ?_ ?_
            all_goals simp only [look_if, blkAt_if, Nat.reduceEqDiff, if_true, if_false, n1, n2]
          · have := stop (by simp [metB, hp0, hst, hn])
            simp only [Wp_seq, Wp_ops, Wp_cond, Wp_skip, Wp_ret, Wp_exit, Wp_block, WpO_cons, WpO_nil, opQ, evOp, evO, evOs, evQ_some, guardV, guardQ_true, guardQ_false, boolQ_true, boolQ_false, argsA, pvs, putS, cellsOf, scals, scal, seqQ_normal, seqQ_ret, seqQ_exit, blkQ_normal, blkQ_ret, blkQ_exit, look_if, blkAt_if, if_true, if_false, Nat.reduceEqDiff, Nat.reduceAdd, true_implies, reduceCtorEq, false_implies, and_true, true_and, List.nil_append, List.cons_append, Bool.and_self, Nat.zero_add, Nat.add_zero, fieldA, nonNil, cellsAt, loadV_one, loadV_pvs, loadV_cons, mkAgg, allPV, List.drop_zero, List.drop_succ_cons, List.take_succ_cons, List.take_zero, List.length_cons, List.length_nil, Nat.beq_eq, storeB, patchL, beq_self_eq_true, ge_iff_le, gt_iff_lt, Int.reduceNeg, Int.reduceLE, Int.reduceLT, Int.reduceEq, extractV, List.getElem?_cons_zero, List.getElem?_cons_succ, mkAgg, Nat.add_eq_left, Nat.left_eq_add, Nat.one_ne_zero, ble_dec, beq_dec, decide_eq_true_eq, Nat.reduceLeDiff, Nat.le_refl, fillA, pureVs, pureV, beq_int, bne_int, Int.natCast_inj, eq_self, eqV, eqB, decide_true, decide_false, List.length_map, Int.toNat_natCast, List.getElem?_map, Option.map_some, Option.map_none, Int.natCast_nonneg, Option.some.injEq, lenV, binV, intBin, intV, idxA, ne_eq, not_true_eq_false, not_false_eq_true, List.drop, List.take, RetP, retP, resV, resOne, snapV, snapVs, snapR, snapRs, ownSz, pickV, cond_true, cond_false, bTT, bTF, bFT, bFF, Bool.not_true, Bool.not_false, AO.isC, Bool.or_true, Bool.true_or, Bool.or_false, Bool.false_or, WpE_cons, WpE_nil, opE, evE_some, guardE_true, guardE_false, WpD_cons, WpD_nil, opD, evD_some, guardD_true, guardD_false, podR, podP, podC, n1, n2, hst, hn, this]
        · by_cases hn : p.node = 0
          · have := stop (by simp [metB, hp0, hst, hn])
            simp only [Wp_seq, Wp_ops, Wp_cond, Wp_skip, Wp_ret, Wp_exit, Wp_block, WpO_cons, WpO_nil, opQ, evOp, evO, evOs, evQ_some, guardV, guardQ_true, guardQ_false, boolQ_true, boolQ_false, argsA, pvs, putS, cellsOf, scals, scal, seqQ_normal, seqQ_ret, seqQ_exit, blkQ_normal, blkQ_ret, blkQ_exit, look_if, blkAt_if, if_true, if_false, Nat.reduceEqDiff, Nat.reduceAdd, true_implies, reduceCtorEq, false_implies, and_true, true_and, List.nil_append, List.cons_append, Bool.and_self, Nat.zero_add, Nat.add_zero, fieldA, nonNil, cellsAt, loadV_one, loadV_pvs, loadV_cons, mkAgg, allPV, List.drop_zero, List.drop_succ_cons, List.take_succ_cons, List.take_zero, List.length_cons, List.length_nil, Nat.beq_eq, storeB, patchL, beq_self_eq_true, ge_iff_le, gt_iff_lt, Int.reduceNeg, Int.reduceLE, Int.reduceLT, Int.reduceEq, extractV, List.getElem?_cons_zero, List.getElem?_cons_succ, mkAgg, Nat.add_eq_left, Nat.left_eq_add, Nat.one_ne_zero, ble_dec, beq_dec, decide_eq_true_eq, Nat.reduceLeDiff, Nat.le_refl, fillA, pureVs, pureV, beq_int, bne_int, Int.natCast_inj, eq_self, eqV, eqB, decide_true, decide_false, List.length_map, Int.toNat_natCast, List.getElem?_map, Option.map_some, Option.map_none, Int.natCast_nonneg, Option.some.injEq, lenV, binV, intBin, intV, idxA, ne_eq, not_true_eq_false, not_false_eq_true, List.drop, List.take, RetP, retP, resV, resOne, snapV, snapVs, snapR, snapRs, ownSz, pickV, cond_true, cond_false, bTT, bTF, bFT, bFF, Bool.not_true, Bool.not_false, AO.isC, Bool.or_true, Bool.true_or, Bool.or_false, Bool.false_or, WpE_cons, WpE_nil, opE, evE_some, guardE_true, guardE_false, WpD_cons, WpD_nil, opD, evD_some, guardD_true, guardD_false, podR, podP, podC, n1, n2, hst, hn, this]
          · by_cases hr : p.req = w.req
            · simp only [Wp_seq, Wp_ops, Wp_cond, Wp_skip, Wp_ret, Wp_exit, Wp_block, WpO_cons, WpO_nil, opQ, evOp, evO, evOs, evQ_some, guardV, guardQ_true, guardQ_false, boolQ_true, boolQ_false, argsA, pvs, putS, cellsOf, scals, scal, seqQ_normal, seqQ_ret, seqQ_exit, blkQ_normal, blkQ_ret, blkQ_exit, look_if, blkAt_if, if_true, if_false, Nat.reduceEqDiff, Nat.reduceAdd, true_implies, reduceCtorEq, false_implies, and_true, true_and, List.nil_append, List.cons_append, Bool.and_self, Nat.zero_add, Nat.add_zero, fieldA, nonNil, cellsAt, loadV_one, loadV_pvs, loadV_cons, mkAgg, allPV, List.drop_zero, List.drop_succ_cons, List.take_succ_cons, List.take_zero, List.length_cons, List.length_nil, Nat.beq_eq, storeB, patchL, beq_self_eq_true, ge_iff_le, gt_iff_lt, Int.reduceNeg, Int.reduceLE, Int.reduceLT, Int.reduceEq, extractV, List.getElem?_cons_zero, List.getElem?_cons_succ, mkAgg, Nat.add_eq_left, Nat.left_eq_add, Nat.one_ne_zero, ble_dec, beq_dec, decide_eq_true_eq, Nat.reduceLeDiff, Nat.le_refl, fillA, pureVs, pureV, beq_int, bne_int, Int.natCast_inj, eq_self, eqV, eqB, decide_true, decide_false, List.length_map, Int.toNat_natCast, List.getElem?_map, Option.map_some, Option.map_none, Int.natCast_nonneg, Option.some.injEq, lenV, binV, intBin, intV, idxA, ne_eq, not_true_eq_false, not_false_eq_true, List.drop, List.take, RetP, retP, resV, resOne, snapV, snapVs, snapR, snapRs, ownSz, pickV, cond_true, cond_false, bTT, bTF, bFT, bFF, Bool.not_true, Bool.not_false, AO.isC, Bool.or_true, Bool.true_or, Bool.or_false, Bool.false_or, WpE_cons, WpE_nil, opE, evE_some, guardE_true, guardE_false, WpD_cons, WpD_nil, opD, evD_some, guardD_true, guardD_false, podR, podP, podC, n1, n2, hst, hn, eqVec, hr, h12, hw]
              refine next (by simp [metB, hp0, hst, hn, hr]) _ _ _ (by omega) ?_ ?_ ?_ ?_ ?_
              all_goals simp only [look_if, blkAt_if, Nat.reduceEqDiff, if_true, if_false, n1, n2]
            · have := stop (by simp [metB, hp0, hst, hn, hr])
              simp only [Wp_seq, Wp_ops, Wp_cond, Wp_skip, Wp_ret, Wp_exit, Wp_block, WpO_cons, WpO_nil, opQ, evOp, evO, evOs, evQ_some, guardV, guardQ_true, guardQ_false, boolQ_true, boolQ_false, argsA, pvs, putS, cellsOf, scals, scal, seqQ_normal, seqQ_ret, seqQ_exit, blkQ_normal, blkQ_ret, blkQ_exit, look_if, blkAt_if, if_true, if_false, Nat.reduceEqDiff, Nat.reduceAdd, true_implies, reduceCtorEq, false_implies, and_true, true_and, List.nil_append, List.cons_append, Bool.and_self, Nat.zero_add, Nat.add_zero, fieldA, nonNil, cellsAt, loadV_one, loadV_pvs, loadV_cons, mkAgg, allPV, List.drop_zero, List.drop_succ_cons, List.take_succ_cons, List.take_zero, List.length_cons, List.length_nil, Nat.beq_eq, storeB, patchL, beq_self_eq_true, ge_iff_le, gt_iff_lt, Int.reduceNeg, Int.reduceLE, Int.reduceLT, Int.reduceEq, extractV, List.getElem?_cons_zero, List.getElem?_cons_succ, mkAgg, Nat.add_eq_left, Nat.left_eq_add, Nat.one_ne_zero, ble_dec, beq_dec, decide_eq_true_eq, Nat.reduceLeDiff, Nat.le_refl, fillA, pureVs, pureV, beq_int, bne_int, Int.natCast_inj, eq_self, eqV, eqB, decide_true, decide_false, List.length_map, Int.toNat_natCast, List.getElem?_map, Option.map_some, Option.map_none, Int.natCast_nonneg, Option.some.injEq, lenV, binV, intBin, intV, idxA, ne_eq, not_true_eq_false, not_false_eq_true, List.drop, List.take, RetP, retP, resV, resOne, snapV, snapVs, snapR, snapRs, ownSz, pickV, cond_true, cond_false, bTT, bTF, bFT, bFF, Bool.not_true, Bool.not_false, AO.isC, Bool.or_true, Bool.true_or, Bool.or_false, Bool.false_or, WpE_cons, WpE_nil, opE, evE_some, guardE_true, guardE_false, WpD_cons, WpD_nil, opD, evD_some, guardD_true, guardD_false, podR, podP, podC, n1, n2, hst, hn, eqVec, hr, this]
  simp only [f238, Wp_seq, Wp_ops, Wp_cond, Wp_skip, Wp_ret, Wp_exit, Wp_block, WpO_cons, WpO_nil, opQ, evOp, evO, evOs, evQ_some, guardV, guardQ_true, guardQ_false, boolQ_true, boolQ_false, argsA, pvs, putS, cellsOf, scals, scal, seqQ_normal, seqQ_ret, seqQ_exit, blkQ_normal, blkQ_ret, blkQ_exit, look_if, blkAt_if, if_true, if_false, Nat.reduceEqDiff, Nat.reduceAdd, true_implies, reduceCtorEq, false_implies, and_true, true_and, List.nil_append, List.cons_append, Bool.and_self, Nat.zero_add, Nat.add_zero, fieldA, nonNil, cellsAt, loadV_one, loadV_pvs, loadV_cons, mkAgg, allPV, List.drop_zero, List.drop_succ_cons, List.take_succ_cons, List.take_zero, List.length_cons, List.length_nil, Nat.beq_eq, storeB, patchL, beq_self_eq_true, ge_iff_le, gt_iff_lt, Int.reduceNeg, Int.reduceLE, Int.reduceLT, Int.reduceEq, extractV, List.getElem?_cons_zero, List.getElem?_cons_succ, mkAgg, Nat.add_eq_left, Nat.left_eq_add, Nat.one_ne_zero, ble_dec, beq_dec, decide_eq_true_eq, Nat.reduceLeDiff, Nat.le_refl, fillA, pureVs, pureV, beq_int, bne_int, Int.natCast_inj, eq_self, eqV, eqB, decide_true, decide_false, List.length_map, Int.toNat_natCast, List.getElem?_map, Option.map_some, Option.map_none, Int.natCast_nonneg, Option.some.injEq, lenV, binV, intBin, intV, idxA, ne_eq, not_true_eq_false, not_false_eq_true, List.drop, List.take, RetP, retP, resV, resOne, snapV, snapVs, snapR, snapRs, ownSz, pickV, cond_true, cond_false, bTT, bTF, bFT, bFF, Bool.not_true, Bool.not_false, AO.isC, Bool.or_true, Bool.true_or, Bool.or_false, Bool.false_or, WpE_cons, WpE_nil, opE, evE_some, guardE_true, guardE_false, WpD_cons, WpD_nil, opD, evD_some, guardD_true, guardD_false, specP, stateP]
  exact loop x.wants 0 rfl (Nat.zero_le _) _ _ 2 (Nat.le_refl _) rfl rfl rfl rfl rfl

theorem goal5b_ok (h165 : Std T 165 f165) (h167 : Std T 167 f167) (x : Spec) (t : State) (hx : x.wants.length ≤ 2 ^ 30) (h : t.pods.length ≤ 2 ^ 30) : Gives T 165 [specP x, stateP t] (.bool (goalB x.wants t.pods)) := by
  refine gives h165 rfl ?_
  have loop : ∀ (rest : List Want) (i : Nat), x.wants.drop i = rest → i ≤ x.wants.length → ∀ (fr : List (Nat × AV)) (hp : Hl) (nx : Nat), 2 ≤ nx →
      blkAt hp 0 = .var [.pv (.slice (x.wants.map wantC)), .pv (.int .i64 x.pre), .pv (.int .i64 x.shi)] →
      blkAt hp 1 = .var [.pv (.slice (t.pods.map podC)), .pv (.int .i64 t.pre), .pv (.int .i64 t.shi)] → look fr 2 = .ptr 0 0 0 → look fr 3 = .ptr 1 0 0 → look fr 5 = .pv (.int .i64 i) →
      Wp T false (.loop f165l0) ⟨fr, hp, nx⟩ (blkQ 0 (seqQ T false (.seq (.ops [⟨some 4, .mv (.c (.pv (.bool true))), none, []⟩]) .ret) (RetP [.t 4] (.bool (goalB rest t.pods))))) := by
    intro rest
    induction rest with
    | nil =>
      intro i hd hi fr hp nx hn b0 b1 h2 h3 h5
      have hlen : x.wants.length = i := by
        have := congrArg List.length hd
        simp at this
        omega
      rw [Wp_loop, Wp_eq f165l0.eq_1]
      simp only [Wp_seq, Wp_ops, Wp_cond, Wp_skip, Wp_ret, Wp_exit, Wp_block, WpO_cons, WpO_nil, opQ, evOp, evO, evOs, evQ_some, guardV, guardQ_true, guardQ_false, boolQ_true, boolQ_false, argsA, pvs, putS, cellsOf, scals, scal, seqQ_normal, seqQ_ret, seqQ_exit, blkQ_normal, blkQ_ret, blkQ_exit, look_if, blkAt_if, if_true, if_false, Nat.reduceEqDiff, Nat.reduceAdd, true_implies, reduceCtorEq, false_implies, and_true, true_and, List.nil_append, List.cons_append, Bool.and_self, Nat.zero_add, Nat.add_zero, fieldA, nonNil, cellsAt, loadV_one, loadV_pvs, loadV_cons, mkAgg, allPV, List.drop_zero, List.drop_succ_cons, List.take_succ_cons, List.take_zero, List.length_cons, List.length_nil, Nat.beq_eq, storeB, patchL, beq_self_eq_true, ge_iff_le, gt_iff_lt, Int.reduceNeg, Int.reduceLE, Int.reduceLT, Int.reduceEq, extractV, List.getElem?_cons_zero, List.getElem?_cons_succ, mkAgg, Nat.add_eq_left, Nat.left_eq_add, Nat.one_ne_zero, ble_dec, beq_dec, decide_eq_true_eq, Nat.reduceLeDiff, Nat.le_refl, fillA, pureVs, pureV, beq_int, bne_int, Int.natCast_inj, eq_self, eqV, eqB, decide_true, decide_false, List.length_map, Int.toNat_natCast, List.getElem?_map, Option.map_some, Option.map_none, Int.natCast_nonneg, Option.some.injEq, lenV, binV, intBin, intV, idxA, ne_eq, not_true_eq_false, not_false_eq_true, List.drop, List.take, RetP, retP, resV, resOne, snapV, snapVs, snapR, snapRs, ownSz, pickV, cond_true, cond_false, bTT, bTF, bFT, bFF, Bool.not_true, Bool.not_false, AO.isC, Bool.or_true, Bool.true_or, Bool.or_false, Bool.false_or, WpE_cons, WpE_nil, opE, evE_some, guardE_true, guardE_false, WpD_cons, WpD_nil, opD, evD_some, guardD_true, guardD_false, b0, h2, h3, h5, hlen, Int.lt_irrefl, goalB, List.all_nil]
    | cons w r ih =>
      intro i hd hi fr hp nx hn b0 b1 h2 h3 h5
      have hget : x.wants[i]? = some w := by
        have := congrArg (·[0]?) hd
        simpa using this
      have hlt : i < x.wants.length := (List.getElem?_eq_some_iff.1 hget).1
      have hlt' : (i : Int) < (x.wants.length : Int) := by omega
      have n0 : ¬ nx = 0 := by omega
      have n1 : ¬ nx = 1 := by omega
      have hw : IntKind.i64.wrap ((i : Int) + 1) = ((i + 1 : Nat) : Int) := by rw [wrap6] <;> omega
      have k := place_ok h167 t w.pod h
      have next : metB w t.pods = true → ∀ (fr' : List (Nat × AV)) (hp' : Hl) (nx' : Nat), 2 ≤ nx' → blkAt hp' 0 = blkAt hp 0 → blkAt hp' 1 = blkAt hp 1 → look fr' 2 = look fr 2 → look fr' 3 = look fr 3 → look fr' 5 = .pv (.int .i64 ((i + 1 : Nat) : Int)) →
          Wp T false (.loop f165l0) ⟨fr', hp', nx'⟩ (blkQ 0 (seqQ T false (.seq (.ops [⟨some 4, .mv (.c (.pv (.bool true))), none, []⟩]) .ret) (RetP [.t 4] (.bool (goalB (w :: r) t.pods))))) := by
        intro hm fr' hp' nx' hn' b0' b1' h2' h3' h5'
        have : goalB (w :: r) t.pods = goalB r t.pods := by simp only [goalB, List.all_cons, hm, Bool.true_and]
        rw [this]
        exact ih (i + 1) (by rw [← List.drop_drop, hd]; rfl) (by omega) fr' hp' nx' hn' (b0'.trans b0) (b1'.trans b1) (h2'.trans h2) (h3'.trans h3) h5'
      have stop : metB w t.pods = false → goalB (w :: r) t.pods = false := by
        intro hm
        simp only [goalB, List.all_cons, hm, Bool.false_and]
      rw [Wp_loop, Wp_eq f165l0.eq_1]
      simp only [Wp_seq, Wp_ops, Wp_cond, Wp_skip, Wp_ret, Wp_exit, Wp_block, WpO_cons, WpO_nil, opQ, evOp, evO, evOs, evQ_some, guardV, guardQ_true, guardQ_false, boolQ_true, boolQ_false, argsA, pvs, putS, cellsOf, scals, scal, seqQ_normal, seqQ_ret, seqQ_exit, blkQ_normal, blkQ_ret, blkQ_exit, look_if, blkAt_if, if_true, if_false, Nat.reduceEqDiff, Nat.reduceAdd, true_implies, reduceCtorEq, false_implies, and_true, true_and, List.nil_append, List.cons_append, Bool.and_self, Nat.zero_add, Nat.add_zero, fieldA, nonNil, cellsAt, loadV_one, loadV_pvs, loadV_cons, mkAgg, allPV, List.drop_zero, List.drop_succ_cons, List.take_succ_cons, List.take_zero, List.length_cons, List.length_nil, Nat.beq_eq, storeB, patchL, beq_self_eq_true, ge_iff_le, gt_iff_lt, Int.reduceNeg, Int.reduceLE, Int.reduceLT, Int.reduceEq, extractV, List.getElem?_cons_zero, List.getElem?_cons_succ, mkAgg, Nat.add_eq_left, Nat.left_eq_add, Nat.one_ne_zero, ble_dec, beq_dec, decide_eq_true_eq, Nat.reduceLeDiff, Nat.le_refl, fillA, pureVs, pureV, beq_int, bne_int, Int.natCast_inj, eq_self, eqV, eqB, decide_true, decide_false, List.length_map, Int.toNat_natCast, List.getElem?_map, Option.map_some, Option.map_none, Int.natCast_nonneg, Option.some.injEq, lenV, binV, intBin, intV, idxA, ne_eq, not_true_eq_false, not_false_eq_true, List.drop, List.take, RetP, retP, resV, resOne, snapV, snapVs, snapR, snapRs, ownSz, pickV, cond_true, cond_false, bTT, bTF, bFT, bFF, Bool.not_true, Bool.not_false, AO.isC, Bool.or_true, Bool.true_or, Bool.or_false, Bool.false_or, WpE_cons, WpE_nil, opE, evE_some, guardE_true, guardE_false, WpD_cons, WpD_nil, opD, evD_some, guardD_true, guardD_false, b0, h2, h3, h5, hlt']
      refine (Wp_calm rfl).2 ?_
      rcases placeFrom_cases w.pod t.pods 0 with ⟨e1, e2⟩ | ⟨j, p, e1, e2, e3, e4⟩
      · have := stop (by simp only [metB, e1])
        rw [e2] at k
        simp only [Wp_seq, Wp_ops, Wp_cond, Wp_skip, Wp_ret, Wp_exit, Wp_block, WpO_cons, WpO_nil, opQ, evOp, evO, evOs, evQ_some, guardV, guardQ_true, guardQ_false, boolQ_true, boolQ_false, argsA, pvs, putS, cellsOf, scals, scal, seqQ_normal, seqQ_ret, seqQ_exit, blkQ_normal, blkQ_ret, blkQ_exit, look_if, blkAt_if, if_true, if_false, Nat.reduceEqDiff, Nat.reduceAdd, true_implies, reduceCtorEq, false_implies, and_true, true_and, List.nil_append, List.cons_append, Bool.and_self, Nat.zero_add, Nat.add_zero, fieldA, nonNil, cellsAt, loadV_one, loadV_pvs, loadV_cons, mkAgg, allPV, List.drop_zero, List.drop_succ_cons, List.take_succ_cons, List.take_zero, List.length_cons, List.length_nil, Nat.beq_eq, storeB, patchL, beq_self_eq_true, ge_iff_le, gt_iff_lt, Int.reduceNeg, Int.reduceLE, Int.reduceLT, Int.reduceEq, extractV, List.getElem?_cons_zero, List.getElem?_cons_succ, mkAgg, Nat.add_eq_left, Nat.left_eq_add, Nat.one_ne_zero, ble_dec, beq_dec, decide_eq_true_eq, Nat.reduceLeDiff, Nat.le_refl, fillA, pureVs, pureV, beq_int, bne_int, Int.natCast_inj, eq_self, eqV, eqB, decide_true, decide_false, List.length_map, Int.toNat_natCast, List.getElem?_map, Option.map_some, Option.map_none, Int.natCast_nonneg, Option.some.injEq, lenV, binV, intBin, intV, idxA, ne_eq, not_true_eq_false, not_false_eq_true, List.drop, List.take, RetP, retP, resV, resOne, snapV, snapVs, snapR, snapRs, ownSz, pickV, cond_true, cond_false, bTT, bTF, bFT, bFF, Bool.not_true, Bool.not_false, AO.isC, Bool.or_true, Bool.true_or, Bool.or_false, Bool.false_or, WpE_cons, WpE_nil, opE, evE_some, guardE_true, guardE_false, WpD_cons, WpD_nil, opD, evD_some, guardD_true, guardD_false, b0, b1, h2, h3, h5, hget, wantC, k.callD, stateP, this, Int.reduceNeg, Int.reduceLT]
      · have hj : ¬ ((j : Int) < 0) := by omega
        rw [e3] at k
        simp only [Wp_seq, Wp_ops, Wp_cond, Wp_skip, Wp_ret, Wp_exit, Wp_block, WpO_cons, WpO_nil, opQ, evOp, evO, evOs, evQ_some, guardV, guardQ_true, guardQ_false, boolQ_true, boolQ_false, argsA, pvs, putS, cellsOf, scals, scal, seqQ_normal, seqQ_ret, seqQ_exit, blkQ_normal, blkQ_ret, blkQ_exit, look_if, blkAt_if, if_true, if_false, Nat.reduceEqDiff, Nat.reduceAdd, true_implies, reduceCtorEq, false_implies, and_true, true_and, List.nil_append, List.cons_append, Bool.and_self, Nat.zero_add, Nat.add_zero, fieldA, nonNil, cellsAt, loadV_one, loadV_pvs, loadV_cons, mkAgg, allPV, List.drop_zero, List.drop_succ_cons, List.take_succ_cons, List.take_zero, List.length_cons, List.length_nil, Nat.beq_eq, storeB, patchL, beq_self_eq_true, ge_iff_le, gt_iff_lt, Int.reduceNeg, Int.reduceLE, Int.reduceLT, Int.reduceEq, extractV, List.getElem?_cons_zero, List.getElem?_cons_succ, mkAgg, Nat.add_eq_left, Nat.left_eq_add, Nat.one_ne_zero, ble_dec, beq_dec, decide_eq_true_eq, Nat.reduceLeDiff, Nat.le_refl, fillA, pureVs, pureV, beq_int, bne_int, Int.natCast_inj, eq_self, eqV, eqB, decide_true, decide_false, List.length_map, Int.toNat_natCast, List.getElem?_map, Option.map_some, Option.map_none, Int.natCast_nonneg, Option.some.injEq, lenV, binV, intBin, intV, idxA, ne_eq, not_true_eq_false, not_false_eq_true, List.drop, List.take, RetP, retP, resV, resOne, snapV, snapVs, snapR, snapRs, ownSz, pickV, cond_true, cond_false, bTT, bTF, bFT, bFF, Bool.not_true, Bool.not_false, AO.isC, Bool.or_true, Bool.true_or, Bool.or_false, Bool.false_or, WpE_cons, WpE_nil, opE, evE_some, guardE_true, guardE_false, WpD_cons, WpD_nil, opD, evD_some, guardD_true, guardD_false, b0, b1, h2, h3, h5, hget, wantC, k.callD, stateP, hj, e1, podC]
        refine (Wp_calm rfl).2 ?_
        cases hst : w.stay
        · by_cases hn : p.node = 0
          · simp only [Wp_seq, Wp_ops, Wp_cond, Wp_skip, Wp_ret, Wp_exit, Wp_block, WpO_cons, WpO_nil, opQ, evOp, evO, evOs, evQ_some, guardV, guardQ_true, guardQ_false, boolQ_true, boolQ_false, argsA, pvs, putS, cellsOf, scals, scal, seqQ_normal, seqQ_ret, seqQ_exit, blkQ_normal, blkQ_ret, blkQ_exit, look_if, blkAt_if, if_true, if_false, Nat.reduceEqDiff, Nat.reduceAdd, true_implies, reduceCtorEq, false_implies, and_true, true_and, List.nil_append, List.cons_append, Bool.and_self, Nat.zero_add, Nat.add_zero, fieldA, nonNil, cellsAt, loadV_one, loadV_pvs, loadV_cons, mkAgg, allPV, List.drop_zero, List.drop_succ_cons, List.take_succ_cons, List.take_zero, List.length_cons, List.length_nil, Nat.beq_eq, storeB, patchL, beq_self_eq_true, ge_iff_le, gt_iff_lt, Int.reduceNeg, Int.reduceLE, Int.reduceLT, Int.reduceEq, extractV, List.getElem?_cons_zero, List.getElem?_cons_succ, mkAgg, Nat.add_eq_left, Nat.left_eq_add, Nat.one_ne_zero, ble_dec, beq_dec, decide_eq_true_eq, Nat.reduceLeDiff, Nat.le_refl, fillA, pureVs, pureV, beq_int, bne_int, Int.natCast_inj, eq_self, eqV, eqB, decide_true, decide_false, List.length_map, Int.toNat_natCast, List.getElem?_map, Option.map_some, Option.map_none, Int.natCast_nonneg, Option.some.injEq, lenV, binV, intBin, intV, idxA, ne_eq, not_true_eq_false, not_false_eq_true, List.drop, List.take, RetP, retP, resV, resOne, snapV, snapVs, snapR, snapRs, ownSz, pickV, cond_true, cond_false, bTT, bTF, bFT, bFF, Bool.not_true, Bool.not_false, AO.isC, Bool.or_true, Bool.true_or, Bool.or_false, Bool.false_or, WpE_cons, WpE_nil, opE, evE_some, guardE_true, guardE_false, WpD_cons, WpD_nil, opD, evD_some, guardD_true, guardD_false, podC, wantC, n0, n1, hst, hn, b0, h2, h5, hget, hw]
            refine next (by simp [metB, e2, hst, hn]) _ _ _ (by omega) ?_ ?_ ?_ ?_ ?_
            all_goals simp only [look_if, blkAt_if, Nat.reduceEqDiff, if_true, if_false, n0, n1]
          · have := stop (by simp [metB, e2, hst, hn])
            simp only [Wp_seq, Wp_ops, Wp_cond, Wp_skip, Wp_ret, Wp_exit, Wp_block, WpO_cons, WpO_nil, opQ, evOp, evO, evOs, evQ_some, guardV, guardQ_true, guardQ_false, boolQ_true, boolQ_false, argsA, pvs, putS, cellsOf, scals, scal, seqQ_normal, seqQ_ret, seqQ_exit, blkQ_normal, blkQ_ret, blkQ_exit, look_if, blkAt_if, if_true, if_false, Nat.reduceEqDiff, Nat.reduceAdd, true_implies, reduceCtorEq, false_implies, and_true, true_and, List.nil_append, List.cons_append, Bool.and_self, Nat.zero_add, Nat.add_zero, fieldA, nonNil, cellsAt, loadV_one, loadV_pvs, loadV_cons, mkAgg, allPV, List.drop_zero, List.drop_succ_cons, List.take_succ_cons, List.take_zero, List.length_cons, List.length_nil, Nat.beq_eq, storeB, patchL, beq_self_eq_true, ge_iff_le, gt_iff_lt, Int.reduceNeg, Int.reduceLE, Int.reduceLT, Int.reduceEq, extractV, List.getElem?_cons_zero, List.getElem?_cons_succ, mkAgg, Nat.add_eq_left, Nat.left_eq_add, Nat.one_ne_zero, ble_dec, beq_dec, decide_eq_true_eq, Nat.reduceLeDiff, Nat.le_refl, fillA, pureVs, pureV, beq_int, bne_int, Int.natCast_inj, eq_self, eqV, eqB, decide_true, decide_false, List.length_map, Int.toNat_natCast, List.getElem?_map, Option.map_some, Option.map_none, Int.natCast_nonneg, Option.some.injEq, lenV, binV, intBin, intV, idxA, ne_eq, not_true_eq_false, not_false_eq_true, List.drop, List.take, RetP, retP, resV, resOne, snapV, snapVs, snapR, snapRs, ownSz, pickV, cond_true, cond_false, bTT, bTF, bFT, bFF, Bool.not_true, Bool.not_false, AO.isC, Bool.or_true, Bool.true_or, Bool.or_false, Bool.false_or, WpE_cons, WpE_nil, opE, evE_some, guardE_true, guardE_false, WpD_cons, WpD_nil, opD, evD_some, guardD_true, guardD_false, podC, wantC, n0, n1, hst, hn, b0, h2, h5, hget, this]
        · by_cases hn : p.node = 0
          · have := stop (by simp [metB, e2, hst, hn])
            simp only [Wp_seq, Wp_ops, Wp_cond, Wp_skip, Wp_ret, Wp_exit, Wp_block, WpO_cons, WpO_nil, opQ, evOp, evO, evOs, evQ_some, guardV, guardQ_true, guardQ_false, boolQ_true, boolQ_false, argsA, pvs, putS, cellsOf, scals, scal, seqQ_normal, seqQ_ret, seqQ_exit, blkQ_normal, blkQ_ret, blkQ_exit, look_if, blkAt_if, if_true, if_false, Nat.reduceEqDiff, Nat.reduceAdd, true_implies, reduceCtorEq, false_implies, and_true, true_and, List.nil_append, List.cons_append, Bool.and_self, Nat.zero_add, Nat.add_zero, fieldA, nonNil, cellsAt, loadV_one, loadV_pvs, loadV_cons, mkAgg, allPV, List.drop_zero, List.drop_succ_cons, List.take_succ_cons, List.take_zero, List.length_cons, List.length_nil, Nat.beq_eq, storeB, patchL, beq_self_eq_true, ge_iff_le, gt_iff_lt, Int.reduceNeg, Int.reduceLE, Int.reduceLT, Int.reduceEq, extractV, List.getElem?_cons_zero, List.getElem?_cons_succ, mkAgg, Nat.add_eq_left, Nat.left_eq_add, Nat.one_ne_zero, ble_dec, beq_dec, decide_eq_true_eq, Nat.reduceLeDiff, Nat.le_refl, fillA, pureVs, pureV, beq_int, bne_int, Int.natCast_inj, eq_self, eqV, eqB, decide_true, decide_false, List.length_map, Int.toNat_natCast, List.getElem?_map, Option.map_some, Option.map_none, Int.natCast_nonneg, Option.some.injEq, lenV, binV, intBin, intV, idxA, ne_eq, not_true_eq_false, not_false_eq_true, List.drop, List.take, RetP, retP, resV, resOne, snapV, snapVs, snapR, snapRs, ownSz, pickV, cond_true, cond_false, bTT, bTF, bFT, bFF, Bool.not_true, Bool.not_false, AO.isC, Bool.or_true, Bool.true_or, Bool.or_false, Bool.false_or, WpE_cons, WpE_nil, opE, evE_some, guardE_true, guardE_false, WpD_cons, WpD_nil, opD, evD_some, guardD_true, guardD_false, podC, wantC, n0, n1, hst, hn, b0, h2, h5, hget, this]
          · by_cases hr : p.req = w.req
            · simp only [Wp_seq, Wp_ops, Wp_cond, Wp_skip, Wp_ret, Wp_exit, Wp_block, WpO_cons, WpO_nil, opQ, evOp, evO, evOs, evQ_some, guardV, guardQ_true, guardQ_false, boolQ_true, boolQ_false, argsA, pvs, putS, cellsOf, scals, scal, seqQ_normal, seqQ_ret, seqQ_exit, blkQ_normal, blkQ_ret, blkQ_exit, look_if, blkAt_if, if_true, if_false, Nat.reduceEqDiff, Nat.reduceAdd, true_implies, reduceCtorEq, false_implies, and_true, true_and, List.nil_append, List.cons_append, Bool.and_self, Nat.zero_add, Nat.add_zero, fieldA, nonNil, cellsAt, loadV_one, loadV_pvs, loadV_cons, mkAgg, allPV, List.drop_zero, List.drop_succ_cons, List.take_succ_cons, List.take_zero, List.length_cons, List.length_nil, Nat.beq_eq, storeB, patchL, beq_self_eq_true, ge_iff_le, gt_iff_lt, Int.reduceNeg, Int.reduceLE, Int.reduceLT, Int.reduceEq, extractV, List.getElem?_cons_zero, List.getElem?_cons_succ, mkAgg, Nat.add_eq_left, Nat.left_eq_add, Nat.one_ne_zero, ble_dec, beq_dec, decide_eq_true_eq, Nat.reduceLeDiff, Nat.le_refl, fillA, pureVs, pureV, beq_int, bne_int, Int.natCast_inj, eq_self, eqV, eqB, decide_true, decide_false, List.length_map, Int.toNat_natCast, List.getElem?_map, Option.map_some, Option.map_none, Int.natCast_nonneg, Option.some.injEq, lenV, binV, intBin, intV, idxA, ne_eq, not_true_eq_false, not_false_eq_true, List.drop, List.take, RetP, retP, resV, resOne, snapV, snapVs, snapR, snapRs, ownSz, pickV, cond_true, cond_false, bTT, bTF, bFT, bFF, Bool.not_true, Bool.not_false, AO.isC, Bool.or_true, Bool.true_or, Bool.or_false, Bool.false_or, WpE_cons, WpE_nil, opE, evE_some, guardE_true, guardE_false, WpD_cons, WpD_nil, opD, evD_some, guardD_true, guardD_false, podC, wantC, n0, n1, hst, hn, eqVec, hr, b0, h2, h5, hget, hw]
              refine next (by simp [metB, e2, hst, hn, hr]) _ _ _ (by omega) ?_ ?_ ?_ ?_ ?_
              all_goals simp only [look_if, blkAt_if, Nat.reduceEqDiff, if_true, if_false, n0, n1]
            · have := stop (by simp [metB, e2, hst, hn, hr])
              simp only [Wp_seq, Wp_ops, Wp_cond, Wp_skip, Wp_ret, Wp_exit, Wp_block, WpO_cons, WpO_nil, opQ, evOp, evO, evOs, evQ_some, guardV, guardQ_true, guardQ_false, boolQ_true, boolQ_false, argsA, pvs, putS, cellsOf, scals, scal, seqQ_normal, seqQ_ret, seqQ_exit, blkQ_normal, blkQ_ret, blkQ_exit, look_if, blkAt_if, if_true, if_false, Nat.reduceEqDiff, Nat.reduceAdd, true_implies, reduceCtorEq, false_implies, and_true, true_and, List.nil_append, List.cons_append, Bool.and_self, Nat.zero_add, Nat.add_zero, fieldA, nonNil, cellsAt, loadV_one, loadV_pvs, loadV_cons, mkAgg, allPV, List.drop_zero, List.drop_succ_cons, List.take_succ_cons, List.take_zero, List.length_cons, List.length_nil, Nat.beq_eq, storeB, patchL, beq_self_eq_true, ge_iff_le, gt_iff_lt, Int.reduceNeg, Int.reduceLE, Int.reduceLT, Int.reduceEq, extractV, List.getElem?_cons_zero, List.getElem?_cons_succ, mkAgg, Nat.add_eq_left, Nat.left_eq_add, Nat.one_ne_zero, ble_dec, beq_dec, decide_eq_true_eq, Nat.reduceLeDiff, Nat.le_refl, fillA, pureVs, pureV, beq_int, bne_int, Int.natCast_inj, eq_self, eqV, eqB, decide_true, decide_false, List.length_map, Int.toNat_natCast, List.getElem?_map, Option.map_some, Option.map_none, Int.natCast_nonneg, Option.some.injEq, lenV, binV, intBin, intV, idxA, ne_eq, not_true_eq_false, not_false_eq_true, List.drop, List.take, RetP, retP, resV, resOne, snapV, snapVs, snapR, snapRs, ownSz, pickV, cond_true, cond_false, bTT, bTF, bFT, bFF, Bool.not_true, Bool.not_false, AO.isC, Bool.or_true, Bool.true_or, Bool.or_false, Bool.false_or, WpE_cons, WpE_nil, opE, evE_some, guardE_true, guardE_false, WpD_cons, WpD_nil, opD, evD_some, guardD_true, guardD_false, podC, wantC, n0, n1, hst, hn, eqVec, hr, b0, h2, h5, hget, this]
  simp only [f165, Wp_seq, Wp_ops, Wp_cond, Wp_skip, Wp_ret, Wp_exit, Wp_block, WpO_cons, WpO_nil, opQ, evOp, evO, evOs, evQ_some, guardV, guardQ_true, guardQ_false, boolQ_true, boolQ_false, argsA, pvs, putS, cellsOf, scals, scal, seqQ_normal, seqQ_ret, seqQ_exit, blkQ_normal, blkQ_ret, blkQ_exit, look_if, blkAt_if, if_true, if_false, Nat.reduceEqDiff, Nat.reduceAdd, true_implies, reduceCtorEq, false_implies, and_true, true_and, List.nil_append, List.cons_append, Bool.and_self, Nat.zero_add, Nat.add_zero, fieldA, nonNil, cellsAt, loadV_one, loadV_pvs, loadV_cons, mkAgg, allPV, List.drop_zero, List.drop_succ_cons, List.take_succ_cons, List.take_zero, List.length_cons, List.length_nil, Nat.beq_eq, storeB, patchL, beq_self_eq_true, ge_iff_le, gt_iff_lt, Int.reduceNeg, Int.reduceLE, Int.reduceLT, Int.reduceEq, extractV, List.getElem?_cons_zero, List.getElem?_cons_succ, mkAgg, Nat.add_eq_left, Nat.left_eq_add, Nat.one_ne_zero, ble_dec, beq_dec, decide_eq_true_eq, Nat.reduceLeDiff, Nat.le_refl, fillA, pureVs, pureV, beq_int, bne_int, Int.natCast_inj, eq_self, eqV, eqB, decide_true, decide_false, List.length_map, Int.toNat_natCast, List.getElem?_map, Option.map_some, Option.map_none, Int.natCast_nonneg, Option.some.injEq, lenV, binV, intBin, intV, idxA, ne_eq, not_true_eq_false, not_false_eq_true, List.drop, List.take, RetP, retP, resV, resOne, snapV, snapVs, snapR, snapRs, ownSz, pickV, cond_true, cond_false, bTT, bTF, bFT, bFF, Bool.not_true, Bool.not_false, AO.isC, Bool.or_true, Bool.true_or, Bool.or_false, Bool.false_or, WpE_cons, WpE_nil, opE, evE_some, guardE_true, guardE_false, WpD_cons, WpD_nil, opD, evD_some, guardD_true, guardD_false, specP, stateP]
  exact loop x.wants 0 rfl (Nat.zero_le _) _ _ 2 (Nat.le_refl _) rfl rfl rfl rfl rfl
end
end Go.Proofs.YtmeigdjfcecidaaDoor.Ab
/- Layer 5: what a move makes. -/
set_option linter.unusedVariables false
set_option linter.unusedSimpArgs false
namespace Go.Proofs.YtmeigdjfcecidaaDoor.Ab
open Go

/-! ### Calls in the caller's blocks -/
theorem callQ_raw {T : Tab} {n : Nat} {args : List AV} {d : Option Nat} {l : List AOper} {st : St} {K : St → Prop} {v : AV} {hp : Hl} {nx : Nat} (hr : T.raw n = true) (h : D T n args st.hp st.nx = some (v, hp, nx)) :
    callQ T n args d l st K ↔ WpO T l ⟨putS st d v, hp, nx⟩ K := by
  unfold callQ doCall
  simp only [hr, h, Option.some.injEq]
  constructor
  · rintro ⟨_, rfl, h⟩; exact h
  · exact fun h => ⟨_, rfl, h⟩
def rawq (res : List ARes) (Q : AV → Hl → Nat → Prop) (st : St) : Prop := match resV (look st.fr) (blkAt st.hp) res with
  | some vs => Q (resOne vs) st.hp st.nx
  | none => False
def RawQ (res : List ARes) (Q : AV → Hl → Nat → Prop) : Exit → St → Prop
  | .ret, st => rawq res Q st
  | .normal, st => rawq res Q st
  | _, _ => False
/-- A function of the kind that runs in its caller's blocks. -/
structure StdR (T : Tab) (n : Nat) (f : AFunc) : Prop where
  prim : T.prim n = none
  fn : T.fn n = some f
  still : T.still n = false
  raw : T.raw n = true
theorem D_wp {T : Tab} {n : Nat} {f : AFunc} {args : List AV} {hp : Hl} {nx : Nat} {Q : AV → Hl → Nat → Prop} (S : StdR T n f) (hN : Nat.ble args.length f.N = true) (h : Wp T false f.body ⟨argsA 0 args, hp, nx⟩ (RawQ f.res Q)) :
    ∃ v hp' nx', D T n args hp nx = some (v, hp', nx') ∧ Q v hp' nx' := by
  obtain ⟨e, st, h1, h2⟩ := h
  have he : (e = .ret ∨ e = .normal) ∧ rawq f.res Q st := by
    cases e with
    | ret => exact ⟨.inl rfl, h2⟩
    | normal => exact ⟨.inr rfl, h2⟩
    | _ => exact h2.elim
  obtain ⟨he, h3⟩ := he
  unfold rawq at h3
  split at h3
  · rename_i vs hvs
    exact ⟨_, _, _, D_body S.prim S.fn hN (by rw [S.still]; exact h1) he hvs, h3⟩
  · exact h3.elim

def node0 : Node := ⟨0, 0, ⟨0, 0, 0, 0⟩, ⟨0, 0, 0, 0⟩⟩
def nodeOf (id : Int) (l : List Node) : Option Node := l.find? (fun n => decide (n.id = id))
def nodeR : Option Node → PV
  | some n => .tuple [.agg (nodeC n), .bool true]
  | none => .tuple [.agg (nodeC node0), .bool false]
theorem node_loop {T : Tab} (l : List Node) (id : Int) (hl : l.length ≤ 2 ^ 30) (Q : Exit → St → Prop) (o : Option Node)
    (hend : o = none → ∀ fr hp nx, look fr 4 = .ptr 1 0 0 → blkAt hp 1 = .var (pvs (nodeC node0)) → Q (.exit 0) ⟨fr, hp, nx⟩)
    (hret : ∀ n, o = some n → ∀ fr hp nx, look fr 4 = .ptr 1 0 0 → look fr 5 = .pv (.bool true) → blkAt hp 1 = .var (pvs (nodeC n)) → Q .ret ⟨fr, hp, nx⟩) :
    ∀ (rest : List Node) (i : Nat), l.drop i = rest → i ≤ l.length → nodeOf id rest = o → ∀ (fr : List (Nat × AV)) (hp : Hl) (nx : Nat), 2 ≤ nx → look fr 4 = .ptr 1 0 0 → blkAt hp 1 = .var (pvs (nodeC node0)) →
      look fr 1 = .pv (.int .i64 id) → look fr 9 = .pv (.slice (l.map nodeC)) → look fr 10 = .pv (.int .i64 l.length) → look fr 11 = .pv (.int .i64 i) → Wp T false (.loop f82l0) ⟨fr, hp, nx⟩ Q := by
  intro rest
  induction rest with
  | nil =>
    intro i hd hi ho fr hp nx hn h4 b1 h1 h9 h10 h11
    have hlen := drop_nil hd hi
    rw [Wp_loop, Wp_eq f82l0.eq_1]
    simp only [Wp_seq, Wp_ops, Wp_cond, Wp_skip, Wp_ret, Wp_exit, Wp_block, WpO_cons, WpO_nil, opQ, evOp, evO, evOs, evQ_some, guardV, guardQ_true, guardQ_false, boolQ_true, boolQ_false, argsA, pvs, putS, cellsOf, scals, scal, seqQ_normal, seqQ_ret, seqQ_exit, blkQ_normal, blkQ_ret, blkQ_exit, look_if, blkAt_if, if_true, if_false, Nat.reduceEqDiff, Nat.reduceAdd, true_implies, reduceCtorEq, false_implies, and_true, true_and, List.nil_append, List.cons_append, Bool.and_self, Nat.zero_add, Nat.add_zero, fieldA, nonNil, cellsAt, loadV_one, loadV_pvs, loadV_cons, mkAgg, allPV, List.drop_zero, List.drop_succ_cons, List.take_succ_cons, List.take_zero, List.length_cons, List.length_nil, Nat.beq_eq, storeB, patchL, beq_self_eq_true, ge_iff_le, gt_iff_lt, Int.reduceNeg, Int.reduceLE, Int.reduceLT, Int.reduceEq, extractV, List.getElem?_cons_zero, List.getElem?_cons_succ, mkAgg, Nat.add_eq_left, Nat.left_eq_add, Nat.one_ne_zero, ble_dec, beq_dec, decide_eq_true_eq, Nat.reduceLeDiff, Nat.le_refl, fillA, pureVs, pureV, beq_int, bne_int, Int.natCast_inj, eq_self, eqV, eqB, decide_true, decide_false, List.length_map, Int.toNat_natCast, List.getElem?_map, Option.map_some, Option.map_none, Int.natCast_nonneg, Option.some.injEq, lenV, binV, intBin, intV, idxA, ne_eq, not_true_eq_false, not_false_eq_true, List.drop, List.take, RetP, retP, resV, resOne, snapV, snapVs, snapR, snapRs, ownSz, pickV, cond_true, cond_false, bTT, bTF, bFT, bFF, Bool.not_true, Bool.not_false, AO.isC, Bool.or_true, Bool.true_or, Bool.or_false, Bool.false_or, WpE_cons, WpE_nil, opE, evE_some, guardE_true, guardE_false, WpD_cons, WpD_nil, opD, evD_some, guardD_true, guardD_false, h4, h1, h9, h10, h11, hlen, Int.lt_irrefl]
    refine hend ho.symm _ _ _ ?_ b1
    simp only [look_if, Nat.reduceEqDiff, if_false, h4]
  | cons n r ih =>
    intro i hd hi ho fr hp nx hn h4 b1 h1 h9 h10 h11
    obtain ⟨hget, hlt, hw, hd', hi', hb⟩ := drop_cons hd hl
    have n1 : ¬ nx = 1 := by omega
    have b1' := b1
    simp only [nodeC, node0, pvs] at b1'
    rw [Wp_loop, Wp_eq f82l0.eq_1]
    by_cases hk : n.id = id
    · simp only [Wp_seq, Wp_ops, Wp_cond, Wp_skip, Wp_ret, Wp_exit, Wp_block, WpO_cons, WpO_nil, opQ, evOp, evO, evOs, evQ_some, guardV, guardQ_true, guardQ_false, boolQ_true, boolQ_false, argsA, pvs, putS, cellsOf, scals, scal, seqQ_normal, seqQ_ret, seqQ_exit, blkQ_normal, blkQ_ret, blkQ_exit, look_if, blkAt_if, if_true, if_false, Nat.reduceEqDiff, Nat.reduceAdd, true_implies, reduceCtorEq, false_implies, and_true, true_and, List.nil_append, List.cons_append, Bool.and_self, Nat.zero_add, Nat.add_zero, fieldA, nonNil, cellsAt, loadV_one, loadV_pvs, loadV_cons, mkAgg, allPV, List.drop_zero, List.drop_succ_cons, List.take_succ_cons, List.take_zero, List.length_cons, List.length_nil, Nat.beq_eq, storeB, patchL, beq_self_eq_true, ge_iff_le, gt_iff_lt, Int.reduceNeg, Int.reduceLE, Int.reduceLT, Int.reduceEq, extractV, List.getElem?_cons_zero, List.getElem?_cons_succ, mkAgg, Nat.add_eq_left, Nat.left_eq_add, Nat.one_ne_zero, ble_dec, beq_dec, decide_eq_true_eq, Nat.reduceLeDiff, Nat.le_refl, fillA, pureVs, pureV, beq_int, bne_int, Int.natCast_inj, eq_self, eqV, eqB, decide_true, decide_false, List.length_map, Int.toNat_natCast, List.getElem?_map, Option.map_some, Option.map_none, Int.natCast_nonneg, Option.some.injEq, lenV, binV, intBin, intV, idxA, ne_eq, not_true_eq_false, not_false_eq_true, List.drop, List.take, RetP, retP, resV, resOne, snapV, snapVs, snapR, snapRs, ownSz, pickV, cond_true, cond_false, bTT, bTF, bFT, bFF, Bool.not_true, Bool.not_false, AO.isC, Bool.or_true, Bool.true_or, Bool.or_false, Bool.false_or, WpE_cons, WpE_nil, opE, evE_some, guardE_true, guardE_false, WpD_cons, WpD_nil, opD, evD_some, guardD_true, guardD_false, h4, b1', h1, h9, h10, h11, hlt, hget, nodeC, n1, hk]
      refine hret n (by rw [← ho]; simp [nodeOf, hk]) _ _ _ ?_ ?_ ?_
      all_goals simp only [look_if, blkAt_if, Nat.reduceEqDiff, if_true, if_false, h4, n1, nodeC, pvs, hk]
    · simp only [Wp_seq, Wp_ops, Wp_cond, Wp_skip, Wp_ret, Wp_exit, Wp_block, WpO_cons, WpO_nil, opQ, evOp, evO, evOs, evQ_some, guardV, guardQ_true, guardQ_false, boolQ_true, boolQ_false, argsA, pvs, putS, cellsOf, scals, scal, seqQ_normal, seqQ_ret, seqQ_exit, blkQ_normal, blkQ_ret, blkQ_exit, look_if, blkAt_if, if_true, if_false, Nat.reduceEqDiff, Nat.reduceAdd, true_implies, reduceCtorEq, false_implies, and_true, true_and, List.nil_append, List.cons_append, Bool.and_self, Nat.zero_add, Nat.add_zero, fieldA, nonNil, cellsAt, loadV_one, loadV_pvs, loadV_cons, mkAgg, allPV, List.drop_zero, List.drop_succ_cons, List.take_succ_cons, List.take_zero, List.length_cons, List.length_nil, Nat.beq_eq, storeB, patchL, beq_self_eq_true, ge_iff_le, gt_iff_lt, Int.reduceNeg, Int.reduceLE, Int.reduceLT, Int.reduceEq, extractV, List.getElem?_cons_zero, List.getElem?_cons_succ, mkAgg, Nat.add_eq_left, Nat.left_eq_add, Nat.one_ne_zero, ble_dec, beq_dec, decide_eq_true_eq, Nat.reduceLeDiff, Nat.le_refl, fillA, pureVs, pureV, beq_int, bne_int, Int.natCast_inj, eq_self, eqV, eqB, decide_true, decide_false, List.length_map, Int.toNat_natCast, List.getElem?_map, Option.map_some, Option.map_none, Int.natCast_nonneg, Option.some.injEq, lenV, binV, intBin, intV, idxA, ne_eq, not_true_eq_false, not_false_eq_true, List.drop, List.take, RetP, retP, resV, resOne, snapV, snapVs, snapR, snapRs, ownSz, pickV, cond_true, cond_false, bTT, bTF, bFT, bFF, Bool.not_true, Bool.not_false, AO.isC, Bool.or_true, Bool.true_or, Bool.or_false, Bool.false_or, WpE_cons, WpE_nil, opE, evE_some, guardE_true, guardE_false, WpD_cons, WpD_nil, opD, evD_some, guardD_true, guardD_false, h4, b1', h1, h9, h10, h11, hlt, hget, nodeC, n1, hk, hw]
      refine ih (i + 1) hd' hi' (by rw [← ho]; simp [nodeOf, hk]) _ _ _ (by omega) ?_ ?_ ?_ ?_ ?_ ?_
      all_goals simp only [look_if, blkAt_if, Nat.reduceEqDiff, if_true, if_false, h4, b1, n1, h1, h9, h10]
theorem node_ok {T : Tab} (h : Std T 82 f82) (s : Snap) (id : Int) (hl : s.nodes.length ≤ 2 ^ 30) : Gives T 82 [snapP s, .int .i64 id] (nodeR (nodeOf id s.nodes)) := by
  refine gives h rfl ?_
  simp only [f82, Wp_seq, Wp_ops, Wp_cond, Wp_skip, Wp_ret, Wp_exit, Wp_block, WpO_cons, WpO_nil, opQ, evOp, evO, evOs, evQ_some, guardV, guardQ_true, guardQ_false, boolQ_true, boolQ_false, argsA, pvs, putS, cellsOf, scals, scal, seqQ_normal, seqQ_ret, seqQ_exit, blkQ_normal, blkQ_ret, blkQ_exit, look_if, blkAt_if, if_true, if_false, Nat.reduceEqDiff, Nat.reduceAdd, true_implies, reduceCtorEq, false_implies, and_true, true_and, List.nil_append, List.cons_append, Bool.and_self, Nat.zero_add, Nat.add_zero, fieldA, nonNil, cellsAt, loadV_one, loadV_pvs, loadV_cons, mkAgg, allPV, List.drop_zero, List.drop_succ_cons, List.take_succ_cons, List.take_zero, List.length_cons, List.length_nil, Nat.beq_eq, storeB, patchL, beq_self_eq_true, ge_iff_le, gt_iff_lt, Int.reduceNeg, Int.reduceLE, Int.reduceLT, Int.reduceEq, extractV, List.getElem?_cons_zero, List.getElem?_cons_succ, mkAgg, Nat.add_eq_left, Nat.left_eq_add, Nat.one_ne_zero, ble_dec, beq_dec, decide_eq_true_eq, Nat.reduceLeDiff, Nat.le_refl, fillA, pureVs, pureV, beq_int, bne_int, Int.natCast_inj, eq_self, eqV, eqB, decide_true, decide_false, List.length_map, Int.toNat_natCast, List.getElem?_map, Option.map_some, Option.map_none, Int.natCast_nonneg, Option.some.injEq, lenV, binV, intBin, intV, idxA, ne_eq, not_true_eq_false, not_false_eq_true, List.drop, List.take, RetP, retP, resV, resOne, snapV, snapVs, snapR, snapRs, ownSz, pickV, cond_true, cond_false, bTT, bTF, bFT, bFF, Bool.not_true, Bool.not_false, AO.isC, Bool.or_true, Bool.true_or, Bool.or_false, Bool.false_or, WpE_cons, WpE_nil, opE, evE_some, guardE_true, guardE_false, WpD_cons, WpD_nil, opD, evD_some, guardD_true, guardD_false, snapP]
  refine node_loop s.nodes id hl _ (nodeOf id s.nodes) (fun ho fr hp nx h4 b1 => ?_) (fun n ho fr hp nx h4 h5 b1 => ?_) s.nodes 0 rfl (Nat.zero_le _) rfl _ _ _ (Nat.le_refl _) rfl rfl rfl rfl rfl rfl
  · simp only [nodeC, node0, pvs] at b1
    simp only [Wp_seq, Wp_ops, Wp_cond, Wp_skip, Wp_ret, Wp_exit, Wp_block, WpO_cons, WpO_nil, opQ, evOp, evO, evOs, evQ_some, guardV, guardQ_true, guardQ_false, boolQ_true, boolQ_false, argsA, pvs, putS, cellsOf, scals, scal, seqQ_normal, seqQ_ret, seqQ_exit, blkQ_normal, blkQ_ret, blkQ_exit, look_if, blkAt_if, if_true, if_false, Nat.reduceEqDiff, Nat.reduceAdd, true_implies, reduceCtorEq, false_implies, and_true, true_and, List.nil_append, List.cons_append, Bool.and_self, Nat.zero_add, Nat.add_zero, fieldA, nonNil, cellsAt, loadV_one, loadV_pvs, loadV_cons, mkAgg, allPV, List.drop_zero, List.drop_succ_cons, List.take_succ_cons, List.take_zero, List.length_cons, List.length_nil, Nat.beq_eq, storeB, patchL, beq_self_eq_true, ge_iff_le, gt_iff_lt, Int.reduceNeg, Int.reduceLE, Int.reduceLT, Int.reduceEq, extractV, List.getElem?_cons_zero, List.getElem?_cons_succ, mkAgg, Nat.add_eq_left, Nat.left_eq_add, Nat.one_ne_zero, ble_dec, beq_dec, decide_eq_true_eq, Nat.reduceLeDiff, Nat.le_refl, fillA, pureVs, pureV, beq_int, bne_int, Int.natCast_inj, eq_self, eqV, eqB, decide_true, decide_false, List.length_map, Int.toNat_natCast, List.getElem?_map, Option.map_some, Option.map_none, Int.natCast_nonneg, Option.some.injEq, lenV, binV, intBin, intV, idxA, ne_eq, not_true_eq_false, not_false_eq_true, List.drop, List.take, RetP, retP, resV, resOne, snapV, snapVs, snapR, snapRs, ownSz, pickV, cond_true, cond_false, bTT, bTF, bFT, bFF, Bool.not_true, Bool.not_false, AO.isC, Bool.or_true, Bool.true_or, Bool.or_false, Bool.false_or, WpE_cons, WpE_nil, opE, evE_some, guardE_true, guardE_false, WpD_cons, WpD_nil, opD, evD_some, guardD_true, guardD_false, ho, nodeR, h4, b1, nodeC, node0]
  · simp only [nodeC, pvs] at b1
    simp only [Wp_seq, Wp_ops, Wp_cond, Wp_skip, Wp_ret, Wp_exit, Wp_block, WpO_cons, WpO_nil, opQ, evOp, evO, evOs, evQ_some, guardV, guardQ_true, guardQ_false, boolQ_true, boolQ_false, argsA, pvs, putS, cellsOf, scals, scal, seqQ_normal, seqQ_ret, seqQ_exit, blkQ_normal, blkQ_ret, blkQ_exit, look_if, blkAt_if, if_true, if_false, Nat.reduceEqDiff, Nat.reduceAdd, true_implies, reduceCtorEq, false_implies, and_true, true_and, List.nil_append, List.cons_append, Bool.and_self, Nat.zero_add, Nat.add_zero, fieldA, nonNil, cellsAt, loadV_one, loadV_pvs, loadV_cons, mkAgg, allPV, List.drop_zero, List.drop_succ_cons, List.take_succ_cons, List.take_zero, List.length_cons, List.length_nil, Nat.beq_eq, storeB, patchL, beq_self_eq_true, ge_iff_le, gt_iff_lt, Int.reduceNeg, Int.reduceLE, Int.reduceLT, Int.reduceEq, extractV, List.getElem?_cons_zero, List.getElem?_cons_succ, mkAgg, Nat.add_eq_left, Nat.left_eq_add, Nat.one_ne_zero, ble_dec, beq_dec, decide_eq_true_eq, Nat.reduceLeDiff, Nat.le_refl, fillA, pureVs, pureV, beq_int, bne_int, Int.natCast_inj, eq_self, eqV, eqB, decide_true, decide_false, List.length_map, Int.toNat_natCast, List.getElem?_map, Option.map_some, Option.map_none, Int.natCast_nonneg, Option.some.injEq, lenV, binV, intBin, intV, idxA, ne_eq, not_true_eq_false, not_false_eq_true, List.drop, List.take, RetP, retP, resV, resOne, snapV, snapVs, snapR, snapRs, ownSz, pickV, cond_true, cond_false, bTT, bTF, bFT, bFF, Bool.not_true, Bool.not_false, AO.isC, Bool.or_true, Bool.true_or, Bool.or_false, Bool.false_or, WpE_cons, WpE_nil, opE, evE_some, guardE_true, guardE_false, WpD_cons, WpD_nil, opD, evD_some, guardD_true, guardD_false, ho, nodeR, h4, h5, b1, nodeC]

def want0 : Want := ⟨0, ⟨0, 0, 0, 0⟩, false⟩
def wantOf (id : Int) (l : List Want) : Option Want := l.find? (fun n => decide (n.pod = id))
def wantR : Option Want → PV
  | some n => .tuple [.agg (wantC n), .bool true]
  | none => .tuple [.agg (wantC want0), .bool false]
theorem want_loop {T : Tab} (l : List Want) (id : Int) (hl : l.length ≤ 2 ^ 30) (Q : Exit → St → Prop) (o : Option Want)
    (hend : o = none → ∀ fr hp nx, look fr 4 = .ptr 1 0 0 → blkAt hp 1 = .var (pvs (wantC want0)) → Q (.exit 0) ⟨fr, hp, nx⟩)
    (hret : ∀ n, o = some n → ∀ fr hp nx, look fr 4 = .ptr 1 0 0 → look fr 5 = .pv (.bool true) → blkAt hp 1 = .var (pvs (wantC n)) → Q .ret ⟨fr, hp, nx⟩) :
    ∀ (rest : List Want) (i : Nat), l.drop i = rest → i ≤ l.length → wantOf id rest = o → ∀ (fr : List (Nat × AV)) (hp : Hl) (nx : Nat), 2 ≤ nx → look fr 4 = .ptr 1 0 0 → blkAt hp 1 = .var (pvs (wantC want0)) →
      look fr 1 = .pv (.int .i64 id) → look fr 9 = .pv (.slice (l.map wantC)) → look fr 10 = .pv (.int .i64 l.length) → look fr 11 = .pv (.int .i64 i) → Wp T false (.loop f83l0) ⟨fr, hp, nx⟩ Q := by
  intro rest
  induction rest with
  | nil =>
    intro i hd hi ho fr hp nx hn h4 b1 h1 h9 h10 h11
    have hlen := drop_nil hd hi
    rw [Wp_loop, Wp_eq f83l0.eq_1]
    simp only [Wp_seq, Wp_ops, Wp_cond, Wp_skip, Wp_ret, Wp_exit, Wp_block, WpO_cons, WpO_nil, opQ, evOp, evO, evOs, evQ_some, guardV, guardQ_true, guardQ_false, boolQ_true, boolQ_false, argsA, pvs, putS, cellsOf, scals, scal, seqQ_normal, seqQ_ret, seqQ_exit, blkQ_normal, blkQ_ret, blkQ_exit, look_if, blkAt_if, if_true, if_false, Nat.reduceEqDiff, Nat.reduceAdd, true_implies, reduceCtorEq, false_implies, and_true, true_and, List.nil_append, List.cons_append, Bool.and_self, Nat.zero_add, Nat.add_zero, fieldA, nonNil, cellsAt, loadV_one, loadV_pvs, loadV_cons, mkAgg, allPV, List.drop_zero, List.drop_succ_cons, List.take_succ_cons, List.take_zero, List.length_cons, List.length_nil, Nat.beq_eq, storeB, patchL, beq_self_eq_true, ge_iff_le, gt_iff_lt, Int.reduceNeg, Int.reduceLE, Int.reduceLT, Int.reduceEq, extractV, List.getElem?_cons_zero, List.getElem?_cons_succ, mkAgg, Nat.add_eq_left, Nat.left_eq_add, Nat.one_ne_zero, ble_dec, beq_dec, decide_eq_true_eq, Nat.reduceLeDiff, Nat.le_refl, fillA, pureVs, pureV, beq_int, bne_int, Int.natCast_inj, eq_self, eqV, eqB, decide_true, decide_false, List.length_map, Int.toNat_natCast, List.getElem?_map, Option.map_some, Option.map_none, Int.natCast_nonneg, Option.some.injEq, lenV, binV, intBin, intV, idxA, ne_eq, not_true_eq_false, not_false_eq_true, List.drop, List.take, RetP, retP, resV, resOne, snapV, snapVs, snapR, snapRs, ownSz, pickV, cond_true, cond_false, bTT, bTF, bFT, bFF, Bool.not_true, Bool.not_false, AO.isC, Bool.or_true, Bool.true_or, Bool.or_false, Bool.false_or, WpE_cons, WpE_nil, opE, evE_some, guardE_true, guardE_false, WpD_cons, WpD_nil, opD, evD_some, guardD_true, guardD_false, h4, h1, h9, h10, h11, hlen, Int.lt_irrefl]
    refine hend ho.symm _ _ _ ?_ b1
    simp only [look_if, Nat.reduceEqDiff, if_false, h4]
  | cons n r ih =>
    intro i hd hi ho fr hp nx hn h4 b1 h1 h9 h10 h11
    obtain ⟨hget, hlt, hw, hd', hi', hb⟩ := drop_cons hd hl
    have n1 : ¬ nx = 1 := by omega
    have b1' := b1
    simp only [wantC, want0, pvs] at b1'
    rw [Wp_loop, Wp_eq f83l0.eq_1]
    by_cases hk : n.pod = id
    · simp only [Wp_seq, Wp_ops, Wp_cond, Wp_skip, Wp_ret, Wp_exit, Wp_block, WpO_cons, WpO_nil, opQ, evOp, evO, evOs, evQ_some, guardV, guardQ_true, guardQ_false, boolQ_true, boolQ_false, argsA, pvs, putS, cellsOf, scals, scal, seqQ_normal, seqQ_ret, seqQ_exit, blkQ_normal, blkQ_ret, blkQ_exit, look_if, blkAt_if, if_true, if_false, Nat.reduceEqDiff, Nat.reduceAdd, true_implies, reduceCtorEq, false_implies, and_true, true_and, List.nil_append, List.cons_append, Bool.and_self, Nat.zero_add, Nat.add_zero, fieldA, nonNil, cellsAt, loadV_one, loadV_pvs, loadV_cons, mkAgg, allPV, List.drop_zero, List.drop_succ_cons, List.take_succ_cons, List.take_zero, List.length_cons, List.length_nil, Nat.beq_eq, storeB, patchL, beq_self_eq_true, ge_iff_le, gt_iff_lt, Int.reduceNeg, Int.reduceLE, Int.reduceLT, Int.reduceEq, extractV, List.getElem?_cons_zero, List.getElem?_cons_succ, mkAgg, Nat.add_eq_left, Nat.left_eq_add, Nat.one_ne_zero, ble_dec, beq_dec, decide_eq_true_eq, Nat.reduceLeDiff, Nat.le_refl, fillA, pureVs, pureV, beq_int, bne_int, Int.natCast_inj, eq_self, eqV, eqB, decide_true, decide_false, List.length_map, Int.toNat_natCast, List.getElem?_map, Option.map_some, Option.map_none, Int.natCast_nonneg, Option.some.injEq, lenV, binV, intBin, intV, idxA, ne_eq, not_true_eq_false, not_false_eq_true, List.drop, List.take, RetP, retP, resV, resOne, snapV, snapVs, snapR, snapRs, ownSz, pickV, cond_true, cond_false, bTT, bTF, bFT, bFF, Bool.not_true, Bool.not_false, AO.isC, Bool.or_true, Bool.true_or, Bool.or_false, Bool.false_or, WpE_cons, WpE_nil, opE, evE_some, guardE_true, guardE_false, WpD_cons, WpD_nil, opD, evD_some, guardD_true, guardD_false, h4, b1', h1, h9, h10, h11, hlt, hget, wantC, n1, hk]
      refine hret n (by rw [← ho]; simp [wantOf, hk]) _ _ _ ?_ ?_ ?_
      all_goals simp only [look_if, blkAt_if, Nat.reduceEqDiff, if_true, if_false, h4, n1, wantC, pvs, hk]
    · simp only [Wp_seq, Wp_ops, Wp_cond, Wp_skip, Wp_ret, Wp_exit, Wp_block, WpO_cons, WpO_nil, opQ, evOp, evO, evOs, evQ_some, guardV, guardQ_true, guardQ_false, boolQ_true, boolQ_false, argsA, pvs, putS, cellsOf, scals, scal, seqQ_normal, seqQ_ret, seqQ_exit, blkQ_normal, blkQ_ret, blkQ_exit, look_if, blkAt_if, if_true, if_false, Nat.reduceEqDiff, Nat.reduceAdd, true_implies, reduceCtorEq, false_implies, and_true, true_and, List.nil_append, List.cons_append, Bool.and_self, Nat.zero_add, Nat.add_zero, fieldA, nonNil, cellsAt, loadV_one, loadV_pvs, loadV_cons, mkAgg, allPV, List.drop_zero, List.drop_succ_cons, List.take_succ_cons, List.take_zero, List.length_cons, List.length_nil, Nat.beq_eq, storeB, patchL, beq_self_eq_true, ge_iff_le, gt_iff_lt, Int.reduceNeg, Int.reduceLE, Int.reduceLT, Int.reduceEq, extractV, List.getElem?_cons_zero, List.getElem?_cons_succ, mkAgg, Nat.add_eq_left, Nat.left_eq_add, Nat.one_ne_zero, ble_dec, beq_dec, decide_eq_true_eq, Nat.reduceLeDiff, Nat.le_refl, fillA, pureVs, pureV, beq_int, bne_int, Int.natCast_inj, eq_self, eqV, eqB, decide_true, decide_false, List.length_map, Int.toNat_natCast, List.getElem?_map, Option.map_some, Option.map_none, Int.natCast_nonneg, Option.some.injEq, lenV, binV, intBin, intV, idxA, ne_eq, not_true_eq_false, not_false_eq_true, List.drop, List.take, RetP, retP, resV, resOne, snapV, snapVs, snapR, snapRs, ownSz, pickV, cond_true, cond_false, bTT, bTF, bFT, bFF, Bool.not_true, Bool.not_false, AO.isC, Bool.or_true, Bool.true_or, Bool.or_false, Bool.false_or, WpE_cons, WpE_nil, opE, evE_some, guardE_true, guardE_false, WpD_cons, WpD_nil, opD, evD_some, guardD_true, guardD_false, h4, b1', h1, h9, h10, h11, hlt, hget, wantC, n1, hk, hw]
      refine ih (i + 1) hd' hi' (by rw [← ho]; simp [wantOf, hk]) _ _ _ (by omega) ?_ ?_ ?_ ?_ ?_ ?_
      all_goals simp only [look_if, blkAt_if, Nat.reduceEqDiff, if_true, if_false, h4, b1, n1, h1, h9, h10]
theorem want_ok {T : Tab} (h : Std T 83 f83) (x : Spec) (id : Int) (hl : x.wants.length ≤ 2 ^ 30) : Gives T 83 [specP x, .int .i64 id] (wantR (wantOf id x.wants)) := by
  refine gives h rfl ?_
  simp only [f83, Wp_seq, Wp_ops, Wp_cond, Wp_skip, Wp_ret, Wp_exit, Wp_block, WpO_cons, WpO_nil, opQ, evOp, evO, evOs, evQ_some, guardV, guardQ_true, guardQ_false, boolQ_true, boolQ_false, argsA, pvs, putS, cellsOf, scals, scal, seqQ_normal, seqQ_ret, seqQ_exit, blkQ_normal, blkQ_ret, blkQ_exit, look_if, blkAt_if, if_true, if_false, Nat.reduceEqDiff, Nat.reduceAdd, true_implies, reduceCtorEq, false_implies, and_true, true_and, List.nil_append, List.cons_append, Bool.and_self, Nat.zero_add, Nat.add_zero, fieldA, nonNil, cellsAt, loadV_one, loadV_pvs, loadV_cons, mkAgg, allPV, List.drop_zero, List.drop_succ_cons, List.take_succ_cons, List.take_zero, List.length_cons, List.length_nil, Nat.beq_eq, storeB, patchL, beq_self_eq_true, ge_iff_le, gt_iff_lt, Int.reduceNeg, Int.reduceLE, Int.reduceLT, Int.reduceEq, extractV, List.getElem?_cons_zero, List.getElem?_cons_succ, mkAgg, Nat.add_eq_left, Nat.left_eq_add, Nat.one_ne_zero, ble_dec, beq_dec, decide_eq_true_eq, Nat.reduceLeDiff, Nat.le_refl, fillA, pureVs, pureV, beq_int, bne_int, Int.natCast_inj, eq_self, eqV, eqB, decide_true, decide_false, List.length_map, Int.toNat_natCast, List.getElem?_map, Option.map_some, Option.map_none, Int.natCast_nonneg, Option.some.injEq, lenV, binV, intBin, intV, idxA, ne_eq, not_true_eq_false, not_false_eq_true, List.drop, List.take, RetP, retP, resV, resOne, snapV, snapVs, snapR, snapRs, ownSz, pickV, cond_true, cond_false, bTT, bTF, bFT, bFF, Bool.not_true, Bool.not_false, AO.isC, Bool.or_true, Bool.true_or, Bool.or_false, Bool.false_or, WpE_cons, WpE_nil, opE, evE_some, guardE_true, guardE_false, WpD_cons, WpD_nil, opD, evD_some, guardD_true, guardD_false, specP]
  refine want_loop x.wants id hl _ (wantOf id x.wants) (fun ho fr hp nx h4 b1 => ?_) (fun n ho fr hp nx h4 h5 b1 => ?_) x.wants 0 rfl (Nat.zero_le _) rfl _ _ _ (Nat.le_refl _) rfl rfl rfl rfl rfl rfl
  · simp only [wantC, want0, pvs] at b1
    simp only [Wp_seq, Wp_ops, Wp_cond, Wp_skip, Wp_ret, Wp_exit, Wp_block, WpO_cons, WpO_nil, opQ, evOp, evO, evOs, evQ_some, guardV, guardQ_true, guardQ_false, boolQ_true, boolQ_false, argsA, pvs, putS, cellsOf, scals, scal, seqQ_normal, seqQ_ret, seqQ_exit, blkQ_normal, blkQ_ret, blkQ_exit, look_if, blkAt_if, if_true, if_false, Nat.reduceEqDiff, Nat.reduceAdd, true_implies, reduceCtorEq, false_implies, and_true, true_and, List.nil_append, List.cons_append, Bool.and_self, Nat.zero_add, Nat.add_zero, fieldA, nonNil, cellsAt, loadV_one, loadV_pvs, loadV_cons, mkAgg, allPV, List.drop_zero, List.drop_succ_cons, List.take_succ_cons, List.take_zero, List.length_cons, List.length_nil, Nat.beq_eq, storeB, patchL, beq_self_eq_true, ge_iff_le, gt_iff_lt, Int.reduceNeg, Int.reduceLE, Int.reduceLT, Int.reduceEq, extractV, List.getElem?_cons_zero, List.getElem?_cons_succ, mkAgg, Nat.add_eq_left, Nat.left_eq_add, Nat.one_ne_zero, ble_dec, beq_dec, decide_eq_true_eq, Nat.reduceLeDiff, Nat.le_refl, fillA, pureVs, pureV, beq_int, bne_int, Int.natCast_inj, eq_self, eqV, eqB, decide_true, decide_false, List.length_map, Int.toNat_natCast, List.getElem?_map, Option.map_some, Option.map_none, Int.natCast_nonneg, Option.some.injEq, lenV, binV, intBin, intV, idxA, ne_eq, not_true_eq_false, not_false_eq_true, List.drop, List.take, RetP, retP, resV, resOne, snapV, snapVs, snapR, snapRs, ownSz, pickV, cond_true, cond_false, bTT, bTF, bFT, bFF, Bool.not_true, Bool.not_false, AO.isC, Bool.or_true, Bool.true_or, Bool.or_false, Bool.false_or, WpE_cons, WpE_nil, opE, evE_some, guardE_true, guardE_false, WpD_cons, WpD_nil, opD, evD_some, guardD_true, guardD_false, ho, wantR, h4, b1, wantC, want0]
  · simp only [wantC, pvs] at b1
    simp only [Wp_seq, Wp_ops, Wp_cond, Wp_skip, Wp_ret, Wp_exit, Wp_block, WpO_cons, WpO_nil, opQ, evOp, evO, evOs, evQ_some, guardV, guardQ_true, guardQ_false, boolQ_true, boolQ_false, argsA, pvs, putS, cellsOf, scals, scal, seqQ_normal, seqQ_ret, seqQ_exit, blkQ_normal, blkQ_ret, blkQ_exit, look_if, blkAt_if, if_true, if_false, Nat.reduceEqDiff, Nat.reduceAdd, true_implies, reduceCtorEq, false_implies, and_true, true_and, List.nil_append, List.cons_append, Bool.and_self, Nat.zero_add, Nat.add_zero, fieldA, nonNil, cellsAt, loadV_one, loadV_pvs, loadV_cons, mkAgg, allPV, List.drop_zero, List.drop_succ_cons, List.take_succ_cons, List.take_zero, List.length_cons, List.length_nil, Nat.beq_eq, storeB, patchL, beq_self_eq_true, ge_iff_le, gt_iff_lt, Int.reduceNeg, Int.reduceLE, Int.reduceLT, Int.reduceEq, extractV, List.getElem?_cons_zero, List.getElem?_cons_succ, mkAgg, Nat.add_eq_left, Nat.left_eq_add, Nat.one_ne_zero, ble_dec, beq_dec, decide_eq_true_eq, Nat.reduceLeDiff, Nat.le_refl, fillA, pureVs, pureV, beq_int, bne_int, Int.natCast_inj, eq_self, eqV, eqB, decide_true, decide_false, List.length_map, Int.toNat_natCast, List.getElem?_map, Option.map_some, Option.map_none, Int.natCast_nonneg, Option.some.injEq, lenV, binV, intBin, intV, idxA, ne_eq, not_true_eq_false, not_false_eq_true, List.drop, List.take, RetP, retP, resV, resOne, snapV, snapVs, snapR, snapRs, ownSz, pickV, cond_true, cond_false, bTT, bTF, bFT, bFF, Bool.not_true, Bool.not_false, AO.isC, Bool.or_true, Bool.true_or, Bool.or_false, Bool.false_or, WpE_cons, WpE_nil, opE, evE_some, guardE_true, guardE_false, WpD_cons, WpD_nil, opD, evD_some, guardD_true, guardD_false, ho, wantR, h4, h5, b1, wantC]

/-! ### Moves -/
def formB (m : Move) : Bool := if m.kind = 2 then decide (m.node = 0) && decide (m.over = 0) else if m.kind = 1 ∨ m.kind = 3 then decide (m.over = 0) else decide (m.kind = 4)
theorem form_ok {T : Tab} (h243 : Std T 243 f243) (m : Move) : Gives T 243 [moveP m] (.bool (formB m)) := by
  refine gives h243 rfl ?_
  unfold formB
  by_cases k2 : m.kind = 2
  · by_cases n0 : m.node = 0 <;> by_cases o0 : m.over = 0 <;> simp only [f243, Wp_seq, Wp_ops, Wp_cond, Wp_skip, Wp_ret, Wp_exit, Wp_block, WpO_cons, WpO_nil, opQ, evOp, evO, evOs, evQ_some, guardV, guardQ_true, guardQ_false, boolQ_true, boolQ_false, argsA, pvs, putS, cellsOf, scals, scal, seqQ_normal, seqQ_ret, seqQ_exit, blkQ_normal, blkQ_ret, blkQ_exit, look_if, blkAt_if, if_true, if_false, Nat.reduceEqDiff, Nat.reduceAdd, true_implies, reduceCtorEq, false_implies, and_true, true_and, List.nil_append, List.cons_append, Bool.and_self, Nat.zero_add, Nat.add_zero, fieldA, nonNil, cellsAt, loadV_one, loadV_pvs, loadV_cons, mkAgg, allPV, List.drop_zero, List.drop_succ_cons, List.take_succ_cons, List.take_zero, List.length_cons, List.length_nil, Nat.beq_eq, storeB, patchL, beq_self_eq_true, ge_iff_le, gt_iff_lt, Int.reduceNeg, Int.reduceLE, Int.reduceLT, Int.reduceEq, extractV, List.getElem?_cons_zero, List.getElem?_cons_succ, mkAgg, Nat.add_eq_left, Nat.left_eq_add, Nat.one_ne_zero, ble_dec, beq_dec, decide_eq_true_eq, Nat.reduceLeDiff, Nat.le_refl, fillA, pureVs, pureV, beq_int, bne_int, Int.natCast_inj, eq_self, eqV, eqB, decide_true, decide_false, List.length_map, Int.toNat_natCast, List.getElem?_map, Option.map_some, Option.map_none, Int.natCast_nonneg, Option.some.injEq, lenV, binV, intBin, intV, idxA, ne_eq, not_true_eq_false, not_false_eq_true, List.drop, List.take, RetP, retP, resV, resOne, snapV, snapVs, snapR, snapRs, ownSz, pickV, cond_true, cond_false, bTT, bTF, bFT, bFF, Bool.not_true, Bool.not_false, AO.isC, Bool.or_true, Bool.true_or, Bool.or_false, Bool.false_or, WpE_cons, WpE_nil, opE, evE_some, guardE_true, guardE_false, WpD_cons, WpD_nil, opD, evD_some, guardD_true, guardD_false, moveP, moveC, k2, n0, o0, Bool.and_true, Bool.and_false, Bool.false_and]
  · by_cases k1 : m.kind = 1
    · by_cases o0 : m.over = 0 <;> simp only [f243, Wp_seq, Wp_ops, Wp_cond, Wp_skip, Wp_ret, Wp_exit, Wp_block, WpO_cons, WpO_nil, opQ, evOp, evO, evOs, evQ_some, guardV, guardQ_true, guardQ_false, boolQ_true, boolQ_false, argsA, pvs, putS, cellsOf, scals, scal, seqQ_normal, seqQ_ret, seqQ_exit, blkQ_normal, blkQ_ret, blkQ_exit, look_if, blkAt_if, if_true, if_false, Nat.reduceEqDiff, Nat.reduceAdd, true_implies, reduceCtorEq, false_implies, and_true, true_and, List.nil_append, List.cons_append, Bool.and_self, Nat.zero_add, Nat.add_zero, fieldA, nonNil, cellsAt, loadV_one, loadV_pvs, loadV_cons, mkAgg, allPV, List.drop_zero, List.drop_succ_cons, List.take_succ_cons, List.take_zero, List.length_cons, List.length_nil, Nat.beq_eq, storeB, patchL, beq_self_eq_true, ge_iff_le, gt_iff_lt, Int.reduceNeg, Int.reduceLE, Int.reduceLT, Int.reduceEq, extractV, List.getElem?_cons_zero, List.getElem?_cons_succ, mkAgg, Nat.add_eq_left, Nat.left_eq_add, Nat.one_ne_zero, ble_dec, beq_dec, decide_eq_true_eq, Nat.reduceLeDiff, Nat.le_refl, fillA, pureVs, pureV, beq_int, bne_int, Int.natCast_inj, eq_self, eqV, eqB, decide_true, decide_false, List.length_map, Int.toNat_natCast, List.getElem?_map, Option.map_some, Option.map_none, Int.natCast_nonneg, Option.some.injEq, lenV, binV, intBin, intV, idxA, ne_eq, not_true_eq_false, not_false_eq_true, List.drop, List.take, RetP, retP, resV, resOne, snapV, snapVs, snapR, snapRs, ownSz, pickV, cond_true, cond_false, bTT, bTF, bFT, bFF, Bool.not_true, Bool.not_false, AO.isC, Bool.or_true, Bool.true_or, Bool.or_false, Bool.false_or, WpE_cons, WpE_nil, opE, evE_some, guardE_true, guardE_false, WpD_cons, WpD_nil, opD, evD_some, guardD_true, guardD_false, moveP, moveC, k1, o0, true_or]
    · by_cases k3 : m.kind = 3
      · by_cases o0 : m.over = 0 <;> simp only [f243, Wp_seq, Wp_ops, Wp_cond, Wp_skip, Wp_ret, Wp_exit, Wp_block, WpO_cons, WpO_nil, opQ, evOp, evO, evOs, evQ_some, guardV, guardQ_true, guardQ_false, boolQ_true, boolQ_false, argsA, pvs, putS, cellsOf, scals, scal, seqQ_normal, seqQ_ret, seqQ_exit, blkQ_normal, blkQ_ret, blkQ_exit, look_if, blkAt_if, if_true, if_false, Nat.reduceEqDiff, Nat.reduceAdd, true_implies, reduceCtorEq, false_implies, and_true, true_and, List.nil_append, List.cons_append, Bool.and_self, Nat.zero_add, Nat.add_zero, fieldA, nonNil, cellsAt, loadV_one, loadV_pvs, loadV_cons, mkAgg, allPV, List.drop_zero, List.drop_succ_cons, List.take_succ_cons, List.take_zero, List.length_cons, List.length_nil, Nat.beq_eq, storeB, patchL, beq_self_eq_true, ge_iff_le, gt_iff_lt, Int.reduceNeg, Int.reduceLE, Int.reduceLT, Int.reduceEq, extractV, List.getElem?_cons_zero, List.getElem?_cons_succ, mkAgg, Nat.add_eq_left, Nat.left_eq_add, Nat.one_ne_zero, ble_dec, beq_dec, decide_eq_true_eq, Nat.reduceLeDiff, Nat.le_refl, fillA, pureVs, pureV, beq_int, bne_int, Int.natCast_inj, eq_self, eqV, eqB, decide_true, decide_false, List.length_map, Int.toNat_natCast, List.getElem?_map, Option.map_some, Option.map_none, Int.natCast_nonneg, Option.some.injEq, lenV, binV, intBin, intV, idxA, ne_eq, not_true_eq_false, not_false_eq_true, List.drop, List.take, RetP, retP, resV, resOne, snapV, snapVs, snapR, snapRs, ownSz, pickV, cond_true, cond_false, bTT, bTF, bFT, bFF, Bool.not_true, Bool.not_false, AO.isC, Bool.or_true, Bool.true_or, Bool.or_false, Bool.false_or, WpE_cons, WpE_nil, opE, evE_some, guardE_true, guardE_false, WpD_cons, WpD_nil, opD, evD_some, guardD_true, guardD_false, moveP, moveC, k3, o0, or_true]
      · by_cases k4 : m.kind = 4 <;> simp only [f243, Wp_seq, Wp_ops, Wp_cond, Wp_skip, Wp_ret, Wp_exit, Wp_block, WpO_cons, WpO_nil, opQ, evOp, evO, evOs, evQ_some, guardV, guardQ_true, guardQ_false, boolQ_true, boolQ_false, argsA, pvs, putS, cellsOf, scals, scal, seqQ_normal, seqQ_ret, seqQ_exit, blkQ_normal, blkQ_ret, blkQ_exit, look_if, blkAt_if, if_true, if_false, Nat.reduceEqDiff, Nat.reduceAdd, true_implies, reduceCtorEq, false_implies, and_true, true_and, List.nil_append, List.cons_append, Bool.and_self, Nat.zero_add, Nat.add_zero, fieldA, nonNil, cellsAt, loadV_one, loadV_pvs, loadV_cons, mkAgg, allPV, List.drop_zero, List.drop_succ_cons, List.take_succ_cons, List.take_zero, List.length_cons, List.length_nil, Nat.beq_eq, storeB, patchL, beq_self_eq_true, ge_iff_le, gt_iff_lt, Int.reduceNeg, Int.reduceLE, Int.reduceLT, Int.reduceEq, extractV, List.getElem?_cons_zero, List.getElem?_cons_succ, mkAgg, Nat.add_eq_left, Nat.left_eq_add, Nat.one_ne_zero, ble_dec, beq_dec, decide_eq_true_eq, Nat.reduceLeDiff, Nat.le_refl, fillA, pureVs, pureV, beq_int, bne_int, Int.natCast_inj, eq_self, eqV, eqB, decide_true, decide_false, List.length_map, Int.toNat_natCast, List.getElem?_map, Option.map_some, Option.map_none, Int.natCast_nonneg, Option.some.injEq, lenV, binV, intBin, intV, idxA, ne_eq, not_true_eq_false, not_false_eq_true, List.drop, List.take, RetP, retP, resV, resOne, snapV, snapVs, snapR, snapRs, ownSz, pickV, cond_true, cond_false, bTT, bTF, bFT, bFF, Bool.not_true, Bool.not_false, AO.isC, Bool.or_true, Bool.true_or, Bool.or_false, Bool.false_or, WpE_cons, WpE_nil, opE, evE_some, guardE_true, guardE_false, WpD_cons, WpD_nil, opD, evD_some, guardD_true, guardD_false, moveP, moveC, k1, k2, k3, k4, or_false]

/-- A pod comes to a node. -/
def comeS (x : Spec) (p : Pod) (node : Int) : Pod := match wantOf p.id x.wants with
  | some w => if w.stay = true then { p with node := node, req := w.req } else { p with node := node }
  | none => { p with node := node }
theorem come_ok {T : Tab} (h242 : StdR T 242 f242) (h83 : Std T 83 f83) (x : Spec) (hx : x.wants.length ≤ 2 ^ 30) (pods : List Pod) (i id : Nat) (p : Pod) (hi : pods[i]? = some p) (node : Int) (hp : Hl) (nx : Nat) (hid : id < nx) (hb : blkAt hp id = .row 8 (pods.map podC)) :
    ∃ v hp' nx', D T 242 [.pv (specP x), .ptr id i 0, .pv (.int .i64 node)] hp nx = some (v, hp', nx') ∧ nx ≤ nx' ∧ blkAt hp' id = .row 8 ((pods.set i (comeS x p node)).map podC) ∧ ∀ j, j < nx → j ≠ id → blkAt hp' j = blkAt hp j := by
  refine D_wp h242 rfl ?_
  have k := want_ok h83 x p.id hx
  have e1 : ¬ id = nx := by omega
  have e2 : ¬ nx = id := by omega
  have hset : (pods.map podC)[i]? = some (podC p) := by rw [List.getElem?_map, hi]; rfl
  simp only [f242, Wp_seq, Wp_ops, Wp_cond, Wp_skip, Wp_ret, Wp_exit, Wp_block, WpO_cons, WpO_nil, opQ, evOp, evO, evOs, evQ_some, guardV, guardQ_true, guardQ_false, boolQ_true, boolQ_false, argsA, pvs, putS, cellsOf, scals, scal, seqQ_normal, seqQ_ret, seqQ_exit, blkQ_normal, blkQ_ret, blkQ_exit, look_if, blkAt_if, if_true, if_false, Nat.reduceEqDiff, Nat.reduceAdd, true_implies, reduceCtorEq, false_implies, and_true, true_and, List.nil_append, List.cons_append, Bool.and_self, Nat.zero_add, Nat.add_zero, fieldA, nonNil, cellsAt, loadV_one, loadV_pvs, loadV_cons, mkAgg, allPV, List.drop_zero, List.drop_succ_cons, List.take_succ_cons, List.take_zero, List.length_cons, List.length_nil, Nat.beq_eq, storeB, patchL, beq_self_eq_true, ge_iff_le, gt_iff_lt, Int.reduceNeg, Int.reduceLE, Int.reduceLT, Int.reduceEq, extractV, List.getElem?_cons_zero, List.getElem?_cons_succ, mkAgg, Nat.add_eq_left, Nat.left_eq_add, Nat.one_ne_zero, ble_dec, beq_dec, decide_eq_true_eq, Nat.reduceLeDiff, Nat.le_refl, fillA, pureVs, pureV, beq_int, bne_int, Int.natCast_inj, eq_self, eqV, eqB, decide_true, decide_false, List.length_map, Int.toNat_natCast, List.getElem?_map, Option.map_some, Option.map_none, Int.natCast_nonneg, Option.some.injEq, lenV, binV, intBin, intV, idxA, ne_eq, not_true_eq_false, not_false_eq_true, List.drop, List.take, RetP, retP, resV, resOne, snapV, snapVs, snapR, snapRs, ownSz, pickV, cond_true, cond_false, bTT, bTF, bFT, bFF, Bool.not_true, Bool.not_false, AO.isC, Bool.or_true, Bool.true_or, Bool.or_false, Bool.false_or, WpE_cons, WpE_nil, opE, evE_some, guardE_true, guardE_false, WpD_cons, WpD_nil, opD, evD_some, guardD_true, guardD_false, specP, hb, e2, hi, podC]
  refine Wp_draw.2 ?_
  have g1 : ∀ v : List PV, ((pods.map podC).set i v)[i]? = some v := fun v => by
    have : i < (pods.map podC).length := (List.getElem?_eq_some_iff.1 hset).1
    rw [List.getElem?_set_self this]
  have g2 : ∀ u v : List PV, (((pods.map podC).set i u).set i v) = (pods.map podC).set i v := fun u v => List.set_set ..
  have g3 : ∀ q : Pod, (pods.map podC).set i (podC q) = (pods.set i q).map podC := fun q => (List.map_set).symm
  have e3 : ¬ nx + 1 = id := by omega
  have e4 : ¬ id = nx + 1 := by omega
  cases hw : wantOf p.id x.wants with
  | none =>
    rw [hw] at k
    simp only [Wp_seq, Wp_ops, Wp_cond, Wp_skip, Wp_ret, Wp_exit, Wp_block, WpO_cons, WpO_nil, opQ, evOp, evO, evOs, evQ_some, guardV, guardQ_true, guardQ_false, boolQ_true, boolQ_false, argsA, pvs, putS, cellsOf, scals, scal, seqQ_normal, seqQ_ret, seqQ_exit, blkQ_normal, blkQ_ret, blkQ_exit, look_if, blkAt_if, if_true, if_false, Nat.reduceEqDiff, Nat.reduceAdd, true_implies, reduceCtorEq, false_implies, and_true, true_and, List.nil_append, List.cons_append, Bool.and_self, Nat.zero_add, Nat.add_zero, fieldA, nonNil, cellsAt, loadV_one, loadV_pvs, loadV_cons, mkAgg, allPV, List.drop_zero, List.drop_succ_cons, List.take_succ_cons, List.take_zero, List.length_cons, List.length_nil, Nat.beq_eq, storeB, patchL, beq_self_eq_true, ge_iff_le, gt_iff_lt, Int.reduceNeg, Int.reduceLE, Int.reduceLT, Int.reduceEq, extractV, List.getElem?_cons_zero, List.getElem?_cons_succ, mkAgg, Nat.add_eq_left, Nat.left_eq_add, Nat.one_ne_zero, ble_dec, beq_dec, decide_eq_true_eq, Nat.reduceLeDiff, Nat.le_refl, fillA, pureVs, pureV, beq_int, bne_int, Int.natCast_inj, eq_self, eqV, eqB, decide_true, decide_false, List.length_map, Int.toNat_natCast, List.getElem?_map, Option.map_some, Option.map_none, Int.natCast_nonneg, Option.some.injEq, lenV, binV, intBin, intV, idxA, ne_eq, not_true_eq_false, not_false_eq_true, List.drop, List.take, RetP, retP, resV, resOne, snapV, snapVs, snapR, snapRs, ownSz, pickV, cond_true, cond_false, bTT, bTF, bFT, bFF, Bool.not_true, Bool.not_false, AO.isC, Bool.or_true, Bool.true_or, Bool.or_false, Bool.false_or, WpE_cons, WpE_nil, opE, evE_some, guardE_true, guardE_false, WpD_cons, WpD_nil, opD, evD_some, guardD_true, guardD_false, specP, hb, e1, e2, e3, e4, hi, podC, g1, k.callE, wantR, wantC, want0]
    refine ⟨?_, ?_⟩
    · simp only [chkFrom, allLt, storeB', restOK, mem, indepB, En.reads, aTmps, aTmpsL, aTmpsP, aTmpsO, gTmps, AO.tmps, disj, keys, optL, rdEv, idOf, List.reverse_cons, List.reverse_nil, List.nil_append, List.cons_append, List.append_nil, Wp_seq, Wp_ops, Wp_cond, Wp_skip, Wp_ret, Wp_exit, Wp_block, WpO_cons, WpO_nil, opQ, evOp, evO, evOs, evQ_some, guardV, guardQ_true, guardQ_false, boolQ_true, boolQ_false, argsA, pvs, putS, cellsOf, scals, scal, seqQ_normal, seqQ_ret, seqQ_exit, blkQ_normal, blkQ_ret, blkQ_exit, look_if, blkAt_if, if_true, if_false, Nat.reduceEqDiff, Nat.reduceAdd, true_implies, reduceCtorEq, false_implies, and_true, true_and, List.nil_append, List.cons_append, Bool.and_self, Nat.zero_add, Nat.add_zero, fieldA, nonNil, cellsAt, loadV_one, loadV_pvs, loadV_cons, mkAgg, allPV, List.drop_zero, List.drop_succ_cons, List.take_succ_cons, List.take_zero, List.length_cons, List.length_nil, Nat.beq_eq, storeB, patchL, beq_self_eq_true, ge_iff_le, gt_iff_lt, Int.reduceNeg, Int.reduceLE, Int.reduceLT, Int.reduceEq, extractV, List.getElem?_cons_zero, List.getElem?_cons_succ, mkAgg, Nat.add_eq_left, Nat.left_eq_add, Nat.one_ne_zero, ble_dec, beq_dec, decide_eq_true_eq, Nat.reduceLeDiff, Nat.le_refl, fillA, pureVs, pureV, beq_int, bne_int, Int.natCast_inj, eq_self, eqV, eqB, decide_true, decide_false, List.length_map, Int.toNat_natCast, List.getElem?_map, Option.map_some, Option.map_none, Int.natCast_nonneg, Option.some.injEq, lenV, binV, intBin, intV, idxA, ne_eq, not_true_eq_false, not_false_eq_true, List.drop, List.take, RetP, retP, resV, resOne, snapV, snapVs, snapR, snapRs, ownSz, pickV, cond_true, cond_false, bTT, bTF, bFT, bFF, Bool.not_true, Bool.not_false, AO.isC, Bool.or_true, Bool.true_or, Bool.or_false, Bool.false_or, WpE_cons, WpE_nil, opE, evE_some, guardE_true, guardE_false, WpD_cons, WpD_nil, opD, evD_some, guardD_true, guardD_false, e1, e2, e3, e4, Bool.and_true, Bool.true_and]; rfl
    · simp only [RawQ, rawq, Wp_seq, Wp_ops, Wp_cond, Wp_skip, Wp_ret, Wp_exit, Wp_block, WpO_cons, WpO_nil, opQ, evOp, evO, evOs, evQ_some, guardV, guardQ_true, guardQ_false, boolQ_true, boolQ_false, argsA, pvs, putS, cellsOf, scals, scal, seqQ_normal, seqQ_ret, seqQ_exit, blkQ_normal, blkQ_ret, blkQ_exit, look_if, blkAt_if, if_true, if_false, Nat.reduceEqDiff, Nat.reduceAdd, true_implies, reduceCtorEq, false_implies, and_true, true_and, List.nil_append, List.cons_append, Bool.and_self, Nat.zero_add, Nat.add_zero, fieldA, nonNil, cellsAt, loadV_one, loadV_pvs, loadV_cons, mkAgg, allPV, List.drop_zero, List.drop_succ_cons, List.take_succ_cons, List.take_zero, List.length_cons, List.length_nil, Nat.beq_eq, storeB, patchL, beq_self_eq_true, ge_iff_le, gt_iff_lt, Int.reduceNeg, Int.reduceLE, Int.reduceLT, Int.reduceEq, extractV, List.getElem?_cons_zero, List.getElem?_cons_succ, mkAgg, Nat.add_eq_left, Nat.left_eq_add, Nat.one_ne_zero, ble_dec, beq_dec, decide_eq_true_eq, Nat.reduceLeDiff, Nat.le_refl, fillA, pureVs, pureV, beq_int, bne_int, Int.natCast_inj, eq_self, eqV, eqB, decide_true, decide_false, List.length_map, Int.toNat_natCast, List.getElem?_map, Option.map_some, Option.map_none, Int.natCast_nonneg, Option.some.injEq, lenV, binV, intBin, intV, idxA, ne_eq, not_true_eq_false, not_false_eq_true, List.drop, List.take, RetP, retP, resV, resOne, snapV, snapVs, snapR, snapRs, ownSz, pickV, cond_true, cond_false, bTT, bTF, bFT, bFF, Bool.not_true, Bool.not_false, AO.isC, Bool.or_true, Bool.true_or, Bool.or_false, Bool.false_or, WpE_cons, WpE_nil, opE, evE_some, guardE_true, guardE_false, WpD_cons, WpD_nil, opD, evD_some, guardD_true, guardD_false, blkAt_if, e1, e2, e3, e4]
      refine ⟨by omega, ?_, fun j hj hne => ?_⟩
      · rw [← g3]; simp only [comeS, hw, podC]
      · have : ¬ nx + 1 = j := by omega
        have : ¬ nx = j := by omega
        have : ¬ id = j := fun h => hne h.symm
        simp only [blkAt_if, *, if_false]
  | some w =>
    rw [hw] at k
    cases hst : w.stay
    · simp only [Wp_seq, Wp_ops, Wp_cond, Wp_skip, Wp_ret, Wp_exit, Wp_block, WpO_cons, WpO_nil, opQ, evOp, evO, evOs, evQ_some, guardV, guardQ_true, guardQ_false, boolQ_true, boolQ_false, argsA, pvs, putS, cellsOf, scals, scal, seqQ_normal, seqQ_ret, seqQ_exit, blkQ_normal, blkQ_ret, blkQ_exit, look_if, blkAt_if, if_true, if_false, Nat.reduceEqDiff, Nat.reduceAdd, true_implies, reduceCtorEq, false_implies, and_true, true_and, List.nil_append, List.cons_append, Bool.and_self, Nat.zero_add, Nat.add_zero, fieldA, nonNil, cellsAt, loadV_one, loadV_pvs, loadV_cons, mkAgg, allPV, List.drop_zero, List.drop_succ_cons, List.take_succ_cons, List.take_zero, List.length_cons, List.length_nil, Nat.beq_eq, storeB, patchL, beq_self_eq_true, ge_iff_le, gt_iff_lt, Int.reduceNeg, Int.reduceLE, Int.reduceLT, Int.reduceEq, extractV, List.getElem?_cons_zero, List.getElem?_cons_succ, mkAgg, Nat.add_eq_left, Nat.left_eq_add, Nat.one_ne_zero, ble_dec, beq_dec, decide_eq_true_eq, Nat.reduceLeDiff, Nat.le_refl, fillA, pureVs, pureV, beq_int, bne_int, Int.natCast_inj, eq_self, eqV, eqB, decide_true, decide_false, List.length_map, Int.toNat_natCast, List.getElem?_map, Option.map_some, Option.map_none, Int.natCast_nonneg, Option.some.injEq, lenV, binV, intBin, intV, idxA, ne_eq, not_true_eq_false, not_false_eq_true, List.drop, List.take, RetP, retP, resV, resOne, snapV, snapVs, snapR, snapRs, ownSz, pickV, cond_true, cond_false, bTT, bTF, bFT, bFF, Bool.not_true, Bool.not_false, AO.isC, Bool.or_true, Bool.true_or, Bool.or_false, Bool.false_or, WpE_cons, WpE_nil, opE, evE_some, guardE_true, guardE_false, WpD_cons, WpD_nil, opD, evD_some, guardD_true, guardD_false, specP, hb, e1, e2, e3, e4, hi, podC, g1, k.callE, wantR, wantC, hst]
      refine ⟨?_, ?_⟩
      · simp only [chkFrom, allLt, storeB', restOK, mem, indepB, En.reads, aTmps, aTmpsL, aTmpsP, aTmpsO, gTmps, AO.tmps, disj, keys, optL, rdEv, idOf, List.reverse_cons, List.reverse_nil, List.nil_append, List.cons_append, List.append_nil, Wp_seq, Wp_ops, Wp_cond, Wp_skip, Wp_ret, Wp_exit, Wp_block, WpO_cons, WpO_nil, opQ, evOp, evO, evOs, evQ_some, guardV, guardQ_true, guardQ_false, boolQ_true, boolQ_false, argsA, pvs, putS, cellsOf, scals, scal, seqQ_normal, seqQ_ret, seqQ_exit, blkQ_normal, blkQ_ret, blkQ_exit, look_if, blkAt_if, if_true, if_false, Nat.reduceEqDiff, Nat.reduceAdd, true_implies, reduceCtorEq, false_implies, and_true, true_and, List.nil_append, List.cons_append, Bool.and_self, Nat.zero_add, Nat.add_zero, fieldA, nonNil, cellsAt, loadV_one, loadV_pvs, loadV_cons, mkAgg, allPV, List.drop_zero, List.drop_succ_cons, List.take_succ_cons, List.take_zero, List.length_cons, List.length_nil, Nat.beq_eq, storeB, patchL, beq_self_eq_true, ge_iff_le, gt_iff_lt, Int.reduceNeg, Int.reduceLE, Int.reduceLT, Int.reduceEq, extractV, List.getElem?_cons_zero, List.getElem?_cons_succ, mkAgg, Nat.add_eq_left, Nat.left_eq_add, Nat.one_ne_zero, ble_dec, beq_dec, decide_eq_true_eq, Nat.reduceLeDiff, Nat.le_refl, fillA, pureVs, pureV, beq_int, bne_int, Int.natCast_inj, eq_self, eqV, eqB, decide_true, decide_false, List.length_map, Int.toNat_natCast, List.getElem?_map, Option.map_some, Option.map_none, Int.natCast_nonneg, Option.some.injEq, lenV, binV, intBin, intV, idxA, ne_eq, not_true_eq_false, not_false_eq_true, List.drop, List.take, RetP, retP, resV, resOne, snapV, snapVs, snapR, snapRs, ownSz, pickV, cond_true, cond_false, bTT, bTF, bFT, bFF, Bool.not_true, Bool.not_false, AO.isC, Bool.or_true, Bool.true_or, Bool.or_false, Bool.false_or, WpE_cons, WpE_nil, opE, evE_some, guardE_true, guardE_false, WpD_cons, WpD_nil, opD, evD_some, guardD_true, guardD_false, e1, e2, e3, e4, Bool.and_true, Bool.true_and]; rfl
      · simp only [RawQ, rawq, Wp_seq, Wp_ops, Wp_cond, Wp_skip, Wp_ret, Wp_exit, Wp_block, WpO_cons, WpO_nil, opQ, evOp, evO, evOs, evQ_some, guardV, guardQ_true, guardQ_false, boolQ_true, boolQ_false, argsA, pvs, putS, cellsOf, scals, scal, seqQ_normal, seqQ_ret, seqQ_exit, blkQ_normal, blkQ_ret, blkQ_exit, look_if, blkAt_if, if_true, if_false, Nat.reduceEqDiff, Nat.reduceAdd, true_implies, reduceCtorEq, false_implies, and_true, true_and, List.nil_append, List.cons_append, Bool.and_self, Nat.zero_add, Nat.add_zero, fieldA, nonNil, cellsAt, loadV_one, loadV_pvs, loadV_cons, mkAgg, allPV, List.drop_zero, List.drop_succ_cons, List.take_succ_cons, List.take_zero, List.length_cons, List.length_nil, Nat.beq_eq, storeB, patchL, beq_self_eq_true, ge_iff_le, gt_iff_lt, Int.reduceNeg, Int.reduceLE, Int.reduceLT, Int.reduceEq, extractV, List.getElem?_cons_zero, List.getElem?_cons_succ, mkAgg, Nat.add_eq_left, Nat.left_eq_add, Nat.one_ne_zero, ble_dec, beq_dec, decide_eq_true_eq, Nat.reduceLeDiff, Nat.le_refl, fillA, pureVs, pureV, beq_int, bne_int, Int.natCast_inj, eq_self, eqV, eqB, decide_true, decide_false, List.length_map, Int.toNat_natCast, List.getElem?_map, Option.map_some, Option.map_none, Int.natCast_nonneg, Option.some.injEq, lenV, binV, intBin, intV, idxA, ne_eq, not_true_eq_false, not_false_eq_true, List.drop, List.take, RetP, retP, resV, resOne, snapV, snapVs, snapR, snapRs, ownSz, pickV, cond_true, cond_false, bTT, bTF, bFT, bFF, Bool.not_true, Bool.not_false, AO.isC, Bool.or_true, Bool.true_or, Bool.or_false, Bool.false_or, WpE_cons, WpE_nil, opE, evE_some, guardE_true, guardE_false, WpD_cons, WpD_nil, opD, evD_some, guardD_true, guardD_false, blkAt_if, e1, e2, e3, e4]
        refine ⟨by omega, ?_, fun j hj hne => ?_⟩
        · rw [← g3]; simp only [comeS, hw, podC, hst, Bool.false_eq_true, if_false]
        · have : ¬ nx + 1 = j := by omega
          have : ¬ nx = j := by omega
          have : ¬ id = j := fun h => hne h.symm
          simp only [blkAt_if, *, if_false]
    · simp only [Wp_seq, Wp_ops, Wp_cond, Wp_skip, Wp_ret, Wp_exit, Wp_block, WpO_cons, WpO_nil, opQ, evOp, evO, evOs, evQ_some, guardV, guardQ_true, guardQ_false, boolQ_true, boolQ_false, argsA, pvs, putS, cellsOf, scals, scal, seqQ_normal, seqQ_ret, seqQ_exit, blkQ_normal, blkQ_ret, blkQ_exit, look_if, blkAt_if, if_true, if_false, Nat.reduceEqDiff, Nat.reduceAdd, true_implies, reduceCtorEq, false_implies, and_true, true_and, List.nil_append, List.cons_append, Bool.and_self, Nat.zero_add, Nat.add_zero, fieldA, nonNil, cellsAt, loadV_one, loadV_pvs, loadV_cons, mkAgg, allPV, List.drop_zero, List.drop_succ_cons, List.take_succ_cons, List.take_zero, List.length_cons, List.length_nil, Nat.beq_eq, storeB, patchL, beq_self_eq_true, ge_iff_le, gt_iff_lt, Int.reduceNeg, Int.reduceLE, Int.reduceLT, Int.reduceEq, extractV, List.getElem?_cons_zero, List.getElem?_cons_succ, mkAgg, Nat.add_eq_left, Nat.left_eq_add, Nat.one_ne_zero, ble_dec, beq_dec, decide_eq_true_eq, Nat.reduceLeDiff, Nat.le_refl, fillA, pureVs, pureV, beq_int, bne_int, Int.natCast_inj, eq_self, eqV, eqB, decide_true, decide_false, List.length_map, Int.toNat_natCast, List.getElem?_map, Option.map_some, Option.map_none, Int.natCast_nonneg, Option.some.injEq, lenV, binV, intBin, intV, idxA, ne_eq, not_true_eq_false, not_false_eq_true, List.drop, List.take, RetP, retP, resV, resOne, snapV, snapVs, snapR, snapRs, ownSz, pickV, cond_true, cond_false, bTT, bTF, bFT, bFF, Bool.not_true, Bool.not_false, AO.isC, Bool.or_true, Bool.true_or, Bool.or_false, Bool.false_or, WpE_cons, WpE_nil, opE, evE_some, guardE_true, guardE_false, WpD_cons, WpD_nil, opD, evD_some, guardD_true, guardD_false, specP, hb, e1, e2, e3, e4, hi, podC, g1, k.callE, wantR, wantC, hst]
      refine ⟨?_, ?_⟩
      · simp only [chkFrom, allLt, storeB', restOK, mem, indepB, En.reads, aTmps, aTmpsL, aTmpsP, aTmpsO, gTmps, AO.tmps, disj, keys, optL, rdEv, idOf, List.reverse_cons, List.reverse_nil, List.nil_append, List.cons_append, List.append_nil, Wp_seq, Wp_ops, Wp_cond, Wp_skip, Wp_ret, Wp_exit, Wp_block, WpO_cons, WpO_nil, opQ, evOp, evO, evOs, evQ_some, guardV, guardQ_true, guardQ_false, boolQ_true, boolQ_false, argsA, pvs, putS, cellsOf, scals, scal, seqQ_normal, seqQ_ret, seqQ_exit, blkQ_normal, blkQ_ret, blkQ_exit, look_if, blkAt_if, if_true, if_false, Nat.reduceEqDiff, Nat.reduceAdd, true_implies, reduceCtorEq, false_implies, and_true, true_and, List.nil_append, List.cons_append, Bool.and_self, Nat.zero_add, Nat.add_zero, fieldA, nonNil, cellsAt, loadV_one, loadV_pvs, loadV_cons, mkAgg, allPV, List.drop_zero, List.drop_succ_cons, List.take_succ_cons, List.take_zero, List.length_cons, List.length_nil, Nat.beq_eq, storeB, patchL, beq_self_eq_true, ge_iff_le, gt_iff_lt, Int.reduceNeg, Int.reduceLE, Int.reduceLT, Int.reduceEq, extractV, List.getElem?_cons_zero, List.getElem?_cons_succ, mkAgg, Nat.add_eq_left, Nat.left_eq_add, Nat.one_ne_zero, ble_dec, beq_dec, decide_eq_true_eq, Nat.reduceLeDiff, Nat.le_refl, fillA, pureVs, pureV, beq_int, bne_int, Int.natCast_inj, eq_self, eqV, eqB, decide_true, decide_false, List.length_map, Int.toNat_natCast, List.getElem?_map, Option.map_some, Option.map_none, Int.natCast_nonneg, Option.some.injEq, lenV, binV, intBin, intV, idxA, ne_eq, not_true_eq_false, not_false_eq_true, List.drop, List.take, RetP, retP, resV, resOne, snapV, snapVs, snapR, snapRs, ownSz, pickV, cond_true, cond_false, bTT, bTF, bFT, bFF, Bool.not_true, Bool.not_false, AO.isC, Bool.or_true, Bool.true_or, Bool.or_false, Bool.false_or, WpE_cons, WpE_nil, opE, evE_some, guardE_true, guardE_false, WpD_cons, WpD_nil, opD, evD_some, guardD_true, guardD_false, e1, e2, e3, e4, Bool.and_true, Bool.true_and]; rfl
      · simp only [RawQ, rawq, Wp_seq, Wp_ops, Wp_cond, Wp_skip, Wp_ret, Wp_exit, Wp_block, WpO_cons, WpO_nil, opQ, evOp, evO, evOs, evQ_some, guardV, guardQ_true, guardQ_false, boolQ_true, boolQ_false, argsA, pvs, putS, cellsOf, scals, scal, seqQ_normal, seqQ_ret, seqQ_exit, blkQ_normal, blkQ_ret, blkQ_exit, look_if, blkAt_if, if_true, if_false, Nat.reduceEqDiff, Nat.reduceAdd, true_implies, reduceCtorEq, false_implies, and_true, true_and, List.nil_append, List.cons_append, Bool.and_self, Nat.zero_add, Nat.add_zero, fieldA, nonNil, cellsAt, loadV_one, loadV_pvs, loadV_cons, mkAgg, allPV, List.drop_zero, List.drop_succ_cons, List.take_succ_cons, List.take_zero, List.length_cons, List.length_nil, Nat.beq_eq, storeB, patchL, beq_self_eq_true, ge_iff_le, gt_iff_lt, Int.reduceNeg, Int.reduceLE, Int.reduceLT, Int.reduceEq, extractV, List.getElem?_cons_zero, List.getElem?_cons_succ, mkAgg, Nat.add_eq_left, Nat.left_eq_add, Nat.one_ne_zero, ble_dec, beq_dec, decide_eq_true_eq, Nat.reduceLeDiff, Nat.le_refl, fillA, pureVs, pureV, beq_int, bne_int, Int.natCast_inj, eq_self, eqV, eqB, decide_true, decide_false, List.length_map, Int.toNat_natCast, List.getElem?_map, Option.map_some, Option.map_none, Int.natCast_nonneg, Option.some.injEq, lenV, binV, intBin, intV, idxA, ne_eq, not_true_eq_false, not_false_eq_true, List.drop, List.take, RetP, retP, resV, resOne, snapV, snapVs, snapR, snapRs, ownSz, pickV, cond_true, cond_false, bTT, bTF, bFT, bFF, Bool.not_true, Bool.not_false, AO.isC, Bool.or_true, Bool.true_or, Bool.or_false, Bool.false_or, WpE_cons, WpE_nil, opE, evE_some, guardE_true, guardE_false, WpD_cons, WpD_nil, opD, evD_some, guardD_true, guardD_false, blkAt_if, e1, e2, e3, e4]
        refine ⟨by omega, ?_, fun j hj hne => ?_⟩
        · rw [← g3, g2]; simp only [comeS, hw, podC, hst, if_true]
        · have : ¬ nx + 1 = j := by omega
          have : ¬ nx = j := by omega
          have : ¬ id = j := fun h => hne h.symm
          simp only [blkAt_if, *, if_false]

theorem Cln.callN {T : Tab} {n sz : Nat} (S : Cln T n sz) {es : List (List PV)} (h : allLen sz es = true) (hl : es.length ≤ 2 ^ 30) (hne : es ≠ []) (d : Option Nat) (l : List AOper) (st : St) (K : St → Prop) :
    callQ T n [.pv (.slice es)] d l st K ↔ WpO T l ⟨putS st d (.ms st.nx), (st.nx, .row sz es) :: st.hp, st.nx + 1⟩ K := by
  rw [S.call h hl]
  cases es with
  | nil => exact absurd rfl hne
  | cons e r => exact Iff.rfl
theorem come_call {T : Tab} (h242 : StdR T 242 f242) (h83 : Std T 83 f83) (x : Spec) (hx : x.wants.length ≤ 2 ^ 30) (pods : List Pod) (i id : Nat) (p : Pod) (hi : pods[i]? = some p) (node : Int) {d : Option Nat} {l : List AOper} {st : St} {K : St → Prop}
    (hid : id < st.nx) (hb : blkAt st.hp id = .row 8 (pods.map podC))
    (h : ∀ v hp' nx', st.nx ≤ nx' → blkAt hp' id = .row 8 ((pods.set i (comeS x p node)).map podC) → (∀ j, j < st.nx → j ≠ id → blkAt hp' j = blkAt st.hp j) → WpO T l ⟨putS st d v, hp', nx'⟩ K) :
    callQ T 242 [.pv (specP x), .ptr id i 0, .pv (.int .i64 node)] d l st K := by
  obtain ⟨v, hp', nx', hD, h1, h2, h3⟩ := come_ok h242 h83 x hx pods i id p hi node st.hp st.nx hid hb
  exact (callQ_raw h242.raw hD).2 (h v hp' nx' h1 h2 h3)

/-- What a move makes: an error, or the state. -/
def makeS (s : Snap) (x : Spec) (t : State) (m : Move) : Int ⊕ State :=
  if formB m = false then .inl 1 else
  if placeFrom m.pod 0 t.pods < 0 then .inl 4 else
  if m.kind ≠ 2 ∧ nodeOf m.node s.nodes = none then .inl 4 else
  if m.kind = 4 ∧ placeFrom m.over 0 t.pods < 0 then .inl 4 else
  match t.pods[(placeFrom m.pod 0 t.pods).toNat]? with
  | none => .inl 0
  | some p =>
    if m.kind = 2 then (if p.node = 0 then .inl 7 else .inr ⟨t.pods.set (placeFrom m.pod 0 t.pods).toNat { p with node := 0 }, t.pre, t.shi⟩)
    else if m.kind = 3 then (if p.node = 0 then .inl 7 else if p.node = m.node then .inl 7 else .inr ⟨t.pods.set (placeFrom m.pod 0 t.pods).toNat (comeS x p m.node), t.pre, IntKind.i64.wrap (t.shi + 1)⟩)
    else if m.kind = 4 then
      match t.pods[(placeFrom m.over 0 t.pods).toNat]? with
      | none => .inl 0
      | some q => if (placeFrom m.pod 0 t.pods).toNat = (placeFrom m.over 0 t.pods).toNat then .inl 7 else if q.node ≠ m.node then .inl 7 else if p.node ≠ 0 then .inl 7
        else .inr ⟨(t.pods.set (placeFrom m.over 0 t.pods).toNat { q with node := 0 }).set (placeFrom m.pod 0 t.pods).toNat (comeS x p m.node), IntKind.i64.wrap (t.pre + 1), t.shi⟩
    else if p.node ≠ 0 then .inl 7 else .inr ⟨t.pods.set (placeFrom m.pod 0 t.pods).toNat (comeS x p m.node), t.pre, t.shi⟩
def makeR : Int ⊕ State → PV
  | .inl c => .tuple [stateP ⟨[], 0, 0⟩, codeE c]
  | .inr u => .tuple [stateP u, .nili]

structure StdM (T : Tab) : Prop where
  s5 : Std5 T
  h82 : Std T 82 f82
  h83 : Std T 83 f83
  h239 : Std T 239 f239
  h242 : StdR T 242 f242
  h243 : Std T 243 f243
  h279 : Cln T 279 8

set_option maxRecDepth 100000 in
set_option maxHeartbeats 4000000 in
theorem make_ok {T : Tab} (S : StdM T) (s : Snap) (x : Spec) (t : State) (m : Move) (hs : s.nodes.length ≤ 2 ^ 30) (hx : x.wants.length ≤ 2 ^ 30) (ht : t.pods.length ≤ 2 ^ 30) :
    Gives T 239 [snapP s, specP x, stateP t, moveP m] (makeR (makeS s x t m)) := by
  refine gives S.h239 rfl ?_
  have kp := place5_ok S.s5 t m.pod ht
  have ko := place5_ok S.s5 t m.over ht
  have kn := node_ok S.h82 s m.node hs
  have kf := form_ok S.h243 m
  simp only [stateP] at kp ko
  simp only [snapP] at kn
  simp only [moveP, moveC] at kf
  simp only [f239, Wp_seq, Wp_ops, Wp_cond, Wp_skip, Wp_ret, Wp_exit, Wp_block, WpO_cons, WpO_nil, opQ, evOp, evO, evOs, evQ_some, guardV, guardQ_true, guardQ_false, boolQ_true, boolQ_false, argsA, pvs, putS, cellsOf, scals, scal, seqQ_normal, seqQ_ret, seqQ_exit, blkQ_normal, blkQ_ret, blkQ_exit, look_if, blkAt_if, if_true, if_false, Nat.reduceEqDiff, Nat.reduceAdd, true_implies, reduceCtorEq, false_implies, and_true, true_and, List.nil_append, List.cons_append, Bool.and_self, Nat.zero_add, Nat.add_zero, fieldA, nonNil, cellsAt, loadV_one, loadV_pvs, loadV_cons, mkAgg, allPV, List.drop_zero, List.drop_succ_cons, List.take_succ_cons, List.take_zero, List.length_cons, List.length_nil, Nat.beq_eq, storeB, patchL, beq_self_eq_true, ge_iff_le, gt_iff_lt, Int.reduceNeg, Int.reduceLE, Int.reduceLT, Int.reduceEq, extractV, List.getElem?_cons_zero, List.getElem?_cons_succ, mkAgg, Nat.add_eq_left, Nat.left_eq_add, Nat.one_ne_zero, ble_dec, beq_dec, decide_eq_true_eq, Nat.reduceLeDiff, Nat.le_refl, fillA, pureVs, pureV, beq_int, bne_int, Int.natCast_inj, eq_self, eqV, eqB, decide_true, decide_false, List.length_map, Int.toNat_natCast, List.getElem?_map, Option.map_some, Option.map_none, Int.natCast_nonneg, Option.some.injEq, lenV, binV, intBin, intV, idxA, ne_eq, not_true_eq_false, not_false_eq_true, List.drop, List.take, RetP, retP, resV, resOne, snapV, snapVs, snapR, snapRs, ownSz, pickV, cond_true, cond_false, bTT, bTF, bFT, bFF, Bool.not_true, Bool.not_false, AO.isC, Bool.or_true, Bool.true_or, Bool.or_false, Bool.false_or, WpE_cons, WpE_nil, opE, evE_some, guardE_true, guardE_false, WpD_cons, WpD_nil, opD, evD_some, guardD_true, guardD_false, snapP, specP, stateP, moveP, moveC]
  refine (Wp_calm rfl).2 ?_
  obtain ⟨N, hN⟩ : ∃ N : Node, nodeR (nodeOf m.node s.nodes) = .tuple [.agg (nodeC N), .bool (nodeOf m.node s.nodes).isSome] := by
    cases nodeOf m.node s.nodes with
    | none => exact ⟨node0, rfl⟩
    | some n => exact ⟨n, rfl⟩
  rw [hN] at kn
  simp only [nodeC] at kn
  cases hform : formB m
  · have hm : makeS s x t m = .inl 1 := by unfold makeS; rw [if_pos hform]
    rw [hform] at kf
    simp only [Wp_seq, Wp_ops, Wp_cond, Wp_skip, Wp_ret, Wp_exit, Wp_block, WpO_cons, WpO_nil, opQ, evOp, evO, evOs, evQ_some, guardV, guardQ_true, guardQ_false, boolQ_true, boolQ_false, argsA, pvs, putS, cellsOf, scals, scal, seqQ_normal, seqQ_ret, seqQ_exit, blkQ_normal, blkQ_ret, blkQ_exit, look_if, blkAt_if, if_true, if_false, Nat.reduceEqDiff, Nat.reduceAdd, true_implies, reduceCtorEq, false_implies, and_true, true_and, List.nil_append, List.cons_append, Bool.and_self, Nat.zero_add, Nat.add_zero, fieldA, nonNil, cellsAt, loadV_one, loadV_pvs, loadV_cons, mkAgg, allPV, List.drop_zero, List.drop_succ_cons, List.take_succ_cons, List.take_zero, List.length_cons, List.length_nil, Nat.beq_eq, storeB, patchL, beq_self_eq_true, ge_iff_le, gt_iff_lt, Int.reduceNeg, Int.reduceLE, Int.reduceLT, Int.reduceEq, extractV, List.getElem?_cons_zero, List.getElem?_cons_succ, mkAgg, Nat.add_eq_left, Nat.left_eq_add, Nat.one_ne_zero, ble_dec, beq_dec, decide_eq_true_eq, Nat.reduceLeDiff, Nat.le_refl, fillA, pureVs, pureV, beq_int, bne_int, Int.natCast_inj, eq_self, eqV, eqB, decide_true, decide_false, List.length_map, Int.toNat_natCast, List.getElem?_map, Option.map_some, Option.map_none, Int.natCast_nonneg, Option.some.injEq, lenV, binV, intBin, intV, idxA, ne_eq, not_true_eq_false, not_false_eq_true, List.drop, List.take, RetP, retP, resV, resOne, snapV, snapVs, snapR, snapRs, ownSz, pickV, cond_true, cond_false, bTT, bTF, bFT, bFF, Bool.not_true, Bool.not_false, AO.isC, Bool.or_true, Bool.true_or, Bool.or_false, Bool.false_or, WpE_cons, WpE_nil, opE, evE_some, guardE_true, guardE_false, WpD_cons, WpD_nil, opD, evD_some, guardD_true, guardD_false, kp.callD, ko.callD, kn.call, kf.call, hm, makeR, codeE, stateP, List.map_nil]
  · rw [hform] at kf
    have hnf : ¬ (formB m = false) := by rw [hform]; simp
    by_cases hi : placeFrom m.pod 0 t.pods < 0
    · have hm : makeS s x t m = .inl 4 := by unfold makeS; rw [if_neg hnf, if_pos hi]
      simp only [Wp_seq, Wp_ops, Wp_cond, Wp_skip, Wp_ret, Wp_exit, Wp_block, WpO_cons, WpO_nil, opQ, evOp, evO, evOs, evQ_some, guardV, guardQ_true, guardQ_false, boolQ_true, boolQ_false, argsA, pvs, putS, cellsOf, scals, scal, seqQ_normal, seqQ_ret, seqQ_exit, blkQ_normal, blkQ_ret, blkQ_exit, look_if, blkAt_if, if_true, if_false, Nat.reduceEqDiff, Nat.reduceAdd, true_implies, reduceCtorEq, false_implies, and_true, true_and, List.nil_append, List.cons_append, Bool.and_self, Nat.zero_add, Nat.add_zero, fieldA, nonNil, cellsAt, loadV_one, loadV_pvs, loadV_cons, mkAgg, allPV, List.drop_zero, List.drop_succ_cons, List.take_succ_cons, List.take_zero, List.length_cons, List.length_nil, Nat.beq_eq, storeB, patchL, beq_self_eq_true, ge_iff_le, gt_iff_lt, Int.reduceNeg, Int.reduceLE, Int.reduceLT, Int.reduceEq, extractV, List.getElem?_cons_zero, List.getElem?_cons_succ, mkAgg, Nat.add_eq_left, Nat.left_eq_add, Nat.one_ne_zero, ble_dec, beq_dec, decide_eq_true_eq, Nat.reduceLeDiff, Nat.le_refl, fillA, pureVs, pureV, beq_int, bne_int, Int.natCast_inj, eq_self, eqV, eqB, decide_true, decide_false, List.length_map, Int.toNat_natCast, List.getElem?_map, Option.map_some, Option.map_none, Int.natCast_nonneg, Option.some.injEq, lenV, binV, intBin, intV, idxA, ne_eq, not_true_eq_false, not_false_eq_true, List.drop, List.take, RetP, retP, resV, resOne, snapV, snapVs, snapR, snapRs, ownSz, pickV, cond_true, cond_false, bTT, bTF, bFT, bFF, Bool.not_true, Bool.not_false, AO.isC, Bool.or_true, Bool.true_or, Bool.or_false, Bool.false_or, WpE_cons, WpE_nil, opE, evE_some, guardE_true, guardE_false, WpD_cons, WpD_nil, opD, evD_some, guardD_true, guardD_false, kp.callD, ko.callD, kn.call, kf.call, hm, makeR, codeE, stateP, List.map_nil, hi]
    · obtain ⟨j, p, hget, hP, hj⟩ : ∃ (j : Nat) (p : Pod), t.pods[j]? = some p ∧ placeFrom m.pod 0 t.pods = (j : Int) ∧ j < t.pods.length := by
        rcases placeFrom_cases m.pod t.pods 0 with ⟨_, h⟩ | ⟨j, p, h1, _, h3, h4⟩
        · omega
        · exact ⟨j, p, h1, by rw [h3, Nat.zero_add], h4⟩
      have hne : t.pods.map podC ≠ [] := by
        intro h
        rw [List.map_eq_nil_iff] at h
        rw [h] at hj
        simp at hj
      have hj0 : ¬ ((j : Int) < 0) := by omega
      have hset : (t.pods.map podC)[j]? = some (podC p) := by rw [List.getElem?_map, hget]; rfl
      have hlen : (t.pods.map podC).length ≤ 2 ^ 30 := by rw [List.length_map]; exact ht
      have hjl : j < t.pods.length := hj
      have g3 : ∀ (i : Nat) (q : Pod), (t.pods.map podC).set i (podC q) = (t.pods.set i q).map podC := fun i q => (List.map_set).symm
      by_cases k2 : m.kind = 2
      · by_cases c1 : p.node = 0
        · have hm : makeS s x t m = .inl 7 := by
            unfold makeS
            rw [if_neg hnf, if_neg hi, if_neg (by simp [k2]), if_neg (by simp [k2]), hP]
            simp only [Int.toNat_natCast, hget, k2, if_true, c1]
          simp only [Wp_seq, Wp_ops, Wp_cond, Wp_skip, Wp_ret, Wp_exit, Wp_block, WpO_cons, WpO_nil, opQ, evOp, evO, evOs, evQ_some, guardV, guardQ_true, guardQ_false, boolQ_true, boolQ_false, argsA, pvs, putS, cellsOf, scals, scal, seqQ_normal, seqQ_ret, seqQ_exit, blkQ_normal, blkQ_ret, blkQ_exit, look_if, blkAt_if, if_true, if_false, Nat.reduceEqDiff, Nat.reduceAdd, true_implies, reduceCtorEq, false_implies, and_true, true_and, List.nil_append, List.cons_append, Bool.and_self, Nat.zero_add, Nat.add_zero, fieldA, nonNil, cellsAt, loadV_one, loadV_pvs, loadV_cons, mkAgg, allPV, List.drop_zero, List.drop_succ_cons, List.take_succ_cons, List.take_zero, List.length_cons, List.length_nil, Nat.beq_eq, storeB, patchL, beq_self_eq_true, ge_iff_le, gt_iff_lt, Int.reduceNeg, Int.reduceLE, Int.reduceLT, Int.reduceEq, extractV, List.getElem?_cons_zero, List.getElem?_cons_succ, mkAgg, Nat.add_eq_left, Nat.left_eq_add, Nat.one_ne_zero, ble_dec, beq_dec, decide_eq_true_eq, Nat.reduceLeDiff, Nat.le_refl, fillA, pureVs, pureV, beq_int, bne_int, Int.natCast_inj, eq_self, eqV, eqB, decide_true, decide_false, List.length_map, Int.toNat_natCast, List.getElem?_map, Option.map_some, Option.map_none, Int.natCast_nonneg, Option.some.injEq, lenV, binV, intBin, intV, idxA, ne_eq, not_true_eq_false, not_false_eq_true, List.drop, List.take, RetP, retP, resV, resOne, snapV, snapVs, snapR, snapRs, ownSz, pickV, cond_true, cond_false, bTT, bTF, bFT, bFF, Bool.not_true, Bool.not_false, AO.isC, Bool.or_true, Bool.true_or, Bool.or_false, Bool.false_or, WpE_cons, WpE_nil, opE, evE_some, guardE_true, guardE_false, WpD_cons, WpD_nil, opD, evD_some, guardD_true, guardD_false, kp.callD, ko.callD, kn.call, kf.call, hP, hj0, k2, hget, podC]
          rw [S.h279.callN (allLen_pods _) hlen hne]
          simp only [Wp_seq, Wp_ops, Wp_cond, Wp_skip, Wp_ret, Wp_exit, Wp_block, WpO_cons, WpO_nil, opQ, evOp, evO, evOs, evQ_some, guardV, guardQ_true, guardQ_false, boolQ_true, boolQ_false, argsA, pvs, putS, cellsOf, scals, scal, seqQ_normal, seqQ_ret, seqQ_exit, blkQ_normal, blkQ_ret, blkQ_exit, look_if, blkAt_if, if_true, if_false, Nat.reduceEqDiff, Nat.reduceAdd, true_implies, reduceCtorEq, false_implies, and_true, true_and, List.nil_append, List.cons_append, Bool.and_self, Nat.zero_add, Nat.add_zero, fieldA, nonNil, cellsAt, loadV_one, loadV_pvs, loadV_cons, mkAgg, allPV, List.drop_zero, List.drop_succ_cons, List.take_succ_cons, List.take_zero, List.length_cons, List.length_nil, Nat.beq_eq, storeB, patchL, beq_self_eq_true, ge_iff_le, gt_iff_lt, Int.reduceNeg, Int.reduceLE, Int.reduceLT, Int.reduceEq, extractV, List.getElem?_cons_zero, List.getElem?_cons_succ, mkAgg, Nat.add_eq_left, Nat.left_eq_add, Nat.one_ne_zero, ble_dec, beq_dec, decide_eq_true_eq, Nat.reduceLeDiff, Nat.le_refl, fillA, pureVs, pureV, beq_int, bne_int, Int.natCast_inj, eq_self, eqV, eqB, decide_true, decide_false, List.length_map, Int.toNat_natCast, List.getElem?_map, Option.map_some, Option.map_none, Int.natCast_nonneg, Option.some.injEq, lenV, binV, intBin, intV, idxA, ne_eq, not_true_eq_false, not_false_eq_true, List.drop, List.take, RetP, retP, resV, resOne, snapV, snapVs, snapR, snapRs, ownSz, pickV, cond_true, cond_false, bTT, bTF, bFT, bFF, Bool.not_true, Bool.not_false, AO.isC, Bool.or_true, Bool.true_or, Bool.or_false, Bool.false_or, WpE_cons, WpE_nil, opE, evE_some, guardE_true, guardE_false, WpD_cons, WpD_nil, opD, evD_some, guardD_true, guardD_false, hget, podC, hm, makeR, codeE, stateP, List.map_nil, hjl, k2, c1]
        · have hm : makeS s x t m = .inr ⟨t.pods.set j { p with node := 0 }, t.pre, t.shi⟩ := by
            unfold makeS
            rw [if_neg hnf, if_neg hi, if_neg (by simp [k2]), if_neg (by simp [k2]), hP]
            simp only [Int.toNat_natCast, hget, k2, if_true, c1, if_false]
          have e1 := g3 j { p with node := 0 }
          simp only [podC] at e1
          simp only [Wp_seq, Wp_ops, Wp_cond, Wp_skip, Wp_ret, Wp_exit, Wp_block, WpO_cons, WpO_nil, opQ, evOp, evO, evOs, evQ_some, guardV, guardQ_true, guardQ_false, boolQ_true, boolQ_false, argsA, pvs, putS, cellsOf, scals, scal, seqQ_normal, seqQ_ret, seqQ_exit, blkQ_normal, blkQ_ret, blkQ_exit, look_if, blkAt_if, if_true, if_false, Nat.reduceEqDiff, Nat.reduceAdd, true_implies, reduceCtorEq, false_implies, and_true, true_and, List.nil_append, List.cons_append, Bool.and_self, Nat.zero_add, Nat.add_zero, fieldA, nonNil, cellsAt, loadV_one, loadV_pvs, loadV_cons, mkAgg, allPV, List.drop_zero, List.drop_succ_cons, List.take_succ_cons, List.take_zero, List.length_cons, List.length_nil, Nat.beq_eq, storeB, patchL, beq_self_eq_true, ge_iff_le, gt_iff_lt, Int.reduceNeg, Int.reduceLE, Int.reduceLT, Int.reduceEq, extractV, List.getElem?_cons_zero, List.getElem?_cons_succ, mkAgg, Nat.add_eq_left, Nat.left_eq_add, Nat.one_ne_zero, ble_dec, beq_dec, decide_eq_true_eq, Nat.reduceLeDiff, Nat.le_refl, fillA, pureVs, pureV, beq_int, bne_int, Int.natCast_inj, eq_self, eqV, eqB, decide_true, decide_false, List.length_map, Int.toNat_natCast, List.getElem?_map, Option.map_some, Option.map_none, Int.natCast_nonneg, Option.some.injEq, lenV, binV, intBin, intV, idxA, ne_eq, not_true_eq_false, not_false_eq_true, List.drop, List.take, RetP, retP, resV, resOne, snapV, snapVs, snapR, snapRs, ownSz, pickV, cond_true, cond_false, bTT, bTF, bFT, bFF, Bool.not_true, Bool.not_false, AO.isC, Bool.or_true, Bool.true_or, Bool.or_false, Bool.false_or, WpE_cons, WpE_nil, opE, evE_some, guardE_true, guardE_false, WpD_cons, WpD_nil, opD, evD_some, guardD_true, guardD_false, kp.callD, ko.callD, kn.call, kf.call, hP, hj0, k2, hget, podC]
          rw [S.h279.callN (allLen_pods _) hlen hne]
          simp only [Wp_seq, Wp_ops, Wp_cond, Wp_skip, Wp_ret, Wp_exit, Wp_block, WpO_cons, WpO_nil, opQ, evOp, evO, evOs, evQ_some, guardV, guardQ_true, guardQ_false, boolQ_true, boolQ_false, argsA, pvs, putS, cellsOf, scals, scal, seqQ_normal, seqQ_ret, seqQ_exit, blkQ_normal, blkQ_ret, blkQ_exit, look_if, blkAt_if, if_true, if_false, Nat.reduceEqDiff, Nat.reduceAdd, true_implies, reduceCtorEq, false_implies, and_true, true_and, List.nil_append, List.cons_append, Bool.and_self, Nat.zero_add, Nat.add_zero, fieldA, nonNil, cellsAt, loadV_one, loadV_pvs, loadV_cons, mkAgg, allPV, List.drop_zero, List.drop_succ_cons, List.take_succ_cons, List.take_zero, List.length_cons, List.length_nil, Nat.beq_eq, storeB, patchL, beq_self_eq_true, ge_iff_le, gt_iff_lt, Int.reduceNeg, Int.reduceLE, Int.reduceLT, Int.reduceEq, extractV, List.getElem?_cons_zero, List.getElem?_cons_succ, mkAgg, Nat.add_eq_left, Nat.left_eq_add, Nat.one_ne_zero, ble_dec, beq_dec, decide_eq_true_eq, Nat.reduceLeDiff, Nat.le_refl, fillA, pureVs, pureV, beq_int, bne_int, Int.natCast_inj, eq_self, eqV, eqB, decide_true, decide_false, List.length_map, Int.toNat_natCast, List.getElem?_map, Option.map_some, Option.map_none, Int.natCast_nonneg, Option.some.injEq, lenV, binV, intBin, intV, idxA, ne_eq, not_true_eq_false, not_false_eq_true, List.drop, List.take, RetP, retP, resV, resOne, snapV, snapVs, snapR, snapRs, ownSz, pickV, cond_true, cond_false, bTT, bTF, bFT, bFF, Bool.not_true, Bool.not_false, AO.isC, Bool.or_true, Bool.true_or, Bool.or_false, Bool.false_or, WpE_cons, WpE_nil, opE, evE_some, guardE_true, guardE_false, WpD_cons, WpD_nil, opD, evD_some, guardD_true, guardD_false, hget, podC, hm, makeR, codeE, stateP, hjl, k2, c1]
          rw [e1]
      · cases hno : nodeOf m.node s.nodes with
        | none =>
          have hm : makeS s x t m = .inl 4 := by
            unfold makeS
            rw [if_neg hnf, if_neg hi, if_pos ⟨k2, hno⟩]
          rw [hno] at kn
          simp only [Option.isSome_none] at kn
          simp only [Wp_seq, Wp_ops, Wp_cond, Wp_skip, Wp_ret, Wp_exit, Wp_block, WpO_cons, WpO_nil, opQ, evOp, evO, evOs, evQ_some, guardV, guardQ_true, guardQ_false, boolQ_true, boolQ_false, argsA, pvs, putS, cellsOf, scals, scal, seqQ_normal, seqQ_ret, seqQ_exit, blkQ_normal, blkQ_ret, blkQ_exit, look_if, blkAt_if, if_true, if_false, Nat.reduceEqDiff, Nat.reduceAdd, true_implies, reduceCtorEq, false_implies, and_true, true_and, List.nil_append, List.cons_append, Bool.and_self, Nat.zero_add, Nat.add_zero, fieldA, nonNil, cellsAt, loadV_one, loadV_pvs, loadV_cons, mkAgg, allPV, List.drop_zero, List.drop_succ_cons, List.take_succ_cons, List.take_zero, List.length_cons, List.length_nil, Nat.beq_eq, storeB, patchL, beq_self_eq_true, ge_iff_le, gt_iff_lt, Int.reduceNeg, Int.reduceLE, Int.reduceLT, Int.reduceEq, extractV, List.getElem?_cons_zero, List.getElem?_cons_succ, mkAgg, Nat.add_eq_left, Nat.left_eq_add, Nat.one_ne_zero, ble_dec, beq_dec, decide_eq_true_eq, Nat.reduceLeDiff, Nat.le_refl, fillA, pureVs, pureV, beq_int, bne_int, Int.natCast_inj, eq_self, eqV, eqB, decide_true, decide_false, List.length_map, Int.toNat_natCast, List.getElem?_map, Option.map_some, Option.map_none, Int.natCast_nonneg, Option.some.injEq, lenV, binV, intBin, intV, idxA, ne_eq, not_true_eq_false, not_false_eq_true, List.drop, List.take, RetP, retP, resV, resOne, snapV, snapVs, snapR, snapRs, ownSz, pickV, cond_true, cond_false, bTT, bTF, bFT, bFF, Bool.not_true, Bool.not_false, AO.isC, Bool.or_true, Bool.true_or, Bool.or_false, Bool.false_or, WpE_cons, WpE_nil, opE, evE_some, guardE_true, guardE_false, WpD_cons, WpD_nil, opD, evD_some, guardD_true, guardD_false, kp.callD, ko.callD, kn.call, kf.call, hP, hj0, k2, hm, makeR, codeE, stateP, List.map_nil]
        | some nn =>
          rw [hno] at kn
          simp only [Option.isSome_some] at kn
          have hnn : ¬ (m.kind ≠ 2 ∧ nodeOf m.node s.nodes = none) := by rw [hno]; simp
          by_cases k4 : m.kind = 4
          · by_cases hov : placeFrom m.over 0 t.pods < 0
            · have hm : makeS s x t m = .inl 4 := by
                unfold makeS
                rw [if_neg hnf, if_neg hi, if_neg hnn, if_pos ⟨k4, hov⟩]
              simp only [Wp_seq, Wp_ops, Wp_cond, Wp_skip, Wp_ret, Wp_exit, Wp_block, WpO_cons, WpO_nil, opQ, evOp, evO, evOs, evQ_some, guardV, guardQ_true, guardQ_false, boolQ_true, boolQ_false, argsA, pvs, putS, cellsOf, scals, scal, seqQ_normal, seqQ_ret, seqQ_exit, blkQ_normal, blkQ_ret, blkQ_exit, look_if, blkAt_if, if_true, if_false, Nat.reduceEqDiff, Nat.reduceAdd, true_implies, reduceCtorEq, false_implies, and_true, true_and, List.nil_append, List.cons_append, Bool.and_self, Nat.zero_add, Nat.add_zero, fieldA, nonNil, cellsAt, loadV_one, loadV_pvs, loadV_cons, mkAgg, allPV, List.drop_zero, List.drop_succ_cons, List.take_succ_cons, List.take_zero, List.length_cons, List.length_nil, Nat.beq_eq, storeB, patchL, beq_self_eq_true, ge_iff_le, gt_iff_lt, Int.reduceNeg, Int.reduceLE, Int.reduceLT, Int.reduceEq, extractV, List.getElem?_cons_zero, List.getElem?_cons_succ, mkAgg, Nat.add_eq_left, Nat.left_eq_add, Nat.one_ne_zero, ble_dec, beq_dec, decide_eq_true_eq, Nat.reduceLeDiff, Nat.le_refl, fillA, pureVs, pureV, beq_int, bne_int, Int.natCast_inj, eq_self, eqV, eqB, decide_true, decide_false, List.length_map, Int.toNat_natCast, List.getElem?_map, Option.map_some, Option.map_none, Int.natCast_nonneg, Option.some.injEq, lenV, binV, intBin, intV, idxA, ne_eq, not_true_eq_false, not_false_eq_true, List.drop, List.take, RetP, retP, resV, resOne, snapV, snapVs, snapR, snapRs, ownSz, pickV, cond_true, cond_false, bTT, bTF, bFT, bFF, Bool.not_true, Bool.not_false, AO.isC, Bool.or_true, Bool.true_or, Bool.or_false, Bool.false_or, WpE_cons, WpE_nil, opE, evE_some, guardE_true, guardE_false, WpD_cons, WpD_nil, opD, evD_some, guardD_true, guardD_false, kp.callD, ko.callD, kn.call, kf.call, hP, hj0, k4, hov, hm, makeR, codeE, stateP, List.map_nil]
            · obtain ⟨k, q, hgk, hK, hk⟩ : ∃ (k : Nat) (q : Pod), t.pods[k]? = some q ∧ placeFrom m.over 0 t.pods = (k : Int) ∧ k < t.pods.length := by
                rcases placeFrom_cases m.over t.pods 0 with ⟨_, h⟩ | ⟨k, q, h1, _, h3, h4⟩
                · omega
                · exact ⟨k, q, h1, by rw [h3, Nat.zero_add], h4⟩
              have hk0 : ¬ ((k : Int) < 0) := by omega
              have hno4 : ¬ (m.kind = 4 ∧ placeFrom m.over 0 t.pods < 0) := fun h => hov h.2
              by_cases c0 : j = k
              · have hm : makeS s x t m = .inl 7 := by
                  unfold makeS
                  rw [if_neg hnf, if_neg hi, if_neg hnn, if_neg hno4, hP, hK]
                  subst c0
                  simp [hget, k4]
                simp only [Wp_seq, Wp_ops, Wp_cond, Wp_skip, Wp_ret, Wp_exit, Wp_block, WpO_cons, WpO_nil, opQ, evOp, evO, evOs, evQ_some, guardV, guardQ_true, guardQ_false, boolQ_true, boolQ_false, argsA, pvs, putS, cellsOf, scals, scal, seqQ_normal, seqQ_ret, seqQ_exit, blkQ_normal, blkQ_ret, blkQ_exit, look_if, blkAt_if, if_true, if_false, Nat.reduceEqDiff, Nat.reduceAdd, true_implies, reduceCtorEq, false_implies, and_true, true_and, List.nil_append, List.cons_append, Bool.and_self, Nat.zero_add, Nat.add_zero, fieldA, nonNil, cellsAt, loadV_one, loadV_pvs, loadV_cons, mkAgg, allPV, List.drop_zero, List.drop_succ_cons, List.take_succ_cons, List.take_zero, List.length_cons, List.length_nil, Nat.beq_eq, storeB, patchL, beq_self_eq_true, ge_iff_le, gt_iff_lt, Int.reduceNeg, Int.reduceLE, Int.reduceLT, Int.reduceEq, extractV, List.getElem?_cons_zero, List.getElem?_cons_succ, mkAgg, Nat.add_eq_left, Nat.left_eq_add, Nat.one_ne_zero, ble_dec, beq_dec, decide_eq_true_eq, Nat.reduceLeDiff, Nat.le_refl, fillA, pureVs, pureV, beq_int, bne_int, Int.natCast_inj, eq_self, eqV, eqB, decide_true, decide_false, List.length_map, Int.toNat_natCast, List.getElem?_map, Option.map_some, Option.map_none, Int.natCast_nonneg, Option.some.injEq, lenV, binV, intBin, intV, idxA, ne_eq, not_true_eq_false, not_false_eq_true, List.drop, List.take, RetP, retP, resV, resOne, snapV, snapVs, snapR, snapRs, ownSz, pickV, cond_true, cond_false, bTT, bTF, bFT, bFF, Bool.not_true, Bool.not_false, AO.isC, Bool.or_true, Bool.true_or, Bool.or_false, Bool.false_or, WpE_cons, WpE_nil, opE, evE_some, guardE_true, guardE_false, WpD_cons, WpD_nil, opD, evD_some, guardD_true, guardD_false, kp.callD, ko.callD, kn.call, kf.call, hP, hK, hj0, hk0, k4, hget, podC]
                rw [S.h279.callN (allLen_pods _) hlen hne]
                simp only [Wp_seq, Wp_ops, Wp_cond, Wp_skip, Wp_ret, Wp_exit, Wp_block, WpO_cons, WpO_nil, opQ, evOp, evO, evOs, evQ_some, guardV, guardQ_true, guardQ_false, boolQ_true, boolQ_false, argsA, pvs, putS, cellsOf, scals, scal, seqQ_normal, seqQ_ret, seqQ_exit, blkQ_normal, blkQ_ret, blkQ_exit, look_if, blkAt_if, if_true, if_false, Nat.reduceEqDiff, Nat.reduceAdd, true_implies, reduceCtorEq, false_implies, and_true, true_and, List.nil_append, List.cons_append, Bool.and_self, Nat.zero_add, Nat.add_zero, fieldA, nonNil, cellsAt, loadV_one, loadV_pvs, loadV_cons, mkAgg, allPV, List.drop_zero, List.drop_succ_cons, List.take_succ_cons, List.take_zero, List.length_cons, List.length_nil, Nat.beq_eq, storeB, patchL, beq_self_eq_true, ge_iff_le, gt_iff_lt, Int.reduceNeg, Int.reduceLE, Int.reduceLT, Int.reduceEq, extractV, List.getElem?_cons_zero, List.getElem?_cons_succ, mkAgg, Nat.add_eq_left, Nat.left_eq_add, Nat.one_ne_zero, ble_dec, beq_dec, decide_eq_true_eq, Nat.reduceLeDiff, Nat.le_refl, fillA, pureVs, pureV, beq_int, bne_int, Int.natCast_inj, eq_self, eqV, eqB, decide_true, decide_false, List.length_map, Int.toNat_natCast, List.getElem?_map, Option.map_some, Option.map_none, Int.natCast_nonneg, Option.some.injEq, lenV, binV, intBin, intV, idxA, ne_eq, not_true_eq_false, not_false_eq_true, List.drop, List.take, RetP, retP, resV, resOne, snapV, snapVs, snapR, snapRs, ownSz, pickV, cond_true, cond_false, bTT, bTF, bFT, bFF, Bool.not_true, Bool.not_false, AO.isC, Bool.or_true, Bool.true_or, Bool.or_false, Bool.false_or, WpE_cons, WpE_nil, opE, evE_some, guardE_true, guardE_false, WpD_cons, WpD_nil, opD, evD_some, guardD_true, guardD_false, hget, podC, hjl, k4]
                refine (Wp_calm rfl).2 ?_
                simp only [Wp_seq, Wp_ops, Wp_cond, Wp_skip, Wp_ret, Wp_exit, Wp_block, WpO_cons, WpO_nil, opQ, evOp, evO, evOs, evQ_some, guardV, guardQ_true, guardQ_false, boolQ_true, boolQ_false, argsA, pvs, putS, cellsOf, scals, scal, seqQ_normal, seqQ_ret, seqQ_exit, blkQ_normal, blkQ_ret, blkQ_exit, look_if, blkAt_if, if_true, if_false, Nat.reduceEqDiff, Nat.reduceAdd, true_implies, reduceCtorEq, false_implies, and_true, true_and, List.nil_append, List.cons_append, Bool.and_self, Nat.zero_add, Nat.add_zero, fieldA, nonNil, cellsAt, loadV_one, loadV_pvs, loadV_cons, mkAgg, allPV, List.drop_zero, List.drop_succ_cons, List.take_succ_cons, List.take_zero, List.length_cons, List.length_nil, Nat.beq_eq, storeB, patchL, beq_self_eq_true, ge_iff_le, gt_iff_lt, Int.reduceNeg, Int.reduceLE, Int.reduceLT, Int.reduceEq, extractV, List.getElem?_cons_zero, List.getElem?_cons_succ, mkAgg, Nat.add_eq_left, Nat.left_eq_add, Nat.one_ne_zero, ble_dec, beq_dec, decide_eq_true_eq, Nat.reduceLeDiff, Nat.le_refl, fillA, pureVs, pureV, beq_int, bne_int, Int.natCast_inj, eq_self, eqV, eqB, decide_true, decide_false, List.length_map, Int.toNat_natCast, List.getElem?_map, Option.map_some, Option.map_none, Int.natCast_nonneg, Option.some.injEq, lenV, binV, intBin, intV, idxA, ne_eq, not_true_eq_false, not_false_eq_true, List.drop, List.take, RetP, retP, resV, resOne, snapV, snapVs, snapR, snapRs, ownSz, pickV, cond_true, cond_false, bTT, bTF, bFT, bFF, Bool.not_true, Bool.not_false, AO.isC, Bool.or_true, Bool.true_or, Bool.or_false, Bool.false_or, WpE_cons, WpE_nil, opE, evE_some, guardE_true, guardE_false, WpD_cons, WpD_nil, opD, evD_some, guardD_true, guardD_false, hget, podC, hm, makeR, codeE, stateP, List.map_nil, hjl, k4, c0]
              · by_cases c1 : q.node = m.node
                · by_cases c2 : p.node = 0
                  · have hm : makeS s x t m = .inr ⟨(t.pods.set k { q with node := 0 }).set j (comeS x p m.node), IntKind.i64.wrap (t.pre + 1), t.shi⟩ := by
                      unfold makeS
                      rw [if_neg hnf, if_neg hi, if_neg hnn, if_neg hno4, hP, hK]
                      simp [hget, hgk, k4, c0, c1, c2]
                    have e1 := g3 k { q with node := 0 }
                    simp only [podC] at e1
                    have hget' : (t.pods.set k { q with node := 0 })[j]? = some p := by rw [List.getElem?_set_ne (fun h => c0 h.symm)]; exact hget
                    simp only [Wp_seq, Wp_ops, Wp_cond, Wp_skip, Wp_ret, Wp_exit, Wp_block, WpO_cons, WpO_nil, opQ, evOp, evO, evOs, evQ_some, guardV, guardQ_true, guardQ_false, boolQ_true, boolQ_false, argsA, pvs, putS, cellsOf, scals, scal, seqQ_normal, seqQ_ret, seqQ_exit, blkQ_normal, blkQ_ret, blkQ_exit, look_if, blkAt_if, if_true, if_false, Nat.reduceEqDiff, Nat.reduceAdd, true_implies, reduceCtorEq, false_implies, and_true, true_and, List.nil_append, List.cons_append, Bool.and_self, Nat.zero_add, Nat.add_zero, fieldA, nonNil, cellsAt, loadV_one, loadV_pvs, loadV_cons, mkAgg, allPV, List.drop_zero, List.drop_succ_cons, List.take_succ_cons, List.take_zero, List.length_cons, List.length_nil, Nat.beq_eq, storeB, patchL, beq_self_eq_true, ge_iff_le, gt_iff_lt, Int.reduceNeg, Int.reduceLE, Int.reduceLT, Int.reduceEq, extractV, List.getElem?_cons_zero, List.getElem?_cons_succ, mkAgg, Nat.add_eq_left, Nat.left_eq_add, Nat.one_ne_zero, ble_dec, beq_dec, decide_eq_true_eq, Nat.reduceLeDiff, Nat.le_refl, fillA, pureVs, pureV, beq_int, bne_int, Int.natCast_inj, eq_self, eqV, eqB, decide_true, decide_false, List.length_map, Int.toNat_natCast, List.getElem?_map, Option.map_some, Option.map_none, Int.natCast_nonneg, Option.some.injEq, lenV, binV, intBin, intV, idxA, ne_eq, not_true_eq_false, not_false_eq_true, List.drop, List.take, RetP, retP, resV, resOne, snapV, snapVs, snapR, snapRs, ownSz, pickV, cond_true, cond_false, bTT, bTF, bFT, bFF, Bool.not_true, Bool.not_false, AO.isC, Bool.or_true, Bool.true_or, Bool.or_false, Bool.false_or, WpE_cons, WpE_nil, opE, evE_some, guardE_true, guardE_false, WpD_cons, WpD_nil, opD, evD_some, guardD_true, guardD_false, kp.callD, ko.callD, kn.call, kf.call, hP, hK, hj0, hk0, k4, hget, podC]
                    rw [S.h279.callN (allLen_pods _) hlen hne]
                    simp only [Wp_seq, Wp_ops, Wp_cond, Wp_skip, Wp_ret, Wp_exit, Wp_block, WpO_cons, WpO_nil, opQ, evOp, evO, evOs, evQ_some, guardV, guardQ_true, guardQ_false, boolQ_true, boolQ_false, argsA, pvs, putS, cellsOf, scals, scal, seqQ_normal, seqQ_ret, seqQ_exit, blkQ_normal, blkQ_ret, blkQ_exit, look_if, blkAt_if, if_true, if_false, Nat.reduceEqDiff, Nat.reduceAdd, true_implies, reduceCtorEq, false_implies, and_true, true_and, List.nil_append, List.cons_append, Bool.and_self, Nat.zero_add, Nat.add_zero, fieldA, nonNil, cellsAt, loadV_one, loadV_pvs, loadV_cons, mkAgg, allPV, List.drop_zero, List.drop_succ_cons, List.take_succ_cons, List.take_zero, List.length_cons, List.length_nil, Nat.beq_eq, storeB, patchL, beq_self_eq_true, ge_iff_le, gt_iff_lt, Int.reduceNeg, Int.reduceLE, Int.reduceLT, Int.reduceEq, extractV, List.getElem?_cons_zero, List.getElem?_cons_succ, mkAgg, Nat.add_eq_left, Nat.left_eq_add, Nat.one_ne_zero, ble_dec, beq_dec, decide_eq_true_eq, Nat.reduceLeDiff, Nat.le_refl, fillA, pureVs, pureV, beq_int, bne_int, Int.natCast_inj, eq_self, eqV, eqB, decide_true, decide_false, List.length_map, Int.toNat_natCast, List.getElem?_map, Option.map_some, Option.map_none, Int.natCast_nonneg, Option.some.injEq, lenV, binV, intBin, intV, idxA, ne_eq, not_true_eq_false, not_false_eq_true, List.drop, List.take, RetP, retP, resV, resOne, snapV, snapVs, snapR, snapRs, ownSz, pickV, cond_true, cond_false, bTT, bTF, bFT, bFF, Bool.not_true, Bool.not_false, AO.isC, Bool.or_true, Bool.true_or, Bool.or_false, Bool.false_or, WpE_cons, WpE_nil, opE, evE_some, guardE_true, guardE_false, WpD_cons, WpD_nil, opD, evD_some, guardD_true, guardD_false, hget, podC, hjl, k4]
                    refine (Wp_calm rfl).2 ?_
                    simp only [Wp_seq, Wp_ops, Wp_cond, Wp_skip, Wp_ret, Wp_exit, Wp_block, WpO_cons, WpO_nil, opQ, evOp, evO, evOs, evQ_some, guardV, guardQ_true, guardQ_false, boolQ_true, boolQ_false, argsA, pvs, putS, cellsOf, scals, scal, seqQ_normal, seqQ_ret, seqQ_exit, blkQ_normal, blkQ_ret, blkQ_exit, look_if, blkAt_if, if_true, if_false, Nat.reduceEqDiff, Nat.reduceAdd, true_implies, reduceCtorEq, false_implies, and_true, true_and, List.nil_append, List.cons_append, Bool.and_self, Nat.zero_add, Nat.add_zero, fieldA, nonNil, cellsAt, loadV_one, loadV_pvs, loadV_cons, mkAgg, allPV, List.drop_zero, List.drop_succ_cons, List.take_succ_cons, List.take_zero, List.length_cons, List.length_nil, Nat.beq_eq, storeB, patchL, beq_self_eq_true, ge_iff_le, gt_iff_lt, Int.reduceNeg, Int.reduceLE, Int.reduceLT, Int.reduceEq, extractV, List.getElem?_cons_zero, List.getElem?_cons_succ, mkAgg, Nat.add_eq_left, Nat.left_eq_add, Nat.one_ne_zero, ble_dec, beq_dec, decide_eq_true_eq, Nat.reduceLeDiff, Nat.le_refl, fillA, pureVs, pureV, beq_int, bne_int, Int.natCast_inj, eq_self, eqV, eqB, decide_true, decide_false, List.length_map, Int.toNat_natCast, List.getElem?_map, Option.map_some, Option.map_none, Int.natCast_nonneg, Option.some.injEq, lenV, binV, intBin, intV, idxA, ne_eq, not_true_eq_false, not_false_eq_true, List.drop, List.take, RetP, retP, resV, resOne, snapV, snapVs, snapR, snapRs, ownSz, pickV, cond_true, cond_false, bTT, bTF, bFT, bFF, Bool.not_true, Bool.not_false, AO.isC, Bool.or_true, Bool.true_or, Bool.or_false, Bool.false_or, WpE_cons, WpE_nil, opE, evE_some, guardE_true, guardE_false, WpD_cons, WpD_nil, opD, evD_some, guardD_true, guardD_false, hget, hgk, podC, hjl, hk, k4, c0, c1, c2, e1]
                    refine come_call S.h242 S.h83 x hx (t.pods.set k { q with node := 0 }) j _ p hget' m.node ?_ ?_ (fun v hp' nx' q1 q2 q3 => ?_)
                    · show 6 < 7
                      decide
                    · rfl
                    · have d2 := q3 2 (show 2 < 7 by decide) (by decide)
                      have d4 := q3 4 (show 4 < 7 by decide) (by decide)
                      simp only [blkAt_if, Nat.reduceEqDiff, if_true, if_false] at d2 d4
                      simp only [Wp_seq, Wp_ops, Wp_cond, Wp_skip, Wp_ret, Wp_exit, Wp_block, WpO_cons, WpO_nil, opQ, evOp, evO, evOs, evQ_some, guardV, guardQ_true, guardQ_false, boolQ_true, boolQ_false, argsA, pvs, putS, cellsOf, scals, scal, seqQ_normal, seqQ_ret, seqQ_exit, blkQ_normal, blkQ_ret, blkQ_exit, look_if, blkAt_if, if_true, if_false, Nat.reduceEqDiff, Nat.reduceAdd, true_implies, reduceCtorEq, false_implies, and_true, true_and, List.nil_append, List.cons_append, Bool.and_self, Nat.zero_add, Nat.add_zero, fieldA, nonNil, cellsAt, loadV_one, loadV_pvs, loadV_cons, mkAgg, allPV, List.drop_zero, List.drop_succ_cons, List.take_succ_cons, List.take_zero, List.length_cons, List.length_nil, Nat.beq_eq, storeB, patchL, beq_self_eq_true, ge_iff_le, gt_iff_lt, Int.reduceNeg, Int.reduceLE, Int.reduceLT, Int.reduceEq, extractV, List.getElem?_cons_zero, List.getElem?_cons_succ, mkAgg, Nat.add_eq_left, Nat.left_eq_add, Nat.one_ne_zero, ble_dec, beq_dec, decide_eq_true_eq, Nat.reduceLeDiff, Nat.le_refl, fillA, pureVs, pureV, beq_int, bne_int, Int.natCast_inj, eq_self, eqV, eqB, decide_true, decide_false, List.length_map, Int.toNat_natCast, List.getElem?_map, Option.map_some, Option.map_none, Int.natCast_nonneg, Option.some.injEq, lenV, binV, intBin, intV, idxA, ne_eq, not_true_eq_false, not_false_eq_true, List.drop, List.take, RetP, retP, resV, resOne, snapV, snapVs, snapR, snapRs, ownSz, pickV, cond_true, cond_false, bTT, bTF, bFT, bFF, Bool.not_true, Bool.not_false, AO.isC, Bool.or_true, Bool.true_or, Bool.or_false, Bool.false_or, WpE_cons, WpE_nil, opE, evE_some, guardE_true, guardE_false, WpD_cons, WpD_nil, opD, evD_some, guardD_true, guardD_false, q2, d2, d4, hm, makeR, stateP]
                  · have hm : makeS s x t m = .inl 7 := by
                      unfold makeS
                      rw [if_neg hnf, if_neg hi, if_neg hnn, if_neg hno4, hP, hK]
                      simp [hget, hgk, k4, c0, c1, c2]
                    simp only [Wp_seq, Wp_ops, Wp_cond, Wp_skip, Wp_ret, Wp_exit, Wp_block, WpO_cons, WpO_nil, opQ, evOp, evO, evOs, evQ_some, guardV, guardQ_true, guardQ_false, boolQ_true, boolQ_false, argsA, pvs, putS, cellsOf, scals, scal, seqQ_normal, seqQ_ret, seqQ_exit, blkQ_normal, blkQ_ret, blkQ_exit, look_if, blkAt_if, if_true, if_false, Nat.reduceEqDiff, Nat.reduceAdd, true_implies, reduceCtorEq, false_implies, and_true, true_and, List.nil_append, List.cons_append, Bool.and_self, Nat.zero_add, Nat.add_zero, fieldA, nonNil, cellsAt, loadV_one, loadV_pvs, loadV_cons, mkAgg, allPV, List.drop_zero, List.drop_succ_cons, List.take_succ_cons, List.take_zero, List.length_cons, List.length_nil, Nat.beq_eq, storeB, patchL, beq_self_eq_true, ge_iff_le, gt_iff_lt, Int.reduceNeg, Int.reduceLE, Int.reduceLT, Int.reduceEq, extractV, List.getElem?_cons_zero, List.getElem?_cons_succ, mkAgg, Nat.add_eq_left, Nat.left_eq_add, Nat.one_ne_zero, ble_dec, beq_dec, decide_eq_true_eq, Nat.reduceLeDiff, Nat.le_refl, fillA, pureVs, pureV, beq_int, bne_int, Int.natCast_inj, eq_self, eqV, eqB, decide_true, decide_false, List.length_map, Int.toNat_natCast, List.getElem?_map, Option.map_some, Option.map_none, Int.natCast_nonneg, Option.some.injEq, lenV, binV, intBin, intV, idxA, ne_eq, not_true_eq_false, not_false_eq_true, List.drop, List.take, RetP, retP, resV, resOne, snapV, snapVs, snapR, snapRs, ownSz, pickV, cond_true, cond_false, bTT, bTF, bFT, bFF, Bool.not_true, Bool.not_false, AO.isC, Bool.or_true, Bool.true_or, Bool.or_false, Bool.false_or, WpE_cons, WpE_nil, opE, evE_some, guardE_true, guardE_false, WpD_cons, WpD_nil, opD, evD_some, guardD_true, guardD_false, kp.callD, ko.callD, kn.call, kf.call, hP, hK, hj0, hk0, k4, hget, podC]
                    rw [S.h279.callN (allLen_pods _) hlen hne]
                    simp only [Wp_seq, Wp_ops, Wp_cond, Wp_skip, Wp_ret, Wp_exit, Wp_block, WpO_cons, WpO_nil, opQ, evOp, evO, evOs, evQ_some, guardV, guardQ_true, guardQ_false, boolQ_true, boolQ_false, argsA, pvs, putS, cellsOf, scals, scal, seqQ_normal, seqQ_ret, seqQ_exit, blkQ_normal, blkQ_ret, blkQ_exit, look_if, blkAt_if, if_true, if_false, Nat.reduceEqDiff, Nat.reduceAdd, true_implies, reduceCtorEq, false_implies, and_true, true_and, List.nil_append, List.cons_append, Bool.and_self, Nat.zero_add, Nat.add_zero, fieldA, nonNil, cellsAt, loadV_one, loadV_pvs, loadV_cons, mkAgg, allPV, List.drop_zero, List.drop_succ_cons, List.take_succ_cons, List.take_zero, List.length_cons, List.length_nil, Nat.beq_eq, storeB, patchL, beq_self_eq_true, ge_iff_le, gt_iff_lt, Int.reduceNeg, Int.reduceLE, Int.reduceLT, Int.reduceEq, extractV, List.getElem?_cons_zero, List.getElem?_cons_succ, mkAgg, Nat.add_eq_left, Nat.left_eq_add, Nat.one_ne_zero, ble_dec, beq_dec, decide_eq_true_eq, Nat.reduceLeDiff, Nat.le_refl, fillA, pureVs, pureV, beq_int, bne_int, Int.natCast_inj, eq_self, eqV, eqB, decide_true, decide_false, List.length_map, Int.toNat_natCast, List.getElem?_map, Option.map_some, Option.map_none, Int.natCast_nonneg, Option.some.injEq, lenV, binV, intBin, intV, idxA, ne_eq, not_true_eq_false, not_false_eq_true, List.drop, List.take, RetP, retP, resV, resOne, snapV, snapVs, snapR, snapRs, ownSz, pickV, cond_true, cond_false, bTT, bTF, bFT, bFF, Bool.not_true, Bool.not_false, AO.isC, Bool.or_true, Bool.true_or, Bool.or_false, Bool.false_or, WpE_cons, WpE_nil, opE, evE_some, guardE_true, guardE_false, WpD_cons, WpD_nil, opD, evD_some, guardD_true, guardD_false, hget, podC, hjl, k4]
                    refine (Wp_calm rfl).2 ?_
                    simp only [Wp_seq, Wp_ops, Wp_cond, Wp_skip, Wp_ret, Wp_exit, Wp_block, WpO_cons, WpO_nil, opQ, evOp, evO, evOs, evQ_some, guardV, guardQ_true, guardQ_false, boolQ_true, boolQ_false, argsA, pvs, putS, cellsOf, scals, scal, seqQ_normal, seqQ_ret, seqQ_exit, blkQ_normal, blkQ_ret, blkQ_exit, look_if, blkAt_if, if_true, if_false, Nat.reduceEqDiff, Nat.reduceAdd, true_implies, reduceCtorEq, false_implies, and_true, true_and, List.nil_append, List.cons_append, Bool.and_self, Nat.zero_add, Nat.add_zero, fieldA, nonNil, cellsAt, loadV_one, loadV_pvs, loadV_cons, mkAgg, allPV, List.drop_zero, List.drop_succ_cons, List.take_succ_cons, List.take_zero, List.length_cons, List.length_nil, Nat.beq_eq, storeB, patchL, beq_self_eq_true, ge_iff_le, gt_iff_lt, Int.reduceNeg, Int.reduceLE, Int.reduceLT, Int.reduceEq, extractV, List.getElem?_cons_zero, List.getElem?_cons_succ, mkAgg, Nat.add_eq_left, Nat.left_eq_add, Nat.one_ne_zero, ble_dec, beq_dec, decide_eq_true_eq, Nat.reduceLeDiff, Nat.le_refl, fillA, pureVs, pureV, beq_int, bne_int, Int.natCast_inj, eq_self, eqV, eqB, decide_true, decide_false, List.length_map, Int.toNat_natCast, List.getElem?_map, Option.map_some, Option.map_none, Int.natCast_nonneg, Option.some.injEq, lenV, binV, intBin, intV, idxA, ne_eq, not_true_eq_false, not_false_eq_true, List.drop, List.take, RetP, retP, resV, resOne, snapV, snapVs, snapR, snapRs, ownSz, pickV, cond_true, cond_false, bTT, bTF, bFT, bFF, Bool.not_true, Bool.not_false, AO.isC, Bool.or_true, Bool.true_or, Bool.or_false, Bool.false_or, WpE_cons, WpE_nil, opE, evE_some, guardE_true, guardE_false, WpD_cons, WpD_nil, opD, evD_some, guardD_true, guardD_false, hget, hgk, podC, hm, makeR, codeE, stateP, List.map_nil, hjl, hk, k4, c0, c1, c2]
                · have hm : makeS s x t m = .inl 7 := by
                    unfold makeS
                    rw [if_neg hnf, if_neg hi, if_neg hnn, if_neg hno4, hP, hK]
                    simp [hget, hgk, k4, c0, c1]
                  simp only [Wp_seq, Wp_ops, Wp_cond, Wp_skip, Wp_ret, Wp_exit, Wp_block, WpO_cons, WpO_nil, opQ, evOp, evO, evOs, evQ_some, guardV, guardQ_true, guardQ_false, boolQ_true, boolQ_false, argsA, pvs, putS, cellsOf, scals, scal, seqQ_normal, seqQ_ret, seqQ_exit, blkQ_normal, blkQ_ret, blkQ_exit, look_if, blkAt_if, if_true, if_false, Nat.reduceEqDiff, Nat.reduceAdd, true_implies, reduceCtorEq, false_implies, and_true, true_and, List.nil_append, List.cons_append, Bool.and_self, Nat.zero_add, Nat.add_zero, fieldA, nonNil, cellsAt, loadV_one, loadV_pvs, loadV_cons, mkAgg, allPV, List.drop_zero, List.drop_succ_cons, List.take_succ_cons, List.take_zero, List.length_cons, List.length_nil, Nat.beq_eq, storeB, patchL, beq_self_eq_true, ge_iff_le, gt_iff_lt, Int.reduceNeg, Int.reduceLE, Int.reduceLT, Int.reduceEq, extractV, List.getElem?_cons_zero, List.getElem?_cons_succ, mkAgg, Nat.add_eq_left, Nat.left_eq_add, Nat.one_ne_zero, ble_dec, beq_dec, decide_eq_true_eq, Nat.reduceLeDiff, Nat.le_refl, fillA, pureVs, pureV, beq_int, bne_int, Int.natCast_inj, eq_self, eqV, eqB, decide_true, decide_false, List.length_map, Int.toNat_natCast, List.getElem?_map, Option.map_some, Option.map_none, Int.natCast_nonneg, Option.some.injEq, lenV, binV, intBin, intV, idxA, ne_eq, not_true_eq_false, not_false_eq_true, List.drop, List.take, RetP, retP, resV, resOne, snapV, snapVs, snapR, snapRs, ownSz, pickV, cond_true, cond_false, bTT, bTF, bFT, bFF, Bool.not_true, Bool.not_false, AO.isC, Bool.or_true, Bool.true_or, Bool.or_false, Bool.false_or, WpE_cons, WpE_nil, opE, evE_some, guardE_true, guardE_false, WpD_cons, WpD_nil, opD, evD_some, guardD_true, guardD_false, kp.callD, ko.callD, kn.call, kf.call, hP, hK, hj0, hk0, k4, hget, podC]
                  rw [S.h279.callN (allLen_pods _) hlen hne]
                  simp only [Wp_seq, Wp_ops, Wp_cond, Wp_skip, Wp_ret, Wp_exit, Wp_block, WpO_cons, WpO_nil, opQ, evOp, evO, evOs, evQ_some, guardV, guardQ_true, guardQ_false, boolQ_true, boolQ_false, argsA, pvs, putS, cellsOf, scals, scal, seqQ_normal, seqQ_ret, seqQ_exit, blkQ_normal, blkQ_ret, blkQ_exit, look_if, blkAt_if, if_true, if_false, Nat.reduceEqDiff, Nat.reduceAdd, true_implies, reduceCtorEq, false_implies, and_true, true_and, List.nil_append, List.cons_append, Bool.and_self, Nat.zero_add, Nat.add_zero, fieldA, nonNil, cellsAt, loadV_one, loadV_pvs, loadV_cons, mkAgg, allPV, List.drop_zero, List.drop_succ_cons, List.take_succ_cons, List.take_zero, List.length_cons, List.length_nil, Nat.beq_eq, storeB, patchL, beq_self_eq_true, ge_iff_le, gt_iff_lt, Int.reduceNeg, Int.reduceLE, Int.reduceLT, Int.reduceEq, extractV, List.getElem?_cons_zero, List.getElem?_cons_succ, mkAgg, Nat.add_eq_left, Nat.left_eq_add, Nat.one_ne_zero, ble_dec, beq_dec, decide_eq_true_eq, Nat.reduceLeDiff, Nat.le_refl, fillA, pureVs, pureV, beq_int, bne_int, Int.natCast_inj, eq_self, eqV, eqB, decide_true, decide_false, List.length_map, Int.toNat_natCast, List.getElem?_map, Option.map_some, Option.map_none, Int.natCast_nonneg, Option.some.injEq, lenV, binV, intBin, intV, idxA, ne_eq, not_true_eq_false, not_false_eq_true, List.drop, List.take, RetP, retP, resV, resOne, snapV, snapVs, snapR, snapRs, ownSz, pickV, cond_true, cond_false, bTT, bTF, bFT, bFF, Bool.not_true, Bool.not_false, AO.isC, Bool.or_true, Bool.true_or, Bool.or_false, Bool.false_or, WpE_cons, WpE_nil, opE, evE_some, guardE_true, guardE_false, WpD_cons, WpD_nil, opD, evD_some, guardD_true, guardD_false, hget, podC, hjl, k4]
                  refine (Wp_calm rfl).2 ?_
                  simp only [Wp_seq, Wp_ops, Wp_cond, Wp_skip, Wp_ret, Wp_exit, Wp_block, WpO_cons, WpO_nil, opQ, evOp, evO, evOs, evQ_some, guardV, guardQ_true, guardQ_false, boolQ_true, boolQ_false, argsA, pvs, putS, cellsOf, scals, scal, seqQ_normal, seqQ_ret, seqQ_exit, blkQ_normal, blkQ_ret, blkQ_exit, look_if, blkAt_if, if_true, if_false, Nat.reduceEqDiff, Nat.reduceAdd, true_implies, reduceCtorEq, false_implies, and_true, true_and, List.nil_append, List.cons_append, Bool.and_self, Nat.zero_add, Nat.add_zero, fieldA, nonNil, cellsAt, loadV_one, loadV_pvs, loadV_cons, mkAgg, allPV, List.drop_zero, List.drop_succ_cons, List.take_succ_cons, List.take_zero, List.length_cons, List.length_nil, Nat.beq_eq, storeB, patchL, beq_self_eq_true, ge_iff_le, gt_iff_lt, Int.reduceNeg, Int.reduceLE, Int.reduceLT, Int.reduceEq, extractV, List.getElem?_cons_zero, List.getElem?_cons_succ, mkAgg, Nat.add_eq_left, Nat.left_eq_add, Nat.one_ne_zero, ble_dec, beq_dec, decide_eq_true_eq, Nat.reduceLeDiff, Nat.le_refl, fillA, pureVs, pureV, beq_int, bne_int, Int.natCast_inj, eq_self, eqV, eqB, decide_true, decide_false, List.length_map, Int.toNat_natCast, List.getElem?_map, Option.map_some, Option.map_none, Int.natCast_nonneg, Option.some.injEq, lenV, binV, intBin, intV, idxA, ne_eq, not_true_eq_false, not_false_eq_true, List.drop, List.take, RetP, retP, resV, resOne, snapV, snapVs, snapR, snapRs, ownSz, pickV, cond_true, cond_false, bTT, bTF, bFT, bFF, Bool.not_true, Bool.not_false, AO.isC, Bool.or_true, Bool.true_or, Bool.or_false, Bool.false_or, WpE_cons, WpE_nil, opE, evE_some, guardE_true, guardE_false, WpD_cons, WpD_nil, opD, evD_some, guardD_true, guardD_false, hget, hgk, podC, hm, makeR, codeE, stateP, List.map_nil, hjl, hk, k4, c0, c1]
          · by_cases k3 : m.kind = 3
            · by_cases c1 : p.node = 0
              · have hm : makeS s x t m = .inl 7 := by
                  unfold makeS
                  rw [if_neg hnf, if_neg hi, if_neg hnn, if_neg (by simp [k4]), hP]
                  simp [hget, k3, c1]
                simp only [Wp_seq, Wp_ops, Wp_cond, Wp_skip, Wp_ret, Wp_exit, Wp_block, WpO_cons, WpO_nil, opQ, evOp, evO, evOs, evQ_some, guardV, guardQ_true, guardQ_false, boolQ_true, boolQ_false, argsA, pvs, putS, cellsOf, scals, scal, seqQ_normal, seqQ_ret, seqQ_exit, blkQ_normal, blkQ_ret, blkQ_exit, look_if, blkAt_if, if_true, if_false, Nat.reduceEqDiff, Nat.reduceAdd, true_implies, reduceCtorEq, false_implies, and_true, true_and, List.nil_append, List.cons_append, Bool.and_self, Nat.zero_add, Nat.add_zero, fieldA, nonNil, cellsAt, loadV_one, loadV_pvs, loadV_cons, mkAgg, allPV, List.drop_zero, List.drop_succ_cons, List.take_succ_cons, List.take_zero, List.length_cons, List.length_nil, Nat.beq_eq, storeB, patchL, beq_self_eq_true, ge_iff_le, gt_iff_lt, Int.reduceNeg, Int.reduceLE, Int.reduceLT, Int.reduceEq, extractV, List.getElem?_cons_zero, List.getElem?_cons_succ, mkAgg, Nat.add_eq_left, Nat.left_eq_add, Nat.one_ne_zero, ble_dec, beq_dec, decide_eq_true_eq, Nat.reduceLeDiff, Nat.le_refl, fillA, pureVs, pureV, beq_int, bne_int, Int.natCast_inj, eq_self, eqV, eqB, decide_true, decide_false, List.length_map, Int.toNat_natCast, List.getElem?_map, Option.map_some, Option.map_none, Int.natCast_nonneg, Option.some.injEq, lenV, binV, intBin, intV, idxA, ne_eq, not_true_eq_false, not_false_eq_true, List.drop, List.take, RetP, retP, resV, resOne, snapV, snapVs, snapR, snapRs, ownSz, pickV, cond_true, cond_false, bTT, bTF, bFT, bFF, Bool.not_true, Bool.not_false, AO.isC, Bool.or_true, Bool.true_or, Bool.or_false, Bool.false_or, WpE_cons, WpE_nil, opE, evE_some, guardE_true, guardE_false, WpD_cons, WpD_nil, opD, evD_some, guardD_true, guardD_false, kp.callD, ko.callD, kn.call, kf.call, hP, hj0, k3, hget, podC]
                rw [S.h279.callN (allLen_pods _) hlen hne]
                simp only [Wp_seq, Wp_ops, Wp_cond, Wp_skip, Wp_ret, Wp_exit, Wp_block, WpO_cons, WpO_nil, opQ, evOp, evO, evOs, evQ_some, guardV, guardQ_true, guardQ_false, boolQ_true, boolQ_false, argsA, pvs, putS, cellsOf, scals, scal, seqQ_normal, seqQ_ret, seqQ_exit, blkQ_normal, blkQ_ret, blkQ_exit, look_if, blkAt_if, if_true, if_false, Nat.reduceEqDiff, Nat.reduceAdd, true_implies, reduceCtorEq, false_implies, and_true, true_and, List.nil_append, List.cons_append, Bool.and_self, Nat.zero_add, Nat.add_zero, fieldA, nonNil, cellsAt, loadV_one, loadV_pvs, loadV_cons, mkAgg, allPV, List.drop_zero, List.drop_succ_cons, List.take_succ_cons, List.take_zero, List.length_cons, List.length_nil, Nat.beq_eq, storeB, patchL, beq_self_eq_true, ge_iff_le, gt_iff_lt, Int.reduceNeg, Int.reduceLE, Int.reduceLT, Int.reduceEq, extractV, List.getElem?_cons_zero, List.getElem?_cons_succ, mkAgg, Nat.add_eq_left, Nat.left_eq_add, Nat.one_ne_zero, ble_dec, beq_dec, decide_eq_true_eq, Nat.reduceLeDiff, Nat.le_refl, fillA, pureVs, pureV, beq_int, bne_int, Int.natCast_inj, eq_self, eqV, eqB, decide_true, decide_false, List.length_map, Int.toNat_natCast, List.getElem?_map, Option.map_some, Option.map_none, Int.natCast_nonneg, Option.some.injEq, lenV, binV, intBin, intV, idxA, ne_eq, not_true_eq_false, not_false_eq_true, List.drop, List.take, RetP, retP, resV, resOne, snapV, snapVs, snapR, snapRs, ownSz, pickV, cond_true, cond_false, bTT, bTF, bFT, bFF, Bool.not_true, Bool.not_false, AO.isC, Bool.or_true, Bool.true_or, Bool.or_false, Bool.false_or, WpE_cons, WpE_nil, opE, evE_some, guardE_true, guardE_false, WpD_cons, WpD_nil, opD, evD_some, guardD_true, guardD_false, hget, podC, hm, makeR, codeE, stateP, List.map_nil, hjl, k3, c1]
              · by_cases c2 : p.node = m.node
                · have hm : makeS s x t m = .inl 7 := by
                    unfold makeS
                    rw [if_neg hnf, if_neg hi, if_neg hnn, if_neg (by simp [k4]), hP]
                    simp [hget, k3, c2]
                  rw [c2] at c1
                  simp only [Wp_seq, Wp_ops, Wp_cond, Wp_skip, Wp_ret, Wp_exit, Wp_block, WpO_cons, WpO_nil, opQ, evOp, evO, evOs, evQ_some, guardV, guardQ_true, guardQ_false, boolQ_true, boolQ_false, argsA, pvs, putS, cellsOf, scals, scal, seqQ_normal, seqQ_ret, seqQ_exit, blkQ_normal, blkQ_ret, blkQ_exit, look_if, blkAt_if, if_true, if_false, Nat.reduceEqDiff, Nat.reduceAdd, true_implies, reduceCtorEq, false_implies, and_true, true_and, List.nil_append, List.cons_append, Bool.and_self, Nat.zero_add, Nat.add_zero, fieldA, nonNil, cellsAt, loadV_one, loadV_pvs, loadV_cons, mkAgg, allPV, List.drop_zero, List.drop_succ_cons, List.take_succ_cons, List.take_zero, List.length_cons, List.length_nil, Nat.beq_eq, storeB, patchL, beq_self_eq_true, ge_iff_le, gt_iff_lt, Int.reduceNeg, Int.reduceLE, Int.reduceLT, Int.reduceEq, extractV, List.getElem?_cons_zero, List.getElem?_cons_succ, mkAgg, Nat.add_eq_left, Nat.left_eq_add, Nat.one_ne_zero, ble_dec, beq_dec, decide_eq_true_eq, Nat.reduceLeDiff, Nat.le_refl, fillA, pureVs, pureV, beq_int, bne_int, Int.natCast_inj, eq_self, eqV, eqB, decide_true, decide_false, List.length_map, Int.toNat_natCast, List.getElem?_map, Option.map_some, Option.map_none, Int.natCast_nonneg, Option.some.injEq, lenV, binV, intBin, intV, idxA, ne_eq, not_true_eq_false, not_false_eq_true, List.drop, List.take, RetP, retP, resV, resOne, snapV, snapVs, snapR, snapRs, ownSz, pickV, cond_true, cond_false, bTT, bTF, bFT, bFF, Bool.not_true, Bool.not_false, AO.isC, Bool.or_true, Bool.true_or, Bool.or_false, Bool.false_or, WpE_cons, WpE_nil, opE, evE_some, guardE_true, guardE_false, WpD_cons, WpD_nil, opD, evD_some, guardD_true, guardD_false, kp.callD, ko.callD, kn.call, kf.call, hP, hj0, k3, hget, podC]
                  rw [S.h279.callN (allLen_pods _) hlen hne]
                  simp only [Wp_seq, Wp_ops, Wp_cond, Wp_skip, Wp_ret, Wp_exit, Wp_block, WpO_cons, WpO_nil, opQ, evOp, evO, evOs, evQ_some, guardV, guardQ_true, guardQ_false, boolQ_true, boolQ_false, argsA, pvs, putS, cellsOf, scals, scal, seqQ_normal, seqQ_ret, seqQ_exit, blkQ_normal, blkQ_ret, blkQ_exit, look_if, blkAt_if, if_true, if_false, Nat.reduceEqDiff, Nat.reduceAdd, true_implies, reduceCtorEq, false_implies, and_true, true_and, List.nil_append, List.cons_append, Bool.and_self, Nat.zero_add, Nat.add_zero, fieldA, nonNil, cellsAt, loadV_one, loadV_pvs, loadV_cons, mkAgg, allPV, List.drop_zero, List.drop_succ_cons, List.take_succ_cons, List.take_zero, List.length_cons, List.length_nil, Nat.beq_eq, storeB, patchL, beq_self_eq_true, ge_iff_le, gt_iff_lt, Int.reduceNeg, Int.reduceLE, Int.reduceLT, Int.reduceEq, extractV, List.getElem?_cons_zero, List.getElem?_cons_succ, mkAgg, Nat.add_eq_left, Nat.left_eq_add, Nat.one_ne_zero, ble_dec, beq_dec, decide_eq_true_eq, Nat.reduceLeDiff, Nat.le_refl, fillA, pureVs, pureV, beq_int, bne_int, Int.natCast_inj, eq_self, eqV, eqB, decide_true, decide_false, List.length_map, Int.toNat_natCast, List.getElem?_map, Option.map_some, Option.map_none, Int.natCast_nonneg, Option.some.injEq, lenV, binV, intBin, intV, idxA, ne_eq, not_true_eq_false, not_false_eq_true, List.drop, List.take, RetP, retP, resV, resOne, snapV, snapVs, snapR, snapRs, ownSz, pickV, cond_true, cond_false, bTT, bTF, bFT, bFF, Bool.not_true, Bool.not_false, AO.isC, Bool.or_true, Bool.true_or, Bool.or_false, Bool.false_or, WpE_cons, WpE_nil, opE, evE_some, guardE_true, guardE_false, WpD_cons, WpD_nil, opD, evD_some, guardD_true, guardD_false, hget, podC, hm, makeR, codeE, stateP, List.map_nil, hjl, k3, c1, c2]
                · have hm : makeS s x t m = .inr ⟨t.pods.set j (comeS x p m.node), t.pre, IntKind.i64.wrap (t.shi + 1)⟩ := by
                    unfold makeS
                    rw [if_neg hnf, if_neg hi, if_neg hnn, if_neg (by simp [k4]), hP]
                    simp [hget, k3, c1, c2]
                  simp only [Wp_seq, Wp_ops, Wp_cond, Wp_skip, Wp_ret, Wp_exit, Wp_block, WpO_cons, WpO_nil, opQ, evOp, evO, evOs, evQ_some, guardV, guardQ_true, guardQ_false, boolQ_true, boolQ_false, argsA, pvs, putS, cellsOf, scals, scal, seqQ_normal, seqQ_ret, seqQ_exit, blkQ_normal, blkQ_ret, blkQ_exit, look_if, blkAt_if, if_true, if_false, Nat.reduceEqDiff, Nat.reduceAdd, true_implies, reduceCtorEq, false_implies, and_true, true_and, List.nil_append, List.cons_append, Bool.and_self, Nat.zero_add, Nat.add_zero, fieldA, nonNil, cellsAt, loadV_one, loadV_pvs, loadV_cons, mkAgg, allPV, List.drop_zero, List.drop_succ_cons, List.take_succ_cons, List.take_zero, List.length_cons, List.length_nil, Nat.beq_eq, storeB, patchL, beq_self_eq_true, ge_iff_le, gt_iff_lt, Int.reduceNeg, Int.reduceLE, Int.reduceLT, Int.reduceEq, extractV, List.getElem?_cons_zero, List.getElem?_cons_succ, mkAgg, Nat.add_eq_left, Nat.left_eq_add, Nat.one_ne_zero, ble_dec, beq_dec, decide_eq_true_eq, Nat.reduceLeDiff, Nat.le_refl, fillA, pureVs, pureV, beq_int, bne_int, Int.natCast_inj, eq_self, eqV, eqB, decide_true, decide_false, List.length_map, Int.toNat_natCast, List.getElem?_map, Option.map_some, Option.map_none, Int.natCast_nonneg, Option.some.injEq, lenV, binV, intBin, intV, idxA, ne_eq, not_true_eq_false, not_false_eq_true, List.drop, List.take, RetP, retP, resV, resOne, snapV, snapVs, snapR, snapRs, ownSz, pickV, cond_true, cond_false, bTT, bTF, bFT, bFF, Bool.not_true, Bool.not_false, AO.isC, Bool.or_true, Bool.true_or, Bool.or_false, Bool.false_or, WpE_cons, WpE_nil, opE, evE_some, guardE_true, guardE_false, WpD_cons, WpD_nil, opD, evD_some, guardD_true, guardD_false, kp.callD, ko.callD, kn.call, kf.call, hP, hj0, k3, hget, podC]
                  rw [S.h279.callN (allLen_pods _) hlen hne]
                  simp only [Wp_seq, Wp_ops, Wp_cond, Wp_skip, Wp_ret, Wp_exit, Wp_block, WpO_cons, WpO_nil, opQ, evOp, evO, evOs, evQ_some, guardV, guardQ_true, guardQ_false, boolQ_true, boolQ_false, argsA, pvs, putS, cellsOf, scals, scal, seqQ_normal, seqQ_ret, seqQ_exit, blkQ_normal, blkQ_ret, blkQ_exit, look_if, blkAt_if, if_true, if_false, Nat.reduceEqDiff, Nat.reduceAdd, true_implies, reduceCtorEq, false_implies, and_true, true_and, List.nil_append, List.cons_append, Bool.and_self, Nat.zero_add, Nat.add_zero, fieldA, nonNil, cellsAt, loadV_one, loadV_pvs, loadV_cons, mkAgg, allPV, List.drop_zero, List.drop_succ_cons, List.take_succ_cons, List.take_zero, List.length_cons, List.length_nil, Nat.beq_eq, storeB, patchL, beq_self_eq_true, ge_iff_le, gt_iff_lt, Int.reduceNeg, Int.reduceLE, Int.reduceLT, Int.reduceEq, extractV, List.getElem?_cons_zero, List.getElem?_cons_succ, mkAgg, Nat.add_eq_left, Nat.left_eq_add, Nat.one_ne_zero, ble_dec, beq_dec, decide_eq_true_eq, Nat.reduceLeDiff, Nat.le_refl, fillA, pureVs, pureV, beq_int, bne_int, Int.natCast_inj, eq_self, eqV, eqB, decide_true, decide_false, List.length_map, Int.toNat_natCast, List.getElem?_map, Option.map_some, Option.map_none, Int.natCast_nonneg, Option.some.injEq, lenV, binV, intBin, intV, idxA, ne_eq, not_true_eq_false, not_false_eq_true, List.drop, List.take, RetP, retP, resV, resOne, snapV, snapVs, snapR, snapRs, ownSz, pickV, cond_true, cond_false, bTT, bTF, bFT, bFF, Bool.not_true, Bool.not_false, AO.isC, Bool.or_true, Bool.true_or, Bool.or_false, Bool.false_or, WpE_cons, WpE_nil, opE, evE_some, guardE_true, guardE_false, WpD_cons, WpD_nil, opD, evD_some, guardD_true, guardD_false, hget, podC, hjl, k3, c1, c2]
                  refine come_call S.h242 S.h83 x hx t.pods j _ p hget m.node ?_ ?_ (fun v hp' nx' q1 q2 q3 => ?_)
                  · show 6 < 7
                    decide
                  · rfl
                  · have d2 := q3 2 (show 2 < 7 by decide) (by decide)
                    have d4 := q3 4 (show 4 < 7 by decide) (by decide)
                    simp only [blkAt_if, Nat.reduceEqDiff, if_true, if_false] at d2 d4
                    simp only [Wp_seq, Wp_ops, Wp_cond, Wp_skip, Wp_ret, Wp_exit, Wp_block, WpO_cons, WpO_nil, opQ, evOp, evO, evOs, evQ_some, guardV, guardQ_true, guardQ_false, boolQ_true, boolQ_false, argsA, pvs, putS, cellsOf, scals, scal, seqQ_normal, seqQ_ret, seqQ_exit, blkQ_normal, blkQ_ret, blkQ_exit, look_if, blkAt_if, if_true, if_false, Nat.reduceEqDiff, Nat.reduceAdd, true_implies, reduceCtorEq, false_implies, and_true, true_and, List.nil_append, List.cons_append, Bool.and_self, Nat.zero_add, Nat.add_zero, fieldA, nonNil, cellsAt, loadV_one, loadV_pvs, loadV_cons, mkAgg, allPV, List.drop_zero, List.drop_succ_cons, List.take_succ_cons, List.take_zero, List.length_cons, List.length_nil, Nat.beq_eq, storeB, patchL, beq_self_eq_true, ge_iff_le, gt_iff_lt, Int.reduceNeg, Int.reduceLE, Int.reduceLT, Int.reduceEq, extractV, List.getElem?_cons_zero, List.getElem?_cons_succ, mkAgg, Nat.add_eq_left, Nat.left_eq_add, Nat.one_ne_zero, ble_dec, beq_dec, decide_eq_true_eq, Nat.reduceLeDiff, Nat.le_refl, fillA, pureVs, pureV, beq_int, bne_int, Int.natCast_inj, eq_self, eqV, eqB, decide_true, decide_false, List.length_map, Int.toNat_natCast, List.getElem?_map, Option.map_some, Option.map_none, Int.natCast_nonneg, Option.some.injEq, lenV, binV, intBin, intV, idxA, ne_eq, not_true_eq_false, not_false_eq_true, List.drop, List.take, RetP, retP, resV, resOne, snapV, snapVs, snapR, snapRs, ownSz, pickV, cond_true, cond_false, bTT, bTF, bFT, bFF, Bool.not_true, Bool.not_false, AO.isC, Bool.or_true, Bool.true_or, Bool.or_false, Bool.false_or, WpE_cons, WpE_nil, opE, evE_some, guardE_true, guardE_false, WpD_cons, WpD_nil, opD, evD_some, guardD_true, guardD_false, q2, d2, d4, hm, makeR, stateP]
            · by_cases c1 : p.node = 0
              · have hm : makeS s x t m = .inr ⟨t.pods.set j (comeS x p m.node), t.pre, t.shi⟩ := by
                  unfold makeS
                  rw [if_neg hnf, if_neg hi, if_neg hnn, if_neg (by simp [k4]), hP]
                  simp [hget, k2, k3, k4, c1]
                simp only [Wp_seq, Wp_ops, Wp_cond, Wp_skip, Wp_ret, Wp_exit, Wp_block, WpO_cons, WpO_nil, opQ, evOp, evO, evOs, evQ_some, guardV, guardQ_true, guardQ_false, boolQ_true, boolQ_false, argsA, pvs, putS, cellsOf, scals, scal, seqQ_normal, seqQ_ret, seqQ_exit, blkQ_normal, blkQ_ret, blkQ_exit, look_if, blkAt_if, if_true, if_false, Nat.reduceEqDiff, Nat.reduceAdd, true_implies, reduceCtorEq, false_implies, and_true, true_and, List.nil_append, List.cons_append, Bool.and_self, Nat.zero_add, Nat.add_zero, fieldA, nonNil, cellsAt, loadV_one, loadV_pvs, loadV_cons, mkAgg, allPV, List.drop_zero, List.drop_succ_cons, List.take_succ_cons, List.take_zero, List.length_cons, List.length_nil, Nat.beq_eq, storeB, patchL, beq_self_eq_true, ge_iff_le, gt_iff_lt, Int.reduceNeg, Int.reduceLE, Int.reduceLT, Int.reduceEq, extractV, List.getElem?_cons_zero, List.getElem?_cons_succ, mkAgg, Nat.add_eq_left, Nat.left_eq_add, Nat.one_ne_zero, ble_dec, beq_dec, decide_eq_true_eq, Nat.reduceLeDiff, Nat.le_refl, fillA, pureVs, pureV, beq_int, bne_int, Int.natCast_inj, eq_self, eqV, eqB, decide_true, decide_false, List.length_map, Int.toNat_natCast, List.getElem?_map, Option.map_some, Option.map_none, Int.natCast_nonneg, Option.some.injEq, lenV, binV, intBin, intV, idxA, ne_eq, not_true_eq_false, not_false_eq_true, List.drop, List.take, RetP, retP, resV, resOne, snapV, snapVs, snapR, snapRs, ownSz, pickV, cond_true, cond_false, bTT, bTF, bFT, bFF, Bool.not_true, Bool.not_false, AO.isC, Bool.or_true, Bool.true_or, Bool.or_false, Bool.false_or, WpE_cons, WpE_nil, opE, evE_some, guardE_true, guardE_false, WpD_cons, WpD_nil, opD, evD_some, guardD_true, guardD_false, kp.callD, ko.callD, kn.call, kf.call, hP, hj0, k2, k3, k4, hget, podC]
                rw [S.h279.callN (allLen_pods _) hlen hne]
                simp only [Wp_seq, Wp_ops, Wp_cond, Wp_skip, Wp_ret, Wp_exit, Wp_block, WpO_cons, WpO_nil, opQ, evOp, evO, evOs, evQ_some, guardV, guardQ_true, guardQ_false, boolQ_true, boolQ_false, argsA, pvs, putS, cellsOf, scals, scal, seqQ_normal, seqQ_ret, seqQ_exit, blkQ_normal, blkQ_ret, blkQ_exit, look_if, blkAt_if, if_true, if_false, Nat.reduceEqDiff, Nat.reduceAdd, true_implies, reduceCtorEq, false_implies, and_true, true_and, List.nil_append, List.cons_append, Bool.and_self, Nat.zero_add, Nat.add_zero, fieldA, nonNil, cellsAt, loadV_one, loadV_pvs, loadV_cons, mkAgg, allPV, List.drop_zero, List.drop_succ_cons, List.take_succ_cons, List.take_zero, List.length_cons, List.length_nil, Nat.beq_eq, storeB, patchL, beq_self_eq_true, ge_iff_le, gt_iff_lt, Int.reduceNeg, Int.reduceLE, Int.reduceLT, Int.reduceEq, extractV, List.getElem?_cons_zero, List.getElem?_cons_succ, mkAgg, Nat.add_eq_left, Nat.left_eq_add, Nat.one_ne_zero, ble_dec, beq_dec, decide_eq_true_eq, Nat.reduceLeDiff, Nat.le_refl, fillA, pureVs, pureV, beq_int, bne_int, Int.natCast_inj, eq_self, eqV, eqB, decide_true, decide_false, List.length_map, Int.toNat_natCast, List.getElem?_map, Option.map_some, Option.map_none, Int.natCast_nonneg, Option.some.injEq, lenV, binV, intBin, intV, idxA, ne_eq, not_true_eq_false, not_false_eq_true, List.drop, List.take, RetP, retP, resV, resOne, snapV, snapVs, snapR, snapRs, ownSz, pickV, cond_true, cond_false, bTT, bTF, bFT, bFF, Bool.not_true, Bool.not_false, AO.isC, Bool.or_true, Bool.true_or, Bool.or_false, Bool.false_or, WpE_cons, WpE_nil, opE, evE_some, guardE_true, guardE_false, WpD_cons, WpD_nil, opD, evD_some, guardD_true, guardD_false, hget, podC, hjl, k2, k3, k4, c1]
                refine come_call S.h242 S.h83 x hx t.pods j _ p hget m.node ?_ ?_ (fun v hp' nx' q1 q2 q3 => ?_)
                · show 6 < 7
                  decide
                · rfl
                · have d2 := q3 2 (show 2 < 7 by decide) (by decide)
                  have d4 := q3 4 (show 4 < 7 by decide) (by decide)
                  simp only [blkAt_if, Nat.reduceEqDiff, if_true, if_false] at d2 d4
                  simp only [Wp_seq, Wp_ops, Wp_cond, Wp_skip, Wp_ret, Wp_exit, Wp_block, WpO_cons, WpO_nil, opQ, evOp, evO, evOs, evQ_some, guardV, guardQ_true, guardQ_false, boolQ_true, boolQ_false, argsA, pvs, putS, cellsOf, scals, scal, seqQ_normal, seqQ_ret, seqQ_exit, blkQ_normal, blkQ_ret, blkQ_exit, look_if, blkAt_if, if_true, if_false, Nat.reduceEqDiff, Nat.reduceAdd, true_implies, reduceCtorEq, false_implies, and_true, true_and, List.nil_append, List.cons_append, Bool.and_self, Nat.zero_add, Nat.add_zero, fieldA, nonNil, cellsAt, loadV_one, loadV_pvs, loadV_cons, mkAgg, allPV, List.drop_zero, List.drop_succ_cons, List.take_succ_cons, List.take_zero, List.length_cons, List.length_nil, Nat.beq_eq, storeB, patchL, beq_self_eq_true, ge_iff_le, gt_iff_lt, Int.reduceNeg, Int.reduceLE, Int.reduceLT, Int.reduceEq, extractV, List.getElem?_cons_zero, List.getElem?_cons_succ, mkAgg, Nat.add_eq_left, Nat.left_eq_add, Nat.one_ne_zero, ble_dec, beq_dec, decide_eq_true_eq, Nat.reduceLeDiff, Nat.le_refl, fillA, pureVs, pureV, beq_int, bne_int, Int.natCast_inj, eq_self, eqV, eqB, decide_true, decide_false, List.length_map, Int.toNat_natCast, List.getElem?_map, Option.map_some, Option.map_none, Int.natCast_nonneg, Option.some.injEq, lenV, binV, intBin, intV, idxA, ne_eq, not_true_eq_false, not_false_eq_true, List.drop, List.take, RetP, retP, resV, resOne, snapV, snapVs, snapR, snapRs, ownSz, pickV, cond_true, cond_false, bTT, bTF, bFT, bFF, Bool.not_true, Bool.not_false, AO.isC, Bool.or_true, Bool.true_or, Bool.or_false, Bool.false_or, WpE_cons, WpE_nil, opE, evE_some, guardE_true, guardE_false, WpD_cons, WpD_nil, opD, evD_some, guardD_true, guardD_false, q2, d2, d4, hm, makeR, stateP]
              · have hm : makeS s x t m = .inl 7 := by
                  unfold makeS
                  rw [if_neg hnf, if_neg hi, if_neg hnn, if_neg (by simp [k4]), hP]
                  simp [hget, k2, k3, k4, c1]
                simp only [Wp_seq, Wp_ops, Wp_cond, Wp_skip, Wp_ret, Wp_exit, Wp_block, WpO_cons, WpO_nil, opQ, evOp, evO, evOs, evQ_some, guardV, guardQ_true, guardQ_false, boolQ_true, boolQ_false, argsA, pvs, putS, cellsOf, scals, scal, seqQ_normal, seqQ_ret, seqQ_exit, blkQ_normal, blkQ_ret, blkQ_exit, look_if, blkAt_if, if_true, if_false, Nat.reduceEqDiff, Nat.reduceAdd, true_implies, reduceCtorEq, false_implies, and_true, true_and, List.nil_append, List.cons_append, Bool.and_self, Nat.zero_add, Nat.add_zero, fieldA, nonNil, cellsAt, loadV_one, loadV_pvs, loadV_cons, mkAgg, allPV, List.drop_zero, List.drop_succ_cons, List.take_succ_cons, List.take_zero, List.length_cons, List.length_nil, Nat.beq_eq, storeB, patchL, beq_self_eq_true, ge_iff_le, gt_iff_lt, Int.reduceNeg, Int.reduceLE, Int.reduceLT, Int.reduceEq, extractV, List.getElem?_cons_zero, List.getElem?_cons_succ, mkAgg, Nat.add_eq_left, Nat.left_eq_add, Nat.one_ne_zero, ble_dec, beq_dec, decide_eq_true_eq, Nat.reduceLeDiff, Nat.le_refl, fillA, pureVs, pureV, beq_int, bne_int, Int.natCast_inj, eq_self, eqV, eqB, decide_true, decide_false, List.length_map, Int.toNat_natCast, List.getElem?_map, Option.map_some, Option.map_none, Int.natCast_nonneg, Option.some.injEq, lenV, binV, intBin, intV, idxA, ne_eq, not_true_eq_false, not_false_eq_true, List.drop, List.take, RetP, retP, resV, resOne, snapV, snapVs, snapR, snapRs, ownSz, pickV, cond_true, cond_false, bTT, bTF, bFT, bFF, Bool.not_true, Bool.not_false, AO.isC, Bool.or_true, Bool.true_or, Bool.or_false, Bool.false_or, WpE_cons, WpE_nil, opE, evE_some, guardE_true, guardE_false, WpD_cons, WpD_nil, opD, evD_some, guardD_true, guardD_false, kp.callD, ko.callD, kn.call, kf.call, hP, hj0, k2, k3, k4, hget, podC]
                rw [S.h279.callN (allLen_pods _) hlen hne]
                simp only [Wp_seq, Wp_ops, Wp_cond, Wp_skip, Wp_ret, Wp_exit, Wp_block, WpO_cons, WpO_nil, opQ, evOp, evO, evOs, evQ_some, guardV, guardQ_true, guardQ_false, boolQ_true, boolQ_false, argsA, pvs, putS, cellsOf, scals, scal, seqQ_normal, seqQ_ret, seqQ_exit, blkQ_normal, blkQ_ret, blkQ_exit, look_if, blkAt_if, if_true, if_false, Nat.reduceEqDiff, Nat.reduceAdd, true_implies, reduceCtorEq, false_implies, and_true, true_and, List.nil_append, List.cons_append, Bool.and_self, Nat.zero_add, Nat.add_zero, fieldA, nonNil, cellsAt, loadV_one, loadV_pvs, loadV_cons, mkAgg, allPV, List.drop_zero, List.drop_succ_cons, List.take_succ_cons, List.take_zero, List.length_cons, List.length_nil, Nat.beq_eq, storeB, patchL, beq_self_eq_true, ge_iff_le, gt_iff_lt, Int.reduceNeg, Int.reduceLE, Int.reduceLT, Int.reduceEq, extractV, List.getElem?_cons_zero, List.getElem?_cons_succ, mkAgg, Nat.add_eq_left, Nat.left_eq_add, Nat.one_ne_zero, ble_dec, beq_dec, decide_eq_true_eq, Nat.reduceLeDiff, Nat.le_refl, fillA, pureVs, pureV, beq_int, bne_int, Int.natCast_inj, eq_self, eqV, eqB, decide_true, decide_false, List.length_map, Int.toNat_natCast, List.getElem?_map, Option.map_some, Option.map_none, Int.natCast_nonneg, Option.some.injEq, lenV, binV, intBin, intV, idxA, ne_eq, not_true_eq_false, not_false_eq_true, List.drop, List.take, RetP, retP, resV, resOne, snapV, snapVs, snapR, snapRs, ownSz, pickV, cond_true, cond_false, bTT, bTF, bFT, bFF, Bool.not_true, Bool.not_false, AO.isC, Bool.or_true, Bool.true_or, Bool.or_false, Bool.false_or, WpE_cons, WpE_nil, opE, evE_some, guardE_true, guardE_false, WpD_cons, WpD_nil, opD, evD_some, guardD_true, guardD_false, hget, podC, hm, makeR, codeE, stateP, List.map_nil, hjl, k2, k3, k4, c1]
end Go.Proofs.YtmeigdjfcecidaaDoor.Ab
/- The code of functions, by our numbers. -/
set_option linter.unusedVariables false
namespace Go.Proofs.YtmeigdjfcecidaaDoor.Ab
open Go
/-- (*dunnage/api.Spot).Unwrap -/
def f4 : AFunc := ⟨8, [.t 2],
 (.seq (.ops [
   ⟨some 2, .mv (.c (.pv .nili)), none, []⟩])
  (.seq (.ops [
   ⟨some 3, .mv (.t 0), none, []⟩,
   ⟨some 4, .nilchk (.t 3), none, [0]⟩,
   ⟨some 5, .fieldAddr 1 (.t 4), none, [1]⟩,
   ⟨some 6, .load false 1 (.t 5), none, [2]⟩,
   ⟨some 7, .mkI 0 (.t 6), none, [3]⟩,
   ⟨some 2, .mv (.t 7), none, [4, 0, 1, 2, 3, 4]⟩])
  .ret))⟩

def f70l0 : ACode :=
 (.seq (.ops [
   ⟨some 12, .bin .lss none (.t 11) (.t 10), none, []⟩])
  (.seq (.cond (.t 12)
   .skip
   (.exit 0))
  (.seq (.block 1
   (.seq (.ops [
     ⟨some 13, .mv (.t 11), none, []⟩,
     ⟨some 14, .idxAddr 5 (.t 9) (.t 11), none, []⟩,
     ⟨some 15, .load true 5 (.t 14), none, [1]⟩,
     ⟨some 6, .alloc [(.pv (.int .i64 0)), (.pv (.bool false)), (.pv (.int .i64 0)), (.pv (.int .i64 0)), (.pv (.int .i64 0))], none, []⟩,
     ⟨some 5, .mv (.t 13), none, [0, 0, 1, 2, 3]⟩,
     ⟨none, .store 5 (.t 6) (.t 15), none, [3, 2, 4, 0, 1, 2, 3, 4]⟩])
    (.seq (.ops [
     ⟨some 16, .load true 3 (.t 3), none, []⟩,
     ⟨some 17, .fieldAddr 0 (.t 6), none, []⟩,
     ⟨some 18, .load false 1 (.t 17), none, [1]⟩,
     ⟨some 19, .call 71 [(.t 16), (.t 18)], none, [0, 2]⟩,
     ⟨some 7, .mv (.t 19), none, [3, 3, 0, 1, 2, 3]⟩])
    (.block 2
     (.seq (.ops [
       ⟨some 21, .mv (.t 7), none, []⟩,
       ⟨some 22, .fieldAddr 3 (.t 6), none, []⟩,
       ⟨some 23, .load false 1 (.t 22), none, [1]⟩,
       ⟨some 24, .bin .lss none (.t 21) (.t 23), none, [0, 2]⟩,
       ⟨some 20, .mv (.t 24), none, [3]⟩])
      (.cond (.t 20)
       (.seq (.ops [
         ⟨some 25, .mv (.t 5), none, []⟩,
         ⟨some 26, .build [(.pv (.int .i64 0)), (.pv (.int .i64 0))] [(0, 1, (.t 25)), (1, 1, (.c (.pv (.int .i64 12))))], none, [0]⟩,
         ⟨some 27, .box (.t 26), none, [1]⟩,
         ⟨some 28, .mkI 1 (.t 27), none, [2]⟩,
         ⟨some 4, .mv (.t 28), none, [3, 0, 1, 2, 3]⟩])
        .ret)
       (.seq (.ops [
         ⟨some 30, .mv (.t 7), none, []⟩,
         ⟨some 31, .fieldAddr 4 (.t 6), none, []⟩,
         ⟨some 32, .load false 1 (.t 31), none, [1]⟩,
         ⟨some 33, .bin .gtr none (.t 30) (.t 32), none, [0, 2]⟩,
         ⟨some 29, .mv (.t 33), none, [3]⟩])
        (.cond (.t 29)
         (.seq (.ops [
           ⟨some 34, .mv (.t 5), none, []⟩,
           ⟨some 35, .build [(.pv (.int .i64 0)), (.pv (.int .i64 0))] [(0, 1, (.t 34)), (1, 1, (.c (.pv (.int .i64 13))))], none, [0]⟩,
           ⟨some 36, .box (.t 35), none, [1]⟩,
           ⟨some 37, .mkI 1 (.t 36), none, [2]⟩,
           ⟨some 4, .mv (.t 37), none, [3, 0, 1, 2, 3]⟩])
          .ret)
         .skip))))))))
  (.ops [
   ⟨some 38, .bin .add none (.t 11) (.c (.pv (.int .i64 1))), none, []⟩,
   ⟨some 11, .mv (.t 38), none, [0]⟩]))))
/-- dunnage/budget.Check -/
def f70 : AFunc := ⟨39, [.t 4],
 (.seq (.ops [
   ⟨some 2, .box (.t 0), none, []⟩,
   ⟨some 3, .box (.t 1), none, []⟩,
   ⟨some 4, .mv (.c (.pv .nili)), none, []⟩])
  (.seq (.seq (.ops [
   ⟨some 8, .fieldAddr 1 (.t 2), none, []⟩,
   ⟨some 9, .load false 1 (.t 8), none, [0]⟩,
   ⟨some 10, .len (.t 9), none, [1]⟩,
   ⟨some 11, .mv (.c (.pv (.int .i64 0))), none, []⟩])
  (.block 0
   (.loop f70l0)))
  (.seq (.ops [
   ⟨some 4, .mv (.c (.pv .nili)), none, []⟩])
  .ret)))⟩

def f71l0 : ACode :=
 (.seq (.ops [
   ⟨some 12, .bin .lss none (.t 11) (.t 10), none, []⟩])
  (.seq (.cond (.t 12)
   .skip
   (.exit 0))
  (.seq (.block 1
   (.seq (.ops [
     ⟨some 13, .idxAddr 8 (.t 9) (.t 11), none, []⟩,
     ⟨some 14, .load true 8 (.t 13), none, [0]⟩,
     ⟨some 7, .alloc [(.pv (.int .i64 0)), (.pv (.int .i64 0)), (.pv (.int .i64 0)), (.pv (.int .u64 0)), (.pv (.int .u64 0)), (.pv (.int .u64 0)), (.pv (.int .u64 0)), (.pv (.int .i64 0))], none, []⟩,
     ⟨none, .store 8 (.t 7) (.t 14), none, [2, 1, 0, 1, 2]⟩])
    (.seq (.ops [
     ⟨some 15, .fieldAddr 1 (.t 7), none, []⟩,
     ⟨some 16, .load false 1 (.t 15), none, [0]⟩,
     ⟨some 17, .mv (.t 1), none, []⟩,
     ⟨some 18, .bin .eql none (.t 16) (.t 17), none, [1, 2]⟩,
     ⟨some 19, .mv (.t 18), none, [3]⟩,
     ⟨some 20, .fieldAddr 7 (.t 7), some (19, true), [4]⟩,
     ⟨some 21, .load false 1 (.t 20), some (19, true), [5, 4]⟩,
     ⟨some 22, .bin .neq none (.t 21) (.c (.pv (.int .i64 0))), some (19, true), [6, 4]⟩,
     ⟨some 23, .pick (.t 19) (.t 22) (.c (.pv (.bool false))), none, [4, 7]⟩])
    (.cond (.t 23)
     (.ops [
       ⟨some 24, .mv (.t 5), none, []⟩,
       ⟨some 25, .bin .add none (.t 24) (.c (.pv (.int .i64 1))), none, [0]⟩,
       ⟨some 5, .mv (.t 25), none, [1, 0, 1]⟩])
     .skip))))
  (.ops [
   ⟨some 26, .bin .add none (.t 11) (.c (.pv (.int .i64 1))), none, []⟩,
   ⟨some 11, .mv (.t 26), none, [0]⟩]))))
/-- dunnage/budget.Size -/
def f71 : AFunc := ⟨28, [.t 4],
 (.seq (.ops [
   ⟨some 2, .box (.t 0), none, []⟩,
   ⟨some 4, .mv (.c (.pv (.int .i64 0))), none, []⟩])
  (.seq (.ops [
   ⟨some 5, .mv (.c (.pv (.int .i64 0))), none, []⟩])
  (.seq (.seq (.ops [
   ⟨some 8, .fieldAddr 0 (.t 2), none, []⟩,
   ⟨some 9, .load false 1 (.t 8), none, [0]⟩,
   ⟨some 10, .len (.t 9), none, [1]⟩,
   ⟨some 11, .mv (.c (.pv (.int .i64 0))), none, []⟩])
  (.block 0
   (.loop f71l0)))
  (.seq (.ops [
   ⟨some 27, .mv (.t 5), none, []⟩,
   ⟨some 4, .mv (.t 27), none, [0, 0]⟩])
  .ret))))⟩

/-- dunnage/budget.Used -/
def f72 : AFunc := ⟨18, [.t 4],
 (.seq (.ops [
   ⟨some 2, .box (.t 0), none, []⟩,
   ⟨some 3, .box (.t 1), none, []⟩,
   ⟨some 4, .mv (.c (.pv .nili)), none, []⟩])
  (.seq (.seq (.ops [
   ⟨some 5, .fieldAddr 1 (.t 3), none, []⟩,
   ⟨some 6, .load false 1 (.t 5), none, [0]⟩,
   ⟨some 7, .fieldAddr 1 (.t 2), none, []⟩,
   ⟨some 8, .load false 1 (.t 7), none, [2]⟩,
   ⟨some 9, .bin .gtr none (.t 6) (.t 8), none, [1, 3]⟩,
   ⟨some 10, .mv (.t 9), none, [4]⟩,
   ⟨some 11, .fieldAddr 2 (.t 3), some (10, false), [5]⟩,
   ⟨some 12, .load false 1 (.t 11), some (10, false), [6, 5]⟩,
   ⟨some 13, .fieldAddr 2 (.t 2), some (10, false), [5]⟩,
   ⟨some 14, .load false 1 (.t 13), some (10, false), [8, 5]⟩,
   ⟨some 15, .bin .gtr none (.t 12) (.t 14), some (10, false), [7, 9, 5]⟩,
   ⟨some 16, .pick (.t 10) (.c (.pv (.bool true))) (.t 15), none, [5, 10]⟩])
  (.cond (.t 16)
   (.seq (.ops [
     ⟨some 17, .mkI 0 (.c (.pv (.int .i64 15))), none, []⟩,
     ⟨some 4, .mv (.t 17), none, [0, 0]⟩])
    .ret)
   .skip))
  (.seq (.ops [
   ⟨some 4, .mv (.c (.pv .nili)), none, []⟩])
  .ret)))⟩

def f102l0 : ACode :=
 (.seq (.seq (.ops [
   ⟨some 6, .mv (.t 3), none, []⟩,
   ⟨some 7, .bin .leq none (.t 6) (.c (.pv (.int .i64 17))), none, [0]⟩])
  (.cond (.t 7)
   .skip
   (.exit 0)))
  (.seq (.block 1
   (.seq (.ops [
     ⟨some 10, .mv (.t 0), none, []⟩,
     ⟨some 11, .mv (.t 3), none, []⟩,
     ⟨some 12, .mkI 0 (.t 11), none, [1]⟩,
     ⟨some 13, .bin .eql (some (.iface true)) (.t 10) (.t 12), none, [0, 2]⟩])
    (.cond (.t 13)
     (.seq (.ops [
       ⟨some 14, .mv (.t 3), none, []⟩,
       ⟨some 2, .mv (.t 14), none, [0, 0]⟩])
      .ret)
     .skip)))
  (.ops [
   ⟨some 8, .mv (.t 3), none, []⟩,
   ⟨some 9, .bin .add none (.t 8) (.c (.pv (.int .i64 1))), none, [0]⟩,
   ⟨some 3, .mv (.t 9), none, [1, 0, 1]⟩])))
/-- dunnage/dunnagelaw00.Code -/
def f102 : AFunc := ⟨15, [.t 2],
 (.seq (.ops [
   ⟨some 2, .mv (.c (.pv (.int .i64 0))), none, []⟩])
  (.seq (.seq (.ops [
   ⟨some 4, .mv (.t 0), none, []⟩,
   ⟨some 5, .bin .eql (some (.iface true)) (.t 4) (.c (.pv .nili)), none, [0]⟩])
  (.cond (.t 5)
   (.seq (.ops [
     ⟨some 2, .mv (.c (.pv (.int .i64 0))), none, []⟩])
    .ret)
   .skip))
  (.seq (.seq (.ops [
   ⟨some 3, .mv (.c (.pv (.int .i64 1))), none, []⟩])
  (.block 0
   (.loop f102l0)))
  (.seq (.ops [
   ⟨some 2, .mv (.c (.pv (.int .i64 (-1)))), none, []⟩])
  .ret))))⟩

/-- dunnage/dunnagelaw00.Is -/
def f103 : AFunc := ⟨46, [.t 6],
 (.seq (.ops [
   ⟨some 6, .mv (.c (.pv (.bool false))), none, []⟩])
  (.seq (.ops [
   ⟨some 7, .alloc [(.pv .nilp)], none, []⟩])
  (.seq (.ops [
   ⟨some 10, .mv (.t 0), none, []⟩,
   ⟨some 11, .mkI 2 (.t 7), none, []⟩,
   ⟨some 12, .call 266 [(.t 10), (.t 11)], none, [0, 1]⟩,
   ⟨some 8, .mv (.t 12), none, [2, 2, 0, 1, 2]⟩])
  (.seq (.seq (.ops [
   ⟨some 13, .mv (.t 8), none, []⟩,
   ⟨some 14, .not (.t 13), none, [0]⟩,
   ⟨some 15, .mv (.t 14), none, [1]⟩,
   ⟨some 16, .load false 1 (.t 7), some (15, false), [2]⟩,
   ⟨some 17, .bin .eql (some .ptr) (.t 16) (.c (.pv .nilp)), some (15, false), [3, 2]⟩,
   ⟨some 18, .pick (.t 15) (.c (.pv (.bool true))) (.t 17), none, [2, 4]⟩,
   ⟨some 19, .mv (.t 18), none, [5, 2]⟩,
   ⟨some 20, .mv (.t 0), some (19, false), [6]⟩,
   ⟨some 21, .load false 1 (.t 7), some (19, false), [6]⟩,
   ⟨some 22, .mkI 1 (.t 21), some (19, false), [8, 6]⟩,
   ⟨some 23, .bin .neq (some (.iface true)) (.t 20) (.t 22), some (19, false), [7, 9, 6]⟩,
   ⟨some 24, .pick (.t 19) (.c (.pv (.bool true))) (.t 23), none, [6, 10]⟩])
  (.cond (.t 24)
   (.seq (.ops [
     ⟨some 6, .mv (.c (.pv (.bool false))), none, []⟩])
    .ret)
   .skip))
  (.seq (.ops [
   ⟨some 25, .mv (.t 0), none, []⟩,
   ⟨some 26, .mv (.t 2), none, []⟩,
   ⟨some 27, .mkI 0 (.t 26), none, [1]⟩,
   ⟨some 28, .call 267 [(.t 25), (.t 27)], none, [0, 2]⟩,
   ⟨some 9, .mv (.t 28), none, [3, 3, 0, 1, 2, 3]⟩])
  (.seq (.ops [
   ⟨some 29, .mv (.t 9), none, []⟩,
   ⟨some 30, .mv (.t 29), none, [0]⟩,
   ⟨some 31, .load false 1 (.t 7), some (30, true), [1]⟩,
   ⟨some 32, .nilchk (.t 31), some (30, true), [2, 1]⟩,
   ⟨some 33, .fieldAddr 0 (.t 32), some (30, true), [3, 1]⟩,
   ⟨some 34, .load false 1 (.t 33), some (30, true), [4, 1]⟩,
   ⟨some 35, .mv (.t 1), some (30, true), [1]⟩,
   ⟨some 36, .bin .eql none (.t 34) (.t 35), some (30, true), [5, 6, 1]⟩,
   ⟨some 37, .pick (.t 30) (.t 36) (.c (.pv (.bool false))), none, [1, 7]⟩,
   ⟨some 38, .mv (.t 37), none, [8, 1]⟩,
   ⟨some 39, .load false 1 (.t 7), some (38, true), [9]⟩,
   ⟨some 40, .nilchk (.t 39), some (38, true), [10, 9]⟩,
   ⟨some 41, .fieldAddr 1 (.t 40), some (38, true), [11, 9]⟩,
   ⟨some 42, .load false 1 (.t 41), some (38, true), [12, 9]⟩,
   ⟨some 43, .mv (.t 2), some (38, true), [9]⟩,
   ⟨some 44, .bin .eql none (.t 42) (.t 43), some (38, true), [13, 14, 9]⟩,
   ⟨some 45, .pick (.t 38) (.t 44) (.c (.pv (.bool false))), none, [9, 15]⟩,
   ⟨some 6, .mv (.t 45), none, [16, 9, 0, 1, 2, 3, 4, 5, 6, 7, 8, 9, 10, 11, 12, 13, 14, 15, 16]⟩])
  .ret))))))⟩

/-- dunnage/dunnagelaw00.Told -/
def f105 : AFunc := ⟨17, [.t 6],
 (.seq (.ops [
   ⟨some 6, .mv (.c (.pv (.bool false))), none, []⟩])
  (.seq (.seq (.ops [
   ⟨some 7, .mv (.t 2), none, []⟩,
   ⟨some 8, .bin .lss none (.t 7) (.c (.pv (.int .i64 0))), none, [0]⟩])
  (.cond (.t 8)
   (.seq (.ops [
     ⟨some 9, .mv (.t 0), none, []⟩,
     ⟨some 10, .call 102 [(.t 9)], none, [0]⟩,
     ⟨some 11, .mv (.t 1), none, []⟩,
     ⟨some 12, .bin .eql none (.t 10) (.t 11), none, [1, 2]⟩,
     ⟨some 6, .mv (.t 12), none, [3, 1, 0, 1, 2, 3]⟩])
    .ret)
   .skip))
  (.seq (.ops [
   ⟨some 13, .mv (.t 0), none, []⟩,
   ⟨some 14, .mv (.t 2), none, []⟩,
   ⟨some 15, .mv (.t 1), none, []⟩,
   ⟨some 16, .call 103 [(.t 13), (.t 14), (.t 15)], none, [0, 1, 2]⟩,
   ⟨some 6, .mv (.t 16), none, [3, 3, 0, 1, 2, 3]⟩])
  .ret)))⟩

def f173l0 : ACode :=
 (.seq (.seq (.ops [
   ⟨some 8, .mv (.t 6), none, []⟩,
   ⟨some 9, .fieldAddr 1 (.t 2), none, []⟩,
   ⟨some 10, .load false 1 (.t 9), none, [1]⟩,
   ⟨some 11, .len (.t 10), none, [2]⟩,
   ⟨some 12, .bin .lss none (.t 8) (.t 11), none, [0, 3]⟩])
  (.cond (.t 12)
   .skip
   (.exit 0)))
  (.seq (.block 1
   (.seq (.draw [
     ⟨some 15, .load true 3 (.t 3), none, []⟩,
     ⟨some 16, .fieldAddr 1 (.t 2), none, []⟩,
     ⟨some 17, .load false 1 (.t 16), none, [1]⟩,
     ⟨some 18, .mv (.t 6), none, []⟩,
     ⟨some 19, .idxAddr 5 (.t 17) (.t 18), none, [2, 3]⟩,
     ⟨some 20, .fieldAddr 0 (.t 19), none, [4]⟩,
     ⟨some 21, .load false 1 (.t 20), none, [5]⟩,
     ⟨some 22, .call 176 [(.t 15), (.t 21)], none, [0, 6]⟩,
     ⟨some 7, .mv (.t 22), none, [7, 7, 0, 1, 2, 3, 4, 5, 6, 7]⟩])
    (.seq (.seq (.ops [
     ⟨some 23, .mv (.t 7), none, []⟩,
     ⟨some 24, .fieldAddr 1 (.t 2), none, []⟩,
     ⟨some 25, .load false 1 (.t 24), none, [1]⟩,
     ⟨some 26, .mv (.t 6), none, []⟩,
     ⟨some 27, .idxAddr 5 (.t 25) (.t 26), none, [2, 3]⟩,
     ⟨some 28, .fieldAddr 3 (.t 27), none, [4]⟩,
     ⟨some 29, .load false 1 (.t 28), none, [5]⟩,
     ⟨some 30, .bin .lss none (.t 23) (.t 29), none, [0, 6]⟩])
    (.cond (.t 30)
     (.seq (.ops [
       ⟨some 31, .mv (.t 6), none, []⟩,
       ⟨some 4, .mv (.c (.pv (.int .i64 12))), none, []⟩,
       ⟨some 5, .mv (.t 31), none, [0, 1, 0, 1]⟩])
      .ret)
     .skip))
    (.seq (.ops [
     ⟨some 32, .mv (.t 7), none, []⟩,
     ⟨some 33, .fieldAddr 1 (.t 2), none, []⟩,
     ⟨some 34, .load false 1 (.t 33), none, [1]⟩,
     ⟨some 35, .mv (.t 6), none, []⟩,
     ⟨some 36, .idxAddr 5 (.t 34) (.t 35), none, [2, 3]⟩,
     ⟨some 37, .fieldAddr 4 (.t 36), none, [4]⟩,
     ⟨some 38, .load false 1 (.t 37), none, [5]⟩,
     ⟨some 39, .bin .gtr none (.t 32) (.t 38), none, [0, 6]⟩])
    (.cond (.t 39)
     (.seq (.ops [
       ⟨some 40, .mv (.t 6), none, []⟩,
       ⟨some 4, .mv (.c (.pv (.int .i64 13))), none, []⟩,
       ⟨some 5, .mv (.t 40), none, [0, 1, 0, 1]⟩])
      .ret)
     .skip)))))
  (.ops [
   ⟨some 13, .mv (.t 6), none, []⟩,
   ⟨some 14, .bin .add none (.t 13) (.c (.pv (.int .i64 1))), none, [0]⟩,
   ⟨some 6, .mv (.t 14), none, [1, 0, 1]⟩])))
/-- dunnage/dunnageref07.Budget -/
def f173 : AFunc := ⟨41, [.t 4, .t 5],
 (.seq (.ops [
   ⟨some 2, .box (.t 0), none, []⟩,
   ⟨some 3, .box (.t 1), none, []⟩,
   ⟨some 4, .mv (.c (.pv (.int .i64 0))), none, []⟩,
   ⟨some 5, .mv (.c (.pv (.int .i64 0))), none, [2]⟩])
  (.seq (.seq (.ops [
   ⟨some 6, .mv (.c (.pv (.int .i64 0))), none, []⟩])
  (.block 0
   (.loop f173l0)))
  (.seq (.ops [
   ⟨some 4, .mv (.c (.pv (.int .i64 0))), none, []⟩,
   ⟨some 5, .mv (.c (.pv (.int .i64 (-1)))), none, [0, 0]⟩])
  .ret)))⟩

def f176l0 : ACode :=
 (.seq (.seq (.ops [
   ⟨some 7, .mv (.t 6), none, []⟩,
   ⟨some 8, .fieldAddr 0 (.t 2), none, []⟩,
   ⟨some 9, .load false 1 (.t 8), none, [1]⟩,
   ⟨some 10, .len (.t 9), none, [2]⟩,
   ⟨some 11, .bin .lss none (.t 7) (.t 10), none, [0, 3]⟩])
  (.cond (.t 11)
   .skip
   (.exit 0)))
  (.seq (.block 1
   (.seq (.ops [
     ⟨some 14, .fieldAddr 0 (.t 2), none, []⟩,
     ⟨some 15, .load false 1 (.t 14), none, [0]⟩,
     ⟨some 16, .mv (.t 6), none, []⟩,
     ⟨some 17, .idxAddr 8 (.t 15) (.t 16), none, [1, 2]⟩,
     ⟨some 18, .fieldAddr 1 (.t 17), none, [3]⟩,
     ⟨some 19, .load false 1 (.t 18), none, [4]⟩,
     ⟨some 20, .mv (.t 1), none, []⟩,
     ⟨some 21, .bin .eql none (.t 19) (.t 20), none, [5, 6]⟩,
     ⟨some 22, .mv (.t 21), none, [7]⟩,
     ⟨some 23, .fieldAddr 0 (.t 2), some (22, true), [8]⟩,
     ⟨some 24, .load false 1 (.t 23), some (22, true), [9, 8]⟩,
     ⟨some 25, .mv (.t 6), some (22, true), [8]⟩,
     ⟨some 26, .idxAddr 8 (.t 24) (.t 25), some (22, true), [10, 11, 8]⟩,
     ⟨some 27, .fieldAddr 7 (.t 26), some (22, true), [12, 8]⟩,
     ⟨some 28, .load false 1 (.t 27), some (22, true), [13, 8]⟩,
     ⟨some 29, .bin .neq none (.t 28) (.c (.pv (.int .i64 0))), some (22, true), [14, 8]⟩,
     ⟨some 30, .pick (.t 22) (.t 29) (.c (.pv (.bool false))), none, [8, 15]⟩])
    (.cond (.t 30)
     (.ops [
       ⟨some 31, .mv (.t 5), none, []⟩,
       ⟨some 32, .bin .add none (.t 31) (.c (.pv (.int .i64 1))), none, [0]⟩,
       ⟨some 5, .mv (.t 32), none, [1, 0, 1]⟩])
     .skip)))
  (.ops [
   ⟨some 12, .mv (.t 6), none, []⟩,
   ⟨some 13, .bin .add none (.t 12) (.c (.pv (.int .i64 1))), none, [0]⟩,
   ⟨some 6, .mv (.t 13), none, [1, 0, 1]⟩])))
/-- dunnage/dunnageref07.Size -/
def f176 : AFunc := ⟨34, [.t 4],
 (.seq (.ops [
   ⟨some 2, .box (.t 0), none, []⟩,
   ⟨some 4, .mv (.c (.pv (.int .i64 0))), none, []⟩])
  (.seq (.ops [
   ⟨some 5, .mv (.c (.pv (.int .i64 0))), none, []⟩])
  (.seq (.seq (.ops [
   ⟨some 6, .mv (.c (.pv (.int .i64 0))), none, []⟩])
  (.block 0
   (.loop f176l0)))
  (.seq (.ops [
   ⟨some 33, .mv (.t 5), none, []⟩,
   ⟨some 4, .mv (.t 33), none, [0, 0]⟩])
  .ret))))⟩

/-- dunnage/dunnageref07.Used -/
def f179 : AFunc := ⟨17, [.t 4],
 (.seq (.ops [
   ⟨some 2, .box (.t 0), none, []⟩,
   ⟨some 3, .box (.t 1), none, []⟩,
   ⟨some 4, .mv (.c (.pv (.bool false))), none, []⟩])
  (.seq (.ops [
   ⟨some 5, .fieldAddr 1 (.t 3), none, []⟩,
   ⟨some 6, .load false 1 (.t 5), none, [0]⟩,
   ⟨some 7, .fieldAddr 1 (.t 2), none, []⟩,
   ⟨some 8, .load false 1 (.t 7), none, [2]⟩,
   ⟨some 9, .bin .gtr none (.t 6) (.t 8), none, [1, 3]⟩,
   ⟨some 10, .mv (.t 9), none, [4]⟩,
   ⟨some 11, .fieldAddr 2 (.t 3), some (10, false), [5]⟩,
   ⟨some 12, .load false 1 (.t 11), some (10, false), [6, 5]⟩,
   ⟨some 13, .fieldAddr 2 (.t 2), some (10, false), [5]⟩,
   ⟨some 14, .load false 1 (.t 13), some (10, false), [8, 5]⟩,
   ⟨some 15, .bin .gtr none (.t 12) (.t 14), some (10, false), [7, 9, 5]⟩,
   ⟨some 16, .pick (.t 10) (.c (.pv (.bool true))) (.t 15), none, [5, 10]⟩,
   ⟨some 4, .mv (.t 16), none, [11, 5, 0, 1, 2, 3, 4, 5, 6, 7, 8, 9, 10, 11]⟩])
  .ret))⟩

/-- dunnage/dunnagelaw09.BudgetTells -/
def f316 : AFunc := ⟨67, [.t 8],
 (.seq (.ops [
   ⟨some 4, .box (.t 0), none, []⟩,
   ⟨some 5, .box (.t 1), none, []⟩,
   ⟨some 6, .box (.t 2), none, []⟩,
   ⟨some 8, .mv (.c (.pv (.bool false))), none, []⟩])
  (.seq (.ops [
   ⟨some 15, .call 317 [], none, []⟩,
   ⟨some 9, .mv (.t 15), none, [0, 0, 0]⟩])
  (.seq (.ops [
   ⟨some 16, .load true 3 (.t 4), none, []⟩,
   ⟨some 17, .load true 3 (.t 5), none, []⟩,
   ⟨some 18, .load true 3 (.t 6), none, []⟩,
   ⟨some 19, .call 163 [(.t 16), (.t 17), (.t 18)], none, [0, 1, 2]⟩,
   ⟨some 10, .mv (.t 19), none, [3, 3, 0, 1, 2, 3]⟩])
  (.seq (.seq (.ops [
   ⟨some 20, .mv (.t 10), none, []⟩,
   ⟨some 21, .not (.t 20), none, [0]⟩])
  (.cond (.t 21)
   (.seq (.ops [
     ⟨some 22, .mv (.t 9), none, []⟩,
     ⟨some 8, .mv (.t 22), none, [0, 0]⟩])
    .ret)
   .skip))
  (.seq (.ops [
   ⟨some 24, .load true 3 (.t 4), none, []⟩,
   ⟨some 25, .load true 3 (.t 6), none, []⟩,
   ⟨some 26, .call 173 [(.t 24), (.t 25)], none, [0, 1]⟩,
   ⟨some 23, .mv (.t 26), none, [2]⟩,
   ⟨some 27, .extract (.t 23) 0, none, [3]⟩,
   ⟨some 28, .extract (.t 23) 1, none, [3]⟩,
   ⟨some 11, .mv (.t 27), none, [4, 2, 0, 1, 2, 3, 4]⟩,
   ⟨some 12, .mv (.t 28), none, [5, 6, 0, 1, 2, 3, 4, 5, 6]⟩])
  (.seq (.ops [
   ⟨some 29, .load true 3 (.t 5), none, []⟩,
   ⟨some 30, .load true 3 (.t 6), none, []⟩,
   ⟨some 31, .call 179 [(.t 29), (.t 30)], none, [0, 1]⟩,
   ⟨some 13, .mv (.t 31), none, [2, 2, 0, 1, 2]⟩])
  (.seq (.ops [
   ⟨some 32, .load true 3 (.t 5), none, []⟩,
   ⟨some 33, .load true 3 (.t 6), none, []⟩,
   ⟨some 34, .call 72 [(.t 32), (.t 33)], none, [0, 1]⟩,
   ⟨some 14, .mv (.t 34), none, [2, 2, 0, 1, 2]⟩])
  (.seq (.seq (.ops [
   ⟨some 35, .mv (.t 13), none, []⟩,
   ⟨some 36, .mv (.t 35), none, [0]⟩,
   ⟨some 37, .mv (.t 14), some (36, true), [1]⟩,
   ⟨some 38, .mkI 0 (.c (.pv (.int .i64 15))), some (36, true), [1]⟩,
   ⟨some 39, .bin .neq (some (.iface true)) (.t 37) (.t 38), some (36, true), [2, 3, 1]⟩,
   ⟨some 40, .pick (.t 36) (.t 39) (.c (.pv (.bool false))), none, [1, 4]⟩,
   ⟨some 41, .mv (.t 40), none, [5, 1]⟩,
   ⟨some 42, .mv (.t 13), some (41, false), [6]⟩,
   ⟨some 43, .not (.t 42), some (41, false), [7, 6]⟩,
   ⟨some 44, .mv (.t 43), some (41, false), [8, 6, 6]⟩,
   ⟨some 45, .mv (.t 14), some (44, true), [9]⟩,
   ⟨some 46, .bin .neq (some (.iface true)) (.t 45) (.c (.pv .nili)), some (44, true), [10, 9]⟩,
   ⟨some 47, .pick (.t 44) (.t 46) (.c (.pv (.bool false))), some (41, false), [9, 11, 6]⟩,
   ⟨some 48, .pick (.t 41) (.c (.pv (.bool true))) (.t 47), none, [6, 12]⟩])
  (.cond (.t 48)
   (.seq (.ops [
     ⟨some 8, .mv (.c (.pv (.bool false))), none, []⟩])
    .ret)
   .skip))
  (.seq (.draw [
   ⟨some 49, .mv (.t 9), none, []⟩,
   ⟨some 50, .mv (.t 49), none, [0]⟩,
   ⟨some 51, .load true 3 (.t 6), some (50, true), [1]⟩,
   ⟨some 52, .mv (.t 3), some (50, true), [1]⟩,
   ⟨some 53, .call 71 [(.t 51), (.t 52)], some (50, true), [2, 3, 1, 1]⟩,
   ⟨some 54, .load true 3 (.t 6), some (50, true), [1]⟩,
   ⟨some 55, .mv (.t 3), some (50, true), [1]⟩,
   ⟨some 56, .call 176 [(.t 54), (.t 55)], some (50, true), [5, 6, 4, 1]⟩,
   ⟨some 57, .bin .eql none (.t 53) (.t 56), some (50, true), [4, 7, 1]⟩,
   ⟨some 58, .pick (.t 50) (.t 57) (.c (.pv (.bool false))), none, [1, 8]⟩,
   ⟨some 59, .mv (.t 58), none, [9, 7]⟩,
   ⟨some 60, .load true 3 (.t 4), some (59, true), [10]⟩,
   ⟨some 61, .load true 3 (.t 6), some (59, true), [10]⟩,
   ⟨some 62, .call 70 [(.t 60), (.t 61)], some (59, true), [11, 12, 10, 10]⟩,
   ⟨some 63, .mv (.t 11), some (59, true), [10]⟩,
   ⟨some 64, .mv (.t 12), some (59, true), [10]⟩,
   ⟨some 65, .call 105 [(.t 62), (.t 63), (.t 64)], some (59, true), [13, 14, 15, 13, 10]⟩,
   ⟨some 66, .pick (.t 59) (.t 65) (.c (.pv (.bool false))), none, [10, 16]⟩,
   ⟨some 8, .mv (.t 66), none, [17, 16, 0, 1, 2, 3, 4, 5, 6, 7, 8, 9, 10, 11, 12, 13, 14, 15, 16, 17]⟩])
  .ret)))))))))⟩

/-- dunnage/dunnagelaw09.up -/
def f317 : AFunc := ⟨22, [.t 0],
 (.seq (.ops [
   ⟨some 0, .mv (.c (.pv (.bool false))), none, []⟩])
  (.seq (.ops [
   ⟨some 2, .build [(.pv (.int .i64 0)), (.pv (.bool false)), (.pv (.int .i64 0)), (.pv (.int .i64 0)), (.pv (.int .i64 0))] [(0, 1, (.c (.pv (.int .i64 2)))), (3, 1, (.c (.pv (.int .i64 1)))), (4, 1, (.c (.pv (.int .i64 1))))], none, []⟩,
   ⟨some 3, .bslice 5 1 [(.pv (.int .i64 0)), (.pv (.bool false)), (.pv (.int .i64 0)), (.pv (.int .i64 0)), (.pv (.int .i64 0))] [(0, 5, (.t 2))], none, [0]⟩,
   ⟨some 4, .build [.nils, .nils, .nils] [(1, 1, (.t 3))], none, [1]⟩,
   ⟨some 1, .alloc [.nils, .nils, .nils], none, []⟩,
   ⟨none, .store 3 (.t 1) (.t 4), none, [3, 2, 0, 1, 2, 3]⟩])
  (.seq (.ops [
   ⟨some 5, .load true 3 (.t 1), none, []⟩,
   ⟨some 6, .build [.nils, (.pv (.int .i64 0)), (.pv (.int .i64 0))] [], none, []⟩,
   ⟨some 7, .call 70 [(.t 5), (.t 6)], none, [0, 1]⟩,
   ⟨some 8, .call 103 [(.t 7), (.c (.pv (.int .i64 0))), (.c (.pv (.int .i64 12)))], none, [2, 2]⟩,
   ⟨some 9, .mv (.t 8), none, [3, 3]⟩,
   ⟨some 10, .build [.nils, (.pv (.int .i64 0)), (.pv (.int .i64 0))] [], some (9, true), [4]⟩,
   ⟨some 11, .build [.nils, (.pv (.int .i64 0)), (.pv (.int .i64 0))] [(2, 1, (.c (.pv (.int .i64 1))))], some (9, true), [4]⟩,
   ⟨some 12, .call 72 [(.t 10), (.t 11)], some (9, true), [5, 6, 4, 4]⟩,
   ⟨some 13, .mkI 0 (.c (.pv (.int .i64 15))), some (9, true), [4]⟩,
   ⟨some 14, .bin .eql (some (.iface true)) (.t 12) (.t 13), some (9, true), [7, 8, 4]⟩,
   ⟨some 15, .pick (.t 9) (.t 14) (.c (.pv (.bool false))), none, [4, 9]⟩,
   ⟨some 16, .mv (.t 15), none, [10, 7]⟩,
   ⟨some 17, .build [.nils, (.pv (.int .i64 0)), (.pv (.int .i64 0))] [], some (16, true), [11]⟩,
   ⟨some 18, .build [.nils, (.pv (.int .i64 0)), (.pv (.int .i64 0))] [], some (16, true), [11]⟩,
   ⟨some 19, .call 72 [(.t 17), (.t 18)], some (16, true), [12, 13, 11, 11]⟩,
   ⟨some 20, .bin .eql (some (.iface true)) (.t 19) (.c (.pv .nili)), some (16, true), [14, 11]⟩,
   ⟨some 21, .pick (.t 16) (.t 20) (.c (.pv (.bool false))), none, [11, 15]⟩,
   ⟨some 0, .mv (.t 21), none, [16, 14, 0, 1, 2, 3, 4, 5, 6, 7, 8, 9, 10, 11, 12, 13, 14, 15, 16]⟩])
  .ret)))⟩
end Go.Proofs.YtmeigdjfcecidaaDoor.Ab
/- What a reading of a law's arguments tells: they are pure values of their types' shapes. -/
set_option linter.unusedVariables false
set_option linter.unusedSimpArgs false
namespace Go.Proofs.YtmeigdjfcecidaaDoor.Ab
open Go

/-- A cell's shape. -/
inductive Sh where
  | bo
  | nu (k : IntKind)
  | st
  | sl (es : List Sh)

/-- No slice in it. -/
def Sh.flat : Sh → Bool
  | .sl _ => false
  | _ => true

section
variable (P : Program)
def shFs (rec : TypeId → Option (List Sh)) : Nat → List Field → Option (List Sh)
  | _, [] => some []
  | off, f :: r => match rec f.type with
    | some s => if f.offset = off ∧ s.length = P.cellsOf f.type then match shFs rec (off + s.length) r with
        | some ss => some (s ++ ss)
        | none => none
      else none
    | none => none
def shRep (s : List Sh) : Nat → List Sh
  | 0 => []
  | n + 1 => s ++ shRep s n
/-- The shapes of a type's cells. -/
def shOf : Nat → TypeId → Option (List Sh)
  | 0, _ => none
  | n + 1, t => match P.underlying t with
    | some .bool => some [.bo]
    | some (.int k) => some [.nu k]
    | some .string => some [.st]
    | some (.slice e) => match shOf n e with
      | some es => if es.all Sh.flat = true ∧ es.length = P.cellsOf e ∧ 0 < es.length then some [.sl es] else none
      | none => none
    | some (.struct fs) => match shFs P (shOf n) 0 fs.toList with
      | some ss => if ss.length = P.cellsOf t then some ss else none
      | none => none
    | some (.array m e) => match shOf n e with
      | some es => if es.length = P.cellsOf e ∧ m * P.cellsOf e = P.cellsOf t then some (shRep es m) else none
      | none => none
    | _ => none
end

mutual
/-- A value of this shape. -/
def Fits : Sh → PV → Prop
  | .bo, p => ∃ x, p = .bool x
  | .nu k, p => ∃ n, p = .int k n ∧ (Lit.int k n).wf = true
  | .st, p => ∃ x, p = .str x ∧ x.size ≤ maxLen
  | .sl es, p => ∃ l : List (List PV), p = .slice l ∧ ∀ e ∈ l, FitsL es e
def FitsL : List Sh → List PV → Prop
  | [], ps => ps = []
  | s :: r, ps => ∃ p q, ps = p :: q ∧ Fits s p ∧ FitsL r q
end

theorem FitsL_append : ∀ {a b : List Sh} {p q : List PV}, FitsL a p → FitsL b q → FitsL (a ++ b) (p ++ q)
  | [], b, p, q, h1, h2 => by simp only [FitsL] at h1; subst h1; exact h2
  | s :: r, b, p, q, h1, h2 => by
    simp only [FitsL] at h1
    obtain ⟨x, y, rfl, h3, h4⟩ := h1
    simp only [List.cons_append, FitsL]
    exact ⟨x, y ++ q, rfl, h3, FitsL_append h4 h2⟩
theorem FitsL_length : ∀ {a : List Sh} {p : List PV}, FitsL a p → p.length = a.length
  | [], p, h => by simp only [FitsL] at h; subst h; rfl
  | s :: r, p, h => by
    simp only [FitsL] at h
    obtain ⟨x, y, rfl, h3, h4⟩ := h
    simp [FitsL_length h4]

theorem VPs_append {E : Env} {w : World} {ok : Nat → Prop} : ∀ {a b : List PV} {u v : List Value}, VPs E w ok a u → VPs E w ok b v → VPs E w ok (a ++ b) (u ++ v)
  | [], b, u, v, h1, h2 => by simp only [VPs] at h1; subst h1; exact h2
  | p :: r, b, u, v, h1, h2 => by
    simp only [VPs] at h1
    obtain ⟨x, y, rfl, h3, h4⟩ := h1
    simp only [List.cons_append, VPs]
    exact ⟨x, y ++ v, rfl, h3, VPs_append h4 h2⟩

section
variable {E : Env} {P : Program} {w : World} {H : Type} {enc : TypeId × Value → H} {base : Nat} {spare : Nat → Bool} {held : Bool}

/-- What an opening tells of a type's cells. -/
def Opens (E : Env) (w : World) (shs : List Sh) (cs : List Value) : Prop :=
  ∃ ps, FitsL shs ps ∧ VPs E w (fun b => b < w.heap.size) ps cs ∧ (∀ v ∈ cs, Scalar v) ∧ (shs.all Sh.flat = true → ∀ v ∈ cs, ∀ a l c, v ≠ .slice a l c)

theorem Opens.nil : Opens E w [] [] := ⟨[], rfl, by simp [VPs], by simp, by simp⟩
theorem Opens.append {a b : List Sh} {u v : List Value} (h1 : Opens E w a u) (h2 : Opens E w b v) : Opens E w (a ++ b) (u ++ v) := by
  obtain ⟨p, f1, v1, s1, l1⟩ := h1
  obtain ⟨q, f2, v2, s2, l2⟩ := h2
  refine ⟨p ++ q, FitsL_append f1 f2, VPs_append v1 v2, fun x hx => ?_, fun hf x hx => ?_⟩
  · rcases List.mem_append.1 hx with h | h
    · exact s1 x h
    · exact s2 x h
  · simp only [List.all_append, Bool.and_eq_true] at hf
    rcases List.mem_append.1 hx with h | h
    · exact l1 hf.1 x h
    · exact l2 hf.2 x h

theorem Opens.length {a : List Sh} {u : List Value} (h : Opens E w a u) : u.length = a.length := by
  obtain ⟨p, f1, v1, _⟩ := h
  rw [← FitsL_length f1]
  clear f1
  rename_i hh
  clear hh
  induction p generalizing u with
  | nil => simp only [VPs] at v1; subst v1; rfl
  | cons x r ih =>
    simp only [VPs] at v1
    obtain ⟨y, z, rfl, _, h⟩ := v1
    simp [ih h]

/-- No slice begins within a cell. -/
def Spots (ss : List Sh) (cs : List Value) : Prop := ss.all Sh.flat = true ∨ ∀ v ∈ cs, ∀ a l c, v = .slice (some a) l c → a.spot = none

theorem open_fs {rec : TypeId → Option (List Sh)} {n : Nat} {cs : List Value}
    (hrec : ∀ t ss cs' x, rec t = some ss → DataW.trod enc P w base spare held n t cs' = some x → Spots ss cs' → Opens E w ss cs') :
    ∀ (fs : List Field) (off : Nat) (ss : List Sh), Spots ss cs → shFs P rec off fs = some ss → (∀ f ∈ fs, ∃ x, DataW.trod enc P w base spare held n f.type ((cs.drop f.offset).take (P.cellsOf f.type)) = some x) → Opens E w ss ((cs.drop off).take ss.length)
  | [], off, ss, _, h, _ => by
    simp only [shFs, Option.some.injEq] at h
    subst h
    simpa using Opens.nil
  | f :: r, off, ss, hsp, h, hall => by
    simp only [shFs] at h
    split at h
    · rename_i s hs
      split at h
      · rename_i hc
        split at h
        · rename_i ss' hss
          simp only [Option.some.injEq] at h
          subst h
          obtain ⟨x, hx⟩ := hall f (by simp)
          have hf : (s ++ ss').all Sh.flat = true → s.all Sh.flat = true ∧ ss'.all Sh.flat = true := by
            intro h; rw [List.all_append, Bool.and_eq_true] at h; exact h
          have h1 := hrec _ _ _ _ hs hx (hsp.elim (fun h => .inl (hf h).1) fun h => .inr fun v hv => h v (List.mem_of_mem_drop (List.mem_of_mem_take hv)))
          have h2 := open_fs hrec r (off + s.length) ss' (hsp.elim (fun h => .inl (hf h).2) .inr) hss (fun g hg => hall g (by simp [hg]))
          rw [hc.1, ← hc.2] at h1
          have : (cs.drop off).take (s ++ ss').length = (cs.drop off).take s.length ++ (cs.drop (off + s.length)).take ss'.length := by
            rw [List.length_append, List.take_add, List.drop_drop]
          rw [this]
          exact h1.append h2
        · simp at h
      · simp at h
    · simp at h

theorem open_rep {es : List Sh} {n : Nat} {e : TypeId} {cs : List Value}
    (hrec : ∀ cs' x, DataW.trod enc P w base spare held n e cs' = some x → Spots es cs' → Opens E w es cs') (hl : es.length = P.cellsOf e) :
    ∀ (m k : Nat), Spots (shRep es m) cs → (∀ i, i < m → ∃ x, DataW.trod enc P w base spare held n e ((cs.drop ((k + i) * P.cellsOf e)).take (P.cellsOf e)) = some x) → Opens E w (shRep es m) ((cs.drop (k * P.cellsOf e)).take (m * P.cellsOf e))
  | 0, k, _, _ => by simpa [shRep] using Opens.nil
  | m + 1, k, hsp, hall => by
    have hf : (es ++ shRep es m).all Sh.flat = true → es.all Sh.flat = true ∧ (shRep es m).all Sh.flat = true := by
      intro h; rw [List.all_append, Bool.and_eq_true] at h; exact h
    obtain ⟨x, hx⟩ := hall 0 (by omega)
    have h1 := hrec _ _ hx (hsp.elim (fun h => .inl (hf h).1) fun h => .inr fun v hv => h v (List.mem_of_mem_drop (List.mem_of_mem_take hv)))
    have h2 := open_rep hrec hl m (k + 1) (hsp.elim (fun h => .inl (hf h).2) .inr) (fun i hi => by
      have := hall (i + 1) (by omega)
      rwa [show k + (i + 1) = k + 1 + i by omega] at this)
    have : (cs.drop (k * P.cellsOf e)).take ((m + 1) * P.cellsOf e) = (cs.drop (k * P.cellsOf e)).take (P.cellsOf e) ++ (cs.drop ((k + 1) * P.cellsOf e)).take (m * P.cellsOf e) := by
      rw [Nat.succ_mul, Nat.add_comm (m * P.cellsOf e), List.take_add, List.drop_drop, Nat.succ_mul]
    rw [this]
    exact h1.append h2

theorem add_at (b o n : Nat) : (⟨b, o, none⟩ : Addr).add n = ⟨b, o + n, none⟩ := by
  unfold Addr.add
  split
  · rename_i h; subst h; rfl
  · rfl
theorem open_elems {P : Program} {es : List Sh} {e : TypeId} {ab : Nat} (hlen : es.length = P.cellsOf e) :
    ∀ (len ao : Nat), (∀ i, i < len → ∃ cs', w.cells? base ((⟨ab, ao, none⟩ : Addr).add (i * P.cellsOf e)) (P.cellsOf e) = some cs' ∧ Opens E w es cs') →
      ∃ rows : List (List PV), rows.length = len ∧ (∀ r ∈ rows, FitsL es r) ∧ VElems E w (fun b => b < w.heap.size) rows ab ao (P.cellsOf e)
  | 0, ao, _ => ⟨[], rfl, by simp, by simp [VElems]⟩
  | len + 1, ao, h => by
    obtain ⟨cs', h1, ps, f1, v1, s1, _⟩ := h 0 (by omega)
    obtain ⟨rows, g1, g2, g3⟩ := open_elems hlen len (ao + P.cellsOf e) (fun i hi => by
      have := h (i + 1) (by omega)
      rw [add_at] at this ⊢
      rwa [Nat.succ_mul, Nat.add_comm (i * P.cellsOf e), ← Nat.add_assoc] at this)
    obtain ⟨_, c1, c2⟩ := World.cells?_some h1
    refine ⟨ps :: rows, by simp [g1], fun r hr => ?_, ?_⟩
    · rcases List.mem_cons.1 hr with rfl | hr
      · exact f1
      · exact g2 r hr
    · simp only [VElems]
      refine ⟨by rw [FitsL_length f1, hlen], ?_, g3⟩
      have hcell : ∀ i, i < P.cellsOf e → w.cell? ⟨ab, ao + i, none⟩ = cs'[i]? := fun i hi => by
        have := c2 i hi
        rwa [Nat.zero_mul, add_at, add_at, Nat.add_zero] at this
      clear f1 h1 c2 g3
      rw [← c1] at hcell
      have key : ∀ (ps : List PV) (cs' : List Value) (o : Nat), VPs E w (fun b => b < w.heap.size) ps cs' → (∀ v ∈ cs', Scalar v) → (∀ i, i < cs'.length → w.cell? ⟨ab, o + i, none⟩ = cs'[i]?) → VRun E w (fun b => b < w.heap.size) ps ab o := by
        intro ps
        induction ps with
        | nil => intro cs' o _ _ _; simp [VRun]
        | cons p r ih =>
          intro cs' o hv hs hc
          simp only [VPs] at hv
          obtain ⟨u, us, rfl, k1, k2⟩ := hv
          simp only [VRun]
          refine ⟨⟨u, ?_, hs u (by simp), k1⟩, ih us (o + 1) k2 (fun v hv => hs v (by simp [hv])) fun i hi => ?_⟩
          · have := hc 0 (by simp)
            simpa using this
          · have := hc (i + 1) (by simpa using hi)
            rw [show o + (i + 1) = o + 1 + i by omega] at this
            simpa using this
      exact key ps cs' ao v1 s1 hcell

theorem open_sh {P : Program} : ∀ (d : Nat) (t : TypeId) (ss : List Sh), shOf P d t = some ss → ∀ (n : Nat) (cs : List Value) (x : DataW H × List MemPlace), DataW.trod enc P w base spare held n t cs = some x → Spots ss cs → Opens E w ss cs
  | 0, t, ss, hs, _, _, _, _, _ => by simp [shOf] at hs
  | d + 1, t, ss, hs, n, cs, x, h, hsp => by
    simp only [shOf] at hs
    split at hs
    · rename_i ht
      simp at hs; subst hs
      obtain ⟨b, rfl, _⟩ := DataW.trod_bool ht h
      exact ⟨[.bool b], ⟨_, _, rfl, ⟨b, rfl⟩, rfl⟩, by simp [VPs, VP], by simp [Scalar], by simp⟩
    · rename_i k ht
      simp at hs; subst hs
      obtain ⟨m, rfl, _, hw⟩ := DataW.trod_int ht h
      exact ⟨[.int k m], ⟨_, _, rfl, ⟨m, rfl, hw⟩, rfl⟩, by simp [VPs, VP], by simp [Scalar], by simp⟩
    · rename_i ht
      simp at hs; subst hs
      obtain ⟨s, rfl, _, hw⟩ := DataW.trod_string ht h
      exact ⟨[.str s], ⟨_, _, rfl, ⟨s, rfl, hw⟩, rfl⟩, by simp [VPs, VP], by simp [Scalar], by simp⟩
    · rename_i e ht
      split at hs
      · rename_i es he
        split at hs
        · rename_i hc
          simp at hs; subst hs
          obtain ⟨hflat, hlen, hpos⟩ := hc
          rcases DataW.trod_slice ht h with ⟨rfl, _⟩ | ⟨a, len, cap, elems, rest, m, _, rfl, _, hb, hl, hm, hel, hcs, _⟩
          · exact ⟨[.slice []], ⟨_, _, rfl, ⟨[], rfl, by simp⟩, rfl⟩, ⟨_, _, rfl, ⟨none, 0, 0, rfl, rfl, Nat.le_refl _, fun h => by simp at h⟩, rfl⟩, by simp [Scalar], by simp [Sh.flat]⟩
          · have hspot : a.spot = none := by
              rcases hsp with h | h
              · simp [Sh.flat] at h
              · exact h _ (List.mem_singleton.2 rfl) a len cap rfl
            obtain ⟨ab, ao, asp⟩ := a
            simp only at hspot
            subst hspot
            have each : ∀ i, i < len → ∃ cs', w.cells? base ((⟨ab, ao, none⟩ : Addr).add (i * P.cellsOf e)) (P.cellsOf e) = some cs' ∧ Opens E w es cs' := by
              intro i hi
              have h1 := hcs i hi
              have : ∃ y, elems[i]? = some y := ⟨elems[i]'(by omega), by simp [hel, hi]⟩
              obtain ⟨y, hy⟩ := this
              rw [hy, Option.bind_eq_some_iff] at h1
              obtain ⟨cs', hc1, hc2⟩ := h1
              exact ⟨cs', hc1, open_sh d e es he _ _ _ hc2 (.inl hflat)⟩
            obtain ⟨rows, r1, r2, r3⟩ := open_elems hlen len ao each
            refine ⟨[.slice rows], ⟨_, _, rfl, ⟨rows, rfl, r2⟩, rfl⟩, ?_, by simp [Scalar], by simp [Sh.flat]⟩
            simp only [VPs, VP]
            refine ⟨_, _, rfl, ⟨some ⟨ab, ao, none⟩, len, cap, rfl, r1.symm, hl, fun hp => ⟨ab, ao, P.cellsOf e, rfl, ?_, r3⟩⟩, rfl⟩
            obtain ⟨cs', c1, _⟩ := each 0 (by omega)
            have := World.cells?_block c1 (by omega)
            rwa [add_at] at this
        · simp at hs
      · simp at hs
    · rename_i fs ht
      split at hs
      · rename_i ss' hss
        split at hs
        · rename_i hc
          simp at hs; subst hs
          obtain ⟨xs, m, rfl, _, hlen, hxl, hall⟩ := DataW.trod_struct ht h
          have h1 := open_fs (E := E) (cs := cs) (rec := shOf P d) (n := m) (enc := enc) (base := base) (spare := spare) (held := held) (fun t ss cs' x hr hx hsp' => open_sh d t ss hr m cs' x hx hsp') fs.toList 0 ss' hsp hss (fun f hf => by
            obtain ⟨i, hi, rfl⟩ := List.getElem_of_mem hf
            have hi' : i < fs.size := by simpa using hi
            have := hall i fs[i] (by simp [hi'])
            refine ⟨xs[i]'(by omega), ?_⟩
            rw [Array.getElem_toList, this]
            simp [hxl, hi'])
          rwa [hc, ← hlen, List.drop_zero, List.take_length] at h1
        · simp at hs
      · simp at hs
    · rename_i m e ht
      split at hs
      · rename_i es he
        split at hs
        · rename_i hc
          simp at hs; subst hs
          obtain ⟨xs, k, rfl, _, hlen, hxl, hall⟩ := DataW.trod_array ht h
          have h1 := open_rep (E := E) (cs := cs) (es := es) (e := e) (n := k) (enc := enc) (base := base) (spare := spare) (held := held) (fun cs' x hx hsp' => open_sh d e es he k cs' x hx hsp') hc.1 m 0 hsp (fun i hi => by
            have := hall i hi
            rw [Nat.zero_add]
            exact ⟨xs[i]'(by omega), by rw [this]; simp [hxl, hi]⟩)
          rwa [hc.2, ← hlen, Nat.zero_mul, List.drop_zero, List.take_length] at h1
        · simp at hs
      · simp at hs
    · simp at hs

theorem spot_of_cell {r : Reach} {base : Nat} {u : TypeId} {a : Addr} {l c : Nat} (h : Cell.okWide P w r base u (.slice (some a) l c)) : a.spot = none := by
  unfold Cell.okWide at h
  split at h <;> rename_i h2 <;> first | (simp at h2; done) | skip
  unfold Cell.ok at h
  split at h <;> rename_i h3 h4 <;> first | (simp at h4; done) | skip
  all_goals first | exact h.elim | (simp at h4; obtain ⟨rfl, rfl, rfl⟩ := h4; exact h.2.2.2.1)

/-- An argument that is a struct or an array. -/
theorem open_agg {r : Reach} {d : Nat} {t : TypeId} {v : Value} {ss : List Sh} {x : DataW H} {ps : List MemPlace} (hagg : (match P.underlying t with | some (.struct _) => true | some (.array _ _) => true | _ => false) = true)
    (hs : shOf P d t = some ss) (hval : Value.okWide P w r base t v) (h : DataW.Trod enc P w 0 (fun _ => true) true t v x ps) : ∃ l, FitsL ss l ∧ VP E w (fun b => b < w.heap.size) (.agg l) v := by
  obtain ⟨n, h⟩ := h
  have : ∃ cs, v = .agg cs ∧ Row.okWide P w r base t cs := by
    unfold Value.okWide at hval
    split at hagg
    · rename_i hu; rw [hu] at hval; obtain ⟨cs, h1, _, h2⟩ := hval; exact ⟨cs, h1, h2⟩
    · rename_i hu; rw [hu] at hval; obtain ⟨cs, h1, _, h2⟩ := hval; exact ⟨cs, h1, h2⟩
    · simp at hagg
  obtain ⟨cs, rfl, ts, _, _, hcell⟩ := this
  obtain ⟨l, h1, h2, _, _⟩ := open_sh (E := E) d t ss hs n _ _ h (.inr fun v hv a l c hvv => by
    obtain ⟨i, hi, hiv⟩ := List.getElem_of_mem (show v ∈ cs.toList from hv)
    obtain ⟨u, _, h5⟩ := hcell i v (by rw [← Array.getElem?_toList, List.getElem?_eq_getElem hi, hiv])
    rw [hvv] at h5
    exact spot_of_cell h5)
  refine ⟨l, h1, ?_⟩
  simp only [VP]
  exact ⟨cs.toList, by simp, h2⟩

/-- An argument of one cell. -/
theorem open_one {r : Reach} {d : Nat} {t : TypeId} {v : Value} {s : Sh} {x : DataW H} {ps : List MemPlace} (hagg : (match P.underlying t with | some (.struct _) => true | some (.array _ _) => true | _ => false) = false)
    (hs : shOf P d t = some [s]) (hval : Value.okWide P w r base t v) (h : DataW.Trod enc P w 0 (fun _ => true) true t v x ps) : ∃ p, Fits s p ∧ VP E w (fun b => b < w.heap.size) p v := by
  obtain ⟨n, h⟩ := h
  have hc : Cell.okWide P w r base t v := by
    unfold Value.okWide at hval
    split at hval
    · rename_i hu; simp [hu] at hagg
    · rename_i hu; simp [hu] at hagg
    · exact hval
  have hv : v.cells.toList = [v] := by
    cases v <;> first | rfl | skip
    unfold Cell.okWide at hc
    split at hc <;> rename_i h2 <;> first | (simp at h2; done) | skip
    unfold Cell.ok at hc
    split at hc <;> rename_i h3 h4 <;> first | (simp at h4; done) | exact hc.elim
  rw [hv] at h
  obtain ⟨l, h1, h2, _, _⟩ := open_sh (E := E) d t [s] hs n _ _ h (.inr fun u hu a l c hvv => by
    simp only [List.mem_singleton] at hu
    subst hu
    rw [hvv] at hc
    exact spot_of_cell hc)
  simp only [FitsL] at h1
  obtain ⟨p, q, rfl, h3, rfl⟩ := h1
  simp only [VPs] at h2
  obtain ⟨u, us, h4, h5, rfl⟩ := h2
  simp only [List.cons.injEq] at h4
  exact ⟨p, h3, h4.1 ▸ h5⟩
end
end Go.Proofs.YtmeigdjfcecidaaDoor.Ab
