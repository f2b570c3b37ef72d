/- The layer, part 2: Ab47, Ab48, Ab49, Ab51, Ab52, Sp9, Sp9c. -/
import Derived.Test.YtlgfanbdjigmiaaDoorA1
/- A slice's comparison with nil, of which a value does not tell; slices.Clone. -/
set_option linter.unusedVariables false
set_option linter.unusedSimpArgs false
namespace Go.Proofs.YtlgfanbdjigmiaaDoor.Ab
open Go

section
variable {E : Env} {N : Nat}

theorem qs_nx (d : Nat) {P : Program} {w : World} {t : TypeId} {e n m} (h : P.underlying t = some (.slice e)) : (Op.equalIn (d + 1) t (.slice none n m) (.slice none 0 0)).run P w = .ok true w := by simp [Op.equalIn, run_underlying h]
/-- A slice against nil: it is one of both; where it has elements it is no. -/
theorem WPo.nilAny {d : Nat} {x y : AO} {es : List (List PV)} {ds : List Nat} {l : List AOper} {Q : St → Prop} {st : St} (hE' : E.OK) (hx : evO (look st.fr) x = .pv (.slice es)) (hy : evO (look st.fr) y = .nils)
    (h : ∀ b, (es ≠ [] → b = false) → WPo E N l Q ⟨putS st (some d) (.pv (.bool b)), st.hp, st.nx⟩) : WPo E N (⟨some d, .bin .eql (some .slice) x y, none, ds⟩ :: l) Q st := by
  intro ops k hk hl X M a w Q' hE hN R hq
  obtain ⟨o, ho, hc⟩ := hl 0 _ rfl
  obtain ⟨h1, h2, h3, h4⟩ := cOper_spec hc
  simp only [List.length_cons, List.range'_succ]
  rw [wpOps_cons]
  unfold wpOp
  rw [show ops[k]? = some o from ho]
  simp only
  have hw := guard_ok (X := X) (o := o) (b := true) R (by rw [hN]; exact h4) rfl
  rw [if_pos hw]
  left
  subst hE
  obtain ⟨t, x', y', u, hop, hcx, hcy, hkk⟩ := inv_bin h1
  obtain ⟨dd, hd, e, rfl⟩ := eqK_spec hkk.symm
  have vx := cO_ok hE' R hcx
  have vy := cO_ok hE' R hcy
  rw [hx] at vx
  rw [hy] at vy
  simp only [VA, VP] at vx vy
  obtain ⟨ad, len, cap, e1, e2, e3, e4⟩ := vx
  have hex : execOp a.eval o = (do pure (Next.value (← (do eqGuard .eql t x' y' (a.eval x') (a.eval y'); binOp .eql t (a.eval x') (a.eval y')))) : Sem Next) := by
    unfold execOp
    rw [hop]
  have hrun : ∃ b, (es ≠ [] → b = false) ∧ (execOp a.eval o).run X.E.P w = .ok (.value (.bool b)) w := by
    rw [hex, e1, vy]
    have hg : (eqGuard .eql t x' y' (.slice ad len cap) (.slice none 0 0)).run X.E.P w = .ok () w := by
      unfold eqGuard
      simp only [Bool.not_true, Bool.false_eq_true, if_false]
      rfl
    have hb : ∀ b, (Op.equalIn 10000 t (.slice ad len cap) (.slice none 0 0)).run X.E.P w = .ok b w → (binOp .eql t (.slice ad len cap) (.slice none 0 0)).run X.E.P w = .ok (.bool b) w := by
      intro b hb
      simp only [binOp]
      rw [rb (show (Op.equal t (.slice ad len cap) (.slice none 0 0)).run X.E.P w = .ok b w from hb)]
      rfl
    cases ad with
    | none =>
      refine ⟨true, fun hne => ?_, r_value (by rw [rb hg]; exact hb true (qs_nx _ hd))⟩
      obtain ⟨b, o, sz, hh, _⟩ := e4 (by cases es <;> simp at hne ⊢)
      simp at hh
    | some ad =>
      exact ⟨false, fun _ => rfl, r_value (by rw [rb hg]; exact hb false (qs_pn _ hd))⟩
  obtain ⟨b, hb1, hb2⟩ := hrun
  rw [Oper.wp, hb2, Oper.upon_value]
  refine h b hb1 ops (k + 1) (by simp at hk; omega) (fun j y hy => ?_) X M _ _ Q' rfl hN ?_ hq
  · have := hl (j + 1) y (by simpa using hy)
    rwa [← Nat.add_assoc, Nat.add_right_comm] at this
  · unfold Rl
    simp only
    rw [look_put, show some d = o.dst from h2.symm]
    exact Rel.put R (by simp only [VA, VP]) (fun k hk => by rw [hN]; exact h3 k hk)

/-- slices.Clone of elements of so many cells. -/
def cloneF (sz b : Nat) : AFunc := ⟨8, [.t 2],
 (.seq (.ops [
   ⟨some 2, .mv (.c .nils), none, []⟩])
  (.seq (.seq (.ops [
   ⟨some 3, .mv (.t 0), none, []⟩,
   ⟨some 4, .bin .eql (some .slice) (.t 3) (.c .nils), none, [0]⟩])
  (.cond (.t 4)
   (.seq (.ops [
     ⟨some 2, .mv (.c .nils), none, []⟩])
    .ret)
   .skip))
  (.seq (.ops [
   ⟨some 5, .bslice sz 0 [] [], none, []⟩,
   ⟨some 6, .mv (.t 0), none, []⟩,
   ⟨some 7, .append sz b (.t 5) (.t 6), none, [0, 1]⟩,
   ⟨some 2, .mv (.t 7), none, [2, 2, 0, 1, 2]⟩])
  .ret)))⟩

def cloneP (sz : Nat) (args : List AV) (hp : Hl) (nx : Nat) : Option (AV × Hl × Nat) :=
  match args, hp with
  | [.pv (.slice [])], [] => some (.pv (.slice []), [], nx + 2)
  | [.pv (.slice (e :: r))], [] => if allLen sz (e :: r) = true ∧ (e :: r).length ≤ 2 ^ 30 then some (.ms (nx + 1), [(nx + 1, .row sz (e :: r))], nx + 2) else none
  | _, _ => none

/-- No functions at all. -/
def T0 : Tab := ⟨fun _ => none, fun _ => false, fun _ => false, fun _ => false, fun _ => false, fun _ => none⟩
theorem T0_tied : Tied E T0 := ⟨fun n f h1 h2 => by simp [T0] at h2, fun n g h => by simp [T0] at h⟩
theorem Wp_WP {T : Tab} (hE : E.OK) (hT : Tied E T) {s : Bool} {c : ACode} {st : St} {Q : Exit → St → Prop} (h : Wp T s c st Q) : WP E N c Q st := by
  obtain ⟨e, st', h1, h2⟩ := h
  obtain ⟨k0, hk⟩ := h1.late
  exact run_sound hE (den_sound hE hT k0) _ _ _ _ _ (hk k0 k0 (Nat.le_refl _) (Nat.le_refl _)) _ h2

theorem clone_raw {n sz b : Nat} (hE : E.OK) (hf : cFunc E n = some (cloneF sz b)) (args : List AV) (hp : Hl) (nx : Nat) (v : AV) (hp' : Hl) (nx' : Nat) (h : cloneP sz args hp nx = some (v, hp', nx')) : RawC E n args hp nx v hp' nx' := by
  have hT := @T0_tied E
  have key : ∃ es, args = [.pv (.slice es)] ∧ hp = [] := by
    unfold cloneP at h
    split at h
    · exact ⟨_, rfl, rfl⟩
    · exact ⟨_, rfl, rfl⟩
    · simp at h
  obtain ⟨es, rfl, rfl⟩ := key
  refine RawC.of_conv hE hf (by simp [cloneF]) ?_
  unfold cloneF
  simp only
  refine WP.seq (Wp_WP hE hT (s := false) ?_)
  rw [Wp_ops, WpO_cons]
  simp only [guardV, guardQ, opQ, evOp, evQ, evO, WpO_nil, thenQ]
  refine WP.seq (WP.seq (WP.ops hE ?_))
  refine doO_sound (T := T0) (C := D T0) hE (D_sound hE hT) (st1 := ⟨(3, .pv (.slice es)) :: (2, .nils) :: argsA 0 [.pv (.slice es)], [], nx⟩) rfl ?_
  refine WPo.nilAny (es := es) hE rfl rfl fun bb hbb => WPo.nil ?_
  simp only [thenQ]
  refine WP.cond (b := bb) hE rfl (fun hb => ?_) (fun hb => WP.skip ?_)
  · subst hb
    have hes : es = [] := Classical.byContradiction fun hh => by simpa using hbb hh
    subst hes
    refine Wp_WP hE hT (s := false) ?_
    simp only [cloneP, Option.some.injEq, Prod.mk.injEq] at h
    obtain ⟨rfl, rfl, rfl⟩ := h
    simp only [Wp_seq, Wp_ops, Wp_cond, Wp_skip, Wp_ret, Wp_exit, Wp_block, WpO_cons, WpO_nil, opQ, evOp, evO, evOs, evQ_some, guardV, guardQ_true, guardQ_false, boolQ_true, boolQ_false, argsA, pvs, putS, cellsOf, scals, scal, seqQ_normal, seqQ_ret, seqQ_exit, blkQ_normal, blkQ_ret, blkQ_exit, look_if, blkAt_if, if_true, if_false, Nat.reduceEqDiff, Nat.reduceAdd, true_implies, reduceCtorEq, false_implies, and_true, true_and, List.nil_append, List.cons_append, Bool.and_self, Nat.zero_add, Nat.add_zero, fieldA, nonNil, cellsAt, loadV_one, loadV_pvs, loadV_cons, mkAgg, allPV, List.drop_zero, List.drop_succ_cons, List.take_succ_cons, List.take_zero, List.length_cons, List.length_nil, Nat.beq_eq, storeB, patchL, beq_self_eq_true, ge_iff_le, gt_iff_lt, Int.reduceNeg, Int.reduceLE, Int.reduceLT, Int.reduceEq, extractV, List.getElem?_cons_zero, List.getElem?_cons_succ, mkAgg, Nat.add_eq_left, Nat.left_eq_add, Nat.one_ne_zero, ble_dec, beq_dec, decide_eq_true_eq, Nat.reduceLeDiff, Nat.le_refl, fillA, pureVs, pureV, beq_int, bne_int, Int.natCast_inj, eq_self, eqV, eqB, decide_true, decide_false, List.length_map, Int.toNat_natCast, List.getElem?_map, Option.map_some, Option.map_none, Int.natCast_nonneg, Option.some.injEq, lenV, binV, intBin, intV, idxA, ne_eq, not_true_eq_false, not_false_eq_true, List.drop, List.take, RetP, retP, resV, resOne, snapV, snapVs, snapR, snapRs, ownSz, pickV, cond_true, cond_false, bTT, bTF, bFT, bFF, Bool.not_true, Bool.not_false, AO.isC, Bool.or_true, Bool.true_or, Bool.or_false, Bool.false_or, WpD_cons, WpD_nil, opD, evD_some, guardD_true, guardD_false, thenQ]
    refine ⟨.inl trivial, _, rfl, fun X M F a w u hX R hu => ⟨R.used_mono fun i hi => by show i < nx + 2; have : i < nx := hi; omega, ?_⟩⟩
    simp only [VA] at hu
    subst hu
    simp only [VA, VP]
    exact ⟨none, 0, 0, rfl, rfl, Nat.le_refl _, fun h => by simp at h⟩
  · subst hb
    simp only [thenQ]
    refine Wp_WP hE hT (s := false) ?_
    cases es with
    | nil =>
      simp only [cloneP, Option.some.injEq, Prod.mk.injEq] at h
      obtain ⟨rfl, rfl, rfl⟩ := h
      simp only [Wp_seq, Wp_ops, Wp_cond, Wp_skip, Wp_ret, Wp_exit, Wp_block, WpO_cons, WpO_nil, opQ, evOp, evO, evOs, evQ_some, guardV, guardQ_true, guardQ_false, boolQ_true, boolQ_false, argsA, pvs, putS, cellsOf, scals, scal, seqQ_normal, seqQ_ret, seqQ_exit, blkQ_normal, blkQ_ret, blkQ_exit, look_if, blkAt_if, if_true, if_false, Nat.reduceEqDiff, Nat.reduceAdd, true_implies, reduceCtorEq, false_implies, and_true, true_and, List.nil_append, List.cons_append, Bool.and_self, Nat.zero_add, Nat.add_zero, fieldA, nonNil, cellsAt, loadV_one, loadV_pvs, loadV_cons, mkAgg, allPV, List.drop_zero, List.drop_succ_cons, List.take_succ_cons, List.take_zero, List.length_cons, List.length_nil, Nat.beq_eq, storeB, patchL, beq_self_eq_true, ge_iff_le, gt_iff_lt, Int.reduceNeg, Int.reduceLE, Int.reduceLT, Int.reduceEq, extractV, List.getElem?_cons_zero, List.getElem?_cons_succ, mkAgg, Nat.add_eq_left, Nat.left_eq_add, Nat.one_ne_zero, ble_dec, beq_dec, decide_eq_true_eq, Nat.reduceLeDiff, Nat.le_refl, fillA, pureVs, pureV, beq_int, bne_int, Int.natCast_inj, eq_self, eqV, eqB, decide_true, decide_false, List.length_map, Int.toNat_natCast, List.getElem?_map, Option.map_some, Option.map_none, Int.natCast_nonneg, Option.some.injEq, lenV, binV, intBin, intV, idxA, ne_eq, not_true_eq_false, not_false_eq_true, List.drop, List.take, RetP, retP, resV, resOne, snapV, snapVs, snapR, snapRs, ownSz, pickV, cond_true, cond_false, bTT, bTF, bFT, bFF, Bool.not_true, Bool.not_false, AO.isC, Bool.or_true, Bool.true_or, Bool.or_false, Bool.false_or, WpD_cons, WpD_nil, opD, evD_some, guardD_true, guardD_false, fillA, partsScal, chunk, srcV, baseV, appV, allLen, List.all_nil, beq_self, Nat.reducePow, Nat.zero_le]
      refine ⟨.inl trivial, _, rfl, fun X M F a w u hX R hu => ?_⟩
      have e1 : wr (blkAt [(nx, .dead), (nx + 1, .row sz []), (nx, .row sz [])]) [(nx + 1, .dead)] = blkAt [] := by
        funext i
        rw [← blkAt_wr]
        simp only [List.cons_append, List.nil_append, blkAt]
        by_cases h1 : nx + 1 = i
        · subst h1; rw [beq_self]; rfl
        · rw [beq_ne h1]
          by_cases h2 : nx = i
          · subst h2; rw [beq_self]; rfl
          · rw [beq_ne h2]; rfl
      have e2 : blkAt [(nx, .dead), (nx + 1, .row sz []), (nx, .row sz [])] (nx + 1) = .row sz [] := by
        simp only [blkAt]
        rw [beq_ne (by omega : nx ≠ nx + 1), beq_self]
        rfl
      have R1 := R.kill (nx + 1)
      rw [e1] at R1
      refine ⟨R1, ?_⟩
      have Rb : Rl X M ⟨[], [(nx, .dead), (nx + 1, .row sz []), (nx, .row sz [])], nx + 2⟩ a w := { R with fr := fun t => by simp only [look, VA] }
      have := Rb.frzA (nx + 1) (args := [.ms (nx + 1)]) (vs := [u]) (by simp only [VAs]; exact ⟨u, [], rfl, hu, rfl⟩)
      have e3 : frzA (nx + 1) ⟨[], [(nx, .dead), (nx + 1, .row sz []), (nx, .row sz [])], nx + 2⟩ [.ms (nx + 1)] = [.pv (.slice [])] := by
        simp only [Ab.frzA, e2, frzVs, frzV, beq_self, cond_true]
      have e4 : frzS (nx + 1) ⟨[], [(nx, .dead), (nx + 1, .row sz []), (nx, .row sz [])], nx + 2⟩ = ⟨[], [(nx + 1, .dead), (nx, .dead), (nx + 1, .row sz []), (nx, .row sz [])], nx + 2⟩ := by
        simp only [frzS, e2, frzF, frzH, frzB]
      rw [e3, e4] at this
      have e5 : blkAt [(nx + 1, .dead), (nx, .dead), (nx + 1, .row sz []), (nx, .row sz [])] = blkAt [] := by
        funext i
        have := congrFun e1 i
        rw [← blkAt_wr] at this
        exact this
      simp only [e5] at this
      simp only [VAs] at this
      obtain ⟨u', us', h1, h2, h3⟩ := this
      simp only [List.cons.injEq] at h1
      rw [h1.1]
      exact h2
    | cons e r =>
      simp only [cloneP] at h
      split at h
      · rename_i hc
        simp only [Option.some.injEq, Prod.mk.injEq] at h
        obtain ⟨rfl, rfl, rfl⟩ := h
        have h1 : (List.all (e :: r) fun e => decide (e.length = sz)) = true := by simpa only [allLen, beq_dec] using hc.1
        have h2 : r.length + 1 ≤ 2 ^ 30 := hc.2
        simp only [Wp_seq, Wp_ops, Wp_cond, Wp_skip, Wp_ret, Wp_exit, Wp_block, WpO_cons, WpO_nil, opQ, evOp, evO, evOs, evQ_some, guardV, guardQ_true, guardQ_false, boolQ_true, boolQ_false, argsA, pvs, putS, cellsOf, scals, scal, seqQ_normal, seqQ_ret, seqQ_exit, blkQ_normal, blkQ_ret, blkQ_exit, look_if, blkAt_if, if_true, if_false, Nat.reduceEqDiff, Nat.reduceAdd, true_implies, reduceCtorEq, false_implies, and_true, true_and, List.nil_append, List.cons_append, Bool.and_self, Nat.zero_add, Nat.add_zero, fieldA, nonNil, cellsAt, loadV_one, loadV_pvs, loadV_cons, mkAgg, allPV, List.drop_zero, List.drop_succ_cons, List.take_succ_cons, List.take_zero, List.length_cons, List.length_nil, Nat.beq_eq, storeB, patchL, beq_self_eq_true, ge_iff_le, gt_iff_lt, Int.reduceNeg, Int.reduceLE, Int.reduceLT, Int.reduceEq, extractV, List.getElem?_cons_zero, List.getElem?_cons_succ, mkAgg, Nat.add_eq_left, Nat.left_eq_add, Nat.one_ne_zero, ble_dec, beq_dec, decide_eq_true_eq, Nat.reduceLeDiff, Nat.le_refl, fillA, pureVs, pureV, beq_int, bne_int, Int.natCast_inj, eq_self, eqV, eqB, decide_true, decide_false, List.length_map, Int.toNat_natCast, List.getElem?_map, Option.map_some, Option.map_none, Int.natCast_nonneg, Option.some.injEq, lenV, binV, intBin, intV, idxA, ne_eq, not_true_eq_false, not_false_eq_true, List.drop, List.take, RetP, retP, resV, resOne, snapV, snapVs, snapR, snapRs, ownSz, pickV, cond_true, cond_false, bTT, bTF, bFT, bFF, Bool.not_true, Bool.not_false, AO.isC, Bool.or_true, Bool.true_or, Bool.or_false, Bool.false_or, WpD_cons, WpD_nil, opD, evD_some, guardD_true, guardD_false, fillA, partsScal, chunk, srcV, baseV, appV, allLen, h1, h2, beq_self]
        refine ⟨.inl trivial, _, rfl, fun X M F a w u hX R hu => ?_⟩
        have : blkAt [(nx, .dead), (nx + 1, .row sz (e :: r)), (nx, .row sz [])] = blkAt [(nx + 1, .row sz (e :: r))] := by
          funext i
          simp only [blkAt]
          by_cases hi : nx = i
          · subst hi
            rw [beq_self, beq_ne (by omega : nx + 1 ≠ nx)]
            rfl
          · rw [beq_ne hi]
            rfl
        simp only [this] at R hu
        exact ⟨R, hu⟩
      · simp at h
end
end Go.Proofs.YtlgfanbdjigmiaaDoor.Ab
/- What a reading of a law's arguments tells: they are pure values of their types' shapes. -/
set_option linter.unusedVariables false
set_option linter.unusedSimpArgs false
namespace Go.Proofs.YtlgfanbdjigmiaaDoor.Ab
open Go

/-- A cell's shape. -/
inductive Sh where
  | bo
  | nu (k : IntKind)
  | st
  | sl (es : List Sh)

/-- No slice in it. -/
def Sh.flat : Sh → Bool
  | .sl _ => false
  | _ => true

section
variable (P : Program)
def shFs (rec : TypeId → Option (List Sh)) : Nat → List Field → Option (List Sh)
  | _, [] => some []
  | off, f :: r => match rec f.type with
    | some s => if f.offset = off ∧ s.length = P.cellsOf f.type then match shFs rec (off + s.length) r with
        | some ss => some (s ++ ss)
        | none => none
      else none
    | none => none
def shRep (s : List Sh) : Nat → List Sh
  | 0 => []
  | n + 1 => s ++ shRep s n
/-- The shapes of a type's cells. -/
def shOf : Nat → TypeId → Option (List Sh)
  | 0, _ => none
  | n + 1, t => match P.underlying t with
    | some .bool => some [.bo]
    | some (.int k) => some [.nu k]
    | some .string => some [.st]
    | some (.slice e) => match shOf n e with
      | some es => if es.all Sh.flat = true ∧ es.length = P.cellsOf e ∧ 0 < es.length then some [.sl es] else none
      | none => none
    | some (.struct fs) => match shFs P (shOf n) 0 fs.toList with
      | some ss => if ss.length = P.cellsOf t then some ss else none
      | none => none
    | some (.array m e) => match shOf n e with
      | some es => if es.length = P.cellsOf e ∧ m * P.cellsOf e = P.cellsOf t then some (shRep es m) else none
      | none => none
    | _ => none
end

mutual
/-- A value of this shape. -/
def Fits : Sh → PV → Prop
  | .bo, p => ∃ x, p = .bool x
  | .nu k, p => ∃ n, p = .int k n ∧ (Lit.int k n).wf = true
  | .st, p => ∃ x, p = .str x ∧ x.size ≤ maxLen
  | .sl es, p => ∃ l : List (List PV), p = .slice l ∧ ∀ e ∈ l, FitsL es e
def FitsL : List Sh → List PV → Prop
  | [], ps => ps = []
  | s :: r, ps => ∃ p q, ps = p :: q ∧ Fits s p ∧ FitsL r q
end

theorem FitsL_append : ∀ {a b : List Sh} {p q : List PV}, FitsL a p → FitsL b q → FitsL (a ++ b) (p ++ q)
  | [], b, p, q, h1, h2 => by simp only [FitsL] at h1; subst h1; exact h2
  | s :: r, b, p, q, h1, h2 => by
    simp only [FitsL] at h1
    obtain ⟨x, y, rfl, h3, h4⟩ := h1
    simp only [List.cons_append, FitsL]
    exact ⟨x, y ++ q, rfl, h3, FitsL_append h4 h2⟩
theorem FitsL_length : ∀ {a : List Sh} {p : List PV}, FitsL a p → p.length = a.length
  | [], p, h => by simp only [FitsL] at h; subst h; rfl
  | s :: r, p, h => by
    simp only [FitsL] at h
    obtain ⟨x, y, rfl, h3, h4⟩ := h
    simp [FitsL_length h4]

theorem VPs_append {E : Env} {w : World} {ok : Nat → Prop} : ∀ {a b : List PV} {u v : List Value}, VPs E w ok a u → VPs E w ok b v → VPs E w ok (a ++ b) (u ++ v)
  | [], b, u, v, h1, h2 => by simp only [VPs] at h1; subst h1; exact h2
  | p :: r, b, u, v, h1, h2 => by
    simp only [VPs] at h1
    obtain ⟨x, y, rfl, h3, h4⟩ := h1
    simp only [List.cons_append, VPs]
    exact ⟨x, y ++ v, rfl, h3, VPs_append h4 h2⟩

section
variable {E : Env} {P : Program} {w : World} {H : Type} {enc : TypeId × Value → H} {base : Nat} {spare : Nat → Bool} {held : Bool}

/-- What an opening tells of a type's cells. -/
def Opens (E : Env) (w : World) (shs : List Sh) (cs : List Value) : Prop :=
  ∃ ps, FitsL shs ps ∧ VPs E w (fun b => b < w.heap.size) ps cs ∧ (∀ v ∈ cs, Scalar v) ∧ (shs.all Sh.flat = true → ∀ v ∈ cs, ∀ a l c, v ≠ .slice a l c)

theorem Opens.nil : Opens E w [] [] := ⟨[], rfl, by simp [VPs], by simp, by simp⟩
theorem Opens.append {a b : List Sh} {u v : List Value} (h1 : Opens E w a u) (h2 : Opens E w b v) : Opens E w (a ++ b) (u ++ v) := by
  obtain ⟨p, f1, v1, s1, l1⟩ := h1
  obtain ⟨q, f2, v2, s2, l2⟩ := h2
  refine ⟨p ++ q, FitsL_append f1 f2, VPs_append v1 v2, fun x hx => ?_, fun hf x hx => ?_⟩
  · rcases List.mem_append.1 hx with h | h
    · exact s1 x h
    · exact s2 x h
  · simp only [List.all_append, Bool.and_eq_true] at hf
    rcases List.mem_append.1 hx with h | h
    · exact l1 hf.1 x h
    · exact l2 hf.2 x h

theorem Opens.length {a : List Sh} {u : List Value} (h : Opens E w a u) : u.length = a.length := by
  obtain ⟨p, f1, v1, _⟩ := h
  rw [← FitsL_length f1]
  clear f1
  rename_i hh
  clear hh
  induction p generalizing u with
  | nil => simp only [VPs] at v1; subst v1; rfl
  | cons x r ih =>
    simp only [VPs] at v1
    obtain ⟨y, z, rfl, _, h⟩ := v1
    simp [ih h]

/-- No slice begins within a cell. -/
def Spots (ss : List Sh) (cs : List Value) : Prop := ss.all Sh.flat = true ∨ ∀ v ∈ cs, ∀ a l c, v = .slice (some a) l c → a.spot = none

theorem open_fs {rec : TypeId → Option (List Sh)} {n : Nat} {cs : List Value}
    (hrec : ∀ t ss cs' x, rec t = some ss → DataW.trod enc P w base spare held n t cs' = some x → Spots ss cs' → Opens E w ss cs') :
    ∀ (fs : List Field) (off : Nat) (ss : List Sh), Spots ss cs → shFs P rec off fs = some ss → (∀ f ∈ fs, ∃ x, DataW.trod enc P w base spare held n f.type ((cs.drop f.offset).take (P.cellsOf f.type)) = some x) → Opens E w ss ((cs.drop off).take ss.length)
  | [], off, ss, _, h, _ => by
    simp only [shFs, Option.some.injEq] at h
    subst h
    simpa using Opens.nil
  | f :: r, off, ss, hsp, h, hall => by
    simp only [shFs] at h
    split at h
    · rename_i s hs
      split at h
      · rename_i hc
        split at h
        · rename_i ss' hss
          simp only [Option.some.injEq] at h
          subst h
          obtain ⟨x, hx⟩ := hall f (by simp)
          have hf : (s ++ ss').all Sh.flat = true → s.all Sh.flat = true ∧ ss'.all Sh.flat = true := by
            intro h; rw [List.all_append, Bool.and_eq_true] at h; exact h
          have h1 := hrec _ _ _ _ hs hx (hsp.elim (fun h => .inl (hf h).1) fun h => .inr fun v hv => h v (List.mem_of_mem_drop (List.mem_of_mem_take hv)))
          have h2 := open_fs hrec r (off + s.length) ss' (hsp.elim (fun h => .inl (hf h).2) .inr) hss (fun g hg => hall g (by simp [hg]))
          rw [hc.1, ← hc.2] at h1
          have : (cs.drop off).take (s ++ ss').length = (cs.drop off).take s.length ++ (cs.drop (off + s.length)).take ss'.length := by
            rw [List.length_append, List.take_add, List.drop_drop]
          rw [this]
          exact h1.append h2
        · simp at h
      · simp at h
    · simp at h

theorem open_rep {es : List Sh} {n : Nat} {e : TypeId} {cs : List Value}
    (hrec : ∀ cs' x, DataW.trod enc P w base spare held n e cs' = some x → Spots es cs' → Opens E w es cs') (hl : es.length = P.cellsOf e) :
    ∀ (m k : Nat), Spots (shRep es m) cs → (∀ i, i < m → ∃ x, DataW.trod enc P w base spare held n e ((cs.drop ((k + i) * P.cellsOf e)).take (P.cellsOf e)) = some x) → Opens E w (shRep es m) ((cs.drop (k * P.cellsOf e)).take (m * P.cellsOf e))
  | 0, k, _, _ => by simpa [shRep] using Opens.nil
  | m + 1, k, hsp, hall => by
    have hf : (es ++ shRep es m).all Sh.flat = true → es.all Sh.flat = true ∧ (shRep es m).all Sh.flat = true := by
      intro h; rw [List.all_append, Bool.and_eq_true] at h; exact h
    obtain ⟨x, hx⟩ := hall 0 (by omega)
    have h1 := hrec _ _ hx (hsp.elim (fun h => .inl (hf h).1) fun h => .inr fun v hv => h v (List.mem_of_mem_drop (List.mem_of_mem_take hv)))
    have h2 := open_rep hrec hl m (k + 1) (hsp.elim (fun h => .inl (hf h).2) .inr) (fun i hi => by
      have := hall (i + 1) (by omega)
      rwa [show k + (i + 1) = k + 1 + i by omega] at this)
    have : (cs.drop (k * P.cellsOf e)).take ((m + 1) * P.cellsOf e) = (cs.drop (k * P.cellsOf e)).take (P.cellsOf e) ++ (cs.drop ((k + 1) * P.cellsOf e)).take (m * P.cellsOf e) := by
      rw [Nat.succ_mul, Nat.add_comm (m * P.cellsOf e), List.take_add, List.drop_drop, Nat.succ_mul]
    rw [this]
    exact h1.append h2

theorem add_at (b o n : Nat) : (⟨b, o, none⟩ : Addr).add n = ⟨b, o + n, none⟩ := by
  unfold Addr.add
  split
  · rename_i h; subst h; rfl
  · rfl
theorem open_elems {P : Program} {es : List Sh} {e : TypeId} {ab : Nat} (hlen : es.length = P.cellsOf e) :
    ∀ (len ao : Nat), (∀ i, i < len → ∃ cs', w.cells? base ((⟨ab, ao, none⟩ : Addr).add (i * P.cellsOf e)) (P.cellsOf e) = some cs' ∧ Opens E w es cs') →
      ∃ rows : List (List PV), rows.length = len ∧ (∀ r ∈ rows, FitsL es r) ∧ VElems E w (fun b => b < w.heap.size) rows ab ao (P.cellsOf e)
  | 0, ao, _ => ⟨[], rfl, by simp, by simp [VElems]⟩
  | len + 1, ao, h => by
    obtain ⟨cs', h1, ps, f1, v1, s1, _⟩ := h 0 (by omega)
    obtain ⟨rows, g1, g2, g3⟩ := open_elems hlen len (ao + P.cellsOf e) (fun i hi => by
      have := h (i + 1) (by omega)
      rw [add_at] at this ⊢
      rwa [Nat.succ_mul, Nat.add_comm (i * P.cellsOf e), ← Nat.add_assoc] at this)
    obtain ⟨_, c1, c2⟩ := World.cells?_some h1
    refine ⟨ps :: rows, by simp [g1], fun r hr => ?_, ?_⟩
    · rcases List.mem_cons.1 hr with rfl | hr
      · exact f1
      · exact g2 r hr
    · simp only [VElems]
      refine ⟨by rw [FitsL_length f1, hlen], ?_, g3⟩
      have hcell : ∀ i, i < P.cellsOf e → w.cell? ⟨ab, ao + i, none⟩ = cs'[i]? := fun i hi => by
        have := c2 i hi
        rwa [Nat.zero_mul, add_at, add_at, Nat.add_zero] at this
      clear f1 h1 c2 g3
      rw [← c1] at hcell
      have key : ∀ (ps : List PV) (cs' : List Value) (o : Nat), VPs E w (fun b => b < w.heap.size) ps cs' → (∀ v ∈ cs', Scalar v) → (∀ i, i < cs'.length → w.cell? ⟨ab, o + i, none⟩ = cs'[i]?) → VRun E w (fun b => b < w.heap.size) ps ab o := by
        intro ps
        induction ps with
        | nil => intro cs' o _ _ _; simp [VRun]
        | cons p r ih =>
          intro cs' o hv hs hc
          simp only [VPs] at hv
          obtain ⟨u, us, rfl, k1, k2⟩ := hv
          simp only [VRun]
          refine ⟨⟨u, ?_, hs u (by simp), k1⟩, ih us (o + 1) k2 (fun v hv => hs v (by simp [hv])) fun i hi => ?_⟩
          · have := hc 0 (by simp)
            simpa using this
          · have := hc (i + 1) (by simpa using hi)
            rw [show o + (i + 1) = o + 1 + i by omega] at this
            simpa using this
      exact key ps cs' ao v1 s1 hcell

theorem open_sh {P : Program} : ∀ (d : Nat) (t : TypeId) (ss : List Sh), shOf P d t = some ss → ∀ (n : Nat) (cs : List Value) (x : DataW H × List MemPlace), DataW.trod enc P w base spare held n t cs = some x → Spots ss cs → Opens E w ss cs
  | 0, t, ss, hs, _, _, _, _, _ => by simp [shOf] at hs
  | d + 1, t, ss, hs, n, cs, x, h, hsp => by
    simp only [shOf] at hs
    split at hs
    · rename_i ht
      simp at hs; subst hs
      obtain ⟨b, rfl, _⟩ := DataW.trod_bool ht h
      exact ⟨[.bool b], ⟨_, _, rfl, ⟨b, rfl⟩, rfl⟩, by simp [VPs, VP], by simp [Scalar], by simp⟩
    · rename_i k ht
      simp at hs; subst hs
      obtain ⟨m, rfl, _, hw⟩ := DataW.trod_int ht h
      exact ⟨[.int k m], ⟨_, _, rfl, ⟨m, rfl, hw⟩, rfl⟩, by simp [VPs, VP], by simp [Scalar], by simp⟩
    · rename_i ht
      simp at hs; subst hs
      obtain ⟨s, rfl, _, hw⟩ := DataW.trod_string ht h
      exact ⟨[.str s], ⟨_, _, rfl, ⟨s, rfl, hw⟩, rfl⟩, by simp [VPs, VP], by simp [Scalar], by simp⟩
    · rename_i e ht
      split at hs
      · rename_i es he
        split at hs
        · rename_i hc
          simp at hs; subst hs
          obtain ⟨hflat, hlen, hpos⟩ := hc
          rcases DataW.trod_slice ht h with ⟨rfl, _⟩ | ⟨a, len, cap, elems, rest, m, _, rfl, _, hb, hl, hm, hel, hcs, _⟩
          · exact ⟨[.slice []], ⟨_, _, rfl, ⟨[], rfl, by simp⟩, rfl⟩, ⟨_, _, rfl, ⟨none, 0, 0, rfl, rfl, Nat.le_refl _, fun h => by simp at h⟩, rfl⟩, by simp [Scalar], by simp [Sh.flat]⟩
          · have hspot : a.spot = none := by
              rcases hsp with h | h
              · simp [Sh.flat] at h
              · exact h _ (List.mem_singleton.2 rfl) a len cap rfl
            obtain ⟨ab, ao, asp⟩ := a
            simp only at hspot
            subst hspot
            have each : ∀ i, i < len → ∃ cs', w.cells? base ((⟨ab, ao, none⟩ : Addr).add (i * P.cellsOf e)) (P.cellsOf e) = some cs' ∧ Opens E w es cs' := by
              intro i hi
              have h1 := hcs i hi
              have : ∃ y, elems[i]? = some y := ⟨elems[i]'(by omega), by simp [hel, hi]⟩
              obtain ⟨y, hy⟩ := this
              rw [hy, Option.bind_eq_some_iff] at h1
              obtain ⟨cs', hc1, hc2⟩ := h1
              exact ⟨cs', hc1, open_sh d e es he _ _ _ hc2 (.inl hflat)⟩
            obtain ⟨rows, r1, r2, r3⟩ := open_elems hlen len ao each
            refine ⟨[.slice rows], ⟨_, _, rfl, ⟨rows, rfl, r2⟩, rfl⟩, ?_, by simp [Scalar], by simp [Sh.flat]⟩
            simp only [VPs, VP]
            refine ⟨_, _, rfl, ⟨some ⟨ab, ao, none⟩, len, cap, rfl, r1.symm, hl, fun hp => ⟨ab, ao, P.cellsOf e, rfl, ?_, r3⟩⟩, rfl⟩
            obtain ⟨cs', c1, _⟩ := each 0 (by omega)
            have := World.cells?_block c1 (by omega)
            rwa [add_at] at this
        · simp at hs
      · simp at hs
    · rename_i fs ht
      split at hs
      · rename_i ss' hss
        split at hs
        · rename_i hc
          simp at hs; subst hs
          obtain ⟨xs, m, rfl, _, hlen, hxl, hall⟩ := DataW.trod_struct ht h
          have h1 := open_fs (E := E) (cs := cs) (rec := shOf P d) (n := m) (enc := enc) (base := base) (spare := spare) (held := held) (fun t ss cs' x hr hx hsp' => open_sh d t ss hr m cs' x hx hsp') fs.toList 0 ss' hsp hss (fun f hf => by
            obtain ⟨i, hi, rfl⟩ := List.getElem_of_mem hf
            have hi' : i < fs.size := by simpa using hi
            have := hall i fs[i] (by simp [hi'])
            refine ⟨xs[i]'(by omega), ?_⟩
            rw [Array.getElem_toList, this]
            simp [hxl, hi'])
          rwa [hc, ← hlen, List.drop_zero, List.take_length] at h1
        · simp at hs
      · simp at hs
    · rename_i m e ht
      split at hs
      · rename_i es he
        split at hs
        · rename_i hc
          simp at hs; subst hs
          obtain ⟨xs, k, rfl, _, hlen, hxl, hall⟩ := DataW.trod_array ht h
          have h1 := open_rep (E := E) (cs := cs) (es := es) (e := e) (n := k) (enc := enc) (base := base) (spare := spare) (held := held) (fun cs' x hx hsp' => open_sh d e es he k cs' x hx hsp') hc.1 m 0 hsp (fun i hi => by
            have := hall i hi
            rw [Nat.zero_add]
            exact ⟨xs[i]'(by omega), by rw [this]; simp [hxl, hi]⟩)
          rwa [hc.2, ← hlen, Nat.zero_mul, List.drop_zero, List.take_length] at h1
        · simp at hs
      · simp at hs
    · simp at hs

theorem spot_of_cell {r : Reach} {base : Nat} {u : TypeId} {a : Addr} {l c : Nat} (h : Cell.okWide P w r base u (.slice (some a) l c)) : a.spot = none := by
  unfold Cell.okWide at h
  split at h <;> rename_i h2 <;> first | (simp at h2; done) | skip
  unfold Cell.ok at h
  split at h <;> rename_i h3 h4 <;> first | (simp at h4; done) | skip
  all_goals first | exact h.elim | (simp at h4; obtain ⟨rfl, rfl, rfl⟩ := h4; exact h.2.2.2.1)

/-- An argument that is a struct or an array. -/
theorem open_agg {r : Reach} {d : Nat} {t : TypeId} {v : Value} {ss : List Sh} {x : DataW H} {ps : List MemPlace} (hagg : (match P.underlying t with | some (.struct _) => true | some (.array _ _) => true | _ => false) = true)
    (hs : shOf P d t = some ss) (hval : Value.okWide P w r base t v) (h : DataW.Trod enc P w 0 (fun _ => true) true t v x ps) : ∃ l, FitsL ss l ∧ VP E w (fun b => b < w.heap.size) (.agg l) v := by
  obtain ⟨n, h⟩ := h
  have : ∃ cs, v = .agg cs ∧ Row.okWide P w r base t cs := by
    unfold Value.okWide at hval
    split at hagg
    · rename_i hu; rw [hu] at hval; obtain ⟨cs, h1, _, h2⟩ := hval; exact ⟨cs, h1, h2⟩
    · rename_i hu; rw [hu] at hval; obtain ⟨cs, h1, _, h2⟩ := hval; exact ⟨cs, h1, h2⟩
    · simp at hagg
  obtain ⟨cs, rfl, ts, _, _, hcell⟩ := this
  obtain ⟨l, h1, h2, _, _⟩ := open_sh (E := E) d t ss hs n _ _ h (.inr fun v hv a l c hvv => by
    obtain ⟨i, hi, hiv⟩ := List.getElem_of_mem (show v ∈ cs.toList from hv)
    obtain ⟨u, _, h5⟩ := hcell i v (by rw [← Array.getElem?_toList, List.getElem?_eq_getElem hi, hiv])
    rw [hvv] at h5
    exact spot_of_cell h5)
  refine ⟨l, h1, ?_⟩
  simp only [VP]
  exact ⟨cs.toList, by simp, h2⟩

/-- An argument of one cell. -/
theorem open_one {r : Reach} {d : Nat} {t : TypeId} {v : Value} {s : Sh} {x : DataW H} {ps : List MemPlace} (hagg : (match P.underlying t with | some (.struct _) => true | some (.array _ _) => true | _ => false) = false)
    (hs : shOf P d t = some [s]) (hval : Value.okWide P w r base t v) (h : DataW.Trod enc P w 0 (fun _ => true) true t v x ps) : ∃ p, Fits s p ∧ VP E w (fun b => b < w.heap.size) p v := by
  obtain ⟨n, h⟩ := h
  have hc : Cell.okWide P w r base t v := by
    unfold Value.okWide at hval
    split at hval
    · rename_i hu; simp [hu] at hagg
    · rename_i hu; simp [hu] at hagg
    · exact hval
  have hv : v.cells.toList = [v] := by
    cases v <;> first | rfl | skip
    unfold Cell.okWide at hc
    split at hc <;> rename_i h2 <;> first | (simp at h2; done) | skip
    unfold Cell.ok at hc
    split at hc <;> rename_i h3 h4 <;> first | (simp at h4; done) | exact hc.elim
  rw [hv] at h
  obtain ⟨l, h1, h2, _, _⟩ := open_sh (E := E) d t [s] hs n _ _ h (.inr fun u hu a l c hvv => by
    simp only [List.mem_singleton] at hu
    subst hu
    rw [hvv] at hc
    exact spot_of_cell hc)
  simp only [FitsL] at h1
  obtain ⟨p, q, rfl, h3, rfl⟩ := h1
  simp only [VPs] at h2
  obtain ⟨u, us, h4, h5, rfl⟩ := h2
  simp only [List.cons.injEq] at h4
  exact ⟨p, h3, h4.1 ▸ h5⟩
end
end Go.Proofs.YtlgfanbdjigmiaaDoor.Ab
/- Environments and tables out of lists; from a law of the layer to the program's calls. -/
set_option linter.unusedVariables false
set_option linter.unusedSimpArgs false
namespace Go.Proofs.YtlgfanbdjigmiaaDoor.Ab
open Go

def lkN : List (Nat × Nat) → Nat → Option Nat
  | [], _ => none
  | (a, b) :: r, n => cond (Nat.beq a n) (some b) (lkN r n)
def lkR : List (Nat × Nat) → Nat → Option Nat
  | [], _ => none
  | (a, b) :: r, n => cond (Nat.beq b n) (some a) (lkR r n)

/-- An environment: our numbers, the program's. -/
def envOf (P : Program) (fs ts : List (Nat × Nat)) (nt : Nat) (gl : List (Nat × Value)) : Env :=
  ⟨P, fun n => (lkN fs n).getD 1000000, fun n => (lkN ts n).getD (1000000 + n), lkR fs, lkR ts, nt, gl⟩

def okN (fs : List (Nat × Nat)) : Bool := fs.all fun p => Nat.beq ((lkN fs p.1).getD 1000000) p.2
def okT (ts : List (Nat × Nat)) (nt : Nat) : Bool := ts.all (fun p => Nat.beq ((lkN ts p.1).getD (1000000 + p.1)) p.2 && Nat.blt p.1 nt) &&
  (List.range nt).all fun n => (List.range nt).all fun m => Nat.beq n m || !(Nat.beq ((lkN ts n).getD (1000000 + n)) ((lkN ts m).getD (1000000 + m)))

theorem lkR_mem : ∀ {l : List (Nat × Nat)} {f n : Nat}, lkR l f = some n → (n, f) ∈ l
  | [], f, n, h => by simp [lkR] at h
  | (a, b) :: r, f, n, h => by
    simp only [lkR] at h
    by_cases hb : b = f
    · subst hb; rw [beq_self] at h; simp at h; subst h; simp
    · rw [beq_ne hb] at h; exact List.mem_cons_of_mem _ (lkR_mem h)

theorem envOf_ok {P : Program} {fs ts : List (Nat × Nat)} {nt : Nat} {gl : List (Nat × Value)} (h1 : okN fs = true) (h2 : okT ts nt = true) (h3 : P.follows .mixedOrders = true) : (envOf P fs ts nt gl).OK where
  rho := fun f n h => by
    have := List.all_eq_true.1 h1 _ (lkR_mem h)
    exact Nat.eq_of_beq_eq_true this
  tau := fun t n h => by
    unfold okT at h2
    rw [Bool.and_eq_true] at h2
    have := List.all_eq_true.1 h2.1 _ (lkR_mem h)
    rw [Bool.and_eq_true] at this
    exact ⟨Nat.eq_of_beq_eq_true this.1, Nat.le_of_ble_eq_true this.2⟩
  inj := fun n m hn hm h => by
    unfold okT at h2
    rw [Bool.and_eq_true] at h2
    have := List.all_eq_true.1 (List.all_eq_true.1 h2.2 n (List.mem_range.2 hn)) m (List.mem_range.2 hm)
    rw [Bool.or_eq_true] at this
    rcases this with h' | h'
    · exact Nat.eq_of_beq_eq_true h'
    · have h : (lkN ts n).getD (1000000 + n) = (lkN ts m).getD (1000000 + m) := h
      rw [h, beq_self] at h'
      simp at h'
  mixed := h3

abbrev Prm := List AV → Hl → Nat → Option (AV × Hl × Nat)
def lkF : List (Nat × AFunc) → Nat → Option AFunc
  | [], _ => none
  | (a, f) :: r, n => cond (Nat.beq a n) (some f) (lkF r n)
def lkP : List (Nat × Prm) → Nat → Option Prm
  | [], _ => none
  | (a, f) :: r, n => cond (Nat.beq a n) (some f) (lkP r n)
def inL (l : List Nat) (n : Nat) : Bool := l.any fun a => Nat.beq a n
/-- A table out of lists. -/
def tabOf (l : List (Nat × AFunc)) (raw flat own still : List Nat) (ps : List (Nat × Prm)) : Tab := ⟨lkF l, inL raw, inL flat, inL own, inL still, lkP ps⟩

theorem lkF_mem : ∀ {l : List (Nat × AFunc)} {n : Nat} {f : AFunc}, lkF l n = some f → (n, f) ∈ l
  | [], n, f, h => by simp [lkF] at h
  | (a, b) :: r, n, f, h => by
    simp only [lkF] at h
    by_cases hb : a = n
    · subst hb; rw [beq_self] at h; simp at h; subst h; simp
    · rw [beq_ne hb] at h; exact List.mem_cons_of_mem _ (lkF_mem h)
theorem lkP_mem : ∀ {l : List (Nat × Prm)} {n : Nat} {f : Prm}, lkP l n = some f → (n, f) ∈ l
  | [], n, f, h => by simp [lkP] at h
  | (a, b) :: r, n, f, h => by
    simp only [lkP] at h
    by_cases hb : a = n
    · subst hb; rw [beq_self] at h; simp at h; subst h; simp
    · rw [beq_ne hb] at h; exact List.mem_cons_of_mem _ (lkP_mem h)

/-- All of a list's functions are the program's. -/
def TiesL (E : Env) : List (Nat × AFunc) → Prop
  | [] => True
  | (n, f) :: r => cFunc E n = some f ∧ TiesL E r
def PrimsL (E : Env) : List (Nat × Prm) → Prop
  | [] => True
  | (n, g) :: r => (∀ args hp nx v hp' nx', g args hp nx = some (v, hp', nx') → RawC E n args hp nx v hp' nx') ∧ PrimsL E r
theorem TiesL.mem {E : Env} : ∀ {l : List (Nat × AFunc)}, TiesL E l → ∀ {n : Nat} {f : AFunc}, (n, f) ∈ l → cFunc E n = some f
  | (a, b) :: r, h, n, f, hm => by
    rcases List.mem_cons.1 hm with hm | hm
    · simp only [Prod.mk.injEq] at hm
      obtain ⟨rfl, rfl⟩ := hm
      exact h.1
    · exact TiesL.mem h.2 hm
theorem PrimsL.mem {E : Env} : ∀ {l : List (Nat × Prm)}, PrimsL E l → ∀ {n : Nat} {g : Prm}, (n, g) ∈ l → ∀ args hp nx v hp' nx', g args hp nx = some (v, hp', nx') → RawC E n args hp nx v hp' nx'
  | (a, b) :: r, h, n, f, hm => by
    rcases List.mem_cons.1 hm with hm | hm
    · simp only [Prod.mk.injEq] at hm
      obtain ⟨rfl, rfl⟩ := hm
      exact h.1
    · exact PrimsL.mem h.2 hm
theorem tied_of {E : Env} {l : List (Nat × AFunc)} {raw flat own still : List Nat} {ps : List (Nat × Prm)} (h1 : TiesL E l) (h2 : PrimsL E ps) : Tied E (tabOf l raw flat own still ps) where
  fn := fun n f _ h => h1.mem (lkF_mem h)
  prim := fun n g h => h2.mem (lkP_mem h)

/-- From a law to the program's call. -/
theorem law_calls {E : Env} {T : Tab} (hE : E.OK) (hT : Tied E T) {n : Nat} {ps : List PV} (h : Gives T n ps (.bool true)) {w : World} {vs : List Value} (hI : E.inv w) (hv : VPs E w (fun b => b < w.heap.size) ps vs) :
    Calls E.P (E.ρ n) vs.toArray w fun e w' => e = .returned (.bool true) ∧ Go.RowKit.Below w.heap.size w w' := by
  obtain ⟨_, _, o, hc⟩ := h
  obtain ⟨v, hp, nx, h1, h2, _⟩ := callP_spec hc
  have hP := (D_sound hE hT _ _ _ _ _ _ _ h1).pure h2
  refine (hP.2 (fun _ => False) w vs hI (fun b hb => hb.elim) (VPs_mono ⟨fun b hb => ⟨hb, fun h => h⟩, fun _ _ => rfl⟩ _ _ hv)).mono fun e w' hh => ?_
  obtain ⟨u, rfl, h3, h4⟩ := hh
  simp only [VP] at h3
  subst h3
  exact ⟨rfl, h4.os, h4.tape, h4.output, h4.size, fun k hk => h4.block k hk (fun h => h)⟩

/-! ### What the laws are handed -/
def inI (n : Int) : Prop := -9223372036854775808 ≤ n ∧ n ≤ 9223372036854775807
def inU (n : Int) : Prop := 0 ≤ n ∧ n ≤ 18446744073709551615
theorem wf_i64 {n : Int} (h : (Lit.int .i64 n).wf = true) : inI n := by
  simp only [Lit.wf, Bool.and_eq_true, decide_eq_true_eq] at h
  exact h
theorem wf_u64 {n : Int} (h : (Lit.int .u64 n).wf = true) : inU n := by
  simp only [Lit.wf, Bool.and_eq_true, decide_eq_true_eq] at h
  exact h
theorem rows_map {α : Type} {enc : α → List PV} {W : α → Prop} : ∀ {l : List (List PV)}, (∀ e ∈ l, ∃ x, e = enc x ∧ W x) → ∃ xs : List α, l = xs.map enc ∧ ∀ x ∈ xs, W x
  | [], _ => ⟨[], rfl, by simp⟩
  | e :: r, h => by
    obtain ⟨x, rfl, hx⟩ := h e (by simp)
    obtain ⟨xs, rfl, hxs⟩ := rows_map (fun e he => h e (List.mem_cons_of_mem _ he))
    exact ⟨x :: xs, rfl, by simpa using ⟨hx, hxs⟩⟩

def Vec.wf (v : Vec) : Prop := inU v.a ∧ inU v.b ∧ inU v.c ∧ inU v.d
def Node.wf (n : Node) : Prop := inI n.id ∧ inI n.zone ∧ n.cap.wf ∧ n.held.wf
def Load.wf (l : Load) : Prop := inI l.id ∧ inI l.skew ∧ inI l.min ∧ inI l.max
def Pod.wf (p : Pod) : Prop := inI p.id ∧ inI p.load ∧ inI p.prio ∧ p.req.wf ∧ inI p.node
def Want.wf (w : Want) : Prop := inI w.pod ∧ w.req.wf
def Move.wf (m : Move) : Prop := inI m.kind ∧ inI m.pod ∧ inI m.node ∧ inI m.over
def Snap.wf (s : Snap) : Prop := (∀ n ∈ s.nodes, n.wf) ∧ (∀ l ∈ s.loads, l.wf) ∧ ∀ p ∈ s.pods, p.wf
def Spec.wf (x : Spec) : Prop := (∀ w ∈ x.wants, w.wf) ∧ inI x.pre ∧ inI x.shi
def State.wf (t : State) : Prop := (∀ p ∈ t.pods, p.wf) ∧ inI t.pre ∧ inI t.shi

def nodeS : List Sh := [.nu .i64, .nu .i64, .nu .u64, .nu .u64, .nu .u64, .nu .u64, .nu .u64, .nu .u64, .nu .u64, .nu .u64]
def loadS : List Sh := [.nu .i64, .bo, .nu .i64, .nu .i64, .nu .i64]
def podS : List Sh := [.nu .i64, .nu .i64, .nu .i64, .nu .u64, .nu .u64, .nu .u64, .nu .u64, .nu .i64]
def wantS : List Sh := [.nu .i64, .nu .u64, .nu .u64, .nu .u64, .nu .u64, .bo]
def moveS : List Sh := [.nu .i64, .nu .i64, .nu .i64, .nu .i64]

theorem fits_node {e : List PV} (h : FitsL nodeS e) : ∃ n : Node, e = nodeC n ∧ n.wf := by
  simp only [nodeS, FitsL, Fits] at h
  obtain ⟨_, _, rfl, ⟨a, rfl, h1⟩, _, _, rfl, ⟨b, rfl, h2⟩, _, _, rfl, ⟨c, rfl, h3⟩, _, _, rfl, ⟨d, rfl, h4⟩, _, _, rfl, ⟨f, rfl, h5⟩, _, _, rfl, ⟨g, rfl, h6⟩, _, _, rfl, ⟨i, rfl, h7⟩, _, _, rfl, ⟨j, rfl, h8⟩, _, _, rfl, ⟨k, rfl, h9⟩, _, _, rfl, ⟨l, rfl, h10⟩, rfl⟩ := h
  exact ⟨⟨a, b, ⟨c, d, f, g⟩, ⟨i, j, k, l⟩⟩, rfl, wf_i64 h1, wf_i64 h2, ⟨wf_u64 h3, wf_u64 h4, wf_u64 h5, wf_u64 h6⟩, wf_u64 h7, wf_u64 h8, wf_u64 h9, wf_u64 h10⟩
theorem fits_load {e : List PV} (h : FitsL loadS e) : ∃ n : Load, e = loadC n ∧ n.wf := by
  simp only [loadS, FitsL, Fits] at h
  obtain ⟨_, _, rfl, ⟨a, rfl, h1⟩, _, _, rfl, ⟨b, rfl⟩, _, _, rfl, ⟨c, rfl, h3⟩, _, _, rfl, ⟨d, rfl, h4⟩, _, _, rfl, ⟨f, rfl, h5⟩, rfl⟩ := h
  exact ⟨⟨a, b, c, d, f⟩, rfl, wf_i64 h1, wf_i64 h3, wf_i64 h4, wf_i64 h5⟩
theorem fits_pod {e : List PV} (h : FitsL podS e) : ∃ n : Pod, e = podC n ∧ n.wf := by
  simp only [podS, FitsL, Fits] at h
  obtain ⟨_, _, rfl, ⟨a, rfl, h1⟩, _, _, rfl, ⟨b, rfl, h2⟩, _, _, rfl, ⟨c, rfl, h3⟩, _, _, rfl, ⟨d, rfl, h4⟩, _, _, rfl, ⟨f, rfl, h5⟩, _, _, rfl, ⟨g, rfl, h6⟩, _, _, rfl, ⟨i, rfl, h7⟩, _, _, rfl, ⟨j, rfl, h8⟩, rfl⟩ := h
  exact ⟨⟨a, b, c, ⟨d, f, g, i⟩, j⟩, rfl, wf_i64 h1, wf_i64 h2, wf_i64 h3, ⟨wf_u64 h4, wf_u64 h5, wf_u64 h6, wf_u64 h7⟩, wf_i64 h8⟩
theorem fits_want {e : List PV} (h : FitsL wantS e) : ∃ n : Want, e = wantC n ∧ n.wf := by
  simp only [wantS, FitsL, Fits] at h
  obtain ⟨_, _, rfl, ⟨a, rfl, h1⟩, _, _, rfl, ⟨b, rfl, h2⟩, _, _, rfl, ⟨c, rfl, h3⟩, _, _, rfl, ⟨d, rfl, h4⟩, _, _, rfl, ⟨f, rfl, h5⟩, _, _, rfl, ⟨g, rfl⟩, rfl⟩ := h
  exact ⟨⟨a, ⟨b, c, d, f⟩, g⟩, rfl, wf_i64 h1, wf_u64 h2, wf_u64 h3, wf_u64 h4, wf_u64 h5⟩
theorem fits_move {e : List PV} (h : FitsL moveS e) : ∃ n : Move, e = moveC n ∧ n.wf := by
  simp only [moveS, FitsL, Fits] at h
  obtain ⟨_, _, rfl, ⟨a, rfl, h1⟩, _, _, rfl, ⟨b, rfl, h2⟩, _, _, rfl, ⟨c, rfl, h3⟩, _, _, rfl, ⟨d, rfl, h4⟩, rfl⟩ := h
  exact ⟨⟨a, b, c, d⟩, rfl, wf_i64 h1, wf_i64 h2, wf_i64 h3, wf_i64 h4⟩
theorem fits_snap {e : List PV} (h : FitsL [.sl nodeS, .sl loadS, .sl podS] e) : ∃ s : Snap, .agg e = snapP s ∧ s.wf := by
  simp only [FitsL, Fits] at h
  obtain ⟨_, _, rfl, ⟨a, rfl, h1⟩, _, _, rfl, ⟨b, rfl, h2⟩, _, _, rfl, ⟨c, rfl, h3⟩, rfl⟩ := h
  obtain ⟨x, rfl, k1⟩ := rows_map (fun e he => fits_node (h1 e he))
  obtain ⟨y, rfl, k2⟩ := rows_map (fun e he => fits_load (h2 e he))
  obtain ⟨z, rfl, k3⟩ := rows_map (fun e he => fits_pod (h3 e he))
  exact ⟨⟨x, y, z⟩, rfl, k1, k2, k3⟩
theorem fits_spec {e : List PV} (h : FitsL [.sl wantS, .nu .i64, .nu .i64] e) : ∃ s : Spec, .agg e = specP s ∧ s.wf := by
  simp only [FitsL, Fits] at h
  obtain ⟨_, _, rfl, ⟨a, rfl, h1⟩, _, _, rfl, ⟨b, rfl, h2⟩, _, _, rfl, ⟨c, rfl, h3⟩, rfl⟩ := h
  obtain ⟨x, rfl, k1⟩ := rows_map (fun e he => fits_want (h1 e he))
  exact ⟨⟨x, b, c⟩, rfl, k1, wf_i64 h2, wf_i64 h3⟩
theorem fits_state {e : List PV} (h : FitsL [.sl podS, .nu .i64, .nu .i64] e) : ∃ s : State, .agg e = stateP s ∧ s.wf := by
  simp only [FitsL, Fits] at h
  obtain ⟨_, _, rfl, ⟨a, rfl, h1⟩, _, _, rfl, ⟨b, rfl, h2⟩, _, _, rfl, ⟨c, rfl, h3⟩, rfl⟩ := h
  obtain ⟨x, rfl, k1⟩ := rows_map (fun e he => fits_pod (h1 e he))
  exact ⟨⟨x, b, c⟩, rfl, k1, wf_i64 h2, wf_i64 h3⟩
theorem fits_int {p : PV} (h : Fits (.nu .i64) p) : ∃ n, p = .int .i64 n ∧ inI n := by
  simp only [Fits] at h
  obtain ⟨n, rfl, h⟩ := h
  exact ⟨n, rfl, wf_i64 h⟩
end Go.Proofs.YtlgfanbdjigmiaaDoor.Ab
/- Comparisons of errors, run. -/
set_option linter.unusedVariables false
set_option linter.unusedSimpArgs false
namespace Go.Proofs.YtlgfanbdjigmiaaDoor.Ab
open Go
section
variable {P : Program} {w : World} {t : TypeId}
theorem qp_pp (d : Nat) {e : TypeId} {n : Nat} {a : Addr} (h : P.underlying t = some (.pointer e)) (hz : (sizeOf e).run P w = .ok n w) (hn : n ≠ 0) : (Op.equalIn (d + 1) t (.pointer (some a)) (.pointer (some a))).run P w = .ok true w := by
  simp only [Op.equalIn]
  rw [rb (r_underlying h)]
  simp only
  rw [rb hz]
  rw [if_pos hn]
  unfold sameAddr
  simp [run_pure]
theorem qd_ii (d : Nat) {ms u v x y} (h : P.underlying t = some (.interface ms)) (hne : u ≠ v) : (Op.equalIn (d + 1) t (.iface u x) (.iface v y)).run P w = .ok false w := by
  simp only [Op.equalIn]
  rw [rb (r_underlying h)]
  simp only [ne_eq, hne, not_false_eq_true, if_true]
  rfl
theorem beql_of {x y : Value} {b : Bool} (h : (Op.equal t x y).run P w = .ok b w) (h1 : (∀ k n, x ≠ .int k n) ∧ (∀ s, x ≠ .string s) ∧ (∀ k n, x ≠ .float k n) ∧ ∀ k n m, x ≠ .complex k n m) :
    (binOp .eql t x y).run P w = .ok (.bool b) w ∧ (binOp .neq t x y).run P w = .ok (.bool (!b)) w := by
  obtain ⟨h2, h3, h4, h5⟩ := h1
  cases x <;> first | exact absurd rfl (h2 _ _) | exact absurd rfl (h3 _) | exact absurd rfl (h4 _ _) | exact absurd rfl (h5 _ _ _) |
    (constructor
     · simp only [binOp]; rw [rb h]; rfl
     · simp only [binOp]; rw [rb h]; rfl)
/-- Two errors of one type that compares, of two types. -/
theorem ie_same {ms : _} {u : TypeId} {x y : Value} {b : Bool} (h : P.underlying t = some (.interface ms)) (hc : (P.info? u).map (·.comparable) = some true) (hb : (Op.equalIn 9999 u x y).run P w = .ok b w) :
    (binOp .eql t (.iface u x) (.iface u y)).run P w = .ok (.bool b) w ∧ (binOp .neq t (.iface u x) (.iface u y)).run P w = .ok (.bool (!b)) w := by
  refine beql_of ?_ ⟨by simp, by simp, by simp, by simp⟩
  cases hi : P.info? u with
  | none => rw [hi] at hc; cases hc
  | some i =>
    rw [hi] at hc
    exact (qi_ii 9999 h hi (Option.some.inj hc)).trans hb
theorem ie_other {ms : _} {u v : TypeId} {x y : Value} (h : P.underlying t = some (.interface ms)) (hne : u ≠ v) :
    (binOp .eql t (.iface u x) (.iface v y)).run P w = .ok (.bool false) w ∧ (binOp .neq t (.iface u x) (.iface v y)).run P w = .ok (.bool true) w :=
  beql_of (qd_ii 9999 h hne) ⟨by simp, by simp, by simp, by simp⟩
theorem ie_int {k : IntKind} {n m : Int} (h : P.underlying t = some (.int k)) : (Op.equalIn 9999 t (.int k n) (.int k m)).run P w = .ok (decide (n = m)) w := by
  have := run_equalIn_int w 9998 t k k n m h
  exact this
end
end Go.Proofs.YtlgfanbdjigmiaaDoor.Ab
/- The laws' Is: what its calls do, out of its walk. -/
set_option linter.unusedVariables false
set_option linter.unusedSimpArgs false
namespace Go.Proofs.YtlgfanbdjigmiaaDoor.Ab
open Go

/-- Is(err, at, code). -/
def isP (args : List AV) (hp : Hl) (nx : Nat) : Option (AV × Hl × Nat) :=
  match args with
  | [.pv .nili, .pv (.int .i64 _), .pv (.int .i64 _)] => some (.pv (.bool false), hp, nx)
  | [.pv (.iface 0 (.int .i64 _)), .pv (.int .i64 _), .pv (.int .i64 _)] => some (.pv (.bool false), hp, nx)
  | [.pv (.iface 1 (.cptr [.int .i64 a, .int .i64 n] 0)), .pv (.int .i64 x), .pv (.int .i64 y)] => some (.pv (.bool (decide (a = x) && decide (n = y))), hp, nx)
  | _ => none

theorem keeps_of {w w' : World} (h : Go.RowKit.Below w.heap.size w w') : Keeps (fun _ => False) w w' := ⟨h.os, h.tape, h.output, h.size, fun b hb _ => h.block b hb⟩

theorem isP_raw {E : Env} {n : Nat} {g : Nat × Value} (hent : Ent E n) (hg : g ∈ E.gl)
    (h1 : ∀ (x y : Int) (w : World), Calls E.P (E.ρ n) #[.nilIface, .int .i64 x, .int .i64 y] w fun e w' => e = .returned (.bool false) ∧ Go.RowKit.Below w.heap.size w w')
    (h2 : ∀ (m x y : Int) (w : World), w.cell? ⟨g.1, 0, none⟩ = some g.2 → Calls E.P (E.ρ n) #[.iface (E.τ 0) (.int .i64 m), .int .i64 x, .int .i64 y] w fun e w' => e = .returned (.bool false) ∧ Go.RowKit.Below w.heap.size w w')
    (h3 : ∀ (b o : Nat) (a m x y : Int) (w : World), w.cell? ⟨g.1, 0, none⟩ = some g.2 → w.cell? ⟨b, o, none⟩ = some (.int .i64 a) → w.cell? ⟨b, o + 1, none⟩ = some (.int .i64 m) →
      Calls E.P (E.ρ n) #[.iface (E.τ 1) (.pointer (some ⟨b, o, none⟩)), .int .i64 x, .int .i64 y] w fun e w' => e = .returned (.bool (decide (a = x) && decide (m = y))) ∧ Go.RowKit.Below w.heap.size w w')
    (args : List AV) (hp : Hl) (nx : Nat) (v : AV) (hp' : Hl) (nx' : Nat) (h : isP args hp nx = some (v, hp', nx')) : RawC E n args hp nx v hp' nx' := by
  refine ⟨hent, fun X M F a w vs hX R hv => ?_⟩
  subst hX
  have hc := (R.inv g hg).2
  have fin : ∀ {b : Bool}, v = .pv (.bool b) → hp' = hp → nx' = nx → ∀ {e : Ending} {w' : World}, (e = .returned (.bool b) ∧ Go.RowKit.Below w.heap.size w w') →
      ∃ u M', e = .returned u ∧ Rel X M' F (blkAt hp') (fun i => i < nx') a w' ∧ VA (viewOf X w' (fun i => i < nx') M' (blkAt hp')) v u := by
    rintro b rfl rfl rfl e w' ⟨rfl, hb⟩
    exact ⟨_, M, rfl, R.grown (keeps_of hb), by simp only [VA, VP]⟩
  unfold isP at h
  split at h
  · rename_i x y
    simp only [Option.some.injEq, Prod.mk.injEq] at h
    obtain ⟨rfl, rfl, rfl⟩ := h
    simp only [VAs, VA, VP] at hv
    obtain ⟨_, _, rfl, rfl, _, _, rfl, rfl, _, _, rfl, rfl, rfl⟩ := hv
    exact (h1 x y w).mono fun e w' hh => fin rfl rfl rfl hh
  · rename_i m x y
    simp only [Option.some.injEq, Prod.mk.injEq] at h
    obtain ⟨rfl, rfl, rfl⟩ := h
    simp only [VAs, VA, VP] at hv
    obtain ⟨_, _, rfl, ⟨_, rfl, rfl⟩, _, _, rfl, rfl, _, _, rfl, rfl, rfl⟩ := hv
    exact (h2 m x y w hc).mono fun e w' hh => fin rfl rfl rfl hh
  · rename_i a' m x y
    simp only [Option.some.injEq, Prod.mk.injEq] at h
    obtain ⟨rfl, rfl, rfl⟩ := h
    simp only [VAs, VA, VP, VRun] at hv
    obtain ⟨_, _, rfl, ⟨_, rfl, b, o, rfl, _, ⟨_, c1, _, rfl⟩, ⟨_, c2, _, rfl⟩, _⟩, _, _, rfl, rfl, _, _, rfl, rfl, rfl⟩ := hv
    exact (h3 b o a' m x y w hc c1 c2).mono fun e w' hh => fin rfl rfl rfl hh
  · simp at h

/-- What Is tells. -/
def isV (at' code : Int) : PV → Option Bool
  | .nili => some false
  | .iface 0 (.int .i64 _) => some false
  | .iface 1 (.cptr [.int .i64 a, .int .i64 n] 0) => some (decide (a = at') && decide (n = code))
  | _ => none
structure StdP (T : Tab) (n : Nat) (g : Prm) : Prop where
  prim : T.prim n = some g
  raw : T.raw n = false
  own : T.own n = false
theorem is_ok {T : Tab} {n : Nat} (S : StdP T n isP) {e : PV} {x y : Int} {b : Bool} (h : isV x y e = some b) : Gives T n [e, .int .i64 x, .int .i64 y] (.bool b) := by
  refine ⟨S.raw, S.own, none, ?_⟩
  have : isP (pvs [e, .int .i64 x, .int .i64 y]) [] 0 = some (.pv (.bool b), [], 0) := by
    unfold isV at h
    split at h
    all_goals first | (simp at h; done) | skip
    all_goals
      simp only [Option.some.injEq] at h
      subst h
      simp only [pvs, isP]
  unfold callP
  rw [D_prim S.prim this]
  simp only [snapV, snapR, ownSz]
end Go.Proofs.YtlgfanbdjigmiaaDoor.Ab
/- Layer 9 (budget): contracts. -/
set_option linter.unusedVariables false
set_option linter.unusedSimpArgs false
namespace Go.Proofs.YtlgfanbdjigmiaaDoor.Ab
open Go

section
variable {T : Tab}

/-- How many pods of a load are somewhere. -/
def sizeN (load : Int) : List Pod → Nat
  | [] => 0
  | p :: r => (if p.load = load ∧ p.node ≠ 0 then 1 else 0) + sizeN load r
theorem sizeN_le (load : Int) : ∀ l, sizeN load l ≤ l.length
  | [] => Nat.le_refl _
  | p :: r => by
    have := sizeN_le load r
    simp only [sizeN, List.length_cons]
    split <;> omega

theorem size_loop (load : Int) (pods : List Pod) (hl : pods.length ≤ 2 ^ 30) (Q : Exit → St → Prop) (total : Nat) (hQ : ∀ fr hp nx, look fr 5 = .pv (.int .i64 total) → Q (.exit 0) ⟨fr, hp, nx⟩) :
    ∀ (rest : List Pod) (i k : Nat), pods.drop i = rest → i ≤ pods.length → k ≤ i → k + sizeN load rest = total → ∀ (fr : List (Nat × AV)) (hp : Hl) (nx : Nat), look fr 5 = .pv (.int .i64 k) → look fr 1 = .pv (.int .i64 load) →
      look fr 9 = .pv (.slice (pods.map podC)) → look fr 10 = .pv (.int .i64 pods.length) → look fr 11 = .pv (.int .i64 i) → Wp T false (.loop f71l0) ⟨fr, hp, nx⟩ Q := by
  intro rest
  induction rest with
  | nil =>
    intro i k hd hi hk ht fr hp nx h5 h1 h9 h10 h11
    have hlen := drop_nil hd hi
    simp only [sizeN, Nat.add_zero] at ht
    subst ht
    rw [Wp_loop, Wp_eq f71l0.eq_1]
    simp only [Wp_seq, Wp_ops, Wp_cond, Wp_skip, Wp_ret, Wp_exit, Wp_block, WpO_cons, WpO_nil, opQ, evOp, evO, evOs, evQ_some, guardV, guardQ_true, guardQ_false, boolQ_true, boolQ_false, argsA, pvs, putS, cellsOf, scals, scal, seqQ_normal, seqQ_ret, seqQ_exit, blkQ_normal, blkQ_ret, blkQ_exit, look_if, blkAt_if, if_true, if_false, Nat.reduceEqDiff, Nat.reduceAdd, true_implies, reduceCtorEq, false_implies, and_true, true_and, List.nil_append, List.cons_append, Bool.and_self, Nat.zero_add, Nat.add_zero, fieldA, nonNil, cellsAt, loadV_one, loadV_pvs, loadV_cons, mkAgg, allPV, List.drop_zero, List.drop_succ_cons, List.take_succ_cons, List.take_zero, List.length_cons, List.length_nil, Nat.beq_eq, storeB, patchL, beq_self_eq_true, ge_iff_le, gt_iff_lt, Int.reduceNeg, Int.reduceLE, Int.reduceLT, Int.reduceEq, extractV, List.getElem?_cons_zero, List.getElem?_cons_succ, mkAgg, Nat.add_eq_left, Nat.left_eq_add, Nat.one_ne_zero, ble_dec, beq_dec, decide_eq_true_eq, Nat.reduceLeDiff, Nat.le_refl, fillA, pureVs, pureV, beq_int, bne_int, Int.natCast_inj, eq_self, eqV, eqB, decide_true, decide_false, List.length_map, Int.toNat_natCast, List.getElem?_map, Option.map_some, Option.map_none, Int.natCast_nonneg, Option.some.injEq, lenV, binV, intBin, intV, idxA, ne_eq, not_true_eq_false, not_false_eq_true, List.drop, List.take, RetP, retP, resV, resOne, snapV, snapVs, snapR, snapRs, ownSz, pickV, cond_true, cond_false, bTT, bTF, bFT, bFF, Bool.not_true, Bool.not_false, AO.isC, Bool.or_true, Bool.true_or, Bool.or_false, Bool.false_or, WpD_cons, WpD_nil, opD, evD_some, guardD_true, guardD_false, h5, h1, h9, h10, h11, hlen, Int.lt_irrefl]
    exact hQ _ _ _ (by simp only [look_if, Nat.reduceEqDiff, if_false, h5])
  | cons p r ih =>
    intro i k hd hi hk ht fr hp nx h5 h1 h9 h10 h11
    obtain ⟨hget, hlt, hw, hd', hi', hb⟩ := drop_cons hd hl
    have hwk : IntKind.i64.wrap ((k : Int) + 1) = ((k + 1 : Nat) : Int) := by rw [wrap6] <;> omega
    rw [Wp_loop, Wp_eq f71l0.eq_1]
    by_cases hp1 : p.load = load
    · by_cases hp2 : p.node = 0
      · simp only [Wp_seq, Wp_ops, Wp_cond, Wp_skip, Wp_ret, Wp_exit, Wp_block, WpO_cons, WpO_nil, opQ, evOp, evO, evOs, evQ_some, guardV, guardQ_true, guardQ_false, boolQ_true, boolQ_false, argsA, pvs, putS, cellsOf, scals, scal, seqQ_normal, seqQ_ret, seqQ_exit, blkQ_normal, blkQ_ret, blkQ_exit, look_if, blkAt_if, if_true, if_false, Nat.reduceEqDiff, Nat.reduceAdd, true_implies, reduceCtorEq, false_implies, and_true, true_and, List.nil_append, List.cons_append, Bool.and_self, Nat.zero_add, Nat.add_zero, fieldA, nonNil, cellsAt, loadV_one, loadV_pvs, loadV_cons, mkAgg, allPV, List.drop_zero, List.drop_succ_cons, List.take_succ_cons, List.take_zero, List.length_cons, List.length_nil, Nat.beq_eq, storeB, patchL, beq_self_eq_true, ge_iff_le, gt_iff_lt, Int.reduceNeg, Int.reduceLE, Int.reduceLT, Int.reduceEq, extractV, List.getElem?_cons_zero, List.getElem?_cons_succ, mkAgg, Nat.add_eq_left, Nat.left_eq_add, Nat.one_ne_zero, ble_dec, beq_dec, decide_eq_true_eq, Nat.reduceLeDiff, Nat.le_refl, fillA, pureVs, pureV, beq_int, bne_int, Int.natCast_inj, eq_self, eqV, eqB, decide_true, decide_false, List.length_map, Int.toNat_natCast, List.getElem?_map, Option.map_some, Option.map_none, Int.natCast_nonneg, Option.some.injEq, lenV, binV, intBin, intV, idxA, ne_eq, not_true_eq_false, not_false_eq_true, List.drop, List.take, RetP, retP, resV, resOne, snapV, snapVs, snapR, snapRs, ownSz, pickV, cond_true, cond_false, bTT, bTF, bFT, bFF, Bool.not_true, Bool.not_false, AO.isC, Bool.or_true, Bool.true_or, Bool.or_false, Bool.false_or, WpD_cons, WpD_nil, opD, evD_some, guardD_true, guardD_false, h5, h1, h9, h10, h11, hlt, hget, podC, hp1, hp2, hw]
        refine ih (i + 1) k hd' hi' (by omega) (by simpa [sizeN, hp2] using ht) _ _ _ ?_ ?_ ?_ ?_ ?_
        all_goals simp only [look_if, Nat.reduceEqDiff, if_true, if_false, h5, h1, h9, h10]
      · simp only [Wp_seq, Wp_ops, Wp_cond, Wp_skip, Wp_ret, Wp_exit, Wp_block, WpO_cons, WpO_nil, opQ, evOp, evO, evOs, evQ_some, guardV, guardQ_true, guardQ_false, boolQ_true, boolQ_false, argsA, pvs, putS, cellsOf, scals, scal, seqQ_normal, seqQ_ret, seqQ_exit, blkQ_normal, blkQ_ret, blkQ_exit, look_if, blkAt_if, if_true, if_false, Nat.reduceEqDiff, Nat.reduceAdd, true_implies, reduceCtorEq, false_implies, and_true, true_and, List.nil_append, List.cons_append, Bool.and_self, Nat.zero_add, Nat.add_zero, fieldA, nonNil, cellsAt, loadV_one, loadV_pvs, loadV_cons, mkAgg, allPV, List.drop_zero, List.drop_succ_cons, List.take_succ_cons, List.take_zero, List.length_cons, List.length_nil, Nat.beq_eq, storeB, patchL, beq_self_eq_true, ge_iff_le, gt_iff_lt, Int.reduceNeg, Int.reduceLE, Int.reduceLT, Int.reduceEq, extractV, List.getElem?_cons_zero, List.getElem?_cons_succ, mkAgg, Nat.add_eq_left, Nat.left_eq_add, Nat.one_ne_zero, ble_dec, beq_dec, decide_eq_true_eq, Nat.reduceLeDiff, Nat.le_refl, fillA, pureVs, pureV, beq_int, bne_int, Int.natCast_inj, eq_self, eqV, eqB, decide_true, decide_false, List.length_map, Int.toNat_natCast, List.getElem?_map, Option.map_some, Option.map_none, Int.natCast_nonneg, Option.some.injEq, lenV, binV, intBin, intV, idxA, ne_eq, not_true_eq_false, not_false_eq_true, List.drop, List.take, RetP, retP, resV, resOne, snapV, snapVs, snapR, snapRs, ownSz, pickV, cond_true, cond_false, bTT, bTF, bFT, bFF, Bool.not_true, Bool.not_false, AO.isC, Bool.or_true, Bool.true_or, Bool.or_false, Bool.false_or, WpD_cons, WpD_nil, opD, evD_some, guardD_true, guardD_false, h5, h1, h9, h10, h11, hlt, hget, podC, hp1, hp2, hw, hwk]
        refine ih (i + 1) (k + 1) hd' hi' (by omega) (by simp [sizeN, hp1, hp2] at ht; omega) _ _ _ ?_ ?_ ?_ ?_ ?_
        all_goals simp only [look_if, Nat.reduceEqDiff, if_true, if_false, h5, h1, h9, h10]
    · simp only [Wp_seq, Wp_ops, Wp_cond, Wp_skip, Wp_ret, Wp_exit, Wp_block, WpO_cons, WpO_nil, opQ, evOp, evO, evOs, evQ_some, guardV, guardQ_true, guardQ_false, boolQ_true, boolQ_false, argsA, pvs, putS, cellsOf, scals, scal, seqQ_normal, seqQ_ret, seqQ_exit, blkQ_normal, blkQ_ret, blkQ_exit, look_if, blkAt_if, if_true, if_false, Nat.reduceEqDiff, Nat.reduceAdd, true_implies, reduceCtorEq, false_implies, and_true, true_and, List.nil_append, List.cons_append, Bool.and_self, Nat.zero_add, Nat.add_zero, fieldA, nonNil, cellsAt, loadV_one, loadV_pvs, loadV_cons, mkAgg, allPV, List.drop_zero, List.drop_succ_cons, List.take_succ_cons, List.take_zero, List.length_cons, List.length_nil, Nat.beq_eq, storeB, patchL, beq_self_eq_true, ge_iff_le, gt_iff_lt, Int.reduceNeg, Int.reduceLE, Int.reduceLT, Int.reduceEq, extractV, List.getElem?_cons_zero, List.getElem?_cons_succ, mkAgg, Nat.add_eq_left, Nat.left_eq_add, Nat.one_ne_zero, ble_dec, beq_dec, decide_eq_true_eq, Nat.reduceLeDiff, Nat.le_refl, fillA, pureVs, pureV, beq_int, bne_int, Int.natCast_inj, eq_self, eqV, eqB, decide_true, decide_false, List.length_map, Int.toNat_natCast, List.getElem?_map, Option.map_some, Option.map_none, Int.natCast_nonneg, Option.some.injEq, lenV, binV, intBin, intV, idxA, ne_eq, not_true_eq_false, not_false_eq_true, List.drop, List.take, RetP, retP, resV, resOne, snapV, snapVs, snapR, snapRs, ownSz, pickV, cond_true, cond_false, bTT, bTF, bFT, bFF, Bool.not_true, Bool.not_false, AO.isC, Bool.or_true, Bool.true_or, Bool.or_false, Bool.false_or, WpD_cons, WpD_nil, opD, evD_some, guardD_true, guardD_false, h5, h1, h9, h10, h11, hlt, hget, podC, hp1, hw]
      refine ih (i + 1) k hd' hi' (by omega) (by simpa [sizeN, hp1] using ht) _ _ _ ?_ ?_ ?_ ?_ ?_
      all_goals simp only [look_if, Nat.reduceEqDiff, if_true, if_false, h5, h1, h9, h10]
theorem size_ok (h71 : Std T 71 f71) (t : State) (load : Int) (h : t.pods.length ≤ 2 ^ 30) : Gives T 71 [stateP t, .int .i64 load] (.int .i64 (sizeN load t.pods)) := by
  refine gives h71 rfl ?_
  simp only [f71, Wp_seq, Wp_ops, Wp_cond, Wp_skip, Wp_ret, Wp_exit, Wp_block, WpO_cons, WpO_nil, opQ, evOp, evO, evOs, evQ_some, guardV, guardQ_true, guardQ_false, boolQ_true, boolQ_false, argsA, pvs, putS, cellsOf, scals, scal, seqQ_normal, seqQ_ret, seqQ_exit, blkQ_normal, blkQ_ret, blkQ_exit, look_if, blkAt_if, if_true, if_false, Nat.reduceEqDiff, Nat.reduceAdd, true_implies, reduceCtorEq, false_implies, and_true, true_and, List.nil_append, List.cons_append, Bool.and_self, Nat.zero_add, Nat.add_zero, fieldA, nonNil, cellsAt, loadV_one, loadV_pvs, loadV_cons, mkAgg, allPV, List.drop_zero, List.drop_succ_cons, List.take_succ_cons, List.take_zero, List.length_cons, List.length_nil, Nat.beq_eq, storeB, patchL, beq_self_eq_true, ge_iff_le, gt_iff_lt, Int.reduceNeg, Int.reduceLE, Int.reduceLT, Int.reduceEq, extractV, List.getElem?_cons_zero, List.getElem?_cons_succ, mkAgg, Nat.add_eq_left, Nat.left_eq_add, Nat.one_ne_zero, ble_dec, beq_dec, decide_eq_true_eq, Nat.reduceLeDiff, Nat.le_refl, fillA, pureVs, pureV, beq_int, bne_int, Int.natCast_inj, eq_self, eqV, eqB, decide_true, decide_false, List.length_map, Int.toNat_natCast, List.getElem?_map, Option.map_some, Option.map_none, Int.natCast_nonneg, Option.some.injEq, lenV, binV, intBin, intV, idxA, ne_eq, not_true_eq_false, not_false_eq_true, List.drop, List.take, RetP, retP, resV, resOne, snapV, snapVs, snapR, snapRs, ownSz, pickV, cond_true, cond_false, bTT, bTF, bFT, bFF, Bool.not_true, Bool.not_false, AO.isC, Bool.or_true, Bool.true_or, Bool.or_false, Bool.false_or, WpD_cons, WpD_nil, opD, evD_some, guardD_true, guardD_false, stateP]
  refine size_loop load t.pods h _ (sizeN load t.pods) (fun fr hp nx h5 => ?_) t.pods 0 0 rfl (Nat.zero_le _) (Nat.le_refl _) (Nat.zero_add _) _ _ _ rfl rfl rfl rfl rfl
  simp only [Wp_seq, Wp_ops, Wp_cond, Wp_skip, Wp_ret, Wp_exit, Wp_block, WpO_cons, WpO_nil, opQ, evOp, evO, evOs, evQ_some, guardV, guardQ_true, guardQ_false, boolQ_true, boolQ_false, argsA, pvs, putS, cellsOf, scals, scal, seqQ_normal, seqQ_ret, seqQ_exit, blkQ_normal, blkQ_ret, blkQ_exit, look_if, blkAt_if, if_true, if_false, Nat.reduceEqDiff, Nat.reduceAdd, true_implies, reduceCtorEq, false_implies, and_true, true_and, List.nil_append, List.cons_append, Bool.and_self, Nat.zero_add, Nat.add_zero, fieldA, nonNil, cellsAt, loadV_one, loadV_pvs, loadV_cons, mkAgg, allPV, List.drop_zero, List.drop_succ_cons, List.take_succ_cons, List.take_zero, List.length_cons, List.length_nil, Nat.beq_eq, storeB, patchL, beq_self_eq_true, ge_iff_le, gt_iff_lt, Int.reduceNeg, Int.reduceLE, Int.reduceLT, Int.reduceEq, extractV, List.getElem?_cons_zero, List.getElem?_cons_succ, mkAgg, Nat.add_eq_left, Nat.left_eq_add, Nat.one_ne_zero, ble_dec, beq_dec, decide_eq_true_eq, Nat.reduceLeDiff, Nat.le_refl, fillA, pureVs, pureV, beq_int, bne_int, Int.natCast_inj, eq_self, eqV, eqB, decide_true, decide_false, List.length_map, Int.toNat_natCast, List.getElem?_map, Option.map_some, Option.map_none, Int.natCast_nonneg, Option.some.injEq, lenV, binV, intBin, intV, idxA, ne_eq, not_true_eq_false, not_false_eq_true, List.drop, List.take, RetP, retP, resV, resOne, snapV, snapVs, snapR, snapRs, ownSz, pickV, cond_true, cond_false, bTT, bTF, bFT, bFF, Bool.not_true, Bool.not_false, AO.isC, Bool.or_true, Bool.true_or, Bool.or_false, Bool.false_or, WpD_cons, WpD_nil, opD, evD_some, guardD_true, guardD_false, h5]

theorem size2_loop (load : Int) (t : State) (hl : t.pods.length ≤ 2 ^ 30) (Q : Exit → St → Prop) (total : Nat) (hQ : ∀ fr hp nx, look fr 5 = .pv (.int .i64 total) → Q (.exit 0) ⟨fr, hp, nx⟩) :
    ∀ (rest : List Pod) (i k : Nat), t.pods.drop i = rest → i ≤ t.pods.length → k ≤ i → k + sizeN load rest = total → ∀ (fr : List (Nat × AV)) (hp : Hl) (nx : Nat), look fr 5 = .pv (.int .i64 k) → look fr 1 = .pv (.int .i64 load) →
      look fr 2 = .ptr 0 0 0 → blkAt hp 0 = .var [.pv (.slice (t.pods.map podC)), .pv (.int .i64 t.pre), .pv (.int .i64 t.shi)] → look fr 6 = .pv (.int .i64 i) → Wp T false (.loop f176l0) ⟨fr, hp, nx⟩ Q := by
  intro rest
  induction rest with
  | nil =>
    intro i k hd hi hk ht fr hp nx h5 h1 h2 b0 h6
    have hlen := drop_nil hd hi
    simp only [sizeN, Nat.add_zero] at ht
    subst ht
    rw [Wp_loop, Wp_eq f176l0.eq_1]
    simp only [Wp_seq, Wp_ops, Wp_cond, Wp_skip, Wp_ret, Wp_exit, Wp_block, WpO_cons, WpO_nil, opQ, evOp, evO, evOs, evQ_some, guardV, guardQ_true, guardQ_false, boolQ_true, boolQ_false, argsA, pvs, putS, cellsOf, scals, scal, seqQ_normal, seqQ_ret, seqQ_exit, blkQ_normal, blkQ_ret, blkQ_exit, look_if, blkAt_if, if_true, if_false, Nat.reduceEqDiff, Nat.reduceAdd, true_implies, reduceCtorEq, false_implies, and_true, true_and, List.nil_append, List.cons_append, Bool.and_self, Nat.zero_add, Nat.add_zero, fieldA, nonNil, cellsAt, loadV_one, loadV_pvs, loadV_cons, mkAgg, allPV, List.drop_zero, List.drop_succ_cons, List.take_succ_cons, List.take_zero, List.length_cons, List.length_nil, Nat.beq_eq, storeB, patchL, beq_self_eq_true, ge_iff_le, gt_iff_lt, Int.reduceNeg, Int.reduceLE, Int.reduceLT, Int.reduceEq, extractV, List.getElem?_cons_zero, List.getElem?_cons_succ, mkAgg, Nat.add_eq_left, Nat.left_eq_add, Nat.one_ne_zero, ble_dec, beq_dec, decide_eq_true_eq, Nat.reduceLeDiff, Nat.le_refl, fillA, pureVs, pureV, beq_int, bne_int, Int.natCast_inj, eq_self, eqV, eqB, decide_true, decide_false, List.length_map, Int.toNat_natCast, List.getElem?_map, Option.map_some, Option.map_none, Int.natCast_nonneg, Option.some.injEq, lenV, binV, intBin, intV, idxA, ne_eq, not_true_eq_false, not_false_eq_true, List.drop, List.take, RetP, retP, resV, resOne, snapV, snapVs, snapR, snapRs, ownSz, pickV, cond_true, cond_false, bTT, bTF, bFT, bFF, Bool.not_true, Bool.not_false, AO.isC, Bool.or_true, Bool.true_or, Bool.or_false, Bool.false_or, WpD_cons, WpD_nil, opD, evD_some, guardD_true, guardD_false, h5, h1, h2, b0, h6, hlen, Int.lt_irrefl]
    exact hQ _ _ _ (by simp only [look_if, Nat.reduceEqDiff, if_false, h5])
  | cons p r ih =>
    intro i k hd hi hk ht fr hp nx h5 h1 h2 b0 h6
    obtain ⟨hget, hlt, hw, hd', hi', hb⟩ := drop_cons hd hl
    have hwk : IntKind.i64.wrap ((k : Int) + 1) = ((k + 1 : Nat) : Int) := by rw [wrap6] <;> omega
    rw [Wp_loop, Wp_eq f176l0.eq_1]
    by_cases hp1 : p.load = load
    · by_cases hp2 : p.node = 0
      · simp only [Wp_seq, Wp_ops, Wp_cond, Wp_skip, Wp_ret, Wp_exit, Wp_block, WpO_cons, WpO_nil, opQ, evOp, evO, evOs, evQ_some, guardV, guardQ_true, guardQ_false, boolQ_true, boolQ_false, argsA, pvs, putS, cellsOf, scals, scal, seqQ_normal, seqQ_ret, seqQ_exit, blkQ_normal, blkQ_ret, blkQ_exit, look_if, blkAt_if, if_true, if_false, Nat.reduceEqDiff, Nat.reduceAdd, true_implies, reduceCtorEq, false_implies, and_true, true_and, List.nil_append, List.cons_append, Bool.and_self, Nat.zero_add, Nat.add_zero, fieldA, nonNil, cellsAt, loadV_one, loadV_pvs, loadV_cons, mkAgg, allPV, List.drop_zero, List.drop_succ_cons, List.take_succ_cons, List.take_zero, List.length_cons, List.length_nil, Nat.beq_eq, storeB, patchL, beq_self_eq_true, ge_iff_le, gt_iff_lt, Int.reduceNeg, Int.reduceLE, Int.reduceLT, Int.reduceEq, extractV, List.getElem?_cons_zero, List.getElem?_cons_succ, mkAgg, Nat.add_eq_left, Nat.left_eq_add, Nat.one_ne_zero, ble_dec, beq_dec, decide_eq_true_eq, Nat.reduceLeDiff, Nat.le_refl, fillA, pureVs, pureV, beq_int, bne_int, Int.natCast_inj, eq_self, eqV, eqB, decide_true, decide_false, List.length_map, Int.toNat_natCast, List.getElem?_map, Option.map_some, Option.map_none, Int.natCast_nonneg, Option.some.injEq, lenV, binV, intBin, intV, idxA, ne_eq, not_true_eq_false, not_false_eq_true, List.drop, List.take, RetP, retP, resV, resOne, snapV, snapVs, snapR, snapRs, ownSz, pickV, cond_true, cond_false, bTT, bTF, bFT, bFF, Bool.not_true, Bool.not_false, AO.isC, Bool.or_true, Bool.true_or, Bool.or_false, Bool.false_or, WpD_cons, WpD_nil, opD, evD_some, guardD_true, guardD_false, h5, h1, h2, b0, h6, hlt, hget, podC, hp1, hp2, hw]
        refine ih (i + 1) k hd' hi' (by omega) (by simpa [sizeN, hp2] using ht) _ _ _ ?_ ?_ ?_ b0 ?_
        all_goals simp only [look_if, Nat.reduceEqDiff, if_true, if_false, h5, h1, h2]
      · simp only [Wp_seq, Wp_ops, Wp_cond, Wp_skip, Wp_ret, Wp_exit, Wp_block, WpO_cons, WpO_nil, opQ, evOp, evO, evOs, evQ_some, guardV, guardQ_true, guardQ_false, boolQ_true, boolQ_false, argsA, pvs, putS, cellsOf, scals, scal, seqQ_normal, seqQ_ret, seqQ_exit, blkQ_normal, blkQ_ret, blkQ_exit, look_if, blkAt_if, if_true, if_false, Nat.reduceEqDiff, Nat.reduceAdd, true_implies, reduceCtorEq, false_implies, and_true, true_and, List.nil_append, List.cons_append, Bool.and_self, Nat.zero_add, Nat.add_zero, fieldA, nonNil, cellsAt, loadV_one, loadV_pvs, loadV_cons, mkAgg, allPV, List.drop_zero, List.drop_succ_cons, List.take_succ_cons, List.take_zero, List.length_cons, List.length_nil, Nat.beq_eq, storeB, patchL, beq_self_eq_true, ge_iff_le, gt_iff_lt, Int.reduceNeg, Int.reduceLE, Int.reduceLT, Int.reduceEq, extractV, List.getElem?_cons_zero, List.getElem?_cons_succ, mkAgg, Nat.add_eq_left, Nat.left_eq_add, Nat.one_ne_zero, ble_dec, beq_dec, decide_eq_true_eq, Nat.reduceLeDiff, Nat.le_refl, fillA, pureVs, pureV, beq_int, bne_int, Int.natCast_inj, eq_self, eqV, eqB, decide_true, decide_false, List.length_map, Int.toNat_natCast, List.getElem?_map, Option.map_some, Option.map_none, Int.natCast_nonneg, Option.some.injEq, lenV, binV, intBin, intV, idxA, ne_eq, not_true_eq_false, not_false_eq_true, List.drop, List.take, RetP, retP, resV, resOne, snapV, snapVs, snapR, snapRs, ownSz, pickV, cond_true, cond_false, bTT, bTF, bFT, bFF, Bool.not_true, Bool.not_false, AO.isC, Bool.or_true, Bool.true_or, Bool.or_false, Bool.false_or, WpD_cons, WpD_nil, opD, evD_some, guardD_true, guardD_false, h5, h1, h2, b0, h6, hlt, hget, podC, hp1, hp2, hw, hwk]
        refine ih (i + 1) (k + 1) hd' hi' (by omega) (by simp [sizeN, hp1, hp2] at ht; omega) _ _ _ ?_ ?_ ?_ b0 ?_
        all_goals simp only [look_if, Nat.reduceEqDiff, if_true, if_false, h5, h1, h2]
    · simp only [Wp_seq, Wp_ops, Wp_cond, Wp_skip, Wp_ret, Wp_exit, Wp_block, WpO_cons, WpO_nil, opQ, evOp, evO, evOs, evQ_some, guardV, guardQ_true, guardQ_false, boolQ_true, boolQ_false, argsA, pvs, putS, cellsOf, scals, scal, seqQ_normal, seqQ_ret, seqQ_exit, blkQ_normal, blkQ_ret, blkQ_exit, look_if, blkAt_if, if_true, if_false, Nat.reduceEqDiff, Nat.reduceAdd, true_implies, reduceCtorEq, false_implies, and_true, true_and, List.nil_append, List.cons_append, Bool.and_self, Nat.zero_add, Nat.add_zero, fieldA, nonNil, cellsAt, loadV_one, loadV_pvs, loadV_cons, mkAgg, allPV, List.drop_zero, List.drop_succ_cons, List.take_succ_cons, List.take_zero, List.length_cons, List.length_nil, Nat.beq_eq, storeB, patchL, beq_self_eq_true, ge_iff_le, gt_iff_lt, Int.reduceNeg, Int.reduceLE, Int.reduceLT, Int.reduceEq, extractV, List.getElem?_cons_zero, List.getElem?_cons_succ, mkAgg, Nat.add_eq_left, Nat.left_eq_add, Nat.one_ne_zero, ble_dec, beq_dec, decide_eq_true_eq, Nat.reduceLeDiff, Nat.le_refl, fillA, pureVs, pureV, beq_int, bne_int, Int.natCast_inj, eq_self, eqV, eqB, decide_true, decide_false, List.length_map, Int.toNat_natCast, List.getElem?_map, Option.map_some, Option.map_none, Int.natCast_nonneg, Option.some.injEq, lenV, binV, intBin, intV, idxA, ne_eq, not_true_eq_false, not_false_eq_true, List.drop, List.take, RetP, retP, resV, resOne, snapV, snapVs, snapR, snapRs, ownSz, pickV, cond_true, cond_false, bTT, bTF, bFT, bFF, Bool.not_true, Bool.not_false, AO.isC, Bool.or_true, Bool.true_or, Bool.or_false, Bool.false_or, WpD_cons, WpD_nil, opD, evD_some, guardD_true, guardD_false, h5, h1, h2, b0, h6, hlt, hget, podC, hp1, hw]
      refine ih (i + 1) k hd' hi' (by omega) (by simpa [sizeN, hp1] using ht) _ _ _ ?_ ?_ ?_ b0 ?_
      all_goals simp only [look_if, Nat.reduceEqDiff, if_true, if_false, h5, h1, h2]
theorem size2_ok (h176 : Std T 176 f176) (t : State) (load : Int) (h : t.pods.length ≤ 2 ^ 30) : Gives T 176 [stateP t, .int .i64 load] (.int .i64 (sizeN load t.pods)) := by
  refine gives h176 rfl ?_
  simp only [f176, Wp_seq, Wp_ops, Wp_cond, Wp_skip, Wp_ret, Wp_exit, Wp_block, WpO_cons, WpO_nil, opQ, evOp, evO, evOs, evQ_some, guardV, guardQ_true, guardQ_false, boolQ_true, boolQ_false, argsA, pvs, putS, cellsOf, scals, scal, seqQ_normal, seqQ_ret, seqQ_exit, blkQ_normal, blkQ_ret, blkQ_exit, look_if, blkAt_if, if_true, if_false, Nat.reduceEqDiff, Nat.reduceAdd, true_implies, reduceCtorEq, false_implies, and_true, true_and, List.nil_append, List.cons_append, Bool.and_self, Nat.zero_add, Nat.add_zero, fieldA, nonNil, cellsAt, loadV_one, loadV_pvs, loadV_cons, mkAgg, allPV, List.drop_zero, List.drop_succ_cons, List.take_succ_cons, List.take_zero, List.length_cons, List.length_nil, Nat.beq_eq, storeB, patchL, beq_self_eq_true, ge_iff_le, gt_iff_lt, Int.reduceNeg, Int.reduceLE, Int.reduceLT, Int.reduceEq, extractV, List.getElem?_cons_zero, List.getElem?_cons_succ, mkAgg, Nat.add_eq_left, Nat.left_eq_add, Nat.one_ne_zero, ble_dec, beq_dec, decide_eq_true_eq, Nat.reduceLeDiff, Nat.le_refl, fillA, pureVs, pureV, beq_int, bne_int, Int.natCast_inj, eq_self, eqV, eqB, decide_true, decide_false, List.length_map, Int.toNat_natCast, List.getElem?_map, Option.map_some, Option.map_none, Int.natCast_nonneg, Option.some.injEq, lenV, binV, intBin, intV, idxA, ne_eq, not_true_eq_false, not_false_eq_true, List.drop, List.take, RetP, retP, resV, resOne, snapV, snapVs, snapR, snapRs, ownSz, pickV, cond_true, cond_false, bTT, bTF, bFT, bFF, Bool.not_true, Bool.not_false, AO.isC, Bool.or_true, Bool.true_or, Bool.or_false, Bool.false_or, WpD_cons, WpD_nil, opD, evD_some, guardD_true, guardD_false, stateP]
  refine size2_loop load t h _ (sizeN load t.pods) (fun fr hp nx h5 => ?_) t.pods 0 0 rfl (Nat.zero_le _) (Nat.le_refl _) (Nat.zero_add _) _ _ _ rfl rfl rfl rfl rfl
  simp only [Wp_seq, Wp_ops, Wp_cond, Wp_skip, Wp_ret, Wp_exit, Wp_block, WpO_cons, WpO_nil, opQ, evOp, evO, evOs, evQ_some, guardV, guardQ_true, guardQ_false, boolQ_true, boolQ_false, argsA, pvs, putS, cellsOf, scals, scal, seqQ_normal, seqQ_ret, seqQ_exit, blkQ_normal, blkQ_ret, blkQ_exit, look_if, blkAt_if, if_true, if_false, Nat.reduceEqDiff, Nat.reduceAdd, true_implies, reduceCtorEq, false_implies, and_true, true_and, List.nil_append, List.cons_append, Bool.and_self, Nat.zero_add, Nat.add_zero, fieldA, nonNil, cellsAt, loadV_one, loadV_pvs, loadV_cons, mkAgg, allPV, List.drop_zero, List.drop_succ_cons, List.take_succ_cons, List.take_zero, List.length_cons, List.length_nil, Nat.beq_eq, storeB, patchL, beq_self_eq_true, ge_iff_le, gt_iff_lt, Int.reduceNeg, Int.reduceLE, Int.reduceLT, Int.reduceEq, extractV, List.getElem?_cons_zero, List.getElem?_cons_succ, mkAgg, Nat.add_eq_left, Nat.left_eq_add, Nat.one_ne_zero, ble_dec, beq_dec, decide_eq_true_eq, Nat.reduceLeDiff, Nat.le_refl, fillA, pureVs, pureV, beq_int, bne_int, Int.natCast_inj, eq_self, eqV, eqB, decide_true, decide_false, List.length_map, Int.toNat_natCast, List.getElem?_map, Option.map_some, Option.map_none, Int.natCast_nonneg, Option.some.injEq, lenV, binV, intBin, intV, idxA, ne_eq, not_true_eq_false, not_false_eq_true, List.drop, List.take, RetP, retP, resV, resOne, snapV, snapVs, snapR, snapRs, ownSz, pickV, cond_true, cond_false, bTT, bTF, bFT, bFF, Bool.not_true, Bool.not_false, AO.isC, Bool.or_true, Bool.true_or, Bool.or_false, Bool.false_or, WpD_cons, WpD_nil, opD, evD_some, guardD_true, guardD_false, h5]

/-- The first load at fault, from here on: the code, and the place. -/
def badLoad (pods : List Pod) : Nat → List Load → Option (Int × Int)
  | _, [] => none
  | i, l :: r => if (sizeN l.id pods : Int) < l.min then some (12, i) else if (sizeN l.id pods : Int) > l.max then some (13, i) else badLoad pods (i + 1) r

theorem check9_loop (s : Snap) (t : State) (ht : t.pods.length ≤ 2 ^ 30) (hl : s.loads.length ≤ 2 ^ 30) (h71 : Std T 71 f71) (Q : Exit → St → Prop) (o : Option (Int × Int))
    (hend : o = none → ∀ fr hp nx, Q (.exit 0) ⟨fr, hp, nx⟩)
    (hret : ∀ c i, o = some (c, i) → ∀ fr hp nx id, look fr 4 = .iface 1 (.ptr id 0 0) → blkAt hp id = .var [.pv (.int .i64 i), .pv (.int .i64 c)] → Q .ret ⟨fr, hp, nx⟩) :
    ∀ (rest : List Load) (i : Nat), s.loads.drop i = rest → i ≤ s.loads.length → badLoad t.pods i rest = o → ∀ (fr : List (Nat × AV)) (hp : Hl) (nx : Nat), 2 ≤ nx →
      look fr 3 = .ptr 1 0 0 → blkAt hp 1 = .var [.pv (.slice (t.pods.map podC)), .pv (.int .i64 t.pre), .pv (.int .i64 t.shi)] →
      look fr 9 = .pv (.slice (s.loads.map loadC)) → look fr 10 = .pv (.int .i64 s.loads.length) → look fr 11 = .pv (.int .i64 i) → Wp T false (.loop f70l0) ⟨fr, hp, nx⟩ Q := by
  intro rest
  induction rest with
  | nil =>
    intro i hd hi ho fr hp nx hn h3 b1 h9 h10 h11
    have hlen := drop_nil hd hi
    rw [Wp_loop, Wp_eq f70l0.eq_1]
    simp only [Wp_seq, Wp_ops, Wp_cond, Wp_skip, Wp_ret, Wp_exit, Wp_block, WpO_cons, WpO_nil, opQ, evOp, evO, evOs, evQ_some, guardV, guardQ_true, guardQ_false, boolQ_true, boolQ_false, argsA, pvs, putS, cellsOf, scals, scal, seqQ_normal, seqQ_ret, seqQ_exit, blkQ_normal, blkQ_ret, blkQ_exit, look_if, blkAt_if, if_true, if_false, Nat.reduceEqDiff, Nat.reduceAdd, true_implies, reduceCtorEq, false_implies, and_true, true_and, List.nil_append, List.cons_append, Bool.and_self, Nat.zero_add, Nat.add_zero, fieldA, nonNil, cellsAt, loadV_one, loadV_pvs, loadV_cons, mkAgg, allPV, List.drop_zero, List.drop_succ_cons, List.take_succ_cons, List.take_zero, List.length_cons, List.length_nil, Nat.beq_eq, storeB, patchL, beq_self_eq_true, ge_iff_le, gt_iff_lt, Int.reduceNeg, Int.reduceLE, Int.reduceLT, Int.reduceEq, extractV, List.getElem?_cons_zero, List.getElem?_cons_succ, mkAgg, Nat.add_eq_left, Nat.left_eq_add, Nat.one_ne_zero, ble_dec, beq_dec, decide_eq_true_eq, Nat.reduceLeDiff, Nat.le_refl, fillA, pureVs, pureV, beq_int, bne_int, Int.natCast_inj, eq_self, eqV, eqB, decide_true, decide_false, List.length_map, Int.toNat_natCast, List.getElem?_map, Option.map_some, Option.map_none, Int.natCast_nonneg, Option.some.injEq, lenV, binV, intBin, intV, idxA, ne_eq, not_true_eq_false, not_false_eq_true, List.drop, List.take, RetP, retP, resV, resOne, snapV, snapVs, snapR, snapRs, ownSz, pickV, cond_true, cond_false, bTT, bTF, bFT, bFF, Bool.not_true, Bool.not_false, AO.isC, Bool.or_true, Bool.true_or, Bool.or_false, Bool.false_or, WpD_cons, WpD_nil, opD, evD_some, guardD_true, guardD_false, h3, h9, h10, h11, hlen, Int.lt_irrefl]
    exact hend ho.symm _ _ _
  | cons l r ih =>
    intro i hd hi ho fr hp nx hn h3 b1 h9 h10 h11
    obtain ⟨hget, hlt, hw, hd', hi', hb⟩ := drop_cons hd hl
    have n1 : ¬ nx = 1 := by omega
    have k := size_ok h71 t l.id ht
    rw [Wp_loop, Wp_eq f70l0.eq_1]
    simp only [badLoad] at ho
    by_cases c1 : (sizeN l.id t.pods : Int) < l.min
    · rw [if_pos c1] at ho
      simp only [Wp_seq, Wp_ops, Wp_cond, Wp_skip, Wp_ret, Wp_exit, Wp_block, WpO_cons, WpO_nil, opQ, evOp, evO, evOs, evQ_some, guardV, guardQ_true, guardQ_false, boolQ_true, boolQ_false, argsA, pvs, putS, cellsOf, scals, scal, seqQ_normal, seqQ_ret, seqQ_exit, blkQ_normal, blkQ_ret, blkQ_exit, look_if, blkAt_if, if_true, if_false, Nat.reduceEqDiff, Nat.reduceAdd, true_implies, reduceCtorEq, false_implies, and_true, true_and, List.nil_append, List.cons_append, Bool.and_self, Nat.zero_add, Nat.add_zero, fieldA, nonNil, cellsAt, loadV_one, loadV_pvs, loadV_cons, mkAgg, allPV, List.drop_zero, List.drop_succ_cons, List.take_succ_cons, List.take_zero, List.length_cons, List.length_nil, Nat.beq_eq, storeB, patchL, beq_self_eq_true, ge_iff_le, gt_iff_lt, Int.reduceNeg, Int.reduceLE, Int.reduceLT, Int.reduceEq, extractV, List.getElem?_cons_zero, List.getElem?_cons_succ, mkAgg, Nat.add_eq_left, Nat.left_eq_add, Nat.one_ne_zero, ble_dec, beq_dec, decide_eq_true_eq, Nat.reduceLeDiff, Nat.le_refl, fillA, pureVs, pureV, beq_int, bne_int, Int.natCast_inj, eq_self, eqV, eqB, decide_true, decide_false, List.length_map, Int.toNat_natCast, List.getElem?_map, Option.map_some, Option.map_none, Int.natCast_nonneg, Option.some.injEq, lenV, binV, intBin, intV, idxA, ne_eq, not_true_eq_false, not_false_eq_true, List.drop, List.take, RetP, retP, resV, resOne, snapV, snapVs, snapR, snapRs, ownSz, pickV, cond_true, cond_false, bTT, bTF, bFT, bFF, Bool.not_true, Bool.not_false, AO.isC, Bool.or_true, Bool.true_or, Bool.or_false, Bool.false_or, WpD_cons, WpD_nil, opD, evD_some, guardD_true, guardD_false, h3, b1, h9, h10, h11, hlt, hget, loadC, n1, k.call, stateP, c1]
      refine hret 12 i ho.symm _ _ _ (nx + 1) ?_ ?_
      · simp only [look_if, Nat.reduceEqDiff, if_true, if_false]
      · simp only [blkAt_if, if_true]
    · rw [if_neg c1] at ho
      by_cases c2 : (sizeN l.id t.pods : Int) > l.max
      · rw [if_pos c2] at ho
        have c2' : l.max < (sizeN l.id t.pods : Int) := c2
        simp only [Wp_seq, Wp_ops, Wp_cond, Wp_skip, Wp_ret, Wp_exit, Wp_block, WpO_cons, WpO_nil, opQ, evOp, evO, evOs, evQ_some, guardV, guardQ_true, guardQ_false, boolQ_true, boolQ_false, argsA, pvs, putS, cellsOf, scals, scal, seqQ_normal, seqQ_ret, seqQ_exit, blkQ_normal, blkQ_ret, blkQ_exit, look_if, blkAt_if, if_true, if_false, Nat.reduceEqDiff, Nat.reduceAdd, true_implies, reduceCtorEq, false_implies, and_true, true_and, List.nil_append, List.cons_append, Bool.and_self, Nat.zero_add, Nat.add_zero, fieldA, nonNil, cellsAt, loadV_one, loadV_pvs, loadV_cons, mkAgg, allPV, List.drop_zero, List.drop_succ_cons, List.take_succ_cons, List.take_zero, List.length_cons, List.length_nil, Nat.beq_eq, storeB, patchL, beq_self_eq_true, ge_iff_le, gt_iff_lt, Int.reduceNeg, Int.reduceLE, Int.reduceLT, Int.reduceEq, extractV, List.getElem?_cons_zero, List.getElem?_cons_succ, mkAgg, Nat.add_eq_left, Nat.left_eq_add, Nat.one_ne_zero, ble_dec, beq_dec, decide_eq_true_eq, Nat.reduceLeDiff, Nat.le_refl, fillA, pureVs, pureV, beq_int, bne_int, Int.natCast_inj, eq_self, eqV, eqB, decide_true, decide_false, List.length_map, Int.toNat_natCast, List.getElem?_map, Option.map_some, Option.map_none, Int.natCast_nonneg, Option.some.injEq, lenV, binV, intBin, intV, idxA, ne_eq, not_true_eq_false, not_false_eq_true, List.drop, List.take, RetP, retP, resV, resOne, snapV, snapVs, snapR, snapRs, ownSz, pickV, cond_true, cond_false, bTT, bTF, bFT, bFF, Bool.not_true, Bool.not_false, AO.isC, Bool.or_true, Bool.true_or, Bool.or_false, Bool.false_or, WpD_cons, WpD_nil, opD, evD_some, guardD_true, guardD_false, h3, b1, h9, h10, h11, hlt, hget, loadC, n1, k.call, stateP, c1, c2']
        refine hret 13 i ho.symm _ _ _ (nx + 1) ?_ ?_
        · simp only [look_if, Nat.reduceEqDiff, if_true, if_false]
        · simp only [blkAt_if, if_true]
      · rw [if_neg c2] at ho
        have c2' : ¬ l.max < (sizeN l.id t.pods : Int) := c2
        simp only [Wp_seq, Wp_ops, Wp_cond, Wp_skip, Wp_ret, Wp_exit, Wp_block, WpO_cons, WpO_nil, opQ, evOp, evO, evOs, evQ_some, guardV, guardQ_true, guardQ_false, boolQ_true, boolQ_false, argsA, pvs, putS, cellsOf, scals, scal, seqQ_normal, seqQ_ret, seqQ_exit, blkQ_normal, blkQ_ret, blkQ_exit, look_if, blkAt_if, if_true, if_false, Nat.reduceEqDiff, Nat.reduceAdd, true_implies, reduceCtorEq, false_implies, and_true, true_and, List.nil_append, List.cons_append, Bool.and_self, Nat.zero_add, Nat.add_zero, fieldA, nonNil, cellsAt, loadV_one, loadV_pvs, loadV_cons, mkAgg, allPV, List.drop_zero, List.drop_succ_cons, List.take_succ_cons, List.take_zero, List.length_cons, List.length_nil, Nat.beq_eq, storeB, patchL, beq_self_eq_true, ge_iff_le, gt_iff_lt, Int.reduceNeg, Int.reduceLE, Int.reduceLT, Int.reduceEq, extractV, List.getElem?_cons_zero, List.getElem?_cons_succ, mkAgg, Nat.add_eq_left, Nat.left_eq_add, Nat.one_ne_zero, ble_dec, beq_dec, decide_eq_true_eq, Nat.reduceLeDiff, Nat.le_refl, fillA, pureVs, pureV, beq_int, bne_int, Int.natCast_inj, eq_self, eqV, eqB, decide_true, decide_false, List.length_map, Int.toNat_natCast, List.getElem?_map, Option.map_some, Option.map_none, Int.natCast_nonneg, Option.some.injEq, lenV, binV, intBin, intV, idxA, ne_eq, not_true_eq_false, not_false_eq_true, List.drop, List.take, RetP, retP, resV, resOne, snapV, snapVs, snapR, snapRs, ownSz, pickV, cond_true, cond_false, bTT, bTF, bFT, bFF, Bool.not_true, Bool.not_false, AO.isC, Bool.or_true, Bool.true_or, Bool.or_false, Bool.false_or, WpD_cons, WpD_nil, opD, evD_some, guardD_true, guardD_false, h3, b1, h9, h10, h11, hlt, hget, loadC, n1, k.call, stateP, c1, c2', hw]
        refine ih (i + 1) hd' hi' ho _ _ _ (by omega) ?_ ?_ ?_ ?_ ?_
        all_goals simp only [look_if, blkAt_if, Nat.reduceEqDiff, if_true, if_false, h3, b1, h9, h10, n1]
/-- An error, or none. -/
def errO : Option (Int × Int) → PV
  | none => .nili
  | some (c, i) => spotE i c
theorem check9_ok (h70 : Std T 70 f70) (h71 : Std T 71 f71) (s : Snap) (t : State) (ht : t.pods.length ≤ 2 ^ 30) (hl : s.loads.length ≤ 2 ^ 30) : Gives T 70 [snapP s, stateP t] (errO (badLoad t.pods 0 s.loads)) := by
  refine gives h70 rfl ?_
  simp only [f70, Wp_seq, Wp_ops, Wp_cond, Wp_skip, Wp_ret, Wp_exit, Wp_block, WpO_cons, WpO_nil, opQ, evOp, evO, evOs, evQ_some, guardV, guardQ_true, guardQ_false, boolQ_true, boolQ_false, argsA, pvs, putS, cellsOf, scals, scal, seqQ_normal, seqQ_ret, seqQ_exit, blkQ_normal, blkQ_ret, blkQ_exit, look_if, blkAt_if, if_true, if_false, Nat.reduceEqDiff, Nat.reduceAdd, true_implies, reduceCtorEq, false_implies, and_true, true_and, List.nil_append, List.cons_append, Bool.and_self, Nat.zero_add, Nat.add_zero, fieldA, nonNil, cellsAt, loadV_one, loadV_pvs, loadV_cons, mkAgg, allPV, List.drop_zero, List.drop_succ_cons, List.take_succ_cons, List.take_zero, List.length_cons, List.length_nil, Nat.beq_eq, storeB, patchL, beq_self_eq_true, ge_iff_le, gt_iff_lt, Int.reduceNeg, Int.reduceLE, Int.reduceLT, Int.reduceEq, extractV, List.getElem?_cons_zero, List.getElem?_cons_succ, mkAgg, Nat.add_eq_left, Nat.left_eq_add, Nat.one_ne_zero, ble_dec, beq_dec, decide_eq_true_eq, Nat.reduceLeDiff, Nat.le_refl, fillA, pureVs, pureV, beq_int, bne_int, Int.natCast_inj, eq_self, eqV, eqB, decide_true, decide_false, List.length_map, Int.toNat_natCast, List.getElem?_map, Option.map_some, Option.map_none, Int.natCast_nonneg, Option.some.injEq, lenV, binV, intBin, intV, idxA, ne_eq, not_true_eq_false, not_false_eq_true, List.drop, List.take, RetP, retP, resV, resOne, snapV, snapVs, snapR, snapRs, ownSz, pickV, cond_true, cond_false, bTT, bTF, bFT, bFF, Bool.not_true, Bool.not_false, AO.isC, Bool.or_true, Bool.true_or, Bool.or_false, Bool.false_or, WpD_cons, WpD_nil, opD, evD_some, guardD_true, guardD_false, snapP, stateP]
  refine check9_loop s t ht hl h71 _ (badLoad t.pods 0 s.loads) (fun ho fr hp nx => ?_) (fun c i ho fr hp nx id h4 hb => ?_) s.loads 0 rfl (Nat.zero_le _) rfl _ _ _ (Nat.le_refl _) rfl rfl rfl rfl rfl
  · simp only [Wp_seq, Wp_ops, Wp_cond, Wp_skip, Wp_ret, Wp_exit, Wp_block, WpO_cons, WpO_nil, opQ, evOp, evO, evOs, evQ_some, guardV, guardQ_true, guardQ_false, boolQ_true, boolQ_false, argsA, pvs, putS, cellsOf, scals, scal, seqQ_normal, seqQ_ret, seqQ_exit, blkQ_normal, blkQ_ret, blkQ_exit, look_if, blkAt_if, if_true, if_false, Nat.reduceEqDiff, Nat.reduceAdd, true_implies, reduceCtorEq, false_implies, and_true, true_and, List.nil_append, List.cons_append, Bool.and_self, Nat.zero_add, Nat.add_zero, fieldA, nonNil, cellsAt, loadV_one, loadV_pvs, loadV_cons, mkAgg, allPV, List.drop_zero, List.drop_succ_cons, List.take_succ_cons, List.take_zero, List.length_cons, List.length_nil, Nat.beq_eq, storeB, patchL, beq_self_eq_true, ge_iff_le, gt_iff_lt, Int.reduceNeg, Int.reduceLE, Int.reduceLT, Int.reduceEq, extractV, List.getElem?_cons_zero, List.getElem?_cons_succ, mkAgg, Nat.add_eq_left, Nat.left_eq_add, Nat.one_ne_zero, ble_dec, beq_dec, decide_eq_true_eq, Nat.reduceLeDiff, Nat.le_refl, fillA, pureVs, pureV, beq_int, bne_int, Int.natCast_inj, eq_self, eqV, eqB, decide_true, decide_false, List.length_map, Int.toNat_natCast, List.getElem?_map, Option.map_some, Option.map_none, Int.natCast_nonneg, Option.some.injEq, lenV, binV, intBin, intV, idxA, ne_eq, not_true_eq_false, not_false_eq_true, List.drop, List.take, RetP, retP, resV, resOne, snapV, snapVs, snapR, snapRs, ownSz, pickV, cond_true, cond_false, bTT, bTF, bFT, bFF, Bool.not_true, Bool.not_false, AO.isC, Bool.or_true, Bool.true_or, Bool.or_false, Bool.false_or, WpD_cons, WpD_nil, opD, evD_some, guardD_true, guardD_false, ho, errO]
  · simp only [Wp_seq, Wp_ops, Wp_cond, Wp_skip, Wp_ret, Wp_exit, Wp_block, WpO_cons, WpO_nil, opQ, evOp, evO, evOs, evQ_some, guardV, guardQ_true, guardQ_false, boolQ_true, boolQ_false, argsA, pvs, putS, cellsOf, scals, scal, seqQ_normal, seqQ_ret, seqQ_exit, blkQ_normal, blkQ_ret, blkQ_exit, look_if, blkAt_if, if_true, if_false, Nat.reduceEqDiff, Nat.reduceAdd, true_implies, reduceCtorEq, false_implies, and_true, true_and, List.nil_append, List.cons_append, Bool.and_self, Nat.zero_add, Nat.add_zero, fieldA, nonNil, cellsAt, loadV_one, loadV_pvs, loadV_cons, mkAgg, allPV, List.drop_zero, List.drop_succ_cons, List.take_succ_cons, List.take_zero, List.length_cons, List.length_nil, Nat.beq_eq, storeB, patchL, beq_self_eq_true, ge_iff_le, gt_iff_lt, Int.reduceNeg, Int.reduceLE, Int.reduceLT, Int.reduceEq, extractV, List.getElem?_cons_zero, List.getElem?_cons_succ, mkAgg, Nat.add_eq_left, Nat.left_eq_add, Nat.one_ne_zero, ble_dec, beq_dec, decide_eq_true_eq, Nat.reduceLeDiff, Nat.le_refl, fillA, pureVs, pureV, beq_int, bne_int, Int.natCast_inj, eq_self, eqV, eqB, decide_true, decide_false, List.length_map, Int.toNat_natCast, List.getElem?_map, Option.map_some, Option.map_none, Int.natCast_nonneg, Option.some.injEq, lenV, binV, intBin, intV, idxA, ne_eq, not_true_eq_false, not_false_eq_true, List.drop, List.take, RetP, retP, resV, resOne, snapV, snapVs, snapR, snapRs, ownSz, pickV, cond_true, cond_false, bTT, bTF, bFT, bFF, Bool.not_true, Bool.not_false, AO.isC, Bool.or_true, Bool.true_or, Bool.or_false, Bool.false_or, WpD_cons, WpD_nil, opD, evD_some, guardD_true, guardD_false, ho, errO, h4, hb, spotE]

/-- The document's answer: a code, and a place. -/
def badO : Option (Int × Int) → PV
  | none => .tuple [.int .i64 0, .int .i64 (-1)]
  | some (c, i) => .tuple [.int .i64 c, .int .i64 i]
theorem check9b_loop (s : Snap) (t : State) (ht : t.pods.length ≤ 2 ^ 30) (hl : s.loads.length ≤ 2 ^ 30) (h176 : Std T 176 f176) (Q : Exit → St → Prop) (o : Option (Int × Int))
    (hend : o = none → ∀ fr hp nx, Q (.exit 0) ⟨fr, hp, nx⟩)
    (hret : ∀ c i, o = some (c, i) → ∀ fr hp nx, look fr 4 = .pv (.int .i64 c) → look fr 5 = .pv (.int .i64 i) → Q .ret ⟨fr, hp, nx⟩) :
    ∀ (rest : List Load) (i : Nat), s.loads.drop i = rest → i ≤ s.loads.length → badLoad t.pods i rest = o → ∀ (fr : List (Nat × AV)) (hp : Hl) (nx : Nat),
      look fr 2 = .ptr 0 0 0 → blkAt hp 0 = .var [.pv (.slice (s.nodes.map nodeC)), .pv (.slice (s.loads.map loadC)), .pv (.slice (s.pods.map podC))] →
      look fr 3 = .ptr 1 0 0 → blkAt hp 1 = .var [.pv (.slice (t.pods.map podC)), .pv (.int .i64 t.pre), .pv (.int .i64 t.shi)] →
      look fr 6 = .pv (.int .i64 i) → Wp T false (.loop f173l0) ⟨fr, hp, nx⟩ Q := by
  intro rest
  induction rest with
  | nil =>
    intro i hd hi ho fr hp nx h2 b0 h3 b1 h6
    have hlen := drop_nil hd hi
    rw [Wp_loop, Wp_eq f173l0.eq_1]
    simp only [Wp_seq, Wp_ops, Wp_cond, Wp_skip, Wp_ret, Wp_exit, Wp_block, WpO_cons, WpO_nil, opQ, evOp, evO, evOs, evQ_some, guardV, guardQ_true, guardQ_false, boolQ_true, boolQ_false, argsA, pvs, putS, cellsOf, scals, scal, seqQ_normal, seqQ_ret, seqQ_exit, blkQ_normal, blkQ_ret, blkQ_exit, look_if, blkAt_if, if_true, if_false, Nat.reduceEqDiff, Nat.reduceAdd, true_implies, reduceCtorEq, false_implies, and_true, true_and, List.nil_append, List.cons_append, Bool.and_self, Nat.zero_add, Nat.add_zero, fieldA, nonNil, cellsAt, loadV_one, loadV_pvs, loadV_cons, mkAgg, allPV, List.drop_zero, List.drop_succ_cons, List.take_succ_cons, List.take_zero, List.length_cons, List.length_nil, Nat.beq_eq, storeB, patchL, beq_self_eq_true, ge_iff_le, gt_iff_lt, Int.reduceNeg, Int.reduceLE, Int.reduceLT, Int.reduceEq, extractV, List.getElem?_cons_zero, List.getElem?_cons_succ, mkAgg, Nat.add_eq_left, Nat.left_eq_add, Nat.one_ne_zero, ble_dec, beq_dec, decide_eq_true_eq, Nat.reduceLeDiff, Nat.le_refl, fillA, pureVs, pureV, beq_int, bne_int, Int.natCast_inj, eq_self, eqV, eqB, decide_true, decide_false, List.length_map, Int.toNat_natCast, List.getElem?_map, Option.map_some, Option.map_none, Int.natCast_nonneg, Option.some.injEq, lenV, binV, intBin, intV, idxA, ne_eq, not_true_eq_false, not_false_eq_true, List.drop, List.take, RetP, retP, resV, resOne, snapV, snapVs, snapR, snapRs, ownSz, pickV, cond_true, cond_false, bTT, bTF, bFT, bFF, Bool.not_true, Bool.not_false, AO.isC, Bool.or_true, Bool.true_or, Bool.or_false, Bool.false_or, WpD_cons, WpD_nil, opD, evD_some, guardD_true, guardD_false, h2, h3, b0, h6, hlen, Int.lt_irrefl]
    exact hend ho.symm _ _ _
  | cons l r ih =>
    intro i hd hi ho fr hp nx h2 b0 h3 b1 h6
    obtain ⟨hget, hlt, hw, hd', hi', hb⟩ := drop_cons hd hl
    have k := size2_ok h176 t l.id ht
    rw [Wp_loop, Wp_eq f173l0.eq_1]
    simp only [badLoad] at ho
    simp only [Wp_seq, Wp_ops, Wp_cond, Wp_skip, Wp_ret, Wp_exit, Wp_block, WpO_cons, WpO_nil, opQ, evOp, evO, evOs, evQ_some, guardV, guardQ_true, guardQ_false, boolQ_true, boolQ_false, argsA, pvs, putS, cellsOf, scals, scal, seqQ_normal, seqQ_ret, seqQ_exit, blkQ_normal, blkQ_ret, blkQ_exit, look_if, blkAt_if, if_true, if_false, Nat.reduceEqDiff, Nat.reduceAdd, true_implies, reduceCtorEq, false_implies, and_true, true_and, List.nil_append, List.cons_append, Bool.and_self, Nat.zero_add, Nat.add_zero, fieldA, nonNil, cellsAt, loadV_one, loadV_pvs, loadV_cons, mkAgg, allPV, List.drop_zero, List.drop_succ_cons, List.take_succ_cons, List.take_zero, List.length_cons, List.length_nil, Nat.beq_eq, storeB, patchL, beq_self_eq_true, ge_iff_le, gt_iff_lt, Int.reduceNeg, Int.reduceLE, Int.reduceLT, Int.reduceEq, extractV, List.getElem?_cons_zero, List.getElem?_cons_succ, mkAgg, Nat.add_eq_left, Nat.left_eq_add, Nat.one_ne_zero, ble_dec, beq_dec, decide_eq_true_eq, Nat.reduceLeDiff, Nat.le_refl, fillA, pureVs, pureV, beq_int, bne_int, Int.natCast_inj, eq_self, eqV, eqB, decide_true, decide_false, List.length_map, Int.toNat_natCast, List.getElem?_map, Option.map_some, Option.map_none, Int.natCast_nonneg, Option.some.injEq, lenV, binV, intBin, intV, idxA, ne_eq, not_true_eq_false, not_false_eq_true, List.drop, List.take, RetP, retP, resV, resOne, snapV, snapVs, snapR, snapRs, ownSz, pickV, cond_true, cond_false, bTT, bTF, bFT, bFF, Bool.not_true, Bool.not_false, AO.isC, Bool.or_true, Bool.true_or, Bool.or_false, Bool.false_or, WpD_cons, WpD_nil, opD, evD_some, guardD_true, guardD_false, h2, h3, b0, h6, hlt]
    refine (Wp_calm rfl).2 ?_
    by_cases c1 : (sizeN l.id t.pods : Int) < l.min
    · rw [if_pos c1] at ho
      simp only [Wp_seq, Wp_ops, Wp_cond, Wp_skip, Wp_ret, Wp_exit, Wp_block, WpO_cons, WpO_nil, opQ, evOp, evO, evOs, evQ_some, guardV, guardQ_true, guardQ_false, boolQ_true, boolQ_false, argsA, pvs, putS, cellsOf, scals, scal, seqQ_normal, seqQ_ret, seqQ_exit, blkQ_normal, blkQ_ret, blkQ_exit, look_if, blkAt_if, if_true, if_false, Nat.reduceEqDiff, Nat.reduceAdd, true_implies, reduceCtorEq, false_implies, and_true, true_and, List.nil_append, List.cons_append, Bool.and_self, Nat.zero_add, Nat.add_zero, fieldA, nonNil, cellsAt, loadV_one, loadV_pvs, loadV_cons, mkAgg, allPV, List.drop_zero, List.drop_succ_cons, List.take_succ_cons, List.take_zero, List.length_cons, List.length_nil, Nat.beq_eq, storeB, patchL, beq_self_eq_true, ge_iff_le, gt_iff_lt, Int.reduceNeg, Int.reduceLE, Int.reduceLT, Int.reduceEq, extractV, List.getElem?_cons_zero, List.getElem?_cons_succ, mkAgg, Nat.add_eq_left, Nat.left_eq_add, Nat.one_ne_zero, ble_dec, beq_dec, decide_eq_true_eq, Nat.reduceLeDiff, Nat.le_refl, fillA, pureVs, pureV, beq_int, bne_int, Int.natCast_inj, eq_self, eqV, eqB, decide_true, decide_false, List.length_map, Int.toNat_natCast, List.getElem?_map, Option.map_some, Option.map_none, Int.natCast_nonneg, Option.some.injEq, lenV, binV, intBin, intV, idxA, ne_eq, not_true_eq_false, not_false_eq_true, List.drop, List.take, RetP, retP, resV, resOne, snapV, snapVs, snapR, snapRs, ownSz, pickV, cond_true, cond_false, bTT, bTF, bFT, bFF, Bool.not_true, Bool.not_false, AO.isC, Bool.or_true, Bool.true_or, Bool.or_false, Bool.false_or, WpD_cons, WpD_nil, opD, evD_some, guardD_true, guardD_false, h2, h3, b0, b1, h6, hget, loadC, k.callD, stateP, c1]
      refine hret 12 i ho.symm _ _ _ ?_ ?_
      all_goals simp only [look_if, Nat.reduceEqDiff, if_true, if_false]
    · rw [if_neg c1] at ho
      by_cases c2 : (sizeN l.id t.pods : Int) > l.max
      · rw [if_pos c2] at ho
        have c2' : l.max < (sizeN l.id t.pods : Int) := c2
        simp only [Wp_seq, Wp_ops, Wp_cond, Wp_skip, Wp_ret, Wp_exit, Wp_block, WpO_cons, WpO_nil, opQ, evOp, evO, evOs, evQ_some, guardV, guardQ_true, guardQ_false, boolQ_true, boolQ_false, argsA, pvs, putS, cellsOf, scals, scal, seqQ_normal, seqQ_ret, seqQ_exit, blkQ_normal, blkQ_ret, blkQ_exit, look_if, blkAt_if, if_true, if_false, Nat.reduceEqDiff, Nat.reduceAdd, true_implies, reduceCtorEq, false_implies, and_true, true_and, List.nil_append, List.cons_append, Bool.and_self, Nat.zero_add, Nat.add_zero, fieldA, nonNil, cellsAt, loadV_one, loadV_pvs, loadV_cons, mkAgg, allPV, List.drop_zero, List.drop_succ_cons, List.take_succ_cons, List.take_zero, List.length_cons, List.length_nil, Nat.beq_eq, storeB, patchL, beq_self_eq_true, ge_iff_le, gt_iff_lt, Int.reduceNeg, Int.reduceLE, Int.reduceLT, Int.reduceEq, extractV, List.getElem?_cons_zero, List.getElem?_cons_succ, mkAgg, Nat.add_eq_left, Nat.left_eq_add, Nat.one_ne_zero, ble_dec, beq_dec, decide_eq_true_eq, Nat.reduceLeDiff, Nat.le_refl, fillA, pureVs, pureV, beq_int, bne_int, Int.natCast_inj, eq_self, eqV, eqB, decide_true, decide_false, List.length_map, Int.toNat_natCast, List.getElem?_map, Option.map_some, Option.map_none, Int.natCast_nonneg, Option.some.injEq, lenV, binV, intBin, intV, idxA, ne_eq, not_true_eq_false, not_false_eq_true, List.drop, List.take, RetP, retP, resV, resOne, snapV, snapVs, snapR, snapRs, ownSz, pickV, cond_true, cond_false, bTT, bTF, bFT, bFF, Bool.not_true, Bool.not_false, AO.isC, Bool.or_true, Bool.true_or, Bool.or_false, Bool.false_or, WpD_cons, WpD_nil, opD, evD_some, guardD_true, guardD_false, h2, h3, b0, b1, h6, hget, loadC, k.callD, stateP, c1, c2']
        refine hret 13 i ho.symm _ _ _ ?_ ?_
        all_goals simp only [look_if, Nat.reduceEqDiff, if_true, if_false]
      · rw [if_neg c2] at ho
        have c2' : ¬ l.max < (sizeN l.id t.pods : Int) := c2
        simp only [Wp_seq, Wp_ops, Wp_cond, Wp_skip, Wp_ret, Wp_exit, Wp_block, WpO_cons, WpO_nil, opQ, evOp, evO, evOs, evQ_some, guardV, guardQ_true, guardQ_false, boolQ_true, boolQ_false, argsA, pvs, putS, cellsOf, scals, scal, seqQ_normal, seqQ_ret, seqQ_exit, blkQ_normal, blkQ_ret, blkQ_exit, look_if, blkAt_if, if_true, if_false, Nat.reduceEqDiff, Nat.reduceAdd, true_implies, reduceCtorEq, false_implies, and_true, true_and, List.nil_append, List.cons_append, Bool.and_self, Nat.zero_add, Nat.add_zero, fieldA, nonNil, cellsAt, loadV_one, loadV_pvs, loadV_cons, mkAgg, allPV, List.drop_zero, List.drop_succ_cons, List.take_succ_cons, List.take_zero, List.length_cons, List.length_nil, Nat.beq_eq, storeB, patchL, beq_self_eq_true, ge_iff_le, gt_iff_lt, Int.reduceNeg, Int.reduceLE, Int.reduceLT, Int.reduceEq, extractV, List.getElem?_cons_zero, List.getElem?_cons_succ, mkAgg, Nat.add_eq_left, Nat.left_eq_add, Nat.one_ne_zero, ble_dec, beq_dec, decide_eq_true_eq, Nat.reduceLeDiff, Nat.le_refl, fillA, pureVs, pureV, beq_int, bne_int, Int.natCast_inj, eq_self, eqV, eqB, decide_true, decide_false, List.length_map, Int.toNat_natCast, List.getElem?_map, Option.map_some, Option.map_none, Int.natCast_nonneg, Option.some.injEq, lenV, binV, intBin, intV, idxA, ne_eq, not_true_eq_false, not_false_eq_true, List.drop, List.take, RetP, retP, resV, resOne, snapV, snapVs, snapR, snapRs, ownSz, pickV, cond_true, cond_false, bTT, bTF, bFT, bFF, Bool.not_true, Bool.not_false, AO.isC, Bool.or_true, Bool.true_or, Bool.or_false, Bool.false_or, WpD_cons, WpD_nil, opD, evD_some, guardD_true, guardD_false, h2, h3, b0, b1, h6, hget, loadC, k.callD, stateP, c1, c2', hw]
        refine ih (i + 1) hd' hi' ho _ _ _ ?_ b0 ?_ b1 ?_
        all_goals simp only [look_if, Nat.reduceEqDiff, if_true, if_false, h2, h3]
theorem check9b_ok (h173 : Std T 173 f173) (h176 : Std T 176 f176) (s : Snap) (t : State) (ht : t.pods.length ≤ 2 ^ 30) (hl : s.loads.length ≤ 2 ^ 30) : Gives T 173 [snapP s, stateP t] (badO (badLoad t.pods 0 s.loads)) := by
  refine gives h173 rfl ?_
  simp only [f173, Wp_seq, Wp_ops, Wp_cond, Wp_skip, Wp_ret, Wp_exit, Wp_block, WpO_cons, WpO_nil, opQ, evOp, evO, evOs, evQ_some, guardV, guardQ_true, guardQ_false, boolQ_true, boolQ_false, argsA, pvs, putS, cellsOf, scals, scal, seqQ_normal, seqQ_ret, seqQ_exit, blkQ_normal, blkQ_ret, blkQ_exit, look_if, blkAt_if, if_true, if_false, Nat.reduceEqDiff, Nat.reduceAdd, true_implies, reduceCtorEq, false_implies, and_true, true_and, List.nil_append, List.cons_append, Bool.and_self, Nat.zero_add, Nat.add_zero, fieldA, nonNil, cellsAt, loadV_one, loadV_pvs, loadV_cons, mkAgg, allPV, List.drop_zero, List.drop_succ_cons, List.take_succ_cons, List.take_zero, List.length_cons, List.length_nil, Nat.beq_eq, storeB, patchL, beq_self_eq_true, ge_iff_le, gt_iff_lt, Int.reduceNeg, Int.reduceLE, Int.reduceLT, Int.reduceEq, extractV, List.getElem?_cons_zero, List.getElem?_cons_succ, mkAgg, Nat.add_eq_left, Nat.left_eq_add, Nat.one_ne_zero, ble_dec, beq_dec, decide_eq_true_eq, Nat.reduceLeDiff, Nat.le_refl, fillA, pureVs, pureV, beq_int, bne_int, Int.natCast_inj, eq_self, eqV, eqB, decide_true, decide_false, List.length_map, Int.toNat_natCast, List.getElem?_map, Option.map_some, Option.map_none, Int.natCast_nonneg, Option.some.injEq, lenV, binV, intBin, intV, idxA, ne_eq, not_true_eq_false, not_false_eq_true, List.drop, List.take, RetP, retP, resV, resOne, snapV, snapVs, snapR, snapRs, ownSz, pickV, cond_true, cond_false, bTT, bTF, bFT, bFF, Bool.not_true, Bool.not_false, AO.isC, Bool.or_true, Bool.true_or, Bool.or_false, Bool.false_or, WpD_cons, WpD_nil, opD, evD_some, guardD_true, guardD_false, snapP, stateP]
  refine check9b_loop s t ht hl h176 _ (badLoad t.pods 0 s.loads) (fun ho fr hp nx => ?_) (fun c i ho fr hp nx h4 h5 => ?_) s.loads 0 rfl (Nat.zero_le _) rfl _ _ _ rfl rfl rfl rfl rfl
  · simp only [Wp_seq, Wp_ops, Wp_cond, Wp_skip, Wp_ret, Wp_exit, Wp_block, WpO_cons, WpO_nil, opQ, evOp, evO, evOs, evQ_some, guardV, guardQ_true, guardQ_false, boolQ_true, boolQ_false, argsA, pvs, putS, cellsOf, scals, scal, seqQ_normal, seqQ_ret, seqQ_exit, blkQ_normal, blkQ_ret, blkQ_exit, look_if, blkAt_if, if_true, if_false, Nat.reduceEqDiff, Nat.reduceAdd, true_implies, reduceCtorEq, false_implies, and_true, true_and, List.nil_append, List.cons_append, Bool.and_self, Nat.zero_add, Nat.add_zero, fieldA, nonNil, cellsAt, loadV_one, loadV_pvs, loadV_cons, mkAgg, allPV, List.drop_zero, List.drop_succ_cons, List.take_succ_cons, List.take_zero, List.length_cons, List.length_nil, Nat.beq_eq, storeB, patchL, beq_self_eq_true, ge_iff_le, gt_iff_lt, Int.reduceNeg, Int.reduceLE, Int.reduceLT, Int.reduceEq, extractV, List.getElem?_cons_zero, List.getElem?_cons_succ, mkAgg, Nat.add_eq_left, Nat.left_eq_add, Nat.one_ne_zero, ble_dec, beq_dec, decide_eq_true_eq, Nat.reduceLeDiff, Nat.le_refl, fillA, pureVs, pureV, beq_int, bne_int, Int.natCast_inj, eq_self, eqV, eqB, decide_true, decide_false, List.length_map, Int.toNat_natCast, List.getElem?_map, Option.map_some, Option.map_none, Int.natCast_nonneg, Option.some.injEq, lenV, binV, intBin, intV, idxA, ne_eq, not_true_eq_false, not_false_eq_true, List.drop, List.take, RetP, retP, resV, resOne, snapV, snapVs, snapR, snapRs, ownSz, pickV, cond_true, cond_false, bTT, bTF, bFT, bFF, Bool.not_true, Bool.not_false, AO.isC, Bool.or_true, Bool.true_or, Bool.or_false, Bool.false_or, WpD_cons, WpD_nil, opD, evD_some, guardD_true, guardD_false, ho, badO]
  · simp only [Wp_seq, Wp_ops, Wp_cond, Wp_skip, Wp_ret, Wp_exit, Wp_block, WpO_cons, WpO_nil, opQ, evOp, evO, evOs, evQ_some, guardV, guardQ_true, guardQ_false, boolQ_true, boolQ_false, argsA, pvs, putS, cellsOf, scals, scal, seqQ_normal, seqQ_ret, seqQ_exit, blkQ_normal, blkQ_ret, blkQ_exit, look_if, blkAt_if, if_true, if_false, Nat.reduceEqDiff, Nat.reduceAdd, true_implies, reduceCtorEq, false_implies, and_true, true_and, List.nil_append, List.cons_append, Bool.and_self, Nat.zero_add, Nat.add_zero, fieldA, nonNil, cellsAt, loadV_one, loadV_pvs, loadV_cons, mkAgg, allPV, List.drop_zero, List.drop_succ_cons, List.take_succ_cons, List.take_zero, List.length_cons, List.length_nil, Nat.beq_eq, storeB, patchL, beq_self_eq_true, ge_iff_le, gt_iff_lt, Int.reduceNeg, Int.reduceLE, Int.reduceLT, Int.reduceEq, extractV, List.getElem?_cons_zero, List.getElem?_cons_succ, mkAgg, Nat.add_eq_left, Nat.left_eq_add, Nat.one_ne_zero, ble_dec, beq_dec, decide_eq_true_eq, Nat.reduceLeDiff, Nat.le_refl, fillA, pureVs, pureV, beq_int, bne_int, Int.natCast_inj, eq_self, eqV, eqB, decide_true, decide_false, List.length_map, Int.toNat_natCast, List.getElem?_map, Option.map_some, Option.map_none, Int.natCast_nonneg, Option.some.injEq, lenV, binV, intBin, intV, idxA, ne_eq, not_true_eq_false, not_false_eq_true, List.drop, List.take, RetP, retP, resV, resOne, snapV, snapVs, snapR, snapRs, ownSz, pickV, cond_true, cond_false, bTT, bTF, bFT, bFF, Bool.not_true, Bool.not_false, AO.isC, Bool.or_true, Bool.true_or, Bool.or_false, Bool.false_or, WpD_cons, WpD_nil, opD, evD_some, guardD_true, guardD_false, ho, badO, h4, h5]

def usedB (x : Spec) (t : State) : Bool := decide (t.pre > x.pre) || decide (t.shi > x.shi)
theorem used9_ok (h72 : Std T 72 f72) (x : Spec) (t : State) : Gives T 72 [specP x, stateP t] (cond (usedB x t) (codeE 15) .nili) := by
  refine gives h72 rfl ?_
  unfold usedB
  by_cases c1 : x.pre < t.pre <;> by_cases c2 : x.shi < t.shi <;>
    simp only [f72, Wp_seq, Wp_ops, Wp_cond, Wp_skip, Wp_ret, Wp_exit, Wp_block, WpO_cons, WpO_nil, opQ, evOp, evO, evOs, evQ_some, guardV, guardQ_true, guardQ_false, boolQ_true, boolQ_false, argsA, pvs, putS, cellsOf, scals, scal, seqQ_normal, seqQ_ret, seqQ_exit, blkQ_normal, blkQ_ret, blkQ_exit, look_if, blkAt_if, if_true, if_false, Nat.reduceEqDiff, Nat.reduceAdd, true_implies, reduceCtorEq, false_implies, and_true, true_and, List.nil_append, List.cons_append, Bool.and_self, Nat.zero_add, Nat.add_zero, fieldA, nonNil, cellsAt, loadV_one, loadV_pvs, loadV_cons, mkAgg, allPV, List.drop_zero, List.drop_succ_cons, List.take_succ_cons, List.take_zero, List.length_cons, List.length_nil, Nat.beq_eq, storeB, patchL, beq_self_eq_true, ge_iff_le, gt_iff_lt, Int.reduceNeg, Int.reduceLE, Int.reduceLT, Int.reduceEq, extractV, List.getElem?_cons_zero, List.getElem?_cons_succ, mkAgg, Nat.add_eq_left, Nat.left_eq_add, Nat.one_ne_zero, ble_dec, beq_dec, decide_eq_true_eq, Nat.reduceLeDiff, Nat.le_refl, fillA, pureVs, pureV, beq_int, bne_int, Int.natCast_inj, eq_self, eqV, eqB, decide_true, decide_false, List.length_map, Int.toNat_natCast, List.getElem?_map, Option.map_some, Option.map_none, Int.natCast_nonneg, Option.some.injEq, lenV, binV, intBin, intV, idxA, ne_eq, not_true_eq_false, not_false_eq_true, List.drop, List.take, RetP, retP, resV, resOne, snapV, snapVs, snapR, snapRs, ownSz, pickV, cond_true, cond_false, bTT, bTF, bFT, bFF, Bool.not_true, Bool.not_false, AO.isC, Bool.or_true, Bool.true_or, Bool.or_false, Bool.false_or, WpD_cons, WpD_nil, opD, evD_some, guardD_true, guardD_false, specP, stateP, c1, c2, codeE, Bool.true_or, Bool.or_true, Bool.or_false, Bool.false_or]
theorem used9b_ok (h179 : Std T 179 f179) (x : Spec) (t : State) : Gives T 179 [specP x, stateP t] (.bool (usedB x t)) := by
  refine gives h179 rfl ?_
  unfold usedB
  by_cases c1 : x.pre < t.pre <;> by_cases c2 : x.shi < t.shi <;>
    simp only [f179, Wp_seq, Wp_ops, Wp_cond, Wp_skip, Wp_ret, Wp_exit, Wp_block, WpO_cons, WpO_nil, opQ, evOp, evO, evOs, evQ_some, guardV, guardQ_true, guardQ_false, boolQ_true, boolQ_false, argsA, pvs, putS, cellsOf, scals, scal, seqQ_normal, seqQ_ret, seqQ_exit, blkQ_normal, blkQ_ret, blkQ_exit, look_if, blkAt_if, if_true, if_false, Nat.reduceEqDiff, Nat.reduceAdd, true_implies, reduceCtorEq, false_implies, and_true, true_and, List.nil_append, List.cons_append, Bool.and_self, Nat.zero_add, Nat.add_zero, fieldA, nonNil, cellsAt, loadV_one, loadV_pvs, loadV_cons, mkAgg, allPV, List.drop_zero, List.drop_succ_cons, List.take_succ_cons, List.take_zero, List.length_cons, List.length_nil, Nat.beq_eq, storeB, patchL, beq_self_eq_true, ge_iff_le, gt_iff_lt, Int.reduceNeg, Int.reduceLE, Int.reduceLT, Int.reduceEq, extractV, List.getElem?_cons_zero, List.getElem?_cons_succ, mkAgg, Nat.add_eq_left, Nat.left_eq_add, Nat.one_ne_zero, ble_dec, beq_dec, decide_eq_true_eq, Nat.reduceLeDiff, Nat.le_refl, fillA, pureVs, pureV, beq_int, bne_int, Int.natCast_inj, eq_self, eqV, eqB, decide_true, decide_false, List.length_map, Int.toNat_natCast, List.getElem?_map, Option.map_some, Option.map_none, Int.natCast_nonneg, Option.some.injEq, lenV, binV, intBin, intV, idxA, ne_eq, not_true_eq_false, not_false_eq_true, List.drop, List.take, RetP, retP, resV, resOne, snapV, snapVs, snapR, snapRs, ownSz, pickV, cond_true, cond_false, bTT, bTF, bFT, bFF, Bool.not_true, Bool.not_false, AO.isC, Bool.or_true, Bool.true_or, Bool.or_false, Bool.false_or, WpD_cons, WpD_nil, opD, evD_some, guardD_true, guardD_false, specP, stateP, c1, c2, Bool.true_or, Bool.or_true, Bool.or_false, Bool.false_or]

/-! ### The laws' own helpers -/
theorem code_nil (h102 : Std T 102 f102) : Gives T 102 [.nili] (.int .i64 0) := by
  refine gives h102 rfl ?_
  simp only [f102, Wp_seq, Wp_ops, Wp_cond, Wp_skip, Wp_ret, Wp_exit, Wp_block, WpO_cons, WpO_nil, opQ, evOp, evO, evOs, evQ_some, guardV, guardQ_true, guardQ_false, boolQ_true, boolQ_false, argsA, pvs, putS, cellsOf, scals, scal, seqQ_normal, seqQ_ret, seqQ_exit, blkQ_normal, blkQ_ret, blkQ_exit, look_if, blkAt_if, if_true, if_false, Nat.reduceEqDiff, Nat.reduceAdd, true_implies, reduceCtorEq, false_implies, and_true, true_and, List.nil_append, List.cons_append, Bool.and_self, Nat.zero_add, Nat.add_zero, fieldA, nonNil, cellsAt, loadV_one, loadV_pvs, loadV_cons, mkAgg, allPV, List.drop_zero, List.drop_succ_cons, List.take_succ_cons, List.take_zero, List.length_cons, List.length_nil, Nat.beq_eq, storeB, patchL, beq_self_eq_true, ge_iff_le, gt_iff_lt, Int.reduceNeg, Int.reduceLE, Int.reduceLT, Int.reduceEq, extractV, List.getElem?_cons_zero, List.getElem?_cons_succ, mkAgg, Nat.add_eq_left, Nat.left_eq_add, Nat.one_ne_zero, ble_dec, beq_dec, decide_eq_true_eq, Nat.reduceLeDiff, Nat.le_refl, fillA, pureVs, pureV, beq_int, bne_int, Int.natCast_inj, eq_self, eqV, eqB, decide_true, decide_false, List.length_map, Int.toNat_natCast, List.getElem?_map, Option.map_some, Option.map_none, Int.natCast_nonneg, Option.some.injEq, lenV, binV, intBin, intV, idxA, ne_eq, not_true_eq_false, not_false_eq_true, List.drop, List.take, RetP, retP, resV, resOne, snapV, snapVs, snapR, snapRs, ownSz, pickV, cond_true, cond_false, bTT, bTF, bFT, bFF, Bool.not_true, Bool.not_false, AO.isC, Bool.or_true, Bool.true_or, Bool.or_false, Bool.false_or, WpD_cons, WpD_nil, opD, evD_some, guardD_true, guardD_false, AO.isC, Bool.or_true]
def bad1 : Option (Int × Int) → Int
  | none => 0
  | some (c, _) => c
def bad2 : Option (Int × Int) → Int
  | none => -1
  | some (_, i) => i
/-- Told, of what is told with a place. -/
theorem told_ok (h105 : Std T 105 f105) (h102 : Std T 102 f102) (h103 : StdP T 103 isP) (o : Option (Int × Int)) (h : ∀ c i, o = some (c, i) → 0 ≤ i) :
    Gives T 105 [errO o, .int .i64 (bad1 o), .int .i64 (bad2 o)] (.bool true) := by
  refine gives h105 rfl ?_
  cases o with
  | none => simp only [f105, Wp_seq, Wp_ops, Wp_cond, Wp_skip, Wp_ret, Wp_exit, Wp_block, WpO_cons, WpO_nil, opQ, evOp, evO, evOs, evQ_some, guardV, guardQ_true, guardQ_false, boolQ_true, boolQ_false, argsA, pvs, putS, cellsOf, scals, scal, seqQ_normal, seqQ_ret, seqQ_exit, blkQ_normal, blkQ_ret, blkQ_exit, look_if, blkAt_if, if_true, if_false, Nat.reduceEqDiff, Nat.reduceAdd, true_implies, reduceCtorEq, false_implies, and_true, true_and, List.nil_append, List.cons_append, Bool.and_self, Nat.zero_add, Nat.add_zero, fieldA, nonNil, cellsAt, loadV_one, loadV_pvs, loadV_cons, mkAgg, allPV, List.drop_zero, List.drop_succ_cons, List.take_succ_cons, List.take_zero, List.length_cons, List.length_nil, Nat.beq_eq, storeB, patchL, beq_self_eq_true, ge_iff_le, gt_iff_lt, Int.reduceNeg, Int.reduceLE, Int.reduceLT, Int.reduceEq, extractV, List.getElem?_cons_zero, List.getElem?_cons_succ, mkAgg, Nat.add_eq_left, Nat.left_eq_add, Nat.one_ne_zero, ble_dec, beq_dec, decide_eq_true_eq, Nat.reduceLeDiff, Nat.le_refl, fillA, pureVs, pureV, beq_int, bne_int, Int.natCast_inj, eq_self, eqV, eqB, decide_true, decide_false, List.length_map, Int.toNat_natCast, List.getElem?_map, Option.map_some, Option.map_none, Int.natCast_nonneg, Option.some.injEq, lenV, binV, intBin, intV, idxA, ne_eq, not_true_eq_false, not_false_eq_true, List.drop, List.take, RetP, retP, resV, resOne, snapV, snapVs, snapR, snapRs, ownSz, pickV, cond_true, cond_false, bTT, bTF, bFT, bFF, Bool.not_true, Bool.not_false, AO.isC, Bool.or_true, Bool.true_or, Bool.or_false, Bool.false_or, WpD_cons, WpD_nil, opD, evD_some, guardD_true, guardD_false, errO, bad1, bad2, (code_nil h102).call]
  | some q =>
    obtain ⟨c, i⟩ := q
    have hi : ¬ i < 0 := by have := h c i rfl; omega
    have k := is_ok h103 (e := spotE i c) (x := i) (y := c) (b := true) (by simp [isV, spotE])
    simp only [f105, Wp_seq, Wp_ops, Wp_cond, Wp_skip, Wp_ret, Wp_exit, Wp_block, WpO_cons, WpO_nil, opQ, evOp, evO, evOs, evQ_some, guardV, guardQ_true, guardQ_false, boolQ_true, boolQ_false, argsA, pvs, putS, cellsOf, scals, scal, seqQ_normal, seqQ_ret, seqQ_exit, blkQ_normal, blkQ_ret, blkQ_exit, look_if, blkAt_if, if_true, if_false, Nat.reduceEqDiff, Nat.reduceAdd, true_implies, reduceCtorEq, false_implies, and_true, true_and, List.nil_append, List.cons_append, Bool.and_self, Nat.zero_add, Nat.add_zero, fieldA, nonNil, cellsAt, loadV_one, loadV_pvs, loadV_cons, mkAgg, allPV, List.drop_zero, List.drop_succ_cons, List.take_succ_cons, List.take_zero, List.length_cons, List.length_nil, Nat.beq_eq, storeB, patchL, beq_self_eq_true, ge_iff_le, gt_iff_lt, Int.reduceNeg, Int.reduceLE, Int.reduceLT, Int.reduceEq, extractV, List.getElem?_cons_zero, List.getElem?_cons_succ, mkAgg, Nat.add_eq_left, Nat.left_eq_add, Nat.one_ne_zero, ble_dec, beq_dec, decide_eq_true_eq, Nat.reduceLeDiff, Nat.le_refl, fillA, pureVs, pureV, beq_int, bne_int, Int.natCast_inj, eq_self, eqV, eqB, decide_true, decide_false, List.length_map, Int.toNat_natCast, List.getElem?_map, Option.map_some, Option.map_none, Int.natCast_nonneg, Option.some.injEq, lenV, binV, intBin, intV, idxA, ne_eq, not_true_eq_false, not_false_eq_true, List.drop, List.take, RetP, retP, resV, resOne, snapV, snapVs, snapR, snapRs, ownSz, pickV, cond_true, cond_false, bTT, bTF, bFT, bFF, Bool.not_true, Bool.not_false, AO.isC, Bool.or_true, Bool.true_or, Bool.or_false, Bool.false_or, WpD_cons, WpD_nil, opD, evD_some, guardD_true, guardD_false, errO, bad1, bad2, spotE, hi]
    simp only [spotE] at k
    simp only [Wp_seq, Wp_ops, Wp_cond, Wp_skip, Wp_ret, Wp_exit, Wp_block, WpO_cons, WpO_nil, opQ, evOp, evO, evOs, evQ_some, guardV, guardQ_true, guardQ_false, boolQ_true, boolQ_false, argsA, pvs, putS, cellsOf, scals, scal, seqQ_normal, seqQ_ret, seqQ_exit, blkQ_normal, blkQ_ret, blkQ_exit, look_if, blkAt_if, if_true, if_false, Nat.reduceEqDiff, Nat.reduceAdd, true_implies, reduceCtorEq, false_implies, and_true, true_and, List.nil_append, List.cons_append, Bool.and_self, Nat.zero_add, Nat.add_zero, fieldA, nonNil, cellsAt, loadV_one, loadV_pvs, loadV_cons, mkAgg, allPV, List.drop_zero, List.drop_succ_cons, List.take_succ_cons, List.take_zero, List.length_cons, List.length_nil, Nat.beq_eq, storeB, patchL, beq_self_eq_true, ge_iff_le, gt_iff_lt, Int.reduceNeg, Int.reduceLE, Int.reduceLT, Int.reduceEq, extractV, List.getElem?_cons_zero, List.getElem?_cons_succ, mkAgg, Nat.add_eq_left, Nat.left_eq_add, Nat.one_ne_zero, ble_dec, beq_dec, decide_eq_true_eq, Nat.reduceLeDiff, Nat.le_refl, fillA, pureVs, pureV, beq_int, bne_int, Int.natCast_inj, eq_self, eqV, eqB, decide_true, decide_false, List.length_map, Int.toNat_natCast, List.getElem?_map, Option.map_some, Option.map_none, Int.natCast_nonneg, Option.some.injEq, lenV, binV, intBin, intV, idxA, ne_eq, not_true_eq_false, not_false_eq_true, List.drop, List.take, RetP, retP, resV, resOne, snapV, snapVs, snapR, snapRs, ownSz, pickV, cond_true, cond_false, bTT, bTF, bFT, bFF, Bool.not_true, Bool.not_false, AO.isC, Bool.or_true, Bool.true_or, Bool.or_false, Bool.false_or, WpD_cons, WpD_nil, opD, evD_some, guardD_true, guardD_false, k.call]
end
end Go.Proofs.YtlgfanbdjigmiaaDoor.Ab
/- Law 9: BudgetTells. -/
set_option linter.unusedVariables false
set_option linter.unusedSimpArgs false
namespace Go.Proofs.YtlgfanbdjigmiaaDoor.Ab
open Go

def l09 : List (Nat × AFunc) := [(70, f70), (71, f71), (72, f72), (102, f102), (105, f105), (153, f153), (163, f163), (173, f173), (176, f176), (179, f179), (316, f316), (317, f317)]
def p09 : List (Nat × Prm) := [(103, isP)]
def T09 : Tab := tabOf l09 [] [] [] [317] p09

theorem up09 : Gives T09 317 [] (.bool true) := ⟨rfl, rfl, none, callP_true (k := 60) (by decide +kernel)⟩

theorem badLoad_pos (pods : List Pod) : ∀ (l : List Load) (i : Nat) c k, badLoad pods i l = some (c, k) → 0 ≤ k
  | [], i, c, k, h => by simp [badLoad] at h
  | a :: r, i, c, k, h => by
    simp only [badLoad] at h
    split at h
    · simp only [Option.some.injEq, Prod.mk.injEq] at h; omega
    · split at h
      · simp only [Option.some.injEq, Prod.mk.injEq] at h; omega
      · exact badLoad_pos pods r (i + 1) c k h

theorem law09a (s : Snap) (x : Spec) (t : State) (load : Int) (_ : s.wf) (_ : x.wf) (_ : t.wf) (_ : inI load) : Gives T09 316 [snapP s, specP x, stateP t, .int .i64 load] (.bool true) := by
  refine gives (f := f316) ⟨rfl, rfl, rfl, rfl, rfl⟩ rfl ?_
  have kf := few5_ok (T := T09) ⟨rfl, rfl, rfl, rfl, rfl⟩ ⟨rfl, rfl, rfl, rfl, rfl⟩ s x t
  cases hf : few5 s x t
  · simp only [f316, Wp_seq, Wp_ops, Wp_cond, Wp_skip, Wp_ret, Wp_exit, Wp_block, WpO_cons, WpO_nil, opQ, evOp, evO, evOs, evQ_some, guardV, guardQ_true, guardQ_false, boolQ_true, boolQ_false, argsA, pvs, putS, cellsOf, scals, scal, seqQ_normal, seqQ_ret, seqQ_exit, blkQ_normal, blkQ_ret, blkQ_exit, look_if, blkAt_if, if_true, if_false, Nat.reduceEqDiff, Nat.reduceAdd, true_implies, reduceCtorEq, false_implies, and_true, true_and, List.nil_append, List.cons_append, Bool.and_self, Nat.zero_add, Nat.add_zero, fieldA, nonNil, cellsAt, loadV_one, loadV_pvs, loadV_cons, mkAgg, allPV, List.drop_zero, List.drop_succ_cons, List.take_succ_cons, List.take_zero, List.length_cons, List.length_nil, Nat.beq_eq, storeB, patchL, beq_self_eq_true, ge_iff_le, gt_iff_lt, Int.reduceNeg, Int.reduceLE, Int.reduceLT, Int.reduceEq, extractV, List.getElem?_cons_zero, List.getElem?_cons_succ, mkAgg, Nat.add_eq_left, Nat.left_eq_add, Nat.one_ne_zero, ble_dec, beq_dec, decide_eq_true_eq, Nat.reduceLeDiff, Nat.le_refl, fillA, pureVs, pureV, beq_int, bne_int, Int.natCast_inj, eq_self, eqV, eqB, decide_true, decide_false, List.length_map, Int.toNat_natCast, List.getElem?_map, Option.map_some, Option.map_none, Int.natCast_nonneg, Option.some.injEq, lenV, binV, intBin, intV, idxA, ne_eq, not_true_eq_false, not_false_eq_true, List.drop, List.take, RetP, retP, resV, resOne, snapV, snapVs, snapR, snapRs, ownSz, pickV, cond_true, cond_false, bTT, bTF, bFT, bFF, Bool.not_true, Bool.not_false, AO.isC, Bool.or_true, Bool.true_or, Bool.or_false, Bool.false_or, WpD_cons, WpD_nil, opD, evD_some, guardD_true, guardD_false, up09.call, snapP, specP, stateP, kf.call, hf]
  · have hf' := hf
    simp only [few5, few3, Bool.and_eq_true, decide_eq_true_eq] at hf'
    obtain ⟨⟨l1, l2, l3⟩, l4, l5⟩ := hf'
    have b2 : s.loads.length ≤ 2 ^ 30 := by omega
    have b5 : t.pods.length ≤ 2 ^ 30 := by omega
    have k1 := check9_ok (T := T09) ⟨rfl, rfl, rfl, rfl, rfl⟩ ⟨rfl, rfl, rfl, rfl, rfl⟩ s t b5 b2
    have k2 := check9b_ok (T := T09) ⟨rfl, rfl, rfl, rfl, rfl⟩ ⟨rfl, rfl, rfl, rfl, rfl⟩ s t b5 b2
    have k3 := used9_ok (T := T09) ⟨rfl, rfl, rfl, rfl, rfl⟩ x t
    have k4 := used9b_ok (T := T09) ⟨rfl, rfl, rfl, rfl, rfl⟩ x t
    have k5 := size_ok (T := T09) ⟨rfl, rfl, rfl, rfl, rfl⟩ t load b5
    have k6 := size2_ok (T := T09) ⟨rfl, rfl, rfl, rfl, rfl⟩ t load b5
    have k7 := told_ok (T := T09) ⟨rfl, rfl, rfl, rfl, rfl⟩ ⟨rfl, rfl, rfl, rfl, rfl⟩ ⟨rfl, rfl, rfl⟩ (badLoad t.pods 0 s.loads) (fun c i h => badLoad_pos _ _ _ _ _ h)
    cases hu : usedB x t <;> cases ho : badLoad t.pods 0 s.loads <;>
    · rw [hu] at k3 k4
      rw [ho] at k1 k2 k7
      simp only [f316, Wp_seq, Wp_ops, Wp_cond, Wp_skip, Wp_ret, Wp_exit, Wp_block, WpO_cons, WpO_nil, opQ, evOp, evO, evOs, evQ_some, guardV, guardQ_true, guardQ_false, boolQ_true, boolQ_false, argsA, pvs, putS, cellsOf, scals, scal, seqQ_normal, seqQ_ret, seqQ_exit, blkQ_normal, blkQ_ret, blkQ_exit, look_if, blkAt_if, if_true, if_false, Nat.reduceEqDiff, Nat.reduceAdd, true_implies, reduceCtorEq, false_implies, and_true, true_and, List.nil_append, List.cons_append, Bool.and_self, Nat.zero_add, Nat.add_zero, fieldA, nonNil, cellsAt, loadV_one, loadV_pvs, loadV_cons, mkAgg, allPV, List.drop_zero, List.drop_succ_cons, List.take_succ_cons, List.take_zero, List.length_cons, List.length_nil, Nat.beq_eq, storeB, patchL, beq_self_eq_true, ge_iff_le, gt_iff_lt, Int.reduceNeg, Int.reduceLE, Int.reduceLT, Int.reduceEq, extractV, List.getElem?_cons_zero, List.getElem?_cons_succ, mkAgg, Nat.add_eq_left, Nat.left_eq_add, Nat.one_ne_zero, ble_dec, beq_dec, decide_eq_true_eq, Nat.reduceLeDiff, Nat.le_refl, fillA, pureVs, pureV, beq_int, bne_int, Int.natCast_inj, eq_self, eqV, eqB, decide_true, decide_false, List.length_map, Int.toNat_natCast, List.getElem?_map, Option.map_some, Option.map_none, Int.natCast_nonneg, Option.some.injEq, lenV, binV, intBin, intV, idxA, ne_eq, not_true_eq_false, not_false_eq_true, List.drop, List.take, RetP, retP, resV, resOne, snapV, snapVs, snapR, snapRs, ownSz, pickV, cond_true, cond_false, bTT, bTF, bFT, bFF, Bool.not_true, Bool.not_false, AO.isC, Bool.or_true, Bool.true_or, Bool.or_false, Bool.false_or, WpD_cons, WpD_nil, opD, evD_some, guardD_true, guardD_false, up09.call, snapP, specP, stateP, kf.call, hf, k2.call, k3.call, k4.call, badO, codeE]
      refine (Wp_calm rfl).2 ?_
      simp only [bad1, bad2] at k7
      simp only [Wp_seq, Wp_ops, Wp_cond, Wp_skip, Wp_ret, Wp_exit, Wp_block, WpO_cons, WpO_nil, opQ, evOp, evO, evOs, evQ_some, guardV, guardQ_true, guardQ_false, boolQ_true, boolQ_false, argsA, pvs, putS, cellsOf, scals, scal, seqQ_normal, seqQ_ret, seqQ_exit, blkQ_normal, blkQ_ret, blkQ_exit, look_if, blkAt_if, if_true, if_false, Nat.reduceEqDiff, Nat.reduceAdd, true_implies, reduceCtorEq, false_implies, and_true, true_and, List.nil_append, List.cons_append, Bool.and_self, Nat.zero_add, Nat.add_zero, fieldA, nonNil, cellsAt, loadV_one, loadV_pvs, loadV_cons, mkAgg, allPV, List.drop_zero, List.drop_succ_cons, List.take_succ_cons, List.take_zero, List.length_cons, List.length_nil, Nat.beq_eq, storeB, patchL, beq_self_eq_true, ge_iff_le, gt_iff_lt, Int.reduceNeg, Int.reduceLE, Int.reduceLT, Int.reduceEq, extractV, List.getElem?_cons_zero, List.getElem?_cons_succ, mkAgg, Nat.add_eq_left, Nat.left_eq_add, Nat.one_ne_zero, ble_dec, beq_dec, decide_eq_true_eq, Nat.reduceLeDiff, Nat.le_refl, fillA, pureVs, pureV, beq_int, bne_int, Int.natCast_inj, eq_self, eqV, eqB, decide_true, decide_false, List.length_map, Int.toNat_natCast, List.getElem?_map, Option.map_some, Option.map_none, Int.natCast_nonneg, Option.some.injEq, lenV, binV, intBin, intV, idxA, ne_eq, not_true_eq_false, not_false_eq_true, List.drop, List.take, RetP, retP, resV, resOne, snapV, snapVs, snapR, snapRs, ownSz, pickV, cond_true, cond_false, bTT, bTF, bFT, bFF, Bool.not_true, Bool.not_false, AO.isC, Bool.or_true, Bool.true_or, Bool.or_false, Bool.false_or, WpD_cons, WpD_nil, opD, evD_some, guardD_true, guardD_false, k1.callD, k5.callD, k6.callD, k7.callD, snapP, specP, stateP, errO, spotE]
end Go.Proofs.YtlgfanbdjigmiaaDoor.Ab
