/- The layer, part 4: Sp3b, Sp3c, Sp3d, Sp3e, Sp5e, Sp8p, Co12, Sp12, Sp12w, Sp9c. -/
import Derived.Test.YtlfphlobcopemaaGreatDoorA3
set_option linter.unusedVariables false
set_option linter.unusedSimpArgs false
namespace Go.Proofs.YtlfphlobcopemaaGreatDoor.Ab
open Go
def lookC (n last c : Int) : Int := if idP n last ≠ 0 then idP n last else c
def lookB (a n last c : Int) : Option (Int × Int) := if lookC n last c ≠ 0 then some (lookC n last c, a) else none
def ErrA (err : AV) (hp : Hl) (o : Option (Int × Int)) (kid nx : Nat) : Prop := match o with
  | none => err = .pv .nili
  | some (c, a) => ∃ b, err = .iface 1 (.ptr b 0 0) ∧ b < nx ∧ b ≠ kid ∧ blkAt hp b = .var [.pv (.int .i64 a), .pv (.int .i64 c)]
theorem ErrA.mono {err : AV} {hp hp' : Hl} {o : Option (Int × Int)} {kid nx nx' : Nat} (h : ErrA err hp o kid nx) (h1 : ∀ j, j < nx → j ≠ kid → blkAt hp' j = blkAt hp j) (h2 : nx ≤ nx') : ErrA err hp' o kid nx' := by
  cases o with
  | none => exact h
  | some q =>
    obtain ⟨c, a⟩ := q
    obtain ⟨b, e1, e2, e3, e4⟩ := h
    exact ⟨b, e1, by omega, e3, by rw [h1 b e2 e3, e4]⟩
def Looks (T : Tab) (g : Nat) (cs : List AV) (p : PV) (hp : Hl) (nx : Nat) : Prop := T.raw g = true ∧ ∀ hp' nx', nx ≤ nx' → (∀ k, k < nx → blkAt hp' k = blkAt hp k) → D T g cs hp' nx' = some (.pv p, hp', nx')
section
variable {T : Tab}
set_option maxRecDepth 100000 in
set_option maxHeartbeats 4000000 in
theorem look_ok (S16 : StdR T 16 f16) (h86 : Std T 86 f86) (hA : StdA T 266) (kid : Nat) (a n last c : Int) (err fv : AV) (g : Nat) (cs : List AV) (hp : Hl) (nx : Nat) (o : Option (Int × Int)) (hf : funV fv = some (g, [], cs)) (hk : kid < nx)
    (hb : blkAt hp kid = .var [.pv (.int .i64 a), .pv (.int .i64 last), err]) (ho : Looks T g cs (errC c) hp nx) (hE : ErrA err hp o kid nx) (h0 : 0 ≤ a) (h1 : a ≤ 2 ^ 30) :
    ∃ v hp' nx', D T 16 [.ptr kid 0 0, .pv (.int .i64 n), fv] hp nx = some (v, hp', nx') ∧ ∃ err', nx ≤ nx' ∧ blkAt hp' kid = .var [.pv (.int .i64 (a + 1)), .pv (.int .i64 n), err'] ∧ ErrA err' hp' (o.or (lookB a n last c)) kid nx' ∧ ∀ j, j < nx → j ≠ kid → blkAt hp' j = blkAt hp j := by
  refine D_wp S16 rfl ?_
  have ki := id_ok h86 n last
  have hw : IntKind.i64.wrap (a + 1) = a + 1 := by rw [wrap6] <;> omega
  have e1 : ¬ nx = kid := by omega
  have e2 : ¬ nx + 1 = kid := by omega
  have f1 : ¬ kid = nx := by omega
  have f2 : ¬ kid = nx + 1 := by omega
  cases o with
  | some q =>
    obtain ⟨c0, a0⟩ := q
    obtain ⟨b, rfl, b1, b2, b3⟩ := hE
    simp only [f16, runL, opQ, evOp, evO, evOs, guardV, argsA, pvs, putS, cellsOf, scals, scal, Nat.reduceEqDiff, Nat.reduceAdd, reduceCtorEq, fieldA, nonNil, cellsAt, mkAgg, allPV, storeB, patchL, Int.reduceToNat, Nat.reduceMul, Nat.reduceLT, stepA, Int.reduceNeg, Int.reduceLE, Int.reduceLT, Int.reduceEq, extractV, mkAgg, Nat.reduceLeDiff, fillA, pureVs, pureV, eqV, eqB, lenV.eq_1, lenV.eq_2, lenV.eq_3, lenV.eq_4, binV, intBin, intV, idxA, List.drop, List.take, RetP, retP, resV, resOne, snapV, snapVs, snapR, snapRs, ownSz, pickV, AO.isC, opE, opD, funV.eq_1, funV.eq_2, hb, hw]
    simp only [RawQ, rawq, runL, opQ, evOp, evO, evOs, guardV, argsA, pvs, putS, cellsOf, scals, scal, Nat.reduceEqDiff, Nat.reduceAdd, reduceCtorEq, fieldA, nonNil, cellsAt, mkAgg, allPV, storeB, patchL, Int.reduceToNat, Nat.reduceMul, Nat.reduceLT, stepA, Int.reduceNeg, Int.reduceLE, Int.reduceLT, Int.reduceEq, extractV, mkAgg, Nat.reduceLeDiff, fillA, pureVs, pureV, eqV, eqB, lenV.eq_1, lenV.eq_2, lenV.eq_3, lenV.eq_4, binV, intBin, intV, idxA, List.drop, List.take, RetP, retP, resV, resOne, snapV, snapVs, snapR, snapRs, ownSz, pickV, AO.isC, opE, opD, funV.eq_1, funV.eq_2]
    refine ⟨.iface 1 (.ptr b 0 0), rfl, ⟨b, rfl, b1, b2, ?_⟩, fun j hj hne => ?_⟩
    · have : ¬ kid = b := fun h => b2 h.symm
      simp only [look_if, blkAt_if, Nat.reduceEqDiff, if_true, if_false, this, b3]
    · have : ¬ kid = j := fun h => hne h.symm
      simp only [this, if_false]
  | none =>
    have hE' : err = .pv .nili := hE
    subst hE'
    have fin : ∀ cc, lookC n last c = cc → cc ≠ 0 → (none : Option (Int × Int)).or (lookB a n last c) = some (cc, a) := fun cc h1 h2 => by
      unfold lookB
      rw [h1, if_pos h2]
      rfl
    by_cases hi : idP n last = 0
    · have hl : lookC n last c = c := by unfold lookC; rw [if_neg (by simpa using hi)]
      rw [hi, errC0] at ki
      simp only [f16, runL, opQ, evOp, evO, evOs, guardV, argsA, pvs, putS, cellsOf, scals, scal, Nat.reduceEqDiff, Nat.reduceAdd, reduceCtorEq, fieldA, nonNil, cellsAt, mkAgg, allPV, storeB, patchL, Int.reduceToNat, Nat.reduceMul, Nat.reduceLT, stepA, Int.reduceNeg, Int.reduceLE, Int.reduceLT, Int.reduceEq, extractV, mkAgg, Nat.reduceLeDiff, fillA, pureVs, pureV, eqV, eqB, lenV.eq_1, lenV.eq_2, lenV.eq_3, lenV.eq_4, binV, intBin, intV, idxA, List.drop, List.take, RetP, retP, resV, resOne, snapV, snapVs, snapR, snapRs, ownSz, pickV, AO.isC, opE, opD, funV.eq_1, funV.eq_2, hb, ki.call, hf, funQ]
      rw [callQ_raw ho.1 (by simpa only [List.append_nil] using ho.2 hp nx (Nat.le_refl _) (fun _ _ => rfl))]
      by_cases hc : c = 0
      · have hn : (none : Option (Int × Int)).or (lookB a n last c) = none := by
          unfold lookB
          rw [hl, if_neg (by simpa using hc)]
          rfl
        rw [hc, errC0]
        simp only [runL, opQ, evOp, evO, evOs, guardV, argsA, pvs, putS, cellsOf, scals, scal, Nat.reduceEqDiff, Nat.reduceAdd, reduceCtorEq, fieldA, nonNil, cellsAt, mkAgg, allPV, storeB, patchL, Int.reduceToNat, Nat.reduceMul, Nat.reduceLT, stepA, Int.reduceNeg, Int.reduceLE, Int.reduceLT, Int.reduceEq, extractV, mkAgg, Nat.reduceLeDiff, fillA, pureVs, pureV, eqV, eqB, lenV.eq_1, lenV.eq_2, lenV.eq_3, lenV.eq_4, binV, intBin, intV, idxA, List.drop, List.take, RetP, retP, resV, resOne, snapV, snapVs, snapR, snapRs, ownSz, pickV, AO.isC, opE, opD, funV.eq_1, funV.eq_2, as_nilQ hA, hb, e1, hw]
        simp only [RawQ, rawq, runL, opQ, evOp, evO, evOs, guardV, argsA, pvs, putS, cellsOf, scals, scal, Nat.reduceEqDiff, Nat.reduceAdd, reduceCtorEq, fieldA, nonNil, cellsAt, mkAgg, allPV, storeB, patchL, Int.reduceToNat, Nat.reduceMul, Nat.reduceLT, stepA, Int.reduceNeg, Int.reduceLE, Int.reduceLT, Int.reduceEq, extractV, mkAgg, Nat.reduceLeDiff, fillA, pureVs, pureV, eqV, eqB, lenV.eq_1, lenV.eq_2, lenV.eq_3, lenV.eq_4, binV, intBin, intV, idxA, List.drop, List.take, RetP, retP, resV, resOne, snapV, snapVs, snapR, snapRs, ownSz, pickV, AO.isC, opE, opD, funV.eq_1, funV.eq_2, e1, f1]
        rw [← hc, hn]
        refine ⟨.pv .nili, by omega, rfl, rfl, fun j hj hne => ?_⟩
        have g1 : ¬ nx = j := by omega
        have g2 : ¬ kid = j := fun h => hne h.symm
        simp only [g1, g2, if_false]
      · have hc' : errC c = .iface 0 (.int .i64 c) := if_neg hc
        rw [hc']
        simp only [runL, opQ, evOp, evO, evOs, guardV, argsA, pvs, putS, cellsOf, scals, scal, Nat.reduceEqDiff, Nat.reduceAdd, reduceCtorEq, fieldA, nonNil, cellsAt, mkAgg, allPV, storeB, patchL, Int.reduceToNat, Nat.reduceMul, Nat.reduceLT, stepA, Int.reduceNeg, Int.reduceLE, Int.reduceLT, Int.reduceEq, extractV, mkAgg, Nat.reduceLeDiff, fillA, pureVs, pureV, eqV, eqB, lenV.eq_1, lenV.eq_2, lenV.eq_3, lenV.eq_4, binV, intBin, intV, idxA, List.drop, List.take, RetP, retP, resV, resOne, snapV, snapVs, snapR, snapRs, ownSz, pickV, AO.isC, opE, opD, funV.eq_1, funV.eq_2]
        refine (as_codeQ hA (o := 0) ?_).2 ?_
        · simp only [runL, opQ, evOp, evO, evOs, guardV, argsA, pvs, putS, cellsOf, scals, scal, Nat.reduceEqDiff, Nat.reduceAdd, reduceCtorEq, fieldA, nonNil, cellsAt, mkAgg, allPV, storeB, patchL, Int.reduceToNat, Nat.reduceMul, Nat.reduceLT, stepA, Int.reduceNeg, Int.reduceLE, Int.reduceLT, Int.reduceEq, extractV, mkAgg, Nat.reduceLeDiff, fillA, pureVs, pureV, eqV, eqB, lenV.eq_1, lenV.eq_2, lenV.eq_3, lenV.eq_4, binV, intBin, intV, idxA, List.drop, List.take, RetP, retP, resV, resOne, snapV, snapVs, snapR, snapRs, ownSz, pickV, AO.isC, opE, opD, funV.eq_1, funV.eq_2]
        · simp only [runL, opQ, evOp, evO, evOs, guardV, argsA, pvs, putS, cellsOf, scals, scal, Nat.reduceEqDiff, Nat.reduceAdd, reduceCtorEq, fieldA, nonNil, cellsAt, mkAgg, allPV, storeB, patchL, Int.reduceToNat, Nat.reduceMul, Nat.reduceLT, stepA, Int.reduceNeg, Int.reduceLE, Int.reduceLT, Int.reduceEq, extractV, mkAgg, Nat.reduceLeDiff, fillA, pureVs, pureV, eqV, eqB, lenV.eq_1, lenV.eq_2, lenV.eq_3, lenV.eq_4, binV, intBin, intV, idxA, List.drop, List.take, RetP, retP, resV, resOne, snapV, snapVs, snapR, snapRs, ownSz, pickV, AO.isC, opE, opD, funV.eq_1, funV.eq_2, hb, e1]
          refine (Wp_calmS rfl).2 ?_
          simp only [runL, opQ, evOp, evO, evOs, guardV, argsA, pvs, putS, cellsOf, scals, scal, Nat.reduceEqDiff, Nat.reduceAdd, reduceCtorEq, fieldA, nonNil, cellsAt, mkAgg, allPV, storeB, patchL, Int.reduceToNat, Nat.reduceMul, Nat.reduceLT, stepA, Int.reduceNeg, Int.reduceLE, Int.reduceLT, Int.reduceEq, extractV, mkAgg, Nat.reduceLeDiff, fillA, pureVs, pureV, eqV, eqB, lenV.eq_1, lenV.eq_2, lenV.eq_3, lenV.eq_4, binV, intBin, intV, idxA, List.drop, List.take, RetP, retP, resV, resOne, snapV, snapVs, snapR, snapRs, ownSz, pickV, AO.isC, opE, opD, funV.eq_1, funV.eq_2, hb, e1, e2, f1, f2, hw]
          simp only [RawQ, rawq, runL, opQ, evOp, evO, evOs, guardV, argsA, pvs, putS, cellsOf, scals, scal, Nat.reduceEqDiff, Nat.reduceAdd, reduceCtorEq, fieldA, nonNil, cellsAt, mkAgg, allPV, storeB, patchL, Int.reduceToNat, Nat.reduceMul, Nat.reduceLT, stepA, Int.reduceNeg, Int.reduceLE, Int.reduceLT, Int.reduceEq, extractV, mkAgg, Nat.reduceLeDiff, fillA, pureVs, pureV, eqV, eqB, lenV.eq_1, lenV.eq_2, lenV.eq_3, lenV.eq_4, binV, intBin, intV, idxA, List.drop, List.take, RetP, retP, resV, resOne, snapV, snapVs, snapR, snapRs, ownSz, pickV, AO.isC, opE, opD, funV.eq_1, funV.eq_2, e1, e2, f1, f2]
          rw [fin c hl hc]
          refine ⟨.iface 1 (.ptr (nx + 1) 0 0), by omega, rfl, ⟨nx + 1, rfl, by omega, by omega, ?_⟩, fun j hj hne => ?_⟩
          · simp only [look_if, blkAt_if, Nat.reduceEqDiff, if_true, if_false, f2]
          · have g1 : ¬ nx = j := by omega
            have g3 : ¬ nx + 1 = j := by omega
            have g2 : ¬ kid = j := fun h => hne h.symm
            simp only [g1, g2, g3, if_false]
    · have hl : lookC n last c = idP n last := by unfold lookC; rw [if_pos hi]
      have hc' : errC (idP n last) = .iface 0 (.int .i64 (idP n last)) := if_neg hi
      rw [hc'] at ki
      simp only [f16, runL, opQ, evOp, evO, evOs, guardV, argsA, pvs, putS, cellsOf, scals, scal, Nat.reduceEqDiff, Nat.reduceAdd, reduceCtorEq, fieldA, nonNil, cellsAt, mkAgg, allPV, storeB, patchL, Int.reduceToNat, Nat.reduceMul, Nat.reduceLT, stepA, Int.reduceNeg, Int.reduceLE, Int.reduceLT, Int.reduceEq, extractV, mkAgg, Nat.reduceLeDiff, fillA, pureVs, pureV, eqV, eqB, lenV.eq_1, lenV.eq_2, lenV.eq_3, lenV.eq_4, binV, intBin, intV, idxA, List.drop, List.take, RetP, retP, resV, resOne, snapV, snapVs, snapR, snapRs, ownSz, pickV, AO.isC, opE, opD, funV.eq_1, funV.eq_2, hb, ki.call]
      refine (as_codeQ hA (o := 0) ?_).2 ?_
      · simp only [runL, opQ, evOp, evO, evOs, guardV, argsA, pvs, putS, cellsOf, scals, scal, Nat.reduceEqDiff, Nat.reduceAdd, reduceCtorEq, fieldA, nonNil, cellsAt, mkAgg, allPV, storeB, patchL, Int.reduceToNat, Nat.reduceMul, Nat.reduceLT, stepA, Int.reduceNeg, Int.reduceLE, Int.reduceLT, Int.reduceEq, extractV, mkAgg, Nat.reduceLeDiff, fillA, pureVs, pureV, eqV, eqB, lenV.eq_1, lenV.eq_2, lenV.eq_3, lenV.eq_4, binV, intBin, intV, idxA, List.drop, List.take, RetP, retP, resV, resOne, snapV, snapVs, snapR, snapRs, ownSz, pickV, AO.isC, opE, opD, funV.eq_1, funV.eq_2]
      · simp only [runL, opQ, evOp, evO, evOs, guardV, argsA, pvs, putS, cellsOf, scals, scal, Nat.reduceEqDiff, Nat.reduceAdd, reduceCtorEq, fieldA, nonNil, cellsAt, mkAgg, allPV, storeB, patchL, Int.reduceToNat, Nat.reduceMul, Nat.reduceLT, stepA, Int.reduceNeg, Int.reduceLE, Int.reduceLT, Int.reduceEq, extractV, mkAgg, Nat.reduceLeDiff, fillA, pureVs, pureV, eqV, eqB, lenV.eq_1, lenV.eq_2, lenV.eq_3, lenV.eq_4, binV, intBin, intV, idxA, List.drop, List.take, RetP, retP, resV, resOne, snapV, snapVs, snapR, snapRs, ownSz, pickV, AO.isC, opE, opD, funV.eq_1, funV.eq_2, hb, e1]
        refine (Wp_calmS rfl).2 ?_
        simp only [runL, opQ, evOp, evO, evOs, guardV, argsA, pvs, putS, cellsOf, scals, scal, Nat.reduceEqDiff, Nat.reduceAdd, reduceCtorEq, fieldA, nonNil, cellsAt, mkAgg, allPV, storeB, patchL, Int.reduceToNat, Nat.reduceMul, Nat.reduceLT, stepA, Int.reduceNeg, Int.reduceLE, Int.reduceLT, Int.reduceEq, extractV, mkAgg, Nat.reduceLeDiff, fillA, pureVs, pureV, eqV, eqB, lenV.eq_1, lenV.eq_2, lenV.eq_3, lenV.eq_4, binV, intBin, intV, idxA, List.drop, List.take, RetP, retP, resV, resOne, snapV, snapVs, snapR, snapRs, ownSz, pickV, AO.isC, opE, opD, funV.eq_1, funV.eq_2, hb, e1, e2, f1, f2, hw]
        simp only [RawQ, rawq, runL, opQ, evOp, evO, evOs, guardV, argsA, pvs, putS, cellsOf, scals, scal, Nat.reduceEqDiff, Nat.reduceAdd, reduceCtorEq, fieldA, nonNil, cellsAt, mkAgg, allPV, storeB, patchL, Int.reduceToNat, Nat.reduceMul, Nat.reduceLT, stepA, Int.reduceNeg, Int.reduceLE, Int.reduceLT, Int.reduceEq, extractV, mkAgg, Nat.reduceLeDiff, fillA, pureVs, pureV, eqV, eqB, lenV.eq_1, lenV.eq_2, lenV.eq_3, lenV.eq_4, binV, intBin, intV, idxA, List.drop, List.take, RetP, retP, resV, resOne, snapV, snapVs, snapR, snapRs, ownSz, pickV, AO.isC, opE, opD, funV.eq_1, funV.eq_2, e1, e2, f1, f2]
        rw [fin _ hl hi]
        refine ⟨.iface 1 (.ptr (nx + 1) 0 0), by omega, rfl, ⟨nx + 1, rfl, by omega, by omega, ?_⟩, fun j hj hne => ?_⟩
        · simp only [look_if, blkAt_if, Nat.reduceEqDiff, if_true, if_false, f2]
        · have g1 : ¬ nx = j := by omega
          have g3 : ¬ nx + 1 = j := by omega
          have g2 : ¬ kid = j := fun h => hne h.symm
          simp only [g1, g2, g3, if_false]
end
end Go.Proofs.YtlfphlobcopemaaGreatDoor.Ab
set_option linter.unusedVariables false
set_option linter.unusedSimpArgs false
namespace Go.Proofs.YtlfphlobcopemaaGreatDoor.Ab
open Go
def fstB {α : Type} (idOf own : α → Int) : Int → Int → List α → Option (Int × Int)
  | _, _, [] => none
  | last, a, x :: r => (lookB a (idOf x) last (own x)).or (fstB idOf own (idOf x) (a + 1) r)
def errG : Option (Int × Int) → PV
  | none => .nili
  | some (c, a) => if a < 0 then codeE c else spotE a c
def sizesOK (s : Snap) : Bool := decide (1 ≤ s.nodes.length) && (decide (s.nodes.length ≤ 8) && (decide (s.loads.length ≤ 8) && decide (s.pods.length ≤ 12)))
def checkB (s : Snap) : Option (Int × Int) := if sizesOK s = true then ((fstB Node.id nodeBad 0 0 s.nodes).or (fstB Load.id loadBad 0 s.nodes.length s.loads)).or (fstB Pod.id (podBad s) 0 ((s.nodes.length : Int) + s.loads.length) s.pods) else some (3, -1)
structure Std3 (T : Tab) : Prop where
  h16 : StdR T 16 f16
  h86 : Std T 86 f86
  hA : StdA T 266
  h77 : StdR T 77 f77
  h78 : StdR T 78 f78
  h79 : StdR T 79 f79
  h85 : Std T 85 f85
  h87 : Std T 87 f87
  h88 : Std T 88 f88
  h89 : Std T 89 f89
  h81 : Std T 81 f81
  h82 : Std T 82 f82
  hF : StdF T
  h76 : Std T 76 f76
section
variable {T : Tab}
theorem D_eq {n : Nat} {f : AFunc} {args : List AV} {hp hp' : Hl} {nx nx' : Nat} {v : AV} (S : StdR T n f) (hN : Nat.ble args.length f.N = true) (h : Wp T false f.body ⟨argsA 0 args, hp, nx⟩ (RawQ f.res (fun v1 h1 n1 => v1 = v ∧ h1 = hp' ∧ n1 = nx'))) : D T n args hp nx = some (v, hp', nx') := by
  obtain ⟨v1, h1, n1, e, rfl, rfl, rfl⟩ := D_wp S hN h
  exact e
theorem lk77 (S : Std3 T) (n : Node) (hp : Hl) (nx x : Nat) (hx : x < nx) (hb : blkAt hp x = .var (pvs (nodeC n))) : Looks T 77 [.ptr x 0 0] (errC (nodeBad n)) hp nx := by
  refine ⟨S.h77.raw, fun hp' nx' h1 h2 => D_eq S.h77 rfl ?_⟩
  have k := cnode_ok S.h88 S.hF n
  have hb' := (h2 x hx).trans hb
  simp only [nodeC, pvs] at hb' k
  simp only [f77, runL, opQ, evOp, evO, evOs, guardV, argsA, pvs, putS, cellsOf, scals, scal, Nat.reduceEqDiff, Nat.reduceAdd, reduceCtorEq, fieldA, nonNil, cellsAt, mkAgg, allPV, storeB, patchL, Int.reduceToNat, Nat.reduceMul, Nat.reduceLT, stepA, Int.reduceNeg, Int.reduceLE, Int.reduceLT, Int.reduceEq, extractV, mkAgg, Nat.reduceLeDiff, fillA, pureVs, pureV, eqV, eqB, lenV.eq_1, lenV.eq_2, lenV.eq_3, lenV.eq_4, binV, intBin, intV, idxA, List.drop, List.take, RetP, retP, resV, resOne, snapV, snapVs, snapR, snapRs, ownSz, pickV, AO.isC, opE, opD, funV.eq_1, funV.eq_2, hb', k.call]
  simp only [RawQ, rawq, runL, opQ, evOp, evO, evOs, guardV, argsA, pvs, putS, cellsOf, scals, scal, Nat.reduceEqDiff, Nat.reduceAdd, reduceCtorEq, fieldA, nonNil, cellsAt, mkAgg, allPV, storeB, patchL, Int.reduceToNat, Nat.reduceMul, Nat.reduceLT, stepA, Int.reduceNeg, Int.reduceLE, Int.reduceLT, Int.reduceEq, extractV, mkAgg, Nat.reduceLeDiff, fillA, pureVs, pureV, eqV, eqB, lenV.eq_1, lenV.eq_2, lenV.eq_3, lenV.eq_4, binV, intBin, intV, idxA, List.drop, List.take, RetP, retP, resV, resOne, snapV, snapVs, snapR, snapRs, ownSz, pickV, AO.isC, opE, opD, funV.eq_1, funV.eq_2]
theorem lk78 (S : Std3 T) (n : Load) (hp : Hl) (nx x : Nat) (hx : x < nx) (hb : blkAt hp x = .var (pvs (loadC n))) : Looks T 78 [.ptr x 0 0] (errC (loadBad n)) hp nx := by
  refine ⟨S.h78.raw, fun hp' nx' h1 h2 => D_eq S.h78 rfl ?_⟩
  have k := cload_ok S.h87 S.h85 n
  have hb' := (h2 x hx).trans hb
  simp only [loadC, pvs] at hb' k
  simp only [f78, runL, opQ, evOp, evO, evOs, guardV, argsA, pvs, putS, cellsOf, scals, scal, Nat.reduceEqDiff, Nat.reduceAdd, reduceCtorEq, fieldA, nonNil, cellsAt, mkAgg, allPV, storeB, patchL, Int.reduceToNat, Nat.reduceMul, Nat.reduceLT, stepA, Int.reduceNeg, Int.reduceLE, Int.reduceLT, Int.reduceEq, extractV, mkAgg, Nat.reduceLeDiff, fillA, pureVs, pureV, eqV, eqB, lenV.eq_1, lenV.eq_2, lenV.eq_3, lenV.eq_4, binV, intBin, intV, idxA, List.drop, List.take, RetP, retP, resV, resOne, snapV, snapVs, snapR, snapRs, ownSz, pickV, AO.isC, opE, opD, funV.eq_1, funV.eq_2, hb', k.call]
  simp only [RawQ, rawq, runL, opQ, evOp, evO, evOs, guardV, argsA, pvs, putS, cellsOf, scals, scal, Nat.reduceEqDiff, Nat.reduceAdd, reduceCtorEq, fieldA, nonNil, cellsAt, mkAgg, allPV, storeB, patchL, Int.reduceToNat, Nat.reduceMul, Nat.reduceLT, stepA, Int.reduceNeg, Int.reduceLE, Int.reduceLT, Int.reduceEq, extractV, mkAgg, Nat.reduceLeDiff, fillA, pureVs, pureV, eqV, eqB, lenV.eq_1, lenV.eq_2, lenV.eq_3, lenV.eq_4, binV, intBin, intV, idxA, List.drop, List.take, RetP, retP, resV, resOne, snapV, snapVs, snapR, snapRs, ownSz, pickV, AO.isC, opE, opD, funV.eq_1, funV.eq_2]
theorem lk79 (S : Std3 T) (s : Snap) (hl : s.loads.length ≤ 2 ^ 30) (hn : s.nodes.length ≤ 2 ^ 30) (p : Pod) (hp : Hl) (nx x : Nat) (h0 : 0 < nx) (hx : x < nx) (hs : blkAt hp 0 = .var [.pv (.slice (s.nodes.map nodeC)), .pv (.slice (s.loads.map loadC)), .pv (.slice (s.pods.map podC))])
    (hb : blkAt hp x = .var (pvs (podC p))) : Looks T 79 [.ptr 0 0 0, .ptr x 0 0] (errC (podBad s p)) hp nx := by
  refine ⟨S.h79.raw, fun hp' nx' h1 h2 => D_eq S.h79 rfl ?_⟩
  have k := cpod_ok S.h89 S.h85 S.h81 S.h82 s p hl hn
  have hb' := (h2 x hx).trans hb
  have hs' := (h2 0 h0).trans hs
  simp only [podC, pvs, snapP] at hb' k
  simp only [f79, runL, opQ, evOp, evO, evOs, guardV, argsA, pvs, putS, cellsOf, scals, scal, Nat.reduceEqDiff, Nat.reduceAdd, reduceCtorEq, fieldA, nonNil, cellsAt, mkAgg, allPV, storeB, patchL, Int.reduceToNat, Nat.reduceMul, Nat.reduceLT, stepA, Int.reduceNeg, Int.reduceLE, Int.reduceLT, Int.reduceEq, extractV, mkAgg, Nat.reduceLeDiff, fillA, pureVs, pureV, eqV, eqB, lenV.eq_1, lenV.eq_2, lenV.eq_3, lenV.eq_4, binV, intBin, intV, idxA, List.drop, List.take, RetP, retP, resV, resOne, snapV, snapVs, snapR, snapRs, ownSz, pickV, AO.isC, opE, opD, funV.eq_1, funV.eq_2, hb', hs', k.call]
  simp only [RawQ, rawq, runL, opQ, evOp, evO, evOs, guardV, argsA, pvs, putS, cellsOf, scals, scal, Nat.reduceEqDiff, Nat.reduceAdd, reduceCtorEq, fieldA, nonNil, cellsAt, mkAgg, allPV, storeB, patchL, Int.reduceToNat, Nat.reduceMul, Nat.reduceLT, stepA, Int.reduceNeg, Int.reduceLE, Int.reduceLT, Int.reduceEq, extractV, mkAgg, Nat.reduceLeDiff, fillA, pureVs, pureV, eqV, eqB, lenV.eq_1, lenV.eq_2, lenV.eq_3, lenV.eq_4, binV, intBin, intV, idxA, List.drop, List.take, RetP, retP, resV, resOne, snapV, snapVs, snapR, snapRs, ownSz, pickV, AO.isC, opE, opD, funV.eq_1, funV.eq_2]
theorem check_0 (S : Std3 T) (s : Snap) (hn : s.nodes.length ≤ 2 ^ 28) (hl : s.loads.length ≤ 2 ^ 28) (hpl : s.pods.length ≤ 2 ^ 28) (a0 : Int) (ha0 : 0 ≤ a0) (ha1 : a0 ≤ 2 ^ 29) (Q : Exit → St → Prop) (tot : Option (Int × Int))
    (hend : ∀ fr hp nx last err, 2 ≤ nx → look fr 1 = .ptr 0 0 0 → look fr 3 = .ptr 1 0 0 → blkAt hp 0 = .var [.pv (.slice (s.nodes.map nodeC)), .pv (.slice (s.loads.map loadC)), .pv (.slice (s.pods.map podC))] →
      blkAt hp 1 = .var [.pv (.int .i64 (a0 + (s.nodes.length : Int))), .pv (.int .i64 last), err] → ErrA err hp tot 1 nx → Q (.exit 0) ⟨fr, hp, nx⟩) :
    ∀ (rest : List Node) (i : Nat) (last : Int) (o : Option (Int × Int)) (err : AV), s.nodes.drop i = rest → i ≤ s.nodes.length → o.or (fstB Node.id nodeBad last (a0 + i) rest) = tot → ∀ (fr : List (Nat × AV)) (hp : Hl) (nx : Nat), 2 ≤ nx → look fr 1 = .ptr 0 0 0 → look fr 3 = .ptr 1 0 0 →
      blkAt hp 0 = .var [.pv (.slice (s.nodes.map nodeC)), .pv (.slice (s.loads.map loadC)), .pv (.slice (s.pods.map podC))] → blkAt hp 1 = .var [.pv (.int .i64 (a0 + i)), .pv (.int .i64 last), err] → ErrA err hp o 1 nx →
      look fr 36 = .pv (.slice (s.nodes.map nodeC)) → look fr 37 = .pv (.int .i64 s.nodes.length) → look fr 38 = .pv (.int .i64 i) → Wp T false (.loop f76l0) ⟨fr, hp, nx⟩ Q := by
  intro rest
  induction rest with
  | nil =>
    intro i last o err hd hi ho fr hp nx hnx g1 g3 b0 b1 hE hA hB hI
    have hlen := drop_nil hd hi
    simp only [fstB, Option.or_none] at ho
    subst ho
    rw [Wp_loop, Wp_eq f76l0.eq_1]
    simp only [runL, opQ, evOp, evO, evOs, guardV, argsA, pvs, putS, cellsOf, scals, scal, Nat.reduceEqDiff, Nat.reduceAdd, reduceCtorEq, fieldA, nonNil, cellsAt, mkAgg, allPV, storeB, patchL, Int.reduceToNat, Nat.reduceMul, Nat.reduceLT, stepA, Int.reduceNeg, Int.reduceLE, Int.reduceLT, Int.reduceEq, extractV, mkAgg, Nat.reduceLeDiff, fillA, pureVs, pureV, eqV, eqB, lenV.eq_1, lenV.eq_2, lenV.eq_3, lenV.eq_4, binV, intBin, intV, idxA, List.drop, List.take, RetP, retP, resV, resOne, snapV, snapVs, snapR, snapRs, ownSz, pickV, AO.isC, opE, opD, funV.eq_1, funV.eq_2, hA, hB, hI, hlen, Int.lt_irrefl]
    refine hend _ _ _ last err hnx ?_ ?_ b0 ?_ hE
    all_goals try simp only [look_if, blkAt_if, Nat.reduceEqDiff, if_true, if_false, g1, g3]
    rw [b1, hlen]
  | cons x r ih =>
    intro i last o err hd hi ho fr hp nx hnx g1 g3 b0 b1 hE hA hB hI
    obtain ⟨hget, hlt, hw, hd', hi', hbb⟩ := drop_cons hd (by omega)
    have n0 : ¬ nx = 0 := by omega
    have n1 : ¬ nx = 1 := by omega
    have ho' : (o.or (lookB (a0 + i) x.id last (nodeBad x))).or (fstB Node.id nodeBad x.id (a0 + ((i + 1 : Nat) : Int)) r) = tot := by
      rw [← ho, Option.or_assoc, fstB, show a0 + ((i + 1 : Nat) : Int) = a0 + i + 1 by omega]
    rw [Wp_loop, Wp_eq f76l0.eq_1]
    simp only [runL, opQ, evOp, evO, evOs, guardV, argsA, pvs, putS, cellsOf, scals, scal, Nat.reduceEqDiff, Nat.reduceAdd, reduceCtorEq, fieldA, nonNil, cellsAt, mkAgg, allPV, storeB, patchL, Int.reduceToNat, Nat.reduceMul, Nat.reduceLT, stepA, Int.reduceNeg, Int.reduceLE, Int.reduceLT, Int.reduceEq, extractV, mkAgg, Nat.reduceLeDiff, fillA, pureVs, pureV, eqV, eqB, lenV.eq_1, lenV.eq_2, lenV.eq_3, lenV.eq_4, binV, intBin, intV, idxA, List.drop, List.take, RetP, retP, resV, resOne, snapV, snapVs, snapR, snapRs, ownSz, pickV, AO.isC, opE, opD, funV.eq_1, funV.eq_2, g1, g3, hA, hB, hI, hlt, hget, nodeC, n0, n1, mkFun, allPVs]
    obtain ⟨v, hp', nx', e, err', q1, q2, q3, q4⟩ := look_ok S.h16 S.h86 S.hA 1 (a0 + i) x.id last (nodeBad x) err (.func 77 [] [.ptr nx 0 0]) 77 [.ptr nx 0 0] ((nx, .var (pvs (nodeC x))) :: (nx, .var [.pv (.int .i64 0), .pv (.int .i64 0), .pv (.int .u64 0), .pv (.int .u64 0), .pv (.int .u64 0), .pv (.int .u64 0), .pv (.int .u64 0), .pv (.int .u64 0), .pv (.int .u64 0), .pv (.int .u64 0)]) :: hp) (nx + 1) o rfl (by omega) (by simp only [look_if, blkAt_if, Nat.reduceEqDiff, if_true, if_false, n1, b1]) (lk77 S x _ _ nx (by omega) (by simp only [look_if, blkAt_if, Nat.reduceEqDiff, if_true, if_false])) (hE.mono (fun j hj hne => by simp only [look_if, blkAt_if, Nat.reduceEqDiff, if_true, if_false, show ¬ nx = j by omega]) (by omega)) (by omega) (by omega)
    rw [callQ_raw S.h16.raw e]
    simp only [runL, opQ, evOp, evO, evOs, guardV, argsA, pvs, putS, cellsOf, scals, scal, Nat.reduceEqDiff, Nat.reduceAdd, reduceCtorEq, fieldA, nonNil, cellsAt, mkAgg, allPV, storeB, patchL, Int.reduceToNat, Nat.reduceMul, Nat.reduceLT, stepA, Int.reduceNeg, Int.reduceLE, Int.reduceLT, Int.reduceEq, extractV, mkAgg, Nat.reduceLeDiff, fillA, pureVs, pureV, eqV, eqB, lenV.eq_1, lenV.eq_2, lenV.eq_3, lenV.eq_4, binV, intBin, intV, idxA, List.drop, List.take, RetP, retP, resV, resOne, snapV, snapVs, snapR, snapRs, ownSz, pickV, AO.isC, opE, opD, funV.eq_1, funV.eq_2, hI, hw]
    refine ih (i + 1) x.id _ err' hd' hi' ho' _ _ _ (by omega) ?_ ?_ ?_ ?_ q3 ?_ ?_ ?_
    all_goals try simp only [look_if, blkAt_if, Nat.reduceEqDiff, if_true, if_false, g1, g3, hA, hB]
    · rw [q4 0 (by omega) (by omega)]; simp only [look_if, blkAt_if, Nat.reduceEqDiff, if_true, if_false, n0, b0]
    · rw [q2, show a0 + ((i + 1 : Nat) : Int) = a0 + i + 1 by omega]
theorem check_1 (S : Std3 T) (s : Snap) (hn : s.nodes.length ≤ 2 ^ 28) (hl : s.loads.length ≤ 2 ^ 28) (hpl : s.pods.length ≤ 2 ^ 28) (a0 : Int) (ha0 : 0 ≤ a0) (ha1 : a0 ≤ 2 ^ 29) (Q : Exit → St → Prop) (tot : Option (Int × Int))
    (hend : ∀ fr hp nx last err, 2 ≤ nx → look fr 1 = .ptr 0 0 0 → look fr 3 = .ptr 1 0 0 → blkAt hp 0 = .var [.pv (.slice (s.nodes.map nodeC)), .pv (.slice (s.loads.map loadC)), .pv (.slice (s.pods.map podC))] →
      blkAt hp 1 = .var [.pv (.int .i64 (a0 + (s.loads.length : Int))), .pv (.int .i64 last), err] → ErrA err hp tot 1 nx → Q (.exit 2) ⟨fr, hp, nx⟩) :
    ∀ (rest : List Load) (i : Nat) (last : Int) (o : Option (Int × Int)) (err : AV), s.loads.drop i = rest → i ≤ s.loads.length → o.or (fstB Load.id loadBad last (a0 + i) rest) = tot → ∀ (fr : List (Nat × AV)) (hp : Hl) (nx : Nat), 2 ≤ nx → look fr 1 = .ptr 0 0 0 → look fr 3 = .ptr 1 0 0 →
      blkAt hp 0 = .var [.pv (.slice (s.nodes.map nodeC)), .pv (.slice (s.loads.map loadC)), .pv (.slice (s.pods.map podC))] → blkAt hp 1 = .var [.pv (.int .i64 (a0 + i)), .pv (.int .i64 last), err] → ErrA err hp o 1 nx →
      look fr 52 = .pv (.slice (s.loads.map loadC)) → look fr 53 = .pv (.int .i64 s.loads.length) → look fr 54 = .pv (.int .i64 i) → Wp T false (.loop f76l1) ⟨fr, hp, nx⟩ Q := by
  intro rest
  induction rest with
  | nil =>
    intro i last o err hd hi ho fr hp nx hnx g1 g3 b0 b1 hE hA hB hI
    have hlen := drop_nil hd hi
    simp only [fstB, Option.or_none] at ho
    subst ho
    rw [Wp_loop, Wp_eq f76l1.eq_1]
    simp only [runL, opQ, evOp, evO, evOs, guardV, argsA, pvs, putS, cellsOf, scals, scal, Nat.reduceEqDiff, Nat.reduceAdd, reduceCtorEq, fieldA, nonNil, cellsAt, mkAgg, allPV, storeB, patchL, Int.reduceToNat, Nat.reduceMul, Nat.reduceLT, stepA, Int.reduceNeg, Int.reduceLE, Int.reduceLT, Int.reduceEq, extractV, mkAgg, Nat.reduceLeDiff, fillA, pureVs, pureV, eqV, eqB, lenV.eq_1, lenV.eq_2, lenV.eq_3, lenV.eq_4, binV, intBin, intV, idxA, List.drop, List.take, RetP, retP, resV, resOne, snapV, snapVs, snapR, snapRs, ownSz, pickV, AO.isC, opE, opD, funV.eq_1, funV.eq_2, hA, hB, hI, hlen, Int.lt_irrefl]
    refine hend _ _ _ last err hnx ?_ ?_ b0 ?_ hE
    all_goals try simp only [look_if, blkAt_if, Nat.reduceEqDiff, if_true, if_false, g1, g3]
    rw [b1, hlen]
  | cons x r ih =>
    intro i last o err hd hi ho fr hp nx hnx g1 g3 b0 b1 hE hA hB hI
    obtain ⟨hget, hlt, hw, hd', hi', hbb⟩ := drop_cons hd (by omega)
    have n0 : ¬ nx = 0 := by omega
    have n1 : ¬ nx = 1 := by omega
    have ho' : (o.or (lookB (a0 + i) x.id last (loadBad x))).or (fstB Load.id loadBad x.id (a0 + ((i + 1 : Nat) : Int)) r) = tot := by
      rw [← ho, Option.or_assoc, fstB, show a0 + ((i + 1 : Nat) : Int) = a0 + i + 1 by omega]
    rw [Wp_loop, Wp_eq f76l1.eq_1]
    simp only [runL, opQ, evOp, evO, evOs, guardV, argsA, pvs, putS, cellsOf, scals, scal, Nat.reduceEqDiff, Nat.reduceAdd, reduceCtorEq, fieldA, nonNil, cellsAt, mkAgg, allPV, storeB, patchL, Int.reduceToNat, Nat.reduceMul, Nat.reduceLT, stepA, Int.reduceNeg, Int.reduceLE, Int.reduceLT, Int.reduceEq, extractV, mkAgg, Nat.reduceLeDiff, fillA, pureVs, pureV, eqV, eqB, lenV.eq_1, lenV.eq_2, lenV.eq_3, lenV.eq_4, binV, intBin, intV, idxA, List.drop, List.take, RetP, retP, resV, resOne, snapV, snapVs, snapR, snapRs, ownSz, pickV, AO.isC, opE, opD, funV.eq_1, funV.eq_2, g1, g3, hA, hB, hI, hlt, hget, loadC, n0, n1, mkFun, allPVs]
    obtain ⟨v, hp', nx', e, err', q1, q2, q3, q4⟩ := look_ok S.h16 S.h86 S.hA 1 (a0 + i) x.id last (loadBad x) err (.func 78 [] [.ptr nx 0 0]) 78 [.ptr nx 0 0] ((nx, .var (pvs (loadC x))) :: (nx, .var [.pv (.int .i64 0), .pv (.bool false), .pv (.int .i64 0), .pv (.int .i64 0), .pv (.int .i64 0)]) :: hp) (nx + 1) o rfl (by omega) (by simp only [look_if, blkAt_if, Nat.reduceEqDiff, if_true, if_false, n1, b1]) (lk78 S x _ _ nx (by omega) (by simp only [look_if, blkAt_if, Nat.reduceEqDiff, if_true, if_false])) (hE.mono (fun j hj hne => by simp only [look_if, blkAt_if, Nat.reduceEqDiff, if_true, if_false, show ¬ nx = j by omega]) (by omega)) (by omega) (by omega)
    rw [callQ_raw S.h16.raw e]
    simp only [runL, opQ, evOp, evO, evOs, guardV, argsA, pvs, putS, cellsOf, scals, scal, Nat.reduceEqDiff, Nat.reduceAdd, reduceCtorEq, fieldA, nonNil, cellsAt, mkAgg, allPV, storeB, patchL, Int.reduceToNat, Nat.reduceMul, Nat.reduceLT, stepA, Int.reduceNeg, Int.reduceLE, Int.reduceLT, Int.reduceEq, extractV, mkAgg, Nat.reduceLeDiff, fillA, pureVs, pureV, eqV, eqB, lenV.eq_1, lenV.eq_2, lenV.eq_3, lenV.eq_4, binV, intBin, intV, idxA, List.drop, List.take, RetP, retP, resV, resOne, snapV, snapVs, snapR, snapRs, ownSz, pickV, AO.isC, opE, opD, funV.eq_1, funV.eq_2, hI, hw]
    refine ih (i + 1) x.id _ err' hd' hi' ho' _ _ _ (by omega) ?_ ?_ ?_ ?_ q3 ?_ ?_ ?_
    all_goals try simp only [look_if, blkAt_if, Nat.reduceEqDiff, if_true, if_false, g1, g3, hA, hB]
    · rw [q4 0 (by omega) (by omega)]; simp only [look_if, blkAt_if, Nat.reduceEqDiff, if_true, if_false, n0, b0]
    · rw [q2, show a0 + ((i + 1 : Nat) : Int) = a0 + i + 1 by omega]
theorem check_2 (S : Std3 T) (s : Snap) (hn : s.nodes.length ≤ 2 ^ 28) (hl : s.loads.length ≤ 2 ^ 28) (hpl : s.pods.length ≤ 2 ^ 28) (a0 : Int) (ha0 : 0 ≤ a0) (ha1 : a0 ≤ 2 ^ 29) (Q : Exit → St → Prop) (tot : Option (Int × Int))
    (hend : ∀ fr hp nx last err, 2 ≤ nx → look fr 1 = .ptr 0 0 0 → look fr 3 = .ptr 1 0 0 → blkAt hp 0 = .var [.pv (.slice (s.nodes.map nodeC)), .pv (.slice (s.loads.map loadC)), .pv (.slice (s.pods.map podC))] →
      blkAt hp 1 = .var [.pv (.int .i64 (a0 + (s.pods.length : Int))), .pv (.int .i64 last), err] → ErrA err hp tot 1 nx → Q (.exit 4) ⟨fr, hp, nx⟩) :
    ∀ (rest : List Pod) (i : Nat) (last : Int) (o : Option (Int × Int)) (err : AV), s.pods.drop i = rest → i ≤ s.pods.length → o.or (fstB Pod.id (podBad s) last (a0 + i) rest) = tot → ∀ (fr : List (Nat × AV)) (hp : Hl) (nx : Nat), 2 ≤ nx → look fr 1 = .ptr 0 0 0 → look fr 3 = .ptr 1 0 0 →
      blkAt hp 0 = .var [.pv (.slice (s.nodes.map nodeC)), .pv (.slice (s.loads.map loadC)), .pv (.slice (s.pods.map podC))] → blkAt hp 1 = .var [.pv (.int .i64 (a0 + i)), .pv (.int .i64 last), err] → ErrA err hp o 1 nx →
      look fr 68 = .pv (.slice (s.pods.map podC)) → look fr 69 = .pv (.int .i64 s.pods.length) → look fr 70 = .pv (.int .i64 i) → Wp T false (.loop f76l2) ⟨fr, hp, nx⟩ Q := by
  intro rest
  induction rest with
  | nil =>
    intro i last o err hd hi ho fr hp nx hnx g1 g3 b0 b1 hE hA hB hI
    have hlen := drop_nil hd hi
    simp only [fstB, Option.or_none] at ho
    subst ho
    rw [Wp_loop, Wp_eq f76l2.eq_1]
    simp only [runL, opQ, evOp, evO, evOs, guardV, argsA, pvs, putS, cellsOf, scals, scal, Nat.reduceEqDiff, Nat.reduceAdd, reduceCtorEq, fieldA, nonNil, cellsAt, mkAgg, allPV, storeB, patchL, Int.reduceToNat, Nat.reduceMul, Nat.reduceLT, stepA, Int.reduceNeg, Int.reduceLE, Int.reduceLT, Int.reduceEq, extractV, mkAgg, Nat.reduceLeDiff, fillA, pureVs, pureV, eqV, eqB, lenV.eq_1, lenV.eq_2, lenV.eq_3, lenV.eq_4, binV, intBin, intV, idxA, List.drop, List.take, RetP, retP, resV, resOne, snapV, snapVs, snapR, snapRs, ownSz, pickV, AO.isC, opE, opD, funV.eq_1, funV.eq_2, hA, hB, hI, hlen, Int.lt_irrefl]
    refine hend _ _ _ last err hnx ?_ ?_ b0 ?_ hE
    all_goals try simp only [look_if, blkAt_if, Nat.reduceEqDiff, if_true, if_false, g1, g3]
    rw [b1, hlen]
  | cons x r ih =>
    intro i last o err hd hi ho fr hp nx hnx g1 g3 b0 b1 hE hA hB hI
    obtain ⟨hget, hlt, hw, hd', hi', hbb⟩ := drop_cons hd (by omega)
    have n0 : ¬ nx = 0 := by omega
    have n1 : ¬ nx = 1 := by omega
    have ho' : (o.or (lookB (a0 + i) x.id last ((podBad s) x))).or (fstB Pod.id (podBad s) x.id (a0 + ((i + 1 : Nat) : Int)) r) = tot := by
      rw [← ho, Option.or_assoc, fstB, show a0 + ((i + 1 : Nat) : Int) = a0 + i + 1 by omega]
    rw [Wp_loop, Wp_eq f76l2.eq_1]
    simp only [runL, opQ, evOp, evO, evOs, guardV, argsA, pvs, putS, cellsOf, scals, scal, Nat.reduceEqDiff, Nat.reduceAdd, reduceCtorEq, fieldA, nonNil, cellsAt, mkAgg, allPV, storeB, patchL, Int.reduceToNat, Nat.reduceMul, Nat.reduceLT, stepA, Int.reduceNeg, Int.reduceLE, Int.reduceLT, Int.reduceEq, extractV, mkAgg, Nat.reduceLeDiff, fillA, pureVs, pureV, eqV, eqB, lenV.eq_1, lenV.eq_2, lenV.eq_3, lenV.eq_4, binV, intBin, intV, idxA, List.drop, List.take, RetP, retP, resV, resOne, snapV, snapVs, snapR, snapRs, ownSz, pickV, AO.isC, opE, opD, funV.eq_1, funV.eq_2, g1, g3, hA, hB, hI, hlt, hget, podC, n0, n1, mkFun, allPVs]
    obtain ⟨v, hp', nx', e, err', q1, q2, q3, q4⟩ := look_ok S.h16 S.h86 S.hA 1 (a0 + i) x.id last ((podBad s) x) err (.func 79 [] [.ptr 0 0 0, .ptr nx 0 0]) 79 [.ptr 0 0 0, .ptr nx 0 0] ((nx, .var (pvs (podC x))) :: (nx, .var [.pv (.int .i64 0), .pv (.int .i64 0), .pv (.int .i64 0), .pv (.int .u64 0), .pv (.int .u64 0), .pv (.int .u64 0), .pv (.int .u64 0), .pv (.int .i64 0)]) :: hp) (nx + 1) o rfl (by omega) (by simp only [look_if, blkAt_if, Nat.reduceEqDiff, if_true, if_false, n1, b1]) (lk79 S s (by omega) (by omega) x _ _ nx (by omega) (by omega) (by simp only [look_if, blkAt_if, Nat.reduceEqDiff, if_true, if_false, n0, b0]) (by simp only [look_if, blkAt_if, Nat.reduceEqDiff, if_true, if_false])) (hE.mono (fun j hj hne => by simp only [look_if, blkAt_if, Nat.reduceEqDiff, if_true, if_false, show ¬ nx = j by omega]) (by omega)) (by omega) (by omega)
    rw [callQ_raw S.h16.raw e]
    simp only [runL, opQ, evOp, evO, evOs, guardV, argsA, pvs, putS, cellsOf, scals, scal, Nat.reduceEqDiff, Nat.reduceAdd, reduceCtorEq, fieldA, nonNil, cellsAt, mkAgg, allPV, storeB, patchL, Int.reduceToNat, Nat.reduceMul, Nat.reduceLT, stepA, Int.reduceNeg, Int.reduceLE, Int.reduceLT, Int.reduceEq, extractV, mkAgg, Nat.reduceLeDiff, fillA, pureVs, pureV, eqV, eqB, lenV.eq_1, lenV.eq_2, lenV.eq_3, lenV.eq_4, binV, intBin, intV, idxA, List.drop, List.take, RetP, retP, resV, resOne, snapV, snapVs, snapR, snapRs, ownSz, pickV, AO.isC, opE, opD, funV.eq_1, funV.eq_2, hI, hw]
    refine ih (i + 1) x.id _ err' hd' hi' ho' _ _ _ (by omega) ?_ ?_ ?_ ?_ q3 ?_ ?_ ?_
    all_goals try simp only [look_if, blkAt_if, Nat.reduceEqDiff, if_true, if_false, g1, g3, hA, hB]
    · rw [q4 0 (by omega) (by omega)]; simp only [look_if, blkAt_if, Nat.reduceEqDiff, if_true, if_false, n0, b0]
    · rw [q2, show a0 + ((i + 1 : Nat) : Int) = a0 + i + 1 by omega]
end
end Go.Proofs.YtlfphlobcopemaaGreatDoor.Ab
set_option linter.unusedVariables false
set_option linter.unusedSimpArgs false
namespace Go.Proofs.YtlfphlobcopemaaGreatDoor.Ab
open Go
theorem lookB_some {a n last c k b : Int} (h : lookB a n last c = some (k, b)) (hc : c = 0 ∨ 1 ≤ c ∧ c ≤ 17) : b = a ∧ 1 ≤ k ∧ k ≤ 17 := by
  unfold lookB at h
  split at h
  · rename_i h0
    simp only [Option.some.injEq, Prod.mk.injEq] at h
    obtain ⟨rfl, rfl⟩ := h
    refine ⟨rfl, ?_⟩
    have hi : idP n last = 0 ∨ 1 ≤ idP n last ∧ idP n last ≤ 5 := by
      unfold idP
      split
      · omega
      · split <;> omega
    unfold lookC at h0 ⊢
    split
    · omega
    · rename_i h1
      rw [if_neg h1] at h0
      omega
  · simp at h
theorem fstB_range {α : Type} {idOf own : α → Int} (hc : ∀ x, own x = 0 ∨ 1 ≤ own x ∧ own x ≤ 17) : ∀ (l : List α) (last a : Int) c b, fstB idOf own last a l = some (c, b) → a ≤ b ∧ 1 ≤ c ∧ c ≤ 17
  | [], last, a, c, b, h => by simp [fstB] at h
  | x :: r, last, a, c, b, h => by
    simp only [fstB] at h
    cases hl : lookB a (idOf x) last (own x) with
    | some q =>
      obtain ⟨k, b'⟩ := q
      rw [hl] at h
      simp only [Option.some_or, Option.some.injEq, Prod.mk.injEq] at h
      obtain ⟨rfl, rfl⟩ := h
      obtain ⟨rfl, h1⟩ := lookB_some hl (hc x)
      exact ⟨Int.le_refl _, h1⟩
    | none =>
      rw [hl, Option.none_or] at h
      obtain ⟨h1, h2⟩ := fstB_range hc r _ _ c b h
      exact ⟨by omega, h2⟩
theorem nodeBad_c (n : Node) : nodeBad n = 0 ∨ 1 ≤ nodeBad n ∧ nodeBad n ≤ 17 := by unfold nodeBad; split <;> omega
theorem loadBad_c (n : Load) : loadBad n = 0 ∨ 1 ≤ loadBad n ∧ loadBad n ≤ 17 := by unfold loadBad; split <;> omega
theorem podBad_c (s : Snap) (p : Pod) : podBad s p = 0 ∨ 1 ≤ podBad s p ∧ podBad s p ≤ 17 := by
  unfold podBad
  split
  · omega
  · split <;> omega
theorem errA_snap {err : AV} {hp : Hl} {o : Option (Int × Int)} {kid nx : Nat} (h : ErrA err hp o kid nx) (hpos : ∀ c a, o = some (c, a) → 0 ≤ a) : snapV (blkAt hp) err = some (errG o) := by
  cases o with
  | none =>
    have h' : err = .pv .nili := h
    subst h'
    rfl
  | some q =>
    obtain ⟨c, a⟩ := q
    obtain ⟨b, rfl, h1, h2, h3⟩ := h
    have := hpos c a rfl
    have hn : ¬ a < 0 := by omega
    simp only [snapV, h3, snapRs, snapR, errG, hn, if_false, spotE]
section
variable {T : Tab}
set_option maxRecDepth 100000 in
set_option maxHeartbeats 4000000 in
theorem check3_ok (S : Std3 T) (s : Snap) : Gives T 76 [snapP s] (errG (checkB s)) := by
  refine gives S.h76 rfl ?_
  by_cases hz : sizesOK s = true
  · have hz' := hz
    simp only [sizesOK, Bool.and_eq_true, decide_eq_true_eq] at hz'
    obtain ⟨z1, z2, z3, z4⟩ := hz'
    have y1 : ¬ (s.nodes.length : Int) < 1 := by omega
    have y2 : ¬ (8 : Int) < (s.nodes.length : Int) := by omega
    have y3 : ¬ (8 : Int) < (s.loads.length : Int) := by omega
    have y4 : ¬ (12 : Int) < (s.pods.length : Int) := by omega
    have hpos : ∀ c a, checkB s = some (c, a) → 0 ≤ a := by
      intro c a h
      unfold checkB at h
      rw [if_pos hz] at h
      cases h1 : fstB Node.id nodeBad 0 0 s.nodes with
      | some q =>
        rw [h1] at h
        simp only [Option.some_or, Option.some.injEq] at h
        subst h
        have := fstB_range nodeBad_c _ _ _ _ _ h1
        omega
      | none =>
        rw [h1, Option.none_or] at h
        cases h2 : fstB Load.id loadBad 0 s.nodes.length s.loads with
        | some q =>
          rw [h2] at h
          simp only [Option.some_or, Option.some.injEq] at h
          subst h
          have := fstB_range loadBad_c _ _ _ _ _ h2
          omega
        | none =>
          rw [h2, Option.none_or] at h
          have := fstB_range (podBad_c s) _ _ _ _ _ h
          omega
    simp only [f76, runL, opQ, evOp, evO, evOs, guardV, argsA, pvs, putS, cellsOf, scals, scal, Nat.reduceEqDiff, Nat.reduceAdd, reduceCtorEq, fieldA, nonNil, cellsAt, mkAgg, allPV, storeB, patchL, Int.reduceToNat, Nat.reduceMul, Nat.reduceLT, stepA, Int.reduceNeg, Int.reduceLE, Int.reduceLT, Int.reduceEq, extractV, mkAgg, Nat.reduceLeDiff, fillA, pureVs, pureV, eqV, eqB, lenV.eq_1, lenV.eq_2, lenV.eq_3, lenV.eq_4, binV, intBin, intV, idxA, List.drop, List.take, RetP, retP, resV, resOne, snapV, snapVs, snapR, snapRs, ownSz, pickV, AO.isC, opE, opD, funV.eq_1, funV.eq_2, snapP, y1, y2, y3, y4]
    refine check_0 S s (by omega) (by omega) (by omega) 0 (Int.le_refl _) (by omega) _ (fstB Node.id nodeBad 0 0 s.nodes) (fun fr hp nx last err hnx g1 g3 b0 b1 hE => ?_) s.nodes 0 0 none (.pv .nili) rfl (Nat.zero_le _) rfl _ _ _ (Nat.le_refl _) rfl rfl rfl rfl rfl rfl rfl rfl
    simp only [runL, opQ, evOp, evO, evOs, guardV, argsA, pvs, putS, cellsOf, scals, scal, Nat.reduceEqDiff, Nat.reduceAdd, reduceCtorEq, fieldA, nonNil, cellsAt, mkAgg, allPV, storeB, patchL, Int.reduceToNat, Nat.reduceMul, Nat.reduceLT, stepA, Int.reduceNeg, Int.reduceLE, Int.reduceLT, Int.reduceEq, extractV, mkAgg, Nat.reduceLeDiff, fillA, pureVs, pureV, eqV, eqB, lenV.eq_1, lenV.eq_2, lenV.eq_3, lenV.eq_4, binV, intBin, intV, idxA, List.drop, List.take, RetP, retP, resV, resOne, snapV, snapVs, snapR, snapRs, ownSz, pickV, AO.isC, opE, opD, funV.eq_1, funV.eq_2, g1, g3, b0, b1]
    refine check_1 S s (by omega) (by omega) (by omega) s.nodes.length (by omega) (by omega) _ ((fstB Node.id nodeBad 0 0 s.nodes).or (fstB Load.id loadBad 0 s.nodes.length s.loads)) (fun fr hp nx last err hnx g1 g3 b0 b1 hE => ?_) s.loads 0 0 (fstB Node.id nodeBad 0 0 s.nodes) err rfl (Nat.zero_le _) (by rw [show ((s.nodes.length : Int) + ((0 : Nat) : Int)) = s.nodes.length by omega]) _ _ _ hnx ?_ ?_ ?_ ?_ ?_ ?_ ?_ ?_
    · simp only [runL, opQ, evOp, evO, evOs, guardV, argsA, pvs, putS, cellsOf, scals, scal, Nat.reduceEqDiff, Nat.reduceAdd, reduceCtorEq, fieldA, nonNil, cellsAt, mkAgg, allPV, storeB, patchL, Int.reduceToNat, Nat.reduceMul, Nat.reduceLT, stepA, Int.reduceNeg, Int.reduceLE, Int.reduceLT, Int.reduceEq, extractV, mkAgg, Nat.reduceLeDiff, fillA, pureVs, pureV, eqV, eqB, lenV.eq_1, lenV.eq_2, lenV.eq_3, lenV.eq_4, binV, intBin, intV, idxA, List.drop, List.take, RetP, retP, resV, resOne, snapV, snapVs, snapR, snapRs, ownSz, pickV, AO.isC, opE, opD, funV.eq_1, funV.eq_2, g1, g3, b0, b1]
      refine check_2 S s (by omega) (by omega) (by omega) (s.nodes.length + s.loads.length) (by omega) (by omega) _ (checkB s) (fun fr hp nx last err hnx g1 g3 b0 b1 hE => ?_) s.pods 0 0 ((fstB Node.id nodeBad 0 0 s.nodes).or (fstB Load.id loadBad 0 s.nodes.length s.loads)) err rfl (Nat.zero_le _) ?_ _ _ _ hnx ?_ ?_ ?_ ?_ ?_ ?_ ?_ ?_
      · have hs := errA_snap hE hpos
        simp only [runL, opQ, evOp, evO, evOs, guardV, argsA, pvs, putS, cellsOf, scals, scal, Nat.reduceEqDiff, Nat.reduceAdd, reduceCtorEq, fieldA, nonNil, cellsAt, mkAgg, allPV, storeB, patchL, Int.reduceToNat, Nat.reduceMul, Nat.reduceLT, stepA, Int.reduceNeg, Int.reduceLE, Int.reduceLT, Int.reduceEq, extractV, mkAgg, Nat.reduceLeDiff, fillA, pureVs, pureV, eqV, eqB, lenV.eq_1, lenV.eq_2, lenV.eq_3, lenV.eq_4, binV, intBin, intV, idxA, List.drop, List.take, RetP, retP, resV, resOne, snapV, snapVs, snapR, snapRs, ownSz, pickV, AO.isC, opE, opD, funV.eq_1, funV.eq_2, g1, g3, b0, b1, hs]
      · rw [checkB, if_pos hz, show ((s.nodes.length : Int) + s.loads.length + ((0 : Nat) : Int)) = (s.nodes.length : Int) + s.loads.length by omega]
      all_goals try simp only [look_if, blkAt_if, Nat.reduceEqDiff, if_true, if_false, g1, g3, b0]
      · rw [show ((s.nodes.length : Int) + s.loads.length + ((0 : Nat) : Int)) = (s.nodes.length : Int) + s.loads.length by omega]
      · exact hE.mono (fun j hj hne => by simp only [look_if, blkAt_if, Nat.reduceEqDiff, if_true, if_false, show ¬ 1 = j from fun h => hne h.symm]) (Nat.le_refl _)
      · rfl
    all_goals try simp only [look_if, blkAt_if, Nat.reduceEqDiff, if_true, if_false, g1, g3, b0]
    · rw [show ((s.nodes.length : Int) + ((0 : Nat) : Int)) = 0 + (s.nodes.length : Int) by omega]
    · exact hE.mono (fun j hj hne => by simp only [look_if, blkAt_if, Nat.reduceEqDiff, if_true, if_false, show ¬ 1 = j from fun h => hne h.symm]) (Nat.le_refl _)
    · rfl
  · have hc : errG (checkB s) = .iface 0 (.int .i64 3) := by rw [checkB, if_neg hz]; rfl
    rw [hc]
    have hz' := hz
    simp only [sizesOK, Bool.and_eq_true, decide_eq_true_eq, not_and] at hz'
    by_cases c1 : (s.nodes.length : Int) < 1
    · simp only [f76, runL, opQ, evOp, evO, evOs, guardV, argsA, pvs, putS, cellsOf, scals, scal, Nat.reduceEqDiff, Nat.reduceAdd, reduceCtorEq, fieldA, nonNil, cellsAt, mkAgg, allPV, storeB, patchL, Int.reduceToNat, Nat.reduceMul, Nat.reduceLT, stepA, Int.reduceNeg, Int.reduceLE, Int.reduceLT, Int.reduceEq, extractV, mkAgg, Nat.reduceLeDiff, fillA, pureVs, pureV, eqV, eqB, lenV.eq_1, lenV.eq_2, lenV.eq_3, lenV.eq_4, binV, intBin, intV, idxA, List.drop, List.take, RetP, retP, resV, resOne, snapV, snapVs, snapR, snapRs, ownSz, pickV, AO.isC, opE, opD, funV.eq_1, funV.eq_2, snapP, c1]
    · by_cases c2 : (8 : Int) < (s.nodes.length : Int)
      · simp only [f76, runL, opQ, evOp, evO, evOs, guardV, argsA, pvs, putS, cellsOf, scals, scal, Nat.reduceEqDiff, Nat.reduceAdd, reduceCtorEq, fieldA, nonNil, cellsAt, mkAgg, allPV, storeB, patchL, Int.reduceToNat, Nat.reduceMul, Nat.reduceLT, stepA, Int.reduceNeg, Int.reduceLE, Int.reduceLT, Int.reduceEq, extractV, mkAgg, Nat.reduceLeDiff, fillA, pureVs, pureV, eqV, eqB, lenV.eq_1, lenV.eq_2, lenV.eq_3, lenV.eq_4, binV, intBin, intV, idxA, List.drop, List.take, RetP, retP, resV, resOne, snapV, snapVs, snapR, snapRs, ownSz, pickV, AO.isC, opE, opD, funV.eq_1, funV.eq_2, snapP, c1, c2]
      · by_cases c3 : (8 : Int) < (s.loads.length : Int)
        · simp only [f76, runL, opQ, evOp, evO, evOs, guardV, argsA, pvs, putS, cellsOf, scals, scal, Nat.reduceEqDiff, Nat.reduceAdd, reduceCtorEq, fieldA, nonNil, cellsAt, mkAgg, allPV, storeB, patchL, Int.reduceToNat, Nat.reduceMul, Nat.reduceLT, stepA, Int.reduceNeg, Int.reduceLE, Int.reduceLT, Int.reduceEq, extractV, mkAgg, Nat.reduceLeDiff, fillA, pureVs, pureV, eqV, eqB, lenV.eq_1, lenV.eq_2, lenV.eq_3, lenV.eq_4, binV, intBin, intV, idxA, List.drop, List.take, RetP, retP, resV, resOne, snapV, snapVs, snapR, snapRs, ownSz, pickV, AO.isC, opE, opD, funV.eq_1, funV.eq_2, snapP, c1, c2, c3]
        · have c4 : (12 : Int) < (s.pods.length : Int) := by have := hz' (by omega) (by omega) (by omega); omega
          simp only [f76, runL, opQ, evOp, evO, evOs, guardV, argsA, pvs, putS, cellsOf, scals, scal, Nat.reduceEqDiff, Nat.reduceAdd, reduceCtorEq, fieldA, nonNil, cellsAt, mkAgg, allPV, storeB, patchL, Int.reduceToNat, Nat.reduceMul, Nat.reduceLT, stepA, Int.reduceNeg, Int.reduceLE, Int.reduceLT, Int.reduceEq, extractV, mkAgg, Nat.reduceLeDiff, fillA, pureVs, pureV, eqV, eqB, lenV.eq_1, lenV.eq_2, lenV.eq_3, lenV.eq_4, binV, intBin, intV, idxA, List.drop, List.take, RetP, retP, resV, resOne, snapV, snapVs, snapR, snapRs, ownSz, pickV, AO.isC, opE, opD, funV.eq_1, funV.eq_2, snapP, c1, c2, c3, c4]
/-! ### Wants -/
def wantRest (pods : List Pod) (w : Want) : Int := if podOf w.pod pods = none then 4 else if w.stay = false ∧ w.req ≠ vec0 then 1 else 0
def wantBad (pods : List Pod) (prev : Option Want) (w : Want) : Int := match prev with
  | some v => if w.pod = v.pod then 5 else if w.pod < v.pod then 1 else wantRest pods w
  | none => wantRest pods w
def wantsFrom (pods : List Pod) : Option Want → Int → List Want → Option (Int × Int)
  | _, _, [] => none
  | prev, i, w :: r => if wantBad pods prev w ≠ 0 then some (wantBad pods prev w, i) else wantsFrom pods (some w) (i + 1) r
def fairB (s : Snap) (x : Spec) : Option (Int × Int) := match checkB s with
  | some e => some e
  | none => if 0 ≤ x.pre ∧ x.pre ≤ 40 ∧ 0 ≤ x.shi ∧ x.shi ≤ 40 then wantsFrom s.pods none 0 x.wants else some (3, -1)
structure StdC (T : Tab) : Prop where
  h282 : Std T 282 f282
  flat282 : T.flat 282 = true
  h287 : Std T 287 f287
  h91 : Std T 91 f91
theorem want1_ok (h91 : Std T 91 f91) (p : Pod) (w : Want) : Gives T 91 [.agg (podC p), .cptr (wantC w) 0] (.bool (decide (p.id = w.pod))) := by
  refine gives h91 rfl ?_
  simp only [f91, runL, opQ, evOp, evO, evOs, guardV, argsA, pvs, putS, cellsOf, scals, scal, Nat.reduceEqDiff, Nat.reduceAdd, reduceCtorEq, fieldA, nonNil, cellsAt, mkAgg, allPV, storeB, patchL, Int.reduceToNat, Nat.reduceMul, Nat.reduceLT, stepA, Int.reduceNeg, Int.reduceLE, Int.reduceLT, Int.reduceEq, extractV, mkAgg, Nat.reduceLeDiff, fillA, pureVs, pureV, eqV, eqB, lenV.eq_1, lenV.eq_2, lenV.eq_3, lenV.eq_4, binV, intBin, intV, idxA, List.drop, List.take, RetP, retP, resV, resOne, snapV, snapVs, snapR, snapRs, ownSz, pickV, AO.isC, opE, opD, funV.eq_1, funV.eq_2, podC, wantC]
theorem contains3_ok (S : StdC T) (pods : List Pod) (w : Want) (h : pods.length ≤ 2 ^ 30) : Gives T 282 [.slice (pods.map podC), .func 91 [] [.cptr (wantC w) 0]] (.bool (decide (podOf w.pod pods ≠ none))) := by
  refine gives S.h282 rfl ?_
  have k : Gives T 287 [.slice (pods.map podC), .func 91 [] [.cptr (wantC w) 0]] (.int .i64 (placeFrom w.pod 0 pods)) := by
    rw [← findFrom_place]
    exact index_ok _ S.h287 (pods.map podC) (by simpa using h) (fun e he => by
      obtain ⟨p, _, rfl⟩ := List.mem_map.1 he
      rfl) (fun e he => by
      obtain ⟨p, _, rfl⟩ := List.mem_map.1 he
      exact want1_ok S.h91 p w)
  rcases placeFrom_cases w.pod pods 0 with ⟨h1, h2⟩ | ⟨j, p, h1, h2, h3, h4⟩
  · rw [h2] at k
    simp only [f282, runL, opQ, evOp, evO, evOs, guardV, argsA, pvs, putS, cellsOf, scals, scal, Nat.reduceEqDiff, Nat.reduceAdd, reduceCtorEq, fieldA, nonNil, cellsAt, mkAgg, allPV, storeB, patchL, Int.reduceToNat, Nat.reduceMul, Nat.reduceLT, stepA, Int.reduceNeg, Int.reduceLE, Int.reduceLT, Int.reduceEq, extractV, mkAgg, Nat.reduceLeDiff, fillA, pureVs, pureV, eqV, eqB, lenV.eq_1, lenV.eq_2, lenV.eq_3, lenV.eq_4, binV, intBin, intV, idxA, List.drop, List.take, RetP, retP, resV, resOne, snapV, snapVs, snapR, snapRs, ownSz, pickV, AO.isC, opE, opD, funV.eq_1, funV.eq_2, k.call, h1]
  · rw [h3] at k
    have hj : (0 : Int) ≤ ((0 + j : Nat) : Int) := by omega
    have hj' : (0 : Int) ≤ (j : Int) := by omega
    simp only [f282, runL, opQ, evOp, evO, evOs, guardV, argsA, pvs, putS, cellsOf, scals, scal, Nat.reduceEqDiff, Nat.reduceAdd, reduceCtorEq, fieldA, nonNil, cellsAt, mkAgg, allPV, storeB, patchL, Int.reduceToNat, Nat.reduceMul, Nat.reduceLT, stepA, Int.reduceNeg, Int.reduceLE, Int.reduceLT, Int.reduceEq, extractV, mkAgg, Nat.reduceLeDiff, fillA, pureVs, pureV, eqV, eqB, lenV.eq_1, lenV.eq_2, lenV.eq_3, lenV.eq_4, binV, intBin, intV, idxA, List.drop, List.take, RetP, retP, resV, resOne, snapV, snapVs, snapR, snapRs, ownSz, pickV, AO.isC, opE, opD, funV.eq_1, funV.eq_2, k.call, h2, hj, hj', reduceCtorEq]
set_option maxRecDepth 100000 in
set_option maxHeartbeats 4000000 in
theorem want3_ok (h90 : Std T 90 f90) (S : StdC T) (s : Snap) (hp : s.pods.length ≤ 2 ^ 30) (l : List Want) (i : Nat) (w : Want) (prev : Option Want) (hi : i < 2 ^ 30) (hg : l[i]? = some w) (hprev : (i = 0 ∧ prev = none) ∨ ∃ j v, i = j + 1 ∧ prev = some v ∧ l[j]? = some v) :
    Gives T 90 [snapP s, .slice (l.map wantC), .int .i64 (i : Int)] (errC (wantBad s.pods prev w)) := by
  refine gives h90 rfl ?_
  have k := contains3_ok S s.pods w hp
  have kf := k.callF S.flat282 rfl
  simp only [wantC] at kf
  have rest : ∀ (Q : Int → Prop), (podOf w.pod s.pods = none → Q 4) → (podOf w.pod s.pods ≠ none → w.stay = false → w.req ≠ vec0 → Q 1) → (podOf w.pod s.pods ≠ none → w.stay = false → w.req = vec0 → Q 0) → (podOf w.pod s.pods ≠ none → w.stay = true → Q 0) → Q (wantRest s.pods w) := by
    intro Q q4 q1 q0 q0'
    unfold wantRest
    by_cases h1 : podOf w.pod s.pods = none
    · rw [if_pos h1]; exact q4 h1
    · rw [if_neg h1]
      cases h2 : w.stay
      · by_cases h3 : w.req = vec0
        · rw [if_neg (by simp [h3])]; exact q0 h1 h2 h3
        · rw [if_pos ⟨rfl, h3⟩]; exact q1 h1 h2 h3
      · rw [if_neg (by simp)]; exact q0' h1 h2
  rcases hprev with ⟨rfl, rfl⟩ | ⟨j, v, rfl, rfl, hv⟩
  · have z0 : ((0 : Nat) : Int) = 0 := rfl
    simp only [wantBad]
    refine rest (fun c => Wp T false f90.body ⟨argsA 0 (pvs [snapP s, .slice (l.map wantC), .int .i64 ((0 : Nat) : Int)]), [], 0⟩ (RetP f90.res (errC c))) (fun h1 => ?_) (fun h1 h2 h3 => ?_) (fun h1 h2 h3 => ?_) (fun h1 h2 => ?_)
    all_goals
      simp only [f90, runL, opQ, evOp, evO, evOs, guardV, argsA, pvs, putS, cellsOf, scals, scal, Nat.reduceEqDiff, Nat.reduceAdd, reduceCtorEq, fieldA, nonNil, cellsAt, mkAgg, allPV, storeB, patchL, Int.reduceToNat, Nat.reduceMul, Nat.reduceLT, stepA, Int.reduceNeg, Int.reduceLE, Int.reduceLT, Int.reduceEq, extractV, mkAgg, Nat.reduceLeDiff, fillA, pureVs, pureV, eqV, eqB, lenV.eq_1, lenV.eq_2, lenV.eq_3, lenV.eq_4, binV, intBin, intV, idxA, List.drop, List.take, RetP, retP, resV, resOne, snapV, snapVs, snapR, snapRs, ownSz, pickV, AO.isC, opE, opD, funV.eq_1, funV.eq_2, snapP, hg, wantC, z0]
      refine (Wp_calmS rfl).2 ?_
      simp only [runL, opQ, evOp, evO, evOs, guardV, argsA, pvs, putS, cellsOf, scals, scal, Nat.reduceEqDiff, Nat.reduceAdd, reduceCtorEq, fieldA, nonNil, cellsAt, mkAgg, allPV, storeB, patchL, Int.reduceToNat, Nat.reduceMul, Nat.reduceLT, stepA, Int.reduceNeg, Int.reduceLE, Int.reduceLT, Int.reduceEq, extractV, mkAgg, Nat.reduceLeDiff, fillA, pureVs, pureV, eqV, eqB, lenV.eq_1, lenV.eq_2, lenV.eq_3, lenV.eq_4, binV, intBin, intV, idxA, List.drop, List.take, RetP, retP, resV, resOne, snapV, snapVs, snapR, snapRs, ownSz, pickV, AO.isC, opE, opD, funV.eq_1, funV.eq_2]
      refine (Wp_calmS rfl).2 ?_
      simp only [runL, opQ, evOp, evO, evOs, guardV, argsA, pvs, putS, cellsOf, scals, scal, Nat.reduceEqDiff, Nat.reduceAdd, reduceCtorEq, fieldA, nonNil, cellsAt, mkAgg, allPV, storeB, patchL, Int.reduceToNat, Nat.reduceMul, Nat.reduceLT, stepA, Int.reduceNeg, Int.reduceLE, Int.reduceLT, Int.reduceEq, extractV, mkAgg, Nat.reduceLeDiff, fillA, pureVs, pureV, eqV, eqB, lenV.eq_1, lenV.eq_2, lenV.eq_3, lenV.eq_4, binV, intBin, intV, idxA, List.drop, List.take, RetP, retP, resV, resOne, snapV, snapVs, snapR, snapRs, ownSz, pickV, AO.isC, opE, opD, funV.eq_1, funV.eq_2, mkFun, allPVs]
      rw [kf _ _ _ _ _ (eq_true (by simp only [runL, opQ, evOp, evO, evOs, guardV, argsA, pvs, putS, cellsOf, scals, scal, Nat.reduceEqDiff, Nat.reduceAdd, reduceCtorEq, fieldA, nonNil, cellsAt, mkAgg, allPV, storeB, patchL, Int.reduceToNat, Nat.reduceMul, Nat.reduceLT, stepA, Int.reduceNeg, Int.reduceLE, Int.reduceLT, Int.reduceEq, extractV, mkAgg, Nat.reduceLeDiff, fillA, pureVs, pureV, eqV, eqB, lenV.eq_1, lenV.eq_2, lenV.eq_3, lenV.eq_4, binV, intBin, intV, idxA, List.drop, List.take, RetP, retP, resV, resOne, snapV, snapVs, snapR, snapRs, ownSz, pickV, AO.isC, opE, opD, funV.eq_1, funV.eq_2])) (eq_true (by simp only [runL, opQ, evOp, evO, evOs, guardV, argsA, pvs, putS, cellsOf, scals, scal, Nat.reduceEqDiff, Nat.reduceAdd, reduceCtorEq, fieldA, nonNil, cellsAt, mkAgg, allPV, storeB, patchL, Int.reduceToNat, Nat.reduceMul, Nat.reduceLT, stepA, Int.reduceNeg, Int.reduceLE, Int.reduceLT, Int.reduceEq, extractV, mkAgg, Nat.reduceLeDiff, fillA, pureVs, pureV, eqV, eqB, lenV.eq_1, lenV.eq_2, lenV.eq_3, lenV.eq_4, binV, intBin, intV, idxA, List.drop, List.take, RetP, retP, resV, resOne, snapV, snapVs, snapR, snapRs, ownSz, pickV, AO.isC, opE, opD, funV.eq_1, funV.eq_2]))]
    · simp only [runL, opQ, evOp, evO, evOs, guardV, argsA, pvs, putS, cellsOf, scals, scal, Nat.reduceEqDiff, Nat.reduceAdd, reduceCtorEq, fieldA, nonNil, cellsAt, mkAgg, allPV, storeB, patchL, Int.reduceToNat, Nat.reduceMul, Nat.reduceLT, stepA, Int.reduceNeg, Int.reduceLE, Int.reduceLT, Int.reduceEq, extractV, mkAgg, Nat.reduceLeDiff, fillA, pureVs, pureV, eqV, eqB, lenV.eq_1, lenV.eq_2, lenV.eq_3, lenV.eq_4, binV, intBin, intV, idxA, List.drop, List.take, RetP, retP, resV, resOne, snapV, snapVs, snapR, snapRs, ownSz, pickV, AO.isC, opE, opD, funV.eq_1, funV.eq_2, h1, errC4]
    · have hv := eqVec w.req vec0
      rw [decide_eq_false h3] at hv
      simp only [vec0] at hv
      simp only [runL, opQ, evOp, evO, evOs, guardV, argsA, pvs, putS, cellsOf, scals, scal, Nat.reduceEqDiff, Nat.reduceAdd, reduceCtorEq, fieldA, nonNil, cellsAt, mkAgg, allPV, storeB, patchL, Int.reduceToNat, Nat.reduceMul, Nat.reduceLT, stepA, Int.reduceNeg, Int.reduceLE, Int.reduceLT, Int.reduceEq, extractV, mkAgg, Nat.reduceLeDiff, fillA, pureVs, pureV, eqV, eqB, lenV.eq_1, lenV.eq_2, lenV.eq_3, lenV.eq_4, binV, intBin, intV, idxA, List.drop, List.take, RetP, retP, resV, resOne, snapV, snapVs, snapR, snapRs, ownSz, pickV, AO.isC, opE, opD, funV.eq_1, funV.eq_2, h1, h2, hv, errC1]
    · have hv := eqVec w.req vec0
      rw [decide_eq_true h3] at hv
      simp only [vec0] at hv
      simp only [runL, opQ, evOp, evO, evOs, guardV, argsA, pvs, putS, cellsOf, scals, scal, Nat.reduceEqDiff, Nat.reduceAdd, reduceCtorEq, fieldA, nonNil, cellsAt, mkAgg, allPV, storeB, patchL, Int.reduceToNat, Nat.reduceMul, Nat.reduceLT, stepA, Int.reduceNeg, Int.reduceLE, Int.reduceLT, Int.reduceEq, extractV, mkAgg, Nat.reduceLeDiff, fillA, pureVs, pureV, eqV, eqB, lenV.eq_1, lenV.eq_2, lenV.eq_3, lenV.eq_4, binV, intBin, intV, idxA, List.drop, List.take, RetP, retP, resV, resOne, snapV, snapVs, snapR, snapRs, ownSz, pickV, AO.isC, opE, opD, funV.eq_1, funV.eq_2, h1, h2, hv, errC0]
    · simp only [runL, opQ, evOp, evO, evOs, guardV, argsA, pvs, putS, cellsOf, scals, scal, Nat.reduceEqDiff, Nat.reduceAdd, reduceCtorEq, fieldA, nonNil, cellsAt, mkAgg, allPV, storeB, patchL, Int.reduceToNat, Nat.reduceMul, Nat.reduceLT, stepA, Int.reduceNeg, Int.reduceLE, Int.reduceLT, Int.reduceEq, extractV, mkAgg, Nat.reduceLeDiff, fillA, pureVs, pureV, eqV, eqB, lenV.eq_1, lenV.eq_2, lenV.eq_3, lenV.eq_4, binV, intBin, intV, idxA, List.drop, List.take, RetP, retP, resV, resOne, snapV, snapVs, snapR, snapRs, ownSz, pickV, AO.isC, opE, opD, funV.eq_1, funV.eq_2, h1, h2, errC0]
  · have w1 : IntKind.i64.wrap (((j + 1 : Nat) : Int) - 1) = (j : Int) := by rw [wrap6] <;> omega
    have p0 : (0 : Int) < ((j + 1 : Nat) : Int) := by omega
    simp only [wantBad]
    by_cases h5 : w.pod = v.pod
    · have d5 := decide_eq_true h5
      rw [if_pos h5]
      simp only [f90, runL, opQ, evOp, evO, evOs, guardV, argsA, pvs, putS, cellsOf, scals, scal, Nat.reduceEqDiff, Nat.reduceAdd, reduceCtorEq, fieldA, nonNil, cellsAt, mkAgg, allPV, storeB, patchL, Int.reduceToNat, Nat.reduceMul, Nat.reduceLT, stepA, Int.reduceNeg, Int.reduceLE, Int.reduceLT, Int.reduceEq, extractV, mkAgg, Nat.reduceLeDiff, fillA, pureVs, pureV, eqV, eqB, lenV.eq_1, lenV.eq_2, lenV.eq_3, lenV.eq_4, binV, intBin, intV, idxA, List.drop, List.take, RetP, retP, resV, resOne, snapV, snapVs, snapR, snapRs, ownSz, pickV, AO.isC, opE, opD, funV.eq_1, funV.eq_2, snapP, hg, wantC]
      refine (Wp_calmS rfl).2 ?_
      simp only [runL, opQ, evOp, evO, evOs, guardV, argsA, pvs, putS, cellsOf, scals, scal, Nat.reduceEqDiff, Nat.reduceAdd, reduceCtorEq, fieldA, nonNil, cellsAt, mkAgg, allPV, storeB, patchL, Int.reduceToNat, Nat.reduceMul, Nat.reduceLT, stepA, Int.reduceNeg, Int.reduceLE, Int.reduceLT, Int.reduceEq, extractV, mkAgg, Nat.reduceLeDiff, fillA, pureVs, pureV, eqV, eqB, lenV.eq_1, lenV.eq_2, lenV.eq_3, lenV.eq_4, binV, intBin, intV, idxA, List.drop, List.take, RetP, retP, resV, resOne, snapV, snapVs, snapR, snapRs, ownSz, pickV, AO.isC, opE, opD, funV.eq_1, funV.eq_2, hv, wantC, w1, p0, d5, errC5]
    · rw [if_neg h5]
      by_cases h6 : w.pod < v.pod
      · rw [if_pos h6]
        simp only [f90, runL, opQ, evOp, evO, evOs, guardV, argsA, pvs, putS, cellsOf, scals, scal, Nat.reduceEqDiff, Nat.reduceAdd, reduceCtorEq, fieldA, nonNil, cellsAt, mkAgg, allPV, storeB, patchL, Int.reduceToNat, Nat.reduceMul, Nat.reduceLT, stepA, Int.reduceNeg, Int.reduceLE, Int.reduceLT, Int.reduceEq, extractV, mkAgg, Nat.reduceLeDiff, fillA, pureVs, pureV, eqV, eqB, lenV.eq_1, lenV.eq_2, lenV.eq_3, lenV.eq_4, binV, intBin, intV, idxA, List.drop, List.take, RetP, retP, resV, resOne, snapV, snapVs, snapR, snapRs, ownSz, pickV, AO.isC, opE, opD, funV.eq_1, funV.eq_2, snapP, hg, wantC]
        refine (Wp_calmS rfl).2 ?_
        simp only [runL, opQ, evOp, evO, evOs, guardV, argsA, pvs, putS, cellsOf, scals, scal, Nat.reduceEqDiff, Nat.reduceAdd, reduceCtorEq, fieldA, nonNil, cellsAt, mkAgg, allPV, storeB, patchL, Int.reduceToNat, Nat.reduceMul, Nat.reduceLT, stepA, Int.reduceNeg, Int.reduceLE, Int.reduceLT, Int.reduceEq, extractV, mkAgg, Nat.reduceLeDiff, fillA, pureVs, pureV, eqV, eqB, lenV.eq_1, lenV.eq_2, lenV.eq_3, lenV.eq_4, binV, intBin, intV, idxA, List.drop, List.take, RetP, retP, resV, resOne, snapV, snapVs, snapR, snapRs, ownSz, pickV, AO.isC, opE, opD, funV.eq_1, funV.eq_2, hv, wantC, w1, p0, h5]
        refine (Wp_calmS rfl).2 ?_
        simp only [runL, opQ, evOp, evO, evOs, guardV, argsA, pvs, putS, cellsOf, scals, scal, Nat.reduceEqDiff, Nat.reduceAdd, reduceCtorEq, fieldA, nonNil, cellsAt, mkAgg, allPV, storeB, patchL, Int.reduceToNat, Nat.reduceMul, Nat.reduceLT, stepA, Int.reduceNeg, Int.reduceLE, Int.reduceLT, Int.reduceEq, extractV, mkAgg, Nat.reduceLeDiff, fillA, pureVs, pureV, eqV, eqB, lenV.eq_1, lenV.eq_2, lenV.eq_3, lenV.eq_4, binV, intBin, intV, idxA, List.drop, List.take, RetP, retP, resV, resOne, snapV, snapVs, snapR, snapRs, ownSz, pickV, AO.isC, opE, opD, funV.eq_1, funV.eq_2, hv, wantC, w1, p0, h6, errC1]
      · rw [if_neg h6]
        refine rest (fun c => Wp T false f90.body ⟨argsA 0 (pvs [snapP s, .slice (l.map wantC), .int .i64 ((j + 1 : Nat) : Int)]), [], 0⟩ (RetP f90.res (errC c))) (fun h1 => ?_) (fun h1 h2 h3 => ?_) (fun h1 h2 h3 => ?_) (fun h1 h2 => ?_)
        all_goals
          simp only [f90, runL, opQ, evOp, evO, evOs, guardV, argsA, pvs, putS, cellsOf, scals, scal, Nat.reduceEqDiff, Nat.reduceAdd, reduceCtorEq, fieldA, nonNil, cellsAt, mkAgg, allPV, storeB, patchL, Int.reduceToNat, Nat.reduceMul, Nat.reduceLT, stepA, Int.reduceNeg, Int.reduceLE, Int.reduceLT, Int.reduceEq, extractV, mkAgg, Nat.reduceLeDiff, fillA, pureVs, pureV, eqV, eqB, lenV.eq_1, lenV.eq_2, lenV.eq_3, lenV.eq_4, binV, intBin, intV, idxA, List.drop, List.take, RetP, retP, resV, resOne, snapV, snapVs, snapR, snapRs, ownSz, pickV, AO.isC, opE, opD, funV.eq_1, funV.eq_2, snapP, hg, wantC]
          refine (Wp_calmS rfl).2 ?_
          simp only [runL, opQ, evOp, evO, evOs, guardV, argsA, pvs, putS, cellsOf, scals, scal, Nat.reduceEqDiff, Nat.reduceAdd, reduceCtorEq, fieldA, nonNil, cellsAt, mkAgg, allPV, storeB, patchL, Int.reduceToNat, Nat.reduceMul, Nat.reduceLT, stepA, Int.reduceNeg, Int.reduceLE, Int.reduceLT, Int.reduceEq, extractV, mkAgg, Nat.reduceLeDiff, fillA, pureVs, pureV, eqV, eqB, lenV.eq_1, lenV.eq_2, lenV.eq_3, lenV.eq_4, binV, intBin, intV, idxA, List.drop, List.take, RetP, retP, resV, resOne, snapV, snapVs, snapR, snapRs, ownSz, pickV, AO.isC, opE, opD, funV.eq_1, funV.eq_2, hv, wantC, w1, p0, h5]
          refine (Wp_calmS rfl).2 ?_
          simp only [runL, opQ, evOp, evO, evOs, guardV, argsA, pvs, putS, cellsOf, scals, scal, Nat.reduceEqDiff, Nat.reduceAdd, reduceCtorEq, fieldA, nonNil, cellsAt, mkAgg, allPV, storeB, patchL, Int.reduceToNat, Nat.reduceMul, Nat.reduceLT, stepA, Int.reduceNeg, Int.reduceLE, Int.reduceLT, Int.reduceEq, extractV, mkAgg, Nat.reduceLeDiff, fillA, pureVs, pureV, eqV, eqB, lenV.eq_1, lenV.eq_2, lenV.eq_3, lenV.eq_4, binV, intBin, intV, idxA, List.drop, List.take, RetP, retP, resV, resOne, snapV, snapVs, snapR, snapRs, ownSz, pickV, AO.isC, opE, opD, funV.eq_1, funV.eq_2, hv, wantC, w1, p0, h6, mkFun, allPVs]
          rw [kf _ _ _ _ _ (eq_true (by simp only [runL, opQ, evOp, evO, evOs, guardV, argsA, pvs, putS, cellsOf, scals, scal, Nat.reduceEqDiff, Nat.reduceAdd, reduceCtorEq, fieldA, nonNil, cellsAt, mkAgg, allPV, storeB, patchL, Int.reduceToNat, Nat.reduceMul, Nat.reduceLT, stepA, Int.reduceNeg, Int.reduceLE, Int.reduceLT, Int.reduceEq, extractV, mkAgg, Nat.reduceLeDiff, fillA, pureVs, pureV, eqV, eqB, lenV.eq_1, lenV.eq_2, lenV.eq_3, lenV.eq_4, binV, intBin, intV, idxA, List.drop, List.take, RetP, retP, resV, resOne, snapV, snapVs, snapR, snapRs, ownSz, pickV, AO.isC, opE, opD, funV.eq_1, funV.eq_2])) (eq_true (by simp only [runL, opQ, evOp, evO, evOs, guardV, argsA, pvs, putS, cellsOf, scals, scal, Nat.reduceEqDiff, Nat.reduceAdd, reduceCtorEq, fieldA, nonNil, cellsAt, mkAgg, allPV, storeB, patchL, Int.reduceToNat, Nat.reduceMul, Nat.reduceLT, stepA, Int.reduceNeg, Int.reduceLE, Int.reduceLT, Int.reduceEq, extractV, mkAgg, Nat.reduceLeDiff, fillA, pureVs, pureV, eqV, eqB, lenV.eq_1, lenV.eq_2, lenV.eq_3, lenV.eq_4, binV, intBin, intV, idxA, List.drop, List.take, RetP, retP, resV, resOne, snapV, snapVs, snapR, snapRs, ownSz, pickV, AO.isC, opE, opD, funV.eq_1, funV.eq_2]))]
        · simp only [runL, opQ, evOp, evO, evOs, guardV, argsA, pvs, putS, cellsOf, scals, scal, Nat.reduceEqDiff, Nat.reduceAdd, reduceCtorEq, fieldA, nonNil, cellsAt, mkAgg, allPV, storeB, patchL, Int.reduceToNat, Nat.reduceMul, Nat.reduceLT, stepA, Int.reduceNeg, Int.reduceLE, Int.reduceLT, Int.reduceEq, extractV, mkAgg, Nat.reduceLeDiff, fillA, pureVs, pureV, eqV, eqB, lenV.eq_1, lenV.eq_2, lenV.eq_3, lenV.eq_4, binV, intBin, intV, idxA, List.drop, List.take, RetP, retP, resV, resOne, snapV, snapVs, snapR, snapRs, ownSz, pickV, AO.isC, opE, opD, funV.eq_1, funV.eq_2, h1, errC4]
        · have hv := eqVec w.req vec0
          rw [decide_eq_false h3] at hv
          simp only [vec0] at hv
          simp only [runL, opQ, evOp, evO, evOs, guardV, argsA, pvs, putS, cellsOf, scals, scal, Nat.reduceEqDiff, Nat.reduceAdd, reduceCtorEq, fieldA, nonNil, cellsAt, mkAgg, allPV, storeB, patchL, Int.reduceToNat, Nat.reduceMul, Nat.reduceLT, stepA, Int.reduceNeg, Int.reduceLE, Int.reduceLT, Int.reduceEq, extractV, mkAgg, Nat.reduceLeDiff, fillA, pureVs, pureV, eqV, eqB, lenV.eq_1, lenV.eq_2, lenV.eq_3, lenV.eq_4, binV, intBin, intV, idxA, List.drop, List.take, RetP, retP, resV, resOne, snapV, snapVs, snapR, snapRs, ownSz, pickV, AO.isC, opE, opD, funV.eq_1, funV.eq_2, h1, h2, hv, errC1]
        · have hv := eqVec w.req vec0
          rw [decide_eq_true h3] at hv
          simp only [vec0] at hv
          simp only [runL, opQ, evOp, evO, evOs, guardV, argsA, pvs, putS, cellsOf, scals, scal, Nat.reduceEqDiff, Nat.reduceAdd, reduceCtorEq, fieldA, nonNil, cellsAt, mkAgg, allPV, storeB, patchL, Int.reduceToNat, Nat.reduceMul, Nat.reduceLT, stepA, Int.reduceNeg, Int.reduceLE, Int.reduceLT, Int.reduceEq, extractV, mkAgg, Nat.reduceLeDiff, fillA, pureVs, pureV, eqV, eqB, lenV.eq_1, lenV.eq_2, lenV.eq_3, lenV.eq_4, binV, intBin, intV, idxA, List.drop, List.take, RetP, retP, resV, resOne, snapV, snapVs, snapR, snapRs, ownSz, pickV, AO.isC, opE, opD, funV.eq_1, funV.eq_2, h1, h2, hv, errC0]
        · simp only [runL, opQ, evOp, evO, evOs, guardV, argsA, pvs, putS, cellsOf, scals, scal, Nat.reduceEqDiff, Nat.reduceAdd, reduceCtorEq, fieldA, nonNil, cellsAt, mkAgg, allPV, storeB, patchL, Int.reduceToNat, Nat.reduceMul, Nat.reduceLT, stepA, Int.reduceNeg, Int.reduceLE, Int.reduceLT, Int.reduceEq, extractV, mkAgg, Nat.reduceLeDiff, fillA, pureVs, pureV, eqV, eqB, lenV.eq_1, lenV.eq_2, lenV.eq_3, lenV.eq_4, binV, intBin, intV, idxA, List.drop, List.take, RetP, retP, resV, resOne, snapV, snapVs, snapR, snapRs, ownSz, pickV, AO.isC, opE, opD, funV.eq_1, funV.eq_2, h1, h2, errC0]
end
end Go.Proofs.YtlfphlobcopemaaGreatDoor.Ab
set_option linter.unusedVariables false
set_option linter.unusedSimpArgs false
namespace Go.Proofs.YtlfphlobcopemaaGreatDoor.Ab
open Go
structure Std3f (T : Tab) : Prop where
  b : Std3 T
  h80 : Std T 80 f80
  h90 : Std T 90 f90
  c : StdC T
section
variable {T : Tab}
theorem fair_loop (S : Std3f T) (s : Snap) (x : Spec) (hp : s.pods.length ≤ 2 ^ 30) (hx : x.wants.length ≤ 2 ^ 29) (Q : Exit → St → Prop) (o : Option (Int × Int))
    (hend : o = none → ∀ fr hp nx, Q (.exit 0) ⟨fr, hp, nx⟩)
    (hret : ∀ fr hp nx, retP [.t 4] ⟨fr, hp, nx⟩ = some (errG o) → Q .ret ⟨fr, hp, nx⟩) :
    ∀ (rest : List Want) (i : Nat) (prev : Option Want), x.wants.drop i = rest → i ≤ x.wants.length → ((i = 0 ∧ prev = none) ∨ ∃ j v, i = j + 1 ∧ prev = some v ∧ x.wants[j]? = some v) → wantsFrom s.pods prev i rest = o → ∀ (fr : List (Nat × AV)) (hp : Hl) (nx : Nat), 2 ≤ nx → look fr 2 = .ptr 0 0 0 → look fr 3 = .ptr 1 0 0 →
      blkAt hp 0 = .var [.pv (.slice (s.nodes.map nodeC)), .pv (.slice (s.loads.map loadC)), .pv (.slice (s.pods.map podC))] → blkAt hp 1 = .var [.pv (.slice (x.wants.map wantC)), .pv (.int .i64 x.pre), .pv (.int .i64 x.shi)] →
      look fr 34 = .pv (.int .i64 x.wants.length) → look fr 35 = .pv (.int .i64 i) → Wp T false (.loop f80l0) ⟨fr, hp, nx⟩ Q := by
  intro rest
  induction rest with
  | nil =>
    intro i prev hd hi hpv ho fr hp nx hnx g2 g3 b0 b1 h34 h35
    have hlen := drop_nil hd hi
    rw [Wp_loop, Wp_eq f80l0.eq_1]
    simp only [runL, opQ, evOp, evO, evOs, guardV, argsA, pvs, putS, cellsOf, scals, scal, Nat.reduceEqDiff, Nat.reduceAdd, reduceCtorEq, fieldA, nonNil, cellsAt, mkAgg, allPV, storeB, patchL, Int.reduceToNat, Nat.reduceMul, Nat.reduceLT, stepA, Int.reduceNeg, Int.reduceLE, Int.reduceLT, Int.reduceEq, extractV, mkAgg, Nat.reduceLeDiff, fillA, pureVs, pureV, eqV, eqB, lenV.eq_1, lenV.eq_2, lenV.eq_3, lenV.eq_4, binV, intBin, intV, idxA, List.drop, List.take, RetP, retP, resV, resOne, snapV, snapVs, snapR, snapRs, ownSz, pickV, AO.isC, opE, opD, funV.eq_1, funV.eq_2, h34, h35, hlen, Int.lt_irrefl]
    exact hend ho.symm _ _ _
  | cons w r ih =>
    intro i prev hd hi hpv ho fr hp nx hnx g2 g3 b0 b1 h34 h35
    obtain ⟨hget, hlt, hw, hd', hi', hbb⟩ := drop_cons hd (by omega)
    have n0 : ¬ nx = 0 := by omega
    have n1 : ¬ nx = 1 := by omega
    have k := want3_ok S.h90 S.c s (by assumption) x.wants i w prev hbb hget hpv
    simp only [snapP] at k
    simp only [wantsFrom] at ho
    rw [Wp_loop, Wp_eq f80l0.eq_1]
    by_cases hc : wantBad s.pods prev w = 0
    · rw [if_neg (by simpa using hc)] at ho
      rw [hc, errC0] at k
      simp only [runL, opQ, evOp, evO, evOs, guardV, argsA, pvs, putS, cellsOf, scals, scal, Nat.reduceEqDiff, Nat.reduceAdd, reduceCtorEq, fieldA, nonNil, cellsAt, mkAgg, allPV, storeB, patchL, Int.reduceToNat, Nat.reduceMul, Nat.reduceLT, stepA, Int.reduceNeg, Int.reduceLE, Int.reduceLT, Int.reduceEq, extractV, mkAgg, Nat.reduceLeDiff, fillA, pureVs, pureV, eqV, eqB, lenV.eq_1, lenV.eq_2, lenV.eq_3, lenV.eq_4, binV, intBin, intV, idxA, List.drop, List.take, RetP, retP, resV, resOne, snapV, snapVs, snapR, snapRs, ownSz, pickV, AO.isC, opE, opD, funV.eq_1, funV.eq_2, g2, g3, b0, b1, h34, h35, hlt, n0, n1, k.call, as_nilQ S.b.hA, hw]
      refine ih (i + 1) (some w) hd' hi' (.inr ⟨i, w, rfl, rfl, hget⟩) (by rw [← ho]; rfl) _ _ _ (by omega) ?_ ?_ ?_ ?_ ?_ ?_
      all_goals try simp only [look_if, blkAt_if, Nat.reduceEqDiff, if_true, if_false, g2, g3, n0, n1, b0, b1, h34]
    · rw [if_pos hc] at ho
      have hc' : errC (wantBad s.pods prev w) = .iface 0 (.int .i64 (wantBad s.pods prev w)) := if_neg hc
      rw [hc'] at k
      have hi0 : ¬ (i : Int) < 0 := by omega
      simp only [runL, opQ, evOp, evO, evOs, guardV, argsA, pvs, putS, cellsOf, scals, scal, Nat.reduceEqDiff, Nat.reduceAdd, reduceCtorEq, fieldA, nonNil, cellsAt, mkAgg, allPV, storeB, patchL, Int.reduceToNat, Nat.reduceMul, Nat.reduceLT, stepA, Int.reduceNeg, Int.reduceLE, Int.reduceLT, Int.reduceEq, extractV, mkAgg, Nat.reduceLeDiff, fillA, pureVs, pureV, eqV, eqB, lenV.eq_1, lenV.eq_2, lenV.eq_3, lenV.eq_4, binV, intBin, intV, idxA, List.drop, List.take, RetP, retP, resV, resOne, snapV, snapVs, snapR, snapRs, ownSz, pickV, AO.isC, opE, opD, funV.eq_1, funV.eq_2, g2, g3, b0, b1, h34, h35, hlt, n0, n1, k.call]
      refine (as_codeQ S.b.hA (o := 0) ?_).2 ?_
      · simp only [runL, opQ, evOp, evO, evOs, guardV, argsA, pvs, putS, cellsOf, scals, scal, Nat.reduceEqDiff, Nat.reduceAdd, reduceCtorEq, fieldA, nonNil, cellsAt, mkAgg, allPV, storeB, patchL, Int.reduceToNat, Nat.reduceMul, Nat.reduceLT, stepA, Int.reduceNeg, Int.reduceLE, Int.reduceLT, Int.reduceEq, extractV, mkAgg, Nat.reduceLeDiff, fillA, pureVs, pureV, eqV, eqB, lenV.eq_1, lenV.eq_2, lenV.eq_3, lenV.eq_4, binV, intBin, intV, idxA, List.drop, List.take, RetP, retP, resV, resOne, snapV, snapVs, snapR, snapRs, ownSz, pickV, AO.isC, opE, opD, funV.eq_1, funV.eq_2]
      · simp only [runL, opQ, evOp, evO, evOs, guardV, argsA, pvs, putS, cellsOf, scals, scal, Nat.reduceEqDiff, Nat.reduceAdd, reduceCtorEq, fieldA, nonNil, cellsAt, mkAgg, allPV, storeB, patchL, Int.reduceToNat, Nat.reduceMul, Nat.reduceLT, stepA, Int.reduceNeg, Int.reduceLE, Int.reduceLT, Int.reduceEq, extractV, mkAgg, Nat.reduceLeDiff, fillA, pureVs, pureV, eqV, eqB, lenV.eq_1, lenV.eq_2, lenV.eq_3, lenV.eq_4, binV, intBin, intV, idxA, List.drop, List.take, RetP, retP, resV, resOne, snapV, snapVs, snapR, snapRs, ownSz, pickV, AO.isC, opE, opD, funV.eq_1, funV.eq_2]
        refine hret _ _ _ ?_
        simp only [runL, opQ, evOp, evO, evOs, guardV, argsA, pvs, putS, cellsOf, scals, scal, Nat.reduceEqDiff, Nat.reduceAdd, reduceCtorEq, fieldA, nonNil, cellsAt, mkAgg, allPV, storeB, patchL, Int.reduceToNat, Nat.reduceMul, Nat.reduceLT, stepA, Int.reduceNeg, Int.reduceLE, Int.reduceLT, Int.reduceEq, extractV, mkAgg, Nat.reduceLeDiff, fillA, pureVs, pureV, eqV, eqB, lenV.eq_1, lenV.eq_2, lenV.eq_3, lenV.eq_4, binV, intBin, intV, idxA, List.drop, List.take, RetP, retP, resV, resOne, snapV, snapVs, snapR, snapRs, ownSz, pickV, AO.isC, opE, opD, funV.eq_1, funV.eq_2, ← ho, errG, hi0, spotE]
theorem fair3_ok (S : Std3f T) (s : Snap) (x : Spec) (hx : x.wants.length ≤ 2 ^ 29) : Gives T 80 [snapP s, specP x] (errG (fairB s x)) := by
  refine gives S.h80 rfl ?_
  have k := check3_ok S.b s
  simp only [snapP] at k
  unfold fairB
  cases hc : checkB s with
  | some e =>
    obtain ⟨c, a⟩ := e
    rw [hc] at k
    simp only [errG] at k ⊢
    by_cases ha : a < 0
    · rw [if_pos ha] at k ⊢
      simp only [codeE] at k
      simp only [f80, runL, opQ, evOp, evO, evOs, guardV, argsA, pvs, putS, cellsOf, scals, scal, Nat.reduceEqDiff, Nat.reduceAdd, reduceCtorEq, fieldA, nonNil, cellsAt, mkAgg, allPV, storeB, patchL, Int.reduceToNat, Nat.reduceMul, Nat.reduceLT, stepA, Int.reduceNeg, Int.reduceLE, Int.reduceLT, Int.reduceEq, extractV, mkAgg, Nat.reduceLeDiff, fillA, pureVs, pureV, eqV, eqB, lenV.eq_1, lenV.eq_2, lenV.eq_3, lenV.eq_4, binV, intBin, intV, idxA, List.drop, List.take, RetP, retP, resV, resOne, snapV, snapVs, snapR, snapRs, ownSz, pickV, AO.isC, opE, opD, funV.eq_1, funV.eq_2, snapP, specP, k.call, codeE]
    · rw [if_neg ha] at k ⊢
      simp only [spotE] at k
      simp only [f80, runL, opQ, evOp, evO, evOs, guardV, argsA, pvs, putS, cellsOf, scals, scal, Nat.reduceEqDiff, Nat.reduceAdd, reduceCtorEq, fieldA, nonNil, cellsAt, mkAgg, allPV, storeB, patchL, Int.reduceToNat, Nat.reduceMul, Nat.reduceLT, stepA, Int.reduceNeg, Int.reduceLE, Int.reduceLT, Int.reduceEq, extractV, mkAgg, Nat.reduceLeDiff, fillA, pureVs, pureV, eqV, eqB, lenV.eq_1, lenV.eq_2, lenV.eq_3, lenV.eq_4, binV, intBin, intV, idxA, List.drop, List.take, RetP, retP, resV, resOne, snapV, snapVs, snapR, snapRs, ownSz, pickV, AO.isC, opE, opD, funV.eq_1, funV.eq_2, snapP, specP, k.call, spotE]
  | none =>
    have hs : s.pods.length ≤ 2 ^ 30 := by
      unfold checkB at hc
      split at hc
      · rename_i hz
        simp only [sizesOK, Bool.and_eq_true, decide_eq_true_eq] at hz
        omega
      · simp at hc
    rw [hc] at k
    simp only [errG] at k
    simp only
    by_cases c1 : x.pre < 0
    · rw [if_neg (by omega)]
      simp only [f80, runL, opQ, evOp, evO, evOs, guardV, argsA, pvs, putS, cellsOf, scals, scal, Nat.reduceEqDiff, Nat.reduceAdd, reduceCtorEq, fieldA, nonNil, cellsAt, mkAgg, allPV, storeB, patchL, Int.reduceToNat, Nat.reduceMul, Nat.reduceLT, stepA, Int.reduceNeg, Int.reduceLE, Int.reduceLT, Int.reduceEq, extractV, mkAgg, Nat.reduceLeDiff, fillA, pureVs, pureV, eqV, eqB, lenV.eq_1, lenV.eq_2, lenV.eq_3, lenV.eq_4, binV, intBin, intV, idxA, List.drop, List.take, RetP, retP, resV, resOne, snapV, snapVs, snapR, snapRs, ownSz, pickV, AO.isC, opE, opD, funV.eq_1, funV.eq_2, snapP, specP, k.call, c1, errG, codeE]
    · by_cases c2 : 40 < x.pre
      · rw [if_neg (by omega)]
        simp only [f80, runL, opQ, evOp, evO, evOs, guardV, argsA, pvs, putS, cellsOf, scals, scal, Nat.reduceEqDiff, Nat.reduceAdd, reduceCtorEq, fieldA, nonNil, cellsAt, mkAgg, allPV, storeB, patchL, Int.reduceToNat, Nat.reduceMul, Nat.reduceLT, stepA, Int.reduceNeg, Int.reduceLE, Int.reduceLT, Int.reduceEq, extractV, mkAgg, Nat.reduceLeDiff, fillA, pureVs, pureV, eqV, eqB, lenV.eq_1, lenV.eq_2, lenV.eq_3, lenV.eq_4, binV, intBin, intV, idxA, List.drop, List.take, RetP, retP, resV, resOne, snapV, snapVs, snapR, snapRs, ownSz, pickV, AO.isC, opE, opD, funV.eq_1, funV.eq_2, snapP, specP, k.call, c1, c2, errG, codeE]
      · by_cases c3 : x.shi < 0
        · rw [if_neg (by omega)]
          simp only [f80, runL, opQ, evOp, evO, evOs, guardV, argsA, pvs, putS, cellsOf, scals, scal, Nat.reduceEqDiff, Nat.reduceAdd, reduceCtorEq, fieldA, nonNil, cellsAt, mkAgg, allPV, storeB, patchL, Int.reduceToNat, Nat.reduceMul, Nat.reduceLT, stepA, Int.reduceNeg, Int.reduceLE, Int.reduceLT, Int.reduceEq, extractV, mkAgg, Nat.reduceLeDiff, fillA, pureVs, pureV, eqV, eqB, lenV.eq_1, lenV.eq_2, lenV.eq_3, lenV.eq_4, binV, intBin, intV, idxA, List.drop, List.take, RetP, retP, resV, resOne, snapV, snapVs, snapR, snapRs, ownSz, pickV, AO.isC, opE, opD, funV.eq_1, funV.eq_2, snapP, specP, k.call, c1, c2, c3, errG, codeE]
        · by_cases c4 : 40 < x.shi
          · rw [if_neg (by omega)]
            simp only [f80, runL, opQ, evOp, evO, evOs, guardV, argsA, pvs, putS, cellsOf, scals, scal, Nat.reduceEqDiff, Nat.reduceAdd, reduceCtorEq, fieldA, nonNil, cellsAt, mkAgg, allPV, storeB, patchL, Int.reduceToNat, Nat.reduceMul, Nat.reduceLT, stepA, Int.reduceNeg, Int.reduceLE, Int.reduceLT, Int.reduceEq, extractV, mkAgg, Nat.reduceLeDiff, fillA, pureVs, pureV, eqV, eqB, lenV.eq_1, lenV.eq_2, lenV.eq_3, lenV.eq_4, binV, intBin, intV, idxA, List.drop, List.take, RetP, retP, resV, resOne, snapV, snapVs, snapR, snapRs, ownSz, pickV, AO.isC, opE, opD, funV.eq_1, funV.eq_2, snapP, specP, k.call, c1, c2, c3, c4, errG, codeE]
          · rw [if_pos (by omega)]
            simp only [f80, runL, opQ, evOp, evO, evOs, guardV, argsA, pvs, putS, cellsOf, scals, scal, Nat.reduceEqDiff, Nat.reduceAdd, reduceCtorEq, fieldA, nonNil, cellsAt, mkAgg, allPV, storeB, patchL, Int.reduceToNat, Nat.reduceMul, Nat.reduceLT, stepA, Int.reduceNeg, Int.reduceLE, Int.reduceLT, Int.reduceEq, extractV, mkAgg, Nat.reduceLeDiff, fillA, pureVs, pureV, eqV, eqB, lenV.eq_1, lenV.eq_2, lenV.eq_3, lenV.eq_4, binV, intBin, intV, idxA, List.drop, List.take, RetP, retP, resV, resOne, snapV, snapVs, snapR, snapRs, ownSz, pickV, AO.isC, opE, opD, funV.eq_1, funV.eq_2, snapP, specP, k.call, c1, c2, c3, c4]
            refine fair_loop S s x hs hx _ (wantsFrom s.pods none 0 x.wants) (fun ho fr hp nx => ?_) (fun fr hp nx hr => ?_) x.wants 0 none rfl (Nat.zero_le _) (.inl ⟨rfl, rfl⟩) rfl _ _ _ (Nat.le_refl _) rfl rfl rfl rfl rfl rfl
            · simp only [runL, opQ, evOp, evO, evOs, guardV, argsA, pvs, putS, cellsOf, scals, scal, Nat.reduceEqDiff, Nat.reduceAdd, reduceCtorEq, fieldA, nonNil, cellsAt, mkAgg, allPV, storeB, patchL, Int.reduceToNat, Nat.reduceMul, Nat.reduceLT, stepA, Int.reduceNeg, Int.reduceLE, Int.reduceLT, Int.reduceEq, extractV, mkAgg, Nat.reduceLeDiff, fillA, pureVs, pureV, eqV, eqB, lenV.eq_1, lenV.eq_2, lenV.eq_3, lenV.eq_4, binV, intBin, intV, idxA, List.drop, List.take, RetP, retP, resV, resOne, snapV, snapVs, snapR, snapRs, ownSz, pickV, AO.isC, opE, opD, funV.eq_1, funV.eq_2, ho, errG]
            · simp only [blkQ_ret, seqQ_ret, RetP, hr]
end
end Go.Proofs.YtlfphlobcopemaaGreatDoor.Ab
set_option linter.unusedVariables false
set_option linter.unusedSimpArgs false
namespace Go.Proofs.YtlfphlobcopemaaGreatDoor.Ab
open Go
/-! ### Moves -/
def formB (m : Move) : Bool := if m.kind = 2 then decide (m.node = 0) && decide (m.over = 0) else if m.kind = 1 ∨ m.kind = 3 then decide (m.over = 0) else decide (m.kind = 4)
theorem form_ok {T : Tab} (h243 : Std T 243 f243) (m : Move) : Gives T 243 [moveP m] (.bool (formB m)) := by
  refine gives h243 rfl ?_
  unfold formB
  by_cases k2 : m.kind = 2
  · by_cases n0 : m.node = 0 <;> by_cases o0 : m.over = 0 <;> simp only [f243, runL, opQ, evOp, evO, evOs, guardV, argsA, pvs, putS, cellsOf, scals, scal, Nat.reduceEqDiff, Nat.reduceAdd, reduceCtorEq, fieldA, nonNil, cellsAt, mkAgg, allPV, storeB, patchL, Int.reduceToNat, Nat.reduceMul, Nat.reduceLT, stepA, Int.reduceNeg, Int.reduceLE, Int.reduceLT, Int.reduceEq, extractV, mkAgg, Nat.reduceLeDiff, fillA, pureVs, pureV, eqV, eqB, lenV, binV, intBin, intV, idxA, List.drop, List.take, RetP, retP, resV, resOne, snapV, snapVs, snapR, snapRs, ownSz, pickV, AO.isC, opE, opD, funV, moveP, moveC, k2, n0, o0, Bool.and_true, Bool.and_false, Bool.false_and]
  · by_cases k1 : m.kind = 1
    · by_cases o0 : m.over = 0 <;> simp only [f243, runL, opQ, evOp, evO, evOs, guardV, argsA, pvs, putS, cellsOf, scals, scal, Nat.reduceEqDiff, Nat.reduceAdd, reduceCtorEq, fieldA, nonNil, cellsAt, mkAgg, allPV, storeB, patchL, Int.reduceToNat, Nat.reduceMul, Nat.reduceLT, stepA, Int.reduceNeg, Int.reduceLE, Int.reduceLT, Int.reduceEq, extractV, mkAgg, Nat.reduceLeDiff, fillA, pureVs, pureV, eqV, eqB, lenV, binV, intBin, intV, idxA, List.drop, List.take, RetP, retP, resV, resOne, snapV, snapVs, snapR, snapRs, ownSz, pickV, AO.isC, opE, opD, funV, moveP, moveC, k1, o0, true_or]
    · by_cases k3 : m.kind = 3
      · by_cases o0 : m.over = 0 <;> simp only [f243, runL, opQ, evOp, evO, evOs, guardV, argsA, pvs, putS, cellsOf, scals, scal, Nat.reduceEqDiff, Nat.reduceAdd, reduceCtorEq, fieldA, nonNil, cellsAt, mkAgg, allPV, storeB, patchL, Int.reduceToNat, Nat.reduceMul, Nat.reduceLT, stepA, Int.reduceNeg, Int.reduceLE, Int.reduceLT, Int.reduceEq, extractV, mkAgg, Nat.reduceLeDiff, fillA, pureVs, pureV, eqV, eqB, lenV, binV, intBin, intV, idxA, List.drop, List.take, RetP, retP, resV, resOne, snapV, snapVs, snapR, snapRs, ownSz, pickV, AO.isC, opE, opD, funV, moveP, moveC, k3, o0, or_true]
      · by_cases k4 : m.kind = 4 <;> simp only [f243, runL, opQ, evOp, evO, evOs, guardV, argsA, pvs, putS, cellsOf, scals, scal, Nat.reduceEqDiff, Nat.reduceAdd, reduceCtorEq, fieldA, nonNil, cellsAt, mkAgg, allPV, storeB, patchL, Int.reduceToNat, Nat.reduceMul, Nat.reduceLT, stepA, Int.reduceNeg, Int.reduceLE, Int.reduceLT, Int.reduceEq, extractV, mkAgg, Nat.reduceLeDiff, fillA, pureVs, pureV, eqV, eqB, lenV, binV, intBin, intV, idxA, List.drop, List.take, RetP, retP, resV, resOne, snapV, snapVs, snapR, snapRs, ownSz, pickV, AO.isC, opE, opD, funV, moveP, moveC, k1, k2, k3, k4, or_false]
def comeS (x : Spec) (p : Pod) (node : Int) : Pod := match wantOf p.id x.wants with
  | some w => if w.stay = true then { p with node := node, req := w.req } else { p with node := node }
  | none => { p with node := node }
theorem come_ok {T : Tab} (h242 : StdR T 242 f242) (h83 : Std T 83 f83) (x : Spec) (hx : x.wants.length ≤ 2 ^ 30) (pods : List Pod) (i id : Nat) (p : Pod) (hi : pods[i]? = some p) (node : Int) (hp : Hl) (nx : Nat) (hid : id < nx) (hb : blkAt hp id = .row 8 (pods.map podC)) :
    ∃ v hp' nx', D T 242 [.pv (specP x), .ptr id i 0, .pv (.int .i64 node)] hp nx = some (v, hp', nx') ∧ nx ≤ nx' ∧ blkAt hp' id = .row 8 ((pods.set i (comeS x p node)).map podC) ∧ ∀ j, j < nx → j ≠ id → blkAt hp' j = blkAt hp j := by
  refine D_wp h242 rfl ?_
  have k := want_ok h83 x p.id hx
  have e1 : ¬ id = nx := by omega
  have e2 : ¬ nx = id := by omega
  have hset : (pods.map podC)[i]? = some (podC p) := by rw [List.getElem?_map, hi]; rfl
  simp only [f242, runL, opQ, evOp, evO, evOs, guardV, argsA, pvs, putS, cellsOf, scals, scal, Nat.reduceEqDiff, Nat.reduceAdd, reduceCtorEq, fieldA, nonNil, cellsAt, mkAgg, allPV, storeB, patchL, Int.reduceToNat, Nat.reduceMul, Nat.reduceLT, stepA, Int.reduceNeg, Int.reduceLE, Int.reduceLT, Int.reduceEq, extractV, mkAgg, Nat.reduceLeDiff, fillA, pureVs, pureV, eqV, eqB, lenV, binV, intBin, intV, idxA, List.drop, List.take, RetP, retP, resV, resOne, snapV, snapVs, snapR, snapRs, ownSz, pickV, AO.isC, opE, opD, funV, specP, hb, e2, hi, podC]
  refine Wp_draw.2 ?_
  have g1 : ∀ v : List PV, ((pods.map podC).set i v)[i]? = some v := fun v => by
    have : i < (pods.map podC).length := (List.getElem?_eq_some_iff.1 hset).1
    rw [List.getElem?_set_self this]
  have g2 : ∀ u v : List PV, (((pods.map podC).set i u).set i v) = (pods.map podC).set i v := fun u v => List.set_set ..
  have g3 : ∀ q : Pod, (pods.map podC).set i (podC q) = (pods.set i q).map podC := fun q => (List.map_set).symm
  have e3 : ¬ nx + 1 = id := by omega
  have e4 : ¬ id = nx + 1 := by omega
  cases hw : wantOf p.id x.wants with
  | none =>
    rw [hw] at k
    simp only [runL, opQ, evOp, evO, evOs, guardV, argsA, pvs, putS, cellsOf, scals, scal, Nat.reduceEqDiff, Nat.reduceAdd, reduceCtorEq, fieldA, nonNil, cellsAt, mkAgg, allPV, storeB, patchL, Int.reduceToNat, Nat.reduceMul, Nat.reduceLT, stepA, Int.reduceNeg, Int.reduceLE, Int.reduceLT, Int.reduceEq, extractV, mkAgg, Nat.reduceLeDiff, fillA, pureVs, pureV, eqV, eqB, lenV, binV, intBin, intV, idxA, List.drop, List.take, RetP, retP, resV, resOne, snapV, snapVs, snapR, snapRs, ownSz, pickV, AO.isC, opE, opD, funV, specP, hb, e1, e2, e3, e4, hi, podC, g1, k.callE, wantR, wantC, want0]
    refine ⟨?_, ?_⟩
    · simp only [chkFrom, allLt, storeB', restOK, mem, indepB, En.reads, aTmps, aTmpsL, aTmpsP, aTmpsO, gTmps, AO.tmps, disj, keys, optL, rdEv, idOf, List.reverse_cons, List.reverse_nil, List.nil_append, List.cons_append, List.append_nil, runL, opQ, evOp, evO, evOs, guardV, argsA, pvs, putS, cellsOf, scals, scal, Nat.reduceEqDiff, Nat.reduceAdd, reduceCtorEq, fieldA, nonNil, cellsAt, mkAgg, allPV, storeB, patchL, Int.reduceToNat, Nat.reduceMul, Nat.reduceLT, stepA, Int.reduceNeg, Int.reduceLE, Int.reduceLT, Int.reduceEq, extractV, mkAgg, Nat.reduceLeDiff, fillA, pureVs, pureV, eqV, eqB, lenV, binV, intBin, intV, idxA, List.drop, List.take, RetP, retP, resV, resOne, snapV, snapVs, snapR, snapRs, ownSz, pickV, AO.isC, opE, opD, funV, e1, e2, e3, e4, Bool.and_true, Bool.true_and]; rfl
    · simp only [RawQ, rawq, runL, opQ, evOp, evO, evOs, guardV, argsA, pvs, putS, cellsOf, scals, scal, Nat.reduceEqDiff, Nat.reduceAdd, reduceCtorEq, fieldA, nonNil, cellsAt, mkAgg, allPV, storeB, patchL, Int.reduceToNat, Nat.reduceMul, Nat.reduceLT, stepA, Int.reduceNeg, Int.reduceLE, Int.reduceLT, Int.reduceEq, extractV, mkAgg, Nat.reduceLeDiff, fillA, pureVs, pureV, eqV, eqB, lenV, binV, intBin, intV, idxA, List.drop, List.take, RetP, retP, resV, resOne, snapV, snapVs, snapR, snapRs, ownSz, pickV, AO.isC, opE, opD, funV, blkAt_if, e1, e2, e3, e4]
      refine ⟨by omega, ?_, fun j hj hne => ?_⟩
      · rw [← g3]; simp only [comeS, hw, podC]
      · have : ¬ nx + 1 = j := by omega
        have : ¬ nx = j := by omega
        have : ¬ id = j := fun h => hne h.symm
        simp only [blkAt_if, *, if_false]
  | some w =>
    rw [hw] at k
    cases hst : w.stay
    · simp only [runL, opQ, evOp, evO, evOs, guardV, argsA, pvs, putS, cellsOf, scals, scal, Nat.reduceEqDiff, Nat.reduceAdd, reduceCtorEq, fieldA, nonNil, cellsAt, mkAgg, allPV, storeB, patchL, Int.reduceToNat, Nat.reduceMul, Nat.reduceLT, stepA, Int.reduceNeg, Int.reduceLE, Int.reduceLT, Int.reduceEq, extractV, mkAgg, Nat.reduceLeDiff, fillA, pureVs, pureV, eqV, eqB, lenV, binV, intBin, intV, idxA, List.drop, List.take, RetP, retP, resV, resOne, snapV, snapVs, snapR, snapRs, ownSz, pickV, AO.isC, opE, opD, funV, specP, hb, e1, e2, e3, e4, hi, podC, g1, k.callE, wantR, wantC, hst]
      refine ⟨?_, ?_⟩
      · simp only [chkFrom, allLt, storeB', restOK, mem, indepB, En.reads, aTmps, aTmpsL, aTmpsP, aTmpsO, gTmps, AO.tmps, disj, keys, optL, rdEv, idOf, List.reverse_cons, List.reverse_nil, List.nil_append, List.cons_append, List.append_nil, runL, opQ, evOp, evO, evOs, guardV, argsA, pvs, putS, cellsOf, scals, scal, Nat.reduceEqDiff, Nat.reduceAdd, reduceCtorEq, fieldA, nonNil, cellsAt, mkAgg, allPV, storeB, patchL, Int.reduceToNat, Nat.reduceMul, Nat.reduceLT, stepA, Int.reduceNeg, Int.reduceLE, Int.reduceLT, Int.reduceEq, extractV, mkAgg, Nat.reduceLeDiff, fillA, pureVs, pureV, eqV, eqB, lenV, binV, intBin, intV, idxA, List.drop, List.take, RetP, retP, resV, resOne, snapV, snapVs, snapR, snapRs, ownSz, pickV, AO.isC, opE, opD, funV, e1, e2, e3, e4, Bool.and_true, Bool.true_and]; rfl
      · simp only [RawQ, rawq, runL, opQ, evOp, evO, evOs, guardV, argsA, pvs, putS, cellsOf, scals, scal, Nat.reduceEqDiff, Nat.reduceAdd, reduceCtorEq, fieldA, nonNil, cellsAt, mkAgg, allPV, storeB, patchL, Int.reduceToNat, Nat.reduceMul, Nat.reduceLT, stepA, Int.reduceNeg, Int.reduceLE, Int.reduceLT, Int.reduceEq, extractV, mkAgg, Nat.reduceLeDiff, fillA, pureVs, pureV, eqV, eqB, lenV, binV, intBin, intV, idxA, List.drop, List.take, RetP, retP, resV, resOne, snapV, snapVs, snapR, snapRs, ownSz, pickV, AO.isC, opE, opD, funV, blkAt_if, e1, e2, e3, e4]
        refine ⟨by omega, ?_, fun j hj hne => ?_⟩
        · rw [← g3]; simp only [comeS, hw, podC, hst, Bool.false_eq_true, if_false]
        · have : ¬ nx + 1 = j := by omega
          have : ¬ nx = j := by omega
          have : ¬ id = j := fun h => hne h.symm
          simp only [blkAt_if, *, if_false]
    · simp only [runL, opQ, evOp, evO, evOs, guardV, argsA, pvs, putS, cellsOf, scals, scal, Nat.reduceEqDiff, Nat.reduceAdd, reduceCtorEq, fieldA, nonNil, cellsAt, mkAgg, allPV, storeB, patchL, Int.reduceToNat, Nat.reduceMul, Nat.reduceLT, stepA, Int.reduceNeg, Int.reduceLE, Int.reduceLT, Int.reduceEq, extractV, mkAgg, Nat.reduceLeDiff, fillA, pureVs, pureV, eqV, eqB, lenV, binV, intBin, intV, idxA, List.drop, List.take, RetP, retP, resV, resOne, snapV, snapVs, snapR, snapRs, ownSz, pickV, AO.isC, opE, opD, funV, specP, hb, e1, e2, e3, e4, hi, podC, g1, k.callE, wantR, wantC, hst]
      refine ⟨?_, ?_⟩
      · simp only [chkFrom, allLt, storeB', restOK, mem, indepB, En.reads, aTmps, aTmpsL, aTmpsP, aTmpsO, gTmps, AO.tmps, disj, keys, optL, rdEv, idOf, List.reverse_cons, List.reverse_nil, List.nil_append, List.cons_append, List.append_nil, runL, opQ, evOp, evO, evOs, guardV, argsA, pvs, putS, cellsOf, scals, scal, Nat.reduceEqDiff, Nat.reduceAdd, reduceCtorEq, fieldA, nonNil, cellsAt, mkAgg, allPV, storeB, patchL, Int.reduceToNat, Nat.reduceMul, Nat.reduceLT, stepA, Int.reduceNeg, Int.reduceLE, Int.reduceLT, Int.reduceEq, extractV, mkAgg, Nat.reduceLeDiff, fillA, pureVs, pureV, eqV, eqB, lenV, binV, intBin, intV, idxA, List.drop, List.take, RetP, retP, resV, resOne, snapV, snapVs, snapR, snapRs, ownSz, pickV, AO.isC, opE, opD, funV, e1, e2, e3, e4, Bool.and_true, Bool.true_and]; rfl
      · simp only [RawQ, rawq, runL, opQ, evOp, evO, evOs, guardV, argsA, pvs, putS, cellsOf, scals, scal, Nat.reduceEqDiff, Nat.reduceAdd, reduceCtorEq, fieldA, nonNil, cellsAt, mkAgg, allPV, storeB, patchL, Int.reduceToNat, Nat.reduceMul, Nat.reduceLT, stepA, Int.reduceNeg, Int.reduceLE, Int.reduceLT, Int.reduceEq, extractV, mkAgg, Nat.reduceLeDiff, fillA, pureVs, pureV, eqV, eqB, lenV, binV, intBin, intV, idxA, List.drop, List.take, RetP, retP, resV, resOne, snapV, snapVs, snapR, snapRs, ownSz, pickV, AO.isC, opE, opD, funV, blkAt_if, e1, e2, e3, e4]
        refine ⟨by omega, ?_, fun j hj hne => ?_⟩
        · rw [← g3, g2]; simp only [comeS, hw, podC, hst, if_true]
        · have : ¬ nx + 1 = j := by omega
          have : ¬ nx = j := by omega
          have : ¬ id = j := fun h => hne h.symm
          simp only [blkAt_if, *, if_false]
theorem Cln.callN {T : Tab} {n sz : Nat} (S : Cln T n sz) {es : List (List PV)} (h : allLen sz es = true) (hl : es.length ≤ 2 ^ 30) (hne : es ≠ []) (d : Option Nat) (l : List AOper) (st : St) (K : St → Prop) :
    callQ T n [.pv (.slice es)] d l st K ↔ WpO T l ⟨putS st d (.ms st.nx), (st.nx, .row sz es) :: st.hp, st.nx + 1⟩ K := by
  rw [S.call h hl]
  cases es with
  | nil => exact absurd rfl hne
  | cons e r => exact Iff.rfl
theorem come_call {T : Tab} (h242 : StdR T 242 f242) (h83 : Std T 83 f83) (x : Spec) (hx : x.wants.length ≤ 2 ^ 30) (pods : List Pod) (i id : Nat) (p : Pod) (hi : pods[i]? = some p) (node : Int) {d : Option Nat} {l : List AOper} {st : St} {K : St → Prop}
    (hid : id < st.nx) (hb : blkAt st.hp id = .row 8 (pods.map podC))
    (h : ∀ v hp' nx', st.nx ≤ nx' → blkAt hp' id = .row 8 ((pods.set i (comeS x p node)).map podC) → (∀ j, j < st.nx → j ≠ id → blkAt hp' j = blkAt st.hp j) → WpO T l ⟨putS st d v, hp', nx'⟩ K) :
    callQ T 242 [.pv (specP x), .ptr id i 0, .pv (.int .i64 node)] d l st K := by
  obtain ⟨v, hp', nx', hD, h1, h2, h3⟩ := come_ok h242 h83 x hx pods i id p hi node st.hp st.nx hid hb
  exact (callQ_raw h242.raw hD).2 (h v hp' nx' h1 h2 h3)
def makeS (s : Snap) (x : Spec) (t : State) (m : Move) : Int ⊕ State :=
  if formB m = false then .inl 1 else
  if placeFrom m.pod 0 t.pods < 0 then .inl 4 else
  if m.kind ≠ 2 ∧ nodeOf m.node s.nodes = none then .inl 4 else
  if m.kind = 4 ∧ placeFrom m.over 0 t.pods < 0 then .inl 4 else
  match t.pods[(placeFrom m.pod 0 t.pods).toNat]? with
  | none => .inl 0
  | some p =>
    if m.kind = 2 then (if p.node = 0 then .inl 7 else .inr ⟨t.pods.set (placeFrom m.pod 0 t.pods).toNat { p with node := 0 }, t.pre, t.shi⟩)
    else if m.kind = 3 then (if p.node = 0 then .inl 7 else if p.node = m.node then .inl 7 else .inr ⟨t.pods.set (placeFrom m.pod 0 t.pods).toNat (comeS x p m.node), t.pre, IntKind.i64.wrap (t.shi + 1)⟩)
    else if m.kind = 4 then
      match t.pods[(placeFrom m.over 0 t.pods).toNat]? with
      | none => .inl 0
      | some q => if (placeFrom m.pod 0 t.pods).toNat = (placeFrom m.over 0 t.pods).toNat then .inl 7 else if q.node ≠ m.node then .inl 7 else if p.node ≠ 0 then .inl 7
        else .inr ⟨(t.pods.set (placeFrom m.over 0 t.pods).toNat { q with node := 0 }).set (placeFrom m.pod 0 t.pods).toNat (comeS x p m.node), IntKind.i64.wrap (t.pre + 1), t.shi⟩
    else if p.node ≠ 0 then .inl 7 else .inr ⟨t.pods.set (placeFrom m.pod 0 t.pods).toNat (comeS x p m.node), t.pre, t.shi⟩
def makeR : Int ⊕ State → PV
  | .inl c => .tuple [stateP ⟨[], 0, 0⟩, codeE c]
  | .inr u => .tuple [stateP u, .nili]
structure StdM (T : Tab) : Prop where
  s5 : Std5 T
  h82 : Std T 82 f82
  h83 : Std T 83 f83
  h239 : Std T 239 f239
  h242 : StdR T 242 f242
  h243 : Std T 243 f243
  h279 : Cln T 279 8
set_option maxRecDepth 100000 in
set_option maxHeartbeats 4000000 in
theorem make_ok {T : Tab} (S : StdM T) (s : Snap) (x : Spec) (t : State) (m : Move) (hs : s.nodes.length ≤ 2 ^ 30) (hx : x.wants.length ≤ 2 ^ 30) (ht : t.pods.length ≤ 2 ^ 30) :
    Gives T 239 [snapP s, specP x, stateP t, moveP m] (makeR (makeS s x t m)) := by
  refine gives S.h239 rfl ?_
  have kp := place5_ok S.s5 t m.pod ht
  have ko := place5_ok S.s5 t m.over ht
  have kn := node_ok S.h82 s m.node hs
  have kf := form_ok S.h243 m
  simp only [stateP] at kp ko
  simp only [snapP] at kn
  simp only [moveP, moveC] at kf
  simp only [f239, runL, opQ, evOp, evO, evOs, guardV, argsA, pvs, putS, cellsOf, scals, scal, Nat.reduceEqDiff, Nat.reduceAdd, reduceCtorEq, fieldA, nonNil, cellsAt, mkAgg, allPV, storeB, patchL, Int.reduceToNat, Nat.reduceMul, Nat.reduceLT, stepA, Int.reduceNeg, Int.reduceLE, Int.reduceLT, Int.reduceEq, extractV, mkAgg, Nat.reduceLeDiff, fillA, pureVs, pureV, eqV, eqB, lenV, binV, intBin, intV, idxA, List.drop, List.take, RetP, retP, resV, resOne, snapV, snapVs, snapR, snapRs, ownSz, pickV, AO.isC, opE, opD, funV, snapP, specP, stateP, moveP, moveC]
  refine (Wp_calm rfl).2 ?_
  obtain ⟨N, hN⟩ : ∃ N : Node, nodeR (nodeOf m.node s.nodes) = .tuple [.agg (nodeC N), .bool (nodeOf m.node s.nodes).isSome] := by
    cases nodeOf m.node s.nodes with
    | none => exact ⟨node0, rfl⟩
    | some n => exact ⟨n, rfl⟩
  rw [hN] at kn
  simp only [nodeC] at kn
  cases hform : formB m
  · have hm : makeS s x t m = .inl 1 := by unfold makeS; rw [if_pos hform]
    rw [hform] at kf
    simp only [runL, opQ, evOp, evO, evOs, guardV, argsA, pvs, putS, cellsOf, scals, scal, Nat.reduceEqDiff, Nat.reduceAdd, reduceCtorEq, fieldA, nonNil, cellsAt, mkAgg, allPV, storeB, patchL, Int.reduceToNat, Nat.reduceMul, Nat.reduceLT, stepA, Int.reduceNeg, Int.reduceLE, Int.reduceLT, Int.reduceEq, extractV, mkAgg, Nat.reduceLeDiff, fillA, pureVs, pureV, eqV, eqB, lenV, binV, intBin, intV, idxA, List.drop, List.take, RetP, retP, resV, resOne, snapV, snapVs, snapR, snapRs, ownSz, pickV, AO.isC, opE, opD, funV, kp.callD, ko.callD, kn.call, kf.call, hm, makeR, codeE, stateP, List.map_nil]
  · rw [hform] at kf
    have hnf : ¬ (formB m = false) := by rw [hform]; simp
    by_cases hi : placeFrom m.pod 0 t.pods < 0
    · have hm : makeS s x t m = .inl 4 := by unfold makeS; rw [if_neg hnf, if_pos hi]
      simp only [runL, opQ, evOp, evO, evOs, guardV, argsA, pvs, putS, cellsOf, scals, scal, Nat.reduceEqDiff, Nat.reduceAdd, reduceCtorEq, fieldA, nonNil, cellsAt, mkAgg, allPV, storeB, patchL, Int.reduceToNat, Nat.reduceMul, Nat.reduceLT, stepA, Int.reduceNeg, Int.reduceLE, Int.reduceLT, Int.reduceEq, extractV, mkAgg, Nat.reduceLeDiff, fillA, pureVs, pureV, eqV, eqB, lenV, binV, intBin, intV, idxA, List.drop, List.take, RetP, retP, resV, resOne, snapV, snapVs, snapR, snapRs, ownSz, pickV, AO.isC, opE, opD, funV, kp.callD, ko.callD, kn.call, kf.call, hm, makeR, codeE, stateP, List.map_nil, hi]
    · obtain ⟨j, p, hget, hP, hj⟩ : ∃ (j : Nat) (p : Pod), t.pods[j]? = some p ∧ placeFrom m.pod 0 t.pods = (j : Int) ∧ j < t.pods.length := by
        rcases placeFrom_cases m.pod t.pods 0 with ⟨_, h⟩ | ⟨j, p, h1, _, h3, h4⟩
        · omega
        · exact ⟨j, p, h1, by rw [h3, Nat.zero_add], h4⟩
      have hne : t.pods.map podC ≠ [] := by
        intro h
        rw [List.map_eq_nil_iff] at h
        rw [h] at hj
        simp at hj
      have hj0 : ¬ ((j : Int) < 0) := by omega
      have hset : (t.pods.map podC)[j]? = some (podC p) := by rw [List.getElem?_map, hget]; rfl
      have hlen : (t.pods.map podC).length ≤ 2 ^ 30 := by rw [List.length_map]; exact ht
      have hjl : j < t.pods.length := hj
      have g3 : ∀ (i : Nat) (q : Pod), (t.pods.map podC).set i (podC q) = (t.pods.set i q).map podC := fun i q => (List.map_set).symm
      by_cases k2 : m.kind = 2
      · by_cases c1 : p.node = 0
        · have hm : makeS s x t m = .inl 7 := by
            unfold makeS
            rw [if_neg hnf, if_neg hi, if_neg (by simp [k2]), if_neg (by simp [k2]), hP]
            simp only [Int.toNat_natCast, hget, k2, if_true, c1]
          simp only [runL, opQ, evOp, evO, evOs, guardV, argsA, pvs, putS, cellsOf, scals, scal, Nat.reduceEqDiff, Nat.reduceAdd, reduceCtorEq, fieldA, nonNil, cellsAt, mkAgg, allPV, storeB, patchL, Int.reduceToNat, Nat.reduceMul, Nat.reduceLT, stepA, Int.reduceNeg, Int.reduceLE, Int.reduceLT, Int.reduceEq, extractV, mkAgg, Nat.reduceLeDiff, fillA, pureVs, pureV, eqV, eqB, lenV, binV, intBin, intV, idxA, List.drop, List.take, RetP, retP, resV, resOne, snapV, snapVs, snapR, snapRs, ownSz, pickV, AO.isC, opE, opD, funV, kp.callD, ko.callD, kn.call, kf.call, hP, hj0, k2, hget, podC]
          rw [S.h279.callN (allLen_pods _) hlen hne]
          simp only [runL, opQ, evOp, evO, evOs, guardV, argsA, pvs, putS, cellsOf, scals, scal, Nat.reduceEqDiff, Nat.reduceAdd, reduceCtorEq, fieldA, nonNil, cellsAt, mkAgg, allPV, storeB, patchL, Int.reduceToNat, Nat.reduceMul, Nat.reduceLT, stepA, Int.reduceNeg, Int.reduceLE, Int.reduceLT, Int.reduceEq, extractV, mkAgg, Nat.reduceLeDiff, fillA, pureVs, pureV, eqV, eqB, lenV, binV, intBin, intV, idxA, List.drop, List.take, RetP, retP, resV, resOne, snapV, snapVs, snapR, snapRs, ownSz, pickV, AO.isC, opE, opD, funV, hget, podC, hm, makeR, codeE, stateP, List.map_nil, hjl, k2, c1]
        · have hm : makeS s x t m = .inr ⟨t.pods.set j { p with node := 0 }, t.pre, t.shi⟩ := by
            unfold makeS
            rw [if_neg hnf, if_neg hi, if_neg (by simp [k2]), if_neg (by simp [k2]), hP]
            simp only [Int.toNat_natCast, hget, k2, if_true, c1, if_false]
          have e1 := g3 j { p with node := 0 }
          simp only [podC] at e1
          simp only [runL, opQ, evOp, evO, evOs, guardV, argsA, pvs, putS, cellsOf, scals, scal, Nat.reduceEqDiff, Nat.reduceAdd, reduceCtorEq, fieldA, nonNil, cellsAt, mkAgg, allPV, storeB, patchL, Int.reduceToNat, Nat.reduceMul, Nat.reduceLT, stepA, Int.reduceNeg, Int.reduceLE, Int.reduceLT, Int.reduceEq, extractV, mkAgg, Nat.reduceLeDiff, fillA, pureVs, pureV, eqV, eqB, lenV, binV, intBin, intV, idxA, List.drop, List.take, RetP, retP, resV, resOne, snapV, snapVs, snapR, snapRs, ownSz, pickV, AO.isC, opE, opD, funV, kp.callD, ko.callD, kn.call, kf.call, hP, hj0, k2, hget, podC]
          rw [S.h279.callN (allLen_pods _) hlen hne]
          simp only [runL, opQ, evOp, evO, evOs, guardV, argsA, pvs, putS, cellsOf, scals, scal, Nat.reduceEqDiff, Nat.reduceAdd, reduceCtorEq, fieldA, nonNil, cellsAt, mkAgg, allPV, storeB, patchL, Int.reduceToNat, Nat.reduceMul, Nat.reduceLT, stepA, Int.reduceNeg, Int.reduceLE, Int.reduceLT, Int.reduceEq, extractV, mkAgg, Nat.reduceLeDiff, fillA, pureVs, pureV, eqV, eqB, lenV, binV, intBin, intV, idxA, List.drop, List.take, RetP, retP, resV, resOne, snapV, snapVs, snapR, snapRs, ownSz, pickV, AO.isC, opE, opD, funV, hget, podC, hm, makeR, codeE, stateP, hjl, k2, c1]
          rw [e1]
      · cases hno : nodeOf m.node s.nodes with
        | none =>
          have hm : makeS s x t m = .inl 4 := by
            unfold makeS
            rw [if_neg hnf, if_neg hi, if_pos ⟨k2, hno⟩]
          rw [hno] at kn
          simp only [Option.isSome_none] at kn
          simp only [runL, opQ, evOp, evO, evOs, guardV, argsA, pvs, putS, cellsOf, scals, scal, Nat.reduceEqDiff, Nat.reduceAdd, reduceCtorEq, fieldA, nonNil, cellsAt, mkAgg, allPV, storeB, patchL, Int.reduceToNat, Nat.reduceMul, Nat.reduceLT, stepA, Int.reduceNeg, Int.reduceLE, Int.reduceLT, Int.reduceEq, extractV, mkAgg, Nat.reduceLeDiff, fillA, pureVs, pureV, eqV, eqB, lenV, binV, intBin, intV, idxA, List.drop, List.take, RetP, retP, resV, resOne, snapV, snapVs, snapR, snapRs, ownSz, pickV, AO.isC, opE, opD, funV, kp.callD, ko.callD, kn.call, kf.call, hP, hj0, k2, hm, makeR, codeE, stateP, List.map_nil]
        | some nn =>
          rw [hno] at kn
          simp only [Option.isSome_some] at kn
          have hnn : ¬ (m.kind ≠ 2 ∧ nodeOf m.node s.nodes = none) := by rw [hno]; simp
          by_cases k4 : m.kind = 4
          · by_cases hov : placeFrom m.over 0 t.pods < 0
            · have hm : makeS s x t m = .inl 4 := by
                unfold makeS
                rw [if_neg hnf, if_neg hi, if_neg hnn, if_pos ⟨k4, hov⟩]
              simp only [runL, opQ, evOp, evO, evOs, guardV, argsA, pvs, putS, cellsOf, scals, scal, Nat.reduceEqDiff, Nat.reduceAdd, reduceCtorEq, fieldA, nonNil, cellsAt, mkAgg, allPV, storeB, patchL, Int.reduceToNat, Nat.reduceMul, Nat.reduceLT, stepA, Int.reduceNeg, Int.reduceLE, Int.reduceLT, Int.reduceEq, extractV, mkAgg, Nat.reduceLeDiff, fillA, pureVs, pureV, eqV, eqB, lenV, binV, intBin, intV, idxA, List.drop, List.take, RetP, retP, resV, resOne, snapV, snapVs, snapR, snapRs, ownSz, pickV, AO.isC, opE, opD, funV, kp.callD, ko.callD, kn.call, kf.call, hP, hj0, k4, hov, hm, makeR, codeE, stateP, List.map_nil]
            · obtain ⟨k, q, hgk, hK, hk⟩ : ∃ (k : Nat) (q : Pod), t.pods[k]? = some q ∧ placeFrom m.over 0 t.pods = (k : Int) ∧ k < t.pods.length := by
                rcases placeFrom_cases m.over t.pods 0 with ⟨_, h⟩ | ⟨k, q, h1, _, h3, h4⟩
                · omega
                · exact ⟨k, q, h1, by rw [h3, Nat.zero_add], h4⟩
              have hk0 : ¬ ((k : Int) < 0) := by omega
              have hno4 : ¬ (m.kind = 4 ∧ placeFrom m.over 0 t.pods < 0) := fun h => hov h.2
              by_cases c0 : j = k
              · have hm : makeS s x t m = .inl 7 := by
                  unfold makeS
                  rw [if_neg hnf, if_neg hi, if_neg hnn, if_neg hno4, hP, hK]
                  subst c0
                  simp [hget, k4]
                simp only [runL, opQ, evOp, evO, evOs, guardV, argsA, pvs, putS, cellsOf, scals, scal, Nat.reduceEqDiff, Nat.reduceAdd, reduceCtorEq, fieldA, nonNil, cellsAt, mkAgg, allPV, storeB, patchL, Int.reduceToNat, Nat.reduceMul, Nat.reduceLT, stepA, Int.reduceNeg, Int.reduceLE, Int.reduceLT, Int.reduceEq, extractV, mkAgg, Nat.reduceLeDiff, fillA, pureVs, pureV, eqV, eqB, lenV, binV, intBin, intV, idxA, List.drop, List.take, RetP, retP, resV, resOne, snapV, snapVs, snapR, snapRs, ownSz, pickV, AO.isC, opE, opD, funV, kp.callD, ko.callD, kn.call, kf.call, hP, hK, hj0, hk0, k4, hget, podC]
                rw [S.h279.callN (allLen_pods _) hlen hne]
                simp only [runL, opQ, evOp, evO, evOs, guardV, argsA, pvs, putS, cellsOf, scals, scal, Nat.reduceEqDiff, Nat.reduceAdd, reduceCtorEq, fieldA, nonNil, cellsAt, mkAgg, allPV, storeB, patchL, Int.reduceToNat, Nat.reduceMul, Nat.reduceLT, stepA, Int.reduceNeg, Int.reduceLE, Int.reduceLT, Int.reduceEq, extractV, mkAgg, Nat.reduceLeDiff, fillA, pureVs, pureV, eqV, eqB, lenV, binV, intBin, intV, idxA, List.drop, List.take, RetP, retP, resV, resOne, snapV, snapVs, snapR, snapRs, ownSz, pickV, AO.isC, opE, opD, funV, hget, podC, hjl, k4]
                refine (Wp_calm rfl).2 ?_
                simp only [runL, opQ, evOp, evO, evOs, guardV, argsA, pvs, putS, cellsOf, scals, scal, Nat.reduceEqDiff, Nat.reduceAdd, reduceCtorEq, fieldA, nonNil, cellsAt, mkAgg, allPV, storeB, patchL, Int.reduceToNat, Nat.reduceMul, Nat.reduceLT, stepA, Int.reduceNeg, Int.reduceLE, Int.reduceLT, Int.reduceEq, extractV, mkAgg, Nat.reduceLeDiff, fillA, pureVs, pureV, eqV, eqB, lenV, binV, intBin, intV, idxA, List.drop, List.take, RetP, retP, resV, resOne, snapV, snapVs, snapR, snapRs, ownSz, pickV, AO.isC, opE, opD, funV, hget, podC, hm, makeR, codeE, stateP, List.map_nil, hjl, k4, c0]
              · by_cases c1 : q.node = m.node
                · by_cases c2 : p.node = 0
                  · have hm : makeS s x t m = .inr ⟨(t.pods.set k { q with node := 0 }).set j (comeS x p m.node), IntKind.i64.wrap (t.pre + 1), t.shi⟩ := by
                      unfold makeS
                      rw [if_neg hnf, if_neg hi, if_neg hnn, if_neg hno4, hP, hK]
                      simp [hget, hgk, k4, c0, c1, c2]
                    have e1 := g3 k { q with node := 0 }
                    simp only [podC] at e1
                    have hget' : (t.pods.set k { q with node := 0 })[j]? = some p := by rw [List.getElem?_set_ne (fun h => c0 h.symm)]; exact hget
                    simp only [runL, opQ, evOp, evO, evOs, guardV, argsA, pvs, putS, cellsOf, scals, scal, Nat.reduceEqDiff, Nat.reduceAdd, reduceCtorEq, fieldA, nonNil, cellsAt, mkAgg, allPV, storeB, patchL, Int.reduceToNat, Nat.reduceMul, Nat.reduceLT, stepA, Int.reduceNeg, Int.reduceLE, Int.reduceLT, Int.reduceEq, extractV, mkAgg, Nat.reduceLeDiff, fillA, pureVs, pureV, eqV, eqB, lenV, binV, intBin, intV, idxA, List.drop, List.take, RetP, retP, resV, resOne, snapV, snapVs, snapR, snapRs, ownSz, pickV, AO.isC, opE, opD, funV, kp.callD, ko.callD, kn.call, kf.call, hP, hK, hj0, hk0, k4, hget, podC]
                    rw [S.h279.callN (allLen_pods _) hlen hne]
                    simp only [runL, opQ, evOp, evO, evOs, guardV, argsA, pvs, putS, cellsOf, scals, scal, Nat.reduceEqDiff, Nat.reduceAdd, reduceCtorEq, fieldA, nonNil, cellsAt, mkAgg, allPV, storeB, patchL, Int.reduceToNat, Nat.reduceMul, Nat.reduceLT, stepA, Int.reduceNeg, Int.reduceLE, Int.reduceLT, Int.reduceEq, extractV, mkAgg, Nat.reduceLeDiff, fillA, pureVs, pureV, eqV, eqB, lenV, binV, intBin, intV, idxA, List.drop, List.take, RetP, retP, resV, resOne, snapV, snapVs, snapR, snapRs, ownSz, pickV, AO.isC, opE, opD, funV, hget, podC, hjl, k4]
                    refine (Wp_calm rfl).2 ?_
                    simp only [runL, opQ, evOp, evO, evOs, guardV, argsA, pvs, putS, cellsOf, scals, scal, Nat.reduceEqDiff, Nat.reduceAdd, reduceCtorEq, fieldA, nonNil, cellsAt, mkAgg, allPV, storeB, patchL, Int.reduceToNat, Nat.reduceMul, Nat.reduceLT, stepA, Int.reduceNeg, Int.reduceLE, Int.reduceLT, Int.reduceEq, extractV, mkAgg, Nat.reduceLeDiff, fillA, pureVs, pureV, eqV, eqB, lenV, binV, intBin, intV, idxA, List.drop, List.take, RetP, retP, resV, resOne, snapV, snapVs, snapR, snapRs, ownSz, pickV, AO.isC, opE, opD, funV, hget, hgk, podC, hjl, hk, k4, c0, c1, c2, e1]
                    refine come_call S.h242 S.h83 x hx (t.pods.set k { q with node := 0 }) j _ p hget' m.node ?_ ?_ (fun v hp' nx' q1 q2 q3 => ?_)
                    · show 6 < 7
                      decide
                    · rfl
                    · have d2 := q3 2 (show 2 < 7 by decide) (by decide)
                      have d4 := q3 4 (show 4 < 7 by decide) (by decide)
                      simp only [blkAt_if, Nat.reduceEqDiff, if_true, if_false] at d2 d4
                      simp only [runL, opQ, evOp, evO, evOs, guardV, argsA, pvs, putS, cellsOf, scals, scal, Nat.reduceEqDiff, Nat.reduceAdd, reduceCtorEq, fieldA, nonNil, cellsAt, mkAgg, allPV, storeB, patchL, Int.reduceToNat, Nat.reduceMul, Nat.reduceLT, stepA, Int.reduceNeg, Int.reduceLE, Int.reduceLT, Int.reduceEq, extractV, mkAgg, Nat.reduceLeDiff, fillA, pureVs, pureV, eqV, eqB, lenV, binV, intBin, intV, idxA, List.drop, List.take, RetP, retP, resV, resOne, snapV, snapVs, snapR, snapRs, ownSz, pickV, AO.isC, opE, opD, funV, q2, d2, d4, hm, makeR, stateP]
                  · have hm : makeS s x t m = .inl 7 := by
                      unfold makeS
                      rw [if_neg hnf, if_neg hi, if_neg hnn, if_neg hno4, hP, hK]
                      simp [hget, hgk, k4, c0, c1, c2]
                    simp only [runL, opQ, evOp, evO, evOs, guardV, argsA, pvs, putS, cellsOf, scals, scal, Nat.reduceEqDiff, Nat.reduceAdd, reduceCtorEq, fieldA, nonNil, cellsAt, mkAgg, allPV, storeB, patchL, Int.reduceToNat, Nat.reduceMul, Nat.reduceLT, stepA, Int.reduceNeg, Int.reduceLE, Int.reduceLT, Int.reduceEq, extractV, mkAgg, Nat.reduceLeDiff, fillA, pureVs, pureV, eqV, eqB, lenV, binV, intBin, intV, idxA, List.drop, List.take, RetP, retP, resV, resOne, snapV, snapVs, snapR, snapRs, ownSz, pickV, AO.isC, opE, opD, funV, kp.callD, ko.callD, kn.call, kf.call, hP, hK, hj0, hk0, k4, hget, podC]
                    rw [S.h279.callN (allLen_pods _) hlen hne]
                    simp only [runL, opQ, evOp, evO, evOs, guardV, argsA, pvs, putS, cellsOf, scals, scal, Nat.reduceEqDiff, Nat.reduceAdd, reduceCtorEq, fieldA, nonNil, cellsAt, mkAgg, allPV, storeB, patchL, Int.reduceToNat, Nat.reduceMul, Nat.reduceLT, stepA, Int.reduceNeg, Int.reduceLE, Int.reduceLT, Int.reduceEq, extractV, mkAgg, Nat.reduceLeDiff, fillA, pureVs, pureV, eqV, eqB, lenV, binV, intBin, intV, idxA, List.drop, List.take, RetP, retP, resV, resOne, snapV, snapVs, snapR, snapRs, ownSz, pickV, AO.isC, opE, opD, funV, hget, podC, hjl, k4]
                    refine (Wp_calm rfl).2 ?_
                    simp only [runL, opQ, evOp, evO, evOs, guardV, argsA, pvs, putS, cellsOf, scals, scal, Nat.reduceEqDiff, Nat.reduceAdd, reduceCtorEq, fieldA, nonNil, cellsAt, mkAgg, allPV, storeB, patchL, Int.reduceToNat, Nat.reduceMul, Nat.reduceLT, stepA, Int.reduceNeg, Int.reduceLE, Int.reduceLT, Int.reduceEq, extractV, mkAgg, Nat.reduceLeDiff, fillA, pureVs, pureV, eqV, eqB, lenV, binV, intBin, intV, idxA, List.drop, List.take, RetP, retP, resV, resOne, snapV, snapVs, snapR, snapRs, ownSz, pickV, AO.isC, opE, opD, funV, hget, hgk, podC, hm, makeR, codeE, stateP, List.map_nil, hjl, hk, k4, c0, c1, c2]
                · have hm : makeS s x t m = .inl 7 := by
                    unfold makeS
                    rw [if_neg hnf, if_neg hi, if_neg hnn, if_neg hno4, hP, hK]
                    simp [hget, hgk, k4, c0, c1]
                  simp only [runL, opQ, evOp, evO, evOs, guardV, argsA, pvs, putS, cellsOf, scals, scal, Nat.reduceEqDiff, Nat.reduceAdd, reduceCtorEq, fieldA, nonNil, cellsAt, mkAgg, allPV, storeB, patchL, Int.reduceToNat, Nat.reduceMul, Nat.reduceLT, stepA, Int.reduceNeg, Int.reduceLE, Int.reduceLT, Int.reduceEq, extractV, mkAgg, Nat.reduceLeDiff, fillA, pureVs, pureV, eqV, eqB, lenV, binV, intBin, intV, idxA, List.drop, List.take, RetP, retP, resV, resOne, snapV, snapVs, snapR, snapRs, ownSz, pickV, AO.isC, opE, opD, funV, kp.callD, ko.callD, kn.call, kf.call, hP, hK, hj0, hk0, k4, hget, podC]
                  rw [S.h279.callN (allLen_pods _) hlen hne]
                  simp only [runL, opQ, evOp, evO, evOs, guardV, argsA, pvs, putS, cellsOf, scals, scal, Nat.reduceEqDiff, Nat.reduceAdd, reduceCtorEq, fieldA, nonNil, cellsAt, mkAgg, allPV, storeB, patchL, Int.reduceToNat, Nat.reduceMul, Nat.reduceLT, stepA, Int.reduceNeg, Int.reduceLE, Int.reduceLT, Int.reduceEq, extractV, mkAgg, Nat.reduceLeDiff, fillA, pureVs, pureV, eqV, eqB, lenV, binV, intBin, intV, idxA, List.drop, List.take, RetP, retP, resV, resOne, snapV, snapVs, snapR, snapRs, ownSz, pickV, AO.isC, opE, opD, funV, hget, podC, hjl, k4]
                  refine (Wp_calm rfl).2 ?_
                  simp only [runL, opQ, evOp, evO, evOs, guardV, argsA, pvs, putS, cellsOf, scals, scal, Nat.reduceEqDiff, Nat.reduceAdd, reduceCtorEq, fieldA, nonNil, cellsAt, mkAgg, allPV, storeB, patchL, Int.reduceToNat, Nat.reduceMul, Nat.reduceLT, stepA, Int.reduceNeg, Int.reduceLE, Int.reduceLT, Int.reduceEq, extractV, mkAgg, Nat.reduceLeDiff, fillA, pureVs, pureV, eqV, eqB, lenV, binV, intBin, intV, idxA, List.drop, List.take, RetP, retP, resV, resOne, snapV, snapVs, snapR, snapRs, ownSz, pickV, AO.isC, opE, opD, funV, hget, hgk, podC, hm, makeR, codeE, stateP, List.map_nil, hjl, hk, k4, c0, c1]
          · by_cases k3 : m.kind = 3
            · by_cases c1 : p.node = 0
              · have hm : makeS s x t m = .inl 7 := by
                  unfold makeS
                  rw [if_neg hnf, if_neg hi, if_neg hnn, if_neg (by simp [k4]), hP]
                  simp [hget, k3, c1]
                simp only [runL, opQ, evOp, evO, evOs, guardV, argsA, pvs, putS, cellsOf, scals, scal, Nat.reduceEqDiff, Nat.reduceAdd, reduceCtorEq, fieldA, nonNil, cellsAt, mkAgg, allPV, storeB, patchL, Int.reduceToNat, Nat.reduceMul, Nat.reduceLT, stepA, Int.reduceNeg, Int.reduceLE, Int.reduceLT, Int.reduceEq, extractV, mkAgg, Nat.reduceLeDiff, fillA, pureVs, pureV, eqV, eqB, lenV, binV, intBin, intV, idxA, List.drop, List.take, RetP, retP, resV, resOne, snapV, snapVs, snapR, snapRs, ownSz, pickV, AO.isC, opE, opD, funV, kp.callD, ko.callD, kn.call, kf.call, hP, hj0, k3, hget, podC]
                rw [S.h279.callN (allLen_pods _) hlen hne]
                simp only [runL, opQ, evOp, evO, evOs, guardV, argsA, pvs, putS, cellsOf, scals, scal, Nat.reduceEqDiff, Nat.reduceAdd, reduceCtorEq, fieldA, nonNil, cellsAt, mkAgg, allPV, storeB, patchL, Int.reduceToNat, Nat.reduceMul, Nat.reduceLT, stepA, Int.reduceNeg, Int.reduceLE, Int.reduceLT, Int.reduceEq, extractV, mkAgg, Nat.reduceLeDiff, fillA, pureVs, pureV, eqV, eqB, lenV, binV, intBin, intV, idxA, List.drop, List.take, RetP, retP, resV, resOne, snapV, snapVs, snapR, snapRs, ownSz, pickV, AO.isC, opE, opD, funV, hget, podC, hm, makeR, codeE, stateP, List.map_nil, hjl, k3, c1]
              · by_cases c2 : p.node = m.node
                · have hm : makeS s x t m = .inl 7 := by
                    unfold makeS
                    rw [if_neg hnf, if_neg hi, if_neg hnn, if_neg (by simp [k4]), hP]
                    simp [hget, k3, c2]
                  rw [c2] at c1
                  simp only [runL, opQ, evOp, evO, evOs, guardV, argsA, pvs, putS, cellsOf, scals, scal, Nat.reduceEqDiff, Nat.reduceAdd, reduceCtorEq, fieldA, nonNil, cellsAt, mkAgg, allPV, storeB, patchL, Int.reduceToNat, Nat.reduceMul, Nat.reduceLT, stepA, Int.reduceNeg, Int.reduceLE, Int.reduceLT, Int.reduceEq, extractV, mkAgg, Nat.reduceLeDiff, fillA, pureVs, pureV, eqV, eqB, lenV, binV, intBin, intV, idxA, List.drop, List.take, RetP, retP, resV, resOne, snapV, snapVs, snapR, snapRs, ownSz, pickV, AO.isC, opE, opD, funV, kp.callD, ko.callD, kn.call, kf.call, hP, hj0, k3, hget, podC]
                  rw [S.h279.callN (allLen_pods _) hlen hne]
                  simp only [runL, opQ, evOp, evO, evOs, guardV, argsA, pvs, putS, cellsOf, scals, scal, Nat.reduceEqDiff, Nat.reduceAdd, reduceCtorEq, fieldA, nonNil, cellsAt, mkAgg, allPV, storeB, patchL, Int.reduceToNat, Nat.reduceMul, Nat.reduceLT, stepA, Int.reduceNeg, Int.reduceLE, Int.reduceLT, Int.reduceEq, extractV, mkAgg, Nat.reduceLeDiff, fillA, pureVs, pureV, eqV, eqB, lenV, binV, intBin, intV, idxA, List.drop, List.take, RetP, retP, resV, resOne, snapV, snapVs, snapR, snapRs, ownSz, pickV, AO.isC, opE, opD, funV, hget, podC, hm, makeR, codeE, stateP, List.map_nil, hjl, k3, c1, c2]
                · have hm : makeS s x t m = .inr ⟨t.pods.set j (comeS x p m.node), t.pre, IntKind.i64.wrap (t.shi + 1)⟩ := by
                    unfold makeS
                    rw [if_neg hnf, if_neg hi, if_neg hnn, if_neg (by simp [k4]), hP]
                    simp [hget, k3, c1, c2]
                  simp only [runL, opQ, evOp, evO, evOs, guardV, argsA, pvs, putS, cellsOf, scals, scal, Nat.reduceEqDiff, Nat.reduceAdd, reduceCtorEq, fieldA, nonNil, cellsAt, mkAgg, allPV, storeB, patchL, Int.reduceToNat, Nat.reduceMul, Nat.reduceLT, stepA, Int.reduceNeg, Int.reduceLE, Int.reduceLT, Int.reduceEq, extractV, mkAgg, Nat.reduceLeDiff, fillA, pureVs, pureV, eqV, eqB, lenV, binV, intBin, intV, idxA, List.drop, List.take, RetP, retP, resV, resOne, snapV, snapVs, snapR, snapRs, ownSz, pickV, AO.isC, opE, opD, funV, kp.callD, ko.callD, kn.call, kf.call, hP, hj0, k3, hget, podC]
                  rw [S.h279.callN (allLen_pods _) hlen hne]
                  simp only [runL, opQ, evOp, evO, evOs, guardV, argsA, pvs, putS, cellsOf, scals, scal, Nat.reduceEqDiff, Nat.reduceAdd, reduceCtorEq, fieldA, nonNil, cellsAt, mkAgg, allPV, storeB, patchL, Int.reduceToNat, Nat.reduceMul, Nat.reduceLT, stepA, Int.reduceNeg, Int.reduceLE, Int.reduceLT, Int.reduceEq, extractV, mkAgg, Nat.reduceLeDiff, fillA, pureVs, pureV, eqV, eqB, lenV, binV, intBin, intV, idxA, List.drop, List.take, RetP, retP, resV, resOne, snapV, snapVs, snapR, snapRs, ownSz, pickV, AO.isC, opE, opD, funV, hget, podC, hjl, k3, c1, c2]
                  refine come_call S.h242 S.h83 x hx t.pods j _ p hget m.node ?_ ?_ (fun v hp' nx' q1 q2 q3 => ?_)
                  · show 6 < 7
                    decide
                  · rfl
                  · have d2 := q3 2 (show 2 < 7 by decide) (by decide)
                    have d4 := q3 4 (show 4 < 7 by decide) (by decide)
                    simp only [blkAt_if, Nat.reduceEqDiff, if_true, if_false] at d2 d4
                    simp only [runL, opQ, evOp, evO, evOs, guardV, argsA, pvs, putS, cellsOf, scals, scal, Nat.reduceEqDiff, Nat.reduceAdd, reduceCtorEq, fieldA, nonNil, cellsAt, mkAgg, allPV, storeB, patchL, Int.reduceToNat, Nat.reduceMul, Nat.reduceLT, stepA, Int.reduceNeg, Int.reduceLE, Int.reduceLT, Int.reduceEq, extractV, mkAgg, Nat.reduceLeDiff, fillA, pureVs, pureV, eqV, eqB, lenV, binV, intBin, intV, idxA, List.drop, List.take, RetP, retP, resV, resOne, snapV, snapVs, snapR, snapRs, ownSz, pickV, AO.isC, opE, opD, funV, q2, d2, d4, hm, makeR, stateP]
            · by_cases c1 : p.node = 0
              · have hm : makeS s x t m = .inr ⟨t.pods.set j (comeS x p m.node), t.pre, t.shi⟩ := by
                  unfold makeS
                  rw [if_neg hnf, if_neg hi, if_neg hnn, if_neg (by simp [k4]), hP]
                  simp [hget, k2, k3, k4, c1]
                simp only [runL, opQ, evOp, evO, evOs, guardV, argsA, pvs, putS, cellsOf, scals, scal, Nat.reduceEqDiff, Nat.reduceAdd, reduceCtorEq, fieldA, nonNil, cellsAt, mkAgg, allPV, storeB, patchL, Int.reduceToNat, Nat.reduceMul, Nat.reduceLT, stepA, Int.reduceNeg, Int.reduceLE, Int.reduceLT, Int.reduceEq, extractV, mkAgg, Nat.reduceLeDiff, fillA, pureVs, pureV, eqV, eqB, lenV, binV, intBin, intV, idxA, List.drop, List.take, RetP, retP, resV, resOne, snapV, snapVs, snapR, snapRs, ownSz, pickV, AO.isC, opE, opD, funV, kp.callD, ko.callD, kn.call, kf.call, hP, hj0, k2, k3, k4, hget, podC]
                rw [S.h279.callN (allLen_pods _) hlen hne]
                simp only [runL, opQ, evOp, evO, evOs, guardV, argsA, pvs, putS, cellsOf, scals, scal, Nat.reduceEqDiff, Nat.reduceAdd, reduceCtorEq, fieldA, nonNil, cellsAt, mkAgg, allPV, storeB, patchL, Int.reduceToNat, Nat.reduceMul, Nat.reduceLT, stepA, Int.reduceNeg, Int.reduceLE, Int.reduceLT, Int.reduceEq, extractV, mkAgg, Nat.reduceLeDiff, fillA, pureVs, pureV, eqV, eqB, lenV, binV, intBin, intV, idxA, List.drop, List.take, RetP, retP, resV, resOne, snapV, snapVs, snapR, snapRs, ownSz, pickV, AO.isC, opE, opD, funV, hget, podC, hjl, k2, k3, k4, c1]
                refine come_call S.h242 S.h83 x hx t.pods j _ p hget m.node ?_ ?_ (fun v hp' nx' q1 q2 q3 => ?_)
                · show 6 < 7
                  decide
                · rfl
                · have d2 := q3 2 (show 2 < 7 by decide) (by decide)
                  have d4 := q3 4 (show 4 < 7 by decide) (by decide)
                  simp only [blkAt_if, Nat.reduceEqDiff, if_true, if_false] at d2 d4
                  simp only [runL, opQ, evOp, evO, evOs, guardV, argsA, pvs, putS, cellsOf, scals, scal, Nat.reduceEqDiff, Nat.reduceAdd, reduceCtorEq, fieldA, nonNil, cellsAt, mkAgg, allPV, storeB, patchL, Int.reduceToNat, Nat.reduceMul, Nat.reduceLT, stepA, Int.reduceNeg, Int.reduceLE, Int.reduceLT, Int.reduceEq, extractV, mkAgg, Nat.reduceLeDiff, fillA, pureVs, pureV, eqV, eqB, lenV, binV, intBin, intV, idxA, List.drop, List.take, RetP, retP, resV, resOne, snapV, snapVs, snapR, snapRs, ownSz, pickV, AO.isC, opE, opD, funV, q2, d2, d4, hm, makeR, stateP]
              · have hm : makeS s x t m = .inl 7 := by
                  unfold makeS
                  rw [if_neg hnf, if_neg hi, if_neg hnn, if_neg (by simp [k4]), hP]
                  simp [hget, k2, k3, k4, c1]
                simp only [runL, opQ, evOp, evO, evOs, guardV, argsA, pvs, putS, cellsOf, scals, scal, Nat.reduceEqDiff, Nat.reduceAdd, reduceCtorEq, fieldA, nonNil, cellsAt, mkAgg, allPV, storeB, patchL, Int.reduceToNat, Nat.reduceMul, Nat.reduceLT, stepA, Int.reduceNeg, Int.reduceLE, Int.reduceLT, Int.reduceEq, extractV, mkAgg, Nat.reduceLeDiff, fillA, pureVs, pureV, eqV, eqB, lenV, binV, intBin, intV, idxA, List.drop, List.take, RetP, retP, resV, resOne, snapV, snapVs, snapR, snapRs, ownSz, pickV, AO.isC, opE, opD, funV, kp.callD, ko.callD, kn.call, kf.call, hP, hj0, k2, k3, k4, hget, podC]
                rw [S.h279.callN (allLen_pods _) hlen hne]
                simp only [runL, opQ, evOp, evO, evOs, guardV, argsA, pvs, putS, cellsOf, scals, scal, Nat.reduceEqDiff, Nat.reduceAdd, reduceCtorEq, fieldA, nonNil, cellsAt, mkAgg, allPV, storeB, patchL, Int.reduceToNat, Nat.reduceMul, Nat.reduceLT, stepA, Int.reduceNeg, Int.reduceLE, Int.reduceLT, Int.reduceEq, extractV, mkAgg, Nat.reduceLeDiff, fillA, pureVs, pureV, eqV, eqB, lenV, binV, intBin, intV, idxA, List.drop, List.take, RetP, retP, resV, resOne, snapV, snapVs, snapR, snapRs, ownSz, pickV, AO.isC, opE, opD, funV, hget, podC, hm, makeR, codeE, stateP, List.map_nil, hjl, k2, k3, k4, c1]
end Go.Proofs.YtlfphlobcopemaaGreatDoor.Ab
set_option linter.unusedVariables false
set_option linter.unusedSimpArgs false
namespace Go.Proofs.YtlfphlobcopemaaGreatDoor.Ab
open Go
def nearL (k : Nat) (l l' : List Pod) : Prop := ∀ s load z, cntZ s load z l' ≤ cntZ s load z l + k ∧ cntZ s load z l ≤ cntZ s load z l' + k
theorem near_set : ∀ (l : List Pod) (i : Nat) (q : Pod), nearL 1 l (l.set i q)
  | [], i, q => fun s load z => by simp
  | a :: r, 0, q => fun s load z => by
    simp only [List.set_cons_zero, cntZ]
    split <;> split <;> omega
  | a :: r, i + 1, q => fun s load z => by
    have := near_set r i q s load z
    simp only [List.set_cons_succ, cntZ]
    omega
theorem near_set2 (l : List Pod) (i j : Nat) (p q : Pod) : nearL 2 l ((l.set i p).set j q) := fun s load z => by
  have h1 := near_set l i p s load z
  have h2 := near_set (l.set i p) j q s load z
  omega
theorem near_moves (s : Snap) (x : Spec) (t u : State) (m : Move) (h : makeS s x t m = .inr u) : nearL (if m.kind = 4 then 2 else 1) t.pods u.pods ∧ u.pods.length = t.pods.length := by
  unfold makeS at h
  split at h
  · simp at h
  · split at h
    · simp at h
    · split at h
      · simp at h
      · split at h
        · simp at h
        · split at h
          · simp at h
          · rename_i p hp
            by_cases k2 : m.kind = 2
            · rw [if_pos k2] at h
              split at h
              · simp at h
              · simp only [Sum.inr.injEq] at h
                subst h
                have k4 : ¬ m.kind = 4 := by omega
                rw [if_neg k4]
                exact ⟨near_set _ _ _, by simp⟩
            · rw [if_neg k2] at h
              split at h
              · rename_i k3
                have k4 : ¬ m.kind = 4 := by omega
                rw [if_neg k4]
                split at h
                · simp at h
                · split at h
                  · simp at h
                  · simp only [Sum.inr.injEq] at h
                    subst h
                    exact ⟨near_set _ _ _, by simp⟩
              · split at h
                · rename_i k4
                  rw [if_pos k4]
                  split at h
                  · simp at h
                  · split at h
                    · simp at h
                    · split at h
                      · simp at h
                      · split at h
                        · simp at h
                        · simp only [Sum.inr.injEq] at h
                          subst h
                          exact ⟨near_set2 _ _ _ _ _, by simp⟩
                · rename_i k4
                  rw [if_neg k4]
                  split at h
                  · simp at h
                  · simp only [Sum.inr.injEq] at h
                    subst h
                    exact ⟨near_set _ _ _, by simp⟩
end Go.Proofs.YtlfphlobcopemaaGreatDoor.Ab
set_option linter.unusedVariables false
namespace Go.Proofs.YtlfphlobcopemaaGreatDoor.Ab
open Go
def f108 : AFunc := ⟨112, [.t 8],
 (.seq (.ops [
   ⟨some 4, .box (.t 0), none, []⟩,
   ⟨some 5, .box (.t 1), none, []⟩,
   ⟨some 8, .mv (.c (.pv (.bool false))), none, []⟩])
  (.seq (.ops [
   ⟨some 17, .call 110 [], none, []⟩,
   ⟨some 9, .mv (.t 17), none, [0, 0, 0]⟩])
  (.seq (.ops [
   ⟨some 18, .load true 3 (.t 4), none, []⟩,
   ⟨some 19, .call 153 [(.t 18)], none, [0]⟩,
   ⟨some 10, .mv (.t 19), none, [1, 1, 0, 1]⟩])
  (.seq (.seq (.ops [
   ⟨some 20, .mv (.t 10), none, []⟩,
   ⟨some 21, .not (.t 20), none, [0]⟩,
   ⟨some 22, .mv (.t 21), none, [1]⟩,
   ⟨some 23, .fieldAddr 0 (.t 5), some (22, false), [2]⟩,
   ⟨some 24, .load false 1 (.t 23), some (22, false), [3, 2]⟩,
   ⟨some 25, .len (.t 24), some (22, false), [4, 2]⟩,
   ⟨some 26, .bin .gtr none (.t 25) (.c (.pv (.int .i64 40))), some (22, false), [5, 2]⟩,
   ⟨some 27, .pick (.t 22) (.c (.pv (.bool true))) (.t 26), none, [2, 6]⟩,
   ⟨some 28, .mv (.t 27), none, [7, 2]⟩,
   ⟨some 29, .mv (.t 2), some (28, false), [8]⟩,
   ⟨some 30, .len (.t 29), some (28, false), [9, 8]⟩,
   ⟨some 31, .bin .gtr none (.t 30) (.c (.pv (.int .i64 60))), some (28, false), [10, 8]⟩,
   ⟨some 32, .pick (.t 28) (.c (.pv (.bool true))) (.t 31), none, [8, 11]⟩,
   ⟨some 33, .mv (.t 32), none, [12, 8]⟩,
   ⟨some 34, .mv (.t 3), some (33, false), [13]⟩,
   ⟨some 35, .bin .lss none (.t 34) (.c (.pv (.int .i64 0))), some (33, false), [14, 13]⟩,
   ⟨some 36, .pick (.t 33) (.c (.pv (.bool true))) (.t 35), none, [13, 15]⟩,
   ⟨some 37, .mv (.t 36), none, [16, 13]⟩,
   ⟨some 38, .mv (.t 3), some (37, false), [17]⟩,
   ⟨some 39, .mv (.t 2), some (37, false), [17]⟩,
   ⟨some 40, .len (.t 39), some (37, false), [19, 17]⟩,
   ⟨some 41, .bin .gtr none (.t 38) (.t 40), some (37, false), [18, 20, 17]⟩,
   ⟨some 42, .pick (.t 37) (.c (.pv (.bool true))) (.t 41), none, [17, 21]⟩])
  (.cond (.t 42)
   (.seq (.ops [
     ⟨some 43, .mv (.t 9), none, []⟩,
     ⟨some 8, .mv (.t 43), none, [0, 0]⟩])
    .ret)
   .skip))
  (.seq (.ops [
   ⟨some 45, .load true 3 (.t 4), none, []⟩,
   ⟨some 46, .load true 3 (.t 5), none, []⟩,
   ⟨some 47, .mv (.t 2), none, []⟩,
   ⟨some 48, .call 247 [(.t 45), (.t 46), (.t 47)], none, [0, 1, 2]⟩,
   ⟨some 44, .mv (.t 48), none, [3]⟩,
   ⟨some 49, .extract (.t 44) 0, none, [4]⟩,
   ⟨some 50, .extract (.t 44) 1, none, [4]⟩,
   ⟨some 51, .extract (.t 44) 2, none, [4]⟩,
   ⟨some 11, .alloc [.nils, (.pv (.int .i64 0)), (.pv (.int .i64 0))], none, []⟩,
   ⟨none, .store 3 (.t 11) (.t 49), none, [8, 5, 3, 0, 1, 2, 3, 4, 5, 8]⟩,
   ⟨some 12, .mv (.t 50), none, [6, 9, 0, 1, 2, 3, 4, 5, 6, 8, 9]⟩,
   ⟨some 13, .mv (.t 51), none, [7, 10, 0, 1, 2, 3, 4, 5, 6, 7, 8, 9, 10]⟩])
  (.seq (.draw [
   ⟨some 53, .load true 3 (.t 4), none, []⟩,
   ⟨some 54, .load true 3 (.t 5), none, []⟩,
   ⟨some 55, .mv (.t 2), none, []⟩,
   ⟨some 56, .mv (.t 3), none, []⟩,
   ⟨some 57, .slice 4 (.t 55) none (some (.t 56)), none, [2, 3]⟩,
   ⟨some 58, .call 247 [(.t 53), (.t 54), (.t 57)], none, [0, 1, 4]⟩,
   ⟨some 52, .mv (.t 58), none, [5]⟩,
   ⟨some 59, .extract (.t 52) 0, none, [6]⟩,
   ⟨some 60, .extract (.t 52) 1, none, [6]⟩,
   ⟨some 61, .extract (.t 52) 2, none, [6]⟩,
   ⟨some 14, .alloc [.nils, (.pv (.int .i64 0)), (.pv (.int .i64 0))], none, []⟩,
   ⟨none, .store 3 (.t 14) (.t 59), none, [10, 7, 5, 0, 1, 2, 3, 4, 5, 6, 7, 10]⟩,
   ⟨some 15, .mv (.t 60), none, [8, 11, 0, 1, 2, 3, 4, 5, 6, 7, 8, 10, 11]⟩,
   ⟨some 16, .mv (.t 61), none, [9, 12, 0, 1, 2, 3, 4, 5, 6, 7, 8, 9, 10, 11, 12]⟩])
  (.seq (.seq (.ops [
   ⟨some 62, .mv (.t 12), none, []⟩,
   ⟨some 63, .bin .eql none (.t 62) (.c (.pv (.int .i64 0))), none, [0]⟩,
   ⟨some 64, .mv (.t 63), none, [1]⟩,
   ⟨some 65, .mv (.t 13), some (64, true), [2]⟩,
   ⟨some 66, .bin .neq (some (.iface true)) (.t 65) (.c (.pv .nili)), some (64, true), [3, 2]⟩,
   ⟨some 67, .pick (.t 64) (.t 66) (.c (.pv (.bool false))), none, [2, 4]⟩])
  (.cond (.t 67)
   (.seq (.ops [
     ⟨some 68, .mv (.t 9), none, []⟩,
     ⟨some 69, .mv (.t 68), none, [0]⟩,
     ⟨some 70, .mv (.t 3), some (69, true), [1]⟩,
     ⟨some 71, .bin .gtr none (.t 70) (.c (.pv (.int .i64 0))), some (69, true), [2, 1]⟩,
     ⟨some 72, .mv (.t 71), some (69, true), [3, 1, 1]⟩,
     ⟨some 73, .mv (.t 16), some (72, false), [4]⟩,
     ⟨some 74, .bin .eql (some (.iface true)) (.t 73) (.c (.pv .nili)), some (72, false), [5, 4]⟩,
     ⟨some 75, .pick (.t 72) (.c (.pv (.bool true))) (.t 74), some (69, true), [4, 6, 1]⟩,
     ⟨some 76, .mv (.t 75), some (69, true), [7, 4, 1]⟩,
     ⟨some 77, .mv (.t 15), some (76, false), [8]⟩,
     ⟨some 78, .bin .eql none (.t 77) (.c (.pv (.int .i64 0))), some (76, false), [9, 8]⟩,
     ⟨some 79, .pick (.t 76) (.c (.pv (.bool true))) (.t 78), some (69, true), [8, 10, 1]⟩,
     ⟨some 80, .pick (.t 69) (.t 79) (.c (.pv (.bool false))), none, [1, 11]⟩,
     ⟨some 8, .mv (.t 80), none, [12, 8, 0, 1, 2, 3, 4, 5, 6, 7, 8, 9, 10, 11, 12]⟩])
    .ret)
   .skip))
  (.seq (.seq (.ops [
   ⟨some 81, .load true 3 (.t 4), none, []⟩,
   ⟨some 82, .load true 3 (.t 5), none, []⟩,
   ⟨some 83, .load true 3 (.t 14), none, []⟩,
   ⟨some 84, .call 222 [(.t 81), (.t 82), (.t 83)], none, [0, 1, 2]⟩,
   ⟨some 85, .not (.t 84), none, [3]⟩])
  (.cond (.t 85)
   (.seq (.ops [
     ⟨some 8, .mv (.c (.pv (.bool false))), none, []⟩])
    .ret)
   .skip))
  (.seq (.seq (.ops [
   ⟨some 86, .mv (.t 3), none, []⟩,
   ⟨some 87, .mv (.t 12), none, []⟩,
   ⟨some 88, .bin .leq none (.t 86) (.t 87), none, [0, 1]⟩])
  (.cond (.t 88)
   (.seq (.ops [
     ⟨some 89, .mv (.t 9), none, []⟩,
     ⟨some 90, .mv (.t 89), none, [0]⟩,
     ⟨some 91, .mv (.t 16), some (90, true), [1]⟩,
     ⟨some 92, .bin .eql (some (.iface true)) (.t 91) (.c (.pv .nili)), some (90, true), [2, 1]⟩,
     ⟨some 93, .pick (.t 90) (.t 92) (.c (.pv (.bool false))), none, [1, 3]⟩,
     ⟨some 94, .mv (.t 93), none, [4, 1]⟩,
     ⟨some 95, .mv (.t 15), some (94, true), [5]⟩,
     ⟨some 96, .mv (.t 3), some (94, true), [5]⟩,
     ⟨some 97, .bin .eql none (.t 95) (.t 96), some (94, true), [6, 7, 5]⟩,
     ⟨some 98, .pick (.t 94) (.t 97) (.c (.pv (.bool false))), none, [5, 8]⟩,
     ⟨some 8, .mv (.t 98), none, [9, 5, 0, 1, 2, 3, 4, 5, 6, 7, 8, 9]⟩])
    .ret)
   .skip))
  (.seq (.ops [
   ⟨some 99, .mv (.t 9), none, []⟩,
   ⟨some 100, .mv (.t 99), none, [0]⟩,
   ⟨some 101, .mv (.t 15), some (100, true), [1]⟩,
   ⟨some 102, .mv (.t 12), some (100, true), [1]⟩,
   ⟨some 103, .bin .eql none (.t 101) (.t 102), some (100, true), [2, 3, 1]⟩,
   ⟨some 104, .pick (.t 100) (.t 103) (.c (.pv (.bool false))), none, [1, 4]⟩,
   ⟨some 105, .mv (.t 104), none, [5, 1]⟩,
   ⟨some 106, .mv (.t 16), some (105, true), [6]⟩,
   ⟨some 107, .call 102 [(.t 106)], some (105, true), [7, 6, 6]⟩,
   ⟨some 108, .mv (.t 13), some (105, true), [6]⟩,
   ⟨some 109, .call 102 [(.t 108)], some (105, true), [9, 8, 6]⟩,
   ⟨some 110, .bin .eql none (.t 107) (.t 109), some (105, true), [8, 10, 6]⟩,
   ⟨some 111, .pick (.t 105) (.t 110) (.c (.pv (.bool false))), none, [6, 11]⟩,
   ⟨some 8, .mv (.t 111), none, [12, 10, 0, 1, 2, 3, 4, 5, 6, 7, 8, 9, 10, 11, 12]⟩])
  .ret))))))))))⟩
def f110 : AFunc := ⟨42, [.t 0],
 (.seq (.ops [
   ⟨some 0, .mv (.c (.pv (.bool false))), none, []⟩])
  (.seq (.ops [
   ⟨some 8, .build [(.pv (.int .i64 0)), (.pv (.int .i64 0)), (.pv (.int .u64 0)), (.pv (.int .u64 0)), (.pv (.int .u64 0)), (.pv (.int .u64 0)), (.pv (.int .u64 0)), (.pv (.int .u64 0)), (.pv (.int .u64 0)), (.pv (.int .u64 0))] [(0, 1, (.c (.pv (.int .i64 3)))), (1, 1, (.c (.pv (.int .i64 1))))], none, []⟩,
   ⟨some 9, .bslice 10 1 [(.pv (.int .i64 0)), (.pv (.int .i64 0)), (.pv (.int .u64 0)), (.pv (.int .u64 0)), (.pv (.int .u64 0)), (.pv (.int .u64 0)), (.pv (.int .u64 0)), (.pv (.int .u64 0)), (.pv (.int .u64 0)), (.pv (.int .u64 0))] [(0, 10, (.t 8))], none, [0]⟩,
   ⟨some 10, .build [.nils, .nils, .nils] [(0, 1, (.t 9))], none, [1]⟩,
   ⟨some 1, .alloc [.nils, .nils, .nils], none, []⟩,
   ⟨none, .store 3 (.t 1) (.t 10), none, [3, 2, 0, 1, 2, 3]⟩])
  (.seq (.ops [
   ⟨some 12, .load true 3 (.t 1), none, []⟩,
   ⟨some 13, .build [.nils, (.pv (.int .i64 0)), (.pv (.int .i64 0))] [], none, []⟩,
   ⟨some 14, .call 247 [(.t 12), (.t 13), (.c .nils)], none, [0, 1]⟩,
   ⟨some 11, .mv (.t 14), none, [2]⟩,
   ⟨some 15, .extract (.t 11) 0, none, [3]⟩,
   ⟨some 16, .extract (.t 11) 1, none, [3]⟩,
   ⟨some 17, .extract (.t 11) 2, none, [3]⟩,
   ⟨some 2, .alloc [.nils, (.pv (.int .i64 0)), (.pv (.int .i64 0))], none, []⟩,
   ⟨none, .store 3 (.t 2) (.t 15), none, [7, 4, 2, 0, 1, 2, 3, 4, 7]⟩,
   ⟨some 3, .mv (.t 16), none, [5, 8, 0, 1, 2, 3, 4, 5, 7, 8]⟩,
   ⟨some 4, .mv (.t 17), none, [6, 9, 0, 1, 2, 3, 4, 5, 6, 7, 8, 9]⟩])
  (.seq (.ops [
   ⟨some 19, .build [.nils, .nils, .nils] [], none, []⟩,
   ⟨some 20, .build [.nils, (.pv (.int .i64 0)), (.pv (.int .i64 0))] [], none, []⟩,
   ⟨some 21, .call 247 [(.t 19), (.t 20), (.c .nils)], none, [0, 1]⟩,
   ⟨some 18, .mv (.t 21), none, [2]⟩,
   ⟨some 22, .extract (.t 18) 0, none, [3]⟩,
   ⟨some 23, .extract (.t 18) 1, none, [3]⟩,
   ⟨some 24, .extract (.t 18) 2, none, [3]⟩,
   ⟨some 5, .alloc [.nils, (.pv (.int .i64 0)), (.pv (.int .i64 0))], none, []⟩,
   ⟨none, .store 3 (.t 5) (.t 22), none, [7, 4, 2, 0, 1, 2, 3, 4, 7]⟩,
   ⟨some 6, .mv (.t 23), none, [5, 8, 0, 1, 2, 3, 4, 5, 7, 8]⟩,
   ⟨some 7, .mv (.t 24), none, [6, 9, 0, 1, 2, 3, 4, 5, 6, 7, 8, 9]⟩])
  (.seq (.ops [
   ⟨some 25, .mv (.t 4), none, []⟩,
   ⟨some 26, .bin .eql (some (.iface true)) (.t 25) (.c (.pv .nili)), none, [0]⟩,
   ⟨some 27, .mv (.t 26), none, [1]⟩,
   ⟨some 28, .mv (.t 3), some (27, true), [2]⟩,
   ⟨some 29, .bin .eql none (.t 28) (.c (.pv (.int .i64 0))), some (27, true), [3, 2]⟩,
   ⟨some 30, .pick (.t 27) (.t 29) (.c (.pv (.bool false))), none, [2, 4]⟩,
   ⟨some 31, .mv (.t 30), none, [5, 2]⟩,
   ⟨some 32, .fieldAddr 0 (.t 2), some (31, true), [6]⟩,
   ⟨some 33, .load false 1 (.t 32), some (31, true), [7, 6]⟩,
   ⟨some 34, .len (.t 33), some (31, true), [8, 6]⟩,
   ⟨some 35, .bin .eql none (.t 34) (.c (.pv (.int .i64 0))), some (31, true), [9, 6]⟩,
   ⟨some 36, .pick (.t 31) (.t 35) (.c (.pv (.bool false))), none, [6, 10]⟩,
   ⟨some 37, .mv (.t 36), none, [11, 6]⟩,
   ⟨some 38, .mv (.t 7), some (37, true), [12]⟩,
   ⟨some 39, .mkI 0 (.c (.pv (.int .i64 3))), some (37, true), [12]⟩,
   ⟨some 40, .bin .eql (some (.iface true)) (.t 38) (.t 39), some (37, true), [13, 14, 12]⟩,
   ⟨some 41, .pick (.t 37) (.t 40) (.c (.pv (.bool false))), none, [12, 15]⟩,
   ⟨some 0, .mv (.t 41), none, [16, 12, 0, 1, 2, 3, 4, 5, 6, 7, 8, 9, 10, 11, 12, 13, 14, 15, 16]⟩])
  .ret)))))⟩
def f116l0 : ACode :=
 (.seq (.seq (.ops [
   ⟨some 23, .mv (.t 11), none, []⟩,
   ⟨some 24, .fieldAddr 0 (.t 5), none, []⟩,
   ⟨some 25, .load false 1 (.t 24), none, [1]⟩,
   ⟨some 26, .len (.t 25), none, [2]⟩,
   ⟨some 27, .bin .lss none (.t 23) (.t 26), none, [0, 3]⟩])
  (.cond (.t 27)
   .skip
   (.exit 0)))
  (.seq (.block 1
   (.seq (.draw [
     ⟨some 30, .fieldAddr 0 (.t 5), none, []⟩,
     ⟨some 31, .load false 1 (.t 30), none, [0]⟩,
     ⟨some 32, .mv (.t 11), none, []⟩,
     ⟨some 33, .idxAddr 6 (.t 31) (.t 32), none, [1, 2]⟩,
     ⟨some 34, .fieldAddr 0 (.t 33), none, [3]⟩,
     ⟨some 35, .load false 1 (.t 34), none, [4]⟩,
     ⟨some 36, .fieldAddr 0 (.t 5), none, []⟩,
     ⟨some 37, .load false 1 (.t 36), none, [6]⟩,
     ⟨some 38, .mv (.t 11), none, []⟩,
     ⟨some 39, .bin .sub none (.t 38) (.c (.pv (.int .i64 1))), none, [8]⟩,
     ⟨some 40, .idxAddr 6 (.t 37) (.t 39), none, [7, 9]⟩,
     ⟨some 41, .fieldAddr 0 (.t 40), none, [10]⟩,
     ⟨some 42, .load false 1 (.t 41), none, [11]⟩,
     ⟨some 43, .bin .leq none (.t 35) (.t 42), none, [5, 12]⟩])
    (.cond (.t 43)
     (.seq (.ops [
       ⟨some 44, .mv (.t 9), none, []⟩,
       ⟨some 8, .mv (.t 44), none, [0, 0]⟩])
      .ret)
     .skip)))
  (.ops [
   ⟨some 28, .mv (.t 11), none, []⟩,
   ⟨some 29, .bin .add none (.t 28) (.c (.pv (.int .i64 1))), none, [0]⟩,
   ⟨some 11, .mv (.t 29), none, [1, 0, 1]⟩])))
def f116 : AFunc := ⟨75, [.t 8],
 (.seq (.ops [
   ⟨some 4, .box (.t 0), none, []⟩,
   ⟨some 5, .box (.t 1), none, []⟩,
   ⟨some 6, .box (.t 2), none, []⟩,
   ⟨some 7, .box (.t 3), none, []⟩,
   ⟨some 8, .mv (.c (.pv (.bool false))), none, []⟩])
  (.seq (.ops [
   ⟨some 15, .call 117 [], none, []⟩,
   ⟨some 9, .mv (.t 15), none, [0, 0, 0]⟩])
  (.seq (.ops [
   ⟨some 16, .load true 3 (.t 4), none, []⟩,
   ⟨some 17, .load true 3 (.t 5), none, []⟩,
   ⟨some 18, .load true 3 (.t 6), none, []⟩,
   ⟨some 19, .call 163 [(.t 16), (.t 17), (.t 18)], none, [0, 1, 2]⟩,
   ⟨some 10, .mv (.t 19), none, [3, 3, 0, 1, 2, 3]⟩])
  (.seq (.seq (.ops [
   ⟨some 20, .mv (.t 10), none, []⟩,
   ⟨some 21, .not (.t 20), none, [0]⟩])
  (.cond (.t 21)
   (.seq (.ops [
     ⟨some 22, .mv (.t 9), none, []⟩,
     ⟨some 8, .mv (.t 22), none, [0, 0]⟩])
    .ret)
   .skip))
  (.seq (.seq (.ops [
   ⟨some 11, .mv (.c (.pv (.int .i64 1))), none, []⟩])
  (.block 0
   (.loop f116l0)))
  (.seq (.ops [
   ⟨some 45, .load true 3 (.t 5), none, []⟩,
   ⟨some 46, .load true 3 (.t 6), none, []⟩,
   ⟨some 47, .call 211 [(.t 45), (.t 46)], none, [0, 1]⟩,
   ⟨some 12, .mv (.t 47), none, [2, 2, 0, 1, 2]⟩])
  (.seq (.seq (.ops [
   ⟨some 48, .mv (.t 12), none, []⟩,
   ⟨some 49, .bin .eql none (.t 48) (.c (.pv (.int .i64 0))), none, [0]⟩,
   ⟨some 50, .load true 3 (.t 5), none, []⟩,
   ⟨some 51, .load true 3 (.t 6), none, []⟩,
   ⟨some 52, .call 165 [(.t 50), (.t 51)], none, [2, 3]⟩,
   ⟨some 53, .bin .neq (some .bool) (.t 49) (.t 52), none, [1, 4]⟩])
  (.cond (.t 53)
   (.seq (.ops [
     ⟨some 8, .mv (.c (.pv (.bool false))), none, []⟩])
    .ret)
   .skip))
  (.seq (.ops [
   ⟨some 55, .load true 3 (.t 4), none, []⟩,
   ⟨some 56, .load true 3 (.t 5), none, []⟩,
   ⟨some 57, .load true 3 (.t 6), none, []⟩,
   ⟨some 58, .load true 4 (.t 7), none, []⟩,
   ⟨some 59, .call 246 [(.t 55), (.t 56), (.t 57), (.t 58)], none, [0, 1, 2, 3]⟩,
   ⟨some 54, .mv (.t 59), none, [4]⟩,
   ⟨some 60, .extract (.t 54) 0, none, [5]⟩,
   ⟨some 61, .extract (.t 54) 1, none, [5]⟩,
   ⟨some 13, .alloc [.nils, (.pv (.int .i64 0)), (.pv (.int .i64 0))], none, []⟩,
   ⟨none, .store 3 (.t 13) (.t 60), none, [8, 6, 4, 0, 1, 2, 3, 4, 5, 6, 8]⟩,
   ⟨some 14, .mv (.t 61), none, [7, 9, 0, 1, 2, 3, 4, 5, 6, 7, 8, 9]⟩])
  (.seq (.ops [
   ⟨some 62, .mv (.t 9), none, []⟩,
   ⟨some 63, .mv (.t 62), none, [0]⟩,
   ⟨some 64, .mv (.t 14), some (63, true), [1]⟩,
   ⟨some 65, .bin .neq (some (.iface true)) (.t 64) (.c (.pv .nili)), some (63, true), [2, 1]⟩,
   ⟨some 66, .mv (.t 65), some (63, true), [3, 1, 1]⟩,
   ⟨some 67, .load true 3 (.t 5), some (66, false), [4]⟩,
   ⟨some 68, .load true 3 (.t 13), some (66, false), [4]⟩,
   ⟨some 69, .call 211 [(.t 67), (.t 68)], some (66, false), [5, 6, 4, 4]⟩,
   ⟨some 70, .mv (.t 12), some (66, false), [4]⟩,
   ⟨some 71, .bin .sub none (.t 70) (.c (.pv (.int .i64 1))), some (66, false), [8, 4]⟩,
   ⟨some 72, .bin .geq none (.t 69) (.t 71), some (66, false), [7, 9, 4]⟩,
   ⟨some 73, .pick (.t 66) (.c (.pv (.bool true))) (.t 72), some (63, true), [4, 10, 1]⟩,
   ⟨some 74, .pick (.t 63) (.t 73) (.c (.pv (.bool false))), none, [1, 11]⟩,
   ⟨some 8, .mv (.t 74), none, [12, 7, 0, 1, 2, 3, 4, 5, 6, 7, 8, 9, 10, 11, 12]⟩])
  .ret)))))))))⟩
def f117 : AFunc := ⟨32, [.t 0],
 (.seq (.ops [
   ⟨some 0, .mv (.c (.pv (.bool false))), none, []⟩])
  (.seq (.ops [
   ⟨some 3, .build [(.pv (.int .i64 0)), (.pv (.int .i64 0)), (.pv (.int .u64 0)), (.pv (.int .u64 0)), (.pv (.int .u64 0)), (.pv (.int .u64 0)), (.pv (.int .u64 0)), (.pv (.int .u64 0)), (.pv (.int .u64 0)), (.pv (.int .u64 0))] [(0, 1, (.c (.pv (.int .i64 3)))), (1, 1, (.c (.pv (.int .i64 1))))], none, []⟩,
   ⟨some 4, .bslice 10 1 [(.pv (.int .i64 0)), (.pv (.int .i64 0)), (.pv (.int .u64 0)), (.pv (.int .u64 0)), (.pv (.int .u64 0)), (.pv (.int .u64 0)), (.pv (.int .u64 0)), (.pv (.int .u64 0)), (.pv (.int .u64 0)), (.pv (.int .u64 0))] [(0, 10, (.t 3))], none, [0]⟩,
   ⟨some 5, .build [(.pv (.int .i64 0)), (.pv (.bool false)), (.pv (.int .i64 0)), (.pv (.int .i64 0)), (.pv (.int .i64 0))] [(0, 1, (.c (.pv (.int .i64 1)))), (4, 1, (.c (.pv (.int .i64 1))))], none, []⟩,
   ⟨some 6, .bslice 5 1 [(.pv (.int .i64 0)), (.pv (.bool false)), (.pv (.int .i64 0)), (.pv (.int .i64 0)), (.pv (.int .i64 0))] [(0, 5, (.t 5))], none, [2]⟩,
   ⟨some 7, .build [.nils, .nils, .nils] [(0, 1, (.t 4)), (1, 1, (.t 6))], none, [1, 3]⟩,
   ⟨some 1, .alloc [.nils, .nils, .nils], none, []⟩,
   ⟨none, .store 3 (.t 1) (.t 7), none, [5, 4, 0, 1, 2, 3, 4, 5]⟩])
  (.seq (.ops [
   ⟨some 8, .load true 3 (.t 1), none, []⟩,
   ⟨some 9, .build [.nils, (.pv (.int .i64 0)), (.pv (.int .i64 0))] [], none, []⟩,
   ⟨some 10, .build [(.pv (.int .i64 0)), (.pv (.int .i64 0)), (.pv (.int .i64 0)), (.pv (.int .u64 0)), (.pv (.int .u64 0)), (.pv (.int .u64 0)), (.pv (.int .u64 0)), (.pv (.int .i64 0))] [(0, 1, (.c (.pv (.int .i64 1)))), (1, 1, (.c (.pv (.int .i64 1))))], none, []⟩,
   ⟨some 11, .bslice 8 1 [(.pv (.int .i64 0)), (.pv (.int .i64 0)), (.pv (.int .i64 0)), (.pv (.int .u64 0)), (.pv (.int .u64 0)), (.pv (.int .u64 0)), (.pv (.int .u64 0)), (.pv (.int .i64 0))] [(0, 8, (.t 10))], none, [2]⟩,
   ⟨some 12, .build [.nils, (.pv (.int .i64 0)), (.pv (.int .i64 0))] [(0, 1, (.t 11))], none, [3]⟩,
   ⟨some 13, .call 210 [(.t 8), (.t 9), (.t 12)], none, [0, 1, 4]⟩,
   ⟨some 2, .mv (.t 13), none, [5, 5, 0, 1, 2, 3, 4, 5]⟩])
  (.seq (.ops [
   ⟨some 14, .load true 3 (.t 1), none, []⟩,
   ⟨some 15, .build [.nils, (.pv (.int .i64 0)), (.pv (.int .i64 0))] [], none, []⟩,
   ⟨some 16, .build [.nils, (.pv (.int .i64 0)), (.pv (.int .i64 0))] [], none, []⟩,
   ⟨some 17, .call 210 [(.t 14), (.t 15), (.t 16)], none, [0, 1, 2]⟩,
   ⟨some 18, .len (.t 17), none, [3]⟩,
   ⟨some 19, .bin .eql none (.t 18) (.c (.pv (.int .i64 0))), none, [4]⟩,
   ⟨some 20, .mv (.t 19), none, [5, 3]⟩,
   ⟨some 21, .mv (.t 2), some (20, true), [6]⟩,
   ⟨some 22, .len (.t 21), some (20, true), [7, 6]⟩,
   ⟨some 23, .bin .eql none (.t 22) (.c (.pv (.int .i64 1))), some (20, true), [8, 6]⟩,
   ⟨some 24, .pick (.t 20) (.t 23) (.c (.pv (.bool false))), none, [6, 9]⟩,
   ⟨some 25, .mv (.t 24), none, [10, 6]⟩,
   ⟨some 26, .mv (.t 2), some (25, true), [11]⟩,
   ⟨some 27, .idxAddr 4 (.t 26) (.c (.pv (.int .i64 0))), some (25, true), [12, 11]⟩,
   ⟨some 28, .load true 4 (.t 27), some (25, true), [13, 11]⟩,
   ⟨some 29, .build [(.pv (.int .i64 0)), (.pv (.int .i64 0)), (.pv (.int .i64 0)), (.pv (.int .i64 0))] [(0, 1, (.c (.pv (.int .i64 1)))), (1, 1, (.c (.pv (.int .i64 1)))), (2, 1, (.c (.pv (.int .i64 3))))], some (25, true), [11]⟩,
   ⟨some 30, .bin .eql (some (.plain [false, false, false, false])) (.t 28) (.t 29), some (25, true), [14, 15, 11]⟩,
   ⟨some 31, .pick (.t 25) (.t 30) (.c (.pv (.bool false))), none, [11, 16]⟩,
   ⟨some 0, .mv (.t 31), none, [17, 11, 0, 1, 2, 3, 4, 5, 6, 7, 8, 9, 10, 11, 12, 13, 14, 15, 16, 17]⟩])
  .ret))))⟩
def f210l0 : ACode :=
 (.seq (.ops [
   ⟨some 16, .bin .lss none (.t 15) (.t 14), none, []⟩])
  (.seq (.cond (.t 16)
   .skip
   (.exit 0))
  (.seq (.block 1
   (.seq (.ops [
     ⟨some 17, .idxAddr 7 (.t 13) (.t 15), none, []⟩,
     ⟨some 18, .load true 7 (.t 17), none, [0]⟩,
     ⟨some 9, .alloc [(.pv (.int .i64 0)), (.pv (.int .i64 0)), (.pv (.int .i64 0)), (.pv (.int .i64 0)), .nils, (.pv (.int .i64 0)), (.pv (.int .i64 0))], none, []⟩,
     ⟨none, .store 7 (.t 9) (.t 18), none, [2, 1, 0, 1, 2]⟩])
    (.ops [
     ⟨some 19, .mv (.t 7), none, []⟩,
     ⟨some 20, .fieldAddr 0 (.t 9), none, []⟩,
     ⟨some 21, .load true 4 (.t 20), none, [1]⟩,
     ⟨some 22, .bslice 4 1 [(.pv (.int .i64 0)), (.pv (.int .i64 0)), (.pv (.int .i64 0)), (.pv (.int .i64 0))] [(0, 4, (.t 21))], none, [2]⟩,
     ⟨some 23, .append 4 32 (.t 19) (.t 22), none, [0, 3]⟩,
     ⟨some 7, .mv (.t 23), none, [4, 4, 0, 1, 2, 3, 4]⟩])))
  (.ops [
   ⟨some 24, .bin .add none (.t 15) (.c (.pv (.int .i64 1))), none, []⟩,
   ⟨some 15, .mv (.t 24), none, [0]⟩]))))
def f210 : AFunc := ⟨26, [.t 6],
 (.seq (.ops [
   ⟨some 3, .box (.t 0), none, []⟩,
   ⟨some 4, .box (.t 1), none, []⟩,
   ⟨some 5, .box (.t 2), none, []⟩,
   ⟨some 6, .mv (.c .nils), none, []⟩])
  (.seq (.ops [
   ⟨some 7, .mv (.c .nils), none, []⟩])
  (.seq (.seq (.ops [
   ⟨some 10, .load true 3 (.t 3), none, []⟩,
   ⟨some 11, .load true 3 (.t 4), none, []⟩,
   ⟨some 12, .load true 3 (.t 5), none, []⟩,
   ⟨some 13, .call 213 [(.t 10), (.t 11), (.t 12)], none, [0, 1, 2]⟩,
   ⟨some 14, .len (.t 13), none, [3]⟩,
   ⟨some 15, .mv (.c (.pv (.int .i64 0))), none, []⟩])
  (.block 0
   (.loop f210l0)))
  (.seq (.ops [
   ⟨some 25, .mv (.t 7), none, []⟩,
   ⟨some 6, .mv (.t 25), none, [0, 0]⟩])
  .ret))))⟩
def f211l0 : ACode :=
 (.seq (.ops [
   ⟨some 12, .bin .lss none (.t 11) (.t 10), none, []⟩])
  (.seq (.cond (.t 12)
   .skip
   (.exit 0))
  (.seq (.block 1
   (.seq (.ops [
     ⟨some 13, .idxAddr 6 (.t 9) (.t 11), none, []⟩,
     ⟨some 14, .load true 6 (.t 13), none, [0]⟩,
     ⟨some 7, .alloc [(.pv (.int .i64 0)), (.pv (.int .u64 0)), (.pv (.int .u64 0)), (.pv (.int .u64 0)), (.pv (.int .u64 0)), (.pv (.bool false))], none, []⟩,
     ⟨none, .store 6 (.t 7) (.t 14), none, [2, 1, 0, 1, 2]⟩])
    (.seq (.ops [
     ⟨some 15, .load true 6 (.t 7), none, []⟩,
     ⟨some 16, .bslice 6 1 [(.pv (.int .i64 0)), (.pv (.int .u64 0)), (.pv (.int .u64 0)), (.pv (.int .u64 0)), (.pv (.int .u64 0)), (.pv (.bool false))] [(0, 6, (.t 15))], none, [0]⟩,
     ⟨some 17, .build [.nils, (.pv (.int .i64 0)), (.pv (.int .i64 0))] [(0, 1, (.t 16))], none, [1]⟩,
     ⟨some 18, .load true 3 (.t 3), none, []⟩,
     ⟨some 19, .call 238 [(.t 17), (.t 18)], none, [2, 3]⟩,
     ⟨some 20, .not (.t 19), none, [4]⟩])
    (.cond (.t 20)
     (.ops [
       ⟨some 21, .mv (.t 5), none, []⟩,
       ⟨some 22, .bin .add none (.t 21) (.c (.pv (.int .i64 1))), none, [0]⟩,
       ⟨some 5, .mv (.t 22), none, [1, 0, 1]⟩])
     .skip))))
  (.ops [
   ⟨some 23, .bin .add none (.t 11) (.c (.pv (.int .i64 1))), none, []⟩,
   ⟨some 11, .mv (.t 23), none, [0]⟩]))))
def f211 : AFunc := ⟨27, [.t 4],
 (.seq (.ops [
   ⟨some 2, .box (.t 0), none, []⟩,
   ⟨some 3, .box (.t 1), none, []⟩,
   ⟨some 4, .mv (.c (.pv (.int .i64 0))), none, []⟩])
  (.seq (.ops [
   ⟨some 5, .mv (.c (.pv (.int .i64 0))), none, []⟩])
  (.seq (.seq (.ops [
   ⟨some 8, .fieldAddr 0 (.t 2), none, []⟩,
   ⟨some 9, .load false 1 (.t 8), none, [0]⟩,
   ⟨some 10, .len (.t 9), none, [1]⟩,
   ⟨some 11, .mv (.c (.pv (.int .i64 0))), none, []⟩])
  (.block 0
   (.loop f211l0)))
  (.seq (.ops [
   ⟨some 24, .mv (.t 5), none, []⟩,
   ⟨some 25, .bin .add none (.t 24) (.c (.pv (.int .i64 1))), none, [0]⟩,
   ⟨some 26, .bin .quo none (.t 25) (.c (.pv (.int .i64 2))), none, [1]⟩,
   ⟨some 4, .mv (.t 26), none, [2, 0, 1, 2]⟩])
  .ret))))⟩
def f213 : AFunc := ⟨13, [.t 6],
 (.seq (.ops [
   ⟨some 3, .box (.t 0), none, []⟩,
   ⟨some 4, .box (.t 1), none, []⟩,
   ⟨some 5, .box (.t 2), none, []⟩,
   ⟨some 6, .mv (.c .nils), none, []⟩])
  (.seq (.ops [
   ⟨some 7, .alloc [.nils], none, []⟩])
  (.seq (.ops [
   ⟨some 8, .load true 3 (.t 3), none, []⟩,
   ⟨some 9, .load true 3 (.t 5), none, []⟩,
   ⟨some 10, .mkF 214 [] [(.t 3), (.t 4), (.t 5), (.t 7)], none, []⟩,
   ⟨some 11, .call 215 [(.t 8), (.t 9), (.t 10)], none, [0, 1, 2]⟩])
  (.seq (.ops [
   ⟨some 12, .load false 1 (.t 7), none, []⟩,
   ⟨some 6, .mv (.t 12), none, [0, 0]⟩])
  .ret))))⟩
def f214 : AFunc := ⟨24, [],
 (.seq (.ops [
   ⟨some 5, .box (.t 0), none, []⟩])
  (.seq (.ops [
   ⟨some 9, .load true 3 (.t 1), none, []⟩,
   ⟨some 10, .load true 3 (.t 2), none, []⟩,
   ⟨some 11, .load true 3 (.t 3), none, []⟩,
   ⟨some 12, .load true 4 (.t 5), none, []⟩,
   ⟨some 13, .call 246 [(.t 9), (.t 10), (.t 11), (.t 12)], none, [0, 1, 2, 3]⟩,
   ⟨some 8, .mv (.t 13), none, [4]⟩,
   ⟨some 14, .extract (.t 8) 0, none, [5]⟩,
   ⟨some 15, .extract (.t 8) 1, none, [5]⟩,
   ⟨some 6, .alloc [.nils, (.pv (.int .i64 0)), (.pv (.int .i64 0))], none, []⟩,
   ⟨none, .store 3 (.t 6) (.t 14), none, [8, 6, 4, 0, 1, 2, 3, 4, 5, 6, 8]⟩,
   ⟨some 7, .mv (.t 15), none, [7, 9, 0, 1, 2, 3, 4, 5, 6, 7, 8, 9]⟩])
  (.seq (.ops [
   ⟨some 16, .mv (.t 7), none, []⟩,
   ⟨some 17, .bin .eql (some (.iface true)) (.t 16) (.c (.pv .nili)), none, [0]⟩])
  (.cond (.t 17)
   (.ops [
     ⟨some 18, .load false 1 (.t 4), none, []⟩,
     ⟨some 19, .load true 4 (.t 5), none, []⟩,
     ⟨some 20, .load true 3 (.t 6), none, []⟩,
     ⟨some 21, .build [(.pv (.int .i64 0)), (.pv (.int .i64 0)), (.pv (.int .i64 0)), (.pv (.int .i64 0)), .nils, (.pv (.int .i64 0)), (.pv (.int .i64 0))] [(0, 4, (.t 19)), (4, 3, (.t 20))], none, [1, 2]⟩,
     ⟨some 22, .bslice 7 1 [(.pv (.int .i64 0)), (.pv (.int .i64 0)), (.pv (.int .i64 0)), (.pv (.int .i64 0)), .nils, (.pv (.int .i64 0)), (.pv (.int .i64 0))] [(0, 7, (.t 21))], none, [3]⟩,
     ⟨some 23, .append 7 72 (.t 18) (.t 22), none, [0, 4]⟩,
     ⟨none, .store 1 (.t 4) (.t 23), none, [5, 5, 0, 1, 2, 3, 4, 5]⟩])
   .skip))))⟩
def f215l0 : ACode :=
 (.seq (.ops [
   ⟨some 23, .bin .lss none (.t 22) (.t 21), none, []⟩])
  (.seq (.cond (.t 23)
   .skip
   (.exit 0))
  (.seq (.block 1
   (.seq (.ops [
     ⟨some 24, .idxAddr 8 (.t 20) (.t 22), none, []⟩,
     ⟨some 25, .load true 8 (.t 24), none, [0]⟩,
     ⟨some 9, .alloc [(.pv (.int .i64 0)), (.pv (.int .i64 0)), (.pv (.int .i64 0)), (.pv (.int .u64 0)), (.pv (.int .u64 0)), (.pv (.int .u64 0)), (.pv (.int .u64 0)), (.pv (.int .i64 0))], none, []⟩,
     ⟨none, .store 8 (.t 9) (.t 25), none, [2, 1, 0, 1, 2]⟩])
    (.ops [
     ⟨some 26, .mv (.t 6), none, []⟩,
     ⟨some 27, .fieldAddr 0 (.t 9), none, []⟩,
     ⟨some 28, .load false 1 (.t 27), none, [1]⟩,
     ⟨some 29, .bslice 1 1 [(.pv (.int .i64 0))] [(0, 1, (.t 28))], none, [2]⟩,
     ⟨some 30, .append 1 8 (.t 26) (.t 29), none, [0, 3]⟩,
     ⟨some 6, .mv (.t 30), none, [4, 4, 0, 1, 2, 3, 4]⟩])))
  (.ops [
   ⟨some 31, .bin .add none (.t 22) (.c (.pv (.int .i64 1))), none, []⟩,
   ⟨some 22, .mv (.t 31), none, [0]⟩]))))
def f215l1 : ACode :=
 (.seq (.ops [
   ⟨some 36, .bin .lss none (.t 35) (.t 34), none, []⟩])
  (.seq (.cond (.t 36)
   .skip
   (.exit 2))
  (.seq (.block 3
   (.seq (.ops [
     ⟨some 37, .idxAddr 10 (.t 33) (.t 35), none, []⟩,
     ⟨some 38, .load true 10 (.t 37), none, [0]⟩,
     ⟨some 11, .alloc [(.pv (.int .i64 0)), (.pv (.int .i64 0)), (.pv (.int .u64 0)), (.pv (.int .u64 0)), (.pv (.int .u64 0)), (.pv (.int .u64 0)), (.pv (.int .u64 0)), (.pv (.int .u64 0)), (.pv (.int .u64 0)), (.pv (.int .u64 0))], none, []⟩,
     ⟨none, .store 10 (.t 11) (.t 38), none, [2, 1, 0, 1, 2]⟩])
    (.ops [
     ⟨some 39, .mv (.t 7), none, []⟩,
     ⟨some 40, .fieldAddr 0 (.t 11), none, []⟩,
     ⟨some 41, .load false 1 (.t 40), none, [1]⟩,
     ⟨some 42, .bslice 1 1 [(.pv (.int .i64 0))] [(0, 1, (.t 41))], none, [2]⟩,
     ⟨some 43, .append 1 8 (.t 39) (.t 42), none, [0, 3]⟩,
     ⟨some 7, .mv (.t 43), none, [4, 4, 0, 1, 2, 3, 4]⟩])))
  (.ops [
   ⟨some 44, .bin .add none (.t 35) (.c (.pv (.int .i64 1))), none, []⟩,
   ⟨some 35, .mv (.t 44), none, [0]⟩]))))
def f215l2 : ACode :=
 (.seq (.ops [
   ⟨some 83, .bin .lss none (.t 82) (.t 81), none, []⟩])
  (.seq (.cond (.t 83)
   .skip
   (.exit 10))
  (.seq (.block 11
   (.seq (.ops [
     ⟨some 84, .idxAddr 1 (.t 80) (.t 82), none, []⟩,
     ⟨some 85, .load false 1 (.t 84), none, [0]⟩,
     ⟨some 18, .mv (.t 85), none, [1, 0, 1]⟩])
    (.ops [
     ⟨some 86, .mv (.t 2), none, []⟩,
     ⟨some 87, .mv (.t 12), none, []⟩,
     ⟨some 88, .mv (.t 14), none, []⟩,
     ⟨some 89, .mv (.t 16), none, []⟩,
     ⟨some 90, .mv (.t 18), none, []⟩,
     ⟨some 91, .build [(.pv (.int .i64 0)), (.pv (.int .i64 0)), (.pv (.int .i64 0)), (.pv (.int .i64 0))] [(0, 1, (.t 87)), (1, 1, (.t 88)), (2, 1, (.t 89)), (3, 1, (.t 90))], none, [1, 2, 3, 4]⟩,
     ⟨some 92, .callv (.t 86) [(.t 91)], none, [0, 5]⟩])))
  (.ops [
   ⟨some 93, .bin .add none (.t 82) (.c (.pv (.int .i64 1))), none, []⟩,
   ⟨some 82, .mv (.t 93), none, [0]⟩]))))
def f215l3 : ACode :=
 (.seq (.ops [
   ⟨some 69, .bin .lss none (.t 68) (.t 67), none, []⟩])
  (.seq (.cond (.t 69)
   .skip
   (.exit 8))
  (.seq (.block 9
   (.seq (.ops [
     ⟨some 70, .idxAddr 1 (.t 66) (.t 68), none, []⟩,
     ⟨some 71, .load false 1 (.t 70), none, [0]⟩,
     ⟨some 16, .mv (.t 71), none, [1, 0, 1]⟩])
    (.seq (.seq (.ops [
     ⟨some 72, .mv (.t 12), none, []⟩,
     ⟨some 73, .bin .neq none (.t 72) (.c (.pv (.int .i64 4))), none, [0]⟩])
    (.cond (.t 73)
     (.seq (.ops [
       ⟨some 74, .mv (.t 2), none, []⟩,
       ⟨some 75, .mv (.t 12), none, []⟩,
       ⟨some 76, .mv (.t 14), none, []⟩,
       ⟨some 77, .mv (.t 16), none, []⟩,
       ⟨some 78, .build [(.pv (.int .i64 0)), (.pv (.int .i64 0)), (.pv (.int .i64 0)), (.pv (.int .i64 0))] [(0, 1, (.t 75)), (1, 1, (.t 76)), (2, 1, (.t 77))], none, [1, 2, 3]⟩,
       ⟨some 79, .callv (.t 74) [(.t 78)], none, [0, 4]⟩])
      (.exit 9))
     .skip))
    (.seq (.ops [
     ⟨some 80, .mv (.t 6), none, []⟩,
     ⟨some 81, .len (.t 80), none, [0]⟩,
     ⟨some 82, .mv (.c (.pv (.int .i64 0))), none, []⟩])
    (.block 10
     (.loop f215l2))))))
  (.ops [
   ⟨some 94, .bin .add none (.t 68) (.c (.pv (.int .i64 1))), none, []⟩,
   ⟨some 68, .mv (.t 94), none, [0]⟩]))))
def f215l4 : ACode :=
 (.seq (.ops [
   ⟨some 56, .bin .lss none (.t 55) (.t 54), none, []⟩])
  (.seq (.cond (.t 56)
   .skip
   (.exit 6))
  (.seq (.block 7
   (.seq (.ops [
     ⟨some 57, .idxAddr 1 (.t 53) (.t 55), none, []⟩,
     ⟨some 58, .load false 1 (.t 57), none, [0]⟩,
     ⟨some 14, .mv (.t 58), none, [1, 0, 1]⟩])
    (.seq (.seq (.ops [
     ⟨some 59, .mv (.t 12), none, []⟩,
     ⟨some 60, .bin .eql none (.t 59) (.c (.pv (.int .i64 2))), none, [0]⟩])
    (.cond (.t 60)
     (.seq (.ops [
       ⟨some 61, .mv (.t 2), none, []⟩,
       ⟨some 62, .mv (.t 12), none, []⟩,
       ⟨some 63, .mv (.t 14), none, []⟩,
       ⟨some 64, .build [(.pv (.int .i64 0)), (.pv (.int .i64 0)), (.pv (.int .i64 0)), (.pv (.int .i64 0))] [(0, 1, (.t 62)), (1, 1, (.t 63))], none, [1, 2]⟩,
       ⟨some 65, .callv (.t 61) [(.t 64)], none, [0, 3]⟩])
      (.exit 7))
     .skip))
    (.seq (.ops [
     ⟨some 66, .mv (.t 7), none, []⟩,
     ⟨some 67, .len (.t 66), none, [0]⟩,
     ⟨some 68, .mv (.c (.pv (.int .i64 0))), none, []⟩])
    (.block 8
     (.loop f215l3))))))
  (.ops [
   ⟨some 95, .bin .add none (.t 55) (.c (.pv (.int .i64 1))), none, []⟩,
   ⟨some 55, .mv (.t 95), none, [0]⟩]))))
def f215l5 : ACode :=
 (.seq (.seq (.ops [
   ⟨some 49, .mv (.t 12), none, []⟩,
   ⟨some 50, .bin .leq none (.t 49) (.c (.pv (.int .i64 4))), none, [0]⟩])
  (.cond (.t 50)
   .skip
   (.exit 4)))
  (.seq (.block 5
   (.seq (.ops [
     ⟨some 53, .mv (.t 6), none, []⟩,
     ⟨some 54, .len (.t 53), none, [0]⟩,
     ⟨some 55, .mv (.c (.pv (.int .i64 0))), none, []⟩])
    (.block 6
     (.loop f215l4))))
  (.ops [
   ⟨some 51, .mv (.t 12), none, []⟩,
   ⟨some 52, .bin .add none (.t 51) (.c (.pv (.int .i64 1))), none, [0]⟩,
   ⟨some 12, .mv (.t 52), none, [1, 0, 1]⟩])))
def f215 : AFunc := ⟨96, [],
 (.seq (.ops [
   ⟨some 3, .box (.t 0), none, []⟩,
   ⟨some 4, .box (.t 1), none, []⟩])
  (.seq (.ops [
   ⟨some 6, .mv (.c .nils), none, []⟩,
   ⟨some 7, .mv (.c .nils), none, [0]⟩])
  (.seq (.seq (.ops [
   ⟨some 19, .fieldAddr 0 (.t 4), none, []⟩,
   ⟨some 20, .load false 1 (.t 19), none, [0]⟩,
   ⟨some 21, .len (.t 20), none, [1]⟩,
   ⟨some 22, .mv (.c (.pv (.int .i64 0))), none, []⟩])
  (.block 0
   (.loop f215l0)))
  (.seq (.seq (.ops [
   ⟨some 32, .fieldAddr 0 (.t 3), none, []⟩,
   ⟨some 33, .load false 1 (.t 32), none, [0]⟩,
   ⟨some 34, .len (.t 33), none, [1]⟩,
   ⟨some 35, .mv (.c (.pv (.int .i64 0))), none, []⟩])
  (.block 2
   (.loop f215l1)))
  (.seq (.ops [
   ⟨some 45, .mv (.t 6), none, []⟩,
   ⟨some 46, .call 216 [(.t 45)], none, [0]⟩,
   ⟨some 47, .mv (.t 7), none, []⟩,
   ⟨some 48, .call 216 [(.t 47)], none, [2, 1]⟩,
   ⟨some 6, .mv (.t 46), none, [1, 3, 0, 1]⟩,
   ⟨some 7, .mv (.t 48), none, [3, 4, 0, 1, 2, 3, 4]⟩])
  (.seq (.ops [
   ⟨some 12, .mv (.c (.pv (.int .i64 1))), none, []⟩])
  (.block 4
   (.loop f215l5))))))))⟩
def f216 : AFunc := ⟨7, [.t 2],
 (.seq (.ops [
   ⟨some 2, .mv (.c .nils), none, []⟩])
  (.seq (.ops [
   ⟨some 3, .mv (.t 0), none, []⟩,
   ⟨some 4, .call 293 [(.t 3)], none, [0]⟩])
  (.seq (.ops [
   ⟨some 5, .mv (.t 0), none, []⟩,
   ⟨some 6, .call 281 [(.t 5)], none, [0]⟩,
   ⟨some 2, .mv (.t 6), none, [1, 1, 0, 1]⟩])
  .ret)))⟩
def f217 : AFunc := ⟨18, [.t 4],
 (.seq (.ops [
   ⟨some 2, .box (.t 0), none, []⟩,
   ⟨some 3, .box (.t 1), none, []⟩,
   ⟨some 4, .mv (.c (.pv .nili)), none, []⟩])
  (.seq (.seq (.ops [
   ⟨some 5, .fieldAddr 0 (.t 3), none, []⟩,
   ⟨some 6, .load false 1 (.t 5), none, [0]⟩,
   ⟨some 7, .bin .eql none (.t 6) (.c (.pv (.int .i64 4))), none, [1]⟩,
   ⟨some 8, .mv (.t 7), none, [2]⟩,
   ⟨some 9, .load true 3 (.t 2), some (8, true), [3]⟩,
   ⟨some 10, .fieldAddr 1 (.t 3), some (8, true), [3]⟩,
   ⟨some 11, .load false 1 (.t 10), some (8, true), [5, 3]⟩,
   ⟨some 12, .fieldAddr 3 (.t 3), some (8, true), [3]⟩,
   ⟨some 13, .load false 1 (.t 12), some (8, true), [7, 3]⟩,
   ⟨some 14, .call 218 [(.t 9), (.t 11), (.t 13)], some (8, true), [4, 6, 8, 3, 3]⟩,
   ⟨some 15, .not (.t 14), some (8, true), [9, 3]⟩,
   ⟨some 16, .pick (.t 8) (.t 15) (.c (.pv (.bool false))), none, [3, 10]⟩])
  (.cond (.t 16)
   (.seq (.ops [
     ⟨some 17, .mkI 0 (.c (.pv (.int .i64 14))), none, []⟩,
     ⟨some 4, .mv (.t 17), none, [0, 0]⟩])
    .ret)
   .skip))
  (.seq (.ops [
   ⟨some 4, .mv (.c (.pv .nili)), none, []⟩])
  .ret)))⟩
def f218 : AFunc := ⟨34, [.t 6],
 (.seq (.ops [
   ⟨some 3, .box (.t 0), none, []⟩,
   ⟨some 6, .mv (.c (.pv (.bool false))), none, []⟩])
  (.seq (.ops [
   ⟨some 12, .load true 3 (.t 3), none, []⟩,
   ⟨some 13, .mv (.t 1), none, []⟩,
   ⟨some 14, .call 240 [(.t 12), (.t 13)], none, [0, 1]⟩,
   ⟨some 11, .mv (.t 14), none, [2]⟩,
   ⟨some 15, .extract (.t 11) 0, none, [3]⟩,
   ⟨some 16, .extract (.t 11) 1, none, [3]⟩,
   ⟨some 7, .alloc [(.pv (.int .i64 0)), (.pv (.int .i64 0)), (.pv (.int .i64 0)), (.pv (.int .u64 0)), (.pv (.int .u64 0)), (.pv (.int .u64 0)), (.pv (.int .u64 0)), (.pv (.int .i64 0))], none, []⟩,
   ⟨none, .store 8 (.t 7) (.t 15), none, [6, 4, 2, 0, 1, 2, 3, 4, 6]⟩,
   ⟨some 8, .mv (.t 16), none, [5, 7, 0, 1, 2, 3, 4, 5, 6, 7]⟩])
  (.seq (.ops [
   ⟨some 18, .load true 3 (.t 3), none, []⟩,
   ⟨some 19, .mv (.t 2), none, []⟩,
   ⟨some 20, .call 240 [(.t 18), (.t 19)], none, [0, 1]⟩,
   ⟨some 17, .mv (.t 20), none, [2]⟩,
   ⟨some 21, .extract (.t 17) 0, none, [3]⟩,
   ⟨some 22, .extract (.t 17) 1, none, [3]⟩,
   ⟨some 9, .alloc [(.pv (.int .i64 0)), (.pv (.int .i64 0)), (.pv (.int .i64 0)), (.pv (.int .u64 0)), (.pv (.int .u64 0)), (.pv (.int .u64 0)), (.pv (.int .u64 0)), (.pv (.int .i64 0))], none, []⟩,
   ⟨none, .store 8 (.t 9) (.t 21), none, [6, 4, 2, 0, 1, 2, 3, 4, 6]⟩,
   ⟨some 10, .mv (.t 22), none, [5, 7, 0, 1, 2, 3, 4, 5, 6, 7]⟩])
  (.seq (.ops [
   ⟨some 23, .mv (.t 8), none, []⟩,
   ⟨some 24, .mv (.t 23), none, [0]⟩,
   ⟨some 25, .mv (.t 10), some (24, true), [1]⟩,
   ⟨some 26, .pick (.t 24) (.t 25) (.c (.pv (.bool false))), none, [1, 2]⟩,
   ⟨some 27, .mv (.t 26), none, [3, 1]⟩,
   ⟨some 28, .fieldAddr 2 (.t 9), some (27, true), [4]⟩,
   ⟨some 29, .load false 1 (.t 28), some (27, true), [5, 4]⟩,
   ⟨some 30, .fieldAddr 2 (.t 7), some (27, true), [4]⟩,
   ⟨some 31, .load false 1 (.t 30), some (27, true), [7, 4]⟩,
   ⟨some 32, .bin .lss none (.t 29) (.t 31), some (27, true), [6, 8, 4]⟩,
   ⟨some 33, .pick (.t 27) (.t 32) (.c (.pv (.bool false))), none, [4, 9]⟩,
   ⟨some 6, .mv (.t 33), none, [10, 4, 0, 1, 2, 3, 4, 5, 6, 7, 8, 9, 10]⟩])
  .ret))))⟩
def f246 : AFunc := ⟨43, [.cell 8 true 3, .t 9],
 (.seq (.ops [
   ⟨some 4, .box (.t 0), none, []⟩,
   ⟨some 5, .box (.t 1), none, []⟩,
   ⟨some 6, .box (.t 2), none, []⟩,
   ⟨some 7, .box (.t 3), none, []⟩,
   ⟨some 8, .alloc [.nils, (.pv (.int .i64 0)), (.pv (.int .i64 0))], none, []⟩,
   ⟨some 9, .mv (.c (.pv .nili)), none, []⟩])
  (.seq (.ops [
   ⟨some 15, .load true 3 (.t 4), none, []⟩,
   ⟨some 16, .load true 3 (.t 5), none, []⟩,
   ⟨some 17, .load true 3 (.t 6), none, []⟩,
   ⟨some 18, .load true 4 (.t 7), none, []⟩,
   ⟨some 19, .call 239 [(.t 15), (.t 16), (.t 17), (.t 18)], none, [0, 1, 2, 3]⟩,
   ⟨some 14, .mv (.t 19), none, [4]⟩,
   ⟨some 20, .extract (.t 14) 0, none, [5]⟩,
   ⟨some 21, .extract (.t 14) 1, none, [5]⟩,
   ⟨some 10, .alloc [.nils, (.pv (.int .i64 0)), (.pv (.int .i64 0))], none, []⟩,
   ⟨none, .store 3 (.t 10) (.t 20), none, [8, 6, 4, 0, 1, 2, 3, 4, 5, 6, 8]⟩,
   ⟨some 11, .mv (.t 21), none, [7, 9, 0, 1, 2, 3, 4, 5, 6, 7, 8, 9]⟩])
  (.seq (.seq (.ops [
   ⟨some 22, .mv (.t 11), none, []⟩,
   ⟨some 23, .bin .neq (some (.iface true)) (.t 22) (.c (.pv .nili)), none, [0]⟩])
  (.cond (.t 23)
   (.seq (.ops [
     ⟨some 24, .build [.nils, (.pv (.int .i64 0)), (.pv (.int .i64 0))] [], none, []⟩,
     ⟨some 25, .mv (.t 11), none, []⟩,
     ⟨none, .store 3 (.t 8) (.t 24), none, [0, 0]⟩,
     ⟨some 9, .mv (.t 25), none, [1, 2, 0, 1, 2]⟩])
    .ret)
   .skip))
  (.seq (.seq (.ops [
   ⟨some 26, .load true 3 (.t 6), none, []⟩,
   ⟨some 27, .load true 4 (.t 7), none, []⟩,
   ⟨some 28, .call 217 [(.t 26), (.t 27)], none, [0, 1]⟩,
   ⟨some 12, .mv (.t 28), none, [2, 2, 0, 1, 2]⟩])
  (.seq (.ops [
   ⟨some 29, .mv (.t 12), none, []⟩,
   ⟨some 30, .bin .neq (some (.iface true)) (.t 29) (.c (.pv .nili)), none, [0]⟩])
  (.cond (.t 30)
   (.seq (.ops [
     ⟨some 31, .build [.nils, (.pv (.int .i64 0)), (.pv (.int .i64 0))] [], none, []⟩,
     ⟨some 32, .mv (.t 12), none, []⟩,
     ⟨none, .store 3 (.t 8) (.t 31), none, [0, 0]⟩,
     ⟨some 9, .mv (.t 32), none, [1, 2, 0, 1, 2]⟩])
    .ret)
   .skip)))
  (.seq (.seq (.ops [
   ⟨some 33, .load true 3 (.t 4), none, []⟩,
   ⟨some 34, .load true 3 (.t 5), none, []⟩,
   ⟨some 35, .load true 3 (.t 10), none, []⟩,
   ⟨some 36, .call 223 [(.t 33), (.t 34), (.t 35)], none, [0, 1, 2]⟩,
   ⟨some 13, .mv (.t 36), none, [3, 3, 0, 1, 2, 3]⟩])
  (.seq (.ops [
   ⟨some 37, .mv (.t 13), none, []⟩,
   ⟨some 38, .bin .neq (some (.iface true)) (.t 37) (.c (.pv .nili)), none, [0]⟩])
  (.cond (.t 38)
   (.seq (.ops [
     ⟨some 39, .build [.nils, (.pv (.int .i64 0)), (.pv (.int .i64 0))] [], none, []⟩,
     ⟨some 40, .mv (.t 13), none, []⟩,
     ⟨some 41, .call 248 [(.t 40)], none, [1]⟩,
     ⟨none, .store 3 (.t 8) (.t 39), none, [0, 2, 0]⟩,
     ⟨some 9, .mv (.t 41), none, [2, 3, 0, 1, 2, 3]⟩])
    .ret)
   .skip)))
  (.seq (.ops [
   ⟨some 42, .load true 3 (.t 10), none, []⟩,
   ⟨none, .store 3 (.t 8) (.t 42), none, [0, 0]⟩,
   ⟨some 9, .mv (.c (.pv .nili)), none, [1, 0, 1]⟩])
  .ret))))))⟩
def f247l0 : ACode :=
 (.seq (.ops [
   ⟨some 37, .bin .lss none (.t 36) (.t 35), none, []⟩])
  (.seq (.cond (.t 37)
   .skip
   (.exit 0))
  (.seq (.block 1
   (.seq (.ops [
     ⟨some 38, .mv (.t 36), none, []⟩,
     ⟨some 39, .idxAddr 4 (.t 34) (.t 36), none, []⟩,
     ⟨some 40, .load true 4 (.t 39), none, [1]⟩,
     ⟨some 13, .alloc [(.pv (.int .i64 0)), (.pv (.int .i64 0)), (.pv (.int .i64 0)), (.pv (.int .i64 0))], none, []⟩,
     ⟨some 12, .mv (.t 38), none, [0, 0, 1, 2, 3]⟩,
     ⟨none, .store 4 (.t 13) (.t 40), none, [3, 2, 4, 0, 1, 2, 3, 4]⟩])
    (.seq (.ops [
     ⟨some 42, .load true 3 (.t 3), none, []⟩,
     ⟨some 43, .load true 3 (.t 4), none, []⟩,
     ⟨some 44, .load true 3 (.t 10), none, []⟩,
     ⟨some 45, .load true 4 (.t 13), none, []⟩,
     ⟨some 46, .call 246 [(.t 42), (.t 43), (.t 44), (.t 45)], none, [0, 1, 2, 3]⟩,
     ⟨some 41, .mv (.t 46), none, [4]⟩,
     ⟨some 47, .extract (.t 41) 0, none, [5]⟩,
     ⟨some 48, .extract (.t 41) 1, none, [5]⟩,
     ⟨some 14, .alloc [.nils, (.pv (.int .i64 0)), (.pv (.int .i64 0))], none, []⟩,
     ⟨none, .store 3 (.t 14) (.t 47), none, [8, 6, 4, 0, 1, 2, 3, 4, 5, 6, 8]⟩,
     ⟨some 15, .mv (.t 48), none, [7, 9, 0, 1, 2, 3, 4, 5, 6, 7, 8, 9]⟩])
    (.seq (.seq (.ops [
     ⟨some 49, .mv (.t 15), none, []⟩,
     ⟨some 50, .bin .neq (some (.iface true)) (.t 49) (.c (.pv .nili)), none, [0]⟩])
    (.cond (.t 50)
     (.seq (.ops [
       ⟨some 51, .load true 3 (.t 10), none, []⟩,
       ⟨some 52, .mv (.t 12), none, []⟩,
       ⟨some 53, .mv (.t 15), none, []⟩,
       ⟨none, .store 3 (.t 6) (.t 51), none, [0, 0]⟩,
       ⟨some 7, .mv (.t 52), none, [1, 3, 0, 1, 3]⟩,
       ⟨some 8, .mv (.t 53), none, [2, 4, 0, 1, 2, 3, 4]⟩])
      .ret)
     .skip))
    (.ops [
     ⟨some 54, .load true 3 (.t 14), none, []⟩,
     ⟨none, .store 3 (.t 10) (.t 54), none, [0, 0]⟩])))))
  (.ops [
   ⟨some 55, .bin .add none (.t 36) (.c (.pv (.int .i64 1))), none, []⟩,
   ⟨some 36, .mv (.t 55), none, [0]⟩]))))
def f247 : AFunc := ⟨59, [.cell 6 true 3, .t 7, .t 8],
 (.seq (.ops [
   ⟨some 3, .box (.t 0), none, []⟩,
   ⟨some 4, .box (.t 1), none, []⟩,
   ⟨some 6, .alloc [.nils, (.pv (.int .i64 0)), (.pv (.int .i64 0))], none, []⟩,
   ⟨some 7, .mv (.c (.pv (.int .i64 0))), none, []⟩,
   ⟨some 8, .mv (.c (.pv .nili)), none, [3]⟩])
  (.seq (.seq (.ops [
   ⟨some 16, .load true 3 (.t 3), none, []⟩,
   ⟨some 17, .load true 3 (.t 4), none, []⟩,
   ⟨some 18, .call 80 [(.t 16), (.t 17)], none, [0, 1]⟩,
   ⟨some 9, .mv (.t 18), none, [2, 2, 0, 1, 2]⟩])
  (.seq (.ops [
   ⟨some 19, .mv (.t 9), none, []⟩,
   ⟨some 20, .bin .neq (some (.iface true)) (.t 19) (.c (.pv .nili)), none, [0]⟩])
  (.cond (.t 20)
   (.seq (.ops [
     ⟨some 21, .build [.nils, (.pv (.int .i64 0)), (.pv (.int .i64 0))] [], none, []⟩,
     ⟨some 22, .mv (.t 9), none, []⟩,
     ⟨none, .store 3 (.t 6) (.t 21), none, [0, 0]⟩,
     ⟨some 7, .mv (.c (.pv (.int .i64 0))), none, [2, 0, 2]⟩,
     ⟨some 8, .mv (.t 22), none, [1, 3, 0, 1, 2, 3]⟩])
    .ret)
   .skip)))
  (.seq (.ops [
   ⟨some 23, .load true 3 (.t 3), none, []⟩,
   ⟨some 24, .call 237 [(.t 23)], none, [0]⟩,
   ⟨some 10, .alloc [.nils, (.pv (.int .i64 0)), (.pv (.int .i64 0))], none, []⟩,
   ⟨none, .store 3 (.t 10) (.t 24), none, [2, 1, 1, 0, 1, 2]⟩])
  (.seq (.seq (.ops [
   ⟨some 25, .load true 3 (.t 3), none, []⟩,
   ⟨some 26, .load true 3 (.t 4), none, []⟩,
   ⟨some 27, .load true 3 (.t 10), none, []⟩,
   ⟨some 28, .call 223 [(.t 25), (.t 26), (.t 27)], none, [0, 1, 2]⟩,
   ⟨some 11, .mv (.t 28), none, [3, 3, 0, 1, 2, 3]⟩])
  (.seq (.ops [
   ⟨some 29, .mv (.t 11), none, []⟩,
   ⟨some 30, .bin .neq (some (.iface true)) (.t 29) (.c (.pv .nili)), none, [0]⟩])
  (.cond (.t 30)
   (.seq (.ops [
     ⟨some 31, .build [.nils, (.pv (.int .i64 0)), (.pv (.int .i64 0))] [], none, []⟩,
     ⟨some 32, .mv (.t 11), none, []⟩,
     ⟨some 33, .call 248 [(.t 32)], none, [1]⟩,
     ⟨none, .store 3 (.t 6) (.t 31), none, [0, 2, 0]⟩,
     ⟨some 7, .mv (.c (.pv (.int .i64 0))), none, [3, 0, 3]⟩,
     ⟨some 8, .mv (.t 33), none, [2, 4, 0, 1, 2, 3, 4]⟩])
    .ret)
   .skip)))
  (.seq (.seq (.ops [
   ⟨some 34, .mv (.t 2), none, []⟩,
   ⟨some 35, .len (.t 34), none, [0]⟩,
   ⟨some 36, .mv (.c (.pv (.int .i64 0))), none, []⟩])
  (.block 0
   (.loop f247l0)))
  (.seq (.ops [
   ⟨some 56, .load true 3 (.t 10), none, []⟩,
   ⟨some 57, .mv (.t 2), none, []⟩,
   ⟨some 58, .len (.t 57), none, [1]⟩,
   ⟨none, .store 3 (.t 6) (.t 56), none, [0, 0]⟩,
   ⟨some 7, .mv (.t 58), none, [2, 3, 0, 1, 2, 3]⟩,
   ⟨some 8, .mv (.c (.pv .nili)), none, [4, 0, 1, 2, 3, 4]⟩])
  .ret))))))⟩
def f248 : AFunc := ⟨9, [.t 2],
 (.seq (.ops [
   ⟨some 2, .mv (.c (.pv .nili)), none, []⟩])
  (.seq (.ops [
   ⟨some 3, .alloc [(.pv (.int .i64 0))], none, []⟩])
  (.seq (.seq (.ops [
   ⟨some 4, .mv (.t 0), none, []⟩,
   ⟨some 5, .mkI 3 (.t 3), none, []⟩,
   ⟨some 6, .call 266 [(.t 4), (.t 5)], none, [0, 1]⟩])
  (.cond (.t 6)
   (.seq (.ops [
     ⟨some 7, .load false 1 (.t 3), none, []⟩,
     ⟨some 8, .mkI 0 (.t 7), none, [0]⟩,
     ⟨some 2, .mv (.t 8), none, [1, 0, 1]⟩])
    .ret)
   .skip))
  (.seq (.ops [
   ⟨some 2, .mv (.c (.pv .nili)), none, []⟩])
  .ret))))⟩
end Go.Proofs.YtlfphlobcopemaaGreatDoor.Ab
set_option linter.unusedVariables false
set_option linter.unusedSimpArgs false
namespace Go.Proofs.YtlfphlobcopemaaGreatDoor.Ab
open Go
/-! ### Code, of any -/
section
variable {T : Tab}
theorem code_loop_out (c : Int) (hc : ¬ (1 ≤ c ∧ c ≤ 17)) (Q : Exit → St → Prop) (hend : ∀ fr hp nx, Q (.exit 0) ⟨fr, hp, nx⟩) :
    ∀ (k : Nat) (i : Int), i + k = 18 → 1 ≤ i → ∀ (fr : List (Nat × AV)) (hp : Hl) (nx : Nat), look fr 0 = .pv (.iface 0 (.int .i64 c)) → look fr 3 = .pv (.int .i64 i) → Wp T false (.loop f102l0) ⟨fr, hp, nx⟩ Q := by
  intro k
  induction k with
  | zero =>
    intro i hi h1 fr hp nx g0 g3
    have hle : ¬ i ≤ 17 := by omega
    rw [Wp_loop, Wp_eq f102l0.eq_1]
    simp only [runL, opQ, evOp, evO, evOs, guardV, argsA, pvs, putS, cellsOf, scals, scal, Nat.reduceEqDiff, Nat.reduceAdd, reduceCtorEq, fieldA, nonNil, cellsAt, mkAgg, allPV, storeB, patchL, Int.reduceToNat, Nat.reduceMul, Nat.reduceLT, stepA, Int.reduceNeg, Int.reduceLE, Int.reduceLT, Int.reduceEq, extractV, mkAgg, Nat.reduceLeDiff, fillA, pureVs, pureV, eqV, eqB, lenV.eq_1, lenV.eq_2, lenV.eq_3, lenV.eq_4, binV, intBin, intV, idxA, List.drop, List.take, RetP, retP, resV, resOne, snapV, snapVs, snapR, snapRs, ownSz, pickV, AO.isC, opE, opD, funV.eq_1, funV.eq_2, g0, g3, hle]
    exact hend _ _ _
  | succ k ih =>
    intro i hi h1 fr hp nx g0 g3
    have hle : i ≤ 17 := by omega
    have hne : ¬ c = i := by omega
    have hw : IntKind.i64.wrap (i + 1) = i + 1 := by rw [wrap6] <;> omega
    rw [Wp_loop, Wp_eq f102l0.eq_1]
    simp only [runL, opQ, evOp, evO, evOs, guardV, argsA, pvs, putS, cellsOf, scals, scal, Nat.reduceEqDiff, Nat.reduceAdd, reduceCtorEq, fieldA, nonNil, cellsAt, mkAgg, allPV, storeB, patchL, Int.reduceToNat, Nat.reduceMul, Nat.reduceLT, stepA, Int.reduceNeg, Int.reduceLE, Int.reduceLT, Int.reduceEq, extractV, mkAgg, Nat.reduceLeDiff, fillA, pureVs, pureV, eqV, eqB, lenV.eq_1, lenV.eq_2, lenV.eq_3, lenV.eq_4, binV, intBin, intV, idxA, List.drop, List.take, RetP, retP, resV, resOne, snapV, snapVs, snapR, snapRs, ownSz, pickV, AO.isC, opE, opD, funV.eq_1, funV.eq_2, g0, g3, hle, hne, hw]
    refine ih (i + 1) (by omega) (by omega) _ _ _ ?_ ?_
    all_goals try simp only [look_if, blkAt_if, Nat.reduceEqDiff, if_true, if_false, g0]
def codeV (r : PV) : Int := match r with
  | .iface 0 (.int _ c) => if 1 ≤ c ∧ c ≤ 17 then c else -1
  | _ => 0
theorem code_any (h102 : Std T 102 f102) (c : Int) : Gives T 102 [codeE c] (.int .i64 (codeV (codeE c))) := by
  unfold codeV codeE
  by_cases h : 1 ≤ c ∧ c ≤ 17
  · simp only [if_pos h]
    exact code_code h102 c h.1 h.2
  · simp only [if_neg h]
    refine gives h102 rfl ?_
    simp only [f102, runL, opQ, evOp, evO, evOs, guardV, argsA, pvs, putS, cellsOf, scals, scal, Nat.reduceEqDiff, Nat.reduceAdd, reduceCtorEq, fieldA, nonNil, cellsAt, mkAgg, allPV, storeB, patchL, Int.reduceToNat, Nat.reduceMul, Nat.reduceLT, stepA, Int.reduceNeg, Int.reduceLE, Int.reduceLT, Int.reduceEq, extractV, mkAgg, Nat.reduceLeDiff, fillA, pureVs, pureV, eqV, eqB, lenV.eq_1, lenV.eq_2, lenV.eq_3, lenV.eq_4, binV, intBin, intV, idxA, List.drop, List.take, RetP, retP, resV, resOne, snapV, snapVs, snapR, snapRs, ownSz, pickV, AO.isC, opE, opD, funV.eq_1, funV.eq_2]
    refine code_loop_out c h _ (fun fr hp nx => ?_) 17 1 (by omega) (by omega) _ _ _ rfl rfl
    simp only [runL, opQ, evOp, evO, evOs, guardV, argsA, pvs, putS, cellsOf, scals, scal, Nat.reduceEqDiff, Nat.reduceAdd, reduceCtorEq, fieldA, nonNil, cellsAt, mkAgg, allPV, storeB, patchL, Int.reduceToNat, Nat.reduceMul, Nat.reduceLT, stepA, Int.reduceNeg, Int.reduceLE, Int.reduceLT, Int.reduceEq, extractV, mkAgg, Nat.reduceLeDiff, fillA, pureVs, pureV, eqV, eqB, lenV.eq_1, lenV.eq_2, lenV.eq_3, lenV.eq_4, binV, intBin, intV, idxA, List.drop, List.take, RetP, retP, resV, resOne, snapV, snapVs, snapR, snapRs, ownSz, pickV, AO.isC, opE, opD, funV.eq_1, funV.eq_2]
/-! ### May, Check -/
def mayB (t : State) (a b : Int) : Bool := match podOf a t.pods, podOf b t.pods with
  | some p, some q => decide (q.prio < p.prio)
  | _, _ => false
def prioB (t : State) (m : Move) : Bool := if m.kind = 4 then mayB t m.pod m.over else true
structure Std12 (T : Tab) : Prop where
  s11 : Std11 T
  m : StdM T
  h217 : Std T 217 f217
  h218 : Std T 218 f218
  h240 : Std T 240 f240
  h246 : Std T 246 f246
  h248 : Std T 248 f248
theorem may_ok (S : Std12 T) (t : State) (a b : Int) (hl : t.pods.length ≤ 2 ^ 29) : Gives T 218 [stateP t, .int .i64 a, .int .i64 b] (.bool (mayB t a b)) := by
  have k1 := pod5_ok S.m.s5 S.h240 t a (by omega)
  have k2 := pod5_ok S.m.s5 S.h240 t b (by omega)
  simp only [stateP] at k1 k2
  refine gives S.h218 rfl ?_
  unfold mayB
  cases h1 : podOf a t.pods with
  | none =>
    rw [h1] at k1
    simp only [podR, podP, podC, pod0] at k1
    cases h2 : podOf b t.pods with
    | none =>
      rw [h2] at k2
      simp only [podR, podP, podC, pod0] at k2
      simp only [f218, runL, opQ, evOp, evO, evOs, guardV, argsA, pvs, putS, cellsOf, scals, scal, Nat.reduceEqDiff, Nat.reduceAdd, reduceCtorEq, fieldA, nonNil, cellsAt, mkAgg, allPV, storeB, patchL, Int.reduceToNat, Nat.reduceMul, Nat.reduceLT, stepA, Int.reduceNeg, Int.reduceLE, Int.reduceLT, Int.reduceEq, extractV, mkAgg, Nat.reduceLeDiff, fillA, pureVs, pureV, eqV, eqB, lenV.eq_1, lenV.eq_2, lenV.eq_3, lenV.eq_4, binV, intBin, intV, idxA, List.drop, List.take, RetP, retP, resV, resOne, snapV, snapVs, snapR, snapRs, ownSz, pickV, AO.isC, opE, opD, funV.eq_1, funV.eq_2, stateP, k1.call, k2.call]
    | some q =>
      rw [h2] at k2
      simp only [podR, podP, podC] at k2
      simp only [f218, runL, opQ, evOp, evO, evOs, guardV, argsA, pvs, putS, cellsOf, scals, scal, Nat.reduceEqDiff, Nat.reduceAdd, reduceCtorEq, fieldA, nonNil, cellsAt, mkAgg, allPV, storeB, patchL, Int.reduceToNat, Nat.reduceMul, Nat.reduceLT, stepA, Int.reduceNeg, Int.reduceLE, Int.reduceLT, Int.reduceEq, extractV, mkAgg, Nat.reduceLeDiff, fillA, pureVs, pureV, eqV, eqB, lenV.eq_1, lenV.eq_2, lenV.eq_3, lenV.eq_4, binV, intBin, intV, idxA, List.drop, List.take, RetP, retP, resV, resOne, snapV, snapVs, snapR, snapRs, ownSz, pickV, AO.isC, opE, opD, funV.eq_1, funV.eq_2, stateP, k1.call, k2.call]
  | some p =>
    rw [h1] at k1
    simp only [podR, podP, podC] at k1
    cases h2 : podOf b t.pods with
    | none =>
      rw [h2] at k2
      simp only [podR, podP, podC, pod0] at k2
      simp only [f218, runL, opQ, evOp, evO, evOs, guardV, argsA, pvs, putS, cellsOf, scals, scal, Nat.reduceEqDiff, Nat.reduceAdd, reduceCtorEq, fieldA, nonNil, cellsAt, mkAgg, allPV, storeB, patchL, Int.reduceToNat, Nat.reduceMul, Nat.reduceLT, stepA, Int.reduceNeg, Int.reduceLE, Int.reduceLT, Int.reduceEq, extractV, mkAgg, Nat.reduceLeDiff, fillA, pureVs, pureV, eqV, eqB, lenV.eq_1, lenV.eq_2, lenV.eq_3, lenV.eq_4, binV, intBin, intV, idxA, List.drop, List.take, RetP, retP, resV, resOne, snapV, snapVs, snapR, snapRs, ownSz, pickV, AO.isC, opE, opD, funV.eq_1, funV.eq_2, stateP, k1.call, k2.call]
    | some q =>
      rw [h2] at k2
      simp only [podR, podP, podC] at k2
      simp only [f218, runL, opQ, evOp, evO, evOs, guardV, argsA, pvs, putS, cellsOf, scals, scal, Nat.reduceEqDiff, Nat.reduceAdd, reduceCtorEq, fieldA, nonNil, cellsAt, mkAgg, allPV, storeB, patchL, Int.reduceToNat, Nat.reduceMul, Nat.reduceLT, stepA, Int.reduceNeg, Int.reduceLE, Int.reduceLT, Int.reduceEq, extractV, mkAgg, Nat.reduceLeDiff, fillA, pureVs, pureV, eqV, eqB, lenV.eq_1, lenV.eq_2, lenV.eq_3, lenV.eq_4, binV, intBin, intV, idxA, List.drop, List.take, RetP, retP, resV, resOne, snapV, snapVs, snapR, snapRs, ownSz, pickV, AO.isC, opE, opD, funV.eq_1, funV.eq_2, stateP, k1.call, k2.call]
theorem prior_ok (S : Std12 T) (t : State) (m : Move) (hl : t.pods.length ≤ 2 ^ 29) : Gives T 217 [stateP t, moveP m] (cond (prioB t m) .nili (codeE 14)) := by
  have k := may_ok S t m.pod m.over hl
  simp only [stateP] at k
  refine gives S.h217 rfl ?_
  unfold prioB
  by_cases h : m.kind = 4
  · have d := decide_eq_true h
    rw [if_pos h]
    cases hm : mayB t m.pod m.over <;> rw [hm] at k <;>
    simp only [f217, runL, opQ, evOp, evO, evOs, guardV, argsA, pvs, putS, cellsOf, scals, scal, Nat.reduceEqDiff, Nat.reduceAdd, reduceCtorEq, fieldA, nonNil, cellsAt, mkAgg, allPV, storeB, patchL, Int.reduceToNat, Nat.reduceMul, Nat.reduceLT, stepA, Int.reduceNeg, Int.reduceLE, Int.reduceLT, Int.reduceEq, extractV, mkAgg, Nat.reduceLeDiff, fillA, pureVs, pureV, eqV, eqB, lenV.eq_1, lenV.eq_2, lenV.eq_3, lenV.eq_4, binV, intBin, intV, idxA, List.drop, List.take, RetP, retP, resV, resOne, snapV, snapVs, snapR, snapRs, ownSz, pickV, AO.isC, opE, opD, funV.eq_1, funV.eq_2, stateP, moveP, moveC, k.call, d, codeE]
  · rw [if_neg h]
    simp only [f217, runL, opQ, evOp, evO, evOs, guardV, argsA, pvs, putS, cellsOf, scals, scal, Nat.reduceEqDiff, Nat.reduceAdd, reduceCtorEq, fieldA, nonNil, cellsAt, mkAgg, allPV, storeB, patchL, Int.reduceToNat, Nat.reduceMul, Nat.reduceLT, stepA, Int.reduceNeg, Int.reduceLE, Int.reduceLT, Int.reduceEq, extractV, mkAgg, Nat.reduceLeDiff, fillA, pureVs, pureV, eqV, eqB, lenV.eq_1, lenV.eq_2, lenV.eq_3, lenV.eq_4, binV, intBin, intV, idxA, List.drop, List.take, RetP, retP, resV, resOne, snapV, snapVs, snapR, snapRs, ownSz, pickV, AO.isC, opE, opD, funV.eq_1, funV.eq_2, stateP, moveP, moveC, h]
/-! ### alone -/
def aloneP (r : PV) : PV := if isNilP r = true then .nili else codeE (codeNo r)
theorem alone_ok (S : Std12 T) {r : PV} (hr : ErrV r) : Gives T 248 [r] (aloneP r) := by
  refine gives S.h248 rfl ?_
  have A := S.s11.h266
  rcases hr with rfl | ⟨a, n, rfl⟩ | ⟨n, rfl⟩
  · simp only [f248, runL, opQ, evOp, evO, evOs, guardV, argsA, pvs, putS, cellsOf, scals, scal, Nat.reduceEqDiff, Nat.reduceAdd, reduceCtorEq, fieldA, nonNil, cellsAt, mkAgg, allPV, storeB, patchL, Int.reduceToNat, Nat.reduceMul, Nat.reduceLT, stepA, Int.reduceNeg, Int.reduceLE, Int.reduceLT, Int.reduceEq, extractV, mkAgg, Nat.reduceLeDiff, fillA, pureVs, pureV, eqV, eqB, lenV.eq_1, lenV.eq_2, lenV.eq_3, lenV.eq_4, binV, intBin, intV, idxA, List.drop, List.take, RetP, retP, resV, resOne, snapV, snapVs, snapR, snapRs, ownSz, pickV, AO.isC, opE, opD, funV.eq_1, funV.eq_2, as_nilQ A, aloneP, isNilP]
  · simp only [f248, runL, opQ, evOp, evO, evOs, guardV, argsA, pvs, putS, cellsOf, scals, scal, Nat.reduceEqDiff, Nat.reduceAdd, reduceCtorEq, fieldA, nonNil, cellsAt, mkAgg, allPV, storeB, patchL, Int.reduceToNat, Nat.reduceMul, Nat.reduceLT, stepA, Int.reduceNeg, Int.reduceLE, Int.reduceLT, Int.reduceEq, extractV, mkAgg, Nat.reduceLeDiff, fillA, pureVs, pureV, eqV, eqB, lenV.eq_1, lenV.eq_2, lenV.eq_3, lenV.eq_4, binV, intBin, intV, idxA, List.drop, List.take, RetP, retP, resV, resOne, snapV, snapVs, snapR, snapRs, ownSz, pickV, AO.isC, opE, opD, funV.eq_1, funV.eq_2, spotE]
    rw [as_spotQ A (o := 0) (by simp only [blkAt_if, if_true])]
    simp only [runL, opQ, evOp, evO, evOs, guardV, argsA, pvs, putS, cellsOf, scals, scal, Nat.reduceEqDiff, Nat.reduceAdd, reduceCtorEq, fieldA, nonNil, cellsAt, mkAgg, allPV, storeB, patchL, Int.reduceToNat, Nat.reduceMul, Nat.reduceLT, stepA, Int.reduceNeg, Int.reduceLE, Int.reduceLT, Int.reduceEq, extractV, mkAgg, Nat.reduceLeDiff, fillA, pureVs, pureV, eqV, eqB, lenV.eq_1, lenV.eq_2, lenV.eq_3, lenV.eq_4, binV, intBin, intV, idxA, List.drop, List.take, RetP, retP, resV, resOne, snapV, snapVs, snapR, snapRs, ownSz, pickV, AO.isC, opE, opD, funV.eq_1, funV.eq_2, aloneP, isNilP, codeE, codeNo, codesOf, List.headD_cons, Bool.false_eq_true]
  · simp only [f248, runL, opQ, evOp, evO, evOs, guardV, argsA, pvs, putS, cellsOf, scals, scal, Nat.reduceEqDiff, Nat.reduceAdd, reduceCtorEq, fieldA, nonNil, cellsAt, mkAgg, allPV, storeB, patchL, Int.reduceToNat, Nat.reduceMul, Nat.reduceLT, stepA, Int.reduceNeg, Int.reduceLE, Int.reduceLT, Int.reduceEq, extractV, mkAgg, Nat.reduceLeDiff, fillA, pureVs, pureV, eqV, eqB, lenV.eq_1, lenV.eq_2, lenV.eq_3, lenV.eq_4, binV, intBin, intV, idxA, List.drop, List.take, RetP, retP, resV, resOne, snapV, snapVs, snapR, snapRs, ownSz, pickV, AO.isC, opE, opD, funV.eq_1, funV.eq_2, codeE]
    rw [as_codeQ A (o := 0) (by simp only [blkAt_if, if_true])]
    simp only [runL, opQ, evOp, evO, evOs, guardV, argsA, pvs, putS, cellsOf, scals, scal, Nat.reduceEqDiff, Nat.reduceAdd, reduceCtorEq, fieldA, nonNil, cellsAt, mkAgg, allPV, storeB, patchL, Int.reduceToNat, Nat.reduceMul, Nat.reduceLT, stepA, Int.reduceNeg, Int.reduceLE, Int.reduceLT, Int.reduceEq, extractV, mkAgg, Nat.reduceLeDiff, fillA, pureVs, pureV, eqV, eqB, lenV.eq_1, lenV.eq_2, lenV.eq_3, lenV.eq_4, binV, intBin, intV, idxA, List.drop, List.take, RetP, retP, resV, resOne, snapV, snapVs, snapR, snapRs, ownSz, pickV, AO.isC, opE, opD, funV.eq_1, funV.eq_2, aloneP, isNilP, codeE, codeNo, codesOf, List.headD_cons, Bool.false_eq_true]
/-! ### Do -/
def doS (s : Snap) (x : Spec) (t : State) (m : Move) : Int ⊕ State := match makeS s x t m with
  | .inl c => .inl c
  | .inr u => if prioB t m = true then (if isNilP (whyP s x u) = true then .inr u else .inl (codeNo (whyP s x u))) else .inl 14
theorem pod_set_wf {l : List Pod} {i : Nat} {q : Pod} (h : ∀ p ∈ l, p.wf) (hq : q.wf) : ∀ p ∈ l.set i q, p.wf := by
  intro p hp
  rcases List.mem_or_eq_of_mem_set hp with h1 | rfl
  · exact h p h1
  · exact hq
theorem come_wf {x : Spec} {p : Pod} {n : Int} (hx : ∀ w ∈ x.wants, w.wf) (hp : p.wf) (hn : inI n) : (comeS x p n).wf := by
  unfold comeS
  obtain ⟨a, b, c, d, e⟩ := hp
  split
  · rename_i w hw
    have hm : w ∈ x.wants := List.mem_of_find?_eq_some hw
    split
    · exact ⟨a, b, c, (hx w hm).2, hn⟩
    · exact ⟨a, b, c, d, hn⟩
  · exact ⟨a, b, c, d, hn⟩
theorem off_wf {p : Pod} (hp : p.wf) : ({ p with node := 0 } : Pod).wf := by
  obtain ⟨a, b, c, d, e⟩ := hp
  refine ⟨a, b, c, d, ?_⟩
  unfold inI
  simp only
  omega
theorem make_wf {s : Snap} {x : Spec} {t u : State} {m : Move} (hx : ∀ w ∈ x.wants, w.wf) (ht : ∀ p ∈ t.pods, p.wf) (hm : m.wf) (h : makeS s x t m = .inr u) : ∀ p ∈ u.pods, p.wf := by
  unfold makeS at h
  split at h
  · simp at h
  · split at h
    · simp at h
    · split at h
      · simp at h
      · split at h
        · simp at h
        · split at h
          · simp at h
          · rename_i p hp
            have hpm : p ∈ t.pods := List.mem_of_getElem? hp
            by_cases k2 : m.kind = 2
            · rw [if_pos k2] at h
              split at h
              · simp at h
              · simp only [Sum.inr.injEq] at h
                subst h
                exact pod_set_wf ht (off_wf (ht p hpm))
            · rw [if_neg k2] at h
              split at h
              · split at h
                · simp at h
                · split at h
                  · simp at h
                  · simp only [Sum.inr.injEq] at h
                    subst h
                    exact pod_set_wf ht (come_wf hx (ht p hpm) hm.2.2.1)
              · split at h
                · split at h
                  · simp at h
                  · rename_i q hq
                    have hqm : q ∈ t.pods := List.mem_of_getElem? hq
                    split at h
                    · simp at h
                    · split at h
                      · simp at h
                      · split at h
                        · simp at h
                        · simp only [Sum.inr.injEq] at h
                          subst h
                          exact pod_set_wf (pod_set_wf ht (off_wf (ht q hqm))) (come_wf hx (ht p hpm) hm.2.2.1)
                · split at h
                  · simp at h
                  · simp only [Sum.inr.injEq] at h
                    subst h
                    exact pod_set_wf ht (come_wf hx (ht p hpm) hm.2.2.1)
theorem do_ok (S : Std12 T) (s : Snap) (x : Spec) (t : State) (m : Move) (hn : s.nodes.length ≤ 2 ^ 29) (hll : s.loads.length ≤ 2 ^ 29) (hxl : x.wants.length ≤ 2 ^ 29) (hl : t.pods.length ≤ 2 ^ 29) (hx : ∀ w ∈ x.wants, w.wf) (ht : ∀ p ∈ t.pods, p.wf) (hm : m.wf) :
    Gives T 246 [snapP s, specP x, stateP t, moveP m] (makeR (doS s x t m)) := by
  have km := make_ok S.m s x t m (by omega) (by omega) (by omega)
  have kp := prior_ok S t m hl
  refine gives S.h246 rfl ?_
  unfold doS
  cases hmk : makeS s x t m with
  | inl c =>
    rw [hmk] at km
    simp only [makeR, codeE, snapP, specP, stateP, moveP, moveC, List.map_nil] at km
    simp only [f246, runL, opQ, evOp, evO, evOs, guardV, argsA, pvs, putS, cellsOf, scals, scal, Nat.reduceEqDiff, Nat.reduceAdd, reduceCtorEq, fieldA, nonNil, cellsAt, mkAgg, allPV, storeB, patchL, Int.reduceToNat, Nat.reduceMul, Nat.reduceLT, stepA, Int.reduceNeg, Int.reduceLE, Int.reduceLT, Int.reduceEq, extractV, mkAgg, Nat.reduceLeDiff, fillA, pureVs, pureV, eqV, eqB, lenV.eq_1, lenV.eq_2, lenV.eq_3, lenV.eq_4, binV, intBin, intV, idxA, List.drop, List.take, RetP, retP, resV, resOne, snapV, snapVs, snapR, snapRs, ownSz, pickV, AO.isC, opE, opD, funV.eq_1, funV.eq_2, snapP, specP, stateP, moveP, moveC, km.call, makeR, codeE, List.map_nil]
  | inr u =>
    rw [hmk] at km
    have hul := (near_moves s x t u m hmk).2
    have kw := why_ok S.s11 s x u hn (by omega) hll (make_wf hx ht hm hmk)
    have hv : ErrV (whyP s x u) := firstE_V _ (errs_V s x u)
    have ka := alone_ok S hv
    simp only [makeR, snapP, specP, stateP, moveP, moveC] at km kp kw
    cases hpb : prioB t m with
    | false =>
      rw [hpb] at kp
      simp only [cond_false, codeE] at kp
      simp only [f246, runL, opQ, evOp, evO, evOs, guardV, argsA, pvs, putS, cellsOf, scals, scal, Nat.reduceEqDiff, Nat.reduceAdd, reduceCtorEq, fieldA, nonNil, cellsAt, mkAgg, allPV, storeB, patchL, Int.reduceToNat, Nat.reduceMul, Nat.reduceLT, stepA, Int.reduceNeg, Int.reduceLE, Int.reduceLT, Int.reduceEq, extractV, mkAgg, Nat.reduceLeDiff, fillA, pureVs, pureV, eqV, eqB, lenV.eq_1, lenV.eq_2, lenV.eq_3, lenV.eq_4, binV, intBin, intV, idxA, List.drop, List.take, RetP, retP, resV, resOne, snapV, snapVs, snapR, snapRs, ownSz, pickV, AO.isC, opE, opD, funV.eq_1, funV.eq_2, snapP, specP, stateP, moveP, moveC, km.call, kp.call, makeR, codeE, Bool.false_eq_true, List.map_nil]
    | true =>
      rw [hpb] at kp
      simp only [cond_true] at kp
      dsimp only
      rcases hv with e | ⟨a, n, e⟩ | ⟨n, e⟩
      · rw [e] at kw ka ⊢
        simp only [f246, runL, opQ, evOp, evO, evOs, guardV, argsA, pvs, putS, cellsOf, scals, scal, Nat.reduceEqDiff, Nat.reduceAdd, reduceCtorEq, fieldA, nonNil, cellsAt, mkAgg, allPV, storeB, patchL, Int.reduceToNat, Nat.reduceMul, Nat.reduceLT, stepA, Int.reduceNeg, Int.reduceLE, Int.reduceLT, Int.reduceEq, extractV, mkAgg, Nat.reduceLeDiff, fillA, pureVs, pureV, eqV, eqB, lenV.eq_1, lenV.eq_2, lenV.eq_3, lenV.eq_4, binV, intBin, intV, idxA, List.drop, List.take, RetP, retP, resV, resOne, snapV, snapVs, snapR, snapRs, ownSz, pickV, AO.isC, opE, opD, funV.eq_1, funV.eq_2, snapP, specP, stateP, moveP, moveC, km.call, kp.call, kw.call, makeR, isNilP]
      · rw [e] at kw ka ⊢
        simp only [spotE, aloneP, isNilP, codeE, codeNo, codesOf, List.headD_cons, Bool.false_eq_true, if_false] at kw ka
        simp only [f246, runL, opQ, evOp, evO, evOs, guardV, argsA, pvs, putS, cellsOf, scals, scal, Nat.reduceEqDiff, Nat.reduceAdd, reduceCtorEq, fieldA, nonNil, cellsAt, mkAgg, allPV, storeB, patchL, Int.reduceToNat, Nat.reduceMul, Nat.reduceLT, stepA, Int.reduceNeg, Int.reduceLE, Int.reduceLT, Int.reduceEq, extractV, mkAgg, Nat.reduceLeDiff, fillA, pureVs, pureV, eqV, eqB, lenV.eq_1, lenV.eq_2, lenV.eq_3, lenV.eq_4, binV, intBin, intV, idxA, List.drop, List.take, RetP, retP, resV, resOne, snapV, snapVs, snapR, snapRs, ownSz, pickV, AO.isC, opE, opD, funV.eq_1, funV.eq_2, snapP, specP, stateP, moveP, moveC, km.call, kp.call, kw.call, ka.call, makeR, isNilP, spotE, codeE, codeNo, codesOf, List.headD_cons, Bool.false_eq_true, List.map_nil]
      · rw [e] at kw ka ⊢
        simp only [codeE, aloneP, isNilP, codeNo, codesOf, List.headD_cons, Bool.false_eq_true, if_false] at kw ka
        simp only [f246, runL, opQ, evOp, evO, evOs, guardV, argsA, pvs, putS, cellsOf, scals, scal, Nat.reduceEqDiff, Nat.reduceAdd, reduceCtorEq, fieldA, nonNil, cellsAt, mkAgg, allPV, storeB, patchL, Int.reduceToNat, Nat.reduceMul, Nat.reduceLT, stepA, Int.reduceNeg, Int.reduceLE, Int.reduceLT, Int.reduceEq, extractV, mkAgg, Nat.reduceLeDiff, fillA, pureVs, pureV, eqV, eqB, lenV.eq_1, lenV.eq_2, lenV.eq_3, lenV.eq_4, binV, intBin, intV, idxA, List.drop, List.take, RetP, retP, resV, resOne, snapV, snapVs, snapR, snapRs, ownSz, pickV, AO.isC, opE, opD, funV.eq_1, funV.eq_2, snapP, specP, stateP, moveP, moveC, km.call, kp.call, kw.call, ka.call, makeR, isNilP, codeE, codeNo, codesOf, List.headD_cons, Bool.false_eq_true, List.map_nil]
end
end Go.Proofs.YtlfphlobcopemaaGreatDoor.Ab
set_option linter.unusedVariables false
set_option linter.unusedSimpArgs false
namespace Go.Proofs.YtlfphlobcopemaaGreatDoor.Ab
open Go
def state0 : State := ⟨[], 0, 0⟩
def walkFrom (s : Snap) (x : Spec) : List Move → State → Nat → State × Nat × Option Int
  | [], t, i => (t, i, none)
  | m :: r, t, i => match doS s x t m with
    | .inl c => (t, i, some c)
    | .inr u => walkFrom s x r u (i + 1)
def optE : Option Int → PV
  | none => .nili
  | some c => codeE c
def walkW (s : Snap) (x : Spec) (l : List Move) : State × Nat × PV := match fairB s x with
  | some q => (state0, 0, errG (some q))
  | none => if isNilP (whyP s x (firstOf s)) = true then ((walkFrom s x l (firstOf s) 0).1, (walkFrom s x l (firstOf s) 0).2.1, optE (walkFrom s x l (firstOf s) 0).2.2) else (state0, 0, codeE (codeNo (whyP s x (firstOf s))))
def walkP (w : State × Nat × PV) : PV := .tuple [stateP w.1, .int .i64 (w.2.1 : Nat), w.2.2]
theorem doS_make {s : Snap} {x : Spec} {t u : State} {m : Move} (h : doS s x t m = .inr u) : makeS s x t m = .inr u ∧ isNilP (whyP s x u) = true := by
  unfold doS at h
  split at h
  · simp at h
  · rename_i v hv
    split at h
    · split at h
      · rename_i hw
        simp only [Sum.inr.injEq] at h
        subst h
        exact ⟨hv, hw⟩
      · simp at h
    · simp at h
structure Std12w (T : Tab) : Prop where
  s : Std12 T
  f : Std3f T
  h237 : Std T 237 f237
  h247 : Std T 247 f247
section
variable {T : Tab}
set_option maxRecDepth 100000 in
set_option maxHeartbeats 4000000 in
theorem walk_loop (S : Std12 T) (s : Snap) (x : Spec) (ms : List Move) (hn : s.nodes.length ≤ 2 ^ 29) (hll : s.loads.length ≤ 2 ^ 29) (hxl : x.wants.length ≤ 2 ^ 29) (hml : ms.length ≤ 2 ^ 29) (hx : ∀ w ∈ x.wants, w.wf) (hm : ∀ m ∈ ms, m.wf) (Q : Exit → St → Prop) (o : State × Nat × Option Int)
    (hend : ∀ u, o = (u, ms.length, none) → ∀ fr hp nx, look fr 2 = .pv (.slice (ms.map moveC)) → look fr 6 = .ptr 2 0 0 → look fr 10 = .ptr 3 0 0 → blkAt hp 2 = .var [.nils, .pv (.int .i64 0), .pv (.int .i64 0)] → blkAt hp 3 = .var [.pv (.slice (u.pods.map podC)), .pv (.int .i64 u.pre), .pv (.int .i64 u.shi)] → Q (.exit 0) ⟨fr, hp, nx⟩)
    (hret : ∀ u k c, o = (u, k, some c) → ∀ fr hp nx, look fr 6 = .ptr 2 0 0 → look fr 7 = .pv (.int .i64 (k : Nat)) → look fr 8 = .pv (codeE c) → blkAt hp 2 = .var [.pv (.slice (u.pods.map podC)), .pv (.int .i64 u.pre), .pv (.int .i64 u.shi)] → Q .ret ⟨fr, hp, nx⟩) :
    ∀ (rest : List Move) (i : Nat) (t : State), ms.drop i = rest → i ≤ ms.length → walkFrom s x rest t i = o → t.pods.length ≤ 2 ^ 29 → (∀ p ∈ t.pods, p.wf) → ∀ (fr : List (Nat × AV)) (hp : Hl) (nx : Nat), 4 ≤ nx →
      look fr 2 = .pv (.slice (ms.map moveC)) → look fr 3 = .ptr 0 0 0 → look fr 4 = .ptr 1 0 0 → look fr 6 = .ptr 2 0 0 → look fr 10 = .ptr 3 0 0 →
      blkAt hp 0 = .var [.pv (.slice (s.nodes.map nodeC)), .pv (.slice (s.loads.map loadC)), .pv (.slice (s.pods.map podC))] → blkAt hp 1 = .var [.pv (.slice (x.wants.map wantC)), .pv (.int .i64 x.pre), .pv (.int .i64 x.shi)] →
      blkAt hp 2 = .var [.nils, .pv (.int .i64 0), .pv (.int .i64 0)] → blkAt hp 3 = .var [.pv (.slice (t.pods.map podC)), .pv (.int .i64 t.pre), .pv (.int .i64 t.shi)] →
      look fr 34 = .pv (.slice (ms.map moveC)) → look fr 35 = .pv (.int .i64 ms.length) → look fr 36 = .pv (.int .i64 i) → Wp T false (.loop f247l0) ⟨fr, hp, nx⟩ Q := by
  intro rest
  induction rest with
  | nil =>
    intro i t hd hi ho hl ht fr hp nx hnx h2 h3 h4 h6 h10 b0 b1 b2 b3 h34 h35 h36
    have hlen := drop_nil hd hi
    simp only [walkFrom] at ho
    rw [Wp_loop, Wp_eq f247l0.eq_1]
    simp only [runL, opQ, evOp, evO, evOs, guardV, argsA, pvs, putS, cellsOf, scals, scal, Nat.reduceEqDiff, Nat.reduceAdd, reduceCtorEq, fieldA, nonNil, cellsAt, mkAgg, allPV, storeB, patchL, Int.reduceToNat, Nat.reduceMul, Nat.reduceLT, stepA, Int.reduceNeg, Int.reduceLE, Int.reduceLT, Int.reduceEq, extractV, mkAgg, Nat.reduceLeDiff, fillA, pureVs, pureV, eqV, eqB, lenV.eq_1, lenV.eq_2, lenV.eq_3, lenV.eq_4, binV, intBin, intV, idxA, List.drop, List.take, RetP, retP, resV, resOne, snapV, snapVs, snapR, snapRs, ownSz, pickV, AO.isC, opE, opD, funV.eq_1, funV.eq_2, h34, h35, h36, hlen, Int.lt_irrefl]
    refine hend t (by rw [← ho, hlen]) _ _ _ ?_ ?_ ?_ b2 b3
    all_goals try simp only [look_if, blkAt_if, Nat.reduceEqDiff, if_true, if_false, h2, h6, h10]
  | cons m r ih =>
    intro i t hd hi ho hl ht fr hp nx hnx h2 h3 h4 h6 h10 b0 b1 b2 b3 h34 h35 h36
    obtain ⟨hget, hlt, hw, hd', hi', hb⟩ := drop_cons hd (by omega)
    have hmm : m ∈ ms := List.mem_of_getElem? hget
    have n0 : ¬ nx = 0 := by omega
    have n1 : ¬ nx = 1 := by omega
    have n2 : ¬ nx = 2 := by omega
    have n3 : ¬ nx = 3 := by omega
    have m0 : ¬ nx + 1 = 0 := by omega
    have m1 : ¬ nx + 1 = 1 := by omega
    have m2 : ¬ nx + 1 = 2 := by omega
    have m3 : ¬ nx + 1 = 3 := by omega
    have q3 : ¬ 3 = nx + 1 := by omega
    have q2 : ¬ 2 = nx + 1 := by omega
    have k := do_ok S s x t m hn hll hxl hl hx ht (hm m hmm)
    simp only [walkFrom] at ho
    cases hd2 : doS s x t m with
    | inl c =>
      rw [hd2] at ho k
      simp only [makeR, codeE, snapP, specP, stateP, moveP, moveC, List.map_nil] at k
      rw [Wp_loop, Wp_eq f247l0.eq_1]
      simp only [runL, opQ, evOp, evO, evOs, guardV, argsA, pvs, putS, cellsOf, scals, scal, Nat.reduceEqDiff, Nat.reduceAdd, reduceCtorEq, fieldA, nonNil, cellsAt, mkAgg, allPV, storeB, patchL, Int.reduceToNat, Nat.reduceMul, Nat.reduceLT, stepA, Int.reduceNeg, Int.reduceLE, Int.reduceLT, Int.reduceEq, extractV, mkAgg, Nat.reduceLeDiff, fillA, pureVs, pureV, eqV, eqB, lenV.eq_1, lenV.eq_2, lenV.eq_3, lenV.eq_4, binV, intBin, intV, idxA, List.drop, List.take, RetP, retP, resV, resOne, snapV, snapVs, snapR, snapRs, ownSz, pickV, AO.isC, opE, opD, funV.eq_1, funV.eq_2, h2, h3, h4, h6, h10, b0, b1, b2, b3, h34, h35, h36, hlt, hget, moveC, n0, n1, n2, n3, m0, m1, m2, m3, k.call]
      refine hret t i c ho.symm _ _ _ ?_ ?_ ?_ ?_
      all_goals try simp only [look_if, blkAt_if, Nat.reduceEqDiff, if_true, if_false, h6, codeE]
    | inr u =>
      rw [hd2] at ho k
      obtain ⟨hmk, _⟩ := doS_make hd2
      have hul := (near_moves s x t u m hmk).2
      simp only [makeR, snapP, specP, stateP, moveP, moveC] at k
      rw [Wp_loop, Wp_eq f247l0.eq_1]
      simp only [runL, opQ, evOp, evO, evOs, guardV, argsA, pvs, putS, cellsOf, scals, scal, Nat.reduceEqDiff, Nat.reduceAdd, reduceCtorEq, fieldA, nonNil, cellsAt, mkAgg, allPV, storeB, patchL, Int.reduceToNat, Nat.reduceMul, Nat.reduceLT, stepA, Int.reduceNeg, Int.reduceLE, Int.reduceLT, Int.reduceEq, extractV, mkAgg, Nat.reduceLeDiff, fillA, pureVs, pureV, eqV, eqB, lenV.eq_1, lenV.eq_2, lenV.eq_3, lenV.eq_4, binV, intBin, intV, idxA, List.drop, List.take, RetP, retP, resV, resOne, snapV, snapVs, snapR, snapRs, ownSz, pickV, AO.isC, opE, opD, funV.eq_1, funV.eq_2, h2, h3, h4, h6, h10, b0, b1, b2, b3, h34, h35, h36, hlt, hget, moveC, n0, n1, n2, n3, m0, m1, m2, m3, k.call, hw]
      refine ih (i + 1) u hd' hi' ho (by omega) (make_wf hx ht (hm m hmm) hmk) _ _ _ (by omega) ?_ ?_ ?_ ?_ ?_ ?_ ?_ ?_ ?_ ?_ ?_ ?_
      all_goals try simp only [look_if, blkAt_if, Nat.reduceEqDiff, if_true, if_false, h2, h3, h4, h6, h10, b0, b1, b2, n0, n1, n2, n3, m0, m1, m2, m3, q3, h34, h35]
set_option maxRecDepth 100000 in
set_option maxHeartbeats 4000000 in
theorem walk_ok (S : Std12w T) (s : Snap) (x : Spec) (ms : List Move) (hn : s.nodes.length ≤ 2 ^ 29) (hll : s.loads.length ≤ 2 ^ 29) (hpl : s.pods.length ≤ 2 ^ 29) (hxl : x.wants.length ≤ 2 ^ 29) (hml : ms.length ≤ 2 ^ 29) (hs : s.wf) (hx : x.wf) (hm : ∀ m ∈ ms, m.wf) :
    Gives T 247 [snapP s, specP x, .slice (ms.map moveC)] (walkP (walkW s x ms)) := by
  have kf := fair3_ok S.f s x hxl
  have k1 := first5_ok S.h237 S.s.m.h279 s (by omega)
  have kw := why_ok S.s.s11 s x (firstOf s) hn hpl hll hs.2.2
  have hv : ErrV (whyP s x (firstOf s)) := firstE_V _ (errs_V s x (firstOf s))
  have ka := alone_ok S.s hv
  simp only [snapP, specP, stateP, firstOf] at kf k1 kw
  refine gives S.h247 rfl ?_
  unfold walkW
  cases hf : fairB s x with
  | some q =>
    obtain ⟨c, a⟩ := q
    rw [hf] at kf
    dsimp only
    by_cases ha : a < 0
    · simp only [errG, if_pos ha, codeE] at kf ⊢
      simp only [f247, runL, opQ, evOp, evO, evOs, guardV, argsA, pvs, putS, cellsOf, scals, scal, Nat.reduceEqDiff, Nat.reduceAdd, reduceCtorEq, fieldA, nonNil, cellsAt, mkAgg, allPV, storeB, patchL, Int.reduceToNat, Nat.reduceMul, Nat.reduceLT, stepA, Int.reduceNeg, Int.reduceLE, Int.reduceLT, Int.reduceEq, extractV, mkAgg, Nat.reduceLeDiff, fillA, pureVs, pureV, eqV, eqB, lenV.eq_1, lenV.eq_2, lenV.eq_3, lenV.eq_4, binV, intBin, intV, idxA, List.drop, List.take, RetP, retP, resV, resOne, snapV, snapVs, snapR, snapRs, ownSz, pickV, AO.isC, opE, opD, funV.eq_1, funV.eq_2, snapP, specP, stateP, kf.call, walkP, state0, List.map_nil]
      rfl
    · simp only [errG, if_neg ha, spotE] at kf ⊢
      simp only [f247, runL, opQ, evOp, evO, evOs, guardV, argsA, pvs, putS, cellsOf, scals, scal, Nat.reduceEqDiff, Nat.reduceAdd, reduceCtorEq, fieldA, nonNil, cellsAt, mkAgg, allPV, storeB, patchL, Int.reduceToNat, Nat.reduceMul, Nat.reduceLT, stepA, Int.reduceNeg, Int.reduceLE, Int.reduceLT, Int.reduceEq, extractV, mkAgg, Nat.reduceLeDiff, fillA, pureVs, pureV, eqV, eqB, lenV.eq_1, lenV.eq_2, lenV.eq_3, lenV.eq_4, binV, intBin, intV, idxA, List.drop, List.take, RetP, retP, resV, resOne, snapV, snapVs, snapR, snapRs, ownSz, pickV, AO.isC, opE, opD, funV.eq_1, funV.eq_2, snapP, specP, stateP, kf.call, walkP, state0, List.map_nil]
      rfl
  | none =>
    rw [hf] at kf
    simp only [errG] at kf
    dsimp only
    have hw' : whyP s x ⟨s.pods, 0, 0⟩ = whyP s x (firstOf s) := rfl
    rw [hw'] at kw
    rcases hv with e | ⟨a, n, e⟩ | ⟨n, e⟩
    · rw [e] at kw ⊢
      simp only [isNilP, if_true]
      simp only [f247, runL, opQ, evOp, evO, evOs, guardV, argsA, pvs, putS, cellsOf, scals, scal, Nat.reduceEqDiff, Nat.reduceAdd, reduceCtorEq, fieldA, nonNil, cellsAt, mkAgg, allPV, storeB, patchL, Int.reduceToNat, Nat.reduceMul, Nat.reduceLT, stepA, Int.reduceNeg, Int.reduceLE, Int.reduceLT, Int.reduceEq, extractV, mkAgg, Nat.reduceLeDiff, fillA, pureVs, pureV, eqV, eqB, lenV.eq_1, lenV.eq_2, lenV.eq_3, lenV.eq_4, binV, intBin, intV, idxA, List.drop, List.take, RetP, retP, resV, resOne, snapV, snapVs, snapR, snapRs, ownSz, pickV, AO.isC, opE, opD, funV.eq_1, funV.eq_2, snapP, specP, stateP, kf.call, k1.call, kw.call]
      refine walk_loop S.s s x ms hn hll hxl hml hx.1 hm _ (walkFrom s x ms (firstOf s) 0) (fun u ho fr hp nx h2 h6 h10 b2 b3 => ?_) (fun u k c ho fr hp nx h6 h7 h8 b2 => ?_) ms 0 (firstOf s) rfl (Nat.zero_le _) rfl hpl hs.2.2 _ _ _ (Nat.le_refl _) rfl rfl rfl rfl rfl rfl rfl rfl rfl rfl rfl rfl
      · rw [ho]
        simp only [runL, opQ, evOp, evO, evOs, guardV, argsA, pvs, putS, cellsOf, scals, scal, Nat.reduceEqDiff, Nat.reduceAdd, reduceCtorEq, fieldA, nonNil, cellsAt, mkAgg, allPV, storeB, patchL, Int.reduceToNat, Nat.reduceMul, Nat.reduceLT, stepA, Int.reduceNeg, Int.reduceLE, Int.reduceLT, Int.reduceEq, extractV, mkAgg, Nat.reduceLeDiff, fillA, pureVs, pureV, eqV, eqB, lenV.eq_1, lenV.eq_2, lenV.eq_3, lenV.eq_4, binV, intBin, intV, idxA, List.drop, List.take, RetP, retP, resV, resOne, snapV, snapVs, snapR, snapRs, ownSz, pickV, AO.isC, opE, opD, funV.eq_1, funV.eq_2, h2, h6, h10, b2, b3, walkP, stateP, optE]
      · rw [ho]
        simp only [runL, opQ, evOp, evO, evOs, guardV, argsA, pvs, putS, cellsOf, scals, scal, Nat.reduceEqDiff, Nat.reduceAdd, reduceCtorEq, fieldA, nonNil, cellsAt, mkAgg, allPV, storeB, patchL, Int.reduceToNat, Nat.reduceMul, Nat.reduceLT, stepA, Int.reduceNeg, Int.reduceLE, Int.reduceLT, Int.reduceEq, extractV, mkAgg, Nat.reduceLeDiff, fillA, pureVs, pureV, eqV, eqB, lenV.eq_1, lenV.eq_2, lenV.eq_3, lenV.eq_4, binV, intBin, intV, idxA, List.drop, List.take, RetP, retP, resV, resOne, snapV, snapVs, snapR, snapRs, ownSz, pickV, AO.isC, opE, opD, funV.eq_1, funV.eq_2, h6, h7, h8, b2, walkP, stateP, optE]
    · rw [e] at kw ka ⊢
      simp only [spotE, aloneP, isNilP, codeE, codeNo, codesOf, List.headD_cons, Bool.false_eq_true, if_false] at kw ka ⊢
      simp only [f247, runL, opQ, evOp, evO, evOs, guardV, argsA, pvs, putS, cellsOf, scals, scal, Nat.reduceEqDiff, Nat.reduceAdd, reduceCtorEq, fieldA, nonNil, cellsAt, mkAgg, allPV, storeB, patchL, Int.reduceToNat, Nat.reduceMul, Nat.reduceLT, stepA, Int.reduceNeg, Int.reduceLE, Int.reduceLT, Int.reduceEq, extractV, mkAgg, Nat.reduceLeDiff, fillA, pureVs, pureV, eqV, eqB, lenV.eq_1, lenV.eq_2, lenV.eq_3, lenV.eq_4, binV, intBin, intV, idxA, List.drop, List.take, RetP, retP, resV, resOne, snapV, snapVs, snapR, snapRs, ownSz, pickV, AO.isC, opE, opD, funV.eq_1, funV.eq_2, snapP, specP, stateP, kf.call, k1.call, kw.call, ka.call, walkP, state0, List.map_nil]
      rfl
    · rw [e] at kw ka ⊢
      simp only [codeE, aloneP, isNilP, codeNo, codesOf, List.headD_cons, Bool.false_eq_true, if_false] at kw ka ⊢
      simp only [f247, runL, opQ, evOp, evO, evOs, guardV, argsA, pvs, putS, cellsOf, scals, scal, Nat.reduceEqDiff, Nat.reduceAdd, reduceCtorEq, fieldA, nonNil, cellsAt, mkAgg, allPV, storeB, patchL, Int.reduceToNat, Nat.reduceMul, Nat.reduceLT, stepA, Int.reduceNeg, Int.reduceLE, Int.reduceLT, Int.reduceEq, extractV, mkAgg, Nat.reduceLeDiff, fillA, pureVs, pureV, eqV, eqB, lenV.eq_1, lenV.eq_2, lenV.eq_3, lenV.eq_4, binV, intBin, intV, idxA, List.drop, List.take, RetP, retP, resV, resOne, snapV, snapVs, snapR, snapRs, ownSz, pickV, AO.isC, opE, opD, funV.eq_1, funV.eq_2, snapP, specP, stateP, kf.call, k1.call, kw.call, ka.call, walkP, state0, List.map_nil]
      rfl
end
end Go.Proofs.YtlfphlobcopemaaGreatDoor.Ab
set_option linter.unusedVariables false
set_option linter.unusedSimpArgs false
namespace Go.Proofs.YtlfphlobcopemaaGreatDoor.Ab
open Go
end Go.Proofs.YtlfphlobcopemaaGreatDoor.Ab
