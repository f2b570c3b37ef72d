/- The layer, part 4: Sp6, Sp6b, Sp7, Co03, Sp3, Sp3b, Sp3c, Sp3d, Sp4o, Sp4p, Sp4g, Sp4n, Sp4k, Sp4l, Sp4q, Sp4u, Sp3e. -/
import Derived.Test.YtjmggjlfamjdbaaDoorA3
set_option linter.unusedVariables false
set_option linter.unusedSimpArgs false
namespace Go.Proofs.YtjmggjlfamjdbaaDoor.Ab
open Go
section
variable {T : Tab}
/-! ### Code, of codes -/
theorem code_loop (c : Int) (Q : Exit → St → Prop) (hret : ∀ fr hp nx, look fr 2 = .pv (.int .i64 c) → Q .ret ⟨fr, hp, nx⟩) :
    ∀ (k : Nat) (i : Int), c = i + k → 1 ≤ i → c ≤ 17 → ∀ (fr : List (Nat × AV)) (hp : Hl) (nx : Nat), look fr 0 = .pv (.iface 0 (.int .i64 c)) → look fr 3 = .pv (.int .i64 i) → Wp T false (.loop f102l0) ⟨fr, hp, nx⟩ Q := by
  intro k
  induction k with
  | zero =>
    intro i hi h1 h2 fr hp nx g0 g3
    have hi' : i = c := by omega
    subst hi'
    rw [Wp_loop, Wp_eq f102l0.eq_1]
    simp only [runL, defL, binV, Nat.reduceEqDiff, Nat.reduceAdd, reduceCtorEq, Int.reduceToNat, Nat.reduceMul, Nat.reduceLT, Int.reduceNeg, Int.reduceLE, Int.reduceLT, Int.reduceEq, Nat.reduceLeDiff, List.drop, List.take, lenV, funV, g0, g3, h2]
    exact hret _ _ _ (by simp only [look_if, Nat.reduceEqDiff, if_true, if_false])
  | succ k ih =>
    intro i hi h1 h2 fr hp nx g0 g3
    have hne : ¬ c = i := by omega
    have hle : i ≤ 17 := by omega
    have hw : IntKind.i64.wrap (i + 1) = i + 1 := by rw [wrap6] <;> omega
    rw [Wp_loop, Wp_eq f102l0.eq_1]
    simp only [runL, defL, binV, Nat.reduceEqDiff, Nat.reduceAdd, reduceCtorEq, Int.reduceToNat, Nat.reduceMul, Nat.reduceLT, Int.reduceNeg, Int.reduceLE, Int.reduceLT, Int.reduceEq, Nat.reduceLeDiff, List.drop, List.take, lenV, funV, g0, g3, hle, hne, hw]
    refine ih (i + 1) (by omega) (by omega) h2 _ _ _ ?_ ?_
    all_goals simp only [look_if, Nat.reduceEqDiff, if_true, if_false, g0]
theorem code_code (h102 : Std T 102 f102) (c : Int) (h1 : 1 ≤ c) (h2 : c ≤ 17) : Gives T 102 [codeE c] (.int .i64 c) := by
  refine gives h102 rfl ?_
  simp only [f102, runL, defL, binV, Nat.reduceEqDiff, Nat.reduceAdd, reduceCtorEq, Int.reduceToNat, Nat.reduceMul, Nat.reduceLT, Int.reduceNeg, Int.reduceLE, Int.reduceLT, Int.reduceEq, Nat.reduceLeDiff, List.drop, List.take, lenV, funV, codeE]
  refine code_loop c _ (fun fr hp nx g => ?_) (c - 1).toNat 1 (by omega) (by omega) h2 _ _ _ rfl rfl
  simp only [runL, defL, binV, Nat.reduceEqDiff, Nat.reduceAdd, reduceCtorEq, Int.reduceToNat, Nat.reduceMul, Nat.reduceLT, Int.reduceNeg, Int.reduceLE, Int.reduceLT, Int.reduceEq, Nat.reduceLeDiff, List.drop, List.take, lenV, funV, g]
/-! ### The document's search for a node -/
def ixNode (id : Int) : Nat → List Node → Int
  | _, [] => -1
  | i, p :: r => if p.id = id then i else ixNode id (i + 1) r
theorem node3_loop (s : Snap) (id : Int) (hl : s.nodes.length ≤ 2 ^ 30) (Q : Exit → St → Prop) (o : Int)
    (hend : o = -1 → ∀ fr hp nx, Q (.exit 0) ⟨fr, hp, nx⟩) (hret : ∀ fr hp nx, look fr 4 = .pv (.int .i64 o) → Q .ret ⟨fr, hp, nx⟩) :
    ∀ (rest : List Node) (i : Nat), s.nodes.drop i = rest → i ≤ s.nodes.length → ixNode id i rest = o → ∀ (fr : List (Nat × AV)) (hp : Hl) (nx : Nat), look fr 5 = .pv (.int .i64 i) → look fr 1 = .pv (.int .i64 id) → look fr 2 = .ptr 0 0 0 →
      blkAt hp 0 = .var [.pv (.slice (s.nodes.map nodeC)), .pv (.slice (s.loads.map loadC)), .pv (.slice (s.pods.map podC))] → Wp T false (.loop f155l0) ⟨fr, hp, nx⟩ Q := by
  intro rest
  induction rest with
  | nil =>
    intro i hd hi ho fr hp nx h5 h1 h2 b0
    have hlen := drop_nil hd hi
    rw [Wp_loop, Wp_eq f155l0.eq_1]
    simp only [runL, defL, binV, Nat.reduceEqDiff, Nat.reduceAdd, reduceCtorEq, Int.reduceToNat, Nat.reduceMul, Nat.reduceLT, Int.reduceNeg, Int.reduceLE, Int.reduceLT, Int.reduceEq, Nat.reduceLeDiff, List.drop, List.take, lenV, funV, h5, h1, h2, b0, hlen, Int.lt_irrefl]
    exact hend ho.symm _ _ _
  | cons n r ih =>
    intro i hd hi ho fr hp nx h5 h1 h2 b0
    obtain ⟨hget, hlt, hw, hd', hi', hb⟩ := drop_cons hd hl
    simp only [ixNode] at ho
    rw [Wp_loop, Wp_eq f155l0.eq_1]
    by_cases hk : n.id = id
    · rw [if_pos hk] at ho
      simp only [runL, defL, binV, Nat.reduceEqDiff, Nat.reduceAdd, reduceCtorEq, Int.reduceToNat, Nat.reduceMul, Nat.reduceLT, Int.reduceNeg, Int.reduceLE, Int.reduceLT, Int.reduceEq, Nat.reduceLeDiff, List.drop, List.take, lenV, funV, h5, h1, h2, b0, hlt, hget, nodeC, hk]
      exact hret _ _ _ (by simp only [look_if, Nat.reduceEqDiff, if_true, if_false, ← ho])
    · rw [if_neg hk] at ho
      simp only [runL, defL, binV, Nat.reduceEqDiff, Nat.reduceAdd, reduceCtorEq, Int.reduceToNat, Nat.reduceMul, Nat.reduceLT, Int.reduceNeg, Int.reduceLE, Int.reduceLT, Int.reduceEq, Nat.reduceLeDiff, List.drop, List.take, lenV, funV, h5, h1, h2, b0, hlt, hget, nodeC, hk, hw]
      refine ih (i + 1) hd' hi' ho _ _ _ ?_ ?_ ?_ b0
      all_goals simp only [look_if, Nat.reduceEqDiff, if_true, if_false, h1, h2]
theorem node3_ok (h155 : Std T 155 f155) (s : Snap) (id : Int) (hl : s.nodes.length ≤ 2 ^ 30) : Gives T 155 [snapP s, .int .i64 id] (.int .i64 (ixNode id 0 s.nodes)) := by
  refine gives h155 rfl ?_
  simp only [f155, runL, defL, binV, Nat.reduceEqDiff, Nat.reduceAdd, reduceCtorEq, Int.reduceToNat, Nat.reduceMul, Nat.reduceLT, Int.reduceNeg, Int.reduceLE, Int.reduceLT, Int.reduceEq, Nat.reduceLeDiff, List.drop, List.take, lenV, funV, snapP]
  refine node3_loop s id hl _ (ixNode id 0 s.nodes) (fun ho fr hp nx => ?_) (fun fr hp nx h4 => ?_) s.nodes 0 rfl (Nat.zero_le _) rfl _ _ _ rfl rfl rfl rfl
  · simp only [runL, defL, binV, Nat.reduceEqDiff, Nat.reduceAdd, reduceCtorEq, Int.reduceToNat, Nat.reduceMul, Nat.reduceLT, Int.reduceNeg, Int.reduceLE, Int.reduceLT, Int.reduceEq, Nat.reduceLeDiff, List.drop, List.take, lenV, funV, ho]
  · simp only [runL, defL, binV, Nat.reduceEqDiff, Nat.reduceAdd, reduceCtorEq, Int.reduceToNat, Nat.reduceMul, Nat.reduceLT, Int.reduceNeg, Int.reduceLE, Int.reduceLT, Int.reduceEq, Nat.reduceLeDiff, List.drop, List.take, lenV, funV, h4]
/-! ### What is used -/
end
end Go.Proofs.YtjmggjlfamjdbaaDoor.Ab
set_option linter.unusedVariables false
set_option linter.unusedSimpArgs false
namespace Go.Proofs.YtjmggjlfamjdbaaDoor.Ab
open Go
section
variable {T : Tab}
def errC (c : Int) : PV := if c = 0 then .nili else codeE c
structure Std6 (T : Tab) : Prop where
  v : StdV T
  h82 : Std T 82 f82
  h221 : Std T 221 f221
  h258 : Std T 258 f258
  h259 : Std T 259 f259
  h220 : Std T 220 f220
  f260 : T.flat 260 = true
structure Std6r (T : Tab) : Prop where
  h155 : Std T 155 f155
  h171 : Std T 171 f171
  h143 : Std T 143 f143
  h140 : Std T 140 f140
  h145 : Std T 145 f145
  h144 : Std T 144 f144
  h142 : Std T 142 f142
  h141 : Std T 141 f141
  h170 : Std T 170 f170
  f143 : T.flat 143 = true
end
end Go.Proofs.YtjmggjlfamjdbaaDoor.Ab
set_option linter.unusedVariables false
set_option linter.unusedSimpArgs false
namespace Go.Proofs.YtjmggjlfamjdbaaDoor.Ab
open Go
def load0 : Load := ⟨0, false, 0, 0, 0⟩
def loadOf (id : Int) (l : List Load) : Option Load := l.find? (fun n => decide (n.id = id))
def loadR : Option Load → PV
  | some n => .tuple [.agg (loadC n), .bool true]
  | none => .tuple [.agg (loadC load0), .bool false]
theorem load_loop {T : Tab} (l : List Load) (id : Int) (hl : l.length ≤ 2 ^ 30) (Q : Exit → St → Prop) (o : Option Load)
    (hend : o = none → ∀ fr hp nx, look fr 4 = .ptr 1 0 0 → blkAt hp 1 = .var (pvs (loadC load0)) → Q (.exit 0) ⟨fr, hp, nx⟩)
    (hret : ∀ n, o = some n → ∀ fr hp nx, look fr 4 = .ptr 1 0 0 → look fr 5 = .pv (.bool true) → blkAt hp 1 = .var (pvs (loadC n)) → Q .ret ⟨fr, hp, nx⟩) :
    ∀ (rest : List Load) (i : Nat), l.drop i = rest → i ≤ l.length → loadOf id rest = o → ∀ (fr : List (Nat × AV)) (hp : Hl) (nx : Nat), 2 ≤ nx → look fr 4 = .ptr 1 0 0 → blkAt hp 1 = .var (pvs (loadC load0)) →
      look fr 1 = .pv (.int .i64 id) → look fr 9 = .pv (.slice (l.map loadC)) → look fr 10 = .pv (.int .i64 l.length) → look fr 11 = .pv (.int .i64 i) → Wp T false (.loop f81l0) ⟨fr, hp, nx⟩ Q := by
  intro rest
  induction rest with
  | nil =>
    intro i hd hi ho fr hp nx hn h4 b1 h1 h9 h10 h11
    have hlen := drop_nil hd hi
    rw [Wp_loop, Wp_eq f81l0.eq_1]
    simp only [runL, defL, binV, Nat.reduceEqDiff, Nat.reduceAdd, reduceCtorEq, Int.reduceToNat, Nat.reduceMul, Nat.reduceLT, Int.reduceNeg, Int.reduceLE, Int.reduceLT, Int.reduceEq, Nat.reduceLeDiff, List.drop, List.take, lenV, funV, h4, h1, h9, h10, h11, hlen, Int.lt_irrefl]
    refine hend ho.symm _ _ _ ?_ b1
    simp only [look_if, Nat.reduceEqDiff, if_false, h4]
  | cons n r ih =>
    intro i hd hi ho fr hp nx hn h4 b1 h1 h9 h10 h11
    obtain ⟨hget, hlt, hw, hd', hi', hb⟩ := drop_cons hd hl
    have n1 : ¬ nx = 1 := by omega
    have b1' := b1
    simp only [loadC, load0, pvs] at b1'
    rw [Wp_loop, Wp_eq f81l0.eq_1]
    by_cases hk : n.id = id
    · simp only [runL, defL, binV, Nat.reduceEqDiff, Nat.reduceAdd, reduceCtorEq, Int.reduceToNat, Nat.reduceMul, Nat.reduceLT, Int.reduceNeg, Int.reduceLE, Int.reduceLT, Int.reduceEq, Nat.reduceLeDiff, List.drop, List.take, lenV, funV, h4, b1', h1, h9, h10, h11, hlt, hget, loadC, n1, hk]
      refine hret n (by rw [← ho]; simp [loadOf, hk]) _ _ _ ?_ ?_ ?_
      all_goals simp only [look_if, blkAt_if, Nat.reduceEqDiff, if_true, if_false, h4, n1, loadC, pvs, hk]
    · simp only [runL, defL, binV, Nat.reduceEqDiff, Nat.reduceAdd, reduceCtorEq, Int.reduceToNat, Nat.reduceMul, Nat.reduceLT, Int.reduceNeg, Int.reduceLE, Int.reduceLT, Int.reduceEq, Nat.reduceLeDiff, List.drop, List.take, lenV, funV, h4, b1', h1, h9, h10, h11, hlt, hget, loadC, n1, hk, hw]
      refine ih (i + 1) hd' hi' (by rw [← ho]; simp [loadOf, hk]) _ _ _ (by omega) ?_ ?_ ?_ ?_ ?_ ?_
      all_goals simp only [look_if, blkAt_if, Nat.reduceEqDiff, if_true, if_false, h4, b1, n1, h1, h9, h10]
theorem load_ok {T : Tab} (h : Std T 81 f81) (s : Snap) (id : Int) (hl : s.loads.length ≤ 2 ^ 30) : Gives T 81 [snapP s, .int .i64 id] (loadR (loadOf id s.loads)) := by
  refine gives h rfl ?_
  simp only [f81, runL, defL, binV, Nat.reduceEqDiff, Nat.reduceAdd, reduceCtorEq, Int.reduceToNat, Nat.reduceMul, Nat.reduceLT, Int.reduceNeg, Int.reduceLE, Int.reduceLT, Int.reduceEq, Nat.reduceLeDiff, List.drop, List.take, lenV, funV, snapP]
  refine load_loop s.loads id hl _ (loadOf id s.loads) (fun ho fr hp nx h4 b1 => ?_) (fun n ho fr hp nx h4 h5 b1 => ?_) s.loads 0 rfl (Nat.zero_le _) rfl _ _ _ (Nat.le_refl _) rfl rfl rfl rfl rfl rfl
  · simp only [loadC, load0, pvs] at b1
    simp only [runL, defL, binV, Nat.reduceEqDiff, Nat.reduceAdd, reduceCtorEq, Int.reduceToNat, Nat.reduceMul, Nat.reduceLT, Int.reduceNeg, Int.reduceLE, Int.reduceLT, Int.reduceEq, Nat.reduceLeDiff, List.drop, List.take, lenV, funV, ho, loadR, h4, b1, loadC, load0]
  · simp only [loadC, pvs] at b1
    simp only [runL, defL, binV, Nat.reduceEqDiff, Nat.reduceAdd, reduceCtorEq, Int.reduceToNat, Nat.reduceMul, Nat.reduceLT, Int.reduceNeg, Int.reduceLE, Int.reduceLT, Int.reduceEq, Nat.reduceLeDiff, List.drop, List.take, lenV, funV, ho, loadR, h4, h5, b1, loadC]
end Go.Proofs.YtjmggjlfamjdbaaDoor.Ab
set_option linter.unusedVariables false
namespace Go.Proofs.YtjmggjlfamjdbaaDoor.Ab
open Go
def f16 : AFunc := ⟨49, [],
 (.seq (.seq (.ops [
   ⟨some 8, .mv (.t 0), none, []⟩,
   ⟨some 9, .nilchk (.t 8), none, [0]⟩,
   ⟨some 10, .fieldAddr 2 (.t 9), none, [1]⟩,
   ⟨some 11, .load false 1 (.t 10), none, [2]⟩,
   ⟨some 12, .bin .eql (some (.iface true)) (.t 11) (.c (.pv .nili)), none, [3]⟩])
  (.cond (.t 12)
   (.seq (.ops [
     ⟨some 13, .mv (.t 1), none, []⟩,
     ⟨some 14, .mv (.t 0), none, []⟩,
     ⟨some 15, .nilchk (.t 14), none, [1]⟩,
     ⟨some 16, .fieldAddr 1 (.t 15), none, [2]⟩,
     ⟨some 17, .load false 1 (.t 16), none, [3]⟩,
     ⟨some 18, .call 86 [(.t 13), (.t 17)], none, [0, 4]⟩,
     ⟨some 6, .mv (.t 18), none, [5, 5, 0, 1, 2, 3, 4, 5]⟩])
    (.seq (.seq (.ops [
     ⟨some 19, .mv (.t 6), none, []⟩,
     ⟨some 20, .bin .eql (some (.iface true)) (.t 19) (.c (.pv .nili)), none, [0]⟩])
    (.cond (.t 20)
     (.ops [
       ⟨some 21, .mv (.t 2), none, []⟩,
       ⟨some 22, .callv (.t 21) [], none, [0]⟩,
       ⟨some 6, .mv (.t 22), none, [1, 1, 0, 1]⟩])
     .skip))
    (.seq (.ops [
     ⟨some 7, .alloc [(.pv (.int .i64 0))], none, []⟩])
    (.seq (.ops [
     ⟨some 23, .mv (.t 6), none, []⟩,
     ⟨some 24, .mkI 3 (.t 7), none, []⟩,
     ⟨some 25, .call 266 [(.t 23), (.t 24)], none, [0, 1]⟩])
    (.cond (.t 25)
     (.draw [
       ⟨some 26, .mv (.t 0), none, []⟩,
       ⟨some 27, .mv (.t 0), none, []⟩,
       ⟨some 28, .nilchk (.t 27), none, [1]⟩,
       ⟨some 29, .fieldAddr 0 (.t 28), none, [2]⟩,
       ⟨some 30, .load false 1 (.t 29), none, [3]⟩,
       ⟨some 31, .load false 1 (.t 7), none, []⟩,
       ⟨some 32, .build [(.pv (.int .i64 0)), (.pv (.int .i64 0))] [(0, 1, (.t 30)), (1, 1, (.t 31))], none, [4, 5]⟩,
       ⟨some 33, .box (.t 32), none, [6]⟩,
       ⟨some 34, .mkI 1 (.t 33), none, [7]⟩,
       ⟨some 35, .nilchk (.t 26), none, [0, 0, 1, 2, 3, 4, 5, 6, 7, 8]⟩,
       ⟨some 36, .fieldAddr 2 (.t 35), none, [9, 0, 1, 2, 3, 4, 5, 6, 7, 8]⟩,
       ⟨none, .store 1 (.t 36) (.t 34), none, [10, 8, 0, 1, 2, 3, 4, 5, 6, 7, 8]⟩])
     .skip)))))
   .skip))
  (.ops [
   ⟨some 37, .mv (.t 0), none, []⟩,
   ⟨some 38, .mv (.t 0), none, []⟩,
   ⟨some 39, .mv (.t 0), none, []⟩,
   ⟨some 40, .nilchk (.t 39), none, [2]⟩,
   ⟨some 41, .fieldAddr 0 (.t 40), none, [3]⟩,
   ⟨some 42, .load false 1 (.t 41), none, [4]⟩,
   ⟨some 43, .bin .add none (.t 42) (.c (.pv (.int .i64 1))), none, [5]⟩,
   ⟨some 44, .mv (.t 1), none, []⟩,
   ⟨some 45, .nilchk (.t 37), none, [0, 0, 2, 3, 4, 5, 6]⟩,
   ⟨some 46, .fieldAddr 0 (.t 45), none, [8, 0, 2, 3, 4, 5, 6]⟩,
   ⟨none, .store 1 (.t 46) (.t 43), none, [9, 6, 0, 2, 3, 4, 5, 6]⟩,
   ⟨some 47, .nilchk (.t 38), none, [1, 0, 1, 2, 3, 4, 5, 6, 7, 8, 9, 10]⟩,
   ⟨some 48, .fieldAddr 1 (.t 47), none, [11, 0, 1, 2, 3, 4, 5, 6, 7, 8, 9, 10]⟩,
   ⟨none, .store 1 (.t 48) (.t 44), none, [12, 7, 10, 0, 1, 2, 3, 4, 5, 6, 7, 8, 9, 10]⟩]))⟩
def f76l0 : ACode :=
 (.seq (.ops [
   ⟨some 39, .bin .lss none (.t 38) (.t 37), none, []⟩])
  (.seq (.cond (.t 39)
   .skip
   (.exit 0))
  (.seq (.block 1
   (.seq (.ops [
     ⟨some 40, .idxAddr 10 (.t 36) (.t 38), none, []⟩,
     ⟨some 41, .load true 10 (.t 40), none, [0]⟩,
     ⟨some 5, .alloc [(.pv (.int .i64 0)), (.pv (.int .i64 0)), (.pv (.int .u64 0)), (.pv (.int .u64 0)), (.pv (.int .u64 0)), (.pv (.int .u64 0)), (.pv (.int .u64 0)), (.pv (.int .u64 0)), (.pv (.int .u64 0)), (.pv (.int .u64 0))], none, []⟩,
     ⟨none, .store 10 (.t 5) (.t 41), none, [2, 1, 0, 1, 2]⟩])
    (.ops [
     ⟨some 42, .mv (.t 3), none, []⟩,
     ⟨some 43, .fieldAddr 0 (.t 5), none, []⟩,
     ⟨some 44, .load false 1 (.t 43), none, [1]⟩,
     ⟨some 45, .mkF 77 [] [(.t 5)], none, []⟩,
     ⟨some 46, .call 16 [(.t 42), (.t 44), (.t 45)], none, [0, 2, 3]⟩])))
  (.ops [
   ⟨some 47, .bin .add none (.t 38) (.c (.pv (.int .i64 1))), none, []⟩,
   ⟨some 38, .mv (.t 47), none, [0]⟩]))))
def f76l1 : ACode :=
 (.seq (.ops [
   ⟨some 55, .bin .lss none (.t 54) (.t 53), none, []⟩])
  (.seq (.cond (.t 55)
   .skip
   (.exit 2))
  (.seq (.block 3
   (.seq (.ops [
     ⟨some 56, .idxAddr 5 (.t 52) (.t 54), none, []⟩,
     ⟨some 57, .load true 5 (.t 56), none, [0]⟩,
     ⟨some 7, .alloc [(.pv (.int .i64 0)), (.pv (.bool false)), (.pv (.int .i64 0)), (.pv (.int .i64 0)), (.pv (.int .i64 0))], none, []⟩,
     ⟨none, .store 5 (.t 7) (.t 57), none, [2, 1, 0, 1, 2]⟩])
    (.ops [
     ⟨some 58, .mv (.t 3), none, []⟩,
     ⟨some 59, .fieldAddr 0 (.t 7), none, []⟩,
     ⟨some 60, .load false 1 (.t 59), none, [1]⟩,
     ⟨some 61, .mkF 78 [] [(.t 7)], none, []⟩,
     ⟨some 62, .call 16 [(.t 58), (.t 60), (.t 61)], none, [0, 2, 3]⟩])))
  (.ops [
   ⟨some 63, .bin .add none (.t 54) (.c (.pv (.int .i64 1))), none, []⟩,
   ⟨some 54, .mv (.t 63), none, [0]⟩]))))
def f76l2 : ACode :=
 (.seq (.ops [
   ⟨some 71, .bin .lss none (.t 70) (.t 69), none, []⟩])
  (.seq (.cond (.t 71)
   .skip
   (.exit 4))
  (.seq (.block 5
   (.seq (.ops [
     ⟨some 72, .idxAddr 8 (.t 68) (.t 70), none, []⟩,
     ⟨some 73, .load true 8 (.t 72), none, [0]⟩,
     ⟨some 9, .alloc [(.pv (.int .i64 0)), (.pv (.int .i64 0)), (.pv (.int .i64 0)), (.pv (.int .u64 0)), (.pv (.int .u64 0)), (.pv (.int .u64 0)), (.pv (.int .u64 0)), (.pv (.int .i64 0))], none, []⟩,
     ⟨none, .store 8 (.t 9) (.t 73), none, [2, 1, 0, 1, 2]⟩])
    (.ops [
     ⟨some 74, .mv (.t 3), none, []⟩,
     ⟨some 75, .fieldAddr 0 (.t 9), none, []⟩,
     ⟨some 76, .load false 1 (.t 75), none, [1]⟩,
     ⟨some 77, .mkF 79 [] [(.t 1), (.t 9)], none, []⟩,
     ⟨some 78, .call 16 [(.t 74), (.t 76), (.t 77)], none, [0, 2, 3]⟩])))
  (.ops [
   ⟨some 79, .bin .add none (.t 70) (.c (.pv (.int .i64 1))), none, []⟩,
   ⟨some 70, .mv (.t 79), none, [0]⟩]))))
def f76 : AFunc := ⟨84, [.t 2],
 (.seq (.ops [
   ⟨some 1, .box (.t 0), none, []⟩,
   ⟨some 2, .mv (.c (.pv .nili)), none, []⟩])
  (.seq (.seq (.ops [
   ⟨some 10, .fieldAddr 0 (.t 1), none, []⟩,
   ⟨some 11, .load false 1 (.t 10), none, [0]⟩,
   ⟨some 12, .len (.t 11), none, [1]⟩,
   ⟨some 13, .bin .lss none (.t 12) (.c (.pv (.int .i64 1))), none, [2]⟩,
   ⟨some 14, .mv (.t 13), none, [3]⟩,
   ⟨some 15, .fieldAddr 0 (.t 1), some (14, false), [4]⟩,
   ⟨some 16, .load false 1 (.t 15), some (14, false), [5, 4]⟩,
   ⟨some 17, .len (.t 16), some (14, false), [6, 4]⟩,
   ⟨some 18, .bin .gtr none (.t 17) (.c (.pv (.int .i64 8))), some (14, false), [7, 4]⟩,
   ⟨some 19, .pick (.t 14) (.c (.pv (.bool true))) (.t 18), none, [4, 8]⟩,
   ⟨some 20, .mv (.t 19), none, [9, 4]⟩,
   ⟨some 21, .fieldAddr 1 (.t 1), some (20, false), [10]⟩,
   ⟨some 22, .load false 1 (.t 21), some (20, false), [11, 10]⟩,
   ⟨some 23, .len (.t 22), some (20, false), [12, 10]⟩,
   ⟨some 24, .bin .gtr none (.t 23) (.c (.pv (.int .i64 8))), some (20, false), [13, 10]⟩,
   ⟨some 25, .pick (.t 20) (.c (.pv (.bool true))) (.t 24), none, [10, 14]⟩,
   ⟨some 26, .mv (.t 25), none, [15, 10]⟩,
   ⟨some 27, .fieldAddr 2 (.t 1), some (26, false), [16]⟩,
   ⟨some 28, .load false 1 (.t 27), some (26, false), [17, 16]⟩,
   ⟨some 29, .len (.t 28), some (26, false), [18, 16]⟩,
   ⟨some 30, .bin .gtr none (.t 29) (.c (.pv (.int .i64 12))), some (26, false), [19, 16]⟩,
   ⟨some 31, .pick (.t 26) (.c (.pv (.bool true))) (.t 30), none, [16, 20]⟩])
  (.cond (.t 31)
   (.seq (.ops [
     ⟨some 32, .mkI 0 (.c (.pv (.int .i64 3))), none, []⟩,
     ⟨some 2, .mv (.t 32), none, [0, 0]⟩])
    .ret)
   .skip))
  (.seq (.ops [
   ⟨some 33, .build [(.pv (.int .i64 0)), (.pv (.int .i64 0)), (.pv .nili)] [], none, []⟩,
   ⟨some 34, .box (.t 33), none, [0]⟩,
   ⟨some 3, .mv (.t 34), none, [1, 0, 1]⟩])
  (.seq (.seq (.ops [
   ⟨some 35, .fieldAddr 0 (.t 1), none, []⟩,
   ⟨some 36, .load false 1 (.t 35), none, [0]⟩,
   ⟨some 37, .len (.t 36), none, [1]⟩,
   ⟨some 38, .mv (.c (.pv (.int .i64 0))), none, []⟩])
  (.block 0
   (.loop f76l0)))
  (.seq (.ops [
   ⟨some 48, .mv (.t 3), none, []⟩,
   ⟨some 49, .nilchk (.t 48), none, [0, 0]⟩,
   ⟨some 50, .fieldAddr 1 (.t 49), none, [1, 0]⟩,
   ⟨none, .store 1 (.t 50) (.c (.pv (.int .i64 0))), none, [2, 0]⟩])
  (.seq (.seq (.ops [
   ⟨some 51, .fieldAddr 1 (.t 1), none, []⟩,
   ⟨some 52, .load false 1 (.t 51), none, [0]⟩,
   ⟨some 53, .len (.t 52), none, [1]⟩,
   ⟨some 54, .mv (.c (.pv (.int .i64 0))), none, []⟩])
  (.block 2
   (.loop f76l1)))
  (.seq (.ops [
   ⟨some 64, .mv (.t 3), none, []⟩,
   ⟨some 65, .nilchk (.t 64), none, [0, 0]⟩,
   ⟨some 66, .fieldAddr 1 (.t 65), none, [1, 0]⟩,
   ⟨none, .store 1 (.t 66) (.c (.pv (.int .i64 0))), none, [2, 0]⟩])
  (.seq (.seq (.ops [
   ⟨some 67, .fieldAddr 2 (.t 1), none, []⟩,
   ⟨some 68, .load false 1 (.t 67), none, [0]⟩,
   ⟨some 69, .len (.t 68), none, [1]⟩,
   ⟨some 70, .mv (.c (.pv (.int .i64 0))), none, []⟩])
  (.block 4
   (.loop f76l2)))
  (.seq (.ops [
   ⟨some 80, .mv (.t 3), none, []⟩,
   ⟨some 81, .nilchk (.t 80), none, [0]⟩,
   ⟨some 82, .fieldAddr 2 (.t 81), none, [1]⟩,
   ⟨some 83, .load false 1 (.t 82), none, [2]⟩,
   ⟨some 2, .mv (.t 83), none, [3, 0, 1, 2, 3]⟩])
  .ret)))))))))⟩
def f77 : AFunc := ⟨4, [.t 1],
 (.seq (.ops [
   ⟨some 1, .mv (.c (.pv .nili)), none, []⟩])
  (.seq (.ops [
   ⟨some 2, .load true 10 (.t 0), none, []⟩,
   ⟨some 3, .call 88 [(.t 2)], none, [0]⟩,
   ⟨some 1, .mv (.t 3), none, [1, 1, 0, 1]⟩])
  .ret))⟩
def f78 : AFunc := ⟨4, [.t 1],
 (.seq (.ops [
   ⟨some 1, .mv (.c (.pv .nili)), none, []⟩])
  (.seq (.ops [
   ⟨some 2, .load true 5 (.t 0), none, []⟩,
   ⟨some 3, .call 87 [(.t 2)], none, [0]⟩,
   ⟨some 1, .mv (.t 3), none, [1, 1, 0, 1]⟩])
  .ret))⟩
def f79 : AFunc := ⟨6, [.t 2],
 (.seq (.ops [
   ⟨some 2, .mv (.c (.pv .nili)), none, []⟩])
  (.seq (.ops [
   ⟨some 3, .load true 3 (.t 0), none, []⟩,
   ⟨some 4, .load true 8 (.t 1), none, []⟩,
   ⟨some 5, .call 89 [(.t 3), (.t 4)], none, [0, 1]⟩,
   ⟨some 2, .mv (.t 5), none, [2, 2, 0, 1, 2]⟩])
  .ret))⟩
def f80l0 : ACode :=
 (.seq (.ops [
   ⟨some 36, .bin .lss none (.t 35) (.t 34), none, []⟩])
  (.seq (.cond (.t 36)
   .skip
   (.exit 0))
  (.seq (.block 1
   (.seq (.ops [
     ⟨some 37, .mv (.t 35), none, []⟩,
     ⟨some 6, .mv (.t 37), none, [0, 0]⟩])
    (.seq (.ops [
     ⟨some 7, .alloc [(.pv (.int .i64 0))], none, []⟩])
    (.seq (.ops [
     ⟨some 38, .load true 3 (.t 2), none, []⟩,
     ⟨some 39, .fieldAddr 0 (.t 3), none, []⟩,
     ⟨some 40, .load false 1 (.t 39), none, [1]⟩,
     ⟨some 41, .mv (.t 6), none, []⟩,
     ⟨some 42, .call 90 [(.t 38), (.t 40), (.t 41)], none, [0, 2, 3]⟩,
     ⟨some 43, .mkI 3 (.t 7), none, []⟩,
     ⟨some 44, .call 266 [(.t 42), (.t 43)], none, [4, 5, 4]⟩])
    (.cond (.t 44)
     (.seq (.ops [
       ⟨some 45, .mv (.t 6), none, []⟩,
       ⟨some 46, .load false 1 (.t 7), none, []⟩,
       ⟨some 47, .build [(.pv (.int .i64 0)), (.pv (.int .i64 0))] [(0, 1, (.t 45)), (1, 1, (.t 46))], none, [0, 1]⟩,
       ⟨some 48, .box (.t 47), none, [2]⟩,
       ⟨some 49, .mkI 1 (.t 48), none, [3]⟩,
       ⟨some 4, .mv (.t 49), none, [4, 0, 1, 2, 3, 4]⟩])
      .ret)
     .skip)))))
  (.ops [
   ⟨some 50, .bin .add none (.t 35) (.c (.pv (.int .i64 1))), none, []⟩,
   ⟨some 35, .mv (.t 50), none, [0]⟩]))))
def f80 : AFunc := ⟨51, [.t 4],
 (.seq (.ops [
   ⟨some 2, .box (.t 0), none, []⟩,
   ⟨some 3, .box (.t 1), none, []⟩,
   ⟨some 4, .mv (.c (.pv .nili)), none, []⟩])
  (.seq (.seq (.ops [
   ⟨some 8, .load true 3 (.t 2), none, []⟩,
   ⟨some 9, .call 76 [(.t 8)], none, [0]⟩,
   ⟨some 5, .mv (.t 9), none, [1, 1, 0, 1]⟩])
  (.seq (.ops [
   ⟨some 10, .mv (.t 5), none, []⟩,
   ⟨some 11, .bin .neq (some (.iface true)) (.t 10) (.c (.pv .nili)), none, [0]⟩])
  (.cond (.t 11)
   (.seq (.ops [
     ⟨some 12, .mv (.t 5), none, []⟩,
     ⟨some 4, .mv (.t 12), none, [0, 0]⟩])
    .ret)
   .skip)))
  (.seq (.seq (.ops [
   ⟨some 13, .fieldAddr 1 (.t 3), none, []⟩,
   ⟨some 14, .load false 1 (.t 13), none, [0]⟩,
   ⟨some 15, .bin .lss none (.t 14) (.c (.pv (.int .i64 0))), none, [1]⟩,
   ⟨some 16, .mv (.t 15), none, [2]⟩,
   ⟨some 17, .fieldAddr 1 (.t 3), some (16, false), [3]⟩,
   ⟨some 18, .load false 1 (.t 17), some (16, false), [4, 3]⟩,
   ⟨some 19, .bin .gtr none (.t 18) (.c (.pv (.int .i64 40))), some (16, false), [5, 3]⟩,
   ⟨some 20, .pick (.t 16) (.c (.pv (.bool true))) (.t 19), none, [3, 6]⟩,
   ⟨some 21, .mv (.t 20), none, [7, 3]⟩,
   ⟨some 22, .fieldAddr 2 (.t 3), some (21, false), [8]⟩,
   ⟨some 23, .load false 1 (.t 22), some (21, false), [9, 8]⟩,
   ⟨some 24, .bin .lss none (.t 23) (.c (.pv (.int .i64 0))), some (21, false), [10, 8]⟩,
   ⟨some 25, .pick (.t 21) (.c (.pv (.bool true))) (.t 24), none, [8, 11]⟩,
   ⟨some 26, .mv (.t 25), none, [12, 8]⟩,
   ⟨some 27, .fieldAddr 2 (.t 3), some (26, false), [13]⟩,
   ⟨some 28, .load false 1 (.t 27), some (26, false), [14, 13]⟩,
   ⟨some 29, .bin .gtr none (.t 28) (.c (.pv (.int .i64 40))), some (26, false), [15, 13]⟩,
   ⟨some 30, .pick (.t 26) (.c (.pv (.bool true))) (.t 29), none, [13, 16]⟩])
  (.cond (.t 30)
   (.seq (.ops [
     ⟨some 31, .mkI 0 (.c (.pv (.int .i64 3))), none, []⟩,
     ⟨some 4, .mv (.t 31), none, [0, 0]⟩])
    .ret)
   .skip))
  (.seq (.seq (.ops [
   ⟨some 32, .fieldAddr 0 (.t 3), none, []⟩,
   ⟨some 33, .load false 1 (.t 32), none, [0]⟩,
   ⟨some 34, .len (.t 33), none, [1]⟩,
   ⟨some 35, .mv (.c (.pv (.int .i64 0))), none, []⟩])
  (.block 0
   (.loop f80l0)))
  (.seq (.ops [
   ⟨some 4, .mv (.c (.pv .nili)), none, []⟩])
  .ret)))))⟩
def f85 : AFunc := ⟨9, [.t 2],
 (.seq (.ops [
   ⟨some 2, .mv (.c (.pv (.bool false))), none, []⟩])
  (.seq (.ops [
   ⟨some 3, .mv (.t 0), none, []⟩,
   ⟨some 4, .bin .geq none (.t 3) (.c (.pv (.int .i64 0))), none, [0]⟩,
   ⟨some 5, .mv (.t 4), none, [1]⟩,
   ⟨some 6, .mv (.t 0), some (5, true), [2]⟩,
   ⟨some 7, .bin .leq none (.t 6) (.c (.pv (.int .i64 100))), some (5, true), [3, 2]⟩,
   ⟨some 8, .pick (.t 5) (.t 7) (.c (.pv (.bool false))), none, [2, 4]⟩,
   ⟨some 2, .mv (.t 8), none, [5, 2, 0, 1, 2, 3, 4, 5]⟩])
  .ret))⟩
def f86 : AFunc := ⟨27, [.t 4],
 (.seq (.ops [
   ⟨some 4, .mv (.c (.pv .nili)), none, []⟩])
  (.seq (.block 0
   (.seq (.ops [
     ⟨some 6, .mv (.t 0), none, []⟩,
     ⟨some 7, .mv (.t 1), none, []⟩,
     ⟨some 8, .bin .eql none (.t 6) (.t 7), none, [0, 1]⟩,
     ⟨some 9, .mv (.t 8), none, [2]⟩,
     ⟨some 10, .mv (.t 0), some (9, true), [3]⟩,
     ⟨some 11, .bin .geq none (.t 10) (.c (.pv (.int .i64 1))), some (9, true), [4, 3]⟩,
     ⟨some 12, .pick (.t 9) (.t 11) (.c (.pv (.bool false))), none, [3, 5]⟩,
     ⟨some 5, .mv (.t 12), none, [6, 3]⟩])
    (.cond (.t 5)
     (.seq (.ops [
       ⟨some 13, .mkI 0 (.c (.pv (.int .i64 5))), none, []⟩,
       ⟨some 4, .mv (.t 13), none, [0, 0]⟩])
      .ret)
     (.seq (.ops [
       ⟨some 15, .mv (.t 0), none, []⟩,
       ⟨some 16, .bin .lss none (.t 15) (.c (.pv (.int .i64 1))), none, [0]⟩,
       ⟨some 17, .mv (.t 16), none, [1]⟩,
       ⟨some 18, .mv (.t 0), some (17, false), [2]⟩,
       ⟨some 19, .bin .gtr none (.t 18) (.c (.pv (.int .i64 2147483647))), some (17, false), [3, 2]⟩,
       ⟨some 20, .pick (.t 17) (.c (.pv (.bool true))) (.t 19), none, [2, 4]⟩,
       ⟨some 21, .mv (.t 20), none, [5, 2]⟩,
       ⟨some 22, .mv (.t 0), some (21, false), [6]⟩,
       ⟨some 23, .mv (.t 1), some (21, false), [6]⟩,
       ⟨some 24, .bin .lss none (.t 22) (.t 23), some (21, false), [7, 8, 6]⟩,
       ⟨some 25, .pick (.t 21) (.c (.pv (.bool true))) (.t 24), none, [6, 9]⟩,
       ⟨some 14, .mv (.t 25), none, [10, 6]⟩])
      (.cond (.t 14)
       (.seq (.ops [
         ⟨some 26, .mkI 0 (.c (.pv (.int .i64 1))), none, []⟩,
         ⟨some 4, .mv (.t 26), none, [0, 0]⟩])
        .ret)
       .skip)))))
  (.seq (.ops [
   ⟨some 4, .mv (.c (.pv .nili)), none, []⟩])
  .ret)))⟩
def f87 : AFunc := ⟨27, [.t 2],
 (.seq (.ops [
   ⟨some 1, .box (.t 0), none, []⟩,
   ⟨some 2, .mv (.c (.pv .nili)), none, []⟩])
  (.seq (.seq (.ops [
   ⟨some 3, .fieldAddr 2 (.t 1), none, []⟩,
   ⟨some 4, .load false 1 (.t 3), none, [0]⟩,
   ⟨some 5, .call 85 [(.t 4)], none, [1]⟩,
   ⟨some 6, .not (.t 5), none, [2]⟩,
   ⟨some 7, .mv (.t 6), none, [3, 2]⟩,
   ⟨some 8, .fieldAddr 3 (.t 1), some (7, false), [4]⟩,
   ⟨some 9, .load false 1 (.t 8), some (7, false), [5, 4]⟩,
   ⟨some 10, .call 85 [(.t 9)], some (7, false), [6, 4, 4]⟩,
   ⟨some 11, .not (.t 10), some (7, false), [7, 4]⟩,
   ⟨some 12, .pick (.t 7) (.c (.pv (.bool true))) (.t 11), none, [4, 8]⟩,
   ⟨some 13, .mv (.t 12), none, [9, 7]⟩,
   ⟨some 14, .fieldAddr 4 (.t 1), some (13, false), [10]⟩,
   ⟨some 15, .load false 1 (.t 14), some (13, false), [11, 10]⟩,
   ⟨some 16, .call 85 [(.t 15)], some (13, false), [12, 10, 10]⟩,
   ⟨some 17, .not (.t 16), some (13, false), [13, 10]⟩,
   ⟨some 18, .pick (.t 13) (.c (.pv (.bool true))) (.t 17), none, [10, 14]⟩,
   ⟨some 19, .mv (.t 18), none, [15, 13]⟩,
   ⟨some 20, .fieldAddr 3 (.t 1), some (19, false), [16]⟩,
   ⟨some 21, .load false 1 (.t 20), some (19, false), [17, 16]⟩,
   ⟨some 22, .fieldAddr 4 (.t 1), some (19, false), [16]⟩,
   ⟨some 23, .load false 1 (.t 22), some (19, false), [19, 16]⟩,
   ⟨some 24, .bin .gtr none (.t 21) (.t 23), some (19, false), [18, 20, 16]⟩,
   ⟨some 25, .pick (.t 19) (.c (.pv (.bool true))) (.t 24), none, [16, 21]⟩])
  (.cond (.t 25)
   (.seq (.ops [
     ⟨some 26, .mkI 0 (.c (.pv (.int .i64 1))), none, []⟩,
     ⟨some 2, .mv (.t 26), none, [0, 0]⟩])
    .ret)
   .skip))
  (.seq (.ops [
   ⟨some 2, .mv (.c (.pv .nili)), none, []⟩])
  .ret)))⟩
def f88 : AFunc := ⟨20, [.t 2],
 (.seq (.ops [
   ⟨some 1, .box (.t 0), none, []⟩,
   ⟨some 2, .mv (.c (.pv .nili)), none, []⟩])
  (.seq (.seq (.ops [
   ⟨some 3, .fieldAddr 1 (.t 1), none, []⟩,
   ⟨some 4, .load false 1 (.t 3), none, [0]⟩,
   ⟨some 5, .bin .lss none (.t 4) (.c (.pv (.int .i64 1))), none, [1]⟩,
   ⟨some 6, .mv (.t 5), none, [2]⟩,
   ⟨some 7, .fieldAddr 1 (.t 1), some (6, false), [3]⟩,
   ⟨some 8, .load false 1 (.t 7), some (6, false), [4, 3]⟩,
   ⟨some 9, .bin .gtr none (.t 8) (.c (.pv (.int .i64 8))), some (6, false), [5, 3]⟩,
   ⟨some 10, .pick (.t 6) (.c (.pv (.bool true))) (.t 9), none, [3, 6]⟩,
   ⟨some 11, .mv (.t 10), none, [7, 3]⟩,
   ⟨some 12, .fieldAddr 6 (.t 1), some (11, false), [8]⟩,
   ⟨some 13, .load true 4 (.t 12), some (11, false), [9, 8]⟩,
   ⟨some 14, .fieldAddr 2 (.t 1), some (11, false), [8]⟩,
   ⟨some 15, .load true 4 (.t 14), some (11, false), [11, 8]⟩,
   ⟨some 16, .call 257 [(.t 13), (.t 15)], some (11, false), [10, 12, 8, 8]⟩,
   ⟨some 17, .not (.t 16), some (11, false), [13, 8]⟩,
   ⟨some 18, .pick (.t 11) (.c (.pv (.bool true))) (.t 17), none, [8, 14]⟩])
  (.cond (.t 18)
   (.seq (.ops [
     ⟨some 19, .mkI 0 (.c (.pv (.int .i64 1))), none, []⟩,
     ⟨some 2, .mv (.t 19), none, [0, 0]⟩])
    .ret)
   .skip))
  (.seq (.ops [
   ⟨some 2, .mv (.c (.pv .nili)), none, []⟩])
  .ret)))⟩
def f89 : AFunc := ⟨40, [.t 4],
 (.seq (.ops [
   ⟨some 2, .box (.t 0), none, []⟩,
   ⟨some 3, .box (.t 1), none, []⟩,
   ⟨some 4, .mv (.c (.pv .nili)), none, []⟩])
  (.seq (.seq (.ops [
   ⟨some 9, .fieldAddr 2 (.t 3), none, []⟩,
   ⟨some 10, .load false 1 (.t 9), none, [0]⟩,
   ⟨some 11, .call 85 [(.t 10)], none, [1]⟩,
   ⟨some 12, .not (.t 11), none, [2]⟩])
  (.cond (.t 12)
   (.seq (.ops [
     ⟨some 13, .mkI 0 (.c (.pv (.int .i64 1))), none, []⟩,
     ⟨some 4, .mv (.t 13), none, [0, 0]⟩])
    .ret)
   .skip))
  (.seq (.ops [
   ⟨some 15, .load true 3 (.t 2), none, []⟩,
   ⟨some 16, .fieldAddr 1 (.t 3), none, []⟩,
   ⟨some 17, .load false 1 (.t 16), none, [1]⟩,
   ⟨some 18, .call 81 [(.t 15), (.t 17)], none, [0, 2]⟩,
   ⟨some 14, .mv (.t 18), none, [3]⟩,
   ⟨some 19, .extract (.t 14) 0, none, [4]⟩,
   ⟨some 20, .extract (.t 14) 1, none, [4]⟩,
   ⟨some 5, .alloc [(.pv (.int .i64 0)), (.pv (.bool false)), (.pv (.int .i64 0)), (.pv (.int .i64 0)), (.pv (.int .i64 0))], none, []⟩,
   ⟨none, .store 5 (.t 5) (.t 19), none, [7, 5, 3, 0, 1, 2, 3, 4, 5, 7]⟩,
   ⟨some 6, .mv (.t 20), none, [6, 8, 0, 1, 2, 3, 4, 5, 6, 7, 8]⟩])
  (.seq (.ops [
   ⟨some 22, .load true 3 (.t 2), none, []⟩,
   ⟨some 23, .fieldAddr 7 (.t 3), none, []⟩,
   ⟨some 24, .load false 1 (.t 23), none, [1]⟩,
   ⟨some 25, .call 82 [(.t 22), (.t 24)], none, [0, 2]⟩,
   ⟨some 21, .mv (.t 25), none, [3]⟩,
   ⟨some 26, .extract (.t 21) 0, none, [4]⟩,
   ⟨some 27, .extract (.t 21) 1, none, [4]⟩,
   ⟨some 7, .alloc [(.pv (.int .i64 0)), (.pv (.int .i64 0)), (.pv (.int .u64 0)), (.pv (.int .u64 0)), (.pv (.int .u64 0)), (.pv (.int .u64 0)), (.pv (.int .u64 0)), (.pv (.int .u64 0)), (.pv (.int .u64 0)), (.pv (.int .u64 0))], none, []⟩,
   ⟨none, .store 10 (.t 7) (.t 26), none, [7, 5, 3, 0, 1, 2, 3, 4, 5, 7]⟩,
   ⟨some 8, .mv (.t 27), none, [6, 8, 0, 1, 2, 3, 4, 5, 6, 7, 8]⟩])
  (.seq (.seq (.ops [
   ⟨some 28, .mv (.t 6), none, []⟩,
   ⟨some 29, .not (.t 28), none, [0]⟩,
   ⟨some 30, .mv (.t 29), none, [1]⟩,
   ⟨some 31, .fieldAddr 7 (.t 3), some (30, false), [2]⟩,
   ⟨some 32, .load false 1 (.t 31), some (30, false), [3, 2]⟩,
   ⟨some 33, .bin .neq none (.t 32) (.c (.pv (.int .i64 0))), some (30, false), [4, 2]⟩,
   ⟨some 34, .mv (.t 33), some (30, false), [5, 2, 2]⟩,
   ⟨some 35, .mv (.t 8), some (34, true), [6]⟩,
   ⟨some 36, .not (.t 35), some (34, true), [7, 6]⟩,
   ⟨some 37, .pick (.t 34) (.t 36) (.c (.pv (.bool false))), some (30, false), [6, 8, 2]⟩,
   ⟨some 38, .pick (.t 30) (.c (.pv (.bool true))) (.t 37), none, [2, 9]⟩])
  (.cond (.t 38)
   (.seq (.ops [
     ⟨some 39, .mkI 0 (.c (.pv (.int .i64 4))), none, []⟩,
     ⟨some 4, .mv (.t 39), none, [0, 0]⟩])
    .ret)
   .skip))
  (.seq (.ops [
   ⟨some 4, .mv (.c (.pv .nili)), none, []⟩])
  .ret))))))⟩
def f90 : AFunc := ⟨60, [.t 6],
 (.seq (.ops [
   ⟨some 3, .box (.t 0), none, []⟩,
   ⟨some 6, .mv (.c (.pv .nili)), none, []⟩])
  (.seq (.ops [
   ⟨some 8, .mv (.t 1), none, []⟩,
   ⟨some 9, .mv (.t 2), none, []⟩,
   ⟨some 10, .idxAddr 6 (.t 8) (.t 9), none, [0, 1]⟩,
   ⟨some 11, .load true 6 (.t 10), none, [2]⟩,
   ⟨some 7, .alloc [(.pv (.int .i64 0)), (.pv (.int .u64 0)), (.pv (.int .u64 0)), (.pv (.int .u64 0)), (.pv (.int .u64 0)), (.pv (.bool false))], none, []⟩,
   ⟨none, .store 6 (.t 7) (.t 11), none, [4, 3, 0, 1, 2, 3, 4]⟩])
  (.seq (.block 0
   (.seq (.draw [
     ⟨some 13, .mv (.t 2), none, []⟩,
     ⟨some 14, .bin .gtr none (.t 13) (.c (.pv (.int .i64 0))), none, [0]⟩,
     ⟨some 15, .mv (.t 14), none, [1]⟩,
     ⟨some 16, .fieldAddr 0 (.t 7), some (15, true), [2]⟩,
     ⟨some 17, .load false 1 (.t 16), some (15, true), [3, 2]⟩,
     ⟨some 18, .mv (.t 1), some (15, true), [2]⟩,
     ⟨some 19, .mv (.t 2), some (15, true), [2]⟩,
     ⟨some 20, .bin .sub none (.t 19) (.c (.pv (.int .i64 1))), some (15, true), [6, 2]⟩,
     ⟨some 21, .idxAddr 6 (.t 18) (.t 20), some (15, true), [5, 7, 2]⟩,
     ⟨some 22, .fieldAddr 0 (.t 21), some (15, true), [8, 2]⟩,
     ⟨some 23, .load false 1 (.t 22), some (15, true), [9, 2]⟩,
     ⟨some 24, .bin .eql none (.t 17) (.t 23), some (15, true), [4, 10, 2]⟩,
     ⟨some 25, .pick (.t 15) (.t 24) (.c (.pv (.bool false))), none, [2, 11]⟩,
     ⟨some 12, .mv (.t 25), none, [12, 2]⟩])
    (.cond (.t 12)
     (.seq (.ops [
       ⟨some 26, .mkI 0 (.c (.pv (.int .i64 5))), none, []⟩,
       ⟨some 6, .mv (.t 26), none, [0, 0]⟩])
      .ret)
     (.seq (.draw [
       ⟨some 28, .mv (.t 2), none, []⟩,
       ⟨some 29, .bin .gtr none (.t 28) (.c (.pv (.int .i64 0))), none, [0]⟩,
       ⟨some 30, .mv (.t 29), none, [1]⟩,
       ⟨some 31, .fieldAddr 0 (.t 7), some (30, true), [2]⟩,
       ⟨some 32, .load false 1 (.t 31), some (30, true), [3, 2]⟩,
       ⟨some 33, .mv (.t 1), some (30, true), [2]⟩,
       ⟨some 34, .mv (.t 2), some (30, true), [2]⟩,
       ⟨some 35, .bin .sub none (.t 34) (.c (.pv (.int .i64 1))), some (30, true), [6, 2]⟩,
       ⟨some 36, .idxAddr 6 (.t 33) (.t 35), some (30, true), [5, 7, 2]⟩,
       ⟨some 37, .fieldAddr 0 (.t 36), some (30, true), [8, 2]⟩,
       ⟨some 38, .load false 1 (.t 37), some (30, true), [9, 2]⟩,
       ⟨some 39, .bin .lss none (.t 32) (.t 38), some (30, true), [4, 10, 2]⟩,
       ⟨some 40, .pick (.t 30) (.t 39) (.c (.pv (.bool false))), none, [2, 11]⟩,
       ⟨some 27, .mv (.t 40), none, [12, 2]⟩])
      (.cond (.t 27)
       (.seq (.ops [
         ⟨some 41, .mkI 0 (.c (.pv (.int .i64 1))), none, []⟩,
         ⟨some 6, .mv (.t 41), none, [0, 0]⟩])
        .ret)
       (.seq (.ops [
         ⟨some 43, .fieldAddr 2 (.t 3), none, []⟩,
         ⟨some 44, .load false 1 (.t 43), none, [0]⟩,
         ⟨some 45, .mkF 91 [] [(.t 7)], none, []⟩,
         ⟨some 46, .call 282 [(.t 44), (.t 45)], none, [1, 2]⟩,
         ⟨some 47, .not (.t 46), none, [3]⟩,
         ⟨some 42, .mv (.t 47), none, [4, 3]⟩])
        (.cond (.t 42)
         (.seq (.ops [
           ⟨some 48, .mkI 0 (.c (.pv (.int .i64 4))), none, []⟩,
           ⟨some 6, .mv (.t 48), none, [0, 0]⟩])
          .ret)
         (.seq (.ops [
           ⟨some 50, .fieldAddr 5 (.t 7), none, []⟩,
           ⟨some 51, .load false 1 (.t 50), none, [0]⟩,
           ⟨some 52, .not (.t 51), none, [1]⟩,
           ⟨some 53, .mv (.t 52), none, [2]⟩,
           ⟨some 54, .fieldAddr 1 (.t 7), some (53, true), [3]⟩,
           ⟨some 55, .load true 4 (.t 54), some (53, true), [4, 3]⟩,
           ⟨some 56, .build [(.pv (.int .u64 0)), (.pv (.int .u64 0)), (.pv (.int .u64 0)), (.pv (.int .u64 0))] [], some (53, true), [3]⟩,
           ⟨some 57, .bin .neq (some (.plain [false, false, false, false])) (.t 55) (.t 56), some (53, true), [5, 6, 3]⟩,
           ⟨some 58, .pick (.t 53) (.t 57) (.c (.pv (.bool false))), none, [3, 7]⟩,
           ⟨some 49, .mv (.t 58), none, [8, 3]⟩])
          (.cond (.t 49)
           (.seq (.ops [
             ⟨some 59, .mkI 0 (.c (.pv (.int .i64 1))), none, []⟩,
             ⟨some 6, .mv (.t 59), none, [0, 0]⟩])
            .ret)
           .skip)))))))))
  (.seq (.ops [
   ⟨some 6, .mv (.c (.pv .nili)), none, []⟩])
  .ret))))⟩
def f91 : AFunc := ⟨9, [.t 3],
 (.seq (.ops [
   ⟨some 2, .box (.t 0), none, []⟩,
   ⟨some 3, .mv (.c (.pv (.bool false))), none, []⟩])
  (.seq (.ops [
   ⟨some 4, .fieldAddr 0 (.t 2), none, []⟩,
   ⟨some 5, .load false 1 (.t 4), none, [0]⟩,
   ⟨some 6, .fieldAddr 0 (.t 1), none, []⟩,
   ⟨some 7, .load false 1 (.t 6), none, [2]⟩,
   ⟨some 8, .bin .eql none (.t 5) (.t 7), none, [1, 3]⟩,
   ⟨some 3, .mv (.t 8), none, [4, 0, 1, 2, 3, 4]⟩])
  .ret))⟩
def f151l0 : ACode :=
 (.seq (.seq (.ops [
   ⟨some 42, .mv (.t 6), none, []⟩,
   ⟨some 43, .fieldAddr 0 (.t 1), none, []⟩,
   ⟨some 44, .load false 1 (.t 43), none, [1]⟩,
   ⟨some 45, .len (.t 44), none, [2]⟩,
   ⟨some 46, .bin .lss none (.t 42) (.t 45), none, [0, 3]⟩])
  (.cond (.t 46)
   .skip
   (.exit 0)))
  (.seq (.block 1
   (.seq (.ops [
     ⟨some 49, .fieldAddr 0 (.t 1), none, []⟩,
     ⟨some 50, .load false 1 (.t 49), none, [0]⟩,
     ⟨some 51, .mv (.t 6), none, []⟩,
     ⟨some 52, .idxAddr 10 (.t 50) (.t 51), none, [1, 2]⟩,
     ⟨some 53, .load true 10 (.t 52), none, [3]⟩,
     ⟨some 7, .alloc [(.pv (.int .i64 0)), (.pv (.int .i64 0)), (.pv (.int .u64 0)), (.pv (.int .u64 0)), (.pv (.int .u64 0)), (.pv (.int .u64 0)), (.pv (.int .u64 0)), (.pv (.int .u64 0)), (.pv (.int .u64 0)), (.pv (.int .u64 0))], none, []⟩,
     ⟨none, .store 10 (.t 7) (.t 53), none, [5, 4, 0, 1, 2, 3, 4, 5]⟩])
    (.seq (.ops [
     ⟨some 54, .fieldAddr 0 (.t 7), none, []⟩,
     ⟨some 55, .load false 1 (.t 54), none, [0]⟩,
     ⟨some 56, .mv (.t 4), none, []⟩,
     ⟨some 57, .call 160 [(.t 55), (.t 56)], none, [1, 2]⟩,
     ⟨some 8, .mv (.t 57), none, [3, 3, 0, 1, 2, 3]⟩])
    (.seq (.ops [
     ⟨some 58, .fieldAddr 6 (.t 7), none, []⟩,
     ⟨some 59, .load true 4 (.t 58), none, [0]⟩,
     ⟨some 60, .fieldAddr 2 (.t 7), none, []⟩,
     ⟨some 61, .load true 4 (.t 60), none, [2]⟩,
     ⟨some 62, .call 141 [(.t 59), (.t 61)], none, [1, 3]⟩,
     ⟨some 9, .mv (.t 62), none, [4, 4, 0, 1, 2, 3, 4]⟩])
    (.seq (.seq (.ops [
     ⟨some 63, .mv (.t 8), none, []⟩,
     ⟨some 64, .bin .eql none (.t 63) (.c (.pv (.int .i64 0))), none, [0]⟩,
     ⟨some 65, .mv (.t 64), none, [1]⟩,
     ⟨some 66, .fieldAddr 1 (.t 7), some (65, true), [2]⟩,
     ⟨some 67, .load false 1 (.t 66), some (65, true), [3, 2]⟩,
     ⟨some 68, .bin .lss none (.t 67) (.c (.pv (.int .i64 1))), some (65, true), [4, 2]⟩,
     ⟨some 69, .mv (.t 68), some (65, true), [5, 2, 2]⟩,
     ⟨some 70, .fieldAddr 1 (.t 7), some (69, false), [6]⟩,
     ⟨some 71, .load false 1 (.t 70), some (69, false), [7, 6]⟩,
     ⟨some 72, .bin .gtr none (.t 71) (.c (.pv (.int .i64 8))), some (69, false), [8, 6]⟩,
     ⟨some 73, .pick (.t 69) (.c (.pv (.bool true))) (.t 72), some (65, true), [6, 9, 2]⟩,
     ⟨some 74, .mv (.t 73), some (65, true), [10, 6, 2]⟩,
     ⟨some 75, .mv (.t 9), some (74, false), [11]⟩,
     ⟨some 76, .not (.t 75), some (74, false), [12, 11]⟩,
     ⟨some 77, .pick (.t 74) (.c (.pv (.bool true))) (.t 76), some (65, true), [11, 13, 2]⟩,
     ⟨some 78, .pick (.t 65) (.t 77) (.c (.pv (.bool false))), none, [2, 14]⟩])
    (.cond (.t 78)
     (.ops [
       ⟨some 8, .mv (.c (.pv (.int .i64 1))), none, []⟩])
     .skip))
    (.seq (.seq (.ops [
     ⟨some 79, .mv (.t 8), none, []⟩,
     ⟨some 80, .bin .neq none (.t 79) (.c (.pv (.int .i64 0))), none, [0]⟩])
    (.cond (.t 80)
     (.seq (.ops [
       ⟨some 81, .mv (.t 8), none, []⟩,
       ⟨some 82, .mv (.t 5), none, []⟩,
       ⟨some 2, .mv (.t 81), none, [0, 0]⟩,
       ⟨some 3, .mv (.t 82), none, [1, 2, 0, 1, 2]⟩])
      .ret)
     .skip))
    (.seq (.ops [
     ⟨some 83, .fieldAddr 0 (.t 7), none, []⟩,
     ⟨some 84, .load false 1 (.t 83), none, [0]⟩,
     ⟨some 4, .mv (.t 84), none, [1, 0, 1]⟩])
    (.ops [
     ⟨some 85, .mv (.t 5), none, []⟩,
     ⟨some 86, .bin .add none (.t 85) (.c (.pv (.int .i64 1))), none, [0]⟩,
     ⟨some 5, .mv (.t 86), none, [1, 0, 1]⟩]))))))))
  (.ops [
   ⟨some 47, .mv (.t 6), none, []⟩,
   ⟨some 48, .bin .add none (.t 47) (.c (.pv (.int .i64 1))), none, [0]⟩,
   ⟨some 6, .mv (.t 48), none, [1, 0, 1]⟩])))
def f151l1 : ACode :=
 (.seq (.seq (.ops [
   ⟨some 87, .mv (.t 10), none, []⟩,
   ⟨some 88, .fieldAddr 1 (.t 1), none, []⟩,
   ⟨some 89, .load false 1 (.t 88), none, [1]⟩,
   ⟨some 90, .len (.t 89), none, [2]⟩,
   ⟨some 91, .bin .lss none (.t 87) (.t 90), none, [0, 3]⟩])
  (.cond (.t 91)
   .skip
   (.exit 2)))
  (.seq (.block 3
   (.seq (.ops [
     ⟨some 94, .fieldAddr 1 (.t 1), none, []⟩,
     ⟨some 95, .load false 1 (.t 94), none, [0]⟩,
     ⟨some 96, .mv (.t 10), none, []⟩,
     ⟨some 97, .idxAddr 5 (.t 95) (.t 96), none, [1, 2]⟩,
     ⟨some 98, .load true 5 (.t 97), none, [3]⟩,
     ⟨some 11, .alloc [(.pv (.int .i64 0)), (.pv (.bool false)), (.pv (.int .i64 0)), (.pv (.int .i64 0)), (.pv (.int .i64 0))], none, []⟩,
     ⟨none, .store 5 (.t 11) (.t 98), none, [5, 4, 0, 1, 2, 3, 4, 5]⟩])
    (.seq (.ops [
     ⟨some 99, .fieldAddr 0 (.t 11), none, []⟩,
     ⟨some 100, .load false 1 (.t 99), none, [0]⟩,
     ⟨some 101, .mv (.t 4), none, []⟩,
     ⟨some 102, .call 160 [(.t 100), (.t 101)], none, [1, 2]⟩,
     ⟨some 12, .mv (.t 102), none, [3, 3, 0, 1, 2, 3]⟩])
    (.seq (.ops [
     ⟨some 103, .fieldAddr 2 (.t 11), none, []⟩,
     ⟨some 104, .load false 1 (.t 103), none, [0]⟩,
     ⟨some 105, .call 159 [(.t 104)], none, [1]⟩,
     ⟨some 13, .mv (.t 105), none, [2, 2, 0, 1, 2]⟩])
    (.seq (.ops [
     ⟨some 106, .fieldAddr 3 (.t 11), none, []⟩,
     ⟨some 107, .load false 1 (.t 106), none, [0]⟩,
     ⟨some 108, .call 159 [(.t 107)], none, [1]⟩,
     ⟨some 14, .mv (.t 108), none, [2, 2, 0, 1, 2]⟩])
    (.seq (.ops [
     ⟨some 109, .fieldAddr 4 (.t 11), none, []⟩,
     ⟨some 110, .load false 1 (.t 109), none, [0]⟩,
     ⟨some 111, .call 159 [(.t 110)], none, [1]⟩,
     ⟨some 15, .mv (.t 111), none, [2, 2, 0, 1, 2]⟩])
    (.seq (.seq (.ops [
     ⟨some 112, .mv (.t 12), none, []⟩,
     ⟨some 113, .bin .eql none (.t 112) (.c (.pv (.int .i64 0))), none, [0]⟩,
     ⟨some 114, .mv (.t 113), none, [1]⟩,
     ⟨some 115, .mv (.t 13), some (114, true), [2]⟩,
     ⟨some 116, .not (.t 115), some (114, true), [3, 2]⟩,
     ⟨some 117, .mv (.t 116), some (114, true), [4, 2, 2]⟩,
     ⟨some 118, .mv (.t 14), some (117, false), [5]⟩,
     ⟨some 119, .not (.t 118), some (117, false), [6, 5]⟩,
     ⟨some 120, .pick (.t 117) (.c (.pv (.bool true))) (.t 119), some (114, true), [5, 7, 2]⟩,
     ⟨some 121, .mv (.t 120), some (114, true), [8, 5, 2]⟩,
     ⟨some 122, .mv (.t 15), some (121, false), [9]⟩,
     ⟨some 123, .not (.t 122), some (121, false), [10, 9]⟩,
     ⟨some 124, .pick (.t 121) (.c (.pv (.bool true))) (.t 123), some (114, true), [9, 11, 2]⟩,
     ⟨some 125, .mv (.t 124), some (114, true), [12, 9, 2]⟩,
     ⟨some 126, .fieldAddr 3 (.t 11), some (125, false), [13]⟩,
     ⟨some 127, .load false 1 (.t 126), some (125, false), [14, 13]⟩,
     ⟨some 128, .fieldAddr 4 (.t 11), some (125, false), [13]⟩,
     ⟨some 129, .load false 1 (.t 128), some (125, false), [16, 13]⟩,
     ⟨some 130, .bin .gtr none (.t 127) (.t 129), some (125, false), [15, 17, 13]⟩,
     ⟨some 131, .pick (.t 125) (.c (.pv (.bool true))) (.t 130), some (114, true), [13, 18, 2]⟩,
     ⟨some 132, .pick (.t 114) (.t 131) (.c (.pv (.bool false))), none, [2, 19]⟩])
    (.cond (.t 132)
     (.ops [
       ⟨some 12, .mv (.c (.pv (.int .i64 1))), none, []⟩])
     .skip))
    (.seq (.seq (.ops [
     ⟨some 133, .mv (.t 12), none, []⟩,
     ⟨some 134, .bin .neq none (.t 133) (.c (.pv (.int .i64 0))), none, [0]⟩])
    (.cond (.t 134)
     (.seq (.ops [
       ⟨some 135, .mv (.t 12), none, []⟩,
       ⟨some 136, .mv (.t 5), none, []⟩,
       ⟨some 2, .mv (.t 135), none, [0, 0]⟩,
       ⟨some 3, .mv (.t 136), none, [1, 2, 0, 1, 2]⟩])
      .ret)
     .skip))
    (.seq (.ops [
     ⟨some 137, .fieldAddr 0 (.t 11), none, []⟩,
     ⟨some 138, .load false 1 (.t 137), none, [0]⟩,
     ⟨some 4, .mv (.t 138), none, [1, 0, 1]⟩])
    (.ops [
     ⟨some 139, .mv (.t 5), none, []⟩,
     ⟨some 140, .bin .add none (.t 139) (.c (.pv (.int .i64 1))), none, [0]⟩,
     ⟨some 5, .mv (.t 140), none, [1, 0, 1]⟩]))))))))))
  (.ops [
   ⟨some 92, .mv (.t 10), none, []⟩,
   ⟨some 93, .bin .add none (.t 92) (.c (.pv (.int .i64 1))), none, [0]⟩,
   ⟨some 10, .mv (.t 93), none, [1, 0, 1]⟩])))
def f151l2 : ACode :=
 (.seq (.seq (.ops [
   ⟨some 141, .mv (.t 16), none, []⟩,
   ⟨some 142, .fieldAddr 2 (.t 1), none, []⟩,
   ⟨some 143, .load false 1 (.t 142), none, [1]⟩,
   ⟨some 144, .len (.t 143), none, [2]⟩,
   ⟨some 145, .bin .lss none (.t 141) (.t 144), none, [0, 3]⟩])
  (.cond (.t 145)
   .skip
   (.exit 4)))
  (.seq (.block 5
   (.seq (.ops [
     ⟨some 148, .fieldAddr 2 (.t 1), none, []⟩,
     ⟨some 149, .load false 1 (.t 148), none, [0]⟩,
     ⟨some 150, .mv (.t 16), none, []⟩,
     ⟨some 151, .idxAddr 8 (.t 149) (.t 150), none, [1, 2]⟩,
     ⟨some 152, .load true 8 (.t 151), none, [3]⟩,
     ⟨some 17, .alloc [(.pv (.int .i64 0)), (.pv (.int .i64 0)), (.pv (.int .i64 0)), (.pv (.int .u64 0)), (.pv (.int .u64 0)), (.pv (.int .u64 0)), (.pv (.int .u64 0)), (.pv (.int .i64 0))], none, []⟩,
     ⟨none, .store 8 (.t 17) (.t 152), none, [5, 4, 0, 1, 2, 3, 4, 5]⟩])
    (.seq (.ops [
     ⟨some 153, .fieldAddr 0 (.t 17), none, []⟩,
     ⟨some 154, .load false 1 (.t 153), none, [0]⟩,
     ⟨some 155, .mv (.t 4), none, []⟩,
     ⟨some 156, .call 160 [(.t 154), (.t 155)], none, [1, 2]⟩,
     ⟨some 18, .mv (.t 156), none, [3, 3, 0, 1, 2, 3]⟩])
    (.seq (.ops [
     ⟨some 157, .fieldAddr 2 (.t 17), none, []⟩,
     ⟨some 158, .load false 1 (.t 157), none, [0]⟩,
     ⟨some 159, .call 159 [(.t 158)], none, [1]⟩,
     ⟨some 19, .mv (.t 159), none, [2, 2, 0, 1, 2]⟩])
    (.seq (.seq (.ops [
     ⟨some 160, .mv (.t 18), none, []⟩,
     ⟨some 161, .bin .eql none (.t 160) (.c (.pv (.int .i64 0))), none, [0]⟩,
     ⟨some 162, .mv (.t 161), none, [1]⟩,
     ⟨some 163, .mv (.t 19), some (162, true), [2]⟩,
     ⟨some 164, .not (.t 163), some (162, true), [3, 2]⟩,
     ⟨some 165, .pick (.t 162) (.t 164) (.c (.pv (.bool false))), none, [2, 4]⟩])
    (.cond (.t 165)
     (.ops [
       ⟨some 18, .mv (.c (.pv (.int .i64 1))), none, []⟩])
     .skip))
    (.seq (.seq (.ops [
     ⟨some 166, .mv (.t 18), none, []⟩,
     ⟨some 167, .bin .eql none (.t 166) (.c (.pv (.int .i64 0))), none, [0]⟩,
     ⟨some 168, .mv (.t 167), none, [1]⟩,
     ⟨some 169, .load true 3 (.t 1), some (168, true), [2]⟩,
     ⟨some 170, .fieldAddr 1 (.t 17), some (168, true), [2]⟩,
     ⟨some 171, .load false 1 (.t 170), some (168, true), [4, 2]⟩,
     ⟨some 172, .call 154 [(.t 169), (.t 171)], some (168, true), [3, 5, 2, 2]⟩,
     ⟨some 173, .bin .lss none (.t 172) (.c (.pv (.int .i64 0))), some (168, true), [6, 2]⟩,
     ⟨some 174, .mv (.t 173), some (168, true), [7, 6, 2]⟩,
     ⟨some 175, .fieldAddr 7 (.t 17), some (174, false), [8]⟩,
     ⟨some 176, .load false 1 (.t 175), some (174, false), [9, 8]⟩,
     ⟨some 177, .bin .neq none (.t 176) (.c (.pv (.int .i64 0))), some (174, false), [10, 8]⟩,
     ⟨some 178, .mv (.t 177), some (174, false), [11, 8, 8]⟩,
     ⟨some 179, .load true 3 (.t 1), some (178, true), [12]⟩,
     ⟨some 180, .fieldAddr 7 (.t 17), some (178, true), [12]⟩,
     ⟨some 181, .load false 1 (.t 180), some (178, true), [14, 12]⟩,
     ⟨some 182, .call 155 [(.t 179), (.t 181)], some (178, true), [13, 15, 12, 12]⟩,
     ⟨some 183, .bin .lss none (.t 182) (.c (.pv (.int .i64 0))), some (178, true), [16, 12]⟩,
     ⟨some 184, .pick (.t 178) (.t 183) (.c (.pv (.bool false))), some (174, false), [12, 17, 8]⟩,
     ⟨some 185, .pick (.t 174) (.c (.pv (.bool true))) (.t 184), some (168, true), [8, 18, 2]⟩,
     ⟨some 186, .pick (.t 168) (.t 185) (.c (.pv (.bool false))), none, [2, 19]⟩])
    (.cond (.t 186)
     (.ops [
       ⟨some 18, .mv (.c (.pv (.int .i64 4))), none, []⟩])
     .skip))
    (.seq (.seq (.ops [
     ⟨some 187, .mv (.t 18), none, []⟩,
     ⟨some 188, .bin .neq none (.t 187) (.c (.pv (.int .i64 0))), none, [0]⟩])
    (.cond (.t 188)
     (.seq (.ops [
       ⟨some 189, .mv (.t 18), none, []⟩,
       ⟨some 190, .mv (.t 5), none, []⟩,
       ⟨some 2, .mv (.t 189), none, [0, 0]⟩,
       ⟨some 3, .mv (.t 190), none, [1, 2, 0, 1, 2]⟩])
      .ret)
     .skip))
    (.seq (.ops [
     ⟨some 191, .fieldAddr 0 (.t 17), none, []⟩,
     ⟨some 192, .load false 1 (.t 191), none, [0]⟩,
     ⟨some 4, .mv (.t 192), none, [1, 0, 1]⟩])
    (.ops [
     ⟨some 193, .mv (.t 5), none, []⟩,
     ⟨some 194, .bin .add none (.t 193) (.c (.pv (.int .i64 1))), none, [0]⟩,
     ⟨some 5, .mv (.t 194), none, [1, 0, 1]⟩])))))))))
  (.ops [
   ⟨some 146, .mv (.t 16), none, []⟩,
   ⟨some 147, .bin .add none (.t 146) (.c (.pv (.int .i64 1))), none, [0]⟩,
   ⟨some 16, .mv (.t 147), none, [1, 0, 1]⟩])))
def f151 : AFunc := ⟨195, [.t 2, .t 3],
 (.seq (.ops [
   ⟨some 1, .box (.t 0), none, []⟩,
   ⟨some 2, .mv (.c (.pv (.int .i64 0))), none, []⟩,
   ⟨some 3, .mv (.c (.pv (.int .i64 0))), none, [1]⟩])
  (.seq (.seq (.ops [
   ⟨some 20, .fieldAddr 0 (.t 1), none, []⟩,
   ⟨some 21, .load false 1 (.t 20), none, [0]⟩,
   ⟨some 22, .len (.t 21), none, [1]⟩,
   ⟨some 23, .bin .eql none (.t 22) (.c (.pv (.int .i64 0))), none, [2]⟩,
   ⟨some 24, .mv (.t 23), none, [3]⟩,
   ⟨some 25, .fieldAddr 0 (.t 1), some (24, false), [4]⟩,
   ⟨some 26, .load false 1 (.t 25), some (24, false), [5, 4]⟩,
   ⟨some 27, .len (.t 26), some (24, false), [6, 4]⟩,
   ⟨some 28, .bin .gtr none (.t 27) (.c (.pv (.int .i64 8))), some (24, false), [7, 4]⟩,
   ⟨some 29, .pick (.t 24) (.c (.pv (.bool true))) (.t 28), none, [4, 8]⟩,
   ⟨some 30, .mv (.t 29), none, [9, 4]⟩,
   ⟨some 31, .fieldAddr 1 (.t 1), some (30, false), [10]⟩,
   ⟨some 32, .load false 1 (.t 31), some (30, false), [11, 10]⟩,
   ⟨some 33, .len (.t 32), some (30, false), [12, 10]⟩,
   ⟨some 34, .bin .gtr none (.t 33) (.c (.pv (.int .i64 8))), some (30, false), [13, 10]⟩,
   ⟨some 35, .pick (.t 30) (.c (.pv (.bool true))) (.t 34), none, [10, 14]⟩,
   ⟨some 36, .mv (.t 35), none, [15, 10]⟩,
   ⟨some 37, .fieldAddr 2 (.t 1), some (36, false), [16]⟩,
   ⟨some 38, .load false 1 (.t 37), some (36, false), [17, 16]⟩,
   ⟨some 39, .len (.t 38), some (36, false), [18, 16]⟩,
   ⟨some 40, .bin .gtr none (.t 39) (.c (.pv (.int .i64 12))), some (36, false), [19, 16]⟩,
   ⟨some 41, .pick (.t 36) (.c (.pv (.bool true))) (.t 40), none, [16, 20]⟩])
  (.cond (.t 41)
   (.seq (.ops [
     ⟨some 2, .mv (.c (.pv (.int .i64 3))), none, []⟩,
     ⟨some 3, .mv (.c (.pv (.int .i64 (-1)))), none, [0, 0]⟩])
    .ret)
   .skip))
  (.seq (.ops [
   ⟨some 4, .mv (.c (.pv (.int .i64 0))), none, []⟩])
  (.seq (.ops [
   ⟨some 5, .mv (.c (.pv (.int .i64 0))), none, []⟩])
  (.seq (.seq (.ops [
   ⟨some 6, .mv (.c (.pv (.int .i64 0))), none, []⟩])
  (.block 0
   (.loop f151l0)))
  (.seq (.ops [
   ⟨some 4, .mv (.c (.pv (.int .i64 0))), none, []⟩])
  (.seq (.seq (.ops [
   ⟨some 10, .mv (.c (.pv (.int .i64 0))), none, []⟩])
  (.block 2
   (.loop f151l1)))
  (.seq (.ops [
   ⟨some 4, .mv (.c (.pv (.int .i64 0))), none, []⟩])
  (.seq (.seq (.ops [
   ⟨some 16, .mv (.c (.pv (.int .i64 0))), none, []⟩])
  (.block 4
   (.loop f151l2)))
  (.seq (.ops [
   ⟨some 2, .mv (.c (.pv (.int .i64 0))), none, []⟩,
   ⟨some 3, .mv (.c (.pv (.int .i64 (-1)))), none, [0, 0]⟩])
  .ret))))))))))⟩
def f154l0 : ACode :=
 (.seq (.seq (.ops [
   ⟨some 6, .mv (.t 5), none, []⟩,
   ⟨some 7, .fieldAddr 1 (.t 2), none, []⟩,
   ⟨some 8, .load false 1 (.t 7), none, [1]⟩,
   ⟨some 9, .len (.t 8), none, [2]⟩,
   ⟨some 10, .bin .lss none (.t 6) (.t 9), none, [0, 3]⟩])
  (.cond (.t 10)
   .skip
   (.exit 0)))
  (.seq (.block 1
   (.seq (.ops [
     ⟨some 13, .fieldAddr 1 (.t 2), none, []⟩,
     ⟨some 14, .load false 1 (.t 13), none, [0]⟩,
     ⟨some 15, .mv (.t 5), none, []⟩,
     ⟨some 16, .idxAddr 5 (.t 14) (.t 15), none, [1, 2]⟩,
     ⟨some 17, .fieldAddr 0 (.t 16), none, [3]⟩,
     ⟨some 18, .load false 1 (.t 17), none, [4]⟩,
     ⟨some 19, .mv (.t 1), none, []⟩,
     ⟨some 20, .bin .eql none (.t 18) (.t 19), none, [5, 6]⟩])
    (.cond (.t 20)
     (.seq (.ops [
       ⟨some 21, .mv (.t 5), none, []⟩,
       ⟨some 4, .mv (.t 21), none, [0, 0]⟩])
      .ret)
     .skip)))
  (.ops [
   ⟨some 11, .mv (.t 5), none, []⟩,
   ⟨some 12, .bin .add none (.t 11) (.c (.pv (.int .i64 1))), none, [0]⟩,
   ⟨some 5, .mv (.t 12), none, [1, 0, 1]⟩])))
def f154 : AFunc := ⟨22, [.t 4],
 (.seq (.ops [
   ⟨some 2, .box (.t 0), none, []⟩,
   ⟨some 4, .mv (.c (.pv (.int .i64 0))), none, []⟩])
  (.seq (.seq (.ops [
   ⟨some 5, .mv (.c (.pv (.int .i64 0))), none, []⟩])
  (.block 0
   (.loop f154l0)))
  (.seq (.ops [
   ⟨some 4, .mv (.c (.pv (.int .i64 (-1)))), none, []⟩])
  .ret)))⟩
def f159 : AFunc := ⟨9, [.t 2],
 (.seq (.ops [
   ⟨some 2, .mv (.c (.pv (.bool false))), none, []⟩])
  (.seq (.ops [
   ⟨some 3, .mv (.t 0), none, []⟩,
   ⟨some 4, .bin .geq none (.t 3) (.c (.pv (.int .i64 0))), none, [0]⟩,
   ⟨some 5, .mv (.t 4), none, [1]⟩,
   ⟨some 6, .mv (.t 0), some (5, true), [2]⟩,
   ⟨some 7, .bin .leq none (.t 6) (.c (.pv (.int .i64 100))), some (5, true), [3, 2]⟩,
   ⟨some 8, .pick (.t 5) (.t 7) (.c (.pv (.bool false))), none, [2, 4]⟩,
   ⟨some 2, .mv (.t 8), none, [5, 2, 0, 1, 2, 3, 4, 5]⟩])
  .ret))⟩
def f160 : AFunc := ⟨17, [.t 4],
 (.seq (.ops [
   ⟨some 4, .mv (.c (.pv (.int .i64 0))), none, []⟩])
  (.seq (.seq (.ops [
   ⟨some 5, .mv (.t 0), none, []⟩,
   ⟨some 6, .bin .lss none (.t 5) (.c (.pv (.int .i64 1))), none, [0]⟩,
   ⟨some 7, .mv (.t 6), none, [1]⟩,
   ⟨some 8, .mv (.t 0), some (7, false), [2]⟩,
   ⟨some 9, .bin .gtr none (.t 8) (.c (.pv (.int .i64 2147483647))), some (7, false), [3, 2]⟩,
   ⟨some 10, .pick (.t 7) (.c (.pv (.bool true))) (.t 9), none, [2, 4]⟩])
  (.cond (.t 10)
   (.seq (.ops [
     ⟨some 4, .mv (.c (.pv (.int .i64 1))), none, []⟩])
    .ret)
   .skip))
  (.seq (.seq (.ops [
   ⟨some 11, .mv (.t 0), none, []⟩,
   ⟨some 12, .mv (.t 1), none, []⟩,
   ⟨some 13, .bin .eql none (.t 11) (.t 12), none, [0, 1]⟩])
  (.cond (.t 13)
   (.seq (.ops [
     ⟨some 4, .mv (.c (.pv (.int .i64 5))), none, []⟩])
    .ret)
   .skip))
  (.seq (.seq (.ops [
   ⟨some 14, .mv (.t 0), none, []⟩,
   ⟨some 15, .mv (.t 1), none, []⟩,
   ⟨some 16, .bin .lss none (.t 14) (.t 15), none, [0, 1]⟩])
  (.cond (.t 16)
   (.seq (.ops [
     ⟨some 4, .mv (.c (.pv (.int .i64 1))), none, []⟩])
    .ret)
   .skip))
  (.seq (.ops [
   ⟨some 4, .mv (.c (.pv (.int .i64 0))), none, []⟩])
  .ret)))))⟩
def f257 : AFunc := ⟨15, [.t 4],
 (.seq (.ops [
   ⟨some 2, .box (.t 0), none, []⟩,
   ⟨some 3, .box (.t 1), none, []⟩,
   ⟨some 4, .mv (.c (.pv (.bool false))), none, []⟩])
  (.seq (.ops [
   ⟨some 8, .load true 4 (.t 3), none, []⟩,
   ⟨some 9, .load true 4 (.t 2), none, []⟩,
   ⟨some 10, .call 258 [(.t 8), (.t 9)], none, [0, 1]⟩,
   ⟨some 7, .mv (.t 10), none, [2]⟩,
   ⟨some 11, .extract (.t 7) 0, none, [3]⟩,
   ⟨some 12, .extract (.t 7) 1, none, [3]⟩,
   ⟨some 5, .alloc [(.pv (.int .u64 0)), (.pv (.int .u64 0)), (.pv (.int .u64 0)), (.pv (.int .u64 0))], none, []⟩,
   ⟨none, .store 4 (.t 5) (.t 11), none, [6, 4, 2, 0, 1, 2, 3, 4, 6]⟩,
   ⟨some 6, .mv (.t 12), none, [5, 7, 0, 1, 2, 3, 4, 5, 6, 7]⟩])
  (.seq (.ops [
   ⟨some 13, .mv (.t 6), none, []⟩,
   ⟨some 14, .bin .eql (some (.iface true)) (.t 13) (.c (.pv .nili)), none, [0]⟩,
   ⟨some 4, .mv (.t 14), none, [1, 0, 1]⟩])
  .ret)))⟩
def f282 : AFunc := ⟨9, [.t 4],
 (.seq (.ops [
   ⟨some 4, .mv (.c (.pv (.bool false))), none, []⟩])
  (.seq (.ops [
   ⟨some 5, .mv (.t 0), none, []⟩,
   ⟨some 6, .mv (.t 1), none, []⟩,
   ⟨some 7, .call 287 [(.t 5), (.t 6)], none, [0, 1]⟩,
   ⟨some 8, .bin .geq none (.t 7) (.c (.pv (.int .i64 0))), none, [2]⟩,
   ⟨some 4, .mv (.t 8), none, [3, 2, 0, 1, 2, 3]⟩])
  .ret))⟩
end Go.Proofs.YtjmggjlfamjdbaaDoor.Ab
set_option linter.unusedVariables false
set_option linter.unusedSimpArgs false
namespace Go.Proofs.YtjmggjlfamjdbaaDoor.Ab
open Go
def countB (n : Int) : Bool := decide (0 ≤ n) && decide (n ≤ 100)
def idP (n last : Int) : Int := if n = last ∧ 1 ≤ n then 5 else if n < 1 ∨ 2147483647 < n ∨ n < last then 1 else 0
def idR (n last : Int) : Int := if n < 1 ∨ 2147483647 < n then 1 else if n = last then 5 else if n < last then 1 else 0
theorem idP_idR {n last : Int} (h : last ≤ 2147483647) : idP n last = idR n last := by
  unfold idP idR
  by_cases h1 : n < 1 ∨ 2147483647 < n
  · rw [if_pos h1, if_neg (by omega), if_pos (by omega)]
  · rw [if_neg h1]
    by_cases h2 : n = last
    · rw [if_pos h2, if_pos (by omega)]
    · rw [if_neg h2, if_neg (by omega)]
      by_cases h3 : n < last
      · rw [if_pos h3, if_pos (by omega)]
      · rw [if_neg h3, if_neg (by omega)]
def loadBad (l : Load) : Int := if countB l.skew = true ∧ countB l.min = true ∧ countB l.max = true ∧ l.min ≤ l.max then 0 else 1
def nodeBad (n : Node) : Int := if 1 ≤ n.zone ∧ n.zone ≤ 8 ∧ fitsB n.held n.cap = true then 0 else 1
def podBad (s : Snap) (p : Pod) : Int := if countB p.prio = false then 1 else if loadOf p.load s.loads = none ∨ (p.node ≠ 0 ∧ nodeOf p.node s.nodes = none) then 4 else 0
theorem errC0 : errC 0 = .nili := rfl
theorem errC1 : errC 1 = .iface 0 (.int .i64 1) := rfl
theorem errC4 : errC 4 = .iface 0 (.int .i64 4) := rfl
theorem errC5 : errC 5 = .iface 0 (.int .i64 5) := rfl
section
variable {T : Tab}
theorem count_ok (h85 : Std T 85 f85) (n : Int) : Gives T 85 [.int .i64 n] (.bool (countB n)) := by
  refine gives h85 rfl ?_
  unfold countB
  by_cases h1 : 0 ≤ n
  · simp only [f85, runL, defL, binV, Nat.reduceEqDiff, Nat.reduceAdd, reduceCtorEq, Int.reduceToNat, Nat.reduceMul, Nat.reduceLT, Int.reduceNeg, Int.reduceLE, Int.reduceLT, Int.reduceEq, Nat.reduceLeDiff, List.drop, List.take, h1, Bool.true_and]
  · simp only [f85, runL, defL, binV, Nat.reduceEqDiff, Nat.reduceAdd, reduceCtorEq, Int.reduceToNat, Nat.reduceMul, Nat.reduceLT, Int.reduceNeg, Int.reduceLE, Int.reduceLT, Int.reduceEq, Nat.reduceLeDiff, List.drop, List.take, h1, Bool.false_and]
theorem id_ok (h86 : Std T 86 f86) (n last : Int) : Gives T 86 [.int .i64 n, .int .i64 last] (errC (idP n last)) := by
  refine gives h86 rfl ?_
  unfold idP
  have D : ∀ p : Prop, [Decidable p] → p → decide p = true := fun p _ h => decide_eq_true h
  by_cases h1 : n = last
  · have d1 := D _ h1
    by_cases h2 : 1 ≤ n
    · rw [if_pos ⟨h1, h2⟩]
      simp only [f86, runL, defL, binV, Nat.reduceEqDiff, Nat.reduceAdd, reduceCtorEq, Int.reduceToNat, Nat.reduceMul, Nat.reduceLT, Int.reduceNeg, Int.reduceLE, Int.reduceLT, Int.reduceEq, Nat.reduceLeDiff, List.drop, List.take, d1, h2, errC5]
    · rw [if_neg (fun h => h2 h.2), if_pos (.inl (by omega))]
      have h3 : n < 1 := by omega
      simp only [f86, runL, defL, binV, Nat.reduceEqDiff, Nat.reduceAdd, reduceCtorEq, Int.reduceToNat, Nat.reduceMul, Nat.reduceLT, Int.reduceNeg, Int.reduceLE, Int.reduceLT, Int.reduceEq, Nat.reduceLeDiff, List.drop, List.take, d1, h2, h3, errC1]
  · rw [if_neg (fun h => h1 h.1)]
    by_cases h3 : n < 1
    · rw [if_pos (.inl h3)]
      simp only [f86, runL, defL, binV, Nat.reduceEqDiff, Nat.reduceAdd, reduceCtorEq, Int.reduceToNat, Nat.reduceMul, Nat.reduceLT, Int.reduceNeg, Int.reduceLE, Int.reduceLT, Int.reduceEq, Nat.reduceLeDiff, List.drop, List.take, h1, h3, errC1]
    · by_cases h4 : 2147483647 < n
      · rw [if_pos (.inr (.inl h4))]
        simp only [f86, runL, defL, binV, Nat.reduceEqDiff, Nat.reduceAdd, reduceCtorEq, Int.reduceToNat, Nat.reduceMul, Nat.reduceLT, Int.reduceNeg, Int.reduceLE, Int.reduceLT, Int.reduceEq, Nat.reduceLeDiff, List.drop, List.take, h1, h3, h4, errC1]
      · by_cases h5 : n < last
        · rw [if_pos (.inr (.inr h5))]
          simp only [f86, runL, defL, binV, Nat.reduceEqDiff, Nat.reduceAdd, reduceCtorEq, Int.reduceToNat, Nat.reduceMul, Nat.reduceLT, Int.reduceNeg, Int.reduceLE, Int.reduceLT, Int.reduceEq, Nat.reduceLeDiff, List.drop, List.take, h1, h3, h4, h5, errC1]
        · rw [if_neg (by omega)]
          simp only [f86, runL, defL, binV, Nat.reduceEqDiff, Nat.reduceAdd, reduceCtorEq, Int.reduceToNat, Nat.reduceMul, Nat.reduceLT, Int.reduceNeg, Int.reduceLE, Int.reduceLT, Int.reduceEq, Nat.reduceLeDiff, List.drop, List.take, h1, h3, h4, h5, errC0]
theorem cload_ok (h87 : Std T 87 f87) (h85 : Std T 85 f85) (l : Load) : Gives T 87 [.agg (loadC l)] (errC (loadBad l)) := by
  refine gives h87 rfl ?_
  have k1 := count_ok h85 l.skew
  have k2 := count_ok h85 l.min
  have k3 := count_ok h85 l.max
  unfold loadBad
  cases c1 : countB l.skew
  · rw [if_neg (by simp)]
    simp only [f87, runL, defL, binV, Nat.reduceEqDiff, Nat.reduceAdd, reduceCtorEq, Int.reduceToNat, Nat.reduceMul, Nat.reduceLT, Int.reduceNeg, Int.reduceLE, Int.reduceLT, Int.reduceEq, Nat.reduceLeDiff, List.drop, List.take, errC0, errC1, errC4, loadC, k1.call, c1]
  · cases c2 : countB l.min
    · rw [if_neg (by simp)]
      simp only [f87, runL, defL, binV, Nat.reduceEqDiff, Nat.reduceAdd, reduceCtorEq, Int.reduceToNat, Nat.reduceMul, Nat.reduceLT, Int.reduceNeg, Int.reduceLE, Int.reduceLT, Int.reduceEq, Nat.reduceLeDiff, List.drop, List.take, errC0, errC1, errC4, loadC, k1.call, k2.call, c1, c2]
    · cases c3 : countB l.max
      · rw [if_neg (by simp)]
        simp only [f87, runL, defL, binV, Nat.reduceEqDiff, Nat.reduceAdd, reduceCtorEq, Int.reduceToNat, Nat.reduceMul, Nat.reduceLT, Int.reduceNeg, Int.reduceLE, Int.reduceLT, Int.reduceEq, Nat.reduceLeDiff, List.drop, List.take, errC0, errC1, errC4, loadC, k1.call, k2.call, k3.call, c1, c2, c3]
      · by_cases c4 : l.max < l.min
        · rw [if_neg (by omega)]
          simp only [f87, runL, defL, binV, Nat.reduceEqDiff, Nat.reduceAdd, reduceCtorEq, Int.reduceToNat, Nat.reduceMul, Nat.reduceLT, Int.reduceNeg, Int.reduceLE, Int.reduceLT, Int.reduceEq, Nat.reduceLeDiff, List.drop, List.take, errC0, errC1, errC4, loadC, k1.call, k2.call, k3.call, c1, c2, c3, c4]
        · rw [if_pos ⟨rfl, rfl, rfl, by omega⟩]
          simp only [f87, runL, defL, binV, Nat.reduceEqDiff, Nat.reduceAdd, reduceCtorEq, Int.reduceToNat, Nat.reduceMul, Nat.reduceLT, Int.reduceNeg, Int.reduceLE, Int.reduceLT, Int.reduceEq, Nat.reduceLeDiff, List.drop, List.take, errC0, errC1, errC4, loadC, k1.call, k2.call, k3.call, c1, c2, c3, c4]
structure StdF (T : Tab) : Prop where
  h257 : Std T 257 f257
  h258 : Std T 258 f258
  h261 : Std T 261 f261
  h259 : Std T 259 f259
theorem vfits_ok (S : StdF T) (a b : Vec) : Gives T 257 [vecP a, vecP b] (.bool (fitsB a b)) := by
  refine gives S.h257 rfl ?_
  have k := sub_ok S.h258 S.h261 S.h259 b a
  rw [subV_if] at k
  simp only [vecP, vecC] at k
  cases hf : fitsB a b
  · rw [hf, if_neg (by simp)] at k
    simp only [vecR, vecP, vecC, vec0, codeE] at k
    simp only [f257, runL, defL, binV, Nat.reduceEqDiff, Nat.reduceAdd, reduceCtorEq, Int.reduceToNat, Nat.reduceMul, Nat.reduceLT, Int.reduceNeg, Int.reduceLE, Int.reduceLT, Int.reduceEq, Nat.reduceLeDiff, List.drop, List.take, vecP, vecC, k.call, fillA]
  · rw [hf] at k
    simp only [vecR, vecP, vecC] at k
    simp only [f257, runL, defL, binV, Nat.reduceEqDiff, Nat.reduceAdd, reduceCtorEq, Int.reduceToNat, Nat.reduceMul, Nat.reduceLT, Int.reduceNeg, Int.reduceLE, Int.reduceLT, Int.reduceEq, Nat.reduceLeDiff, List.drop, List.take, vecP, vecC, k.call, fillA]
theorem cnode_ok (h88 : Std T 88 f88) (S : StdF T) (n : Node) : Gives T 88 [.agg (nodeC n)] (errC (nodeBad n)) := by
  refine gives h88 rfl ?_
  have k := vfits_ok S n.held n.cap
  simp only [vecP, vecC] at k
  unfold nodeBad
  by_cases c1 : n.zone < 1
  · rw [if_neg (by omega)]
    simp only [f88, runL, defL, binV, Nat.reduceEqDiff, Nat.reduceAdd, reduceCtorEq, Int.reduceToNat, Nat.reduceMul, Nat.reduceLT, Int.reduceNeg, Int.reduceLE, Int.reduceLT, Int.reduceEq, Nat.reduceLeDiff, List.drop, List.take, errC0, errC1, errC4, nodeC, c1]
  · by_cases c2 : 8 < n.zone
    · rw [if_neg (by omega)]
      simp only [f88, runL, defL, binV, Nat.reduceEqDiff, Nat.reduceAdd, reduceCtorEq, Int.reduceToNat, Nat.reduceMul, Nat.reduceLT, Int.reduceNeg, Int.reduceLE, Int.reduceLT, Int.reduceEq, Nat.reduceLeDiff, List.drop, List.take, errC0, errC1, errC4, nodeC, c1, c2]
    · cases hf : fitsB n.held n.cap
      · rw [if_neg (by simp)]
        rw [hf] at k
        simp only [f88, runL, defL, binV, Nat.reduceEqDiff, Nat.reduceAdd, reduceCtorEq, Int.reduceToNat, Nat.reduceMul, Nat.reduceLT, Int.reduceNeg, Int.reduceLE, Int.reduceLT, Int.reduceEq, Nat.reduceLeDiff, List.drop, List.take, errC0, errC1, errC4, nodeC, c1, c2, k.call]
      · rw [if_pos ⟨by omega, by omega, rfl⟩]
        rw [hf] at k
        simp only [f88, runL, defL, binV, Nat.reduceEqDiff, Nat.reduceAdd, reduceCtorEq, Int.reduceToNat, Nat.reduceMul, Nat.reduceLT, Int.reduceNeg, Int.reduceLE, Int.reduceLT, Int.reduceEq, Nat.reduceLeDiff, List.drop, List.take, errC0, errC1, errC4, nodeC, c1, c2, k.call]
theorem cpod_ok (h89 : Std T 89 f89) (h85 : Std T 85 f85) (h81 : Std T 81 f81) (h82 : Std T 82 f82) (s : Snap) (p : Pod) (hl : s.loads.length ≤ 2 ^ 30) (hn : s.nodes.length ≤ 2 ^ 30) : Gives T 89 [snapP s, .agg (podC p)] (errC (podBad s p)) := by
  refine gives h89 rfl ?_
  have k1 := count_ok h85 p.prio
  have k2 := load_ok h81 s p.load hl
  have k3 := node_ok h82 s p.node hn
  simp only [snapP] at k2 k3
  unfold podBad
  cases c1 : countB p.prio
  · rw [if_pos rfl]
    simp only [f89, runL, defL, binV, Nat.reduceEqDiff, Nat.reduceAdd, reduceCtorEq, Int.reduceToNat, Nat.reduceMul, Nat.reduceLT, Int.reduceNeg, Int.reduceLE, Int.reduceLT, Int.reduceEq, Nat.reduceLeDiff, List.drop, List.take, errC0, errC1, errC4, snapP, podC, k1.call, c1]
  · rw [if_neg (by simp)]
    cases hlo : loadOf p.load s.loads with
    | none =>
      rw [hlo] at k2
      simp only [loadR, loadC, load0] at k2
      rw [if_pos (.inl rfl)]
      cases hno : nodeOf p.node s.nodes with
      | none =>
        rw [hno] at k3
        simp only [nodeR, nodeC, node0] at k3
        simp only [f89, runL, defL, binV, Nat.reduceEqDiff, Nat.reduceAdd, reduceCtorEq, Int.reduceToNat, Nat.reduceMul, Nat.reduceLT, Int.reduceNeg, Int.reduceLE, Int.reduceLT, Int.reduceEq, Nat.reduceLeDiff, List.drop, List.take, errC0, errC1, errC4, snapP, podC, k1.call, c1, k2.call, k3.call]
      | some n =>
        rw [hno] at k3
        simp only [nodeR, nodeC] at k3
        simp only [f89, runL, defL, binV, Nat.reduceEqDiff, Nat.reduceAdd, reduceCtorEq, Int.reduceToNat, Nat.reduceMul, Nat.reduceLT, Int.reduceNeg, Int.reduceLE, Int.reduceLT, Int.reduceEq, Nat.reduceLeDiff, List.drop, List.take, errC0, errC1, errC4, snapP, podC, k1.call, c1, k2.call, k3.call]
    | some l =>
      rw [hlo] at k2
      simp only [loadR, loadC] at k2
      cases hno : nodeOf p.node s.nodes with
      | none =>
        rw [hno] at k3
        simp only [nodeR, nodeC, node0] at k3
        by_cases c2 : p.node = 0
        · have d2 : decide (p.node = 0) = true := decide_eq_true c2
          rw [if_neg (by simp [c2])]
          simp only [f89, runL, defL, binV, Nat.reduceEqDiff, Nat.reduceAdd, reduceCtorEq, Int.reduceToNat, Nat.reduceMul, Nat.reduceLT, Int.reduceNeg, Int.reduceLE, Int.reduceLT, Int.reduceEq, Nat.reduceLeDiff, List.drop, List.take, errC0, errC1, errC4, snapP, podC, k1.call, c1, k2.call, k3.call, d2]
        · rw [if_pos (.inr ⟨c2, rfl⟩)]
          simp only [f89, runL, defL, binV, Nat.reduceEqDiff, Nat.reduceAdd, reduceCtorEq, Int.reduceToNat, Nat.reduceMul, Nat.reduceLT, Int.reduceNeg, Int.reduceLE, Int.reduceLT, Int.reduceEq, Nat.reduceLeDiff, List.drop, List.take, errC0, errC1, errC4, snapP, podC, k1.call, c1, k2.call, k3.call, c2]
      | some n =>
        rw [hno] at k3
        simp only [nodeR, nodeC] at k3
        rw [if_neg (by simp)]
        by_cases c2 : p.node = 0
        · have d2 : decide (p.node = 0) = true := decide_eq_true c2
          simp only [f89, runL, defL, binV, Nat.reduceEqDiff, Nat.reduceAdd, reduceCtorEq, Int.reduceToNat, Nat.reduceMul, Nat.reduceLT, Int.reduceNeg, Int.reduceLE, Int.reduceLT, Int.reduceEq, Nat.reduceLeDiff, List.drop, List.take, errC0, errC1, errC4, snapP, podC, k1.call, c1, k2.call, k3.call, d2]
        · simp only [f89, runL, defL, binV, Nat.reduceEqDiff, Nat.reduceAdd, reduceCtorEq, Int.reduceToNat, Nat.reduceMul, Nat.reduceLT, Int.reduceNeg, Int.reduceLE, Int.reduceLT, Int.reduceEq, Nat.reduceLeDiff, List.drop, List.take, errC0, errC1, errC4, snapP, podC, k1.call, c1, k2.call, k3.call, c2]
end
end Go.Proofs.YtjmggjlfamjdbaaDoor.Ab
set_option linter.unusedVariables false
set_option linter.unusedSimpArgs false
namespace Go.Proofs.YtjmggjlfamjdbaaDoor.Ab
open Go
def lookC (n last c : Int) : Int := if idP n last ≠ 0 then idP n last else c
def lookB (a n last c : Int) : Option (Int × Int) := if lookC n last c ≠ 0 then some (lookC n last c, a) else none
def ErrA (err : AV) (hp : Hl) (o : Option (Int × Int)) (kid nx : Nat) : Prop := match o with
  | none => err = .pv .nili
  | some (c, a) => ∃ b, err = .iface 1 (.ptr b 0 0) ∧ b < nx ∧ b ≠ kid ∧ blkAt hp b = .var [.pv (.int .i64 a), .pv (.int .i64 c)]
theorem ErrA.mono {err : AV} {hp hp' : Hl} {o : Option (Int × Int)} {kid nx nx' : Nat} (h : ErrA err hp o kid nx) (h1 : ∀ j, j < nx → j ≠ kid → blkAt hp' j = blkAt hp j) (h2 : nx ≤ nx') : ErrA err hp' o kid nx' := by
  cases o with
  | none => exact h
  | some q =>
    obtain ⟨c, a⟩ := q
    obtain ⟨b, e1, e2, e3, e4⟩ := h
    exact ⟨b, e1, by omega, e3, by rw [h1 b e2 e3, e4]⟩
def Looks (T : Tab) (g : Nat) (cs : List AV) (p : PV) (hp : Hl) (nx : Nat) : Prop := T.raw g = true ∧ ∀ hp' nx', nx ≤ nx' → (∀ k, k < nx → blkAt hp' k = blkAt hp k) → D T g cs hp' nx' = some (.pv p, hp', nx')
section
variable {T : Tab}
set_option maxRecDepth 100000 in
set_option maxHeartbeats 4000000 in
theorem look_ok (S16 : StdR T 16 f16) (h86 : Std T 86 f86) (hA : StdA T 266) (kid : Nat) (a n last c : Int) (err fv : AV) (g : Nat) (cs : List AV) (hp : Hl) (nx : Nat) (o : Option (Int × Int)) (hf : funV fv = some (g, [], cs)) (hk : kid < nx)
    (hb : blkAt hp kid = .var [.pv (.int .i64 a), .pv (.int .i64 last), err]) (ho : Looks T g cs (errC c) hp nx) (hE : ErrA err hp o kid nx) (h0 : 0 ≤ a) (h1 : a ≤ 2 ^ 30) :
    ∃ v hp' nx', D T 16 [.ptr kid 0 0, .pv (.int .i64 n), fv] hp nx = some (v, hp', nx') ∧ ∃ err', nx ≤ nx' ∧ blkAt hp' kid = .var [.pv (.int .i64 (a + 1)), .pv (.int .i64 n), err'] ∧ ErrA err' hp' (o.or (lookB a n last c)) kid nx' ∧ ∀ j, j < nx → j ≠ kid → blkAt hp' j = blkAt hp j := by
  refine D_wp S16 rfl ?_
  have ki := id_ok h86 n last
  have hw : IntKind.i64.wrap (a + 1) = a + 1 := by rw [wrap6] <;> omega
  have e1 : ¬ nx = kid := by omega
  have e2 : ¬ nx + 1 = kid := by omega
  have f1 : ¬ kid = nx := by omega
  have f2 : ¬ kid = nx + 1 := by omega
  cases o with
  | some q =>
    obtain ⟨c0, a0⟩ := q
    obtain ⟨b, rfl, b1, b2, b3⟩ := hE
    simp only [f16, runL, defL, binV, Nat.reduceEqDiff, Nat.reduceAdd, reduceCtorEq, Int.reduceToNat, Nat.reduceMul, Nat.reduceLT, Int.reduceNeg, Int.reduceLE, Int.reduceLT, Int.reduceEq, Nat.reduceLeDiff, List.drop, List.take, hb, hw]
    simp only [RawQ, rawq, runL, defL, binV, Nat.reduceEqDiff, Nat.reduceAdd, reduceCtorEq, Int.reduceToNat, Nat.reduceMul, Nat.reduceLT, Int.reduceNeg, Int.reduceLE, Int.reduceLT, Int.reduceEq, Nat.reduceLeDiff, List.drop, List.take]
    refine ⟨.iface 1 (.ptr b 0 0), rfl, ⟨b, rfl, b1, b2, ?_⟩, fun j hj hne => ?_⟩
    · have : ¬ kid = b := fun h => b2 h.symm
      simp only [look_if, blkAt_if, Nat.reduceEqDiff, if_true, if_false, this, b3]
    · have : ¬ kid = j := fun h => hne h.symm
      simp only [this, if_false]
  | none =>
    have hE' : err = .pv .nili := hE
    subst hE'
    have fin : ∀ cc, lookC n last c = cc → cc ≠ 0 → (none : Option (Int × Int)).or (lookB a n last c) = some (cc, a) := fun cc h1 h2 => by
      unfold lookB
      rw [h1, if_pos h2]
      rfl
    by_cases hi : idP n last = 0
    · have hl : lookC n last c = c := by unfold lookC; rw [if_neg (by simpa using hi)]
      rw [hi, errC0] at ki
      simp only [f16, runL, defL, binV, Nat.reduceEqDiff, Nat.reduceAdd, reduceCtorEq, Int.reduceToNat, Nat.reduceMul, Nat.reduceLT, Int.reduceNeg, Int.reduceLE, Int.reduceLT, Int.reduceEq, Nat.reduceLeDiff, List.drop, List.take, hb, ki.call, hf, funQ]
      rw [callQ_raw ho.1 (by simpa only [List.append_nil] using ho.2 hp nx (Nat.le_refl _) (fun _ _ => rfl))]
      by_cases hc : c = 0
      · have hn : (none : Option (Int × Int)).or (lookB a n last c) = none := by
          unfold lookB
          rw [hl, if_neg (by simpa using hc)]
          rfl
        rw [hc, errC0]
        simp only [runL, defL, binV, Nat.reduceEqDiff, Nat.reduceAdd, reduceCtorEq, Int.reduceToNat, Nat.reduceMul, Nat.reduceLT, Int.reduceNeg, Int.reduceLE, Int.reduceLT, Int.reduceEq, Nat.reduceLeDiff, List.drop, List.take, as_nilQ hA, hb, e1, hw]
        simp only [RawQ, rawq, runL, defL, binV, Nat.reduceEqDiff, Nat.reduceAdd, reduceCtorEq, Int.reduceToNat, Nat.reduceMul, Nat.reduceLT, Int.reduceNeg, Int.reduceLE, Int.reduceLT, Int.reduceEq, Nat.reduceLeDiff, List.drop, List.take, e1, f1]
        rw [← hc, hn]
        refine ⟨.pv .nili, by omega, rfl, rfl, fun j hj hne => ?_⟩
        have g1 : ¬ nx = j := by omega
        have g2 : ¬ kid = j := fun h => hne h.symm
        simp only [g1, g2, if_false]
      · have hc' : errC c = .iface 0 (.int .i64 c) := if_neg hc
        rw [hc']
        simp only [runL, defL, binV, Nat.reduceEqDiff, Nat.reduceAdd, reduceCtorEq, Int.reduceToNat, Nat.reduceMul, Nat.reduceLT, Int.reduceNeg, Int.reduceLE, Int.reduceLT, Int.reduceEq, Nat.reduceLeDiff, List.drop, List.take]
        refine (as_codeQ hA (o := 0) ?_).2 ?_
        · simp only [runL, defL, binV, Nat.reduceEqDiff, Nat.reduceAdd, reduceCtorEq, Int.reduceToNat, Nat.reduceMul, Nat.reduceLT, Int.reduceNeg, Int.reduceLE, Int.reduceLT, Int.reduceEq, Nat.reduceLeDiff, List.drop, List.take]
        · simp only [runL, defL, binV, Nat.reduceEqDiff, Nat.reduceAdd, reduceCtorEq, Int.reduceToNat, Nat.reduceMul, Nat.reduceLT, Int.reduceNeg, Int.reduceLE, Int.reduceLT, Int.reduceEq, Nat.reduceLeDiff, List.drop, List.take, hb, e1]
          refine (Wp_calmS rfl).2 ?_
          simp only [runL, defL, binV, Nat.reduceEqDiff, Nat.reduceAdd, reduceCtorEq, Int.reduceToNat, Nat.reduceMul, Nat.reduceLT, Int.reduceNeg, Int.reduceLE, Int.reduceLT, Int.reduceEq, Nat.reduceLeDiff, List.drop, List.take, hb, e1, e2, f1, f2, hw]
          simp only [RawQ, rawq, runL, defL, binV, Nat.reduceEqDiff, Nat.reduceAdd, reduceCtorEq, Int.reduceToNat, Nat.reduceMul, Nat.reduceLT, Int.reduceNeg, Int.reduceLE, Int.reduceLT, Int.reduceEq, Nat.reduceLeDiff, List.drop, List.take, e1, e2, f1, f2]
          rw [fin c hl hc]
          refine ⟨.iface 1 (.ptr (nx + 1) 0 0), by omega, rfl, ⟨nx + 1, rfl, by omega, by omega, ?_⟩, fun j hj hne => ?_⟩
          · simp only [look_if, blkAt_if, Nat.reduceEqDiff, if_true, if_false, f2]
          · have g1 : ¬ nx = j := by omega
            have g3 : ¬ nx + 1 = j := by omega
            have g2 : ¬ kid = j := fun h => hne h.symm
            simp only [g1, g2, g3, if_false]
    · have hl : lookC n last c = idP n last := by unfold lookC; rw [if_pos hi]
      have hc' : errC (idP n last) = .iface 0 (.int .i64 (idP n last)) := if_neg hi
      rw [hc'] at ki
      simp only [f16, runL, defL, binV, Nat.reduceEqDiff, Nat.reduceAdd, reduceCtorEq, Int.reduceToNat, Nat.reduceMul, Nat.reduceLT, Int.reduceNeg, Int.reduceLE, Int.reduceLT, Int.reduceEq, Nat.reduceLeDiff, List.drop, List.take, hb, ki.call]
      refine (as_codeQ hA (o := 0) ?_).2 ?_
      · simp only [runL, defL, binV, Nat.reduceEqDiff, Nat.reduceAdd, reduceCtorEq, Int.reduceToNat, Nat.reduceMul, Nat.reduceLT, Int.reduceNeg, Int.reduceLE, Int.reduceLT, Int.reduceEq, Nat.reduceLeDiff, List.drop, List.take]
      · simp only [runL, defL, binV, Nat.reduceEqDiff, Nat.reduceAdd, reduceCtorEq, Int.reduceToNat, Nat.reduceMul, Nat.reduceLT, Int.reduceNeg, Int.reduceLE, Int.reduceLT, Int.reduceEq, Nat.reduceLeDiff, List.drop, List.take, hb, e1]
        refine (Wp_calmS rfl).2 ?_
        simp only [runL, defL, binV, Nat.reduceEqDiff, Nat.reduceAdd, reduceCtorEq, Int.reduceToNat, Nat.reduceMul, Nat.reduceLT, Int.reduceNeg, Int.reduceLE, Int.reduceLT, Int.reduceEq, Nat.reduceLeDiff, List.drop, List.take, hb, e1, e2, f1, f2, hw]
        simp only [RawQ, rawq, runL, defL, binV, Nat.reduceEqDiff, Nat.reduceAdd, reduceCtorEq, Int.reduceToNat, Nat.reduceMul, Nat.reduceLT, Int.reduceNeg, Int.reduceLE, Int.reduceLT, Int.reduceEq, Nat.reduceLeDiff, List.drop, List.take, e1, e2, f1, f2]
        rw [fin _ hl hi]
        refine ⟨.iface 1 (.ptr (nx + 1) 0 0), by omega, rfl, ⟨nx + 1, rfl, by omega, by omega, ?_⟩, fun j hj hne => ?_⟩
        · simp only [look_if, blkAt_if, Nat.reduceEqDiff, if_true, if_false, f2]
        · have g1 : ¬ nx = j := by omega
          have g3 : ¬ nx + 1 = j := by omega
          have g2 : ¬ kid = j := fun h => hne h.symm
          simp only [g1, g2, g3, if_false]
end
end Go.Proofs.YtjmggjlfamjdbaaDoor.Ab
set_option linter.unusedVariables false
set_option linter.unusedSimpArgs false
namespace Go.Proofs.YtjmggjlfamjdbaaDoor.Ab
open Go
def fstB {α : Type} (idOf own : α → Int) : Int → Int → List α → Option (Int × Int)
  | _, _, [] => none
  | last, a, x :: r => (lookB a (idOf x) last (own x)).or (fstB idOf own (idOf x) (a + 1) r)
def errG : Option (Int × Int) → PV
  | none => .nili
  | some (c, a) => if a < 0 then codeE c else spotE a c
def sizesOK (s : Snap) : Bool := decide (1 ≤ s.nodes.length) && (decide (s.nodes.length ≤ 8) && (decide (s.loads.length ≤ 8) && decide (s.pods.length ≤ 12)))
def checkB (s : Snap) : Option (Int × Int) := if sizesOK s = true then ((fstB Node.id nodeBad 0 0 s.nodes).or (fstB Load.id loadBad 0 s.nodes.length s.loads)).or (fstB Pod.id (podBad s) 0 ((s.nodes.length : Int) + s.loads.length) s.pods) else some (3, -1)
structure Std3 (T : Tab) : Prop where
  h16 : StdR T 16 f16
  h86 : Std T 86 f86
  hA : StdA T 266
  h77 : StdR T 77 f77
  h78 : StdR T 78 f78
  h79 : StdR T 79 f79
  h85 : Std T 85 f85
  h87 : Std T 87 f87
  h88 : Std T 88 f88
  h89 : Std T 89 f89
  h81 : Std T 81 f81
  h82 : Std T 82 f82
  hF : StdF T
  h76 : Std T 76 f76
section
variable {T : Tab}
theorem D_eq {n : Nat} {f : AFunc} {args : List AV} {hp hp' : Hl} {nx nx' : Nat} {v : AV} (S : StdR T n f) (hN : Nat.ble args.length f.N = true) (h : Wp T false f.body ⟨argsA 0 args, hp, nx⟩ (RawQ f.res (fun v1 h1 n1 => v1 = v ∧ h1 = hp' ∧ n1 = nx'))) : D T n args hp nx = some (v, hp', nx') := by
  obtain ⟨v1, h1, n1, e, rfl, rfl, rfl⟩ := D_wp S hN h
  exact e
theorem lk77 (S : Std3 T) (n : Node) (hp : Hl) (nx x : Nat) (hx : x < nx) (hb : blkAt hp x = .var (pvs (nodeC n))) : Looks T 77 [.ptr x 0 0] (errC (nodeBad n)) hp nx := by
  refine ⟨S.h77.raw, fun hp' nx' h1 h2 => D_eq S.h77 rfl ?_⟩
  have k := cnode_ok S.h88 S.hF n
  have hb' := (h2 x hx).trans hb
  simp only [nodeC, pvs] at hb' k
  simp only [f77, runL, defL, binV, Nat.reduceEqDiff, Nat.reduceAdd, reduceCtorEq, Int.reduceToNat, Nat.reduceMul, Nat.reduceLT, Int.reduceNeg, Int.reduceLE, Int.reduceLT, Int.reduceEq, Nat.reduceLeDiff, List.drop, List.take, hb', k.call]
  simp only [RawQ, rawq, runL, defL, binV, Nat.reduceEqDiff, Nat.reduceAdd, reduceCtorEq, Int.reduceToNat, Nat.reduceMul, Nat.reduceLT, Int.reduceNeg, Int.reduceLE, Int.reduceLT, Int.reduceEq, Nat.reduceLeDiff, List.drop, List.take]
theorem lk78 (S : Std3 T) (n : Load) (hp : Hl) (nx x : Nat) (hx : x < nx) (hb : blkAt hp x = .var (pvs (loadC n))) : Looks T 78 [.ptr x 0 0] (errC (loadBad n)) hp nx := by
  refine ⟨S.h78.raw, fun hp' nx' h1 h2 => D_eq S.h78 rfl ?_⟩
  have k := cload_ok S.h87 S.h85 n
  have hb' := (h2 x hx).trans hb
  simp only [loadC, pvs] at hb' k
  simp only [f78, runL, defL, binV, Nat.reduceEqDiff, Nat.reduceAdd, reduceCtorEq, Int.reduceToNat, Nat.reduceMul, Nat.reduceLT, Int.reduceNeg, Int.reduceLE, Int.reduceLT, Int.reduceEq, Nat.reduceLeDiff, List.drop, List.take, hb', k.call]
  simp only [RawQ, rawq, runL, defL, binV, Nat.reduceEqDiff, Nat.reduceAdd, reduceCtorEq, Int.reduceToNat, Nat.reduceMul, Nat.reduceLT, Int.reduceNeg, Int.reduceLE, Int.reduceLT, Int.reduceEq, Nat.reduceLeDiff, List.drop, List.take]
theorem lk79 (S : Std3 T) (s : Snap) (hl : s.loads.length ≤ 2 ^ 30) (hn : s.nodes.length ≤ 2 ^ 30) (p : Pod) (hp : Hl) (nx x : Nat) (h0 : 0 < nx) (hx : x < nx) (hs : blkAt hp 0 = .var [.pv (.slice (s.nodes.map nodeC)), .pv (.slice (s.loads.map loadC)), .pv (.slice (s.pods.map podC))])
    (hb : blkAt hp x = .var (pvs (podC p))) : Looks T 79 [.ptr 0 0 0, .ptr x 0 0] (errC (podBad s p)) hp nx := by
  refine ⟨S.h79.raw, fun hp' nx' h1 h2 => D_eq S.h79 rfl ?_⟩
  have k := cpod_ok S.h89 S.h85 S.h81 S.h82 s p hl hn
  have hb' := (h2 x hx).trans hb
  have hs' := (h2 0 h0).trans hs
  simp only [podC, pvs, snapP] at hb' k
  simp only [f79, runL, defL, binV, Nat.reduceEqDiff, Nat.reduceAdd, reduceCtorEq, Int.reduceToNat, Nat.reduceMul, Nat.reduceLT, Int.reduceNeg, Int.reduceLE, Int.reduceLT, Int.reduceEq, Nat.reduceLeDiff, List.drop, List.take, hb', hs', k.call]
  simp only [RawQ, rawq, runL, defL, binV, Nat.reduceEqDiff, Nat.reduceAdd, reduceCtorEq, Int.reduceToNat, Nat.reduceMul, Nat.reduceLT, Int.reduceNeg, Int.reduceLE, Int.reduceLT, Int.reduceEq, Nat.reduceLeDiff, List.drop, List.take]
theorem check_0 (S : Std3 T) (s : Snap) (hn : s.nodes.length ≤ 2 ^ 28) (hl : s.loads.length ≤ 2 ^ 28) (hpl : s.pods.length ≤ 2 ^ 28) (a0 : Int) (ha0 : 0 ≤ a0) (ha1 : a0 ≤ 2 ^ 29) (Q : Exit → St → Prop) (tot : Option (Int × Int))
    (hend : ∀ fr hp nx last err, 2 ≤ nx → look fr 1 = .ptr 0 0 0 → look fr 3 = .ptr 1 0 0 → blkAt hp 0 = .var [.pv (.slice (s.nodes.map nodeC)), .pv (.slice (s.loads.map loadC)), .pv (.slice (s.pods.map podC))] →
      blkAt hp 1 = .var [.pv (.int .i64 (a0 + (s.nodes.length : Int))), .pv (.int .i64 last), err] → ErrA err hp tot 1 nx → Q (.exit 0) ⟨fr, hp, nx⟩) :
    ∀ (rest : List Node) (i : Nat) (last : Int) (o : Option (Int × Int)) (err : AV), s.nodes.drop i = rest → i ≤ s.nodes.length → o.or (fstB Node.id nodeBad last (a0 + i) rest) = tot → ∀ (fr : List (Nat × AV)) (hp : Hl) (nx : Nat), 2 ≤ nx → look fr 1 = .ptr 0 0 0 → look fr 3 = .ptr 1 0 0 →
      blkAt hp 0 = .var [.pv (.slice (s.nodes.map nodeC)), .pv (.slice (s.loads.map loadC)), .pv (.slice (s.pods.map podC))] → blkAt hp 1 = .var [.pv (.int .i64 (a0 + i)), .pv (.int .i64 last), err] → ErrA err hp o 1 nx →
      look fr 36 = .pv (.slice (s.nodes.map nodeC)) → look fr 37 = .pv (.int .i64 s.nodes.length) → look fr 38 = .pv (.int .i64 i) → Wp T false (.loop f76l0) ⟨fr, hp, nx⟩ Q := by
  intro rest
  induction rest with
  | nil =>
    intro i last o err hd hi ho fr hp nx hnx g1 g3 b0 b1 hE hA hB hI
    have hlen := drop_nil hd hi
    simp only [fstB, Option.or_none] at ho
    subst ho
    rw [Wp_loop, Wp_eq f76l0.eq_1]
    simp only [runL, defL, binV, Nat.reduceEqDiff, Nat.reduceAdd, reduceCtorEq, Int.reduceToNat, Nat.reduceMul, Nat.reduceLT, Int.reduceNeg, Int.reduceLE, Int.reduceLT, Int.reduceEq, Nat.reduceLeDiff, List.drop, List.take, hA, hB, hI, hlen, Int.lt_irrefl]
    refine hend _ _ _ last err hnx ?_ ?_ b0 ?_ hE
    all_goals try simp only [look_if, blkAt_if, Nat.reduceEqDiff, if_true, if_false, g1, g3]
    rw [b1, hlen]
  | cons x r ih =>
    intro i last o err hd hi ho fr hp nx hnx g1 g3 b0 b1 hE hA hB hI
    obtain ⟨hget, hlt, hw, hd', hi', hbb⟩ := drop_cons hd (by omega)
    have n0 : ¬ nx = 0 := by omega
    have n1 : ¬ nx = 1 := by omega
    have ho' : (o.or (lookB (a0 + i) x.id last (nodeBad x))).or (fstB Node.id nodeBad x.id (a0 + ((i + 1 : Nat) : Int)) r) = tot := by
      rw [← ho, Option.or_assoc, fstB, show a0 + ((i + 1 : Nat) : Int) = a0 + i + 1 by omega]
    rw [Wp_loop, Wp_eq f76l0.eq_1]
    simp only [runL, defL, binV, Nat.reduceEqDiff, Nat.reduceAdd, reduceCtorEq, Int.reduceToNat, Nat.reduceMul, Nat.reduceLT, Int.reduceNeg, Int.reduceLE, Int.reduceLT, Int.reduceEq, Nat.reduceLeDiff, List.drop, List.take, g1, g3, hA, hB, hI, hlt, hget, nodeC, n0, n1, mkFun, allPVs]
    obtain ⟨v, hp', nx', e, err', q1, q2, q3, q4⟩ := look_ok S.h16 S.h86 S.hA 1 (a0 + i) x.id last (nodeBad x) err (.func 77 [] [.ptr nx 0 0]) 77 [.ptr nx 0 0] ((nx, .var (pvs (nodeC x))) :: (nx, .var [.pv (.int .i64 0), .pv (.int .i64 0), .pv (.int .u64 0), .pv (.int .u64 0), .pv (.int .u64 0), .pv (.int .u64 0), .pv (.int .u64 0), .pv (.int .u64 0), .pv (.int .u64 0), .pv (.int .u64 0)]) :: hp) (nx + 1) o rfl (by omega) (by simp only [look_if, blkAt_if, Nat.reduceEqDiff, if_true, if_false, n1, b1]) (lk77 S x _ _ nx (by omega) (by simp only [look_if, blkAt_if, Nat.reduceEqDiff, if_true, if_false])) (hE.mono (fun j hj hne => by simp only [look_if, blkAt_if, Nat.reduceEqDiff, if_true, if_false, show ¬ nx = j by omega]) (by omega)) (by omega) (by omega)
    rw [callQ_raw S.h16.raw e]
    simp only [runL, defL, binV, Nat.reduceEqDiff, Nat.reduceAdd, reduceCtorEq, Int.reduceToNat, Nat.reduceMul, Nat.reduceLT, Int.reduceNeg, Int.reduceLE, Int.reduceLT, Int.reduceEq, Nat.reduceLeDiff, List.drop, List.take, hI, hw]
    refine ih (i + 1) x.id _ err' hd' hi' ho' _ _ _ (by omega) ?_ ?_ ?_ ?_ q3 ?_ ?_ ?_
    all_goals try simp only [look_if, blkAt_if, Nat.reduceEqDiff, if_true, if_false, g1, g3, hA, hB]
    · rw [q4 0 (by omega) (by omega)]; simp only [look_if, blkAt_if, Nat.reduceEqDiff, if_true, if_false, n0, b0]
    · rw [q2, show a0 + ((i + 1 : Nat) : Int) = a0 + i + 1 by omega]
theorem check_1 (S : Std3 T) (s : Snap) (hn : s.nodes.length ≤ 2 ^ 28) (hl : s.loads.length ≤ 2 ^ 28) (hpl : s.pods.length ≤ 2 ^ 28) (a0 : Int) (ha0 : 0 ≤ a0) (ha1 : a0 ≤ 2 ^ 29) (Q : Exit → St → Prop) (tot : Option (Int × Int))
    (hend : ∀ fr hp nx last err, 2 ≤ nx → look fr 1 = .ptr 0 0 0 → look fr 3 = .ptr 1 0 0 → blkAt hp 0 = .var [.pv (.slice (s.nodes.map nodeC)), .pv (.slice (s.loads.map loadC)), .pv (.slice (s.pods.map podC))] →
      blkAt hp 1 = .var [.pv (.int .i64 (a0 + (s.loads.length : Int))), .pv (.int .i64 last), err] → ErrA err hp tot 1 nx → Q (.exit 2) ⟨fr, hp, nx⟩) :
    ∀ (rest : List Load) (i : Nat) (last : Int) (o : Option (Int × Int)) (err : AV), s.loads.drop i = rest → i ≤ s.loads.length → o.or (fstB Load.id loadBad last (a0 + i) rest) = tot → ∀ (fr : List (Nat × AV)) (hp : Hl) (nx : Nat), 2 ≤ nx → look fr 1 = .ptr 0 0 0 → look fr 3 = .ptr 1 0 0 →
      blkAt hp 0 = .var [.pv (.slice (s.nodes.map nodeC)), .pv (.slice (s.loads.map loadC)), .pv (.slice (s.pods.map podC))] → blkAt hp 1 = .var [.pv (.int .i64 (a0 + i)), .pv (.int .i64 last), err] → ErrA err hp o 1 nx →
      look fr 52 = .pv (.slice (s.loads.map loadC)) → look fr 53 = .pv (.int .i64 s.loads.length) → look fr 54 = .pv (.int .i64 i) → Wp T false (.loop f76l1) ⟨fr, hp, nx⟩ Q := by
  intro rest
  induction rest with
  | nil =>
    intro i last o err hd hi ho fr hp nx hnx g1 g3 b0 b1 hE hA hB hI
    have hlen := drop_nil hd hi
    simp only [fstB, Option.or_none] at ho
    subst ho
    rw [Wp_loop, Wp_eq f76l1.eq_1]
    simp only [runL, defL, binV, Nat.reduceEqDiff, Nat.reduceAdd, reduceCtorEq, Int.reduceToNat, Nat.reduceMul, Nat.reduceLT, Int.reduceNeg, Int.reduceLE, Int.reduceLT, Int.reduceEq, Nat.reduceLeDiff, List.drop, List.take, hA, hB, hI, hlen, Int.lt_irrefl]
    refine hend _ _ _ last err hnx ?_ ?_ b0 ?_ hE
    all_goals try simp only [look_if, blkAt_if, Nat.reduceEqDiff, if_true, if_false, g1, g3]
    rw [b1, hlen]
  | cons x r ih =>
    intro i last o err hd hi ho fr hp nx hnx g1 g3 b0 b1 hE hA hB hI
    obtain ⟨hget, hlt, hw, hd', hi', hbb⟩ := drop_cons hd (by omega)
    have n0 : ¬ nx = 0 := by omega
    have n1 : ¬ nx = 1 := by omega
    have ho' : (o.or (lookB (a0 + i) x.id last (loadBad x))).or (fstB Load.id loadBad x.id (a0 + ((i + 1 : Nat) : Int)) r) = tot := by
      rw [← ho, Option.or_assoc, fstB, show a0 + ((i + 1 : Nat) : Int) = a0 + i + 1 by omega]
    rw [Wp_loop, Wp_eq f76l1.eq_1]
    simp only [runL, defL, binV, Nat.reduceEqDiff, Nat.reduceAdd, reduceCtorEq, Int.reduceToNat, Nat.reduceMul, Nat.reduceLT, Int.reduceNeg, Int.reduceLE, Int.reduceLT, Int.reduceEq, Nat.reduceLeDiff, List.drop, List.take, g1, g3, hA, hB, hI, hlt, hget, loadC, n0, n1, mkFun, allPVs]
    obtain ⟨v, hp', nx', e, err', q1, q2, q3, q4⟩ := look_ok S.h16 S.h86 S.hA 1 (a0 + i) x.id last (loadBad x) err (.func 78 [] [.ptr nx 0 0]) 78 [.ptr nx 0 0] ((nx, .var (pvs (loadC x))) :: (nx, .var [.pv (.int .i64 0), .pv (.bool false), .pv (.int .i64 0), .pv (.int .i64 0), .pv (.int .i64 0)]) :: hp) (nx + 1) o rfl (by omega) (by simp only [look_if, blkAt_if, Nat.reduceEqDiff, if_true, if_false, n1, b1]) (lk78 S x _ _ nx (by omega) (by simp only [look_if, blkAt_if, Nat.reduceEqDiff, if_true, if_false])) (hE.mono (fun j hj hne => by simp only [look_if, blkAt_if, Nat.reduceEqDiff, if_true, if_false, show ¬ nx = j by omega]) (by omega)) (by omega) (by omega)
    rw [callQ_raw S.h16.raw e]
    simp only [runL, defL, binV, Nat.reduceEqDiff, Nat.reduceAdd, reduceCtorEq, Int.reduceToNat, Nat.reduceMul, Nat.reduceLT, Int.reduceNeg, Int.reduceLE, Int.reduceLT, Int.reduceEq, Nat.reduceLeDiff, List.drop, List.take, hI, hw]
    refine ih (i + 1) x.id _ err' hd' hi' ho' _ _ _ (by omega) ?_ ?_ ?_ ?_ q3 ?_ ?_ ?_
    all_goals try simp only [look_if, blkAt_if, Nat.reduceEqDiff, if_true, if_false, g1, g3, hA, hB]
    · rw [q4 0 (by omega) (by omega)]; simp only [look_if, blkAt_if, Nat.reduceEqDiff, if_true, if_false, n0, b0]
    · rw [q2, show a0 + ((i + 1 : Nat) : Int) = a0 + i + 1 by omega]
theorem check_2 (S : Std3 T) (s : Snap) (hn : s.nodes.length ≤ 2 ^ 28) (hl : s.loads.length ≤ 2 ^ 28) (hpl : s.pods.length ≤ 2 ^ 28) (a0 : Int) (ha0 : 0 ≤ a0) (ha1 : a0 ≤ 2 ^ 29) (Q : Exit → St → Prop) (tot : Option (Int × Int))
    (hend : ∀ fr hp nx last err, 2 ≤ nx → look fr 1 = .ptr 0 0 0 → look fr 3 = .ptr 1 0 0 → blkAt hp 0 = .var [.pv (.slice (s.nodes.map nodeC)), .pv (.slice (s.loads.map loadC)), .pv (.slice (s.pods.map podC))] →
      blkAt hp 1 = .var [.pv (.int .i64 (a0 + (s.pods.length : Int))), .pv (.int .i64 last), err] → ErrA err hp tot 1 nx → Q (.exit 4) ⟨fr, hp, nx⟩) :
    ∀ (rest : List Pod) (i : Nat) (last : Int) (o : Option (Int × Int)) (err : AV), s.pods.drop i = rest → i ≤ s.pods.length → o.or (fstB Pod.id (podBad s) last (a0 + i) rest) = tot → ∀ (fr : List (Nat × AV)) (hp : Hl) (nx : Nat), 2 ≤ nx → look fr 1 = .ptr 0 0 0 → look fr 3 = .ptr 1 0 0 →
      blkAt hp 0 = .var [.pv (.slice (s.nodes.map nodeC)), .pv (.slice (s.loads.map loadC)), .pv (.slice (s.pods.map podC))] → blkAt hp 1 = .var [.pv (.int .i64 (a0 + i)), .pv (.int .i64 last), err] → ErrA err hp o 1 nx →
      look fr 68 = .pv (.slice (s.pods.map podC)) → look fr 69 = .pv (.int .i64 s.pods.length) → look fr 70 = .pv (.int .i64 i) → Wp T false (.loop f76l2) ⟨fr, hp, nx⟩ Q := by
  intro rest
  induction rest with
  | nil =>
    intro i last o err hd hi ho fr hp nx hnx g1 g3 b0 b1 hE hA hB hI
    have hlen := drop_nil hd hi
    simp only [fstB, Option.or_none] at ho
    subst ho
    rw [Wp_loop, Wp_eq f76l2.eq_1]
    simp only [runL, defL, binV, Nat.reduceEqDiff, Nat.reduceAdd, reduceCtorEq, Int.reduceToNat, Nat.reduceMul, Nat.reduceLT, Int.reduceNeg, Int.reduceLE, Int.reduceLT, Int.reduceEq, Nat.reduceLeDiff, List.drop, List.take, hA, hB, hI, hlen, Int.lt_irrefl]
    refine hend _ _ _ last err hnx ?_ ?_ b0 ?_ hE
    all_goals try simp only [look_if, blkAt_if, Nat.reduceEqDiff, if_true, if_false, g1, g3]
    rw [b1, hlen]
  | cons x r ih =>
    intro i last o err hd hi ho fr hp nx hnx g1 g3 b0 b1 hE hA hB hI
    obtain ⟨hget, hlt, hw, hd', hi', hbb⟩ := drop_cons hd (by omega)
    have n0 : ¬ nx = 0 := by omega
    have n1 : ¬ nx = 1 := by omega
    have ho' : (o.or (lookB (a0 + i) x.id last ((podBad s) x))).or (fstB Pod.id (podBad s) x.id (a0 + ((i + 1 : Nat) : Int)) r) = tot := by
      rw [← ho, Option.or_assoc, fstB, show a0 + ((i + 1 : Nat) : Int) = a0 + i + 1 by omega]
    rw [Wp_loop, Wp_eq f76l2.eq_1]
    simp only [runL, defL, binV, Nat.reduceEqDiff, Nat.reduceAdd, reduceCtorEq, Int.reduceToNat, Nat.reduceMul, Nat.reduceLT, Int.reduceNeg, Int.reduceLE, Int.reduceLT, Int.reduceEq, Nat.reduceLeDiff, List.drop, List.take, g1, g3, hA, hB, hI, hlt, hget, podC, n0, n1, mkFun, allPVs]
    obtain ⟨v, hp', nx', e, err', q1, q2, q3, q4⟩ := look_ok S.h16 S.h86 S.hA 1 (a0 + i) x.id last ((podBad s) x) err (.func 79 [] [.ptr 0 0 0, .ptr nx 0 0]) 79 [.ptr 0 0 0, .ptr nx 0 0] ((nx, .var (pvs (podC x))) :: (nx, .var [.pv (.int .i64 0), .pv (.int .i64 0), .pv (.int .i64 0), .pv (.int .u64 0), .pv (.int .u64 0), .pv (.int .u64 0), .pv (.int .u64 0), .pv (.int .i64 0)]) :: hp) (nx + 1) o rfl (by omega) (by simp only [look_if, blkAt_if, Nat.reduceEqDiff, if_true, if_false, n1, b1]) (lk79 S s (by omega) (by omega) x _ _ nx (by omega) (by omega) (by simp only [look_if, blkAt_if, Nat.reduceEqDiff, if_true, if_false, n0, b0]) (by simp only [look_if, blkAt_if, Nat.reduceEqDiff, if_true, if_false])) (hE.mono (fun j hj hne => by simp only [look_if, blkAt_if, Nat.reduceEqDiff, if_true, if_false, show ¬ nx = j by omega]) (by omega)) (by omega) (by omega)
    rw [callQ_raw S.h16.raw e]
    simp only [runL, defL, binV, Nat.reduceEqDiff, Nat.reduceAdd, reduceCtorEq, Int.reduceToNat, Nat.reduceMul, Nat.reduceLT, Int.reduceNeg, Int.reduceLE, Int.reduceLT, Int.reduceEq, Nat.reduceLeDiff, List.drop, List.take, hI, hw]
    refine ih (i + 1) x.id _ err' hd' hi' ho' _ _ _ (by omega) ?_ ?_ ?_ ?_ q3 ?_ ?_ ?_
    all_goals try simp only [look_if, blkAt_if, Nat.reduceEqDiff, if_true, if_false, g1, g3, hA, hB]
    · rw [q4 0 (by omega) (by omega)]; simp only [look_if, blkAt_if, Nat.reduceEqDiff, if_true, if_false, n0, b0]
    · rw [q2, show a0 + ((i + 1 : Nat) : Int) = a0 + i + 1 by omega]
end
end Go.Proofs.YtjmggjlfamjdbaaDoor.Ab
set_option linter.unusedVariables false
set_option linter.unusedSimpArgs false
namespace Go.Proofs.YtjmggjlfamjdbaaDoor.Ab
open Go
theorem lookB_some {a n last c k b : Int} (h : lookB a n last c = some (k, b)) (hc : c = 0 ∨ 1 ≤ c ∧ c ≤ 17) : b = a ∧ 1 ≤ k ∧ k ≤ 17 := by
  unfold lookB at h
  split at h
  · rename_i h0
    simp only [Option.some.injEq, Prod.mk.injEq] at h
    obtain ⟨rfl, rfl⟩ := h
    refine ⟨rfl, ?_⟩
    have hi : idP n last = 0 ∨ 1 ≤ idP n last ∧ idP n last ≤ 5 := by
      unfold idP
      split
      · omega
      · split <;> omega
    unfold lookC at h0 ⊢
    split
    · omega
    · rename_i h1
      rw [if_neg h1] at h0
      omega
  · simp at h
theorem fstB_range {α : Type} {idOf own : α → Int} (hc : ∀ x, own x = 0 ∨ 1 ≤ own x ∧ own x ≤ 17) : ∀ (l : List α) (last a : Int) c b, fstB idOf own last a l = some (c, b) → a ≤ b ∧ 1 ≤ c ∧ c ≤ 17
  | [], last, a, c, b, h => by simp [fstB] at h
  | x :: r, last, a, c, b, h => by
    simp only [fstB] at h
    cases hl : lookB a (idOf x) last (own x) with
    | some q =>
      obtain ⟨k, b'⟩ := q
      rw [hl] at h
      simp only [Option.some_or, Option.some.injEq, Prod.mk.injEq] at h
      obtain ⟨rfl, rfl⟩ := h
      obtain ⟨rfl, h1⟩ := lookB_some hl (hc x)
      exact ⟨Int.le_refl _, h1⟩
    | none =>
      rw [hl, Option.none_or] at h
      obtain ⟨h1, h2⟩ := fstB_range hc r _ _ c b h
      exact ⟨by omega, h2⟩
theorem nodeBad_c (n : Node) : nodeBad n = 0 ∨ 1 ≤ nodeBad n ∧ nodeBad n ≤ 17 := by unfold nodeBad; split <;> omega
theorem loadBad_c (n : Load) : loadBad n = 0 ∨ 1 ≤ loadBad n ∧ loadBad n ≤ 17 := by unfold loadBad; split <;> omega
theorem podBad_c (s : Snap) (p : Pod) : podBad s p = 0 ∨ 1 ≤ podBad s p ∧ podBad s p ≤ 17 := by
  unfold podBad
  split
  · omega
  · split <;> omega
def ErrOK (o : Option (Int × Int)) : Prop := ∀ c a, o = some (c, a) → 1 ≤ c ∧ c ≤ 17 ∧ -1 ≤ a
theorem checkB_ok (s : Snap) : ErrOK (checkB s) := by
  intro c a h
  unfold checkB at h
  split at h
  · cases h1 : fstB Node.id nodeBad 0 0 s.nodes with
    | some q =>
      rw [h1] at h
      simp only [Option.some_or, Option.some.injEq] at h
      subst h
      have := fstB_range nodeBad_c _ _ _ _ _ h1
      omega
    | none =>
      rw [h1, Option.none_or] at h
      cases h2 : fstB Load.id loadBad 0 s.nodes.length s.loads with
      | some q =>
        rw [h2] at h
        simp only [Option.some_or, Option.some.injEq] at h
        subst h
        have := fstB_range loadBad_c _ _ _ _ _ h2
        omega
      | none =>
        rw [h2, Option.none_or] at h
        have := fstB_range (podBad_c s) _ _ _ _ _ h
        omega
  · simp only [Option.some.injEq, Prod.mk.injEq] at h
    omega
theorem errA_snap {err : AV} {hp : Hl} {o : Option (Int × Int)} {kid nx : Nat} (h : ErrA err hp o kid nx) (hpos : ∀ c a, o = some (c, a) → 0 ≤ a) : snapV (blkAt hp) err = some (errG o) := by
  cases o with
  | none =>
    have h' : err = .pv .nili := h
    subst h'
    rfl
  | some q =>
    obtain ⟨c, a⟩ := q
    obtain ⟨b, rfl, h1, h2, h3⟩ := h
    have := hpos c a rfl
    have hn : ¬ a < 0 := by omega
    simp only [snapV, h3, snapRs, snapR, errG, hn, if_false, spotE]
section
variable {T : Tab}
set_option maxRecDepth 100000 in
set_option maxHeartbeats 4000000 in
theorem check3_ok (S : Std3 T) (s : Snap) : Gives T 76 [snapP s] (errG (checkB s)) := by
  refine gives S.h76 rfl ?_
  by_cases hz : sizesOK s = true
  · have hz' := hz
    simp only [sizesOK, Bool.and_eq_true, decide_eq_true_eq] at hz'
    obtain ⟨z1, z2, z3, z4⟩ := hz'
    have y1 : ¬ (s.nodes.length : Int) < 1 := by omega
    have y2 : ¬ (8 : Int) < (s.nodes.length : Int) := by omega
    have y3 : ¬ (8 : Int) < (s.loads.length : Int) := by omega
    have y4 : ¬ (12 : Int) < (s.pods.length : Int) := by omega
    have hpos : ∀ c a, checkB s = some (c, a) → 0 ≤ a := by
      intro c a h
      unfold checkB at h
      rw [if_pos hz] at h
      cases h1 : fstB Node.id nodeBad 0 0 s.nodes with
      | some q =>
        rw [h1] at h
        simp only [Option.some_or, Option.some.injEq] at h
        subst h
        have := fstB_range nodeBad_c _ _ _ _ _ h1
        omega
      | none =>
        rw [h1, Option.none_or] at h
        cases h2 : fstB Load.id loadBad 0 s.nodes.length s.loads with
        | some q =>
          rw [h2] at h
          simp only [Option.some_or, Option.some.injEq] at h
          subst h
          have := fstB_range loadBad_c _ _ _ _ _ h2
          omega
        | none =>
          rw [h2, Option.none_or] at h
          have := fstB_range (podBad_c s) _ _ _ _ _ h
          omega
    simp only [f76, runL, defL, binV, Nat.reduceEqDiff, Nat.reduceAdd, reduceCtorEq, Int.reduceToNat, Nat.reduceMul, Nat.reduceLT, Int.reduceNeg, Int.reduceLE, Int.reduceLT, Int.reduceEq, Nat.reduceLeDiff, List.drop, List.take, snapP, y1, y2, y3, y4]
    refine check_0 S s (by omega) (by omega) (by omega) 0 (Int.le_refl _) (by omega) _ (fstB Node.id nodeBad 0 0 s.nodes) (fun fr hp nx last err hnx g1 g3 b0 b1 hE => ?_) s.nodes 0 0 none (.pv .nili) rfl (Nat.zero_le _) rfl _ _ _ (Nat.le_refl _) rfl rfl rfl rfl rfl rfl rfl rfl
    simp only [runL, defL, binV, Nat.reduceEqDiff, Nat.reduceAdd, reduceCtorEq, Int.reduceToNat, Nat.reduceMul, Nat.reduceLT, Int.reduceNeg, Int.reduceLE, Int.reduceLT, Int.reduceEq, Nat.reduceLeDiff, List.drop, List.take, g1, g3, b0, b1]
    refine check_1 S s (by omega) (by omega) (by omega) s.nodes.length (by omega) (by omega) _ ((fstB Node.id nodeBad 0 0 s.nodes).or (fstB Load.id loadBad 0 s.nodes.length s.loads)) (fun fr hp nx last err hnx g1 g3 b0 b1 hE => ?_) s.loads 0 0 (fstB Node.id nodeBad 0 0 s.nodes) err rfl (Nat.zero_le _) (by rw [show ((s.nodes.length : Int) + ((0 : Nat) : Int)) = s.nodes.length by omega]) _ _ _ hnx ?_ ?_ ?_ ?_ ?_ ?_ ?_ ?_
    · simp only [runL, defL, binV, Nat.reduceEqDiff, Nat.reduceAdd, reduceCtorEq, Int.reduceToNat, Nat.reduceMul, Nat.reduceLT, Int.reduceNeg, Int.reduceLE, Int.reduceLT, Int.reduceEq, Nat.reduceLeDiff, List.drop, List.take, g1, g3, b0, b1]
      refine check_2 S s (by omega) (by omega) (by omega) (s.nodes.length + s.loads.length) (by omega) (by omega) _ (checkB s) (fun fr hp nx last err hnx g1 g3 b0 b1 hE => ?_) s.pods 0 0 ((fstB Node.id nodeBad 0 0 s.nodes).or (fstB Load.id loadBad 0 s.nodes.length s.loads)) err rfl (Nat.zero_le _) ?_ _ _ _ hnx ?_ ?_ ?_ ?_ ?_ ?_ ?_ ?_
      · have hs := errA_snap hE hpos
        simp only [runL, defL, binV, Nat.reduceEqDiff, Nat.reduceAdd, reduceCtorEq, Int.reduceToNat, Nat.reduceMul, Nat.reduceLT, Int.reduceNeg, Int.reduceLE, Int.reduceLT, Int.reduceEq, Nat.reduceLeDiff, List.drop, List.take, g1, g3, b0, b1, hs]
      · rw [checkB, if_pos hz, show ((s.nodes.length : Int) + s.loads.length + ((0 : Nat) : Int)) = (s.nodes.length : Int) + s.loads.length by omega]
      all_goals try simp only [look_if, blkAt_if, Nat.reduceEqDiff, if_true, if_false, g1, g3, b0]
      · rw [show ((s.nodes.length : Int) + s.loads.length + ((0 : Nat) : Int)) = (s.nodes.length : Int) + s.loads.length by omega]
      · exact hE.mono (fun j hj hne => by simp only [look_if, blkAt_if, Nat.reduceEqDiff, if_true, if_false, show ¬ 1 = j from fun h => hne h.symm]) (Nat.le_refl _)
      · rfl
    all_goals try simp only [look_if, blkAt_if, Nat.reduceEqDiff, if_true, if_false, g1, g3, b0]
    · rw [show ((s.nodes.length : Int) + ((0 : Nat) : Int)) = 0 + (s.nodes.length : Int) by omega]
    · exact hE.mono (fun j hj hne => by simp only [look_if, blkAt_if, Nat.reduceEqDiff, if_true, if_false, show ¬ 1 = j from fun h => hne h.symm]) (Nat.le_refl _)
    · rfl
  · have hc : errG (checkB s) = .iface 0 (.int .i64 3) := by rw [checkB, if_neg hz]; rfl
    rw [hc]
    have hz' := hz
    simp only [sizesOK, Bool.and_eq_true, decide_eq_true_eq, not_and] at hz'
    by_cases c1 : (s.nodes.length : Int) < 1
    · simp only [f76, runL, defL, binV, Nat.reduceEqDiff, Nat.reduceAdd, reduceCtorEq, Int.reduceToNat, Nat.reduceMul, Nat.reduceLT, Int.reduceNeg, Int.reduceLE, Int.reduceLT, Int.reduceEq, Nat.reduceLeDiff, List.drop, List.take, snapP, c1]
    · by_cases c2 : (8 : Int) < (s.nodes.length : Int)
      · simp only [f76, runL, defL, binV, Nat.reduceEqDiff, Nat.reduceAdd, reduceCtorEq, Int.reduceToNat, Nat.reduceMul, Nat.reduceLT, Int.reduceNeg, Int.reduceLE, Int.reduceLT, Int.reduceEq, Nat.reduceLeDiff, List.drop, List.take, snapP, c1, c2]
      · by_cases c3 : (8 : Int) < (s.loads.length : Int)
        · simp only [f76, runL, defL, binV, Nat.reduceEqDiff, Nat.reduceAdd, reduceCtorEq, Int.reduceToNat, Nat.reduceMul, Nat.reduceLT, Int.reduceNeg, Int.reduceLE, Int.reduceLT, Int.reduceEq, Nat.reduceLeDiff, List.drop, List.take, snapP, c1, c2, c3]
        · have c4 : (12 : Int) < (s.pods.length : Int) := by have := hz' (by omega) (by omega) (by omega); omega
          simp only [f76, runL, defL, binV, Nat.reduceEqDiff, Nat.reduceAdd, reduceCtorEq, Int.reduceToNat, Nat.reduceMul, Nat.reduceLT, Int.reduceNeg, Int.reduceLE, Int.reduceLT, Int.reduceEq, Nat.reduceLeDiff, List.drop, List.take, snapP, c1, c2, c3, c4]
/-! ### Wants -/
structure StdC (T : Tab) : Prop where
  h282 : Std T 282 f282
  flat282 : T.flat 282 = true
  h287 : Std T 287 f287
  h91 : Std T 91 f91
end
end Go.Proofs.YtjmggjlfamjdbaaDoor.Ab
set_option linter.unusedVariables false
set_option linter.unusedSimpArgs false
namespace Go.Proofs.YtjmggjlfamjdbaaDoor.Ab
open Go
def nodeRd (r : Rd) : Node × Rd := (⟨(intR r).1, (intR (intR r).2).1, (vecR4 (intR (intR r).2).2).1, (vecR4 (vecR4 (intR (intR r).2).2).2).1⟩, (vecR4 (vecR4 (intR (intR r).2).2).2).2)
def loadRd (r : Rd) : Load × Rd := (⟨(intR r).1, (truR (intR r).2).1, (intR (truR (intR r).2).2).1, (intR (intR (truR (intR r).2).2).2).1, (intR (intR (intR (truR (intR r).2).2).2).2).1⟩, (intR (intR (intR (truR (intR r).2).2).2).2).2)
def podRd (r : Rd) : Pod × Rd := (⟨(intR r).1, (intR (intR r).2).1, (intR (intR (intR r).2).2).1, (vecR4 (intR (intR (intR r).2).2).2).1, (intR (vecR4 (intR (intR (intR r).2).2).2).2).1⟩, (intR (vecR4 (intR (intR (intR r).2).2).2).2).2)
structure Fx4 (T : Tab) : Prop where
  i : Fx T 18 fun r => (.int .i64 ((intR r).1 : Nat), (intR r).2)
  v : Fx T 21 fun r => (.agg (vecC (vecR4 r).1), (vecR4 r).2)
  t : Fx T 20 fun r => (.bool (truR r).1, (truR r).2)
  f : Fx T 17 fun r => (.bool (fineR r), r)
theorem fx4 {T : Tab} (S : Std4r T) : Fx4 T := ⟨int_fx S.h18 (next_fx S.h19), vec_fx S.h21 (next_fx S.h19), tru_fx S.h20 (next_fx S.h19), fine_fx S.h17⟩
section
variable {T : Tab}
set_option maxRecDepth 100000 in
set_option maxHeartbeats 4000000 in
theorem snapR_l0 (F : Fx4 T) (N rid sid oid lo : Nat) (u1 u2 : AV) (hN : N ≤ 1000) (hrid : rid < lo) (hsid : sid < lo) (hrs : rid ≠ sid) (hp0 : Hl) (tot : List Node) (fin : Rd) (Q : Exit → St → Prop)
    (hend : ∀ fr hp nx v, lo ≤ nx → look fr 2 = .ptr 0 0 0 → look fr 4 = .ptr rid 0 0 → look fr 5 = .ms oid → look fr 7 = .ptr sid 0 0 → (∀ k, k < lo → k ≠ rid → k ≠ sid → blkAt hp k = blkAt hp0 k) → blkAt hp rid = .var (rdC fin) → blkAt hp sid = .var [v, u1, u2] → Own v hp 10 (tot.map nodeC) lo nx → Q (.exit 0) ⟨fr, hp, nx⟩) :
    ∀ (k i : Nat) (acc : List Node) (r : Rd) (v : AV), i + k = N → acc.length = i → acc ++ (manyRd nodeRd k r).1 = tot → (manyRd nodeRd k r).2 = fin → ∀ (fr : List (Nat × AV)) (hp : Hl) (nx : Nat), lo ≤ nx → look fr 2 = .ptr 0 0 0 → look fr 4 = .ptr rid 0 0 → look fr 5 = .ms oid → look fr 7 = .ptr sid 0 0 → look fr 25 = .pv (.int .i64 N) → look fr 26 = .pv (.int .i64 i) →
      (∀ k, k < lo → k ≠ rid → k ≠ sid → blkAt hp k = blkAt hp0 k) → blkAt hp rid = .var (rdC r) → blkAt hp sid = .var [v, u1, u2] → Own v hp 10 (acc.map nodeC) lo nx → Wp T false (.loop f94l0) ⟨fr, hp, nx⟩ Q := by
  intro k
  induction k with
  | zero =>
    intro i acc r v hi ha ht hf fr hp nx hnx g2 g4 g5 g7 g25 g26 hF hb bs hO
    simp only [manyRd, List.append_nil] at ht hf
    subst ht hf
    have c : ¬ (i : Int) < (N : Int) := by omega
    rw [Wp_loop, Wp_eq f94l0.eq_1]
    simp only [runL, defL, binV, Nat.reduceEqDiff, Nat.reduceAdd, reduceCtorEq, Int.reduceToNat, Nat.reduceMul, Nat.reduceLT, Int.reduceNeg, Int.reduceLE, Int.reduceLT, Int.reduceEq, Nat.reduceLeDiff, List.drop, List.take, g4, g7, g25, g26, c]
    refine hend _ _ _ v hnx ?_ ?_ ?_ ?_ hF hb bs hO
    all_goals try simp only [look_if, blkAt_if, Nat.reduceEqDiff, if_true, if_false, g2, g4, g5, g7]
  | succ k ih =>
    intro i acc r v hi ha ht hf fr hp nx hnx g2 g4 g5 g7 g25 g26 hF hb bs hO
    have c : (i : Int) < (N : Int) := by omega
    have hw : IntKind.i64.wrap ((i : Int) + 1) = ((i + 1 : Nat) : Int) := by rw [wrap6] <;> omega
    simp only [manyRd] at ht hf
    rw [Wp_loop, Wp_eq f94l0.eq_1]
    simp only [runL, defL, binV, Nat.reduceEqDiff, Nat.reduceAdd, reduceCtorEq, Int.reduceToNat, Nat.reduceMul, Nat.reduceLT, Int.reduceNeg, Int.reduceLE, Int.reduceLT, Int.reduceEq, Nat.reduceLeDiff, List.drop, List.take, g4, g7, g25, g26, c]
    refine F.i.call (r := r) (by first | omega | (dsimp only; omega)) hb (fun hp1 nx1 p1 p2 p3 => ?_)
    dsimp only at p1 p2 p3
    simp only [runL, defL, binV, Nat.reduceEqDiff, Nat.reduceAdd, reduceCtorEq, Int.reduceToNat, Nat.reduceMul, Nat.reduceLT, Int.reduceNeg, Int.reduceLE, Int.reduceLT, Int.reduceEq, Nat.reduceLeDiff, List.drop, List.take, g4, g7]
    refine F.i.call (r := (intR r).2) (by first | omega | (dsimp only; omega)) p2 (fun hp2 nx2 q1 q2 q3 => ?_)
    dsimp only at q1 q2 q3
    have e1 : ¬ nx2 = rid := by omega
    simp only [runL, defL, binV, Nat.reduceEqDiff, Nat.reduceAdd, reduceCtorEq, Int.reduceToNat, Nat.reduceMul, Nat.reduceLT, Int.reduceNeg, Int.reduceLE, Int.reduceLT, Int.reduceEq, Nat.reduceLeDiff, List.drop, List.take, g4, g7]
    refine F.v.call (r := (intR (intR r).2).2) (by first | omega | (dsimp only; omega)) (by simp only [look_if, blkAt_if, Nat.reduceEqDiff, if_true, if_false, e1, q2]) (fun hp3 nx3 s1 s2 s3 => ?_)
    dsimp only at s1 s2 s3
    have x1 := s3 nx2 (by omega) (by omega)
    simp only [look_if, blkAt_if, Nat.reduceEqDiff, if_true, if_false] at x1
    simp only [runL, defL, binV, Nat.reduceEqDiff, Nat.reduceAdd, reduceCtorEq, Int.reduceToNat, Nat.reduceMul, Nat.reduceLT, Int.reduceNeg, Int.reduceLE, Int.reduceLT, Int.reduceEq, Nat.reduceLeDiff, List.drop, List.take, g4, g7, x1, vecC]
    refine F.v.call (r := (vecR4 (intR (intR r).2).2).2) (by first | omega | (dsimp only; omega)) (by simp only [look_if, blkAt_if, Nat.reduceEqDiff, if_true, if_false, e1, s2]) (fun hp4 nx4 t1 t2 t3 => ?_)
    dsimp only at t1 t2 t3
    have y1 := t3 nx2 (by omega) (by omega)
    simp only [look_if, blkAt_if, Nat.reduceEqDiff, if_true, if_false] at y1
    have f1 : ¬ nx2 = sid := by omega
    have FF : ∀ j, j < nx → j ≠ rid → blkAt hp4 j = blkAt hp j := fun j j1 j2 => by
      have j3 : ¬ nx2 = j := by omega
      have a1 := t3 j (by omega) j2
      have a2 := s3 j (by omega) j2
      have a3 := q3 j (by omega) j2
      have a4 := p3 j (by omega) j2
      simp only [look_if, blkAt_if, Nat.reduceEqDiff, if_true, if_false, j3] at a1 a2 a3 a4
      rw [a1, a2, a3, a4]
    have ysid := FF sid (by omega) (by omega)
    rw [bs] at ysid
    have hO4 : Own v ((nx2, .var (pvs (nodeC (nodeRd r).1))) :: hp4) 10 (acc.map nodeC) lo nx4 := hO.mono (fun j j1 j2 => by
      have j3 : ¬ nx2 = j := by omega
      simp only [look_if, blkAt_if, Nat.reduceEqDiff, if_true, if_false, j3]
      exact FF j j2 (by omega)) (by omega)
    obtain ⟨v', W, n, a1, a2, a3⟩ := hO4.app1 (by omega) (nodeC (nodeRd r).1) (by rw [List.length_map]; omega)
    obtain ⟨vid, rfl, _⟩ := a3.id (by simp)
    have a1' := a1
    simp only [nodeC, nodeRd, pvs] at a1'
    have e4 : ¬ nx4 = nx2 := by omega
    have e6 : ¬ nx4 = sid := by omega
    have a2s := a2 sid hsid
    simp only [nodeC, nodeRd, pvs, look_if, blkAt_if, Nat.reduceEqDiff, if_true, if_false, f1, ysid] at a2s
    have m1 : ¬ sid = rid := by omega
    have a2r := a2 rid hrid
    simp only [nodeC, nodeRd, pvs, look_if, blkAt_if, Nat.reduceEqDiff, if_true, if_false, e1, t2] at a2r
    simp only [runL, defL, binV, Nat.reduceEqDiff, Nat.reduceAdd, reduceCtorEq, Int.reduceToNat, Nat.reduceMul, Nat.reduceLT, Int.reduceNeg, Int.reduceLE, Int.reduceLT, Int.reduceEq, Nat.reduceLeDiff, List.drop, List.take, g4, g7, g26, y1, ysid, f1, e4, e6, vecC, partsScal, srcV, chunk, allLen, List.all_cons, List.all_nil, a1', a2s, hw]
    refine ih (i + 1) (acc ++ [(nodeRd r).1]) (nodeRd r).2 (.ms vid) (by omega) (by simp [ha]) (by rw [← ht]; simp [List.append_assoc]) hf _ _ _ (by omega) ?_ ?_ ?_ ?_ ?_ ?_ (fun j j1 j2 j3 => ?_) ?_ ?_ ?_
    all_goals try simp only [look_if, blkAt_if, Nat.reduceEqDiff, if_true, if_false, g2, g4, g5, g7, g25, m1, a2r]
    · have h1 : ¬ sid = j := fun h => j3 h.symm
      have h2 : ¬ nx2 = j := by omega
      have := a2 j j1
      simp only [nodeC, nodeRd, pvs, look_if, blkAt_if, Nat.reduceEqDiff, if_true, if_false, h2] at this
      simp only [look_if, blkAt_if, Nat.reduceEqDiff, if_true, if_false, h1]
      rw [this, FF j (by omega) j2]
      exact hF j j1 j2 j3
    · rfl
    · rw [List.map_append]
      exact a3.low (i := sid) hsid (.var [.ms vid, u1, u2])
set_option maxRecDepth 100000 in
set_option maxHeartbeats 4000000 in
theorem snapR_l1 (F : Fx4 T) (N rid sid oid lo : Nat) (u0 u2 : AV) (hN : N ≤ 1000) (hrid : rid < lo) (hsid : sid < lo) (hrs : rid ≠ sid) (hp0 : Hl) (tot : List Load) (fin : Rd) (Q : Exit → St → Prop)
    (hend : ∀ fr hp nx v, lo ≤ nx → look fr 2 = .ptr 0 0 0 → look fr 4 = .ptr rid 0 0 → look fr 5 = .ms oid → look fr 7 = .ptr sid 0 0 → (∀ k, k < lo → k ≠ rid → k ≠ sid → blkAt hp k = blkAt hp0 k) → blkAt hp rid = .var (rdC fin) → blkAt hp sid = .var [u0, v, u2] → Own v hp 5 (tot.map loadC) lo nx → Q (.exit 2) ⟨fr, hp, nx⟩) :
    ∀ (k i : Nat) (acc : List Load) (r : Rd) (v : AV), i + k = N → acc.length = i → acc ++ (manyRd loadRd k r).1 = tot → (manyRd loadRd k r).2 = fin → ∀ (fr : List (Nat × AV)) (hp : Hl) (nx : Nat), lo ≤ nx → look fr 2 = .ptr 0 0 0 → look fr 4 = .ptr rid 0 0 → look fr 5 = .ms oid → look fr 7 = .ptr sid 0 0 → look fr 48 = .pv (.int .i64 N) → look fr 49 = .pv (.int .i64 i) →
      (∀ k, k < lo → k ≠ rid → k ≠ sid → blkAt hp k = blkAt hp0 k) → blkAt hp rid = .var (rdC r) → blkAt hp sid = .var [u0, v, u2] → Own v hp 5 (acc.map loadC) lo nx → Wp T false (.loop f94l1) ⟨fr, hp, nx⟩ Q := by
  intro k
  induction k with
  | zero =>
    intro i acc r v hi ha ht hf fr hp nx hnx g2 g4 g5 g7 g25 g26 hF hb bs hO
    simp only [manyRd, List.append_nil] at ht hf
    subst ht hf
    have c : ¬ (i : Int) < (N : Int) := by omega
    rw [Wp_loop, Wp_eq f94l1.eq_1]
    simp only [runL, defL, binV, Nat.reduceEqDiff, Nat.reduceAdd, reduceCtorEq, Int.reduceToNat, Nat.reduceMul, Nat.reduceLT, Int.reduceNeg, Int.reduceLE, Int.reduceLT, Int.reduceEq, Nat.reduceLeDiff, List.drop, List.take, g4, g7, g25, g26, c]
    refine hend _ _ _ v hnx ?_ ?_ ?_ ?_ hF hb bs hO
    all_goals try simp only [look_if, blkAt_if, Nat.reduceEqDiff, if_true, if_false, g2, g4, g5, g7]
  | succ k ih =>
    intro i acc r v hi ha ht hf fr hp nx hnx g2 g4 g5 g7 g25 g26 hF hb bs hO
    have c : (i : Int) < (N : Int) := by omega
    have hw : IntKind.i64.wrap ((i : Int) + 1) = ((i + 1 : Nat) : Int) := by rw [wrap6] <;> omega
    simp only [manyRd] at ht hf
    rw [Wp_loop, Wp_eq f94l1.eq_1]
    simp only [runL, defL, binV, Nat.reduceEqDiff, Nat.reduceAdd, reduceCtorEq, Int.reduceToNat, Nat.reduceMul, Nat.reduceLT, Int.reduceNeg, Int.reduceLE, Int.reduceLT, Int.reduceEq, Nat.reduceLeDiff, List.drop, List.take, g4, g7, g25, g26, c]
    refine F.i.call (r := r) (by first | omega | (dsimp only; omega)) hb (fun hp1 nx1 p1 p2 p3 => ?_)
    dsimp only at p1 p2 p3
    simp only [runL, defL, binV, Nat.reduceEqDiff, Nat.reduceAdd, reduceCtorEq, Int.reduceToNat, Nat.reduceMul, Nat.reduceLT, Int.reduceNeg, Int.reduceLE, Int.reduceLT, Int.reduceEq, Nat.reduceLeDiff, List.drop, List.take, g4, g7]
    refine F.t.call (r := (intR r).2) (by first | omega | (dsimp only; omega)) p2 (fun hp2 nx2 q1 q2 q3 => ?_)
    dsimp only at q1 q2 q3
    have e1 : ¬ nx2 = rid := by omega
    simp only [runL, defL, binV, Nat.reduceEqDiff, Nat.reduceAdd, reduceCtorEq, Int.reduceToNat, Nat.reduceMul, Nat.reduceLT, Int.reduceNeg, Int.reduceLE, Int.reduceLT, Int.reduceEq, Nat.reduceLeDiff, List.drop, List.take, g4, g7]
    refine F.i.call (r := (truR (intR r).2).2) (by first | omega | (dsimp only; omega)) (by simp only [look_if, blkAt_if, Nat.reduceEqDiff, if_true, if_false, e1, q2]) (fun hp3 nx3 s1 s2 s3 => ?_)
    dsimp only at s1 s2 s3
    have x1 := s3 nx2 (by omega) (by omega)
    simp only [look_if, blkAt_if, Nat.reduceEqDiff, if_true, if_false] at x1
    simp only [runL, defL, binV, Nat.reduceEqDiff, Nat.reduceAdd, reduceCtorEq, Int.reduceToNat, Nat.reduceMul, Nat.reduceLT, Int.reduceNeg, Int.reduceLE, Int.reduceLT, Int.reduceEq, Nat.reduceLeDiff, List.drop, List.take, g4, g7, x1]
    refine F.i.call (r := (intR (truR (intR r).2).2).2) (by first | omega | (dsimp only; omega)) (by simp only [look_if, blkAt_if, Nat.reduceEqDiff, if_true, if_false, e1, s2]) (fun hp4 nx4 t1 t2 t3 => ?_)
    dsimp only at t1 t2 t3
    have y1 := t3 nx2 (by omega) (by omega)
    simp only [look_if, blkAt_if, Nat.reduceEqDiff, if_true, if_false] at y1
    simp only [runL, defL, binV, Nat.reduceEqDiff, Nat.reduceAdd, reduceCtorEq, Int.reduceToNat, Nat.reduceMul, Nat.reduceLT, Int.reduceNeg, Int.reduceLE, Int.reduceLT, Int.reduceEq, Nat.reduceLeDiff, List.drop, List.take, g4, g7, y1]
    refine F.i.call (r := (intR (intR (truR (intR r).2).2).2).2) (by first | omega | (dsimp only; omega)) (by simp only [look_if, blkAt_if, Nat.reduceEqDiff, if_true, if_false, e1, t2]) (fun hp5 nx5 w1 w2 w3 => ?_)
    dsimp only at w1 w2 w3
    have z1 := w3 nx2 (by omega) (by omega)
    simp only [look_if, blkAt_if, Nat.reduceEqDiff, if_true, if_false] at z1
    have f1 : ¬ nx2 = sid := by omega
    have FF : ∀ j, j < nx → j ≠ rid → blkAt hp5 j = blkAt hp j := fun j j1 j2 => by
      have j3 : ¬ nx2 = j := by omega
      have a0 := w3 j (by omega) j2
      have a1 := t3 j (by omega) j2
      have a2 := s3 j (by omega) j2
      have a3 := q3 j (by omega) j2
      have a4 := p3 j (by omega) j2
      simp only [look_if, blkAt_if, Nat.reduceEqDiff, if_true, if_false, j3] at a0 a1 a2 a3 a4
      rw [a0, a1, a2, a3, a4]
    have ysid := FF sid (by omega) (by omega)
    rw [bs] at ysid
    have hO4 : Own v ((nx2, .var (pvs (loadC (loadRd r).1))) :: hp5) 5 (acc.map loadC) lo nx5 := hO.mono (fun j j1 j2 => by
      have j3 : ¬ nx2 = j := by omega
      simp only [look_if, blkAt_if, Nat.reduceEqDiff, if_true, if_false, j3]
      exact FF j j2 (by omega)) (by omega)
    obtain ⟨v', W, n, a1, a2, a3⟩ := hO4.app1 (by omega) (loadC (loadRd r).1) (by rw [List.length_map]; omega)
    obtain ⟨vid, rfl, _⟩ := a3.id (by simp)
    have a1' := a1
    simp only [loadC, loadRd, pvs] at a1'
    have e4 : ¬ nx5 = nx2 := by omega
    have e6 : ¬ nx5 = sid := by omega
    have a2s := a2 sid hsid
    simp only [loadC, loadRd, pvs, look_if, blkAt_if, Nat.reduceEqDiff, if_true, if_false, f1, ysid] at a2s
    have m1 : ¬ sid = rid := by omega
    have a2r := a2 rid hrid
    simp only [loadC, loadRd, pvs, look_if, blkAt_if, Nat.reduceEqDiff, if_true, if_false, e1, w2] at a2r
    simp only [runL, defL, binV, Nat.reduceEqDiff, Nat.reduceAdd, reduceCtorEq, Int.reduceToNat, Nat.reduceMul, Nat.reduceLT, Int.reduceNeg, Int.reduceLE, Int.reduceLT, Int.reduceEq, Nat.reduceLeDiff, List.drop, List.take, g4, g7, g26, z1, ysid, f1, e4, e6, partsScal, srcV, chunk, allLen, List.all_cons, List.all_nil, a1', a2s, hw]
    refine ih (i + 1) (acc ++ [(loadRd r).1]) (loadRd r).2 (.ms vid) (by omega) (by simp [ha]) (by rw [← ht]; simp [List.append_assoc]) hf _ _ _ (by omega) ?_ ?_ ?_ ?_ ?_ ?_ (fun j j1 j2 j3 => ?_) ?_ ?_ ?_
    all_goals try simp only [look_if, blkAt_if, Nat.reduceEqDiff, if_true, if_false, g2, g4, g5, g7, g25, m1, a2r]
    · have h1 : ¬ sid = j := fun h => j3 h.symm
      have h2 : ¬ nx2 = j := by omega
      have := a2 j j1
      simp only [loadC, loadRd, pvs, look_if, blkAt_if, Nat.reduceEqDiff, if_true, if_false, h2] at this
      simp only [look_if, blkAt_if, Nat.reduceEqDiff, if_true, if_false, h1]
      rw [this, FF j (by omega) j2]
      exact hF j j1 j2 j3
    · rfl
    · rw [List.map_append]
      exact a3.low (i := sid) hsid (.var [u0, .ms vid, u2])
set_option maxRecDepth 100000 in
set_option maxHeartbeats 4000000 in
theorem snapR_l2 (F : Fx4 T) (N rid sid oid lo : Nat) (u0 u1 : AV) (hN : N ≤ 1000) (hrid : rid < lo) (hsid : sid < lo) (hrs : rid ≠ sid) (hp0 : Hl) (tot : List Pod) (fin : Rd) (Q : Exit → St → Prop)
    (hend : ∀ fr hp nx v, lo ≤ nx → look fr 2 = .ptr 0 0 0 → look fr 4 = .ptr rid 0 0 → look fr 5 = .ms oid → look fr 7 = .ptr sid 0 0 → (∀ k, k < lo → k ≠ rid → k ≠ sid → blkAt hp k = blkAt hp0 k) → blkAt hp rid = .var (rdC fin) → blkAt hp sid = .var [u0, u1, v] → Own v hp 8 (tot.map podC) lo nx → Q (.exit 4) ⟨fr, hp, nx⟩) :
    ∀ (k i : Nat) (acc : List Pod) (r : Rd) (v : AV), i + k = N → acc.length = i → acc ++ (manyRd podRd k r).1 = tot → (manyRd podRd k r).2 = fin → ∀ (fr : List (Nat × AV)) (hp : Hl) (nx : Nat), lo ≤ nx → look fr 2 = .ptr 0 0 0 → look fr 4 = .ptr rid 0 0 → look fr 5 = .ms oid → look fr 7 = .ptr sid 0 0 → look fr 74 = .pv (.int .i64 N) → look fr 75 = .pv (.int .i64 i) →
      (∀ k, k < lo → k ≠ rid → k ≠ sid → blkAt hp k = blkAt hp0 k) → blkAt hp rid = .var (rdC r) → blkAt hp sid = .var [u0, u1, v] → Own v hp 8 (acc.map podC) lo nx → Wp T false (.loop f94l2) ⟨fr, hp, nx⟩ Q := by
  intro k
  induction k with
  | zero =>
    intro i acc r v hi ha ht hf fr hp nx hnx g2 g4 g5 g7 g25 g26 hF hb bs hO
    simp only [manyRd, List.append_nil] at ht hf
    subst ht hf
    have c : ¬ (i : Int) < (N : Int) := by omega
    rw [Wp_loop, Wp_eq f94l2.eq_1]
    simp only [runL, defL, binV, Nat.reduceEqDiff, Nat.reduceAdd, reduceCtorEq, Int.reduceToNat, Nat.reduceMul, Nat.reduceLT, Int.reduceNeg, Int.reduceLE, Int.reduceLT, Int.reduceEq, Nat.reduceLeDiff, List.drop, List.take, g4, g7, g25, g26, c]
    refine hend _ _ _ v hnx ?_ ?_ ?_ ?_ hF hb bs hO
    all_goals try simp only [look_if, blkAt_if, Nat.reduceEqDiff, if_true, if_false, g2, g4, g5, g7]
  | succ k ih =>
    intro i acc r v hi ha ht hf fr hp nx hnx g2 g4 g5 g7 g25 g26 hF hb bs hO
    have c : (i : Int) < (N : Int) := by omega
    have hw : IntKind.i64.wrap ((i : Int) + 1) = ((i + 1 : Nat) : Int) := by rw [wrap6] <;> omega
    simp only [manyRd] at ht hf
    rw [Wp_loop, Wp_eq f94l2.eq_1]
    simp only [runL, defL, binV, Nat.reduceEqDiff, Nat.reduceAdd, reduceCtorEq, Int.reduceToNat, Nat.reduceMul, Nat.reduceLT, Int.reduceNeg, Int.reduceLE, Int.reduceLT, Int.reduceEq, Nat.reduceLeDiff, List.drop, List.take, g4, g7, g25, g26, c]
    refine F.i.call (r := r) (by first | omega | (dsimp only; omega)) hb (fun hp1 nx1 p1 p2 p3 => ?_)
    dsimp only at p1 p2 p3
    simp only [runL, defL, binV, Nat.reduceEqDiff, Nat.reduceAdd, reduceCtorEq, Int.reduceToNat, Nat.reduceMul, Nat.reduceLT, Int.reduceNeg, Int.reduceLE, Int.reduceLT, Int.reduceEq, Nat.reduceLeDiff, List.drop, List.take, g4, g7]
    refine F.i.call (r := (intR r).2) (by first | omega | (dsimp only; omega)) p2 (fun hp9 nx9 o1 o2 o3 => ?_)
    dsimp only at o1 o2 o3
    simp only [runL, defL, binV, Nat.reduceEqDiff, Nat.reduceAdd, reduceCtorEq, Int.reduceToNat, Nat.reduceMul, Nat.reduceLT, Int.reduceNeg, Int.reduceLE, Int.reduceLT, Int.reduceEq, Nat.reduceLeDiff, List.drop, List.take, g4, g7]
    refine F.i.call (r := (intR (intR r).2).2) (by first | omega | (dsimp only; omega)) o2 (fun hp2 nx2 q1 q2 q3 => ?_)
    dsimp only at q1 q2 q3
    have e1 : ¬ nx2 = rid := by omega
    simp only [runL, defL, binV, Nat.reduceEqDiff, Nat.reduceAdd, reduceCtorEq, Int.reduceToNat, Nat.reduceMul, Nat.reduceLT, Int.reduceNeg, Int.reduceLE, Int.reduceLT, Int.reduceEq, Nat.reduceLeDiff, List.drop, List.take, g4, g7]
    refine F.v.call (r := (intR (intR (intR r).2).2).2) (by first | omega | (dsimp only; omega)) (by simp only [look_if, blkAt_if, Nat.reduceEqDiff, if_true, if_false, e1, q2]) (fun hp3 nx3 s1 s2 s3 => ?_)
    dsimp only at s1 s2 s3
    have x1 := s3 nx2 (by omega) (by omega)
    simp only [look_if, blkAt_if, Nat.reduceEqDiff, if_true, if_false] at x1
    simp only [runL, defL, binV, Nat.reduceEqDiff, Nat.reduceAdd, reduceCtorEq, Int.reduceToNat, Nat.reduceMul, Nat.reduceLT, Int.reduceNeg, Int.reduceLE, Int.reduceLT, Int.reduceEq, Nat.reduceLeDiff, List.drop, List.take, g4, g7, x1, vecC]
    refine F.i.call (r := (vecR4 (intR (intR (intR r).2).2).2).2) (by first | omega | (dsimp only; omega)) (by simp only [look_if, blkAt_if, Nat.reduceEqDiff, if_true, if_false, e1, s2]) (fun hp4 nx4 t1 t2 t3 => ?_)
    dsimp only at t1 t2 t3
    have y1 := t3 nx2 (by omega) (by omega)
    simp only [look_if, blkAt_if, Nat.reduceEqDiff, if_true, if_false] at y1
    have f1 : ¬ nx2 = sid := by omega
    have FF : ∀ j, j < nx → j ≠ rid → blkAt hp4 j = blkAt hp j := fun j j1 j2 => by
      have j3 : ¬ nx2 = j := by omega
      have a1 := t3 j (by omega) j2
      have a2 := s3 j (by omega) j2
      have a3 := q3 j (by omega) j2
      have a5 := o3 j (by omega) j2
      have a4 := p3 j (by omega) j2
      simp only [look_if, blkAt_if, Nat.reduceEqDiff, if_true, if_false, j3] at a1 a2 a3 a4 a5
      rw [a1, a2, a3, a5, a4]
    have ysid := FF sid (by omega) (by omega)
    rw [bs] at ysid
    have hO4 : Own v ((nx2, .var (pvs (podC (podRd r).1))) :: hp4) 8 (acc.map podC) lo nx4 := hO.mono (fun j j1 j2 => by
      have j3 : ¬ nx2 = j := by omega
      simp only [look_if, blkAt_if, Nat.reduceEqDiff, if_true, if_false, j3]
      exact FF j j2 (by omega)) (by omega)
    obtain ⟨v', W, n, a1, a2, a3⟩ := hO4.app1 (by omega) (podC (podRd r).1) (by rw [List.length_map]; omega)
    obtain ⟨vid, rfl, _⟩ := a3.id (by simp)
    have a1' := a1
    simp only [podC, podRd, pvs] at a1'
    have e4 : ¬ nx4 = nx2 := by omega
    have e6 : ¬ nx4 = sid := by omega
    have a2s := a2 sid hsid
    simp only [podC, podRd, pvs, look_if, blkAt_if, Nat.reduceEqDiff, if_true, if_false, f1, ysid] at a2s
    have m1 : ¬ sid = rid := by omega
    have a2r := a2 rid hrid
    simp only [podC, podRd, pvs, look_if, blkAt_if, Nat.reduceEqDiff, if_true, if_false, e1, t2] at a2r
    simp only [runL, defL, binV, Nat.reduceEqDiff, Nat.reduceAdd, reduceCtorEq, Int.reduceToNat, Nat.reduceMul, Nat.reduceLT, Int.reduceNeg, Int.reduceLE, Int.reduceLT, Int.reduceEq, Nat.reduceLeDiff, List.drop, List.take, g4, g7, g26, y1, ysid, f1, e4, e6, partsScal, srcV, chunk, allLen, List.all_cons, List.all_nil, a1', a2s, hw]
    refine ih (i + 1) (acc ++ [(podRd r).1]) (podRd r).2 (.ms vid) (by omega) (by simp [ha]) (by rw [← ht]; simp [List.append_assoc]) hf _ _ _ (by omega) ?_ ?_ ?_ ?_ ?_ ?_ (fun j j1 j2 j3 => ?_) ?_ ?_ ?_
    all_goals try simp only [look_if, blkAt_if, Nat.reduceEqDiff, if_true, if_false, g2, g4, g5, g7, g25, m1, a2r]
    · have h1 : ¬ sid = j := fun h => j3 h.symm
      have h2 : ¬ nx2 = j := by omega
      have := a2 j j1
      simp only [podC, podRd, pvs, look_if, blkAt_if, Nat.reduceEqDiff, if_true, if_false, h2] at this
      simp only [look_if, blkAt_if, Nat.reduceEqDiff, if_true, if_false, h1]
      rw [this, FF j (by omega) j2]
      exact hF j j1 j2 j3
    · rfl
    · rw [List.map_append]
      exact a3.low (i := sid) hsid (.var [u0, u1, .ms vid])
end
end Go.Proofs.YtjmggjlfamjdbaaDoor.Ab
set_option linter.unusedVariables false
set_option linter.unusedSimpArgs false
namespace Go.Proofs.YtjmggjlfamjdbaaDoor.Ab
open Go
def snapsRd (n m k : Nat) (r : Rd) : Snap × Rd := (⟨(manyRd nodeRd n r).1, (manyRd loadRd m (manyRd nodeRd n r).2).1, (manyRd podRd k (manyRd loadRd m (manyRd nodeRd n r).2).2).1⟩, (manyRd podRd k (manyRd loadRd m (manyRd nodeRd n r).2).2).2)
def snapRd (b : List Nat) : PV ⊕ Snap := match begN b 0 [8, 8, 12] with
  | .inr (n :: m :: k :: _, rst) => if fineR (snapsRd n m k (rst, false)).2 = true then (match checkB (snapsRd n m k (rst, false)).1 with | some q => .inl (errG (some q)) | none => .inr (snapsRd n m k (rst, false)).1) else .inl (codeE 2)
  | .inl e => .inl e
  | .inr _ => .inl (codeE 2)
def rdNP : PV ⊕ Snap → PV
  | .inl e => .tuple [snapP ⟨[], [], []⟩, e]
  | .inr s => .tuple [snapP s, .nili]
theorem Own.cases {v : AV} {hp : Hl} {sz lo nx : Nat} {es : List (List PV)} (h : Own v hp sz es lo nx) : (v = .nils ∧ es = []) ∨ ∃ id, v = .ms id ∧ lo ≤ id ∧ id < nx ∧ blkAt hp id = .row sz es := by
  rcases h with ⟨a, b⟩ | h
  · exact .inl ⟨b, a⟩
  · exact .inr h
section
variable {T : Tab}
set_option maxRecDepth 100000 in
set_option maxHeartbeats 16000000 in
theorem readSnap_ok (S : Std4r T) (S3 : Std3 T) (f76 : T.flat 76 = false) (h94 : Std T 94 f94) (b : List Nat) (hb : U8 b) (hbl : b.length ≤ 1000000) : Gives T 94 [bytesP b] (rdNP (snapRd b)) := by
  refine gives h94 rfl ?_
  have F := fx4 S
  simp only [f94, runL, defL, binV, Nat.reduceEqDiff, Nat.reduceAdd, reduceCtorEq, Int.reduceToNat, Nat.reduceMul, Nat.reduceLT, Int.reduceNeg, Int.reduceLE, Int.reduceLT, Int.reduceEq, Nat.reduceLeDiff, List.drop, List.take, partsScal, chunk]
  refine begin_call S (bes := 0) (most := [8, 8, 12]) hb hbl (by omega) (by simp) (by simp) (by simp) (by dsimp only; omega) rfl (fun e he hp' nx' h1 h2 => ?_) (fun out rst he hp' nx' rid oid r1 r2 r3 r4 r5 r6 r7 r8 => ?_)
  · unfold snapRd
    rw [he]
    obtain ⟨t, x, rfl⟩ := begN_err he
    have b0 := h2 0 (by dsimp only; omega)
    simp only [runL, defL, binV, Nat.reduceEqDiff, Nat.reduceAdd, reduceCtorEq, Int.reduceToNat, Nat.reduceMul, Nat.reduceLT, Int.reduceNeg, Int.reduceLE, Int.reduceLT, Int.reduceEq, Nat.reduceLeDiff, List.drop, List.take] at b0
    simp only [runL, defL, binV, Nat.reduceEqDiff, Nat.reduceAdd, reduceCtorEq, Int.reduceToNat, Nat.reduceMul, Nat.reduceLT, Int.reduceNeg, Int.reduceLE, Int.reduceLT, Int.reduceEq, Nat.reduceLeDiff, List.drop, List.take, b0, rdNP, snapP, List.map_nil]
  · obtain ⟨l, e1, e2, e3, rfl, rfl⟩ := begN_out he
    obtain ⟨n, m, k, l', rfl⟩ : ∃ n m k l', l = n :: m :: k :: l' := by
      match l with
      | n :: m :: k :: l' => exact ⟨n, m, k, l', rfl⟩
      | [] | [_] | [_, _] => simp at e2
    have hR : snapRd b = if fineR (snapsRd n m k (l', false)).2 = true then (match checkB (snapsRd n m k (l', false)).1 with | some q => .inl (errG (some q)) | none => .inr (snapsRd n m k (l', false)).1) else .inl (codeE 2) := by
      unfold snapRd
      rw [he]
      rfl
    rw [hR]
    simp only [List.length_cons, List.length_nil, List.take_succ_cons, List.take_zero, Nat.zero_add, List.map_cons, List.map_nil, i64n] at r7
    have hn : n ≤ 8 ∧ m ≤ 8 ∧ k ≤ 12 := by simpa [boundB, and_assoc] using e3
    have b0 := r8 0 (by dsimp only; omega)
    simp only [runL, defL, binV, Nat.reduceEqDiff, Nat.reduceAdd, reduceCtorEq, Int.reduceToNat, Nat.reduceMul, Nat.reduceLT, Int.reduceNeg, Int.reduceLE, Int.reduceLT, Int.reduceEq, Nat.reduceLeDiff, List.drop, List.take] at b0
    dsimp only at r1 r3
    have c1 : ¬ nx' = oid := by omega
    have c2 : ¬ nx' = rid := by omega
    have c3 : ¬ nx' = 0 := by omega
    simp only [runL, defL, binV, Nat.reduceEqDiff, Nat.reduceAdd, reduceCtorEq, Int.reduceToNat, Nat.reduceMul, Nat.reduceLT, Int.reduceNeg, Int.reduceLE, Int.reduceLT, Int.reduceEq, Nat.reduceLeDiff, List.drop, List.take, r7, c1]
    obtain ⟨H0, hH0⟩ : ∃ H0 : Hl, H0 = (nx', Blk.var [AV.nils, AV.nils, AV.nils]) :: hp' := ⟨_, rfl⟩
    have H00 : blkAt H0 0 = .var [.nils, .nils, .nils] := by rw [hH0]; simp only [look_if, blkAt_if, Nat.reduceEqDiff, if_true, if_false, c3, b0]
    have H0o : blkAt H0 oid = .row 1 [[.int .i64 n], [.int .i64 m], [.int .i64 k]] := by rw [hH0]; simp only [look_if, blkAt_if, Nat.reduceEqDiff, if_true, if_false, c1, r7]
    refine snapR_l0 F n rid nx' oid (nx' + 1) .nils .nils (by omega) (by omega) (by omega) (by omega) H0 (snapsRd n m k (l', false)).1.nodes (manyRd nodeRd n (l', false)).2 _ (fun fr hp nx v0 hnx g2 g4 g5 g7 hF hb' bs hO0 => ?_) n 0 [] (l', false) .nils (by omega) rfl rfl rfl _ _ _ (Nat.le_refl _) rfl rfl rfl rfl rfl rfl (fun j j1 j2 j3 => by rw [hH0]) ?_ ?_ Own.nil
    · have ho := hF oid (by omega) (by omega) (by omega)
      rw [H0o] at ho
      simp only [runL, defL, binV, Nat.reduceEqDiff, Nat.reduceAdd, reduceCtorEq, Int.reduceToNat, Nat.reduceMul, Nat.reduceLT, Int.reduceNeg, Int.reduceLE, Int.reduceLT, Int.reduceEq, Nat.reduceLeDiff, List.drop, List.take, g5, ho]
      refine snapR_l1 F m rid nx' oid nx v0 .nils (by omega) (by omega) (by omega) (by omega) hp (snapsRd n m k (l', false)).1.loads (manyRd loadRd m (manyRd nodeRd n (l', false)).2).2 _ (fun fr hp1 nx1 v1 hnx1 g2 g4 g5 g7 hF1 hb1 bs1 hO1 => ?_) m 0 [] _ .nils (by omega) rfl rfl rfl _ _ _ (Nat.le_refl _) ?_ ?_ ?_ ?_ ?_ ?_ (fun j _ _ _ => rfl) hb' bs Own.nil
      · have ho1 := hF1 oid (by omega) (by omega) (by omega)
        rw [ho] at ho1
        simp only [runL, defL, binV, Nat.reduceEqDiff, Nat.reduceAdd, reduceCtorEq, Int.reduceToNat, Nat.reduceMul, Nat.reduceLT, Int.reduceNeg, Int.reduceLE, Int.reduceLT, Int.reduceEq, Nat.reduceLeDiff, List.drop, List.take, g5, ho1]
        refine snapR_l2 F k rid nx' oid nx1 v0 v1 (by omega) (by omega) (by omega) (by omega) hp1 (snapsRd n m k (l', false)).1.pods (snapsRd n m k (l', false)).2 _ (fun fr hp2 nx2 v2 hnx2 g2 g4 g5 g7 hF2 hb2 bs2 hO2 => ?_) k 0 [] _ .nils (by omega) rfl rfl rfl _ _ _ (Nat.le_refl _) ?_ ?_ ?_ ?_ ?_ ?_ (fun j _ _ _ => rfl) hb1 bs1 Own.nil
        · have b02 := hF2 0 (by omega) (by omega) (by omega)
          rw [hF1 0 (by omega) (by omega) (by omega), hF 0 (by omega) (by omega) (by omega), H00] at b02
          simp only [runL, defL, binV, Nat.reduceEqDiff, Nat.reduceAdd, reduceCtorEq, Int.reduceToNat, Nat.reduceMul, Nat.reduceLT, Int.reduceNeg, Int.reduceLE, Int.reduceLT, Int.reduceEq, Nat.reduceLeDiff, List.drop, List.take, g4]
          refine F.f.call (by first | omega | (dsimp only; omega)) hb2 (fun hp3 nx3 p1 p2 p3 => ?_)
          dsimp only at p1 p2 p3
          have b03 := p3 0 (by omega) (by omega)
          rw [b02] at b03
          have bs3 := p3 nx' (by omega) (by omega)
          rw [bs2] at bs3
          have hO0' : Own v0 hp3 10 ((snapsRd n m k (l', false)).1.nodes.map nodeC) (nx' + 1) nx := hO0.mono (fun j j1 j2 => by rw [p3 j (by omega) (by omega), hF2 j (by omega) (by omega) (by omega), hF1 j (by omega) (by omega) (by omega)]) (Nat.le_refl _)
          have hO1' : Own v1 hp3 5 ((snapsRd n m k (l', false)).1.loads.map loadC) nx nx1 := hO1.mono (fun j j1 j2 => by rw [p3 j (by omega) (by omega), hF2 j (by omega) (by omega) (by omega)]) (Nat.le_refl _)
          have hO2' : Own v2 hp3 8 ((snapsRd n m k (l', false)).1.pods.map podC) nx1 nx2 := hO2.mono (fun j j1 j2 => p3 j (by omega) (by omega)) (Nat.le_refl _)
          generalize snapsRd n m k (l', false) = R at *
          obtain ⟨s, r⟩ := R
          dsimp only at hO0' hO1' hO2' ⊢
          have kc := check3_ok S3 s
          simp only [snapP] at kc
          rcases Bool.eq_false_or_eq_true (fineR r) with hf | hf
          · rw [if_pos hf]
            have hcase : ∃ e out, Gives T 76 [.agg [.slice (s.nodes.map nodeC), .slice (s.loads.map loadC), .slice (s.pods.map podC)]] e ∧ rdNP (match checkB s with | some q => .inl (errG (some q)) | none => .inr s) = out ∧ ((e = .nili ∧ out = .tuple [.agg [.slice (s.nodes.map nodeC), .slice (s.loads.map loadC), .slice (s.pods.map podC)], .nili]) ∨ ∃ t x, e = .iface t x ∧ out = .tuple [.agg [.slice [], .slice [], .slice []], .iface t x]) := by
              refine ⟨_, _, kc, rfl, ?_⟩
              cases hq : checkB s with
              | none => exact .inl ⟨rfl, rfl⟩
              | some q =>
                obtain ⟨c, a⟩ := q
                refine .inr ?_
                by_cases ha : a < 0
                · simp only [errG, if_pos ha]; exact ⟨_, _, rfl, rfl⟩
                · simp only [errG, if_neg ha]; exact ⟨_, _, rfl, rfl⟩
            obtain ⟨e, out, kc, hout, hcase⟩ := hcase
            rw [hout]
            have y0 : ¬ 0 = nx' := by omega
            rcases hO0'.cases with ⟨rfl, z0⟩ | ⟨i0, rfl, w0, x0, d0⟩ <;> rcases hO1'.cases with ⟨rfl, z1⟩ | ⟨i1, rfl, w1, x1, d1⟩ <;> rcases hO2'.cases with ⟨rfl, z2⟩ | ⟨i2, rfl, w2, x2, d2⟩
            · rw [z0, z1, z2] at kc hcase
              rcases hcase with ⟨rfl, rfl⟩ | ⟨t, x, rfl, rfl⟩ <;> simp only [runL, defL, binV, Nat.reduceEqDiff, Nat.reduceAdd, reduceCtorEq, Int.reduceToNat, Nat.reduceMul, Nat.reduceLT, Int.reduceNeg, Int.reduceLE, Int.reduceLT, Int.reduceEq, Nat.reduceLeDiff, List.drop, List.take, g2, g7, bs3, b03, hf, kc.call, y0]
            · rw [z0, z1] at kc hcase
              have p2 : ¬ nx' = i2 := by omega
              have q2 : ¬ i2 = nx' := by omega
              have o2 : ¬ i2 = 0 := by omega
              have u2 : ¬ 0 = i2 := by omega
              simp only [runL, defL, binV, Nat.reduceEqDiff, Nat.reduceAdd, reduceCtorEq, Int.reduceToNat, Nat.reduceMul, Nat.reduceLT, Int.reduceNeg, Int.reduceLE, Int.reduceLT, Int.reduceEq, Nat.reduceLeDiff, List.drop, List.take, g2, g7, bs3, hf]
              refine kc.callY f76 ?_ ?_ ?_
              · simp only [runL, defL, binV, Nat.reduceEqDiff, Nat.reduceAdd, reduceCtorEq, Int.reduceToNat, Nat.reduceMul, Nat.reduceLT, Int.reduceNeg, Int.reduceLE, Int.reduceLT, Int.reduceEq, Nat.reduceLeDiff, List.drop, List.take]
              · simp only [frzAll, rowKeys, frzSs, frzS, frzF, frzH, frzB, frzV, frzVs, mkFun, blkAt, cond_true, cond_false, beq_self, runL, defL, binV, Nat.reduceEqDiff, Nat.reduceAdd, reduceCtorEq, Int.reduceToNat, Nat.reduceMul, Nat.reduceLT, Int.reduceNeg, Int.reduceLE, Int.reduceLT, Int.reduceEq, Nat.reduceLeDiff, List.drop, List.take, rowIdsL, rowIds, frzA, look_frz, blkAt_frz, p2, q2, o2, u2, d2]
              · rcases hcase with ⟨rfl, rfl⟩ | ⟨t, x, rfl, rfl⟩ <;> simp only [frzAll, rowKeys, frzSs, frzS, frzF, frzH, frzB, frzV, frzVs, mkFun, blkAt, cond_true, cond_false, beq_self, runL, defL, binV, Nat.reduceEqDiff, Nat.reduceAdd, reduceCtorEq, Int.reduceToNat, Nat.reduceMul, Nat.reduceLT, Int.reduceNeg, Int.reduceLE, Int.reduceLT, Int.reduceEq, Nat.reduceLeDiff, List.drop, List.take, rowIdsL, rowIds, frzA, look_frz, blkAt_frz, g2, g7, bs3, b03, y0, p2, q2, o2, u2, d2]
            · rw [z0, z2] at kc hcase
              have p1 : ¬ nx' = i1 := by omega
              have q1 : ¬ i1 = nx' := by omega
              have o1 : ¬ i1 = 0 := by omega
              have u1 : ¬ 0 = i1 := by omega
              simp only [runL, defL, binV, Nat.reduceEqDiff, Nat.reduceAdd, reduceCtorEq, Int.reduceToNat, Nat.reduceMul, Nat.reduceLT, Int.reduceNeg, Int.reduceLE, Int.reduceLT, Int.reduceEq, Nat.reduceLeDiff, List.drop, List.take, g2, g7, bs3, hf]
              refine kc.callY f76 ?_ ?_ ?_
              · simp only [runL, defL, binV, Nat.reduceEqDiff, Nat.reduceAdd, reduceCtorEq, Int.reduceToNat, Nat.reduceMul, Nat.reduceLT, Int.reduceNeg, Int.reduceLE, Int.reduceLT, Int.reduceEq, Nat.reduceLeDiff, List.drop, List.take]
              · simp only [frzAll, rowKeys, frzSs, frzS, frzF, frzH, frzB, frzV, frzVs, mkFun, blkAt, cond_true, cond_false, beq_self, runL, defL, binV, Nat.reduceEqDiff, Nat.reduceAdd, reduceCtorEq, Int.reduceToNat, Nat.reduceMul, Nat.reduceLT, Int.reduceNeg, Int.reduceLE, Int.reduceLT, Int.reduceEq, Nat.reduceLeDiff, List.drop, List.take, rowIdsL, rowIds, frzA, look_frz, blkAt_frz, p1, q1, o1, u1, d1]
              · rcases hcase with ⟨rfl, rfl⟩ | ⟨t, x, rfl, rfl⟩ <;> simp only [frzAll, rowKeys, frzSs, frzS, frzF, frzH, frzB, frzV, frzVs, mkFun, blkAt, cond_true, cond_false, beq_self, runL, defL, binV, Nat.reduceEqDiff, Nat.reduceAdd, reduceCtorEq, Int.reduceToNat, Nat.reduceMul, Nat.reduceLT, Int.reduceNeg, Int.reduceLE, Int.reduceLT, Int.reduceEq, Nat.reduceLeDiff, List.drop, List.take, rowIdsL, rowIds, frzA, look_frz, blkAt_frz, g2, g7, bs3, b03, y0, p1, q1, o1, u1, d1]
            · rw [z0] at kc hcase
              have p1 : ¬ nx' = i1 := by omega
              have q1 : ¬ i1 = nx' := by omega
              have o1 : ¬ i1 = 0 := by omega
              have u1 : ¬ 0 = i1 := by omega
              have n12 : ¬ i1 = i2 := by omega
              have p2 : ¬ nx' = i2 := by omega
              have q2 : ¬ i2 = nx' := by omega
              have o2 : ¬ i2 = 0 := by omega
              have u2 : ¬ 0 = i2 := by omega
              have n21 : ¬ i2 = i1 := by omega
              simp only [runL, defL, binV, Nat.reduceEqDiff, Nat.reduceAdd, reduceCtorEq, Int.reduceToNat, Nat.reduceMul, Nat.reduceLT, Int.reduceNeg, Int.reduceLE, Int.reduceLT, Int.reduceEq, Nat.reduceLeDiff, List.drop, List.take, g2, g7, bs3, hf]
              refine kc.callY f76 ?_ ?_ ?_
              · simp only [runL, defL, binV, Nat.reduceEqDiff, Nat.reduceAdd, reduceCtorEq, Int.reduceToNat, Nat.reduceMul, Nat.reduceLT, Int.reduceNeg, Int.reduceLE, Int.reduceLT, Int.reduceEq, Nat.reduceLeDiff, List.drop, List.take]
              · simp only [frzAll, rowKeys, frzSs, frzS, frzF, frzH, frzB, frzV, frzVs, mkFun, blkAt, cond_true, cond_false, beq_self, runL, defL, binV, Nat.reduceEqDiff, Nat.reduceAdd, reduceCtorEq, Int.reduceToNat, Nat.reduceMul, Nat.reduceLT, Int.reduceNeg, Int.reduceLE, Int.reduceLT, Int.reduceEq, Nat.reduceLeDiff, List.drop, List.take, rowIdsL, rowIds, frzA, look_frz, blkAt_frz, p1, q1, o1, u1, d1, n12, p2, q2, o2, u2, d2, n21]
              · rcases hcase with ⟨rfl, rfl⟩ | ⟨t, x, rfl, rfl⟩ <;> simp only [frzAll, rowKeys, frzSs, frzS, frzF, frzH, frzB, frzV, frzVs, mkFun, blkAt, cond_true, cond_false, beq_self, runL, defL, binV, Nat.reduceEqDiff, Nat.reduceAdd, reduceCtorEq, Int.reduceToNat, Nat.reduceMul, Nat.reduceLT, Int.reduceNeg, Int.reduceLE, Int.reduceLT, Int.reduceEq, Nat.reduceLeDiff, List.drop, List.take, rowIdsL, rowIds, frzA, look_frz, blkAt_frz, g2, g7, bs3, b03, y0, p1, q1, o1, u1, d1, n12, p2, q2, o2, u2, d2, n21]
            · rw [z1, z2] at kc hcase
              have p0 : ¬ nx' = i0 := by omega
              have q0 : ¬ i0 = nx' := by omega
              have o0 : ¬ i0 = 0 := by omega
              have u0 : ¬ 0 = i0 := by omega
              simp only [runL, defL, binV, Nat.reduceEqDiff, Nat.reduceAdd, reduceCtorEq, Int.reduceToNat, Nat.reduceMul, Nat.reduceLT, Int.reduceNeg, Int.reduceLE, Int.reduceLT, Int.reduceEq, Nat.reduceLeDiff, List.drop, List.take, g2, g7, bs3, hf]
              refine kc.callY f76 ?_ ?_ ?_
              · simp only [runL, defL, binV, Nat.reduceEqDiff, Nat.reduceAdd, reduceCtorEq, Int.reduceToNat, Nat.reduceMul, Nat.reduceLT, Int.reduceNeg, Int.reduceLE, Int.reduceLT, Int.reduceEq, Nat.reduceLeDiff, List.drop, List.take]
              · simp only [frzAll, rowKeys, frzSs, frzS, frzF, frzH, frzB, frzV, frzVs, mkFun, blkAt, cond_true, cond_false, beq_self, runL, defL, binV, Nat.reduceEqDiff, Nat.reduceAdd, reduceCtorEq, Int.reduceToNat, Nat.reduceMul, Nat.reduceLT, Int.reduceNeg, Int.reduceLE, Int.reduceLT, Int.reduceEq, Nat.reduceLeDiff, List.drop, List.take, rowIdsL, rowIds, frzA, look_frz, blkAt_frz, p0, q0, o0, u0, d0]
              · rcases hcase with ⟨rfl, rfl⟩ | ⟨t, x, rfl, rfl⟩ <;> simp only [frzAll, rowKeys, frzSs, frzS, frzF, frzH, frzB, frzV, frzVs, mkFun, blkAt, cond_true, cond_false, beq_self, runL, defL, binV, Nat.reduceEqDiff, Nat.reduceAdd, reduceCtorEq, Int.reduceToNat, Nat.reduceMul, Nat.reduceLT, Int.reduceNeg, Int.reduceLE, Int.reduceLT, Int.reduceEq, Nat.reduceLeDiff, List.drop, List.take, rowIdsL, rowIds, frzA, look_frz, blkAt_frz, g2, g7, bs3, b03, y0, p0, q0, o0, u0, d0]
            · rw [z1] at kc hcase
              have p0 : ¬ nx' = i0 := by omega
              have q0 : ¬ i0 = nx' := by omega
              have o0 : ¬ i0 = 0 := by omega
              have u0 : ¬ 0 = i0 := by omega
              have n02 : ¬ i0 = i2 := by omega
              have p2 : ¬ nx' = i2 := by omega
              have q2 : ¬ i2 = nx' := by omega
              have o2 : ¬ i2 = 0 := by omega
              have u2 : ¬ 0 = i2 := by omega
              have n20 : ¬ i2 = i0 := by omega
              simp only [runL, defL, binV, Nat.reduceEqDiff, Nat.reduceAdd, reduceCtorEq, Int.reduceToNat, Nat.reduceMul, Nat.reduceLT, Int.reduceNeg, Int.reduceLE, Int.reduceLT, Int.reduceEq, Nat.reduceLeDiff, List.drop, List.take, g2, g7, bs3, hf]
              refine kc.callY f76 ?_ ?_ ?_
              · simp only [runL, defL, binV, Nat.reduceEqDiff, Nat.reduceAdd, reduceCtorEq, Int.reduceToNat, Nat.reduceMul, Nat.reduceLT, Int.reduceNeg, Int.reduceLE, Int.reduceLT, Int.reduceEq, Nat.reduceLeDiff, List.drop, List.take]
              · simp only [frzAll, rowKeys, frzSs, frzS, frzF, frzH, frzB, frzV, frzVs, mkFun, blkAt, cond_true, cond_false, beq_self, runL, defL, binV, Nat.reduceEqDiff, Nat.reduceAdd, reduceCtorEq, Int.reduceToNat, Nat.reduceMul, Nat.reduceLT, Int.reduceNeg, Int.reduceLE, Int.reduceLT, Int.reduceEq, Nat.reduceLeDiff, List.drop, List.take, rowIdsL, rowIds, frzA, look_frz, blkAt_frz, p0, q0, o0, u0, d0, n02, p2, q2, o2, u2, d2, n20]
              · rcases hcase with ⟨rfl, rfl⟩ | ⟨t, x, rfl, rfl⟩ <;> simp only [frzAll, rowKeys, frzSs, frzS, frzF, frzH, frzB, frzV, frzVs, mkFun, blkAt, cond_true, cond_false, beq_self, runL, defL, binV, Nat.reduceEqDiff, Nat.reduceAdd, reduceCtorEq, Int.reduceToNat, Nat.reduceMul, Nat.reduceLT, Int.reduceNeg, Int.reduceLE, Int.reduceLT, Int.reduceEq, Nat.reduceLeDiff, List.drop, List.take, rowIdsL, rowIds, frzA, look_frz, blkAt_frz, g2, g7, bs3, b03, y0, p0, q0, o0, u0, d0, n02, p2, q2, o2, u2, d2, n20]
            · rw [z2] at kc hcase
              have p0 : ¬ nx' = i0 := by omega
              have q0 : ¬ i0 = nx' := by omega
              have o0 : ¬ i0 = 0 := by omega
              have u0 : ¬ 0 = i0 := by omega
              have n01 : ¬ i0 = i1 := by omega
              have p1 : ¬ nx' = i1 := by omega
              have q1 : ¬ i1 = nx' := by omega
              have o1 : ¬ i1 = 0 := by omega
              have u1 : ¬ 0 = i1 := by omega
              have n10 : ¬ i1 = i0 := by omega
              simp only [runL, defL, binV, Nat.reduceEqDiff, Nat.reduceAdd, reduceCtorEq, Int.reduceToNat, Nat.reduceMul, Nat.reduceLT, Int.reduceNeg, Int.reduceLE, Int.reduceLT, Int.reduceEq, Nat.reduceLeDiff, List.drop, List.take, g2, g7, bs3, hf]
              refine kc.callY f76 ?_ ?_ ?_
              · simp only [runL, defL, binV, Nat.reduceEqDiff, Nat.reduceAdd, reduceCtorEq, Int.reduceToNat, Nat.reduceMul, Nat.reduceLT, Int.reduceNeg, Int.reduceLE, Int.reduceLT, Int.reduceEq, Nat.reduceLeDiff, List.drop, List.take]
              · simp only [frzAll, rowKeys, frzSs, frzS, frzF, frzH, frzB, frzV, frzVs, mkFun, blkAt, cond_true, cond_false, beq_self, runL, defL, binV, Nat.reduceEqDiff, Nat.reduceAdd, reduceCtorEq, Int.reduceToNat, Nat.reduceMul, Nat.reduceLT, Int.reduceNeg, Int.reduceLE, Int.reduceLT, Int.reduceEq, Nat.reduceLeDiff, List.drop, List.take, rowIdsL, rowIds, frzA, look_frz, blkAt_frz, p0, q0, o0, u0, d0, n01, p1, q1, o1, u1, d1, n10]
              · rcases hcase with ⟨rfl, rfl⟩ | ⟨t, x, rfl, rfl⟩ <;> simp only [frzAll, rowKeys, frzSs, frzS, frzF, frzH, frzB, frzV, frzVs, mkFun, blkAt, cond_true, cond_false, beq_self, runL, defL, binV, Nat.reduceEqDiff, Nat.reduceAdd, reduceCtorEq, Int.reduceToNat, Nat.reduceMul, Nat.reduceLT, Int.reduceNeg, Int.reduceLE, Int.reduceLT, Int.reduceEq, Nat.reduceLeDiff, List.drop, List.take, rowIdsL, rowIds, frzA, look_frz, blkAt_frz, g2, g7, bs3, b03, y0, p0, q0, o0, u0, d0, n01, p1, q1, o1, u1, d1, n10]
            · skip
              have p0 : ¬ nx' = i0 := by omega
              have q0 : ¬ i0 = nx' := by omega
              have o0 : ¬ i0 = 0 := by omega
              have u0 : ¬ 0 = i0 := by omega
              have n01 : ¬ i0 = i1 := by omega
              have n02 : ¬ i0 = i2 := by omega
              have p1 : ¬ nx' = i1 := by omega
              have q1 : ¬ i1 = nx' := by omega
              have o1 : ¬ i1 = 0 := by omega
              have u1 : ¬ 0 = i1 := by omega
              have n10 : ¬ i1 = i0 := by omega
              have n12 : ¬ i1 = i2 := by omega
              have p2 : ¬ nx' = i2 := by omega
              have q2 : ¬ i2 = nx' := by omega
              have o2 : ¬ i2 = 0 := by omega
              have u2 : ¬ 0 = i2 := by omega
              have n20 : ¬ i2 = i0 := by omega
              have n21 : ¬ i2 = i1 := by omega
              simp only [runL, defL, binV, Nat.reduceEqDiff, Nat.reduceAdd, reduceCtorEq, Int.reduceToNat, Nat.reduceMul, Nat.reduceLT, Int.reduceNeg, Int.reduceLE, Int.reduceLT, Int.reduceEq, Nat.reduceLeDiff, List.drop, List.take, g2, g7, bs3, hf]
              refine kc.callY f76 ?_ ?_ ?_
              · simp only [runL, defL, binV, Nat.reduceEqDiff, Nat.reduceAdd, reduceCtorEq, Int.reduceToNat, Nat.reduceMul, Nat.reduceLT, Int.reduceNeg, Int.reduceLE, Int.reduceLT, Int.reduceEq, Nat.reduceLeDiff, List.drop, List.take]
              · simp only [frzAll, rowKeys, frzSs, frzS, frzF, frzH, frzB, frzV, frzVs, mkFun, blkAt, cond_true, cond_false, beq_self, runL, defL, binV, Nat.reduceEqDiff, Nat.reduceAdd, reduceCtorEq, Int.reduceToNat, Nat.reduceMul, Nat.reduceLT, Int.reduceNeg, Int.reduceLE, Int.reduceLT, Int.reduceEq, Nat.reduceLeDiff, List.drop, List.take, rowIdsL, rowIds, frzA, look_frz, blkAt_frz, p0, q0, o0, u0, d0, n01, n02, p1, q1, o1, u1, d1, n10, n12, p2, q2, o2, u2, d2, n20, n21]
              · rcases hcase with ⟨rfl, rfl⟩ | ⟨t, x, rfl, rfl⟩ <;> simp only [frzAll, rowKeys, frzSs, frzS, frzF, frzH, frzB, frzV, frzVs, mkFun, blkAt, cond_true, cond_false, beq_self, runL, defL, binV, Nat.reduceEqDiff, Nat.reduceAdd, reduceCtorEq, Int.reduceToNat, Nat.reduceMul, Nat.reduceLT, Int.reduceNeg, Int.reduceLE, Int.reduceLT, Int.reduceEq, Nat.reduceLeDiff, List.drop, List.take, rowIdsL, rowIds, frzA, look_frz, blkAt_frz, g2, g7, bs3, b03, y0, p0, q0, o0, u0, d0, n01, n02, p1, q1, o1, u1, d1, n10, n12, p2, q2, o2, u2, d2, n20, n21]
          · rw [if_neg (by rw [hf]; decide)]
            simp only [runL, defL, binV, Nat.reduceEqDiff, Nat.reduceAdd, reduceCtorEq, Int.reduceToNat, Nat.reduceMul, Nat.reduceLT, Int.reduceNeg, Int.reduceLE, Int.reduceLT, Int.reduceEq, Nat.reduceLeDiff, List.drop, List.take, g2, b03, rdNP, snapP, codeE, List.map_nil, hf]
        all_goals try simp only [look_if, blkAt_if, Nat.reduceEqDiff, if_true, if_false, g2, g4, g5, g7]
        all_goals rfl
      all_goals try simp only [look_if, blkAt_if, Nat.reduceEqDiff, if_true, if_false, g2, g4, g5, g7]
      all_goals rfl
    · simp only [look_if, blkAt_if, Nat.reduceEqDiff, if_true, if_false, c2, r6]
      rfl
    · simp only [look_if, blkAt_if, Nat.reduceEqDiff, if_true, if_false]
end
end Go.Proofs.YtjmggjlfamjdbaaDoor.Ab
set_option linter.unusedVariables false
set_option linter.unusedSimpArgs false
namespace Go.Proofs.YtjmggjlfamjdbaaDoor.Ab
open Go
theorem U64_vecL (v : Vec) : U64 (vecL v) := fun n hn => by
  simp only [vecL, List.mem_cons, List.not_mem_nil, or_false] at hn
  rcases hn with rfl | rfl | rfl | rfl <;> exact toU_lt _
section
variable {T : Tab}
end
end Go.Proofs.YtjmggjlfamjdbaaDoor.Ab
set_option linter.unusedVariables false
set_option linter.unusedSimpArgs false
namespace Go.Proofs.YtjmggjlfamjdbaaDoor.Ab
open Go
def nodeN (n : Node) : List Nat := [n.id, n.zone].map toU ++ vecL n.cap ++ vecL n.held
def loadN (l : Load) : List Nat := [l.id, truI l.apart, l.skew, l.min, l.max].map toU
def podN (p : Pod) : List Nat := [p.id, p.load, p.prio].map toU ++ vecL p.req ++ [p.node].map toU
def snapN (s : Snap) : List Nat := ((([(s.nodes.length : Int), (s.loads.length : Int), (s.pods.length : Int)].map toU) ++ s.nodes.flatMap nodeN) ++ s.loads.flatMap loadN) ++ s.pods.flatMap podN
def snapW (s : Snap) : PV := match checkB s with
  | some q => .tuple [.slice [], errG (some q)]
  | none => wrP (some (snapN s))
def snapB (s : Snap) : Blk := .var [.pv (.slice (s.nodes.map nodeC)), .pv (.slice (s.loads.map loadC)), .pv (.slice (s.pods.map podC))]
theorem nodeN_len (n : Node) : (nodeN n).length = 10 := rfl
theorem loadN_len (n : Load) : (loadN n).length = 5 := rfl
theorem podN_len (n : Pod) : (podN n).length = 8 := rfl
theorem flat_len {α : Type} {f : α → List Nat} {k : Nat} (hf : ∀ a, (f a).length = k) : ∀ l : List α, (l.flatMap f).length = k * l.length
  | [] => rfl
  | a :: r => by
    rw [List.flatMap_cons, List.length_append, hf, flat_len hf r, List.length_cons, Nat.mul_succ]
    omega
theorem nodeN_u (n : Node) : U64 (nodeN n) := U64_app (U64_app (U64_toU _) (U64_vecL _)) (U64_vecL _)
theorem loadN_u (n : Load) : U64 (loadN n) := U64_toU _
theorem podN_u (n : Pod) : U64 (podN n) := U64_app (U64_app (U64_toU _) (U64_vecL _)) (U64_toU _)
theorem flat_u {α : Type} {f : α → List Nat} (hf : ∀ a, U64 (f a)) : ∀ l : List α, U64 (l.flatMap f)
  | [] => fun n hn => by simp at hn
  | a :: r => by
    rw [List.flatMap_cons]
    exact U64_app (hf a) (flat_u hf r)
theorem snapN_u (s : Snap) : U64 (snapN s) := U64_app (U64_app (U64_app (U64_toU _) (flat_u nodeN_u _)) (flat_u loadN_u _)) (flat_u podN_u _)
theorem snapN_len (s : Snap) : (snapN s).length = 3 + 10 * s.nodes.length + 5 * s.loads.length + 8 * s.pods.length := by
  simp only [snapN, List.length_append, flat_len nodeN_len, flat_len loadN_len, flat_len podN_len, List.length_map, List.length_cons, List.length_nil]
section
variable {T : Tab}
set_option maxRecDepth 100000 in
set_option maxHeartbeats 4000000 in
theorem snapW_l0 (S : Std4w T) (s : Snap) (hs : s.wf) (hl : s.nodes.length ≤ 1000) (tot : List Nat) (htot : tot.length ≤ 100000) (Q : Exit → St → Prop)
    (hend : ∀ fr hp nx v, 2 ≤ nx → look fr 1 = .ptr 0 0 0 → look fr 5 = .ptr 1 0 0 → blkAt hp 0 = snapB s → blkAt hp 1 = .var [v] → Own v hp 1 (tot.map u64C) 2 nx → Q (.exit 0) ⟨fr, hp, nx⟩) :
    ∀ (rest : List Node) (i : Nat) (acc : List Nat) (v : AV), s.nodes.drop i = rest → i ≤ s.nodes.length → acc ++ rest.flatMap nodeN = tot → ∀ (fr : List (Nat × AV)) (hp : Hl) (nx : Nat), 2 ≤ nx → look fr 1 = .ptr 0 0 0 → look fr 5 = .ptr 1 0 0 → look fr 32 = .pv (.slice (s.nodes.map nodeC)) → look fr 33 = .pv (.int .i64 s.nodes.length) → look fr 34 = .pv (.int .i64 i) →
      blkAt hp 0 = snapB s → blkAt hp 1 = .var [v] → Own v hp 1 (acc.map u64C) 2 nx → Wp T false (.loop f96l0) ⟨fr, hp, nx⟩ Q := by
  intro rest
  induction rest with
  | nil =>
    intro i acc v hd hi ho fr hp nx hnx g1 g5 g32 g33 g34 b0 b1 hO
    have hlen := drop_nil hd hi
    simp only [List.flatMap_nil, List.append_nil] at ho
    subst ho
    rw [Wp_loop, Wp_eq f96l0.eq_1]
    simp only [runL, defL, binV, Nat.reduceEqDiff, Nat.reduceAdd, reduceCtorEq, Int.reduceToNat, Nat.reduceMul, Nat.reduceLT, Int.reduceNeg, Int.reduceLE, Int.reduceLT, Int.reduceEq, Nat.reduceLeDiff, List.drop, List.take, g1, g5, g32, g33, g34, hlen, Int.lt_irrefl]
    refine hend _ _ _ v hnx ?_ ?_ b0 b1 hO
    all_goals try simp only [look_if, blkAt_if, Nat.reduceEqDiff, if_true, if_false, g1, g5]
  | cons n r ih =>
    intro i acc v hd hi ho fr hp nx hnx g1 g5 g32 g33 g34 b0 b1 hO
    obtain ⟨hget, hlt, hw, hd', hi', hb⟩ := drop_cons hd (by omega)
    have hn := hs.1 n (List.mem_of_getElem? hget)
    rw [List.flatMap_cons] at ho
    have hla : acc.length + 10 ≤ 100000 := by
      have := congrArg List.length ho
      simp only [List.length_append, nodeN_len] at this
      omega
    have n0 : ¬ nx = 0 := by omega
    have n1 : ¬ nx = 1 := by omega
    have m0 : ¬ nx + 1 = 0 := by omega
    have m1 : ¬ nx + 1 = 1 := by omega
    have mm : ¬ nx + 1 = nx := by omega
    rw [Wp_loop, Wp_eq f96l0.eq_1]
    simp only [runL, defL, binV, Nat.reduceEqDiff, Nat.reduceAdd, reduceCtorEq, Int.reduceToNat, Nat.reduceMul, Nat.reduceLT, Int.reduceNeg, Int.reduceLE, Int.reduceLT, Int.reduceEq, Nat.reduceLeDiff, List.drop, List.take, g1, g5, g32, g33, g34, hlt, hget, nodeC, partsScal, chunk]
    refine ints_call S.h22 (lo := 2) (m := nx) (v := v) (acc := acc) (l := [n.id, n.zone]) (by omega) hnx (by omega) (by first | omega | (dsimp only; omega)) ?_ ?_ ?_ (by simp) (by simp) (by omega) (fun v1 hp1 nx1 p1 p2 p3 p4 => ?_)
    · simp only [look_if, blkAt_if, Nat.reduceEqDiff, if_true, if_false, n1, m1, b1]
    · exact ((hO.over (.inr (Nat.le_refl _))).over (.inr (Nat.le_refl _))).over (.inr (by omega))
    · simp only [look_if, blkAt_if, Nat.reduceEqDiff, if_true, if_false, List.map_cons, List.map_nil, i64c]
    dsimp only at p1 p3 p4
    have x1 := p4 nx (by omega) (by omega) (.inr (Nat.le_refl _))
    have y1 := p4 0 (by omega) (by omega) (.inl (by omega))
    simp only [look_if, blkAt_if, Nat.reduceEqDiff, if_true, if_false, mm, n0, m0, b0] at x1 y1
    simp only [runL, defL, binV, Nat.reduceEqDiff, Nat.reduceAdd, reduceCtorEq, Int.reduceToNat, Nat.reduceMul, Nat.reduceLT, Int.reduceNeg, Int.reduceLE, Int.reduceLT, Int.reduceEq, Nat.reduceLeDiff, List.drop, List.take, g5, x1]
    refine vec_call S.h23 hn.2.2.1 (lo := nx + 1) (m := nx1) (v := v1) (acc := acc ++ [n.id, n.zone].map toU) (by omega) (by omega) (by first | omega | (dsimp only; omega)) p2 (p3.wide (by omega)) (by simp; omega) (fun v2 hp2 nx2 q1 q2 q3 q4 => ?_)
    dsimp only at q1 q3 q4
    have x2 := q4 nx (by omega) (by omega) (.inl (by omega))
    have y2 := q4 0 (by omega) (by omega) (.inl (by omega))
    rw [x1] at x2
    rw [y1] at y2
    simp only [runL, defL, binV, Nat.reduceEqDiff, Nat.reduceAdd, reduceCtorEq, Int.reduceToNat, Nat.reduceMul, Nat.reduceLT, Int.reduceNeg, Int.reduceLE, Int.reduceLT, Int.reduceEq, Nat.reduceLeDiff, List.drop, List.take, g5, x2]
    refine vec_call S.h23 hn.2.2.2 (lo := nx + 1) (m := nx2) (v := v2) (acc := acc ++ [n.id, n.zone].map toU ++ vecL n.cap) (by omega) (by omega) (by first | omega | (dsimp only; omega)) q2 (q3.wide (by omega)) (by simp [vecL]; omega) (fun v3 hp3 nx3 s1 s2 s3 s4 => ?_)
    dsimp only at s1 s3 s4
    have y3 := s4 0 (by omega) (by omega) (.inl (by omega))
    rw [y2] at y3
    simp only [runL, defL, binV, Nat.reduceEqDiff, Nat.reduceAdd, reduceCtorEq, Int.reduceToNat, Nat.reduceMul, Nat.reduceLT, Int.reduceNeg, Int.reduceLE, Int.reduceLT, Int.reduceEq, Nat.reduceLeDiff, List.drop, List.take, g34, hw]
    refine ih (i + 1) (acc ++ nodeN n) v3 hd' hi' (by rw [← ho, List.append_assoc]) _ _ _ (by omega) ?_ ?_ ?_ ?_ ?_ y3 s2 ?_
    all_goals try simp only [look_if, blkAt_if, Nat.reduceEqDiff, if_true, if_false, g1, g5, g32, g33]
    have := s3.wide (lo' := 2) (by omega)
    simpa only [nodeN, List.append_assoc] using this
set_option maxRecDepth 100000 in
set_option maxHeartbeats 4000000 in
theorem snapW_l1 (S : Std4w T) (s : Snap) (hl : s.loads.length ≤ 1000) (tot : List Nat) (htot : tot.length ≤ 100000) (Q : Exit → St → Prop)
    (hend : ∀ fr hp nx v, 2 ≤ nx → look fr 1 = .ptr 0 0 0 → look fr 5 = .ptr 1 0 0 → blkAt hp 0 = snapB s → blkAt hp 1 = .var [v] → Own v hp 1 (tot.map u64C) 2 nx → Q (.exit 2) ⟨fr, hp, nx⟩) :
    ∀ (rest : List Load) (i : Nat) (acc : List Nat) (v : AV), s.loads.drop i = rest → i ≤ s.loads.length → acc ++ rest.flatMap loadN = tot → ∀ (fr : List (Nat × AV)) (hp : Hl) (nx : Nat), 2 ≤ nx → look fr 1 = .ptr 0 0 0 → look fr 5 = .ptr 1 0 0 → look fr 55 = .pv (.slice (s.loads.map loadC)) → look fr 56 = .pv (.int .i64 s.loads.length) → look fr 57 = .pv (.int .i64 i) →
      blkAt hp 0 = snapB s → blkAt hp 1 = .var [v] → Own v hp 1 (acc.map u64C) 2 nx → Wp T false (.loop f96l1) ⟨fr, hp, nx⟩ Q := by
  intro rest
  induction rest with
  | nil =>
    intro i acc v hd hi ho fr hp nx hnx g1 g5 g32 g33 g34 b0 b1 hO
    have hlen := drop_nil hd hi
    simp only [List.flatMap_nil, List.append_nil] at ho
    subst ho
    rw [Wp_loop, Wp_eq f96l1.eq_1]
    simp only [runL, defL, binV, Nat.reduceEqDiff, Nat.reduceAdd, reduceCtorEq, Int.reduceToNat, Nat.reduceMul, Nat.reduceLT, Int.reduceNeg, Int.reduceLE, Int.reduceLT, Int.reduceEq, Nat.reduceLeDiff, List.drop, List.take, g1, g5, g32, g33, g34, hlen, Int.lt_irrefl]
    refine hend _ _ _ v hnx ?_ ?_ b0 b1 hO
    all_goals try simp only [look_if, blkAt_if, Nat.reduceEqDiff, if_true, if_false, g1, g5]
  | cons n r ih =>
    intro i acc v hd hi ho fr hp nx hnx g1 g5 g32 g33 g34 b0 b1 hO
    obtain ⟨hget, hlt, hw, hd', hi', hb⟩ := drop_cons hd (by omega)
    rw [List.flatMap_cons] at ho
    have hla : acc.length + 5 ≤ 100000 := by
      have := congrArg List.length ho
      simp only [List.length_append, loadN_len] at this
      omega
    have n0 : ¬ nx = 0 := by omega
    have n1 : ¬ nx = 1 := by omega
    have m0 : ¬ nx + 1 = 0 := by omega
    have m1 : ¬ nx + 1 = 1 := by omega
    have kt := truth_ok S.h100 n.apart
    rw [Wp_loop, Wp_eq f96l1.eq_1]
    simp only [runL, defL, binV, Nat.reduceEqDiff, Nat.reduceAdd, reduceCtorEq, Int.reduceToNat, Nat.reduceMul, Nat.reduceLT, Int.reduceNeg, Int.reduceLE, Int.reduceLT, Int.reduceEq, Nat.reduceLeDiff, List.drop, List.take, g1, g5, g32, g33, g34, hlt, hget, loadC]
    refine Wp_drawT rfl ?_
    refine (Wp_calmS rfl).2 ?_
    simp only [runL, defL, binV, Nat.reduceEqDiff, Nat.reduceAdd, reduceCtorEq, Int.reduceToNat, Nat.reduceMul, Nat.reduceLT, Int.reduceNeg, Int.reduceLE, Int.reduceLT, Int.reduceEq, Nat.reduceLeDiff, List.drop, List.take, g5, kt.callD, partsScal, chunk]
    refine ints_call S.h22 (lo := 2) (m := nx) (v := v) (acc := acc) (l := [n.id, truI n.apart, n.skew, n.min, n.max]) (by omega) hnx (by omega) (by first | omega | (dsimp only; omega)) ?_ ?_ ?_ (by simp) (by simp) (by omega) (fun v1 hp1 nx1 p1 p2 p3 p4 => ?_)
    · simp only [look_if, blkAt_if, Nat.reduceEqDiff, if_true, if_false, n1, m1, b1]
    · exact ((hO.over (.inr (Nat.le_refl _))).over (.inr (Nat.le_refl _))).over (.inr (by omega))
    · simp only [look_if, blkAt_if, Nat.reduceEqDiff, if_true, if_false, List.map_cons, List.map_nil, i64c]
    dsimp only at p1 p3 p4
    have y1 := p4 0 (by omega) (by omega) (.inl (by omega))
    simp only [look_if, blkAt_if, Nat.reduceEqDiff, if_true, if_false, n0, m0, b0] at y1
    simp only [runL, defL, binV, Nat.reduceEqDiff, Nat.reduceAdd, reduceCtorEq, Int.reduceToNat, Nat.reduceMul, Nat.reduceLT, Int.reduceNeg, Int.reduceLE, Int.reduceLT, Int.reduceEq, Nat.reduceLeDiff, List.drop, List.take, g34, hw]
    refine ih (i + 1) (acc ++ loadN n) v1 hd' hi' (by rw [← ho, List.append_assoc]) _ _ _ (by omega) ?_ ?_ ?_ ?_ ?_ y1 p2 (p3.wide (by omega))
    all_goals try simp only [look_if, blkAt_if, Nat.reduceEqDiff, if_true, if_false, g1, g5, g32, g33]
set_option maxRecDepth 100000 in
set_option maxHeartbeats 4000000 in
theorem snapW_l2 (S : Std4w T) (s : Snap) (hs : s.wf) (hl : s.pods.length ≤ 1000) (tot : List Nat) (htot : tot.length ≤ 100000) (Q : Exit → St → Prop)
    (hend : ∀ fr hp nx v, 2 ≤ nx → look fr 5 = .ptr 1 0 0 → blkAt hp 1 = .var [v] → Own v hp 1 (tot.map u64C) 2 nx → Q (.exit 4) ⟨fr, hp, nx⟩) :
    ∀ (rest : List Pod) (i : Nat) (acc : List Nat) (v : AV), s.pods.drop i = rest → i ≤ s.pods.length → acc ++ rest.flatMap podN = tot → ∀ (fr : List (Nat × AV)) (hp : Hl) (nx : Nat), 2 ≤ nx → look fr 5 = .ptr 1 0 0 → look fr 77 = .pv (.slice (s.pods.map podC)) → look fr 78 = .pv (.int .i64 s.pods.length) → look fr 79 = .pv (.int .i64 i) →
      blkAt hp 1 = .var [v] → Own v hp 1 (acc.map u64C) 2 nx → Wp T false (.loop f96l2) ⟨fr, hp, nx⟩ Q := by
  intro rest
  induction rest with
  | nil =>
    intro i acc v hd hi ho fr hp nx hnx g5 g32 g33 g34 b1 hO
    have hlen := drop_nil hd hi
    simp only [List.flatMap_nil, List.append_nil] at ho
    subst ho
    rw [Wp_loop, Wp_eq f96l2.eq_1]
    simp only [runL, defL, binV, Nat.reduceEqDiff, Nat.reduceAdd, reduceCtorEq, Int.reduceToNat, Nat.reduceMul, Nat.reduceLT, Int.reduceNeg, Int.reduceLE, Int.reduceLT, Int.reduceEq, Nat.reduceLeDiff, List.drop, List.take, g5, g32, g33, g34, hlen, Int.lt_irrefl]
    refine hend _ _ _ v hnx ?_ b1 hO
    all_goals try simp only [look_if, blkAt_if, Nat.reduceEqDiff, if_true, if_false, g5]
  | cons n r ih =>
    intro i acc v hd hi ho fr hp nx hnx g5 g32 g33 g34 b1 hO
    obtain ⟨hget, hlt, hw, hd', hi', hb⟩ := drop_cons hd (by omega)
    have hn := hs.2.2 n (List.mem_of_getElem? hget)
    rw [List.flatMap_cons] at ho
    have hla : acc.length + 8 ≤ 100000 := by
      have := congrArg List.length ho
      simp only [List.length_append, podN_len] at this
      omega
    have n1 : ¬ nx = 1 := by omega
    have m1 : ¬ nx + 1 = 1 := by omega
    have mm : ¬ nx + 1 = nx := by omega
    rw [Wp_loop, Wp_eq f96l2.eq_1]
    simp only [runL, defL, binV, Nat.reduceEqDiff, Nat.reduceAdd, reduceCtorEq, Int.reduceToNat, Nat.reduceMul, Nat.reduceLT, Int.reduceNeg, Int.reduceLE, Int.reduceLT, Int.reduceEq, Nat.reduceLeDiff, List.drop, List.take, g5, g32, g33, g34, hlt, hget, podC, partsScal, chunk]
    refine ints_call S.h22 (lo := 2) (m := nx) (v := v) (acc := acc) (l := [n.id, n.load, n.prio]) (by omega) hnx (by omega) (by first | omega | (dsimp only; omega)) ?_ ?_ ?_ (by simp) (by simp) (by omega) (fun v1 hp1 nx1 p1 p2 p3 p4 => ?_)
    · simp only [look_if, blkAt_if, Nat.reduceEqDiff, if_true, if_false, n1, m1, b1]
    · exact ((hO.over (.inr (Nat.le_refl _))).over (.inr (Nat.le_refl _))).over (.inr (by omega))
    · simp only [look_if, blkAt_if, Nat.reduceEqDiff, if_true, if_false, List.map_cons, List.map_nil, i64c]
    dsimp only at p1 p3 p4
    have x1 := p4 nx (by omega) (by omega) (.inr (Nat.le_refl _))
    simp only [look_if, blkAt_if, Nat.reduceEqDiff, if_true, if_false, mm] at x1
    simp only [runL, defL, binV, Nat.reduceEqDiff, Nat.reduceAdd, reduceCtorEq, Int.reduceToNat, Nat.reduceMul, Nat.reduceLT, Int.reduceNeg, Int.reduceLE, Int.reduceLT, Int.reduceEq, Nat.reduceLeDiff, List.drop, List.take, g5, x1]
    refine vec_call S.h23 hn.2.2.2.1 (lo := nx + 1) (m := nx1) (v := v1) (acc := acc ++ [n.id, n.load, n.prio].map toU) (by omega) (by omega) (by first | omega | (dsimp only; omega)) p2 (p3.wide (by omega)) (by simp; omega) (fun v2 hp2 nx2 q1 q2 q3 q4 => ?_)
    dsimp only at q1 q3 q4
    have x2 := q4 nx (by omega) (by omega) (.inl (by omega))
    rw [x1] at x2
    have e2 : ¬ nx2 = 1 := by omega
    simp only [runL, defL, binV, Nat.reduceEqDiff, Nat.reduceAdd, reduceCtorEq, Int.reduceToNat, Nat.reduceMul, Nat.reduceLT, Int.reduceNeg, Int.reduceLE, Int.reduceLT, Int.reduceEq, Nat.reduceLeDiff, List.drop, List.take, g5, x2, partsScal, chunk]
    refine ints_call S.h22 (lo := nx + 1) (m := nx2) (v := v2) (acc := acc ++ [n.id, n.load, n.prio].map toU ++ vecL n.req) (l := [n.node]) (by omega) (by omega) (by first | omega | (dsimp only; omega)) (by first | omega | (dsimp only; omega)) ?_ ?_ ?_ (by simp) (by simp) (by simp [vecL]; omega) (fun v3 hp3 nx3 s1 s2 s3 s4 => ?_)
    · simp only [look_if, blkAt_if, Nat.reduceEqDiff, if_true, if_false, q2, e2]
    · exact (q3.wide (by omega)).over (.inr (by omega))
    · simp only [look_if, blkAt_if, Nat.reduceEqDiff, if_true, if_false, List.map_cons, List.map_nil, i64c]
    dsimp only at s1 s3 s4
    simp only [runL, defL, binV, Nat.reduceEqDiff, Nat.reduceAdd, reduceCtorEq, Int.reduceToNat, Nat.reduceMul, Nat.reduceLT, Int.reduceNeg, Int.reduceLE, Int.reduceLT, Int.reduceEq, Nat.reduceLeDiff, List.drop, List.take, g34, hw]
    refine ih (i + 1) (acc ++ podN n) v3 hd' hi' (by rw [← ho, List.append_assoc]) _ _ _ (by omega) ?_ ?_ ?_ ?_ s2 ?_
    all_goals try simp only [look_if, blkAt_if, Nat.reduceEqDiff, if_true, if_false, g5, g32, g33]
    have := s3.wide (lo' := 2) (by omega)
    simpa only [podN, List.append_assoc] using this
set_option maxRecDepth 100000 in
set_option maxHeartbeats 4000000 in
theorem snapW_ok (S : Std4w T) (S3 : Std3 T) (h96 : Std T 96 f96) (s : Snap) (hs : s.wf) (hl : s.nodes.length ≤ 1000 ∧ s.loads.length ≤ 1000 ∧ s.pods.length ≤ 1000) : Gives T 96 [snapP s] (snapW s) := by
  refine gives h96 rfl ?_
  have kc := check3_ok S3 s
  simp only [snapP] at kc
  unfold snapW
  cases hq : checkB s with
  | some q =>
    obtain ⟨c, a⟩ := q
    rw [hq] at kc
    by_cases ha : a < 0
    · simp only [errG, if_pos ha, codeE] at kc ⊢
      simp only [f96, runL, defL, binV, Nat.reduceEqDiff, Nat.reduceAdd, reduceCtorEq, Int.reduceToNat, Nat.reduceMul, Nat.reduceLT, Int.reduceNeg, Int.reduceLE, Int.reduceLT, Int.reduceEq, Nat.reduceLeDiff, List.drop, List.take, snapP, kc.call]
    · simp only [errG, if_neg ha, spotE] at kc ⊢
      simp only [f96, runL, defL, binV, Nat.reduceEqDiff, Nat.reduceAdd, reduceCtorEq, Int.reduceToNat, Nat.reduceMul, Nat.reduceLT, Int.reduceNeg, Int.reduceLE, Int.reduceLT, Int.reduceEq, Nat.reduceLeDiff, List.drop, List.take, snapP, kc.call]
  | none =>
    rw [hq] at kc
    simp only [errG] at kc
    have hlen := snapN_len s
    have ht : (snapN s).length ≤ 100000 := by omega
    simp only [f96, runL, defL, binV, Nat.reduceEqDiff, Nat.reduceAdd, reduceCtorEq, Int.reduceToNat, Nat.reduceMul, Nat.reduceLT, Int.reduceNeg, Int.reduceLE, Int.reduceLT, Int.reduceEq, Nat.reduceLeDiff, List.drop, List.take, snapP, kc.call, partsScal, chunk]
    refine ints_call S.h22 (lo := 2) (m := 2) (v := .nils) (acc := []) (l := [(s.nodes.length : Int), (s.loads.length : Int), (s.pods.length : Int)]) (by omega) (by omega) (by omega) (by first | omega | (dsimp only; omega)) rfl Own.nil rfl (by simp) (by simp) (by simp) (fun v' hp' nx' h1 h2 h3 h4 => ?_)
    dsimp only at h1 h3 h4
    have hb0 := h4 0 (by omega) (by omega) (.inl (by omega))
    simp only [runL, defL, binV, Nat.reduceEqDiff, Nat.reduceAdd, reduceCtorEq, Int.reduceToNat, Nat.reduceMul, Nat.reduceLT, Int.reduceNeg, Int.reduceLE, Int.reduceLT, Int.reduceEq, Nat.reduceLeDiff, List.drop, List.take] at hb0
    simp only [runL, defL, binV, Nat.reduceEqDiff, Nat.reduceAdd, reduceCtorEq, Int.reduceToNat, Nat.reduceMul, Nat.reduceLT, Int.reduceNeg, Int.reduceLE, Int.reduceLT, Int.reduceEq, Nat.reduceLeDiff, List.drop, List.take, hb0]
    refine snapW_l0 S s hs (by omega) (([(s.nodes.length : Int), (s.loads.length : Int), (s.pods.length : Int)].map toU) ++ s.nodes.flatMap nodeN) (by
      simp only [snapN, List.length_append] at ht ⊢
      omega) _ (fun fr hp nx v hnx g1 g5 b0 b1 hO => ?_) s.nodes 0 _ v' rfl (Nat.zero_le _) rfl _ _ _ (by omega) rfl rfl rfl rfl rfl hb0 h2 (h3.wide (by omega))
    have b0' := b0
    simp only [snapB] at b0'
    simp only [runL, defL, binV, Nat.reduceEqDiff, Nat.reduceAdd, reduceCtorEq, Int.reduceToNat, Nat.reduceMul, Nat.reduceLT, Int.reduceNeg, Int.reduceLE, Int.reduceLT, Int.reduceEq, Nat.reduceLeDiff, List.drop, List.take, g1, b0']
    refine snapW_l1 S s (by omega) ((([(s.nodes.length : Int), (s.loads.length : Int), (s.pods.length : Int)].map toU) ++ s.nodes.flatMap nodeN) ++ s.loads.flatMap loadN) (by
      simp only [snapN, List.length_append] at ht ⊢
      omega) _ (fun fr hp nx v hnx g1 g5 b0 b1 hO => ?_) s.loads 0 _ v rfl (Nat.zero_le _) rfl _ _ _ hnx ?_ ?_ ?_ ?_ ?_ b0 b1 hO
    · have b0' := b0
      simp only [snapB] at b0'
      simp only [runL, defL, binV, Nat.reduceEqDiff, Nat.reduceAdd, reduceCtorEq, Int.reduceToNat, Nat.reduceMul, Nat.reduceLT, Int.reduceNeg, Int.reduceLE, Int.reduceLT, Int.reduceEq, Nat.reduceLeDiff, List.drop, List.take, g1, b0']
      refine snapW_l2 S s hs (by omega) (snapN s) ht _ (fun fr hp nx v hnx g5 b1 hO => ?_) s.pods 0 _ v rfl (Nat.zero_le _) rfl _ _ _ hnx ?_ ?_ ?_ ?_ b1 hO
      · obtain ⟨id, rfl, i1, i2, i3⟩ := hO.id (fun h => by
          have h' : snapN s = [] := by simpa using h
          rw [h'] at hlen
          simp only [List.length_nil] at hlen
          omega)
        have kp := put_ok S.h264 (snapN s) (snapN_u s) (by omega)
        simp only [u64s] at kp
        simp only [runL, defL, binV, Nat.reduceEqDiff, Nat.reduceAdd, reduceCtorEq, Int.reduceToNat, Nat.reduceMul, Nat.reduceLT, Int.reduceNeg, Int.reduceLE, Int.reduceLT, Int.reduceEq, Nat.reduceLeDiff, List.drop, List.take, g5, b1]
        refine kp.callY S.f264 rfl ?_ ?_
        · simp only [frzAll, rowKeys, frzSs, frzS, frzF, frzH, frzB, frzV, frzVs, mkFun, blkAt, cond_true, cond_false, beq_self, runL, defL, binV, Nat.reduceEqDiff, Nat.reduceAdd, reduceCtorEq, Int.reduceToNat, Nat.reduceMul, Nat.reduceLT, Int.reduceNeg, Int.reduceLE, Int.reduceLT, Int.reduceEq, Nat.reduceLeDiff, List.drop, List.take, rowIdsL, rowIds, frzA, i3]
        · simp only [frzAll, rowKeys, frzSs, frzS, frzF, frzH, frzB, frzV, frzVs, mkFun, blkAt, cond_true, cond_false, beq_self, runL, defL, binV, Nat.reduceEqDiff, Nat.reduceAdd, reduceCtorEq, Int.reduceToNat, Nat.reduceMul, Nat.reduceLT, Int.reduceNeg, Int.reduceLE, Int.reduceLT, Int.reduceEq, Nat.reduceLeDiff, List.drop, List.take, rowIdsL, rowIds, frzA, wrP, bytesP]
      all_goals try simp only [look_if, blkAt_if, Nat.reduceEqDiff, if_true, if_false, g5]
      all_goals rfl
    all_goals try simp only [look_if, blkAt_if, Nat.reduceEqDiff, if_true, if_false, g1, g5]
    all_goals rfl
end
end Go.Proofs.YtjmggjlfamjdbaaDoor.Ab
set_option linter.unusedVariables false
set_option linter.unusedSimpArgs false
namespace Go.Proofs.YtjmggjlfamjdbaaDoor.Ab
open Go
theorem toU_tru (b : Bool) : IntKind.u64.wrap (truI b) = truI b := by cases b <;> decide
section
variable {T : Tab}
theorem truth4_ok (S : Std T 352 f352) (b : Bool) : Gives T 352 [.bool b] (.int .u64 (truI b)) := by
  refine gives S rfl ?_
  cases b <;> simp only [f352, runL, defL, binV, Nat.reduceEqDiff, Nat.reduceAdd, reduceCtorEq, Int.reduceToNat, Nat.reduceMul, Nat.reduceLT, Int.reduceNeg, Int.reduceLE, Int.reduceLT, Int.reduceEq, Nat.reduceLeDiff, List.drop, List.take, truI, Bool.false_eq_true]
end
end Go.Proofs.YtjmggjlfamjdbaaDoor.Ab
set_option linter.unusedVariables false
set_option linter.unusedSimpArgs false
namespace Go.Proofs.YtjmggjlfamjdbaaDoor.Ab
open Go
theorem nextR_bad (r : Rd) (h : r.2 = true) : (nextR r).2.2 = true := by
  obtain ⟨l, b⟩ := r
  simp only at h
  subst h
  cases l <;> rfl
theorem vecR4_bad (r : Rd) (h : r.2 = true) : (vecR4 r).2.2 = true := nextR_bad _ (nextR_bad _ (nextR_bad _ (nextR_bad _ h)))
theorem truR_bad (r : Rd) (h : r.2 = true) : (truR r).2.2 = true := by
  unfold truR
  dsimp only
  rw [nextR_bad r h]
  rfl
theorem intR_eq (n : Nat) (l : List Nat) (b : Bool) : intR (n :: l, b) = (numV n, (l, b || !numB n)) := by
  unfold intR nextR numV numB
  dsimp only
  by_cases c : 2147483647 < n
  · rw [if_pos c, if_pos c, decide_eq_true c]; simp
  · rw [if_neg c, if_neg c, decide_eq_false c]; simp
/-! ### The walk -/
section
variable {T : Tab}
end
end Go.Proofs.YtjmggjlfamjdbaaDoor.Ab
set_option linter.unusedVariables false
set_option linter.unusedSimpArgs false
namespace Go.Proofs.YtjmggjlfamjdbaaDoor.Ab
open Go
/-! ### What was read -/
theorem nextR_inv {l : List Nat} {b : Bool} (h : (nextR (l, b)).2.2 = false) : b = false ∧ ∃ n r, l = n :: r ∧ nextR (l, b) = (n, (r, false)) := by
  cases l with
  | nil => simp [nextR] at h
  | cons n r =>
    simp only [nextR] at h
    subst h
    exact ⟨rfl, n, r, rfl, rfl⟩
theorem intR_inv {l : List Nat} {b : Bool} (h : (intR (l, b)).2.2 = false) : b = false ∧ ∃ n r, l = n :: r ∧ n ≤ 2147483647 ∧ intR (l, b) = (n, (r, false)) := by
  cases l with
  | nil => simp [intR, nextR] at h
  | cons n r =>
    rw [intR_eq] at h
    simp only [Bool.or_eq_false_iff, Bool.not_eq_false'] at h
    obtain ⟨rfl, h2⟩ := h
    have hn : n ≤ 2147483647 := by
      unfold numB at h2
      simpa using h2
    exact ⟨rfl, n, r, rfl, hn, intR_cons n r hn⟩
theorem truR_inv {l : List Nat} {b : Bool} (h : (truR (l, b)).2.2 = false) : b = false ∧ ∃ n r, l = n :: r ∧ n ≤ 1 ∧ truR (l, b) = (decide (n = 1), (r, false)) := by
  unfold truR at h
  simp only [Bool.or_eq_false_iff, decide_eq_false_iff_not] at h
  obtain ⟨rfl, n, r, rfl, e⟩ := nextR_inv h.1
  rw [e] at h
  refine ⟨rfl, n, r, rfl, by omega, ?_⟩
  unfold truR
  rw [e]
  simp only [Bool.false_or, Prod.mk.injEq, true_and]
  exact decide_eq_false h.2
theorem vecR4_inv {l : List Nat} {b : Bool} (h : (vecR4 (l, b)).2.2 = false) : b = false ∧ ∃ a c d e r, l = a :: c :: d :: e :: r ∧ vecR4 (l, b) = (⟨a, c, d, e⟩, (r, false)) := by
  unfold vecR4 at h ⊢
  dsimp only at h ⊢
  have h3 := nextR_inv (l := (nextR (nextR (nextR (l, b)).2).2).2.1) (b := (nextR (nextR (nextR (l, b)).2).2).2.2) h
  have h2 := nextR_inv (l := (nextR (nextR (l, b)).2).2.1) (b := (nextR (nextR (l, b)).2).2.2) h3.1
  have h1 := nextR_inv (l := (nextR (l, b)).2.1) (b := (nextR (l, b)).2.2) h2.1
  obtain ⟨rfl, a, r, rfl, e⟩ := nextR_inv h1.1
  rw [e] at h1 h2 h3 ⊢
  obtain ⟨_, c, r1, e1, e2⟩ := h1
  dsimp only at e1 e2
  subst e1
  rw [e2] at h2 h3 ⊢
  obtain ⟨_, d, r2, e3, e4⟩ := h2
  dsimp only at e3 e4
  subst e3
  rw [e4] at h3 ⊢
  obtain ⟨_, f, r3, e5, e6⟩ := h3
  dsimp only at e5 e6
  subst e5
  rw [e6]
  exact ⟨rfl, a, c, d, f, r3, rfl, rfl⟩
theorem toU_n {n : Nat} (h : n ≤ 2147483647) : toU (n : Int) = n := toU_nat n (by omega)
theorem truI_n {n : Nat} (h : n ≤ 1) : toU (truI (decide (n = 1))) = n := by
  obtain rfl | rfl : n = 0 ∨ n = 1 := by omega
  · decide
  · decide
def Undo {α : Type} (f : Rd → α × Rd) (g : α → List Nat) (P : α → Prop) : Prop := ∀ (l : List Nat) (b : Bool), U64 l → (f (l, b)).2.2 = false → b = false ∧ P (f (l, b)).1 ∧ l = g (f (l, b)).1 ++ (f (l, b)).2.1
theorem U64_tail {n : Nat} {l : List Nat} (h : U64 (n :: l)) : U64 l := fun m hm => h m (List.mem_cons_of_mem _ hm)
theorem vecL_n {a b c d : Nat} {r : List Nat} (h : U64 (a :: b :: c :: d :: r)) : vecL ⟨a, b, c, d⟩ = [a, b, c, d] := by
  simp only [vecL]
  rw [toU_nat a (h a (by simp)), toU_nat b (h b (by simp)), toU_nat c (h c (by simp)), toU_nat d (h d (by simp))]
theorem inI_n {n : Nat} (h : n ≤ 2147483647) : inI (n : Int) := by unfold inI; omega
theorem inU_n {n : Nat} {l : List Nat} (h : U64 l) (hm : n ∈ l) : inU (n : Int) := by
  have := h n hm
  unfold inU
  omega
theorem vecW_n {a b c d : Nat} {r : List Nat} (h : U64 (a :: b :: c :: d :: r)) : Vec.wf ⟨a, b, c, d⟩ := ⟨inU_n h (by simp), inU_n h (by simp), inU_n h (by simp), inU_n h (by simp)⟩
theorem node_undo : Undo nodeRd nodeN Node.wf := by
  intro l b hu h
  unfold nodeRd at h ⊢
  dsimp only at h ⊢
  have h3 := vecR4_inv (l := (vecR4 (intR (intR (l, b)).2).2).2.1) (b := (vecR4 (intR (intR (l, b)).2).2).2.2) h
  have h2 := vecR4_inv (l := (intR (intR (l, b)).2).2.1) (b := (intR (intR (l, b)).2).2.2) h3.1
  have h1 := intR_inv (l := (intR (l, b)).2.1) (b := (intR (l, b)).2.2) h2.1
  obtain ⟨rfl, n, r, rfl, hn, e⟩ := intR_inv h1.1
  rw [e] at h1 h2 h3 ⊢
  obtain ⟨_, m, r1, e1, hm, e2⟩ := h1
  dsimp only at e1 e2
  subst e1
  rw [e2] at h2 h3 ⊢
  obtain ⟨_, a, b, c, d, r2, e3, e4⟩ := h2
  dsimp only at e3 e4
  subst e3
  rw [e4] at h3 ⊢
  obtain ⟨_, a', b', c', d', r3, e5, e6⟩ := h3
  dsimp only at e5 e6
  subst e5
  rw [e6]
  refine ⟨rfl, ⟨inI_n hn, inI_n hm, vecW_n (U64_tail (U64_tail hu)), vecW_n (U64_tail (U64_tail (U64_tail (U64_tail (U64_tail (U64_tail hu))))))⟩, ?_⟩
  simp only [nodeN, List.map_cons, List.map_nil, toU_n hn, toU_n hm]
  rw [vecL_n (U64_tail (U64_tail hu)), vecL_n (U64_tail (U64_tail (U64_tail (U64_tail (U64_tail (U64_tail hu))))))]
  rfl
theorem load_undo : Undo loadRd loadN Load.wf := by
  intro l b hu h
  unfold loadRd at h ⊢
  dsimp only at h ⊢
  have h4 := intR_inv (l := (intR (intR (truR (intR (l, b)).2).2).2).2.1) (b := (intR (intR (truR (intR (l, b)).2).2).2).2.2) h
  have h3 := intR_inv (l := (intR (truR (intR (l, b)).2).2).2.1) (b := (intR (truR (intR (l, b)).2).2).2.2) h4.1
  have h2 := intR_inv (l := (truR (intR (l, b)).2).2.1) (b := (truR (intR (l, b)).2).2.2) h3.1
  have h1 := truR_inv (l := (intR (l, b)).2.1) (b := (intR (l, b)).2.2) h2.1
  obtain ⟨rfl, n, r, rfl, hn, e⟩ := intR_inv h1.1
  rw [e] at h1 h2 h3 h4 ⊢
  obtain ⟨_, m, r1, e1, hm, e2⟩ := h1
  dsimp only at e1 e2
  subst e1
  rw [e2] at h2 h3 h4 ⊢
  obtain ⟨_, a, r2, e3, ha, e4⟩ := h2
  dsimp only at e3 e4
  subst e3
  rw [e4] at h3 h4 ⊢
  obtain ⟨_, c, r3, e5, hc, e6⟩ := h3
  dsimp only at e5 e6
  subst e5
  rw [e6] at h4 ⊢
  obtain ⟨_, d, r4, e7, hd, e8⟩ := h4
  dsimp only at e7 e8
  subst e7
  rw [e8]
  refine ⟨rfl, ⟨inI_n hn, inI_n ha, inI_n hc, inI_n hd⟩, ?_⟩
  simp only [loadN, List.map_cons, List.map_nil, toU_n hn, truI_n hm, toU_n ha, toU_n hc, toU_n hd]
  rfl
theorem pod_undo : Undo podRd podN Pod.wf := by
  intro l b hu h
  unfold podRd at h ⊢
  dsimp only at h ⊢
  have h4 := intR_inv (l := (vecR4 (intR (intR (intR (l, b)).2).2).2).2.1) (b := (vecR4 (intR (intR (intR (l, b)).2).2).2).2.2) h
  have h3 := vecR4_inv (l := (intR (intR (intR (l, b)).2).2).2.1) (b := (intR (intR (intR (l, b)).2).2).2.2) h4.1
  have h2 := intR_inv (l := (intR (intR (l, b)).2).2.1) (b := (intR (intR (l, b)).2).2.2) h3.1
  have h1 := intR_inv (l := (intR (l, b)).2.1) (b := (intR (l, b)).2.2) h2.1
  obtain ⟨rfl, n, r, rfl, hn, e⟩ := intR_inv h1.1
  rw [e] at h1 h2 h3 h4 ⊢
  obtain ⟨_, m, r1, e1, hm, e2⟩ := h1
  dsimp only at e1 e2
  subst e1
  rw [e2] at h2 h3 h4 ⊢
  obtain ⟨_, a, r2, e3, ha, e4⟩ := h2
  dsimp only at e3 e4
  subst e3
  rw [e4] at h3 h4 ⊢
  obtain ⟨_, a', b', c', d', r3, e5, e6⟩ := h3
  dsimp only at e5 e6
  subst e5
  rw [e6] at h4 ⊢
  obtain ⟨_, d, r4, e7, hd, e8⟩ := h4
  dsimp only at e7 e8
  subst e7
  rw [e8]
  refine ⟨rfl, ⟨inI_n hn, inI_n hm, inI_n ha, vecW_n (U64_tail (U64_tail (U64_tail hu))), inI_n hd⟩, ?_⟩
  simp only [podN, List.map_cons, List.map_nil, toU_n hn, toU_n hm, toU_n ha, toU_n hd]
  rw [vecL_n (U64_tail (U64_tail (U64_tail hu)))]
  rfl
theorem U64_of_app {a b : List Nat} (h : U64 (a ++ b)) : U64 b := fun m hm => h m (List.mem_append_right _ hm)
theorem many_undo {α : Type} {f : Rd → α × Rd} {g : α → List Nat} {P : α → Prop} (hs : ∀ r : Rd, r.2 = true → (f r).2.2 = true) (hf : Undo f g P) : ∀ n : Nat, Undo (manyRd f n) (fun l => l.flatMap g) (fun l => ∀ x ∈ l, P x)
  | 0, l, b, hu, h => ⟨h, fun x hx => by simp [manyRd] at hx, rfl⟩
  | n + 1, l, b, hu, h => by
    simp only [manyRd] at h ⊢
    have h1 : (f (l, b)).2.2 = false := by
      cases hb : (f (l, b)).2.2 with
      | false => rfl
      | true =>
        rw [manyRd_bad hs n _ hb] at h
        simp at h
    obtain ⟨rfl, hp, e⟩ := hf l b hu h1
    have hu2 : U64 (f (l, false)).2.1 := by rw [e] at hu; exact U64_of_app hu
    obtain ⟨_, hp2, e2⟩ := many_undo hs hf n (f (l, false)).2.1 (f (l, false)).2.2 hu2 h
    refine ⟨rfl, fun x hx => ?_, ?_⟩
    · rcases List.mem_cons.1 hx with rfl | hx
      · exact hp
      · exact hp2 x hx
    · rw [List.flatMap_cons, List.append_assoc]
      exact e.trans (congrArg _ e2)
theorem nodeRd_bad (r : Rd) (h : r.2 = true) : (nodeRd r).2.2 = true := vecR4_bad _ (vecR4_bad _ (intR_bad _ (intR_bad _ h)))
theorem loadRd_bad (r : Rd) (h : r.2 = true) : (loadRd r).2.2 = true := intR_bad _ (intR_bad _ (intR_bad _ (truR_bad _ (intR_bad _ h))))
theorem podRd_bad (r : Rd) (h : r.2 = true) : (podRd r).2.2 = true := intR_bad _ (vecR4_bad _ (intR_bad _ (intR_bad _ (intR_bad _ h))))
theorem fine_inv {r : Rd} (h : fineR r = true) : r.2 = false ∧ r.1 = [] := by
  obtain ⟨l, b⟩ := r
  simp only [fineR, Bool.and_eq_true, Bool.not_eq_true', decide_eq_true_eq] at h
  exact ⟨h.1, List.eq_nil_of_length_eq_zero h.2⟩
theorem snap_once {b : List Nat} (hb : U8 b) {s : Snap} (h : snapRd b = .inr s) : checkB s = none ∧ putL (snapN s) = b ∧ s.wf := by
  cases hB : begN b 0 [8, 8, 12] with
  | inl e => unfold snapRd at h; rw [hB] at h; simp at h
  | inr q =>
    obtain ⟨out, rst⟩ := q
    obtain ⟨l, hl, e2, e3, rfl, rfl⟩ := begN_out hB
    obtain ⟨n, m, k, l', rfl⟩ : ∃ n m k l', l = n :: m :: k :: l' := by
      match l with
      | n :: m :: k :: l' => exact ⟨n, m, k, l', rfl⟩
      | [] | [_] | [_, _] => simp at e2
    obtain ⟨hput, hu⟩ := allN_back b.length b _ (Nat.le_refl _) hb hl
    have hR : snapRd b = if fineR (snapsRd n m k (l', false)).2 = true then (match checkB (snapsRd n m k (l', false)).1 with | some q => .inl (errG (some q)) | none => .inr (snapsRd n m k (l', false)).1) else .inl (codeE 2) := by
      unfold snapRd
      rw [hB]
      rfl
    rw [hR] at h
    have hu' : U64 l' := U64_tail (U64_tail (U64_tail hu))
    have hbd : n ≤ 8 ∧ m ≤ 8 ∧ k ≤ 12 := by simpa [boundB, and_assoc] using e3
    split at h
    · rename_i hf
      obtain ⟨f1, f2⟩ := fine_inv hf
      split at h
      · simp at h
      · rename_i hc
        simp only [Sum.inr.injEq] at h
        rw [h] at hc
        have sp : ∀ (n : Nat) (l : List Nat) (b : Bool), (manyRd podRd n (l, b)).2.2 = false → b = false := fun n l b h => by
          cases b with
          | false => rfl
          | true => rw [manyRd_bad podRd_bad n _ rfl] at h; simp at h
        have sl : ∀ (n : Nat) (l : List Nat) (b : Bool), (manyRd loadRd n (l, b)).2.2 = false → b = false := fun n l b h => by
          cases b with
          | false => rfl
          | true => rw [manyRd_bad loadRd_bad n _ rfl] at h; simp at h
        unfold snapsRd at f1 f2 h
        dsimp only at f1 f2 h
        have g2 := sp k (manyRd loadRd m (manyRd nodeRd n (l', false)).2).2.1 (manyRd loadRd m (manyRd nodeRd n (l', false)).2).2.2 f1
        have g1 := sl m (manyRd nodeRd n (l', false)).2.1 (manyRd nodeRd n (l', false)).2.2 g2
        obtain ⟨_, w1, a1⟩ := many_undo nodeRd_bad node_undo n l' false hu' g1
        have u1 : U64 (manyRd nodeRd n (l', false)).2.1 := by rw [a1] at hu'; exact U64_of_app hu'
        obtain ⟨_, w2, a2⟩ := many_undo loadRd_bad load_undo m (manyRd nodeRd n (l', false)).2.1 (manyRd nodeRd n (l', false)).2.2 u1 g2
        have u2 : U64 (manyRd loadRd m (manyRd nodeRd n (l', false)).2).2.1 := by rw [a2] at u1; exact U64_of_app u1
        obtain ⟨_, w3, a3⟩ := many_undo podRd_bad pod_undo k (manyRd loadRd m (manyRd nodeRd n (l', false)).2).2.1 (manyRd loadRd m (manyRd nodeRd n (l', false)).2).2.2 u2 f1
        have q1 := manyRd_len nodeRd n (l', false)
        have q2 := manyRd_len loadRd m (manyRd nodeRd n (l', false)).2
        have q3 := manyRd_len podRd k (manyRd loadRd m (manyRd nodeRd n (l', false)).2).2
        subst h
        refine ⟨hc, ?_, w1, w2, w3⟩
        rw [← hput]
        congr 1
        simp only [snapN, q1, q2, q3, List.map_cons, List.map_nil, toU_n (show n ≤ 2147483647 by omega), toU_n (show m ≤ 2147483647 by omega), toU_n (show k ≤ 2147483647 by omega), List.cons_append, List.nil_append, List.append_assoc]
        have e : l' = List.flatMap nodeN (manyRd nodeRd n (l', false)).1 ++ (List.flatMap loadN (manyRd loadRd m (manyRd nodeRd n (l', false)).2).1 ++ List.flatMap podN (manyRd podRd k (manyRd loadRd m (manyRd nodeRd n (l', false)).2).2).1) := by
          rw [f2, List.append_nil] at a3
          exact a1.trans (congrArg _ (a2.trans (congrArg _ a3)))
        rw [← e]
    · simp at h
end Go.Proofs.YtjmggjlfamjdbaaDoor.Ab
set_option linter.unusedVariables false
set_option linter.unusedSimpArgs false
namespace Go.Proofs.YtjmggjlfamjdbaaDoor.Ab
open Go
def rnW : Nat → List Nat → List Node
  | n + 1, a :: z :: c1 :: c2 :: c3 :: c4 :: h1 :: h2 :: h3 :: h4 :: r => ⟨(numV a : Nat), (numV z : Nat), ⟨c1, c2, c3, c4⟩, ⟨h1, h2, h3, h4⟩⟩ :: rnW n r
  | _, _ => []
def rnB : Nat → List Nat → Bool
  | n + 1, a :: z :: c1 :: c2 :: c3 :: c4 :: h1 :: h2 :: h3 :: h4 :: r => numB a && numB z && rnB n r
  | _, _ => true
def rlW : Nat → List Nat → List Load
  | n + 1, a :: s :: c :: d :: e :: r => ⟨(numV a : Nat), decide (s = 1), (numV c : Nat), (numV d : Nat), (numV e : Nat)⟩ :: rlW n r
  | _, _ => []
def rlB : Nat → List Nat → Bool
  | n + 1, a :: s :: c :: d :: e :: r => numB a && numB c && numB d && numB e && decide (s ≤ 1) && rlB n r
  | _, _ => true
def rpW : Nat → List Nat → List Pod
  | n + 1, a :: b :: c :: d1 :: d2 :: d3 :: d4 :: e :: r => ⟨(numV a : Nat), (numV b : Nat), (numV c : Nat), ⟨d1, d2, d3, d4⟩, (numV e : Nat)⟩ :: rpW n r
  | _, _ => []
def rpB : Nat → List Nat → Bool
  | n + 1, a :: b :: c :: d1 :: d2 :: d3 :: d4 :: e :: r => numB a && numB b && numB c && numB e && rpB n r
  | _, _ => true
theorem ten {l : List Nat} (h : 10 ≤ l.length) : ∃ a b c d e f g h i j r, l = a :: b :: c :: d :: e :: f :: g :: h :: i :: j :: r := by
  match l with
  | a :: b :: c :: d :: e :: f :: g :: h :: i :: j :: r => exact ⟨a, b, c, d, e, f, g, h, i, j, r, rfl⟩
  | [] | [_] | [_, _] | [_, _, _] | [_, _, _, _] | [_, _, _, _, _] | [_, _, _, _, _, _] | [_, _, _, _, _, _, _] | [_, _, _, _, _, _, _, _] | [_, _, _, _, _, _, _, _, _] => simp at h
theorem eight {l : List Nat} (h : 8 ≤ l.length) : ∃ a b c d e f g h r, l = a :: b :: c :: d :: e :: f :: g :: h :: r := by
  match l with
  | a :: b :: c :: d :: e :: f :: g :: h :: r => exact ⟨a, b, c, d, e, f, g, h, r, rfl⟩
  | [] | [_] | [_, _] | [_, _, _] | [_, _, _, _] | [_, _, _, _, _] | [_, _, _, _, _, _] | [_, _, _, _, _, _, _] => simp at h
theorem five {l : List Nat} (h : 5 ≤ l.length) : ∃ a b c d e r, l = a :: b :: c :: d :: e :: r := by
  match l with
  | a :: b :: c :: d :: e :: r => exact ⟨a, b, c, d, e, r, rfl⟩
  | [] | [_] | [_, _] | [_, _, _] | [_, _, _, _] => simp at h
theorem nodes_eq : ∀ (n : Nat) (l : List Nat) (b : Bool), 10 * n ≤ l.length → manyRd nodeRd n (l, b) = (rnW n l, (l.drop (10 * n), b || !rnB n l))
  | 0, l, b, h => by cases l <;> simp [manyRd, rnW, rnB]
  | n + 1, l, b, h => by
    obtain ⟨a, z, c1, c2, c3, c4, h1, h2, h3, h4, r, rfl⟩ := ten (l := l) (by omega)
    have hr : 10 * n ≤ r.length := by simp at h; omega
    have e : nodeRd (a :: z :: c1 :: c2 :: c3 :: c4 :: h1 :: h2 :: h3 :: h4 :: r, b) = (⟨(numV a : Nat), (numV z : Nat), ⟨c1, c2, c3, c4⟩, ⟨h1, h2, h3, h4⟩⟩, (r, b || !numB a || !numB z)) := by
      unfold nodeRd
      simp only [intR_eq, vecR4, nextR]
    have hd : (a :: z :: c1 :: c2 :: c3 :: c4 :: h1 :: h2 :: h3 :: h4 :: r).drop (10 * (n + 1)) = r.drop (10 * n) := by
      have : 10 * (n + 1) = 10 * n + 1 + 1 + 1 + 1 + 1 + 1 + 1 + 1 + 1 + 1 := by omega
      rw [this]
      simp only [List.drop_succ_cons]
    simp only [manyRd]
    rw [e, nodes_eq n r _ hr, hd]
    simp only [rnW, rnB, Bool.not_and, Bool.or_assoc]
theorem loads_eq : ∀ (n : Nat) (l : List Nat) (b : Bool), 5 * n ≤ l.length → manyRd loadRd n (l, b) = (rlW n l, (l.drop (5 * n), b || !rlB n l))
  | 0, l, b, h => by cases l <;> simp [manyRd, rlW, rlB]
  | n + 1, l, b, h => by
    obtain ⟨a, s, c, d, e, r, rfl⟩ := five (l := l) (by omega)
    have hr : 5 * n ≤ r.length := by simp at h; omega
    have hs : decide (1 < s) = !decide (s ≤ 1) := by
      by_cases c : s ≤ 1
      · rw [decide_eq_true c, decide_eq_false (by omega)]; rfl
      · rw [decide_eq_false c, decide_eq_true (by omega)]; rfl
    have e' : loadRd (a :: s :: c :: d :: e :: r, b) = (⟨(numV a : Nat), decide (s = 1), (numV c : Nat), (numV d : Nat), (numV e : Nat)⟩, (r, b || !numB a || !decide (s ≤ 1) || !numB c || !numB d || !numB e)) := by
      unfold loadRd
      simp only [intR_eq, truR, nextR, hs]
    have hd : (a :: s :: c :: d :: e :: r).drop (5 * (n + 1)) = r.drop (5 * n) := by
      have : 5 * (n + 1) = 5 * n + 1 + 1 + 1 + 1 + 1 := by omega
      rw [this]
      simp only [List.drop_succ_cons]
    simp only [manyRd]
    rw [e', loads_eq n r _ hr, hd]
    simp only [rlW, rlB]
    congr 2
    cases b <;> cases numB a <;> cases decide (s ≤ 1) <;> cases numB c <;> cases numB d <;> cases numB e <;> rfl
theorem pods_eq : ∀ (n : Nat) (l : List Nat) (b : Bool), 8 * n ≤ l.length → manyRd podRd n (l, b) = (rpW n l, (l.drop (8 * n), b || !rpB n l))
  | 0, l, b, h => by cases l <;> simp [manyRd, rpW, rpB]
  | n + 1, l, b, h => by
    obtain ⟨a, b', c, d1, d2, d3, d4, e, r, rfl⟩ := eight (l := l) (by omega)
    have hr : 8 * n ≤ r.length := by simp at h; omega
    have e' : podRd (a :: b' :: c :: d1 :: d2 :: d3 :: d4 :: e :: r, b) = (⟨(numV a : Nat), (numV b' : Nat), (numV c : Nat), ⟨d1, d2, d3, d4⟩, (numV e : Nat)⟩, (r, b || !numB a || !numB b' || !numB c || !numB e)) := by
      unfold podRd
      simp only [intR_eq, vecR4, nextR]
    have hd : (a :: b' :: c :: d1 :: d2 :: d3 :: d4 :: e :: r).drop (8 * (n + 1)) = r.drop (8 * n) := by
      have : 8 * (n + 1) = 8 * n + 1 + 1 + 1 + 1 + 1 + 1 + 1 + 1 := by omega
      rw [this]
      simp only [List.drop_succ_cons]
    simp only [manyRd]
    rw [e', pods_eq n r _ hr, hd]
    simp only [rpW, rpB, Bool.not_and, Bool.or_assoc]
def rnS (n m k : Nat) (r : List Nat) : Snap := ⟨rnW n r, rlW m (r.drop (10 * n)), rpW k (r.drop (10 * n + 5 * m))⟩
def rnF (n m k : Nat) (r : List Nat) : Bool := rnB n r && rlB m (r.drop (10 * n)) && rpB k (r.drop (10 * n + 5 * m))
def refRN (b : List Nat) : (Int × Int) ⊕ Snap := match allN b with
  | .inl e => .inl (2, (e : Int))
  | .inr (n :: m :: k :: r) => if 8 < n ∨ 8 < m ∨ 12 < k then .inl (3, -1) else if r.length = 10 * n + 5 * m + 8 * k then (if rnF n m k r = true then (match checkB (rnS n m k r) with | some q => .inl q | none => .inr (rnS n m k r)) else .inl (2, -1)) else .inl (2, -1)
  | .inr _ => .inl (2, -1)
theorem snaps_len {n m k : Nat} {r : List Nat} (hu : U64 r) (h : fineR (snapsRd n m k (r, false)).2 = true) : r.length = 10 * n + 5 * m + 8 * k := by
  obtain ⟨f1, f2⟩ := fine_inv h
  have sp : ∀ (n : Nat) (l : List Nat) (b : Bool), (manyRd podRd n (l, b)).2.2 = false → b = false := fun n l b h => by
    cases b with
    | false => rfl
    | true => rw [manyRd_bad podRd_bad n _ rfl] at h; simp at h
  have sl : ∀ (n : Nat) (l : List Nat) (b : Bool), (manyRd loadRd n (l, b)).2.2 = false → b = false := fun n l b h => by
    cases b with
    | false => rfl
    | true => rw [manyRd_bad loadRd_bad n _ rfl] at h; simp at h
  unfold snapsRd at f1 f2
  dsimp only at f1 f2
  have g2 := sp k (manyRd loadRd m (manyRd nodeRd n (r, false)).2).2.1 (manyRd loadRd m (manyRd nodeRd n (r, false)).2).2.2 f1
  have g1 := sl m (manyRd nodeRd n (r, false)).2.1 (manyRd nodeRd n (r, false)).2.2 g2
  obtain ⟨_, _, a1⟩ := many_undo nodeRd_bad node_undo n r false hu g1
  have u1 : U64 (manyRd nodeRd n (r, false)).2.1 := by rw [a1] at hu; exact U64_of_app hu
  obtain ⟨_, _, a2⟩ := many_undo loadRd_bad load_undo m (manyRd nodeRd n (r, false)).2.1 (manyRd nodeRd n (r, false)).2.2 u1 g2
  have u2 : U64 (manyRd loadRd m (manyRd nodeRd n (r, false)).2).2.1 := by rw [a2] at u1; exact U64_of_app u1
  obtain ⟨_, _, a3⟩ := many_undo podRd_bad pod_undo k (manyRd loadRd m (manyRd nodeRd n (r, false)).2).2.1 (manyRd loadRd m (manyRd nodeRd n (r, false)).2).2.2 u2 f1
  have a1 : r = (manyRd nodeRd n (r, false)).1.flatMap nodeN ++ (manyRd nodeRd n (r, false)).2.1 := a1
  have a2 : (manyRd nodeRd n (r, false)).2.1 = (manyRd loadRd m (manyRd nodeRd n (r, false)).2).1.flatMap loadN ++ (manyRd loadRd m (manyRd nodeRd n (r, false)).2).2.1 := a2
  have a3 : (manyRd loadRd m (manyRd nodeRd n (r, false)).2).2.1 = (manyRd podRd k (manyRd loadRd m (manyRd nodeRd n (r, false)).2).2).1.flatMap podN ++ (manyRd podRd k (manyRd loadRd m (manyRd nodeRd n (r, false)).2).2).2.1 := a3
  have l1 := congrArg List.length a1
  have l2 := congrArg List.length a2
  have l3 := congrArg List.length a3
  rw [f2] at l3
  simp only [List.length_append, flat_len nodeN_len, flat_len loadN_len, flat_len podN_len, manyRd_len, List.length_nil] at l1 l2 l3
  omega
theorem snaps_eq {n m k : Nat} {r : List Nat} (h : r.length = 10 * n + 5 * m + 8 * k) : snapsRd n m k (r, false) = (rnS n m k r, ([], !rnF n m k r)) := by
  unfold snapsRd
  rw [nodes_eq n r false (by omega)]
  dsimp only
  rw [loads_eq m _ _ (by rw [List.length_drop]; omega)]
  dsimp only
  rw [pods_eq k _ _ (by rw [List.length_drop, List.length_drop]; omega)]
  dsimp only
  have e : ((r.drop (10 * n)).drop (5 * m)).drop (8 * k) = [] := List.drop_eq_nil_of_le (by rw [List.length_drop, List.length_drop]; omega)
  rw [e, List.drop_drop]
  simp only [rnS, rnF, Bool.false_or, Bool.not_and]
theorem snapRd_ref (b : List Nat) (hb : U8 b) : (∃ q, refRN b = .inl q ∧ snapRd b = .inl (errP2 q) ∧ 1 ≤ q.1 ∧ q.1 ≤ 17 ∧ -1 ≤ q.2) ∨ ∃ l, refRN b = .inr l ∧ snapRd b = .inr l := by
  cases hA : allN b with
  | inl e =>
    have hB : begN b 0 [8, 8, 12] = .inl (spotE e 2) := by unfold begN; rw [hA]
    refine .inl ⟨(2, (e : Int)), by unfold refRN; rw [hA], ?_, by show (1 : Int) ≤ 2; decide, by show (2 : Int) ≤ 17; decide, by show (-1 : Int) ≤ (e : Int); omega⟩
    unfold snapRd
    rw [hB]
    simp only [errP2]
    rw [if_neg (by omega)]
  | inr l =>
    by_cases hl : l.length < 3
    · have hB : begN b 0 [8, 8, 12] = .inl (codeE 2) := by
        unfold begN
        rw [hA]
        exact if_pos (by simpa using hl)
      refine .inl ⟨(2, -1), ?_, by unfold snapRd; rw [hB]; rfl, by decide, by decide, by decide⟩
      unfold refRN
      rw [hA]
      match l with
      | [] => rfl
      | [_] => rfl
      | [_, _] => rfl
      | _ :: _ :: _ :: r => simp at hl; omega
    · obtain ⟨n, m, k, r, rfl⟩ : ∃ n m k r, l = n :: m :: k :: r := by
        match l with
        | n :: m :: k :: r => exact ⟨n, m, k, r, rfl⟩
        | [] | [_] | [_, _] => simp at hl
      have hu := (allN_back b.length b _ (Nat.le_refl _) hb hA).2
      have hu' : U64 r := U64_tail (U64_tail (U64_tail hu))
      by_cases c : 8 < n ∨ 8 < m ∨ 12 < k
      · have hB : begN b 0 [8, 8, 12] = .inl (codeE 3) := by
          unfold begN
          rw [hA]
          dsimp only
          rw [if_neg (by simp), if_neg (by simp [boundB]; omega)]
        exact .inl ⟨(3, -1), by unfold refRN; rw [hA]; dsimp only; rw [if_pos c], by unfold snapRd; rw [hB]; rfl, by decide, by decide, by decide⟩
      · have hB : begN b 0 [8, 8, 12] = .inr ([n, m, k], r) := by
          unfold begN
          rw [hA]
          dsimp only
          rw [if_neg (by simp), if_pos (by simp [boundB]; omega)]
          rfl
        have hS : snapRd b = if fineR (snapsRd n m k (r, false)).2 = true then (match checkB (snapsRd n m k (r, false)).1 with | some q => .inl (errG (some q)) | none => .inr (snapsRd n m k (r, false)).1) else .inl (codeE 2) := by
          unfold snapRd
          rw [hB] <;> rfl
        have hR : refRN b = if r.length = 10 * n + 5 * m + 8 * k then (if rnF n m k r = true then (match checkB (rnS n m k r) with | some q => .inl q | none => .inr (rnS n m k r)) else .inl (2, -1)) else .inl (2, -1) := by
          unfold refRN
          rw [hA]
          exact if_neg c
        rw [hS, hR]
        by_cases hlen : r.length = 10 * n + 5 * m + 8 * k
        · rw [if_pos hlen, snaps_eq hlen]
          cases hf : rnF n m k r with
          | false =>
            refine .inl ⟨(2, -1), if_neg (by decide), if_neg (by show ¬ (fineR ([], true) = true); decide), by decide, by decide, by decide⟩
          | true =>
            have hfr : fineR ([], !true) = true := rfl
            simp only [if_true, hfr]
            cases hc : checkB (rnS n m k r) with
            | none => exact .inr ⟨_, rfl, rfl⟩
            | some q =>
              obtain ⟨c', a⟩ := q
              have := checkB_ok (rnS n m k r) c' a hc
              exact .inl ⟨(c', a), rfl, rfl, this.1, this.2.1, this.2.2⟩
        · rw [if_neg hlen, if_neg (fun h => hlen (snaps_len hu' h))]
          exact .inl ⟨(2, -1), rfl, rfl, by decide, by decide, by decide⟩
end Go.Proofs.YtjmggjlfamjdbaaDoor.Ab
set_option linter.unusedVariables false
set_option linter.unusedSimpArgs false
namespace Go.Proofs.YtjmggjlfamjdbaaDoor.Ab
open Go
structure Std3f (T : Tab) : Prop where
  b : Std3 T
  h80 : Std T 80 f80
  h90 : Std T 90 f90
  c : StdC T
section
variable {T : Tab}
end
end Go.Proofs.YtjmggjlfamjdbaaDoor.Ab
