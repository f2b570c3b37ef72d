/- The layer, part 2: Co67, Sp1, Sp1b, Co05, Sp5, Co09. -/
import Derived.Test.YtmeigdjfcecidaaDoorA1
/- The code of functions, by our numbers. -/
set_option linter.unusedVariables false
namespace Go.Proofs.YtmeigdjfcecidaaDoor.Ab
open Go
def f68l0 : ACode :=
 (.seq (.ops [
   ⟨some 23, .bin .lss none (.t 22) (.t 21), none, []⟩])
  (.seq (.cond (.t 23)
   .skip
   (.exit 2))
  (.seq (.block 3
   (.seq (.ops [
     ⟨some 24, .idxAddr 8 (.t 20) (.t 22), none, []⟩,
     ⟨some 25, .load true 8 (.t 24), none, [0]⟩,
     ⟨some 8, .alloc [(.pv (.int .i64 0)), (.pv (.int .i64 0)), (.pv (.int .i64 0)), (.pv (.int .u64 0)), (.pv (.int .u64 0)), (.pv (.int .u64 0)), (.pv (.int .u64 0)), (.pv (.int .i64 0))], none, []⟩,
     ⟨none, .store 8 (.t 8) (.t 25), none, [2, 1, 0, 1, 2]⟩])
    (.seq (.ops [
     ⟨some 26, .load true 3 (.t 2), none, []⟩,
     ⟨some 27, .load true 8 (.t 6), none, []⟩,
     ⟨some 28, .load true 8 (.t 8), none, []⟩,
     ⟨some 29, .call 69 [(.t 26), (.t 27), (.t 28)], none, [0, 1, 2]⟩])
    (.cond (.t 29)
     (.seq (.ops [
       ⟨some 30, .mv (.t 5), none, []⟩,
       ⟨some 31, .build [(.pv (.int .i64 0)), (.pv (.int .i64 0))] [(0, 1, (.t 30)), (1, 1, (.c (.pv (.int .i64 10))))], none, [0]⟩,
       ⟨some 32, .box (.t 31), none, [1]⟩,
       ⟨some 33, .mkI 1 (.t 32), none, [2]⟩,
       ⟨some 4, .mv (.t 33), none, [3, 0, 1, 2, 3]⟩])
      .ret)
     .skip))))
  (.ops [
   ⟨some 34, .bin .add none (.t 22) (.c (.pv (.int .i64 1))), none, []⟩,
   ⟨some 22, .mv (.t 34), none, [0]⟩]))))
def f68l1 : ACode :=
 (.seq (.ops [
   ⟨some 13, .bin .lss none (.t 12) (.t 11), none, []⟩])
  (.seq (.cond (.t 13)
   .skip
   (.exit 0))
  (.seq (.block 1
   (.seq (.ops [
     ⟨some 14, .mv (.t 12), none, []⟩,
     ⟨some 15, .idxAddr 8 (.t 10) (.t 12), none, []⟩,
     ⟨some 16, .load true 8 (.t 15), none, [1]⟩,
     ⟨some 6, .alloc [(.pv (.int .i64 0)), (.pv (.int .i64 0)), (.pv (.int .i64 0)), (.pv (.int .u64 0)), (.pv (.int .u64 0)), (.pv (.int .u64 0)), (.pv (.int .u64 0)), (.pv (.int .i64 0))], none, []⟩,
     ⟨some 5, .mv (.t 14), none, [0, 0, 1, 2, 3]⟩,
     ⟨none, .store 8 (.t 6) (.t 16), none, [3, 2, 4, 0, 1, 2, 3, 4]⟩])
    (.seq (.ops [
     ⟨some 17, .fieldAddr 0 (.t 3), none, []⟩,
     ⟨some 18, .load false 1 (.t 17), none, [0]⟩,
     ⟨some 19, .mv (.t 5), none, []⟩,
     ⟨some 20, .slice 8 (.t 18) none (some (.t 19)), none, [1, 2]⟩,
     ⟨some 21, .len (.t 20), none, [3]⟩,
     ⟨some 22, .mv (.c (.pv (.int .i64 0))), none, []⟩])
    (.block 2
     (.loop f68l0)))))
  (.ops [
   ⟨some 35, .bin .add none (.t 12) (.c (.pv (.int .i64 1))), none, []⟩,
   ⟨some 12, .mv (.t 35), none, [0]⟩]))))
/-- dunnage/apart.Check -/
def f68 : AFunc := ⟨36, [.t 4],
 (.seq (.ops [
   ⟨some 2, .box (.t 0), none, []⟩,
   ⟨some 3, .box (.t 1), none, []⟩,
   ⟨some 4, .mv (.c (.pv .nili)), none, []⟩])
  (.seq (.seq (.ops [
   ⟨some 9, .fieldAddr 0 (.t 3), none, []⟩,
   ⟨some 10, .load false 1 (.t 9), none, [0]⟩,
   ⟨some 11, .len (.t 10), none, [1]⟩,
   ⟨some 12, .mv (.c (.pv (.int .i64 0))), none, []⟩])
  (.block 0
   (.loop f68l1)))
  (.seq (.ops [
   ⟨some 4, .mv (.c (.pv .nili)), none, []⟩])
  .ret)))⟩

/-- dunnage/apart.two -/
def f69 : AFunc := ⟨40, [.t 6],
 (.seq (.ops [
   ⟨some 3, .box (.t 0), none, []⟩,
   ⟨some 4, .box (.t 1), none, []⟩,
   ⟨some 5, .box (.t 2), none, []⟩,
   ⟨some 6, .mv (.c (.pv (.bool false))), none, []⟩])
  (.seq (.ops [
   ⟨some 10, .load true 3 (.t 3), none, []⟩,
   ⟨some 11, .fieldAddr 1 (.t 4), none, []⟩,
   ⟨some 12, .load false 1 (.t 11), none, [1]⟩,
   ⟨some 13, .call 81 [(.t 10), (.t 12)], none, [0, 2]⟩,
   ⟨some 9, .mv (.t 13), none, [3]⟩,
   ⟨some 14, .extract (.t 9) 0, none, [4]⟩,
   ⟨some 15, .extract (.t 9) 1, none, [4]⟩,
   ⟨some 7, .alloc [(.pv (.int .i64 0)), (.pv (.bool false)), (.pv (.int .i64 0)), (.pv (.int .i64 0)), (.pv (.int .i64 0))], none, []⟩,
   ⟨none, .store 5 (.t 7) (.t 14), none, [7, 5, 3, 0, 1, 2, 3, 4, 5, 7]⟩,
   ⟨some 8, .mv (.t 15), none, [6, 8, 0, 1, 2, 3, 4, 5, 6, 7, 8]⟩])
  (.seq (.ops [
   ⟨some 16, .fieldAddr 1 (.t 4), none, []⟩,
   ⟨some 17, .load false 1 (.t 16), none, [0]⟩,
   ⟨some 18, .fieldAddr 1 (.t 5), none, []⟩,
   ⟨some 19, .load false 1 (.t 18), none, [2]⟩,
   ⟨some 20, .bin .eql none (.t 17) (.t 19), none, [1, 3]⟩,
   ⟨some 21, .mv (.t 20), none, [4]⟩,
   ⟨some 22, .fieldAddr 7 (.t 4), some (21, true), [5]⟩,
   ⟨some 23, .load false 1 (.t 22), some (21, true), [6, 5]⟩,
   ⟨some 24, .fieldAddr 7 (.t 5), some (21, true), [5]⟩,
   ⟨some 25, .load false 1 (.t 24), some (21, true), [8, 5]⟩,
   ⟨some 26, .bin .eql none (.t 23) (.t 25), some (21, true), [7, 9, 5]⟩,
   ⟨some 27, .pick (.t 21) (.t 26) (.c (.pv (.bool false))), none, [5, 10]⟩,
   ⟨some 28, .mv (.t 27), none, [11, 5]⟩,
   ⟨some 29, .fieldAddr 7 (.t 4), some (28, true), [12]⟩,
   ⟨some 30, .load false 1 (.t 29), some (28, true), [13, 12]⟩,
   ⟨some 31, .bin .neq none (.t 30) (.c (.pv (.int .i64 0))), some (28, true), [14, 12]⟩,
   ⟨some 32, .pick (.t 28) (.t 31) (.c (.pv (.bool false))), none, [12, 15]⟩,
   ⟨some 33, .mv (.t 32), none, [16, 12]⟩,
   ⟨some 34, .mv (.t 8), some (33, true), [17]⟩,
   ⟨some 35, .pick (.t 33) (.t 34) (.c (.pv (.bool false))), none, [17, 18]⟩,
   ⟨some 36, .mv (.t 35), none, [19, 17]⟩,
   ⟨some 37, .fieldAddr 1 (.t 7), some (36, true), [20]⟩,
   ⟨some 38, .load false 1 (.t 37), some (36, true), [21, 20]⟩,
   ⟨some 39, .pick (.t 36) (.t 38) (.c (.pv (.bool false))), none, [20, 22]⟩,
   ⟨some 6, .mv (.t 39), none, [23, 20, 0, 1, 2, 3, 4, 5, 6, 7, 8, 9, 10, 11, 12, 13, 14, 15, 16, 17, 18, 19, 20, 21, 22, 23]⟩])
  .ret)))⟩

def f81l0 : ACode :=
 (.seq (.ops [
   ⟨some 12, .bin .lss none (.t 11) (.t 10), none, []⟩])
  (.seq (.cond (.t 12)
   .skip
   (.exit 0))
  (.seq (.block 1
   (.seq (.ops [
     ⟨some 13, .idxAddr 5 (.t 9) (.t 11), none, []⟩,
     ⟨some 14, .load true 5 (.t 13), none, [0]⟩,
     ⟨some 7, .alloc [(.pv (.int .i64 0)), (.pv (.bool false)), (.pv (.int .i64 0)), (.pv (.int .i64 0)), (.pv (.int .i64 0))], none, []⟩,
     ⟨none, .store 5 (.t 7) (.t 14), none, [2, 1, 0, 1, 2]⟩])
    (.seq (.ops [
     ⟨some 15, .fieldAddr 0 (.t 7), none, []⟩,
     ⟨some 16, .load false 1 (.t 15), none, [0]⟩,
     ⟨some 17, .mv (.t 1), none, []⟩,
     ⟨some 18, .bin .eql none (.t 16) (.t 17), none, [1, 2]⟩])
    (.cond (.t 18)
     (.seq (.ops [
       ⟨some 19, .load true 5 (.t 7), none, []⟩,
       ⟨none, .store 5 (.t 4) (.t 19), none, [0, 0]⟩,
       ⟨some 5, .mv (.c (.pv (.bool true))), none, [1, 0, 1]⟩])
      .ret)
     .skip))))
  (.ops [
   ⟨some 20, .bin .add none (.t 11) (.c (.pv (.int .i64 1))), none, []⟩,
   ⟨some 11, .mv (.t 20), none, [0]⟩]))))
/-- dunnage/cluster.Load -/
def f81 : AFunc := ⟨22, [.cell 4 true 5, .t 5],
 (.seq (.ops [
   ⟨some 2, .box (.t 0), none, []⟩,
   ⟨some 4, .alloc [(.pv (.int .i64 0)), (.pv (.bool false)), (.pv (.int .i64 0)), (.pv (.int .i64 0)), (.pv (.int .i64 0))], none, []⟩,
   ⟨some 5, .mv (.c (.pv (.bool false))), none, []⟩])
  (.seq (.seq (.ops [
   ⟨some 8, .fieldAddr 1 (.t 2), none, []⟩,
   ⟨some 9, .load false 1 (.t 8), none, [0]⟩,
   ⟨some 10, .len (.t 9), none, [1]⟩,
   ⟨some 11, .mv (.c (.pv (.int .i64 0))), none, []⟩])
  (.block 0
   (.loop f81l0)))
  (.seq (.ops [
   ⟨some 21, .build [(.pv (.int .i64 0)), (.pv (.bool false)), (.pv (.int .i64 0)), (.pv (.int .i64 0)), (.pv (.int .i64 0))] [], none, []⟩,
   ⟨none, .store 5 (.t 4) (.t 21), none, [0, 0]⟩,
   ⟨some 5, .mv (.c (.pv (.bool false))), none, [1, 0, 1]⟩])
  .ret)))⟩

def f140l0 : ACode :=
 (.seq (.seq (.ops [
   ⟨some 10, .mv (.t 7), none, []⟩,
   ⟨some 11, .bin .lss none (.t 10) (.c (.pv (.int .i64 4))), none, [0]⟩])
  (.cond (.t 11)
   .skip
   (.exit 0)))
  (.seq (.block 1
   (.seq (.draw [
     ⟨some 15, .mv (.t 7), none, []⟩,
     ⟨some 16, .idxArr 4 1 (.t 2) (.t 15), none, [0]⟩,
     ⟨some 17, .load false 1 (.t 16), none, [1]⟩,
     ⟨some 18, .mv (.t 7), none, []⟩,
     ⟨some 19, .idxArr 4 1 (.t 3) (.t 18), none, [3]⟩,
     ⟨some 20, .load false 1 (.t 19), none, [4]⟩,
     ⟨some 21, .call 145 [(.t 17), (.t 20)], none, [2, 5]⟩,
     ⟨some 14, .mv (.t 21), none, [6]⟩,
     ⟨some 22, .extract (.t 14) 0, none, [7]⟩,
     ⟨some 23, .extract (.t 14) 1, none, [7]⟩,
     ⟨some 8, .mv (.t 22), none, [8, 6, 0, 1, 2, 3, 4, 5, 6, 7, 8]⟩,
     ⟨some 9, .mv (.t 23), none, [9, 10, 0, 1, 2, 3, 4, 5, 6, 7, 8, 9, 10]⟩])
    (.seq (.seq (.ops [
     ⟨some 24, .mv (.t 9), none, []⟩,
     ⟨some 25, .not (.t 24), none, [0]⟩])
    (.cond (.t 25)
     (.seq (.ops [
       ⟨some 26, .build [(.pv (.int .u64 0)), (.pv (.int .u64 0)), (.pv (.int .u64 0)), (.pv (.int .u64 0))] [], none, []⟩,
       ⟨none, .store 4 (.t 4) (.t 26), none, [0, 0]⟩,
       ⟨some 5, .mv (.c (.pv (.bool false))), none, [1, 0, 1]⟩])
      .ret)
     .skip))
    (.ops [
     ⟨some 27, .mv (.t 7), none, []⟩,
     ⟨some 28, .mv (.t 8), none, []⟩,
     ⟨some 29, .idxArr 4 1 (.t 6) (.t 27), none, [0, 0, 1]⟩,
     ⟨none, .store 1 (.t 29) (.t 28), none, [2, 1, 0, 1]⟩]))))
  (.ops [
   ⟨some 12, .mv (.t 7), none, []⟩,
   ⟨some 13, .bin .add none (.t 12) (.c (.pv (.int .i64 1))), none, [0]⟩,
   ⟨some 7, .mv (.t 13), none, [1, 0, 1]⟩])))
/-- dunnage/dunnageref01.Add -/
def f140 : AFunc := ⟨31, [.cell 4 true 4, .t 5],
 (.seq (.ops [
   ⟨some 2, .box (.t 0), none, []⟩,
   ⟨some 3, .box (.t 1), none, []⟩,
   ⟨some 4, .alloc [(.pv (.int .u64 0)), (.pv (.int .u64 0)), (.pv (.int .u64 0)), (.pv (.int .u64 0))], none, []⟩,
   ⟨some 5, .mv (.c (.pv (.bool false))), none, []⟩])
  (.seq (.ops [
   ⟨some 6, .alloc [(.pv (.int .u64 0)), (.pv (.int .u64 0)), (.pv (.int .u64 0)), (.pv (.int .u64 0))], none, []⟩])
  (.seq (.seq (.ops [
   ⟨some 7, .mv (.c (.pv (.int .i64 0))), none, []⟩])
  (.block 0
   (.loop f140l0)))
  (.seq (.ops [
   ⟨some 30, .load true 4 (.t 6), none, []⟩,
   ⟨none, .store 4 (.t 4) (.t 30), none, [0, 0]⟩,
   ⟨some 5, .mv (.c (.pv (.bool true))), none, [1, 0, 1]⟩])
  .ret))))⟩

/-- dunnage/dunnageref01.Fits -/
def f141 : AFunc := ⟨31, [.t 4],
 (.seq (.ops [
   ⟨some 2, .box (.t 0), none, []⟩,
   ⟨some 3, .box (.t 1), none, []⟩,
   ⟨some 4, .mv (.c (.pv (.bool false))), none, []⟩])
  (.seq (.ops [
   ⟨some 5, .idxArr 4 1 (.t 2) (.c (.pv (.int .i64 0))), none, []⟩,
   ⟨some 6, .load false 1 (.t 5), none, [0]⟩,
   ⟨some 7, .idxArr 4 1 (.t 3) (.c (.pv (.int .i64 0))), none, []⟩,
   ⟨some 8, .load false 1 (.t 7), none, [2]⟩,
   ⟨some 9, .bin .leq none (.t 6) (.t 8), none, [1, 3]⟩,
   ⟨some 10, .mv (.t 9), none, [4]⟩,
   ⟨some 11, .idxArr 4 1 (.t 2) (.c (.pv (.int .i64 1))), some (10, true), [5]⟩,
   ⟨some 12, .load false 1 (.t 11), some (10, true), [6, 5]⟩,
   ⟨some 13, .idxArr 4 1 (.t 3) (.c (.pv (.int .i64 1))), some (10, true), [5]⟩,
   ⟨some 14, .load false 1 (.t 13), some (10, true), [8, 5]⟩,
   ⟨some 15, .bin .leq none (.t 12) (.t 14), some (10, true), [7, 9, 5]⟩,
   ⟨some 16, .pick (.t 10) (.t 15) (.c (.pv (.bool false))), none, [5, 10]⟩,
   ⟨some 17, .mv (.t 16), none, [11, 5]⟩,
   ⟨some 18, .idxArr 4 1 (.t 2) (.c (.pv (.int .i64 2))), some (17, true), [12]⟩,
   ⟨some 19, .load false 1 (.t 18), some (17, true), [13, 12]⟩,
   ⟨some 20, .idxArr 4 1 (.t 3) (.c (.pv (.int .i64 2))), some (17, true), [12]⟩,
   ⟨some 21, .load false 1 (.t 20), some (17, true), [15, 12]⟩,
   ⟨some 22, .bin .leq none (.t 19) (.t 21), some (17, true), [14, 16, 12]⟩,
   ⟨some 23, .pick (.t 17) (.t 22) (.c (.pv (.bool false))), none, [12, 17]⟩,
   ⟨some 24, .mv (.t 23), none, [18, 12]⟩,
   ⟨some 25, .idxArr 4 1 (.t 2) (.c (.pv (.int .i64 3))), some (24, true), [19]⟩,
   ⟨some 26, .load false 1 (.t 25), some (24, true), [20, 19]⟩,
   ⟨some 27, .idxArr 4 1 (.t 3) (.c (.pv (.int .i64 3))), some (24, true), [19]⟩,
   ⟨some 28, .load false 1 (.t 27), some (24, true), [22, 19]⟩,
   ⟨some 29, .bin .leq none (.t 26) (.t 28), some (24, true), [21, 23, 19]⟩,
   ⟨some 30, .pick (.t 24) (.t 29) (.c (.pv (.bool false))), none, [19, 24]⟩,
   ⟨some 4, .mv (.t 30), none, [25, 19, 0, 1, 2, 3, 4, 5, 6, 7, 8, 9, 10, 11, 12, 13, 14, 15, 16, 17, 18, 19, 20, 21, 22, 23, 24, 25]⟩])
  .ret))⟩

/-- dunnage/dunnageref01.Sub -/
def f142 : AFunc := ⟨34, [.cell 4 true 4, .t 5],
 (.seq (.ops [
   ⟨some 2, .box (.t 0), none, []⟩,
   ⟨some 3, .box (.t 1), none, []⟩,
   ⟨some 4, .alloc [(.pv (.int .u64 0)), (.pv (.int .u64 0)), (.pv (.int .u64 0)), (.pv (.int .u64 0))], none, []⟩,
   ⟨some 5, .mv (.c (.pv (.bool false))), none, []⟩])
  (.seq (.ops [
   ⟨some 7, .load true 4 (.t 3), none, []⟩,
   ⟨some 8, .load true 4 (.t 2), none, []⟩,
   ⟨some 9, .call 141 [(.t 7), (.t 8)], none, [0, 1]⟩,
   ⟨some 6, .mv (.t 9), none, [2, 2, 0, 1, 2]⟩])
  (.seq (.seq (.ops [
   ⟨some 10, .mv (.t 6), none, []⟩,
   ⟨some 11, .not (.t 10), none, [0]⟩])
  (.cond (.t 11)
   (.seq (.ops [
     ⟨some 12, .build [(.pv (.int .u64 0)), (.pv (.int .u64 0)), (.pv (.int .u64 0)), (.pv (.int .u64 0))] [], none, []⟩,
     ⟨none, .store 4 (.t 4) (.t 12), none, [0, 0]⟩,
     ⟨some 5, .mv (.c (.pv (.bool false))), none, [1, 0, 1]⟩])
    .ret)
   .skip))
  (.seq (.ops [
   ⟨some 13, .idxArr 4 1 (.t 2) (.c (.pv (.int .i64 0))), none, []⟩,
   ⟨some 14, .load false 1 (.t 13), none, [0]⟩,
   ⟨some 15, .idxArr 4 1 (.t 3) (.c (.pv (.int .i64 0))), none, []⟩,
   ⟨some 16, .load false 1 (.t 15), none, [2]⟩,
   ⟨some 17, .bin .sub none (.t 14) (.t 16), none, [1, 3]⟩,
   ⟨some 18, .idxArr 4 1 (.t 2) (.c (.pv (.int .i64 1))), none, []⟩,
   ⟨some 19, .load false 1 (.t 18), none, [5]⟩,
   ⟨some 20, .idxArr 4 1 (.t 3) (.c (.pv (.int .i64 1))), none, []⟩,
   ⟨some 21, .load false 1 (.t 20), none, [7]⟩,
   ⟨some 22, .bin .sub none (.t 19) (.t 21), none, [6, 8]⟩,
   ⟨some 23, .idxArr 4 1 (.t 2) (.c (.pv (.int .i64 2))), none, []⟩,
   ⟨some 24, .load false 1 (.t 23), none, [10]⟩,
   ⟨some 25, .idxArr 4 1 (.t 3) (.c (.pv (.int .i64 2))), none, []⟩,
   ⟨some 26, .load false 1 (.t 25), none, [12]⟩,
   ⟨some 27, .bin .sub none (.t 24) (.t 26), none, [11, 13]⟩,
   ⟨some 28, .idxArr 4 1 (.t 2) (.c (.pv (.int .i64 3))), none, []⟩,
   ⟨some 29, .load false 1 (.t 28), none, [15]⟩,
   ⟨some 30, .idxArr 4 1 (.t 3) (.c (.pv (.int .i64 3))), none, []⟩,
   ⟨some 31, .load false 1 (.t 30), none, [17]⟩,
   ⟨some 32, .bin .sub none (.t 29) (.t 31), none, [16, 18]⟩,
   ⟨some 33, .build [(.pv (.int .u64 0)), (.pv (.int .u64 0)), (.pv (.int .u64 0)), (.pv (.int .u64 0))] [(0, 1, (.t 17)), (1, 1, (.t 22)), (2, 1, (.t 27)), (3, 1, (.t 32))], none, [4, 9, 14, 19]⟩,
   ⟨none, .store 4 (.t 4) (.t 33), none, [20, 0, 1, 2, 3, 4, 5, 6, 7, 8, 9, 10, 11, 12, 13, 14, 15, 16, 17, 18, 19, 20]⟩,
   ⟨some 5, .mv (.c (.pv (.bool true))), none, [21, 0, 1, 2, 3, 4, 5, 6, 7, 8, 9, 10, 11, 12, 13, 14, 15, 16, 17, 18, 19, 20, 21]⟩])
  .ret))))⟩

def f143l0 : ACode :=
 (.seq (.seq (.ops [
   ⟨some 7, .mv (.t 6), none, []⟩,
   ⟨some 8, .mv (.t 0), none, []⟩,
   ⟨some 9, .len (.t 8), none, [1]⟩,
   ⟨some 10, .bin .lss none (.t 7) (.t 9), none, [0, 2]⟩,
   ⟨some 11, .mv (.t 10), none, [3]⟩,
   ⟨some 12, .mv (.t 5), some (11, true), [4]⟩,
   ⟨some 13, .pick (.t 11) (.t 12) (.c (.pv (.bool false))), none, [4, 5]⟩])
  (.cond (.t 13)
   .skip
   (.exit 0)))
  (.seq (.block 1
   (.draw [
     ⟨some 17, .load true 4 (.t 4), none, []⟩,
     ⟨some 18, .mv (.t 0), none, []⟩,
     ⟨some 19, .mv (.t 6), none, []⟩,
     ⟨some 20, .idxAddr 4 (.t 18) (.t 19), none, [1, 2]⟩,
     ⟨some 21, .load true 4 (.t 20), none, [3]⟩,
     ⟨some 22, .call 140 [(.t 17), (.t 21)], none, [0, 4]⟩,
     ⟨some 16, .mv (.t 22), none, [5]⟩,
     ⟨some 23, .extract (.t 16) 0, none, [6]⟩,
     ⟨some 24, .extract (.t 16) 1, none, [6]⟩,
     ⟨none, .store 4 (.t 4) (.t 23), none, [7, 5, 0, 1, 2, 3, 4, 5, 6, 7]⟩,
     ⟨some 5, .mv (.t 24), none, [8, 9, 0, 1, 2, 3, 4, 5, 6, 7, 8, 9]⟩]))
  (.ops [
   ⟨some 14, .mv (.t 6), none, []⟩,
   ⟨some 15, .bin .add none (.t 14) (.c (.pv (.int .i64 1))), none, [0]⟩,
   ⟨some 6, .mv (.t 15), none, [1, 0, 1]⟩])))
/-- dunnage/dunnageref01.Sum -/
def f143 : AFunc := ⟨27, [.cell 2 true 4, .t 3],
 (.seq (.ops [
   ⟨some 2, .alloc [(.pv (.int .u64 0)), (.pv (.int .u64 0)), (.pv (.int .u64 0)), (.pv (.int .u64 0))], none, []⟩,
   ⟨some 3, .mv (.c (.pv (.bool false))), none, []⟩])
  (.seq (.ops [
   ⟨some 4, .alloc [(.pv (.int .u64 0)), (.pv (.int .u64 0)), (.pv (.int .u64 0)), (.pv (.int .u64 0))], none, []⟩])
  (.seq (.ops [
   ⟨some 5, .mv (.c (.pv (.bool true))), none, []⟩])
  (.seq (.seq (.ops [
   ⟨some 6, .mv (.c (.pv (.int .i64 0))), none, []⟩])
  (.block 0
   (.loop f143l0)))
  (.seq (.ops [
   ⟨some 25, .load true 4 (.t 4), none, []⟩,
   ⟨some 26, .mv (.t 5), none, []⟩,
   ⟨none, .store 4 (.t 2) (.t 25), none, [0, 0]⟩,
   ⟨some 3, .mv (.t 26), none, [1, 2, 0, 1, 2]⟩])
  .ret)))))⟩

/-- dunnage/dunnageref01.half -/
def f144 : AFunc := ⟨10, [.t 4],
 (.seq (.ops [
   ⟨some 4, .mv (.c (.pv (.int .u64 0))), none, []⟩])
  (.seq (.seq (.ops [
   ⟨some 5, .mv (.t 1), none, []⟩])
  (.cond (.t 5)
   (.seq (.ops [
     ⟨some 6, .mv (.t 0), none, []⟩,
     ⟨some 7, .bin .quo none (.t 6) (.c (.pv (.int .u64 4294967296))), none, [0]⟩,
     ⟨some 4, .mv (.t 7), none, [1, 0, 1]⟩])
    .ret)
   .skip))
  (.seq (.ops [
   ⟨some 8, .mv (.t 0), none, []⟩,
   ⟨some 9, .bin .rem none (.t 8) (.c (.pv (.int .u64 4294967296))), none, [0]⟩,
   ⟨some 4, .mv (.t 9), none, [1, 0, 1]⟩])
  .ret)))⟩

/-- dunnage/dunnageref01.one -/
def f145 : AFunc := ⟨28, [.t 4, .t 5],
 (.seq (.ops [
   ⟨some 4, .mv (.c (.pv (.int .u64 0))), none, []⟩,
   ⟨some 5, .mv (.c (.pv (.bool false))), none, [0]⟩])
  (.seq (.ops [
   ⟨some 8, .mv (.t 0), none, []⟩,
   ⟨some 9, .call 144 [(.t 8), (.c (.pv (.bool false)))], none, [0]⟩,
   ⟨some 10, .mv (.t 1), none, []⟩,
   ⟨some 11, .call 144 [(.t 10), (.c (.pv (.bool false)))], none, [2, 1]⟩,
   ⟨some 12, .bin .add none (.t 9) (.t 11), none, [1, 3]⟩,
   ⟨some 6, .mv (.t 12), none, [4, 3, 0, 1, 2, 3, 4]⟩])
  (.seq (.ops [
   ⟨some 13, .mv (.t 0), none, []⟩,
   ⟨some 14, .call 144 [(.t 13), (.c (.pv (.bool true)))], none, [0]⟩,
   ⟨some 15, .mv (.t 1), none, []⟩,
   ⟨some 16, .call 144 [(.t 15), (.c (.pv (.bool true)))], none, [2, 1]⟩,
   ⟨some 17, .bin .add none (.t 14) (.t 16), none, [1, 3]⟩,
   ⟨some 18, .mv (.t 6), none, []⟩,
   ⟨some 19, .bin .quo none (.t 18) (.c (.pv (.int .u64 4294967296))), none, [5]⟩,
   ⟨some 20, .bin .add none (.t 17) (.t 19), none, [4, 6]⟩,
   ⟨some 7, .mv (.t 20), none, [7, 3, 0, 1, 2, 3, 4, 5, 6, 7]⟩])
  (.seq (.seq (.ops [
   ⟨some 21, .mv (.t 7), none, []⟩,
   ⟨some 22, .bin .geq none (.t 21) (.c (.pv (.int .u64 4294967296))), none, [0]⟩])
  (.cond (.t 22)
   (.seq (.ops [
     ⟨some 4, .mv (.c (.pv (.int .u64 0))), none, []⟩,
     ⟨some 5, .mv (.c (.pv (.bool false))), none, [0, 0]⟩])
    .ret)
   .skip))
  (.seq (.ops [
   ⟨some 23, .mv (.t 7), none, []⟩,
   ⟨some 24, .bin .mul none (.t 23) (.c (.pv (.int .u64 4294967296))), none, [0]⟩,
   ⟨some 25, .mv (.t 6), none, []⟩,
   ⟨some 26, .bin .rem none (.t 25) (.c (.pv (.int .u64 4294967296))), none, [2]⟩,
   ⟨some 27, .bin .add none (.t 24) (.t 26), none, [1, 3]⟩,
   ⟨some 4, .mv (.t 27), none, [4, 0, 1, 2, 3, 4]⟩,
   ⟨some 5, .mv (.c (.pv (.bool true))), none, [5, 0, 1, 2, 3, 4, 5]⟩])
  .ret)))))⟩

def f155l0 : ACode :=
 (.seq (.seq (.ops [
   ⟨some 6, .mv (.t 5), none, []⟩,
   ⟨some 7, .fieldAddr 0 (.t 2), none, []⟩,
   ⟨some 8, .load false 1 (.t 7), none, [1]⟩,
   ⟨some 9, .len (.t 8), none, [2]⟩,
   ⟨some 10, .bin .lss none (.t 6) (.t 9), none, [0, 3]⟩])
  (.cond (.t 10)
   .skip
   (.exit 0)))
  (.seq (.block 1
   (.seq (.ops [
     ⟨some 13, .fieldAddr 0 (.t 2), none, []⟩,
     ⟨some 14, .load false 1 (.t 13), none, [0]⟩,
     ⟨some 15, .mv (.t 5), none, []⟩,
     ⟨some 16, .idxAddr 10 (.t 14) (.t 15), none, [1, 2]⟩,
     ⟨some 17, .fieldAddr 0 (.t 16), none, [3]⟩,
     ⟨some 18, .load false 1 (.t 17), none, [4]⟩,
     ⟨some 19, .mv (.t 1), none, []⟩,
     ⟨some 20, .bin .eql none (.t 18) (.t 19), none, [5, 6]⟩])
    (.cond (.t 20)
     (.seq (.ops [
       ⟨some 21, .mv (.t 5), none, []⟩,
       ⟨some 4, .mv (.t 21), none, [0, 0]⟩])
      .ret)
     .skip)))
  (.ops [
   ⟨some 11, .mv (.t 5), none, []⟩,
   ⟨some 12, .bin .add none (.t 11) (.c (.pv (.int .i64 1))), none, [0]⟩,
   ⟨some 5, .mv (.t 12), none, [1, 0, 1]⟩])))
/-- dunnage/dunnageref03.Node -/
def f155 : AFunc := ⟨22, [.t 4],
 (.seq (.ops [
   ⟨some 2, .box (.t 0), none, []⟩,
   ⟨some 4, .mv (.c (.pv (.int .i64 0))), none, []⟩])
  (.seq (.seq (.ops [
   ⟨some 5, .mv (.c (.pv (.int .i64 0))), none, []⟩])
  (.block 0
   (.loop f155l0)))
  (.seq (.ops [
   ⟨some 4, .mv (.c (.pv (.int .i64 (-1)))), none, []⟩])
  .ret)))⟩

def f169l0 : ACode :=
 (.seq (.seq (.ops [
   ⟨some 9, .mv (.t 6), none, []⟩,
   ⟨some 10, .fieldAddr 0 (.t 2), none, []⟩,
   ⟨some 11, .load false 1 (.t 10), none, [1]⟩,
   ⟨some 12, .len (.t 11), none, [2]⟩,
   ⟨some 13, .bin .lss none (.t 9) (.t 12), none, [0, 3]⟩])
  (.cond (.t 13)
   .skip
   (.exit 0)))
  (.seq (.block 1
   (.seq (.draw [
     ⟨some 17, .load true 3 (.t 2), none, []⟩,
     ⟨some 18, .load true 3 (.t 3), none, []⟩,
     ⟨some 19, .fieldAddr 0 (.t 2), none, []⟩,
     ⟨some 20, .load false 1 (.t 19), none, [2]⟩,
     ⟨some 21, .mv (.t 6), none, []⟩,
     ⟨some 22, .idxAddr 10 (.t 20) (.t 21), none, [3, 4]⟩,
     ⟨some 23, .fieldAddr 0 (.t 22), none, [5]⟩,
     ⟨some 24, .load false 1 (.t 23), none, [6]⟩,
     ⟨some 25, .call 170 [(.t 17), (.t 18), (.t 24)], none, [0, 1, 7]⟩,
     ⟨some 16, .mv (.t 25), none, [8]⟩,
     ⟨some 26, .extract (.t 16) 0, none, [9]⟩,
     ⟨some 27, .extract (.t 16) 1, none, [9]⟩,
     ⟨some 7, .alloc [(.pv (.int .u64 0)), (.pv (.int .u64 0)), (.pv (.int .u64 0)), (.pv (.int .u64 0))], none, []⟩,
     ⟨none, .store 4 (.t 7) (.t 26), none, [12, 10, 8, 0, 1, 2, 3, 4, 5, 6, 7, 8, 9, 10, 12]⟩,
     ⟨some 8, .mv (.t 27), none, [11, 13, 0, 1, 2, 3, 4, 5, 6, 7, 8, 9, 10, 11, 12, 13]⟩])
    (.seq (.ops [
     ⟨some 28, .mv (.t 8), none, []⟩,
     ⟨some 29, .bin .neq none (.t 28) (.c (.pv (.int .i64 0))), none, [0]⟩])
    (.cond (.t 29)
     (.seq (.ops [
       ⟨some 30, .mv (.t 8), none, []⟩,
       ⟨some 31, .mv (.t 6), none, []⟩,
       ⟨some 4, .mv (.t 30), none, [0, 0]⟩,
       ⟨some 5, .mv (.t 31), none, [1, 2, 0, 1, 2]⟩])
      .ret)
     .skip))))
  (.ops [
   ⟨some 14, .mv (.t 6), none, []⟩,
   ⟨some 15, .bin .add none (.t 14) (.c (.pv (.int .i64 1))), none, [0]⟩,
   ⟨some 6, .mv (.t 15), none, [1, 0, 1]⟩])))
/-- dunnage/dunnageref06.Check -/
def f169 : AFunc := ⟨32, [.t 4, .t 5],
 (.seq (.ops [
   ⟨some 2, .box (.t 0), none, []⟩,
   ⟨some 3, .box (.t 1), none, []⟩,
   ⟨some 4, .mv (.c (.pv (.int .i64 0))), none, []⟩,
   ⟨some 5, .mv (.c (.pv (.int .i64 0))), none, [2]⟩])
  (.seq (.seq (.ops [
   ⟨some 6, .mv (.c (.pv (.int .i64 0))), none, []⟩])
  (.block 0
   (.loop f169l0)))
  (.seq (.ops [
   ⟨some 4, .mv (.c (.pv (.int .i64 0))), none, []⟩,
   ⟨some 5, .mv (.c (.pv (.int .i64 (-1)))), none, [0, 0]⟩])
  .ret)))⟩

/-- dunnage/dunnageref06.Rest -/
def f170 : AFunc := ⟨59, [.cell 6 true 4, .t 7],
 (.seq (.ops [
   ⟨some 3, .box (.t 0), none, []⟩,
   ⟨some 4, .box (.t 1), none, []⟩,
   ⟨some 6, .alloc [(.pv (.int .u64 0)), (.pv (.int .u64 0)), (.pv (.int .u64 0)), (.pv (.int .u64 0))], none, []⟩,
   ⟨some 7, .mv (.c (.pv (.int .i64 0))), none, []⟩])
  (.seq (.ops [
   ⟨some 15, .load true 3 (.t 3), none, []⟩,
   ⟨some 16, .mv (.t 2), none, []⟩,
   ⟨some 17, .call 155 [(.t 15), (.t 16)], none, [0, 1]⟩,
   ⟨some 8, .mv (.t 17), none, [2, 2, 0, 1, 2]⟩])
  (.seq (.seq (.ops [
   ⟨some 18, .mv (.t 8), none, []⟩,
   ⟨some 19, .bin .lss none (.t 18) (.c (.pv (.int .i64 0))), none, [0]⟩])
  (.cond (.t 19)
   (.seq (.ops [
     ⟨some 20, .build [(.pv (.int .u64 0)), (.pv (.int .u64 0)), (.pv (.int .u64 0)), (.pv (.int .u64 0))] [], none, []⟩,
     ⟨none, .store 4 (.t 6) (.t 20), none, [0, 0]⟩,
     ⟨some 7, .mv (.c (.pv (.int .i64 4))), none, [1, 0, 1]⟩])
    .ret)
   .skip))
  (.seq (.ops [
   ⟨some 22, .load true 3 (.t 4), none, []⟩,
   ⟨some 23, .mv (.t 2), none, []⟩,
   ⟨some 24, .call 171 [(.t 22), (.t 23)], none, [0, 1]⟩,
   ⟨some 21, .mv (.t 24), none, [2]⟩,
   ⟨some 25, .extract (.t 21) 0, none, [3]⟩,
   ⟨some 26, .extract (.t 21) 1, none, [3]⟩,
   ⟨some 9, .alloc [(.pv (.int .u64 0)), (.pv (.int .u64 0)), (.pv (.int .u64 0)), (.pv (.int .u64 0))], none, []⟩,
   ⟨none, .store 4 (.t 9) (.t 25), none, [6, 4, 2, 0, 1, 2, 3, 4, 6]⟩,
   ⟨some 10, .mv (.t 26), none, [5, 7, 0, 1, 2, 3, 4, 5, 6, 7]⟩])
  (.seq (.seq (.ops [
   ⟨some 27, .mv (.t 10), none, []⟩,
   ⟨some 28, .not (.t 27), none, [0]⟩])
  (.cond (.t 28)
   (.seq (.ops [
     ⟨some 29, .build [(.pv (.int .u64 0)), (.pv (.int .u64 0)), (.pv (.int .u64 0)), (.pv (.int .u64 0))] [], none, []⟩,
     ⟨none, .store 4 (.t 6) (.t 29), none, [0, 0]⟩,
     ⟨some 7, .mv (.c (.pv (.int .i64 8))), none, [1, 0, 1]⟩])
    .ret)
   .skip))
  (.seq (.draw [
   ⟨some 31, .fieldAddr 0 (.t 3), none, []⟩,
   ⟨some 32, .load false 1 (.t 31), none, [0]⟩,
   ⟨some 33, .mv (.t 8), none, []⟩,
   ⟨some 34, .idxAddr 10 (.t 32) (.t 33), none, [1, 2]⟩,
   ⟨some 35, .fieldAddr 2 (.t 34), none, [3]⟩,
   ⟨some 36, .load true 4 (.t 35), none, [4]⟩,
   ⟨some 37, .fieldAddr 0 (.t 3), none, []⟩,
   ⟨some 38, .load false 1 (.t 37), none, [6]⟩,
   ⟨some 39, .mv (.t 8), none, []⟩,
   ⟨some 40, .idxAddr 10 (.t 38) (.t 39), none, [7, 8]⟩,
   ⟨some 41, .fieldAddr 6 (.t 40), none, [9]⟩,
   ⟨some 42, .load true 4 (.t 41), none, [10]⟩,
   ⟨some 43, .call 142 [(.t 36), (.t 42)], none, [5, 11]⟩,
   ⟨some 30, .mv (.t 43), none, [12]⟩,
   ⟨some 44, .extract (.t 30) 0, none, [13]⟩,
   ⟨some 45, .extract (.t 30) 1, none, [13]⟩,
   ⟨some 11, .alloc [(.pv (.int .u64 0)), (.pv (.int .u64 0)), (.pv (.int .u64 0)), (.pv (.int .u64 0))], none, []⟩,
   ⟨none, .store 4 (.t 11) (.t 44), none, [16, 14, 12, 0, 1, 2, 3, 4, 5, 6, 7, 8, 9, 10, 11, 12, 13, 14, 16]⟩,
   ⟨some 12, .mv (.t 45), none, [15, 17, 0, 1, 2, 3, 4, 5, 6, 7, 8, 9, 10, 11, 12, 13, 14, 15, 16, 17]⟩])
  (.seq (.seq (.ops [
   ⟨some 46, .mv (.t 12), none, []⟩,
   ⟨some 47, .not (.t 46), none, [0]⟩])
  (.cond (.t 47)
   (.seq (.ops [
     ⟨some 48, .build [(.pv (.int .u64 0)), (.pv (.int .u64 0)), (.pv (.int .u64 0)), (.pv (.int .u64 0))] [], none, []⟩,
     ⟨none, .store 4 (.t 6) (.t 48), none, [0, 0]⟩,
     ⟨some 7, .mv (.c (.pv (.int .i64 9))), none, [1, 0, 1]⟩])
    .ret)
   .skip))
  (.seq (.ops [
   ⟨some 50, .load true 4 (.t 11), none, []⟩,
   ⟨some 51, .load true 4 (.t 9), none, []⟩,
   ⟨some 52, .call 142 [(.t 50), (.t 51)], none, [0, 1]⟩,
   ⟨some 49, .mv (.t 52), none, [2]⟩,
   ⟨some 53, .extract (.t 49) 0, none, [3]⟩,
   ⟨some 54, .extract (.t 49) 1, none, [3]⟩,
   ⟨some 13, .alloc [(.pv (.int .u64 0)), (.pv (.int .u64 0)), (.pv (.int .u64 0)), (.pv (.int .u64 0))], none, []⟩,
   ⟨none, .store 4 (.t 13) (.t 53), none, [6, 4, 2, 0, 1, 2, 3, 4, 6]⟩,
   ⟨some 14, .mv (.t 54), none, [5, 7, 0, 1, 2, 3, 4, 5, 6, 7]⟩])
  (.seq (.seq (.ops [
   ⟨some 55, .mv (.t 14), none, []⟩,
   ⟨some 56, .not (.t 55), none, [0]⟩])
  (.cond (.t 56)
   (.seq (.ops [
     ⟨some 57, .build [(.pv (.int .u64 0)), (.pv (.int .u64 0)), (.pv (.int .u64 0)), (.pv (.int .u64 0))] [], none, []⟩,
     ⟨none, .store 4 (.t 6) (.t 57), none, [0, 0]⟩,
     ⟨some 7, .mv (.c (.pv (.int .i64 9))), none, [1, 0, 1]⟩])
    .ret)
   .skip))
  (.seq (.ops [
   ⟨some 58, .load true 4 (.t 13), none, []⟩,
   ⟨none, .store 4 (.t 6) (.t 58), none, [0, 0]⟩,
   ⟨some 7, .mv (.c (.pv (.int .i64 0))), none, [1, 0, 1]⟩])
  .ret))))))))))⟩

def f171l0 : ACode :=
 (.seq (.seq (.ops [
   ⟨some 10, .mv (.t 7), none, []⟩,
   ⟨some 11, .fieldAddr 0 (.t 2), none, []⟩,
   ⟨some 12, .load false 1 (.t 11), none, [1]⟩,
   ⟨some 13, .len (.t 12), none, [2]⟩,
   ⟨some 14, .bin .lss none (.t 10) (.t 13), none, [0, 3]⟩])
  (.cond (.t 14)
   .skip
   (.exit 0)))
  (.seq (.block 1
   (.seq (.ops [
     ⟨some 17, .fieldAddr 0 (.t 2), none, []⟩,
     ⟨some 18, .load false 1 (.t 17), none, [0]⟩,
     ⟨some 19, .mv (.t 7), none, []⟩,
     ⟨some 20, .idxAddr 8 (.t 18) (.t 19), none, [1, 2]⟩,
     ⟨some 21, .fieldAddr 7 (.t 20), none, [3]⟩,
     ⟨some 22, .load false 1 (.t 21), none, [4]⟩,
     ⟨some 23, .mv (.t 1), none, []⟩,
     ⟨some 24, .bin .eql none (.t 22) (.t 23), none, [5, 6]⟩])
    (.cond (.t 24)
     (.ops [
       ⟨some 25, .mv (.t 6), none, []⟩,
       ⟨some 26, .fieldAddr 0 (.t 2), none, []⟩,
       ⟨some 27, .load false 1 (.t 26), none, [1]⟩,
       ⟨some 28, .mv (.t 7), none, []⟩,
       ⟨some 29, .idxAddr 8 (.t 27) (.t 28), none, [2, 3]⟩,
       ⟨some 30, .fieldAddr 3 (.t 29), none, [4]⟩,
       ⟨some 31, .load true 4 (.t 30), none, [5]⟩,
       ⟨some 32, .bslice 4 1 [(.pv (.int .u64 0)), (.pv (.int .u64 0)), (.pv (.int .u64 0)), (.pv (.int .u64 0))] [(0, 4, (.t 31))], none, [6]⟩,
       ⟨some 33, .append 4 32 (.t 25) (.t 32), none, [0, 7]⟩,
       ⟨some 6, .mv (.t 33), none, [8, 8, 0, 1, 2, 3, 4, 5, 6, 7, 8]⟩])
     .skip)))
  (.ops [
   ⟨some 15, .mv (.t 7), none, []⟩,
   ⟨some 16, .bin .add none (.t 15) (.c (.pv (.int .i64 1))), none, [0]⟩,
   ⟨some 7, .mv (.t 16), none, [1, 0, 1]⟩])))
/-- dunnage/dunnageref06.Use -/
def f171 : AFunc := ⟨43, [.cell 4 true 4, .t 5],
 (.seq (.ops [
   ⟨some 2, .box (.t 0), none, []⟩,
   ⟨some 4, .alloc [(.pv (.int .u64 0)), (.pv (.int .u64 0)), (.pv (.int .u64 0)), (.pv (.int .u64 0))], none, []⟩,
   ⟨some 5, .mv (.c (.pv (.bool false))), none, []⟩])
  (.seq (.ops [
   ⟨some 6, .mv (.c .nils), none, []⟩])
  (.seq (.seq (.ops [
   ⟨some 7, .mv (.c (.pv (.int .i64 0))), none, []⟩])
  (.block 0
   (.loop f171l0)))
  (.seq (.ops [
   ⟨some 35, .mv (.t 6), none, []⟩,
   ⟨some 36, .call 143 [(.t 35)], none, [0]⟩,
   ⟨some 34, .mv (.t 36), none, [1]⟩,
   ⟨some 37, .extract (.t 34) 0, none, [2]⟩,
   ⟨some 38, .extract (.t 34) 1, none, [2]⟩,
   ⟨some 8, .alloc [(.pv (.int .u64 0)), (.pv (.int .u64 0)), (.pv (.int .u64 0)), (.pv (.int .u64 0))], none, []⟩,
   ⟨none, .store 4 (.t 8) (.t 37), none, [5, 3, 1, 0, 1, 2, 3, 5]⟩,
   ⟨some 9, .mv (.t 38), none, [4, 6, 0, 1, 2, 3, 4, 5, 6]⟩])
  (.seq (.seq (.ops [
   ⟨some 39, .mv (.t 9), none, []⟩,
   ⟨some 40, .not (.t 39), none, [0]⟩])
  (.cond (.t 40)
   (.seq (.ops [
     ⟨some 41, .build [(.pv (.int .u64 0)), (.pv (.int .u64 0)), (.pv (.int .u64 0)), (.pv (.int .u64 0))] [], none, []⟩,
     ⟨none, .store 4 (.t 4) (.t 41), none, [0, 0]⟩,
     ⟨some 5, .mv (.c (.pv (.bool false))), none, [1, 0, 1]⟩])
    .ret)
   .skip))
  (.seq (.ops [
   ⟨some 42, .load true 4 (.t 8), none, []⟩,
   ⟨none, .store 4 (.t 4) (.t 42), none, [0, 0]⟩,
   ⟨some 5, .mv (.c (.pv (.bool true))), none, [1, 0, 1]⟩])
  .ret))))))⟩

def f219l0 : ACode :=
 (.seq (.ops [
   ⟨some 14, .bin .lss none (.t 13) (.t 12), none, []⟩])
  (.seq (.cond (.t 14)
   .skip
   (.exit 0))
  (.seq (.block 1
   (.seq (.ops [
     ⟨some 15, .mv (.t 13), none, []⟩,
     ⟨some 16, .idxAddr 10 (.t 11) (.t 13), none, []⟩,
     ⟨some 17, .load true 10 (.t 16), none, [1]⟩,
     ⟨some 6, .alloc [(.pv (.int .i64 0)), (.pv (.int .i64 0)), (.pv (.int .u64 0)), (.pv (.int .u64 0)), (.pv (.int .u64 0)), (.pv (.int .u64 0)), (.pv (.int .u64 0)), (.pv (.int .u64 0)), (.pv (.int .u64 0)), (.pv (.int .u64 0))], none, []⟩,
     ⟨some 5, .mv (.t 15), none, [0, 0, 1, 2, 3]⟩,
     ⟨none, .store 10 (.t 6) (.t 17), none, [3, 2, 4, 0, 1, 2, 3, 4]⟩])
    (.seq (.ops [
     ⟨some 19, .load true 3 (.t 2), none, []⟩,
     ⟨some 20, .load true 3 (.t 3), none, []⟩,
     ⟨some 21, .fieldAddr 0 (.t 6), none, []⟩,
     ⟨some 22, .load false 1 (.t 21), none, [2]⟩,
     ⟨some 23, .call 220 [(.t 19), (.t 20), (.t 22)], none, [0, 1, 3]⟩,
     ⟨some 18, .mv (.t 23), none, [4]⟩,
     ⟨some 24, .extract (.t 18) 0, none, [5]⟩,
     ⟨some 25, .extract (.t 18) 1, none, [5]⟩,
     ⟨some 7, .alloc [(.pv (.int .u64 0)), (.pv (.int .u64 0)), (.pv (.int .u64 0)), (.pv (.int .u64 0))], none, []⟩,
     ⟨none, .store 4 (.t 7) (.t 24), none, [8, 6, 4, 0, 1, 2, 3, 4, 5, 6, 8]⟩,
     ⟨some 8, .mv (.t 25), none, [7, 9, 0, 1, 2, 3, 4, 5, 6, 7, 8, 9]⟩])
    (.seq (.ops [
     ⟨some 9, .alloc [(.pv (.int .i64 0))], none, []⟩])
    (.seq (.ops [
     ⟨some 26, .mv (.t 8), none, []⟩,
     ⟨some 27, .mkI 3 (.t 9), none, []⟩,
     ⟨some 28, .call 266 [(.t 26), (.t 27)], none, [0, 1]⟩])
    (.cond (.t 28)
     (.seq (.ops [
       ⟨some 29, .mv (.t 5), none, []⟩,
       ⟨some 30, .load false 1 (.t 9), none, []⟩,
       ⟨some 31, .build [(.pv (.int .i64 0)), (.pv (.int .i64 0))] [(0, 1, (.t 29)), (1, 1, (.t 30))], none, [0, 1]⟩,
       ⟨some 32, .box (.t 31), none, [2]⟩,
       ⟨some 33, .mkI 1 (.t 32), none, [3]⟩,
       ⟨some 4, .mv (.t 33), none, [4, 0, 1, 2, 3, 4]⟩])
      .ret)
     .skip))))))
  (.ops [
   ⟨some 34, .bin .add none (.t 13) (.c (.pv (.int .i64 1))), none, []⟩,
   ⟨some 13, .mv (.t 34), none, [0]⟩]))))
/-- dunnage/room.Check -/
def f219 : AFunc := ⟨35, [.t 4],
 (.seq (.ops [
   ⟨some 2, .box (.t 0), none, []⟩,
   ⟨some 3, .box (.t 1), none, []⟩,
   ⟨some 4, .mv (.c (.pv .nili)), none, []⟩])
  (.seq (.seq (.ops [
   ⟨some 10, .fieldAddr 0 (.t 2), none, []⟩,
   ⟨some 11, .load false 1 (.t 10), none, [0]⟩,
   ⟨some 12, .len (.t 11), none, [1]⟩,
   ⟨some 13, .mv (.c (.pv (.int .i64 0))), none, []⟩])
  (.block 0
   (.loop f219l0)))
  (.seq (.ops [
   ⟨some 4, .mv (.c (.pv .nili)), none, []⟩])
  .ret)))⟩

/-- dunnage/room.Rest -/
def f220 : AFunc := ⟨54, [.cell 6 true 4, .t 7],
 (.seq (.ops [
   ⟨some 3, .box (.t 0), none, []⟩,
   ⟨some 4, .box (.t 1), none, []⟩,
   ⟨some 6, .alloc [(.pv (.int .u64 0)), (.pv (.int .u64 0)), (.pv (.int .u64 0)), (.pv (.int .u64 0))], none, []⟩,
   ⟨some 7, .mv (.c (.pv .nili)), none, []⟩])
  (.seq (.ops [
   ⟨some 14, .load true 3 (.t 3), none, []⟩,
   ⟨some 15, .mv (.t 2), none, []⟩,
   ⟨some 16, .call 82 [(.t 14), (.t 15)], none, [0, 1]⟩,
   ⟨some 13, .mv (.t 16), none, [2]⟩,
   ⟨some 17, .extract (.t 13) 0, none, [3]⟩,
   ⟨some 18, .extract (.t 13) 1, none, [3]⟩,
   ⟨some 8, .alloc [(.pv (.int .i64 0)), (.pv (.int .i64 0)), (.pv (.int .u64 0)), (.pv (.int .u64 0)), (.pv (.int .u64 0)), (.pv (.int .u64 0)), (.pv (.int .u64 0)), (.pv (.int .u64 0)), (.pv (.int .u64 0)), (.pv (.int .u64 0))], none, []⟩,
   ⟨none, .store 10 (.t 8) (.t 17), none, [6, 4, 2, 0, 1, 2, 3, 4, 6]⟩,
   ⟨some 9, .mv (.t 18), none, [5, 7, 0, 1, 2, 3, 4, 5, 6, 7]⟩])
  (.seq (.seq (.ops [
   ⟨some 19, .mv (.t 9), none, []⟩,
   ⟨some 20, .not (.t 19), none, [0]⟩])
  (.cond (.t 20)
   (.seq (.ops [
     ⟨some 21, .build [(.pv (.int .u64 0)), (.pv (.int .u64 0)), (.pv (.int .u64 0)), (.pv (.int .u64 0))] [], none, []⟩,
     ⟨some 22, .mkI 0 (.c (.pv (.int .i64 4))), none, []⟩,
     ⟨none, .store 4 (.t 6) (.t 21), none, [0, 0]⟩,
     ⟨some 7, .mv (.t 22), none, [1, 2, 0, 1, 2]⟩])
    .ret)
   .skip))
  (.seq (.ops [
   ⟨some 24, .load true 3 (.t 4), none, []⟩,
   ⟨some 25, .mv (.t 2), none, []⟩,
   ⟨some 26, .call 221 [(.t 24), (.t 25)], none, [0, 1]⟩,
   ⟨some 23, .mv (.t 26), none, [2]⟩,
   ⟨some 27, .extract (.t 23) 0, none, [3]⟩,
   ⟨some 28, .extract (.t 23) 1, none, [3]⟩,
   ⟨some 10, .alloc [(.pv (.int .u64 0)), (.pv (.int .u64 0)), (.pv (.int .u64 0)), (.pv (.int .u64 0))], none, []⟩,
   ⟨none, .store 4 (.t 10) (.t 27), none, [6, 4, 2, 0, 1, 2, 3, 4, 6]⟩,
   ⟨some 11, .mv (.t 28), none, [5, 7, 0, 1, 2, 3, 4, 5, 6, 7]⟩])
  (.seq (.seq (.ops [
   ⟨some 29, .mv (.t 11), none, []⟩,
   ⟨some 30, .bin .neq (some (.iface true)) (.t 29) (.c (.pv .nili)), none, [0]⟩])
  (.cond (.t 30)
   (.seq (.ops [
     ⟨some 31, .build [(.pv (.int .u64 0)), (.pv (.int .u64 0)), (.pv (.int .u64 0)), (.pv (.int .u64 0))] [], none, []⟩,
     ⟨some 32, .mv (.t 11), none, []⟩,
     ⟨none, .store 4 (.t 6) (.t 31), none, [0, 0]⟩,
     ⟨some 7, .mv (.t 32), none, [1, 2, 0, 1, 2]⟩])
    .ret)
   .skip))
  (.seq (.ops [
   ⟨some 34, .fieldAddr 2 (.t 8), none, []⟩,
   ⟨some 35, .load true 4 (.t 34), none, [0]⟩,
   ⟨some 36, .fieldAddr 6 (.t 8), none, []⟩,
   ⟨some 37, .load true 4 (.t 36), none, [2]⟩,
   ⟨some 38, .call 258 [(.t 35), (.t 37)], none, [1, 3]⟩,
   ⟨some 33, .mv (.t 38), none, [4]⟩,
   ⟨some 39, .extract (.t 33) 0, none, [5]⟩,
   ⟨some 40, .extract (.t 33) 1, none, [5]⟩,
   ⟨some 12, .alloc [(.pv (.int .u64 0)), (.pv (.int .u64 0)), (.pv (.int .u64 0)), (.pv (.int .u64 0))], none, []⟩,
   ⟨none, .store 4 (.t 12) (.t 39), none, [8, 6, 4, 0, 1, 2, 3, 4, 5, 6, 8]⟩,
   ⟨some 11, .mv (.t 40), none, [7, 9, 0, 1, 2, 3, 4, 5, 6, 7, 8, 9]⟩])
  (.seq (.seq (.ops [
   ⟨some 41, .mv (.t 11), none, []⟩,
   ⟨some 42, .bin .eql (some (.iface true)) (.t 41) (.c (.pv .nili)), none, [0]⟩])
  (.cond (.t 42)
   (.ops [
     ⟨some 44, .load true 4 (.t 12), none, []⟩,
     ⟨some 45, .load true 4 (.t 10), none, []⟩,
     ⟨some 46, .call 258 [(.t 44), (.t 45)], none, [0, 1]⟩,
     ⟨some 43, .mv (.t 46), none, [2]⟩,
     ⟨some 47, .extract (.t 43) 0, none, [3]⟩,
     ⟨some 48, .extract (.t 43) 1, none, [3]⟩,
     ⟨none, .store 4 (.t 12) (.t 47), none, [4, 2, 0, 1, 2, 3, 4]⟩,
     ⟨some 11, .mv (.t 48), none, [5, 6, 0, 1, 2, 3, 4, 5, 6]⟩])
   .skip))
  (.seq (.seq (.ops [
   ⟨some 49, .mv (.t 11), none, []⟩,
   ⟨some 50, .bin .neq (some (.iface true)) (.t 49) (.c (.pv .nili)), none, [0]⟩])
  (.cond (.t 50)
   (.seq (.ops [
     ⟨some 51, .build [(.pv (.int .u64 0)), (.pv (.int .u64 0)), (.pv (.int .u64 0)), (.pv (.int .u64 0))] [], none, []⟩,
     ⟨some 52, .mkI 0 (.c (.pv (.int .i64 9))), none, []⟩,
     ⟨none, .store 4 (.t 6) (.t 51), none, [0, 0]⟩,
     ⟨some 7, .mv (.t 52), none, [1, 2, 0, 1, 2]⟩])
    .ret)
   .skip))
  (.seq (.ops [
   ⟨some 53, .load true 4 (.t 12), none, []⟩,
   ⟨none, .store 4 (.t 6) (.t 53), none, [0, 0]⟩,
   ⟨some 7, .mv (.c (.pv .nili)), none, [1, 0, 1]⟩])
  .ret)))))))))⟩

def f221l0 : ACode :=
 (.seq (.ops [
   ⟨some 13, .bin .lss none (.t 12) (.t 11), none, []⟩])
  (.seq (.cond (.t 13)
   .skip
   (.exit 0))
  (.seq (.block 1
   (.seq (.ops [
     ⟨some 14, .idxAddr 8 (.t 10) (.t 12), none, []⟩,
     ⟨some 15, .load true 8 (.t 14), none, [0]⟩,
     ⟨some 8, .alloc [(.pv (.int .i64 0)), (.pv (.int .i64 0)), (.pv (.int .i64 0)), (.pv (.int .u64 0)), (.pv (.int .u64 0)), (.pv (.int .u64 0)), (.pv (.int .u64 0)), (.pv (.int .i64 0))], none, []⟩,
     ⟨none, .store 8 (.t 8) (.t 15), none, [2, 1, 0, 1, 2]⟩])
    (.seq (.ops [
     ⟨some 16, .fieldAddr 7 (.t 8), none, []⟩,
     ⟨some 17, .load false 1 (.t 16), none, [0]⟩,
     ⟨some 18, .mv (.t 1), none, []⟩,
     ⟨some 19, .bin .eql none (.t 17) (.t 18), none, [1, 2]⟩])
    (.cond (.t 19)
     (.ops [
       ⟨some 20, .mv (.t 6), none, []⟩,
       ⟨some 21, .fieldAddr 3 (.t 8), none, []⟩,
       ⟨some 22, .load true 4 (.t 21), none, [1]⟩,
       ⟨some 23, .bslice 4 1 [(.pv (.int .u64 0)), (.pv (.int .u64 0)), (.pv (.int .u64 0)), (.pv (.int .u64 0))] [(0, 4, (.t 22))], none, [2]⟩,
       ⟨some 24, .append 4 32 (.t 20) (.t 23), none, [0, 3]⟩,
       ⟨some 6, .mv (.t 24), none, [4, 4, 0, 1, 2, 3, 4]⟩])
     .skip))))
  (.ops [
   ⟨some 25, .bin .add none (.t 12) (.c (.pv (.int .i64 1))), none, []⟩,
   ⟨some 12, .mv (.t 25), none, [0]⟩]))))
/-- dunnage/room.Use -/
def f221 : AFunc := ⟨30, [.cell 4 true 4, .t 5],
 (.seq (.ops [
   ⟨some 2, .box (.t 0), none, []⟩,
   ⟨some 4, .alloc [(.pv (.int .u64 0)), (.pv (.int .u64 0)), (.pv (.int .u64 0)), (.pv (.int .u64 0))], none, []⟩,
   ⟨some 5, .mv (.c (.pv .nili)), none, []⟩])
  (.seq (.ops [
   ⟨some 6, .mv (.c .nils), none, []⟩])
  (.seq (.seq (.ops [
   ⟨some 9, .fieldAddr 0 (.t 2), none, []⟩,
   ⟨some 10, .load false 1 (.t 9), none, [0]⟩,
   ⟨some 11, .len (.t 10), none, [1]⟩,
   ⟨some 12, .mv (.c (.pv (.int .i64 0))), none, []⟩])
  (.block 0
   (.loop f221l0)))
  (.seq (.ops [
   ⟨some 26, .mv (.t 6), none, []⟩,
   ⟨some 27, .call 260 [(.t 26)], none, [0]⟩,
   ⟨some 28, .extract (.t 27) 0, none, [1]⟩,
   ⟨some 29, .extract (.t 27) 1, none, [1]⟩,
   ⟨none, .store 4 (.t 4) (.t 28), none, [2, 1, 0, 1, 2, 3]⟩,
   ⟨some 5, .mv (.t 29), none, [3, 4, 0, 1, 2, 3, 4]⟩])
  .ret))))⟩

/-- dunnage/vec.Add -/
def f255 : AFunc := ⟨11, [.cell 4 true 4, .t 5],
 (.seq (.ops [
   ⟨some 2, .box (.t 0), none, []⟩,
   ⟨some 3, .box (.t 1), none, []⟩,
   ⟨some 4, .alloc [(.pv (.int .u64 0)), (.pv (.int .u64 0)), (.pv (.int .u64 0)), (.pv (.int .u64 0))], none, []⟩,
   ⟨some 5, .mv (.c (.pv .nili)), none, []⟩])
  (.seq (.ops [
   ⟨some 6, .load true 4 (.t 2), none, []⟩,
   ⟨some 7, .load true 4 (.t 3), none, []⟩,
   ⟨some 8, .call 261 [(.t 6), (.t 7), (.f 256)], none, [0, 1]⟩,
   ⟨some 9, .extract (.t 8) 0, none, [2]⟩,
   ⟨some 10, .extract (.t 8) 1, none, [2]⟩,
   ⟨none, .store 4 (.t 4) (.t 9), none, [3, 2, 0, 1, 2, 3, 4]⟩,
   ⟨some 5, .mv (.t 10), none, [4, 5, 0, 1, 2, 3, 4, 5]⟩])
  .ret))⟩

/-- dunnage/vec.Add$1 -/
def f256 : AFunc := ⟨17, [.t 4, .t 5],
 (.seq (.ops [
   ⟨some 4, .mv (.c (.pv (.int .u64 0))), none, []⟩,
   ⟨some 5, .mv (.c (.pv (.bool false))), none, [0]⟩])
  (.seq (.ops [
   ⟨some 9, .mv (.t 0), none, []⟩,
   ⟨some 10, .mv (.t 1), none, []⟩,
   ⟨some 11, .call 270 [(.t 9), (.t 10), (.c (.pv (.int .u64 0)))], none, [0, 1]⟩,
   ⟨some 8, .mv (.t 11), none, [2]⟩,
   ⟨some 12, .extract (.t 8) 0, none, [3]⟩,
   ⟨some 13, .extract (.t 8) 1, none, [3]⟩,
   ⟨some 6, .mv (.t 12), none, [4, 2, 0, 1, 2, 3, 4]⟩,
   ⟨some 7, .mv (.t 13), none, [5, 6, 0, 1, 2, 3, 4, 5, 6]⟩])
  (.seq (.ops [
   ⟨some 14, .mv (.t 6), none, []⟩,
   ⟨some 15, .mv (.t 7), none, []⟩,
   ⟨some 16, .bin .eql none (.t 15) (.c (.pv (.int .u64 0))), none, [1]⟩,
   ⟨some 4, .mv (.t 14), none, [0, 0]⟩,
   ⟨some 5, .mv (.t 16), none, [2, 3, 0, 1, 2, 3]⟩])
  .ret)))⟩

/-- dunnage/vec.Sub -/
def f258 : AFunc := ⟨11, [.cell 4 true 4, .t 5],
 (.seq (.ops [
   ⟨some 2, .box (.t 0), none, []⟩,
   ⟨some 3, .box (.t 1), none, []⟩,
   ⟨some 4, .alloc [(.pv (.int .u64 0)), (.pv (.int .u64 0)), (.pv (.int .u64 0)), (.pv (.int .u64 0))], none, []⟩,
   ⟨some 5, .mv (.c (.pv .nili)), none, []⟩])
  (.seq (.ops [
   ⟨some 6, .load true 4 (.t 2), none, []⟩,
   ⟨some 7, .load true 4 (.t 3), none, []⟩,
   ⟨some 8, .call 261 [(.t 6), (.t 7), (.f 259)], none, [0, 1]⟩,
   ⟨some 9, .extract (.t 8) 0, none, [2]⟩,
   ⟨some 10, .extract (.t 8) 1, none, [2]⟩,
   ⟨none, .store 4 (.t 4) (.t 9), none, [3, 2, 0, 1, 2, 3, 4]⟩,
   ⟨some 5, .mv (.t 10), none, [4, 5, 0, 1, 2, 3, 4, 5]⟩])
  .ret))⟩

/-- dunnage/vec.Sub$1 -/
def f259 : AFunc := ⟨12, [.t 4, .t 5],
 (.seq (.ops [
   ⟨some 4, .mv (.c (.pv (.int .u64 0))), none, []⟩,
   ⟨some 5, .mv (.c (.pv (.bool false))), none, [0]⟩])
  (.seq (.ops [
   ⟨some 6, .mv (.t 0), none, []⟩,
   ⟨some 7, .mv (.t 1), none, []⟩,
   ⟨some 8, .bin .sub none (.t 6) (.t 7), none, [0, 1]⟩,
   ⟨some 9, .mv (.t 0), none, []⟩,
   ⟨some 10, .mv (.t 1), none, []⟩,
   ⟨some 11, .bin .geq none (.t 9) (.t 10), none, [3, 4]⟩,
   ⟨some 4, .mv (.t 8), none, [2, 0, 1, 2]⟩,
   ⟨some 5, .mv (.t 11), none, [5, 6, 0, 1, 2, 3, 4, 5, 6]⟩])
  .ret))⟩

def f260l0 : ACode :=
 (.seq (.ops [
   ⟨some 12, .bin .lss none (.t 11) (.t 10), none, []⟩])
  (.seq (.cond (.t 12)
   .skip
   (.exit 0))
  (.seq (.block 1
   (.seq (.ops [
     ⟨some 13, .idxAddr 4 (.t 9) (.t 11), none, []⟩,
     ⟨some 14, .load true 4 (.t 13), none, [0]⟩,
     ⟨some 6, .alloc [(.pv (.int .u64 0)), (.pv (.int .u64 0)), (.pv (.int .u64 0)), (.pv (.int .u64 0))], none, []⟩,
     ⟨none, .store 4 (.t 6) (.t 14), none, [2, 1, 0, 1, 2]⟩])
    (.seq (.ops [
     ⟨some 16, .load true 4 (.t 4), none, []⟩,
     ⟨some 17, .load true 4 (.t 6), none, []⟩,
     ⟨some 18, .call 255 [(.t 16), (.t 17)], none, [0, 1]⟩,
     ⟨some 15, .mv (.t 18), none, [2]⟩,
     ⟨some 19, .extract (.t 15) 0, none, [3]⟩,
     ⟨some 20, .extract (.t 15) 1, none, [3]⟩,
     ⟨some 7, .alloc [(.pv (.int .u64 0)), (.pv (.int .u64 0)), (.pv (.int .u64 0)), (.pv (.int .u64 0))], none, []⟩,
     ⟨none, .store 4 (.t 7) (.t 19), none, [6, 4, 2, 0, 1, 2, 3, 4, 6]⟩,
     ⟨some 8, .mv (.t 20), none, [5, 7, 0, 1, 2, 3, 4, 5, 6, 7]⟩])
    (.seq (.seq (.ops [
     ⟨some 21, .mv (.t 8), none, []⟩,
     ⟨some 22, .bin .neq (some (.iface true)) (.t 21) (.c (.pv .nili)), none, [0]⟩])
    (.cond (.t 22)
     (.seq (.ops [
       ⟨some 23, .build [(.pv (.int .u64 0)), (.pv (.int .u64 0)), (.pv (.int .u64 0)), (.pv (.int .u64 0))] [], none, []⟩,
       ⟨some 24, .mv (.t 8), none, []⟩,
       ⟨none, .store 4 (.t 2) (.t 23), none, [0, 0]⟩,
       ⟨some 3, .mv (.t 24), none, [1, 2, 0, 1, 2]⟩])
      .ret)
     .skip))
    (.ops [
     ⟨some 25, .load true 4 (.t 7), none, []⟩,
     ⟨none, .store 4 (.t 4) (.t 25), none, [0, 0]⟩])))))
  (.ops [
   ⟨some 26, .bin .add none (.t 11) (.c (.pv (.int .i64 1))), none, []⟩,
   ⟨some 11, .mv (.t 26), none, [0]⟩]))))
/-- dunnage/vec.Sum -/
def f260 : AFunc := ⟨28, [.cell 2 true 4, .t 3],
 (.seq (.ops [
   ⟨some 2, .alloc [(.pv (.int .u64 0)), (.pv (.int .u64 0)), (.pv (.int .u64 0)), (.pv (.int .u64 0))], none, []⟩,
   ⟨some 3, .mv (.c (.pv .nili)), none, []⟩])
  (.seq (.ops [
   ⟨some 4, .alloc [(.pv (.int .u64 0)), (.pv (.int .u64 0)), (.pv (.int .u64 0)), (.pv (.int .u64 0))], none, []⟩])
  (.seq (.seq (.ops [
   ⟨some 9, .mv (.t 0), none, []⟩,
   ⟨some 10, .len (.t 9), none, [0]⟩,
   ⟨some 11, .mv (.c (.pv (.int .i64 0))), none, []⟩])
  (.block 0
   (.loop f260l0)))
  (.seq (.ops [
   ⟨some 27, .load true 4 (.t 4), none, []⟩,
   ⟨none, .store 4 (.t 2) (.t 27), none, [0, 0]⟩,
   ⟨some 3, .mv (.c (.pv .nili)), none, [1, 0, 1]⟩])
  .ret))))⟩

def f261l0 : ACode :=
 (.seq (.ops [
   ⟨some 13, .bin .lss none (.t 12) (.c (.pv (.int .i64 4))), none, []⟩])
  (.seq (.cond (.t 13)
   .skip
   (.exit 0))
  (.seq (.block 1
   (.seq (.ops [
     ⟨some 14, .mv (.t 12), none, []⟩,
     ⟨some 9, .mv (.t 14), none, [0, 0]⟩])
    (.seq (.draw [
     ⟨some 16, .mv (.t 2), none, []⟩,
     ⟨some 17, .mv (.t 9), none, []⟩,
     ⟨some 18, .idxArr 4 1 (.t 3) (.t 17), none, [1]⟩,
     ⟨some 19, .load false 1 (.t 18), none, [2]⟩,
     ⟨some 20, .mv (.t 9), none, []⟩,
     ⟨some 21, .idxArr 4 1 (.t 4) (.t 20), none, [4]⟩,
     ⟨some 22, .load false 1 (.t 21), none, [5]⟩,
     ⟨some 23, .callv (.t 16) [(.t 19), (.t 22)], none, [0, 3, 6]⟩,
     ⟨some 15, .mv (.t 23), none, [7]⟩,
     ⟨some 24, .extract (.t 15) 0, none, [8]⟩,
     ⟨some 25, .extract (.t 15) 1, none, [8]⟩,
     ⟨some 10, .mv (.t 24), none, [9, 7, 0, 1, 2, 3, 4, 5, 6, 7, 8, 9]⟩,
     ⟨some 11, .mv (.t 25), none, [10, 11, 0, 1, 2, 3, 4, 5, 6, 7, 8, 9, 10, 11]⟩])
    (.seq (.seq (.ops [
     ⟨some 26, .mv (.t 11), none, []⟩,
     ⟨some 27, .not (.t 26), none, [0]⟩])
    (.cond (.t 27)
     (.seq (.ops [
       ⟨some 28, .build [(.pv (.int .u64 0)), (.pv (.int .u64 0)), (.pv (.int .u64 0)), (.pv (.int .u64 0))] [], none, []⟩,
       ⟨some 29, .mkI 0 (.c (.pv (.int .i64 8))), none, []⟩,
       ⟨none, .store 4 (.t 6) (.t 28), none, [0, 0]⟩,
       ⟨some 7, .mv (.t 29), none, [1, 2, 0, 1, 2]⟩])
      .ret)
     .skip))
    (.ops [
     ⟨some 30, .mv (.t 9), none, []⟩,
     ⟨some 31, .mv (.t 10), none, []⟩,
     ⟨some 32, .idxArr 4 1 (.t 8) (.t 30), none, [0, 0, 1]⟩,
     ⟨none, .store 1 (.t 32) (.t 31), none, [2, 1, 0, 1]⟩])))))
  (.ops [
   ⟨some 33, .bin .add none (.t 12) (.c (.pv (.int .i64 1))), none, []⟩,
   ⟨some 12, .mv (.t 33), none, [0]⟩]))))
/-- dunnage/vec.each -/
def f261 : AFunc := ⟨35, [.cell 6 true 4, .t 7],
 (.seq (.ops [
   ⟨some 3, .box (.t 0), none, []⟩,
   ⟨some 4, .box (.t 1), none, []⟩,
   ⟨some 6, .alloc [(.pv (.int .u64 0)), (.pv (.int .u64 0)), (.pv (.int .u64 0)), (.pv (.int .u64 0))], none, []⟩,
   ⟨some 7, .mv (.c (.pv .nili)), none, []⟩])
  (.seq (.ops [
   ⟨some 8, .alloc [(.pv (.int .u64 0)), (.pv (.int .u64 0)), (.pv (.int .u64 0)), (.pv (.int .u64 0))], none, []⟩])
  (.seq (.seq (.ops [
   ⟨some 12, .mv (.c (.pv (.int .i64 0))), none, []⟩])
  (.block 0
   (.loop f261l0)))
  (.seq (.ops [
   ⟨some 34, .load true 4 (.t 8), none, []⟩,
   ⟨none, .store 4 (.t 6) (.t 34), none, [0, 0]⟩,
   ⟨some 7, .mv (.c (.pv .nili)), none, [1, 0, 1]⟩])
  .ret))))⟩

/-- dunnage/dunnagelaw07.ApartLess -/
def f318 : AFunc := ⟨64, [.t 6],
 (.seq (.ops [
   ⟨some 3, .box (.t 0), none, []⟩,
   ⟨some 4, .box (.t 1), none, []⟩,
   ⟨some 6, .mv (.c (.pv (.bool false))), none, []⟩])
  (.seq (.ops [
   ⟨some 10, .call 324 [], none, []⟩,
   ⟨some 7, .mv (.t 10), none, [0, 0, 0]⟩])
  (.seq (.ops [
   ⟨some 11, .load true 3 (.t 3), none, []⟩,
   ⟨some 12, .build [.nils, (.pv (.int .i64 0)), (.pv (.int .i64 0))] [], none, []⟩,
   ⟨some 13, .load true 3 (.t 4), none, []⟩,
   ⟨some 14, .call 163 [(.t 11), (.t 12), (.t 13)], none, [0, 1, 2]⟩,
   ⟨some 8, .mv (.t 14), none, [3, 3, 0, 1, 2, 3]⟩])
  (.seq (.seq (.ops [
   ⟨some 15, .mv (.t 8), none, []⟩,
   ⟨some 16, .not (.t 15), none, [0]⟩,
   ⟨some 17, .mv (.t 16), none, [1]⟩,
   ⟨some 18, .mv (.t 2), some (17, false), [2]⟩,
   ⟨some 19, .bin .lss none (.t 18) (.c (.pv (.int .i64 0))), some (17, false), [3, 2]⟩,
   ⟨some 20, .pick (.t 17) (.c (.pv (.bool true))) (.t 19), none, [2, 4]⟩,
   ⟨some 21, .mv (.t 20), none, [5, 2]⟩,
   ⟨some 22, .mv (.t 2), some (21, false), [6]⟩,
   ⟨some 23, .fieldAddr 0 (.t 4), some (21, false), [6]⟩,
   ⟨some 24, .load false 1 (.t 23), some (21, false), [8, 6]⟩,
   ⟨some 25, .len (.t 24), some (21, false), [9, 6]⟩,
   ⟨some 26, .bin .geq none (.t 22) (.t 25), some (21, false), [7, 10, 6]⟩,
   ⟨some 27, .pick (.t 21) (.c (.pv (.bool true))) (.t 26), none, [6, 11]⟩])
  (.cond (.t 27)
   (.seq (.ops [
     ⟨some 28, .mv (.t 7), none, []⟩,
     ⟨some 6, .mv (.t 28), none, [0, 0]⟩])
    .ret)
   .skip))
  (.seq (.seq (.ops [
   ⟨some 29, .load true 3 (.t 3), none, []⟩,
   ⟨some 30, .load true 3 (.t 4), none, []⟩,
   ⟨some 31, .call 68 [(.t 29), (.t 30)], none, [0, 1]⟩,
   ⟨some 32, .bin .neq (some (.iface true)) (.t 31) (.c (.pv .nili)), none, [2]⟩])
  (.cond (.t 32)
   (.seq (.ops [
     ⟨some 33, .mv (.t 7), none, []⟩,
     ⟨some 6, .mv (.t 33), none, [0, 0]⟩])
    .ret)
   .skip))
  (.seq (.draw [
   ⟨some 34, .bslice 8 0 [] [], none, []⟩,
   ⟨some 35, .fieldAddr 0 (.t 4), none, []⟩,
   ⟨some 36, .load false 1 (.t 35), none, [1]⟩,
   ⟨some 37, .mv (.t 2), none, []⟩,
   ⟨some 38, .slice 8 (.t 36) none (some (.t 37)), none, [2, 3]⟩,
   ⟨some 39, .append 8 64 (.t 34) (.t 38), none, [0, 4]⟩,
   ⟨some 40, .fieldAddr 0 (.t 4), none, []⟩,
   ⟨some 41, .load false 1 (.t 40), none, [6]⟩,
   ⟨some 42, .mv (.t 2), none, []⟩,
   ⟨some 43, .bin .add none (.t 42) (.c (.pv (.int .i64 1))), none, [8]⟩,
   ⟨some 44, .slice 8 (.t 41) (some (.t 43)) none, none, [7, 9]⟩,
   ⟨some 45, .append 8 64 (.t 39) (.t 44), none, [5, 10, 5]⟩,
   ⟨some 46, .build [.nils, (.pv (.int .i64 0)), (.pv (.int .i64 0))] [(0, 1, (.t 45))], none, [11]⟩,
   ⟨some 9, .alloc [.nils, (.pv (.int .i64 0)), (.pv (.int .i64 0))], none, []⟩,
   ⟨none, .store 3 (.t 9) (.t 46), none, [13, 12, 11, 0, 1, 2, 3, 4, 5, 6, 7, 8, 9, 10, 11, 12, 13]⟩])
  (.seq (.draw [
   ⟨some 47, .mv (.t 7), none, []⟩,
   ⟨some 48, .mv (.t 47), none, [0]⟩,
   ⟨some 49, .load true 3 (.t 3), some (48, true), [1]⟩,
   ⟨some 50, .load true 3 (.t 9), some (48, true), [1]⟩,
   ⟨some 51, .call 68 [(.t 49), (.t 50)], some (48, true), [2, 3, 1, 1]⟩,
   ⟨some 52, .bin .eql (some (.iface true)) (.t 51) (.c (.pv .nili)), some (48, true), [4, 1]⟩,
   ⟨some 53, .pick (.t 48) (.t 52) (.c (.pv (.bool false))), none, [1, 5]⟩,
   ⟨some 54, .mv (.t 53), none, [6, 4]⟩,
   ⟨some 55, .load true 3 (.t 3), some (54, true), [7]⟩,
   ⟨some 56, .fieldAddr 0 (.t 4), some (54, true), [7]⟩,
   ⟨some 57, .load false 1 (.t 56), some (54, true), [9, 7]⟩,
   ⟨some 58, .mv (.t 2), some (54, true), [7]⟩,
   ⟨some 59, .slice 8 (.t 57) none (some (.t 58)), some (54, true), [10, 11, 7]⟩,
   ⟨some 60, .build [.nils, (.pv (.int .i64 0)), (.pv (.int .i64 0))] [(0, 1, (.t 59))], some (54, true), [12, 7]⟩,
   ⟨some 61, .call 68 [(.t 55), (.t 60)], some (54, true), [8, 13, 7, 7]⟩,
   ⟨some 62, .bin .eql (some (.iface true)) (.t 61) (.c (.pv .nili)), some (54, true), [14, 7]⟩,
   ⟨some 63, .pick (.t 54) (.t 62) (.c (.pv (.bool false))), none, [7, 15]⟩,
   ⟨some 6, .mv (.t 63), none, [16, 14, 0, 1, 2, 3, 4, 5, 6, 7, 8, 9, 10, 11, 12, 13, 14, 15, 16]⟩])
  .ret)))))))⟩

def f319l0 : ACode :=
 (.seq (.seq (.ops [
   ⟨some 19, .mv (.t 8), none, []⟩,
   ⟨some 20, .fieldAddr 0 (.t 3), none, []⟩,
   ⟨some 21, .load false 1 (.t 20), none, [1]⟩,
   ⟨some 22, .len (.t 21), none, [2]⟩,
   ⟨some 23, .bin .lss none (.t 19) (.t 22), none, [0, 3]⟩])
  (.cond (.t 23)
   .skip
   (.exit 0)))
  (.seq (.block 1
   (.seq (.draw [
     ⟨some 26, .mv (.t 8), none, []⟩,
     ⟨some 27, .bin .gtr none (.t 26) (.c (.pv (.int .i64 0))), none, [0]⟩,
     ⟨some 28, .mv (.t 27), none, [1]⟩,
     ⟨some 29, .fieldAddr 0 (.t 3), some (28, true), [2]⟩,
     ⟨some 30, .load false 1 (.t 29), some (28, true), [3, 2]⟩,
     ⟨some 31, .mv (.t 8), some (28, true), [2]⟩,
     ⟨some 32, .idxAddr 8 (.t 30) (.t 31), some (28, true), [4, 5, 2]⟩,
     ⟨some 33, .fieldAddr 0 (.t 32), some (28, true), [6, 2]⟩,
     ⟨some 34, .load false 1 (.t 33), some (28, true), [7, 2]⟩,
     ⟨some 35, .fieldAddr 0 (.t 3), some (28, true), [2]⟩,
     ⟨some 36, .load false 1 (.t 35), some (28, true), [9, 2]⟩,
     ⟨some 37, .mv (.t 8), some (28, true), [2]⟩,
     ⟨some 38, .bin .sub none (.t 37) (.c (.pv (.int .i64 1))), some (28, true), [11, 2]⟩,
     ⟨some 39, .idxAddr 8 (.t 36) (.t 38), some (28, true), [10, 12, 2]⟩,
     ⟨some 40, .fieldAddr 0 (.t 39), some (28, true), [13, 2]⟩,
     ⟨some 41, .load false 1 (.t 40), some (28, true), [14, 2]⟩,
     ⟨some 42, .bin .leq none (.t 34) (.t 41), some (28, true), [8, 15, 2]⟩,
     ⟨some 43, .pick (.t 28) (.t 42) (.c (.pv (.bool false))), none, [2, 16]⟩,
     ⟨some 44, .mv (.t 43), none, [17, 2]⟩,
     ⟨some 45, .fieldAddr 0 (.t 3), some (44, false), [18]⟩,
     ⟨some 46, .load false 1 (.t 45), some (44, false), [19, 18]⟩,
     ⟨some 47, .mv (.t 8), some (44, false), [18]⟩,
     ⟨some 48, .idxAddr 8 (.t 46) (.t 47), some (44, false), [20, 21, 18]⟩,
     ⟨some 49, .fieldAddr 0 (.t 48), some (44, false), [22, 18]⟩,
     ⟨some 50, .load false 1 (.t 49), some (44, false), [23, 18]⟩,
     ⟨some 51, .bin .lss none (.t 50) (.c (.pv (.int .i64 1))), some (44, false), [24, 18]⟩,
     ⟨some 52, .pick (.t 44) (.c (.pv (.bool true))) (.t 51), none, [18, 25]⟩])
    (.cond (.t 52)
     (.seq (.ops [
       ⟨some 53, .mv (.t 5), none, []⟩,
       ⟨some 4, .mv (.t 53), none, [0, 0]⟩])
      .ret)
     .skip)))
  (.ops [
   ⟨some 24, .mv (.t 8), none, []⟩,
   ⟨some 25, .bin .add none (.t 24) (.c (.pv (.int .i64 1))), none, [0]⟩,
   ⟨some 8, .mv (.t 25), none, [1, 0, 1]⟩])))
def f319l1 : ACode :=
 (.seq (.seq (.ops [
   ⟨some 54, .mv (.t 9), none, []⟩,
   ⟨some 55, .fieldAddr 0 (.t 3), none, []⟩,
   ⟨some 56, .load false 1 (.t 55), none, [1]⟩,
   ⟨some 57, .len (.t 56), none, [2]⟩,
   ⟨some 58, .bin .lss none (.t 54) (.t 57), none, [0, 3]⟩])
  (.cond (.t 58)
   .skip
   (.exit 2)))
  (.seq (.block 3
   (.seq (.draw [
     ⟨some 61, .load true 3 (.t 2), none, []⟩,
     ⟨some 62, .load true 3 (.t 3), none, []⟩,
     ⟨some 63, .fieldAddr 0 (.t 3), none, []⟩,
     ⟨some 64, .load false 1 (.t 63), none, [2]⟩,
     ⟨some 65, .mv (.t 9), none, []⟩,
     ⟨some 66, .idxAddr 8 (.t 64) (.t 65), none, [3, 4]⟩,
     ⟨some 67, .fieldAddr 0 (.t 66), none, [5]⟩,
     ⟨some 68, .load false 1 (.t 67), none, [6]⟩,
     ⟨some 69, .call 325 [(.t 61), (.t 62), (.t 68)], none, [0, 1, 7]⟩,
     ⟨some 10, .mv (.t 69), none, [8, 8, 0, 1, 2, 3, 4, 5, 6, 7, 8]⟩])
    (.seq (.seq (.ops [
     ⟨some 70, .mv (.t 10), none, []⟩,
     ⟨some 71, .bin .neq none (.t 70) (.c (.pv (.int .i64 0))), none, [0]⟩,
     ⟨some 72, .mv (.t 71), none, [1]⟩,
     ⟨some 73, .mv (.t 10), some (72, true), [2]⟩,
     ⟨some 74, .fieldAddr 0 (.t 3), some (72, true), [2]⟩,
     ⟨some 75, .load false 1 (.t 74), some (72, true), [4, 2]⟩,
     ⟨some 76, .mv (.t 9), some (72, true), [2]⟩,
     ⟨some 77, .idxAddr 8 (.t 75) (.t 76), some (72, true), [5, 6, 2]⟩,
     ⟨some 78, .fieldAddr 0 (.t 77), some (72, true), [7, 2]⟩,
     ⟨some 79, .load false 1 (.t 78), some (72, true), [8, 2]⟩,
     ⟨some 80, .bin .eql none (.t 73) (.t 79), some (72, true), [3, 9, 2]⟩,
     ⟨some 81, .mv (.t 80), some (72, true), [10, 2, 2]⟩,
     ⟨some 82, .load true 3 (.t 2), some (81, false), [11]⟩,
     ⟨some 83, .load true 3 (.t 3), some (81, false), [11]⟩,
     ⟨some 84, .mv (.t 10), some (81, false), [11]⟩,
     ⟨some 85, .call 325 [(.t 82), (.t 83), (.t 84)], some (81, false), [12, 13, 14, 11, 11]⟩,
     ⟨some 86, .bin .eql none (.t 85) (.c (.pv (.int .i64 0))), some (81, false), [15, 11]⟩,
     ⟨some 87, .pick (.t 81) (.c (.pv (.bool true))) (.t 86), some (72, true), [11, 16, 2]⟩,
     ⟨some 88, .pick (.t 72) (.t 87) (.c (.pv (.bool false))), none, [2, 17]⟩])
    (.cond (.t 88)
     (.seq (.ops [
       ⟨some 4, .mv (.c (.pv (.bool false))), none, []⟩])
      .ret)
     .skip))
    (.ops [
     ⟨some 89, .mv (.t 7), none, []⟩,
     ⟨some 90, .mv (.t 89), none, [0]⟩,
     ⟨some 91, .mv (.t 10), some (90, false), [1]⟩,
     ⟨some 92, .bin .neq none (.t 91) (.c (.pv (.int .i64 0))), some (90, false), [2, 1]⟩,
     ⟨some 93, .pick (.t 90) (.c (.pv (.bool true))) (.t 92), none, [1, 3]⟩,
     ⟨some 7, .mv (.t 93), none, [4, 1, 0, 1, 2, 3, 4]⟩]))))
  (.ops [
   ⟨some 59, .mv (.t 9), none, []⟩,
   ⟨some 60, .bin .add none (.t 59) (.c (.pv (.int .i64 1))), none, [0]⟩,
   ⟨some 9, .mv (.t 60), none, [1, 0, 1]⟩])))
/-- dunnage/dunnagelaw07.ApartBoth -/
def f319 : AFunc := ⟨103, [.t 4],
 (.seq (.ops [
   ⟨some 2, .box (.t 0), none, []⟩,
   ⟨some 3, .box (.t 1), none, []⟩,
   ⟨some 4, .mv (.c (.pv (.bool false))), none, []⟩])
  (.seq (.ops [
   ⟨some 11, .call 324 [], none, []⟩,
   ⟨some 5, .mv (.t 11), none, [0, 0, 0]⟩])
  (.seq (.ops [
   ⟨some 12, .load true 3 (.t 2), none, []⟩,
   ⟨some 13, .build [.nils, (.pv (.int .i64 0)), (.pv (.int .i64 0))] [], none, []⟩,
   ⟨some 14, .load true 3 (.t 3), none, []⟩,
   ⟨some 15, .call 163 [(.t 12), (.t 13), (.t 14)], none, [0, 1, 2]⟩,
   ⟨some 6, .mv (.t 15), none, [3, 3, 0, 1, 2, 3]⟩])
  (.seq (.seq (.ops [
   ⟨some 16, .mv (.t 6), none, []⟩,
   ⟨some 17, .not (.t 16), none, [0]⟩])
  (.cond (.t 17)
   (.seq (.ops [
     ⟨some 18, .mv (.t 5), none, []⟩,
     ⟨some 4, .mv (.t 18), none, [0, 0]⟩])
    .ret)
   .skip))
  (.seq (.ops [
   ⟨some 7, .mv (.c (.pv (.bool false))), none, []⟩])
  (.seq (.seq (.ops [
   ⟨some 8, .mv (.c (.pv (.int .i64 0))), none, []⟩])
  (.block 0
   (.loop f319l0)))
  (.seq (.seq (.ops [
   ⟨some 9, .mv (.c (.pv (.int .i64 0))), none, []⟩])
  (.block 2
   (.loop f319l1)))
  (.seq (.ops [
   ⟨some 94, .mv (.t 5), none, []⟩,
   ⟨some 95, .mv (.t 94), none, [0]⟩,
   ⟨some 96, .mv (.t 7), some (95, true), [1]⟩,
   ⟨some 97, .load true 3 (.t 2), some (95, true), [1]⟩,
   ⟨some 98, .load true 3 (.t 3), some (95, true), [1]⟩,
   ⟨some 99, .call 68 [(.t 97), (.t 98)], some (95, true), [3, 4, 1, 1]⟩,
   ⟨some 100, .bin .neq (some (.iface true)) (.t 99) (.c (.pv .nili)), some (95, true), [5, 1]⟩,
   ⟨some 101, .bin .eql (some .bool) (.t 96) (.t 100), some (95, true), [2, 6, 1]⟩,
   ⟨some 102, .pick (.t 95) (.t 101) (.c (.pv (.bool false))), none, [1, 7]⟩,
   ⟨some 4, .mv (.t 102), none, [8, 5, 0, 1, 2, 3, 4, 5, 6, 7, 8]⟩])
  .ret))))))))⟩

/-- dunnage/dunnagelaw06.RoomTells -/
def f320 : AFunc := ⟨98, [.t 6],
 (.seq (.ops [
   ⟨some 3, .box (.t 0), none, []⟩,
   ⟨some 4, .box (.t 1), none, []⟩,
   ⟨some 6, .mv (.c (.pv (.bool false))), none, []⟩])
  (.seq (.ops [
   ⟨some 19, .call 326 [], none, []⟩,
   ⟨some 7, .mv (.t 19), none, [0, 0, 0]⟩])
  (.seq (.ops [
   ⟨some 20, .load true 3 (.t 3), none, []⟩,
   ⟨some 21, .build [.nils, (.pv (.int .i64 0)), (.pv (.int .i64 0))] [], none, []⟩,
   ⟨some 22, .load true 3 (.t 4), none, []⟩,
   ⟨some 23, .call 163 [(.t 20), (.t 21), (.t 22)], none, [0, 1, 2]⟩,
   ⟨some 8, .mv (.t 23), none, [3, 3, 0, 1, 2, 3]⟩])
  (.seq (.seq (.ops [
   ⟨some 24, .mv (.t 8), none, []⟩,
   ⟨some 25, .not (.t 24), none, [0]⟩])
  (.cond (.t 25)
   (.seq (.ops [
     ⟨some 26, .mv (.t 7), none, []⟩,
     ⟨some 6, .mv (.t 26), none, [0, 0]⟩])
    .ret)
   .skip))
  (.seq (.ops [
   ⟨some 28, .load true 3 (.t 4), none, []⟩,
   ⟨some 29, .mv (.t 2), none, []⟩,
   ⟨some 30, .call 221 [(.t 28), (.t 29)], none, [0, 1]⟩,
   ⟨some 27, .mv (.t 30), none, [2]⟩,
   ⟨some 31, .extract (.t 27) 0, none, [3]⟩,
   ⟨some 32, .extract (.t 27) 1, none, [3]⟩,
   ⟨some 9, .alloc [(.pv (.int .u64 0)), (.pv (.int .u64 0)), (.pv (.int .u64 0)), (.pv (.int .u64 0))], none, []⟩,
   ⟨none, .store 4 (.t 9) (.t 31), none, [6, 4, 2, 0, 1, 2, 3, 4, 6]⟩,
   ⟨some 10, .mv (.t 32), none, [5, 7, 0, 1, 2, 3, 4, 5, 6, 7]⟩])
  (.seq (.ops [
   ⟨some 34, .load true 3 (.t 3), none, []⟩,
   ⟨some 35, .load true 3 (.t 4), none, []⟩,
   ⟨some 36, .mv (.t 2), none, []⟩,
   ⟨some 37, .call 220 [(.t 34), (.t 35), (.t 36)], none, [0, 1, 2]⟩,
   ⟨some 33, .mv (.t 37), none, [3]⟩,
   ⟨some 38, .extract (.t 33) 0, none, [4]⟩,
   ⟨some 39, .extract (.t 33) 1, none, [4]⟩,
   ⟨some 11, .alloc [(.pv (.int .u64 0)), (.pv (.int .u64 0)), (.pv (.int .u64 0)), (.pv (.int .u64 0))], none, []⟩,
   ⟨none, .store 4 (.t 11) (.t 38), none, [7, 5, 3, 0, 1, 2, 3, 4, 5, 7]⟩,
   ⟨some 12, .mv (.t 39), none, [6, 8, 0, 1, 2, 3, 4, 5, 6, 7, 8]⟩])
  (.seq (.ops [
   ⟨some 41, .load true 3 (.t 4), none, []⟩,
   ⟨some 42, .mv (.t 2), none, []⟩,
   ⟨some 43, .call 171 [(.t 41), (.t 42)], none, [0, 1]⟩,
   ⟨some 40, .mv (.t 43), none, [2]⟩,
   ⟨some 44, .extract (.t 40) 0, none, [3]⟩,
   ⟨some 45, .extract (.t 40) 1, none, [3]⟩,
   ⟨some 13, .alloc [(.pv (.int .u64 0)), (.pv (.int .u64 0)), (.pv (.int .u64 0)), (.pv (.int .u64 0))], none, []⟩,
   ⟨none, .store 4 (.t 13) (.t 44), none, [6, 4, 2, 0, 1, 2, 3, 4, 6]⟩,
   ⟨some 14, .mv (.t 45), none, [5, 7, 0, 1, 2, 3, 4, 5, 6, 7]⟩])
  (.seq (.ops [
   ⟨some 47, .load true 3 (.t 3), none, []⟩,
   ⟨some 48, .load true 3 (.t 4), none, []⟩,
   ⟨some 49, .mv (.t 2), none, []⟩,
   ⟨some 50, .call 170 [(.t 47), (.t 48), (.t 49)], none, [0, 1, 2]⟩,
   ⟨some 46, .mv (.t 50), none, [3]⟩,
   ⟨some 51, .extract (.t 46) 0, none, [4]⟩,
   ⟨some 52, .extract (.t 46) 1, none, [4]⟩,
   ⟨some 15, .alloc [(.pv (.int .u64 0)), (.pv (.int .u64 0)), (.pv (.int .u64 0)), (.pv (.int .u64 0))], none, []⟩,
   ⟨none, .store 4 (.t 15) (.t 51), none, [7, 5, 3, 0, 1, 2, 3, 4, 5, 7]⟩,
   ⟨some 16, .mv (.t 52), none, [6, 8, 0, 1, 2, 3, 4, 5, 6, 7, 8]⟩])
  (.seq (.ops [
   ⟨some 54, .load true 3 (.t 3), none, []⟩,
   ⟨some 55, .load true 3 (.t 4), none, []⟩,
   ⟨some 56, .call 169 [(.t 54), (.t 55)], none, [0, 1]⟩,
   ⟨some 53, .mv (.t 56), none, [2]⟩,
   ⟨some 57, .extract (.t 53) 0, none, [3]⟩,
   ⟨some 58, .extract (.t 53) 1, none, [3]⟩,
   ⟨some 17, .mv (.t 57), none, [4, 2, 0, 1, 2, 3, 4]⟩,
   ⟨some 18, .mv (.t 58), none, [5, 6, 0, 1, 2, 3, 4, 5, 6]⟩])
  (.seq (.seq (.ops [
   ⟨some 59, .mv (.t 14), none, []⟩,
   ⟨some 60, .mv (.t 59), none, [0]⟩,
   ⟨some 61, .mv (.t 10), some (60, true), [1]⟩,
   ⟨some 62, .bin .neq (some (.iface true)) (.t 61) (.c (.pv .nili)), some (60, true), [2, 1]⟩,
   ⟨some 63, .pick (.t 60) (.t 62) (.c (.pv (.bool false))), none, [1, 3]⟩,
   ⟨some 64, .mv (.t 63), none, [4, 1]⟩,
   ⟨some 65, .mv (.t 14), some (64, false), [5]⟩,
   ⟨some 66, .not (.t 65), some (64, false), [6, 5]⟩,
   ⟨some 67, .mv (.t 66), some (64, false), [7, 5, 5]⟩,
   ⟨some 68, .mv (.t 10), some (67, true), [8]⟩,
   ⟨some 69, .mkI 0 (.c (.pv (.int .i64 8))), some (67, true), [8]⟩,
   ⟨some 70, .bin .neq (some (.iface true)) (.t 68) (.t 69), some (67, true), [9, 10, 8]⟩,
   ⟨some 71, .pick (.t 67) (.t 70) (.c (.pv (.bool false))), some (64, false), [8, 11, 5]⟩,
   ⟨some 72, .pick (.t 64) (.c (.pv (.bool true))) (.t 71), none, [5, 12]⟩,
   ⟨some 73, .mv (.t 72), none, [13, 8]⟩,
   ⟨some 74, .load true 4 (.t 9), some (73, false), [14]⟩,
   ⟨some 75, .load true 4 (.t 13), some (73, false), [14]⟩,
   ⟨some 76, .bin .neq (some (.plain [false, false, false, false])) (.t 74) (.t 75), some (73, false), [15, 16, 14]⟩,
   ⟨some 77, .pick (.t 73) (.c (.pv (.bool true))) (.t 76), none, [14, 17]⟩])
  (.cond (.t 77)
   (.seq (.ops [
     ⟨some 6, .mv (.c (.pv (.bool false))), none, []⟩])
    .ret)
   .skip))
  (.seq (.ops [
   ⟨some 78, .mv (.t 7), none, []⟩,
   ⟨some 79, .mv (.t 78), none, [0]⟩,
   ⟨some 80, .mv (.t 12), some (79, true), [1]⟩,
   ⟨some 81, .call 102 [(.t 80)], some (79, true), [2, 1, 1]⟩,
   ⟨some 82, .mv (.t 16), some (79, true), [1]⟩,
   ⟨some 83, .bin .eql none (.t 81) (.t 82), some (79, true), [3, 4, 1]⟩,
   ⟨some 84, .pick (.t 79) (.t 83) (.c (.pv (.bool false))), none, [1, 5]⟩,
   ⟨some 85, .mv (.t 84), none, [6, 3]⟩,
   ⟨some 86, .load true 4 (.t 11), some (85, true), [7]⟩,
   ⟨some 87, .load true 4 (.t 15), some (85, true), [7]⟩,
   ⟨some 88, .bin .eql (some (.plain [false, false, false, false])) (.t 86) (.t 87), some (85, true), [8, 9, 7]⟩,
   ⟨some 89, .pick (.t 85) (.t 88) (.c (.pv (.bool false))), none, [7, 10]⟩,
   ⟨some 90, .mv (.t 89), none, [11, 7]⟩,
   ⟨some 91, .load true 3 (.t 3), some (90, true), [12]⟩,
   ⟨some 92, .load true 3 (.t 4), some (90, true), [12]⟩,
   ⟨some 93, .call 219 [(.t 91), (.t 92)], some (90, true), [13, 14, 12, 12]⟩,
   ⟨some 94, .mv (.t 17), some (90, true), [12]⟩,
   ⟨some 95, .mv (.t 18), some (90, true), [12]⟩,
   ⟨some 96, .call 105 [(.t 93), (.t 94), (.t 95)], some (90, true), [15, 16, 17, 15, 12]⟩,
   ⟨some 97, .pick (.t 90) (.t 96) (.c (.pv (.bool false))), none, [12, 18]⟩,
   ⟨some 6, .mv (.t 97), none, [19, 18, 0, 1, 2, 3, 4, 5, 6, 7, 8, 9, 10, 11, 12, 13, 14, 15, 16, 17, 18, 19]⟩])
  .ret)))))))))))⟩

def f321l0 : ACode :=
 (.seq (.seq (.ops [
   ⟨some 64, .mv (.t 15), none, []⟩,
   ⟨some 65, .mv (.t 7), none, []⟩,
   ⟨some 66, .bin .lss none (.t 64) (.t 65), none, [0, 1]⟩])
  (.cond (.t 66)
   .skip
   (.exit 2)))
  (.seq (.block 3
   (.draw [
     ⟨some 69, .mv (.t 14), none, []⟩,
     ⟨some 70, .mv (.t 69), none, [0]⟩,
     ⟨some 71, .fieldAddr 0 (.t 2), some (70, true), [1]⟩,
     ⟨some 72, .load false 1 (.t 71), some (70, true), [2, 1]⟩,
     ⟨some 73, .mv (.t 15), some (70, true), [1]⟩,
     ⟨some 74, .idxAddr 10 (.t 72) (.t 73), some (70, true), [3, 4, 1]⟩,
     ⟨some 75, .fieldAddr 0 (.t 74), some (70, true), [5, 1]⟩,
     ⟨some 76, .load false 1 (.t 75), some (70, true), [6, 1]⟩,
     ⟨some 77, .fieldAddr 0 (.t 2), some (70, true), [1]⟩,
     ⟨some 78, .load false 1 (.t 77), some (70, true), [8, 1]⟩,
     ⟨some 79, .mv (.t 7), some (70, true), [1]⟩,
     ⟨some 80, .idxAddr 10 (.t 78) (.t 79), some (70, true), [9, 10, 1]⟩,
     ⟨some 81, .fieldAddr 0 (.t 80), some (70, true), [11, 1]⟩,
     ⟨some 82, .load false 1 (.t 81), some (70, true), [12, 1]⟩,
     ⟨some 83, .bin .neq none (.t 76) (.t 82), some (70, true), [7, 13, 1]⟩,
     ⟨some 84, .pick (.t 70) (.t 83) (.c (.pv (.bool false))), none, [1, 14]⟩,
     ⟨some 14, .mv (.t 84), none, [15, 1, 0, 1, 2, 3, 4, 5, 6, 7, 8, 9, 10, 11, 12, 13, 14, 15]⟩]))
  (.ops [
   ⟨some 67, .mv (.t 15), none, []⟩,
   ⟨some 68, .bin .add none (.t 67) (.c (.pv (.int .i64 1))), none, [0]⟩,
   ⟨some 15, .mv (.t 68), none, [1, 0, 1]⟩])))
def f321l1 : ACode :=
 (.seq (.seq (.ops [
   ⟨some 26, .mv (.t 7), none, []⟩,
   ⟨some 27, .fieldAddr 0 (.t 2), none, []⟩,
   ⟨some 28, .load false 1 (.t 27), none, [1]⟩,
   ⟨some 29, .len (.t 28), none, [2]⟩,
   ⟨some 30, .bin .lss none (.t 26) (.t 29), none, [0, 3]⟩])
  (.cond (.t 30)
   .skip
   (.exit 0)))
  (.seq (.block 1
   (.seq (.draw [
     ⟨some 34, .load true 3 (.t 2), none, []⟩,
     ⟨some 35, .load true 3 (.t 3), none, []⟩,
     ⟨some 36, .fieldAddr 0 (.t 2), none, []⟩,
     ⟨some 37, .load false 1 (.t 36), none, [2]⟩,
     ⟨some 38, .mv (.t 7), none, []⟩,
     ⟨some 39, .idxAddr 10 (.t 37) (.t 38), none, [3, 4]⟩,
     ⟨some 40, .fieldAddr 0 (.t 39), none, [5]⟩,
     ⟨some 41, .load false 1 (.t 40), none, [6]⟩,
     ⟨some 42, .call 220 [(.t 34), (.t 35), (.t 41)], none, [0, 1, 7]⟩,
     ⟨some 33, .mv (.t 42), none, [8]⟩,
     ⟨some 43, .extract (.t 33) 0, none, [9]⟩,
     ⟨some 44, .extract (.t 33) 1, none, [9]⟩,
     ⟨some 8, .alloc [(.pv (.int .u64 0)), (.pv (.int .u64 0)), (.pv (.int .u64 0)), (.pv (.int .u64 0))], none, []⟩,
     ⟨none, .store 4 (.t 8) (.t 43), none, [12, 10, 8, 0, 1, 2, 3, 4, 5, 6, 7, 8, 9, 10, 12]⟩,
     ⟨some 9, .mv (.t 44), none, [11, 13, 0, 1, 2, 3, 4, 5, 6, 7, 8, 9, 10, 11, 12, 13]⟩])
    (.seq (.seq (.ops [
     ⟨some 45, .mv (.t 9), none, []⟩,
     ⟨some 46, .bin .neq (some (.iface true)) (.t 45) (.c (.pv .nili)), none, [0]⟩])
    (.cond (.t 46)
     (.exit 1)
     .skip))
    (.seq (.draw [
     ⟨some 48, .load true 3 (.t 3), none, []⟩,
     ⟨some 49, .fieldAddr 0 (.t 2), none, []⟩,
     ⟨some 50, .load false 1 (.t 49), none, [1]⟩,
     ⟨some 51, .mv (.t 7), none, []⟩,
     ⟨some 52, .idxAddr 10 (.t 50) (.t 51), none, [2, 3]⟩,
     ⟨some 53, .fieldAddr 0 (.t 52), none, [4]⟩,
     ⟨some 54, .load false 1 (.t 53), none, [5]⟩,
     ⟨some 55, .call 221 [(.t 48), (.t 54)], none, [0, 6]⟩,
     ⟨some 47, .mv (.t 55), none, [7]⟩,
     ⟨some 56, .extract (.t 47) 0, none, [8]⟩,
     ⟨some 57, .extract (.t 47) 1, none, [8]⟩,
     ⟨some 10, .alloc [(.pv (.int .u64 0)), (.pv (.int .u64 0)), (.pv (.int .u64 0)), (.pv (.int .u64 0))], none, []⟩,
     ⟨none, .store 4 (.t 10) (.t 56), none, [11, 9, 7, 0, 1, 2, 3, 4, 5, 6, 7, 8, 9, 11]⟩,
     ⟨some 11, .mv (.t 57), none, [10, 12, 0, 1, 2, 3, 4, 5, 6, 7, 8, 9, 10, 11, 12]⟩])
    (.seq (.ops [
     ⟨some 59, .load true 4 (.t 8), none, []⟩,
     ⟨some 60, .load true 4 (.t 10), none, []⟩,
     ⟨some 61, .call 255 [(.t 59), (.t 60)], none, [0, 1]⟩,
     ⟨some 58, .mv (.t 61), none, [2]⟩,
     ⟨some 62, .extract (.t 58) 0, none, [3]⟩,
     ⟨some 63, .extract (.t 58) 1, none, [3]⟩,
     ⟨some 12, .alloc [(.pv (.int .u64 0)), (.pv (.int .u64 0)), (.pv (.int .u64 0)), (.pv (.int .u64 0))], none, []⟩,
     ⟨none, .store 4 (.t 12) (.t 62), none, [6, 4, 2, 0, 1, 2, 3, 4, 6]⟩,
     ⟨some 13, .mv (.t 63), none, [5, 7, 0, 1, 2, 3, 4, 5, 6, 7]⟩])
    (.seq (.ops [
     ⟨some 14, .mv (.c (.pv (.bool true))), none, []⟩])
    (.seq (.seq (.ops [
     ⟨some 15, .mv (.c (.pv (.int .i64 0))), none, []⟩])
    (.block 2
     (.loop f321l0)))
    (.seq (.draw [
     ⟨some 86, .load true 4 (.t 12), none, []⟩,
     ⟨some 87, .fieldAddr 0 (.t 2), none, []⟩,
     ⟨some 88, .load false 1 (.t 87), none, [1]⟩,
     ⟨some 89, .mv (.t 7), none, []⟩,
     ⟨some 90, .idxAddr 10 (.t 88) (.t 89), none, [2, 3]⟩,
     ⟨some 91, .fieldAddr 6 (.t 90), none, [4]⟩,
     ⟨some 92, .load true 4 (.t 91), none, [5]⟩,
     ⟨some 93, .call 255 [(.t 86), (.t 92)], none, [0, 6]⟩,
     ⟨some 85, .mv (.t 93), none, [7]⟩,
     ⟨some 94, .extract (.t 85) 0, none, [8]⟩,
     ⟨some 95, .extract (.t 85) 1, none, [8]⟩,
     ⟨some 16, .alloc [(.pv (.int .u64 0)), (.pv (.int .u64 0)), (.pv (.int .u64 0)), (.pv (.int .u64 0))], none, []⟩,
     ⟨none, .store 4 (.t 16) (.t 94), none, [11, 9, 7, 0, 1, 2, 3, 4, 5, 6, 7, 8, 9, 11]⟩,
     ⟨some 17, .mv (.t 95), none, [10, 12, 0, 1, 2, 3, 4, 5, 6, 7, 8, 9, 10, 11, 12]⟩])
    (.seq (.draw [
     ⟨some 96, .mv (.t 11), none, []⟩,
     ⟨some 97, .bin .neq (some (.iface true)) (.t 96) (.c (.pv .nili)), none, [0]⟩,
     ⟨some 98, .mv (.t 97), none, [1]⟩,
     ⟨some 99, .mv (.t 13), some (98, false), [2]⟩,
     ⟨some 100, .bin .neq (some (.iface true)) (.t 99) (.c (.pv .nili)), some (98, false), [3, 2]⟩,
     ⟨some 101, .pick (.t 98) (.c (.pv (.bool true))) (.t 100), none, [2, 4]⟩,
     ⟨some 102, .mv (.t 101), none, [5, 2]⟩,
     ⟨some 103, .mv (.t 14), some (102, false), [6]⟩,
     ⟨some 104, .mv (.t 103), some (102, false), [7, 6, 6]⟩,
     ⟨some 105, .mv (.t 17), some (104, true), [8]⟩,
     ⟨some 106, .bin .neq (some (.iface true)) (.t 105) (.c (.pv .nili)), some (104, true), [9, 8]⟩,
     ⟨some 107, .mv (.t 106), some (104, true), [10, 8, 8]⟩,
     ⟨some 108, .load true 4 (.t 16), some (107, false), [11]⟩,
     ⟨some 109, .fieldAddr 0 (.t 2), some (107, false), [11]⟩,
     ⟨some 110, .load false 1 (.t 109), some (107, false), [13, 11]⟩,
     ⟨some 111, .mv (.t 7), some (107, false), [11]⟩,
     ⟨some 112, .idxAddr 10 (.t 110) (.t 111), some (107, false), [14, 15, 11]⟩,
     ⟨some 113, .fieldAddr 2 (.t 112), some (107, false), [16, 11]⟩,
     ⟨some 114, .load true 4 (.t 113), some (107, false), [17, 11]⟩,
     ⟨some 115, .bin .neq (some (.plain [false, false, false, false])) (.t 108) (.t 114), some (107, false), [12, 18, 11]⟩,
     ⟨some 116, .pick (.t 107) (.c (.pv (.bool true))) (.t 115), some (104, true), [11, 19, 8]⟩,
     ⟨some 117, .pick (.t 104) (.t 116) (.c (.pv (.bool false))), some (102, false), [8, 20, 6]⟩,
     ⟨some 118, .pick (.t 102) (.c (.pv (.bool true))) (.t 117), none, [6, 21]⟩])
    (.cond (.t 118)
     (.seq (.ops [
       ⟨some 4, .mv (.c (.pv (.bool false))), none, []⟩])
      .ret)
     .skip))))))))))
  (.ops [
   ⟨some 31, .mv (.t 7), none, []⟩,
   ⟨some 32, .bin .add none (.t 31) (.c (.pv (.int .i64 1))), none, [0]⟩,
   ⟨some 7, .mv (.t 32), none, [1, 0, 1]⟩])))
/-- dunnage/dunnagelaw06.RoomWhole -/
def f321 : AFunc := ⟨120, [.t 4],
 (.seq (.ops [
   ⟨some 2, .box (.t 0), none, []⟩,
   ⟨some 3, .box (.t 1), none, []⟩,
   ⟨some 4, .mv (.c (.pv (.bool false))), none, []⟩])
  (.seq (.ops [
   ⟨some 18, .call 326 [], none, []⟩,
   ⟨some 5, .mv (.t 18), none, [0, 0, 0]⟩])
  (.seq (.ops [
   ⟨some 19, .load true 3 (.t 2), none, []⟩,
   ⟨some 20, .build [.nils, (.pv (.int .i64 0)), (.pv (.int .i64 0))] [], none, []⟩,
   ⟨some 21, .load true 3 (.t 3), none, []⟩,
   ⟨some 22, .call 163 [(.t 19), (.t 20), (.t 21)], none, [0, 1, 2]⟩,
   ⟨some 6, .mv (.t 22), none, [3, 3, 0, 1, 2, 3]⟩])
  (.seq (.seq (.ops [
   ⟨some 23, .mv (.t 6), none, []⟩,
   ⟨some 24, .not (.t 23), none, [0]⟩])
  (.cond (.t 24)
   (.seq (.ops [
     ⟨some 25, .mv (.t 5), none, []⟩,
     ⟨some 4, .mv (.t 25), none, [0, 0]⟩])
    .ret)
   .skip))
  (.seq (.seq (.ops [
   ⟨some 7, .mv (.c (.pv (.int .i64 0))), none, []⟩])
  (.block 0
   (.loop f321l1)))
  (.seq (.ops [
   ⟨some 119, .mv (.t 5), none, []⟩,
   ⟨some 4, .mv (.t 119), none, [0, 0]⟩])
  .ret))))))⟩

/-- dunnage/dunnagelaw06.RoomLess -/
def f322 : AFunc := ⟨55, [.t 6],
 (.seq (.ops [
   ⟨some 3, .box (.t 0), none, []⟩,
   ⟨some 4, .box (.t 1), none, []⟩,
   ⟨some 6, .mv (.c (.pv (.bool false))), none, []⟩])
  (.seq (.ops [
   ⟨some 10, .call 326 [], none, []⟩,
   ⟨some 7, .mv (.t 10), none, [0, 0, 0]⟩])
  (.seq (.ops [
   ⟨some 11, .load true 3 (.t 3), none, []⟩,
   ⟨some 12, .build [.nils, (.pv (.int .i64 0)), (.pv (.int .i64 0))] [], none, []⟩,
   ⟨some 13, .load true 3 (.t 4), none, []⟩,
   ⟨some 14, .call 163 [(.t 11), (.t 12), (.t 13)], none, [0, 1, 2]⟩,
   ⟨some 8, .mv (.t 14), none, [3, 3, 0, 1, 2, 3]⟩])
  (.seq (.seq (.ops [
   ⟨some 15, .mv (.t 8), none, []⟩,
   ⟨some 16, .not (.t 15), none, [0]⟩,
   ⟨some 17, .mv (.t 16), none, [1]⟩,
   ⟨some 18, .mv (.t 2), some (17, false), [2]⟩,
   ⟨some 19, .bin .lss none (.t 18) (.c (.pv (.int .i64 0))), some (17, false), [3, 2]⟩,
   ⟨some 20, .pick (.t 17) (.c (.pv (.bool true))) (.t 19), none, [2, 4]⟩,
   ⟨some 21, .mv (.t 20), none, [5, 2]⟩,
   ⟨some 22, .mv (.t 2), some (21, false), [6]⟩,
   ⟨some 23, .fieldAddr 0 (.t 4), some (21, false), [6]⟩,
   ⟨some 24, .load false 1 (.t 23), some (21, false), [8, 6]⟩,
   ⟨some 25, .len (.t 24), some (21, false), [9, 6]⟩,
   ⟨some 26, .bin .geq none (.t 22) (.t 25), some (21, false), [7, 10, 6]⟩,
   ⟨some 27, .pick (.t 21) (.c (.pv (.bool true))) (.t 26), none, [6, 11]⟩,
   ⟨some 28, .mv (.t 27), none, [12, 6]⟩,
   ⟨some 29, .load true 3 (.t 3), some (28, false), [13]⟩,
   ⟨some 30, .load true 3 (.t 4), some (28, false), [13]⟩,
   ⟨some 31, .call 219 [(.t 29), (.t 30)], some (28, false), [14, 15, 13, 13]⟩,
   ⟨some 32, .bin .neq (some (.iface true)) (.t 31) (.c (.pv .nili)), some (28, false), [16, 13]⟩,
   ⟨some 33, .pick (.t 28) (.c (.pv (.bool true))) (.t 32), none, [13, 17]⟩])
  (.cond (.t 33)
   (.seq (.ops [
     ⟨some 34, .mv (.t 7), none, []⟩,
     ⟨some 6, .mv (.t 34), none, [0, 0]⟩])
    .ret)
   .skip))
  (.seq (.draw [
   ⟨some 35, .bslice 8 0 [] [], none, []⟩,
   ⟨some 36, .fieldAddr 0 (.t 4), none, []⟩,
   ⟨some 37, .load false 1 (.t 36), none, [1]⟩,
   ⟨some 38, .mv (.t 2), none, []⟩,
   ⟨some 39, .slice 8 (.t 37) none (some (.t 38)), none, [2, 3]⟩,
   ⟨some 40, .append 8 64 (.t 35) (.t 39), none, [0, 4]⟩,
   ⟨some 41, .fieldAddr 0 (.t 4), none, []⟩,
   ⟨some 42, .load false 1 (.t 41), none, [6]⟩,
   ⟨some 43, .mv (.t 2), none, []⟩,
   ⟨some 44, .bin .add none (.t 43) (.c (.pv (.int .i64 1))), none, [8]⟩,
   ⟨some 45, .slice 8 (.t 42) (some (.t 44)) none, none, [7, 9]⟩,
   ⟨some 46, .append 8 64 (.t 40) (.t 45), none, [5, 10, 5]⟩,
   ⟨some 47, .build [.nils, (.pv (.int .i64 0)), (.pv (.int .i64 0))] [(0, 1, (.t 46))], none, [11]⟩,
   ⟨some 9, .alloc [.nils, (.pv (.int .i64 0)), (.pv (.int .i64 0))], none, []⟩,
   ⟨none, .store 3 (.t 9) (.t 47), none, [13, 12, 11, 0, 1, 2, 3, 4, 5, 6, 7, 8, 9, 10, 11, 12, 13]⟩])
  (.seq (.ops [
   ⟨some 48, .mv (.t 7), none, []⟩,
   ⟨some 49, .mv (.t 48), none, [0]⟩,
   ⟨some 50, .load true 3 (.t 3), some (49, true), [1]⟩,
   ⟨some 51, .load true 3 (.t 9), some (49, true), [1]⟩,
   ⟨some 52, .call 219 [(.t 50), (.t 51)], some (49, true), [2, 3, 1, 1]⟩,
   ⟨some 53, .bin .eql (some (.iface true)) (.t 52) (.c (.pv .nili)), some (49, true), [4, 1]⟩,
   ⟨some 54, .pick (.t 49) (.t 53) (.c (.pv (.bool false))), none, [1, 5]⟩,
   ⟨some 6, .mv (.t 54), none, [6, 4, 0, 1, 2, 3, 4, 5, 6]⟩])
  .ret))))))⟩

/-- dunnage/dunnagelaw09.BudgetMoves -/
def f323 : AFunc := ⟨112, [.t 10],
 (.seq (.ops [
   ⟨some 5, .box (.t 0), none, []⟩,
   ⟨some 6, .box (.t 1), none, []⟩,
   ⟨some 7, .box (.t 2), none, []⟩,
   ⟨some 8, .box (.t 3), none, []⟩,
   ⟨some 10, .mv (.c (.pv (.bool false))), none, []⟩])
  (.seq (.ops [
   ⟨some 20, .call 317 [], none, []⟩,
   ⟨some 11, .mv (.t 20), none, [0, 0, 0]⟩])
  (.seq (.ops [
   ⟨some 21, .load true 3 (.t 5), none, []⟩,
   ⟨some 22, .load true 3 (.t 6), none, []⟩,
   ⟨some 23, .load true 3 (.t 7), none, []⟩,
   ⟨some 24, .call 163 [(.t 21), (.t 22), (.t 23)], none, [0, 1, 2]⟩,
   ⟨some 12, .mv (.t 24), none, [3, 3, 0, 1, 2, 3]⟩])
  (.seq (.seq (.ops [
   ⟨some 25, .mv (.t 12), none, []⟩,
   ⟨some 26, .not (.t 25), none, [0]⟩])
  (.cond (.t 26)
   (.seq (.ops [
     ⟨some 27, .mv (.t 11), none, []⟩,
     ⟨some 10, .mv (.t 27), none, [0, 0]⟩])
    .ret)
   .skip))
  (.seq (.ops [
   ⟨some 29, .load true 3 (.t 5), none, []⟩,
   ⟨some 30, .load true 3 (.t 6), none, []⟩,
   ⟨some 31, .load true 3 (.t 7), none, []⟩,
   ⟨some 32, .load true 4 (.t 8), none, []⟩,
   ⟨some 33, .call 239 [(.t 29), (.t 30), (.t 31), (.t 32)], none, [0, 1, 2, 3]⟩,
   ⟨some 28, .mv (.t 33), none, [4]⟩,
   ⟨some 34, .extract (.t 28) 0, none, [5]⟩,
   ⟨some 35, .extract (.t 28) 1, none, [5]⟩,
   ⟨some 13, .alloc [.nils, (.pv (.int .i64 0)), (.pv (.int .i64 0))], none, []⟩,
   ⟨none, .store 3 (.t 13) (.t 34), none, [8, 6, 4, 0, 1, 2, 3, 4, 5, 6, 8]⟩,
   ⟨some 14, .mv (.t 35), none, [7, 9, 0, 1, 2, 3, 4, 5, 6, 7, 8, 9]⟩])
  (.seq (.seq (.ops [
   ⟨some 36, .mv (.t 14), none, []⟩,
   ⟨some 37, .bin .neq (some (.iface true)) (.t 36) (.c (.pv .nili)), none, [0]⟩,
   ⟨some 38, .mv (.t 37), none, [1]⟩,
   ⟨some 39, .fieldAddr 0 (.t 8), some (38, false), [2]⟩,
   ⟨some 40, .load false 1 (.t 39), some (38, false), [3, 2]⟩,
   ⟨some 41, .bin .neq none (.t 40) (.c (.pv (.int .i64 2))), some (38, false), [4, 2]⟩,
   ⟨some 42, .mv (.t 41), some (38, false), [5, 2, 2]⟩,
   ⟨some 43, .fieldAddr 2 (.t 8), some (42, true), [6]⟩,
   ⟨some 44, .load false 1 (.t 43), some (42, true), [7, 6]⟩,
   ⟨some 45, .bin .eql none (.t 44) (.c (.pv (.int .i64 0))), some (42, true), [8, 6]⟩,
   ⟨some 46, .pick (.t 42) (.t 45) (.c (.pv (.bool false))), some (38, false), [6, 9, 2]⟩,
   ⟨some 47, .pick (.t 38) (.c (.pv (.bool true))) (.t 46), none, [2, 10]⟩])
  (.cond (.t 47)
   (.seq (.ops [
     ⟨some 48, .mv (.t 11), none, []⟩,
     ⟨some 10, .mv (.t 48), none, [0, 0]⟩])
    .ret)
   .skip))
  (.seq (.ops [
   ⟨some 50, .load true 3 (.t 7), none, []⟩,
   ⟨some 51, .fieldAddr 1 (.t 8), none, []⟩,
   ⟨some 52, .load false 1 (.t 51), none, [1]⟩,
   ⟨some 53, .call 240 [(.t 50), (.t 52)], none, [0, 2]⟩,
   ⟨some 49, .mv (.t 53), none, [3]⟩,
   ⟨some 54, .extract (.t 49) 0, none, [4]⟩,
   ⟨some 55, .extract (.t 49) 1, none, [4]⟩,
   ⟨some 15, .alloc [(.pv (.int .i64 0)), (.pv (.int .i64 0)), (.pv (.int .i64 0)), (.pv (.int .u64 0)), (.pv (.int .u64 0)), (.pv (.int .u64 0)), (.pv (.int .u64 0)), (.pv (.int .i64 0))], none, []⟩,
   ⟨none, .store 8 (.t 15) (.t 54), none, [7, 5, 3, 0, 1, 2, 3, 4, 5, 7]⟩,
   ⟨some 16, .mv (.t 55), none, [6, 8, 0, 1, 2, 3, 4, 5, 6, 7, 8]⟩])
  (.seq (.ops [
   ⟨some 57, .load true 3 (.t 7), none, []⟩,
   ⟨some 58, .fieldAddr 3 (.t 8), none, []⟩,
   ⟨some 59, .load false 1 (.t 58), none, [1]⟩,
   ⟨some 60, .call 240 [(.t 57), (.t 59)], none, [0, 2]⟩,
   ⟨some 56, .mv (.t 60), none, [3]⟩,
   ⟨some 61, .extract (.t 56) 0, none, [4]⟩,
   ⟨some 62, .extract (.t 56) 1, none, [4]⟩,
   ⟨some 17, .alloc [(.pv (.int .i64 0)), (.pv (.int .i64 0)), (.pv (.int .i64 0)), (.pv (.int .u64 0)), (.pv (.int .u64 0)), (.pv (.int .u64 0)), (.pv (.int .u64 0)), (.pv (.int .i64 0))], none, []⟩,
   ⟨none, .store 8 (.t 17) (.t 61), none, [7, 5, 3, 0, 1, 2, 3, 4, 5, 7]⟩,
   ⟨some 18, .mv (.t 62), none, [6, 8, 0, 1, 2, 3, 4, 5, 6, 7, 8]⟩])
  (.seq (.ops [
   ⟨some 63, .load true 3 (.t 7), none, []⟩,
   ⟨some 64, .mv (.t 4), none, []⟩,
   ⟨some 65, .call 71 [(.t 63), (.t 64)], none, [0, 1]⟩,
   ⟨some 19, .mv (.t 65), none, [2, 2, 0, 1, 2]⟩])
  (.seq (.seq (.ops [
   ⟨some 66, .fieldAddr 0 (.t 8), none, []⟩,
   ⟨some 67, .load false 1 (.t 66), none, [0]⟩,
   ⟨some 68, .bin .eql none (.t 67) (.c (.pv (.int .i64 2))), none, [1]⟩,
   ⟨some 69, .mv (.t 68), none, [2]⟩,
   ⟨some 70, .fieldAddr 1 (.t 15), some (69, true), [3]⟩,
   ⟨some 71, .load false 1 (.t 70), some (69, true), [4, 3]⟩,
   ⟨some 72, .mv (.t 4), some (69, true), [3]⟩,
   ⟨some 73, .bin .eql none (.t 71) (.t 72), some (69, true), [5, 6, 3]⟩,
   ⟨some 74, .pick (.t 69) (.t 73) (.c (.pv (.bool false))), none, [3, 7]⟩])
  (.cond (.t 74)
   (.ops [
     ⟨some 75, .mv (.t 19), none, []⟩,
     ⟨some 76, .bin .sub none (.t 75) (.c (.pv (.int .i64 1))), none, [0]⟩,
     ⟨some 19, .mv (.t 76), none, [1, 0, 1]⟩])
   .skip))
  (.seq (.seq (.ops [
   ⟨some 77, .fieldAddr 0 (.t 8), none, []⟩,
   ⟨some 78, .load false 1 (.t 77), none, [0]⟩,
   ⟨some 79, .bin .eql none (.t 78) (.c (.pv (.int .i64 1))), none, [1]⟩,
   ⟨some 80, .mv (.t 79), none, [2]⟩,
   ⟨some 81, .fieldAddr 0 (.t 8), some (80, false), [3]⟩,
   ⟨some 82, .load false 1 (.t 81), some (80, false), [4, 3]⟩,
   ⟨some 83, .bin .eql none (.t 82) (.c (.pv (.int .i64 4))), some (80, false), [5, 3]⟩,
   ⟨some 84, .pick (.t 80) (.c (.pv (.bool true))) (.t 83), none, [3, 6]⟩,
   ⟨some 85, .mv (.t 84), none, [7, 3]⟩,
   ⟨some 86, .fieldAddr 1 (.t 15), some (85, true), [8]⟩,
   ⟨some 87, .load false 1 (.t 86), some (85, true), [9, 8]⟩,
   ⟨some 88, .mv (.t 4), some (85, true), [8]⟩,
   ⟨some 89, .bin .eql none (.t 87) (.t 88), some (85, true), [10, 11, 8]⟩,
   ⟨some 90, .pick (.t 85) (.t 89) (.c (.pv (.bool false))), none, [8, 12]⟩])
  (.cond (.t 90)
   (.ops [
     ⟨some 91, .mv (.t 19), none, []⟩,
     ⟨some 92, .bin .add none (.t 91) (.c (.pv (.int .i64 1))), none, [0]⟩,
     ⟨some 19, .mv (.t 92), none, [1, 0, 1]⟩])
   .skip))
  (.seq (.seq (.ops [
   ⟨some 93, .fieldAddr 0 (.t 8), none, []⟩,
   ⟨some 94, .load false 1 (.t 93), none, [0]⟩,
   ⟨some 95, .bin .eql none (.t 94) (.c (.pv (.int .i64 4))), none, [1]⟩,
   ⟨some 96, .mv (.t 95), none, [2]⟩,
   ⟨some 97, .fieldAddr 1 (.t 17), some (96, true), [3]⟩,
   ⟨some 98, .load false 1 (.t 97), some (96, true), [4, 3]⟩,
   ⟨some 99, .mv (.t 4), some (96, true), [3]⟩,
   ⟨some 100, .bin .eql none (.t 98) (.t 99), some (96, true), [5, 6, 3]⟩,
   ⟨some 101, .pick (.t 96) (.t 100) (.c (.pv (.bool false))), none, [3, 7]⟩])
  (.cond (.t 101)
   (.ops [
     ⟨some 102, .mv (.t 19), none, []⟩,
     ⟨some 103, .bin .sub none (.t 102) (.c (.pv (.int .i64 1))), none, [0]⟩,
     ⟨some 19, .mv (.t 103), none, [1, 0, 1]⟩])
   .skip))
  (.seq (.ops [
   ⟨some 104, .mv (.t 11), none, []⟩,
   ⟨some 105, .mv (.t 104), none, [0]⟩,
   ⟨some 106, .load true 3 (.t 13), some (105, true), [1]⟩,
   ⟨some 107, .mv (.t 4), some (105, true), [1]⟩,
   ⟨some 108, .call 71 [(.t 106), (.t 107)], some (105, true), [2, 3, 1, 1]⟩,
   ⟨some 109, .mv (.t 19), some (105, true), [1]⟩,
   ⟨some 110, .bin .eql none (.t 108) (.t 109), some (105, true), [4, 5, 1]⟩,
   ⟨some 111, .pick (.t 105) (.t 110) (.c (.pv (.bool false))), none, [1, 6]⟩,
   ⟨some 10, .mv (.t 111), none, [7, 4, 0, 1, 2, 3, 4, 5, 6, 7]⟩])
  .ret)))))))))))))⟩

/-- dunnage/dunnagelaw07.up -/
def f324 : AFunc := ⟨26, [.t 0],
 (.seq (.ops [
   ⟨some 0, .mv (.c (.pv (.bool false))), none, []⟩])
  (.seq (.ops [
   ⟨some 3, .build [(.pv (.int .i64 0)), (.pv (.bool false)), (.pv (.int .i64 0)), (.pv (.int .i64 0)), (.pv (.int .i64 0))] [(0, 1, (.c (.pv (.int .i64 2)))), (1, 1, (.c (.pv (.bool true))))], none, []⟩,
   ⟨some 4, .bslice 5 1 [(.pv (.int .i64 0)), (.pv (.bool false)), (.pv (.int .i64 0)), (.pv (.int .i64 0)), (.pv (.int .i64 0))] [(0, 5, (.t 3))], none, [0]⟩,
   ⟨some 5, .build [.nils, .nils, .nils] [(1, 1, (.t 4))], none, [1]⟩,
   ⟨some 1, .alloc [.nils, .nils, .nils], none, []⟩,
   ⟨none, .store 3 (.t 1) (.t 5), none, [3, 2, 0, 1, 2, 3]⟩])
  (.seq (.ops [
   ⟨some 6, .build [(.pv (.int .i64 0)), (.pv (.int .i64 0)), (.pv (.int .i64 0)), (.pv (.int .u64 0)), (.pv (.int .u64 0)), (.pv (.int .u64 0)), (.pv (.int .u64 0)), (.pv (.int .i64 0))] [(0, 1, (.c (.pv (.int .i64 1)))), (1, 1, (.c (.pv (.int .i64 2)))), (7, 1, (.c (.pv (.int .i64 3))))], none, []⟩,
   ⟨some 7, .build [(.pv (.int .i64 0)), (.pv (.int .i64 0)), (.pv (.int .i64 0)), (.pv (.int .u64 0)), (.pv (.int .u64 0)), (.pv (.int .u64 0)), (.pv (.int .u64 0)), (.pv (.int .i64 0))] [(0, 1, (.c (.pv (.int .i64 4)))), (1, 1, (.c (.pv (.int .i64 2)))), (7, 1, (.c (.pv (.int .i64 3))))], none, []⟩,
   ⟨some 8, .bslice 8 2 [(.pv (.int .i64 0)), (.pv (.int .i64 0)), (.pv (.int .i64 0)), (.pv (.int .u64 0)), (.pv (.int .u64 0)), (.pv (.int .u64 0)), (.pv (.int .u64 0)), (.pv (.int .i64 0)), (.pv (.int .i64 0)), (.pv (.int .i64 0)), (.pv (.int .i64 0)), (.pv (.int .u64 0)), (.pv (.int .u64 0)), (.pv (.int .u64 0)), (.pv (.int .u64 0)), (.pv (.int .i64 0))] [(0, 8, (.t 6)), (8, 8, (.t 7))], none, [0, 1]⟩,
   ⟨some 9, .build [.nils, (.pv (.int .i64 0)), (.pv (.int .i64 0))] [(0, 1, (.t 8))], none, [2]⟩,
   ⟨some 2, .alloc [.nils, (.pv (.int .i64 0)), (.pv (.int .i64 0))], none, []⟩,
   ⟨none, .store 3 (.t 2) (.t 9), none, [4, 3, 0, 1, 2, 3, 4]⟩])
  (.seq (.ops [
   ⟨some 10, .load true 3 (.t 1), none, []⟩,
   ⟨some 11, .build [.nils, (.pv (.int .i64 0)), (.pv (.int .i64 0))] [], none, []⟩,
   ⟨some 12, .call 68 [(.t 10), (.t 11)], none, [0, 1]⟩,
   ⟨some 13, .bin .eql (some (.iface true)) (.t 12) (.c (.pv .nili)), none, [2]⟩,
   ⟨some 14, .mv (.t 13), none, [3, 2]⟩,
   ⟨some 15, .load true 3 (.t 1), some (14, true), [4]⟩,
   ⟨some 16, .load true 3 (.t 2), some (14, true), [4]⟩,
   ⟨some 17, .call 325 [(.t 15), (.t 16), (.c (.pv (.int .i64 1)))], some (14, true), [5, 6, 4, 4]⟩,
   ⟨some 18, .bin .eql none (.t 17) (.c (.pv (.int .i64 4))), some (14, true), [7, 4]⟩,
   ⟨some 19, .pick (.t 14) (.t 18) (.c (.pv (.bool false))), none, [4, 8]⟩,
   ⟨some 20, .mv (.t 19), none, [9, 7]⟩,
   ⟨some 21, .load true 3 (.t 1), some (20, true), [10]⟩,
   ⟨some 22, .load true 3 (.t 2), some (20, true), [10]⟩,
   ⟨some 23, .call 68 [(.t 21), (.t 22)], some (20, true), [11, 12, 10, 10]⟩,
   ⟨some 24, .call 103 [(.t 23), (.c (.pv (.int .i64 1))), (.c (.pv (.int .i64 10)))], some (20, true), [13, 13, 10]⟩,
   ⟨some 25, .pick (.t 20) (.t 24) (.c (.pv (.bool false))), none, [10, 14]⟩,
   ⟨some 0, .mv (.t 25), none, [15, 14, 0, 1, 2, 3, 4, 5, 6, 7, 8, 9, 10, 11, 12, 13, 14, 15]⟩])
  .ret))))⟩

def f325l0 : ACode :=
 (.seq (.ops [
   ⟨some 27, .bin .lss none (.t 26) (.t 25), none, []⟩])
  (.seq (.cond (.t 27)
   .skip
   (.exit 2))
  (.seq (.block 3
   (.seq (.ops [
     ⟨some 28, .mv (.t 26), none, []⟩,
     ⟨some 29, .idxAddr 8 (.t 24) (.t 26), none, []⟩,
     ⟨some 30, .load true 8 (.t 29), none, [1]⟩,
     ⟨some 10, .alloc [(.pv (.int .i64 0)), (.pv (.int .i64 0)), (.pv (.int .i64 0)), (.pv (.int .u64 0)), (.pv (.int .u64 0)), (.pv (.int .u64 0)), (.pv (.int .u64 0)), (.pv (.int .i64 0))], none, []⟩,
     ⟨some 9, .mv (.t 28), none, [0, 0, 1, 2, 3]⟩,
     ⟨none, .store 8 (.t 10) (.t 30), none, [3, 2, 4, 0, 1, 2, 3, 4]⟩])
    (.seq (.ops [
     ⟨some 31, .mv (.t 7), none, []⟩,
     ⟨some 32, .mv (.t 9), none, []⟩,
     ⟨some 33, .bin .neq none (.t 31) (.t 32), none, [0, 1]⟩,
     ⟨some 34, .mv (.t 33), none, [2]⟩,
     ⟨some 35, .load true 3 (.t 3), some (34, true), [3]⟩,
     ⟨some 36, .load true 8 (.t 8), some (34, true), [3]⟩,
     ⟨some 37, .load true 8 (.t 10), some (34, true), [3]⟩,
     ⟨some 38, .call 69 [(.t 35), (.t 36), (.t 37)], some (34, true), [4, 5, 6, 3, 3]⟩,
     ⟨some 39, .pick (.t 34) (.t 38) (.c (.pv (.bool false))), none, [3, 7]⟩])
    (.cond (.t 39)
     (.seq (.ops [
       ⟨some 40, .fieldAddr 0 (.t 10), none, []⟩,
       ⟨some 41, .load false 1 (.t 40), none, [0]⟩,
       ⟨some 6, .mv (.t 41), none, [1, 0, 1]⟩])
      .ret)
     .skip))))
  (.ops [
   ⟨some 42, .bin .add none (.t 26) (.c (.pv (.int .i64 1))), none, []⟩,
   ⟨some 26, .mv (.t 42), none, [0]⟩]))))
def f325l1 : ACode :=
 (.seq (.ops [
   ⟨some 15, .bin .lss none (.t 14) (.t 13), none, []⟩])
  (.seq (.cond (.t 15)
   .skip
   (.exit 0))
  (.seq (.block 1
   (.seq (.ops [
     ⟨some 16, .mv (.t 14), none, []⟩,
     ⟨some 17, .idxAddr 8 (.t 12) (.t 14), none, []⟩,
     ⟨some 18, .load true 8 (.t 17), none, [1]⟩,
     ⟨some 8, .alloc [(.pv (.int .i64 0)), (.pv (.int .i64 0)), (.pv (.int .i64 0)), (.pv (.int .u64 0)), (.pv (.int .u64 0)), (.pv (.int .u64 0)), (.pv (.int .u64 0)), (.pv (.int .i64 0))], none, []⟩,
     ⟨some 7, .mv (.t 16), none, [0, 0, 1, 2, 3]⟩,
     ⟨none, .store 8 (.t 8) (.t 18), none, [3, 2, 4, 0, 1, 2, 3, 4]⟩])
    (.seq (.seq (.ops [
     ⟨some 19, .fieldAddr 0 (.t 8), none, []⟩,
     ⟨some 20, .load false 1 (.t 19), none, [0]⟩,
     ⟨some 21, .mv (.t 2), none, []⟩,
     ⟨some 22, .bin .neq none (.t 20) (.t 21), none, [1, 2]⟩])
    (.cond (.t 22)
     (.exit 1)
     .skip))
    (.seq (.seq (.ops [
     ⟨some 23, .fieldAddr 0 (.t 4), none, []⟩,
     ⟨some 24, .load false 1 (.t 23), none, [0]⟩,
     ⟨some 25, .len (.t 24), none, [1]⟩,
     ⟨some 26, .mv (.c (.pv (.int .i64 0))), none, []⟩])
    (.block 2
     (.loop f325l0)))
    (.exit 0)))))
  (.ops [
   ⟨some 43, .bin .add none (.t 14) (.c (.pv (.int .i64 1))), none, []⟩,
   ⟨some 14, .mv (.t 43), none, [0]⟩]))))
/-- dunnage/apart.Clash -/
def f325 : AFunc := ⟨44, [.t 6],
 (.seq (.ops [
   ⟨some 3, .box (.t 0), none, []⟩,
   ⟨some 4, .box (.t 1), none, []⟩,
   ⟨some 6, .mv (.c (.pv (.int .i64 0))), none, []⟩])
  (.seq (.seq (.ops [
   ⟨some 11, .fieldAddr 0 (.t 4), none, []⟩,
   ⟨some 12, .load false 1 (.t 11), none, [0]⟩,
   ⟨some 13, .len (.t 12), none, [1]⟩,
   ⟨some 14, .mv (.c (.pv (.int .i64 0))), none, []⟩])
  (.block 0
   (.loop f325l1)))
  (.seq (.ops [
   ⟨some 6, .mv (.c (.pv (.int .i64 0))), none, []⟩])
  .ret)))⟩

/-- dunnage/dunnagelaw06.up -/
def f326 : AFunc := ⟨39, [.t 0],
 (.seq (.ops [
   ⟨some 0, .mv (.c (.pv (.bool false))), none, []⟩])
  (.seq (.ops [
   ⟨some 5, .build [(.pv (.int .u64 0)), (.pv (.int .u64 0)), (.pv (.int .u64 0)), (.pv (.int .u64 0))] [(0, 1, (.c (.pv (.int .u64 5))))], none, []⟩,
   ⟨some 6, .build [(.pv (.int .u64 0)), (.pv (.int .u64 0)), (.pv (.int .u64 0)), (.pv (.int .u64 0))] [(0, 1, (.c (.pv (.int .u64 1))))], none, []⟩,
   ⟨some 7, .build [(.pv (.int .i64 0)), (.pv (.int .i64 0)), (.pv (.int .u64 0)), (.pv (.int .u64 0)), (.pv (.int .u64 0)), (.pv (.int .u64 0)), (.pv (.int .u64 0)), (.pv (.int .u64 0)), (.pv (.int .u64 0)), (.pv (.int .u64 0))] [(0, 1, (.c (.pv (.int .i64 3)))), (1, 1, (.c (.pv (.int .i64 1)))), (2, 4, (.t 5)), (6, 4, (.t 6))], none, [0, 1]⟩,
   ⟨some 8, .bslice 10 1 [(.pv (.int .i64 0)), (.pv (.int .i64 0)), (.pv (.int .u64 0)), (.pv (.int .u64 0)), (.pv (.int .u64 0)), (.pv (.int .u64 0)), (.pv (.int .u64 0)), (.pv (.int .u64 0)), (.pv (.int .u64 0)), (.pv (.int .u64 0))] [(0, 10, (.t 7))], none, [2]⟩,
   ⟨some 9, .build [.nils, .nils, .nils] [(0, 1, (.t 8))], none, [3]⟩,
   ⟨some 1, .alloc [.nils, .nils, .nils], none, []⟩,
   ⟨none, .store 3 (.t 1) (.t 9), none, [5, 4, 0, 1, 2, 3, 4, 5]⟩])
  (.seq (.ops [
   ⟨some 11, .load true 3 (.t 1), none, []⟩,
   ⟨some 12, .build [.nils, (.pv (.int .i64 0)), (.pv (.int .i64 0))] [], none, []⟩,
   ⟨some 13, .call 220 [(.t 11), (.t 12), (.c (.pv (.int .i64 3)))], none, [0, 1]⟩,
   ⟨some 10, .mv (.t 13), none, [2]⟩,
   ⟨some 14, .extract (.t 10) 0, none, [3]⟩,
   ⟨some 15, .extract (.t 10) 1, none, [3]⟩,
   ⟨some 2, .alloc [(.pv (.int .u64 0)), (.pv (.int .u64 0)), (.pv (.int .u64 0)), (.pv (.int .u64 0))], none, []⟩,
   ⟨none, .store 4 (.t 2) (.t 14), none, [6, 4, 2, 0, 1, 2, 3, 4, 6]⟩,
   ⟨some 3, .mv (.t 15), none, [5, 7, 0, 1, 2, 3, 4, 5, 6, 7]⟩])
  (.seq (.ops [
   ⟨some 16, .load true 3 (.t 1), none, []⟩,
   ⟨some 17, .build [(.pv (.int .u64 0)), (.pv (.int .u64 0)), (.pv (.int .u64 0)), (.pv (.int .u64 0))] [(0, 1, (.c (.pv (.int .u64 5))))], none, []⟩,
   ⟨some 18, .build [(.pv (.int .i64 0)), (.pv (.int .i64 0)), (.pv (.int .i64 0)), (.pv (.int .u64 0)), (.pv (.int .u64 0)), (.pv (.int .u64 0)), (.pv (.int .u64 0)), (.pv (.int .i64 0))] [(0, 1, (.c (.pv (.int .i64 1)))), (7, 1, (.c (.pv (.int .i64 3)))), (3, 4, (.t 17))], none, [1]⟩,
   ⟨some 19, .bslice 8 1 [(.pv (.int .i64 0)), (.pv (.int .i64 0)), (.pv (.int .i64 0)), (.pv (.int .u64 0)), (.pv (.int .u64 0)), (.pv (.int .u64 0)), (.pv (.int .u64 0)), (.pv (.int .i64 0))] [(0, 8, (.t 18))], none, [2]⟩,
   ⟨some 20, .build [.nils, (.pv (.int .i64 0)), (.pv (.int .i64 0))] [(0, 1, (.t 19))], none, [3]⟩,
   ⟨some 21, .call 219 [(.t 16), (.t 20)], none, [0, 4]⟩,
   ⟨some 4, .mv (.t 21), none, [5, 5, 0, 1, 2, 3, 4, 5]⟩])
  (.seq (.ops [
   ⟨some 22, .mv (.t 3), none, []⟩,
   ⟨some 23, .bin .eql (some (.iface true)) (.t 22) (.c (.pv .nili)), none, [0]⟩,
   ⟨some 24, .mv (.t 23), none, [1]⟩,
   ⟨some 25, .load true 4 (.t 2), some (24, true), [2]⟩,
   ⟨some 26, .build [(.pv (.int .u64 0)), (.pv (.int .u64 0)), (.pv (.int .u64 0)), (.pv (.int .u64 0))] [(0, 1, (.c (.pv (.int .u64 4))))], some (24, true), [2]⟩,
   ⟨some 27, .bin .eql (some (.plain [false, false, false, false])) (.t 25) (.t 26), some (24, true), [3, 4, 2]⟩,
   ⟨some 28, .pick (.t 24) (.t 27) (.c (.pv (.bool false))), none, [2, 5]⟩,
   ⟨some 29, .mv (.t 28), none, [6, 2]⟩,
   ⟨some 30, .load true 3 (.t 1), some (29, true), [7]⟩,
   ⟨some 31, .build [.nils, (.pv (.int .i64 0)), (.pv (.int .i64 0))] [], some (29, true), [7]⟩,
   ⟨some 32, .call 219 [(.t 30), (.t 31)], some (29, true), [8, 9, 7, 7]⟩,
   ⟨some 33, .bin .eql (some (.iface true)) (.t 32) (.c (.pv .nili)), some (29, true), [10, 7]⟩,
   ⟨some 34, .pick (.t 29) (.t 33) (.c (.pv (.bool false))), none, [7, 11]⟩,
   ⟨some 35, .mv (.t 34), none, [12, 10]⟩,
   ⟨some 36, .mv (.t 4), some (35, true), [13]⟩,
   ⟨some 37, .call 103 [(.t 36), (.c (.pv (.int .i64 0))), (.c (.pv (.int .i64 9)))], some (35, true), [14, 13, 13]⟩,
   ⟨some 38, .pick (.t 35) (.t 37) (.c (.pv (.bool false))), none, [13, 15]⟩,
   ⟨some 0, .mv (.t 38), none, [16, 15, 0, 1, 2, 3, 4, 5, 6, 7, 8, 9, 10, 11, 12, 13, 14, 15, 16]⟩])
  .ret)))))⟩
end Go.Proofs.YtmeigdjfcecidaaDoor.Ab
/- Layer 1 (vec): contracts. -/
set_option linter.unusedVariables false
set_option linter.unusedSimpArgs false
namespace Go.Proofs.YtmeigdjfcecidaaDoor.Ab
open Go

def vecP (v : Vec) : PV := .agg (vecC v)
def vec0 : Vec := ⟨0, 0, 0, 0⟩

/-- Cell by cell, or none. -/
def eachV (o : Int → Int → Int) (ok : Int → Int → Bool) (a b : Vec) : Option Vec :=
  if ok a.a b.a = true then if ok a.b b.b = true then if ok a.c b.c = true then if ok a.d b.d = true then some ⟨o a.a b.a, o a.b b.b, o a.c b.c, o a.d b.d⟩ else none else none else none else none
def vecR : Option Vec → PV
  | some v => .tuple [vecP v, .nili]
  | none => .tuple [vecP vec0, codeE 8]

theorem sub1_ok {T : Tab} (h : Std T 259 f259) (x y : Int) : Gives T 259 [.int .u64 x, .int .u64 y] (.tuple [.int .u64 (IntKind.u64.wrap (x - y)), .bool (decide (y ≤ x))]) := by
  refine gives h rfl ?_
  simp only [f259, runL, opQ, evOp, evO, evOs, guardV, argsA, pvs, putS, cellsOf, scals, scal, Nat.reduceEqDiff, Nat.reduceAdd, reduceCtorEq, fieldA, nonNil, cellsAt, mkAgg, allPV, storeB, patchL, Int.reduceToNat, Nat.reduceMul, Nat.reduceLT, stepA, Int.reduceNeg, Int.reduceLE, Int.reduceLT, Int.reduceEq, extractV, mkAgg, Nat.reduceLeDiff, fillA, pureVs, pureV, eqV, eqB, lenV, binV, intBin, intV, idxA, List.drop, List.take, RetP, retP, resV, resOne, snapV, snapVs, snapR, snapRs, ownSz, pickV, AO.isC, opE, opD, funV]

set_option maxRecDepth 100000 in
set_option maxHeartbeats 4000000 in
theorem each_ok {T : Tab} (h : Std T 261 f261) {n : Nat} (o : Int → Int → Int) (ok : Int → Int → Bool) (a b : Vec) (ha : Gives T n [.int .u64 a.a, .int .u64 b.a] (.tuple [.int .u64 (o a.a b.a), .bool (ok a.a b.a)]))
    (hb : Gives T n [.int .u64 a.b, .int .u64 b.b] (.tuple [.int .u64 (o a.b b.b), .bool (ok a.b b.b)])) (hc : Gives T n [.int .u64 a.c, .int .u64 b.c] (.tuple [.int .u64 (o a.c b.c), .bool (ok a.c b.c)]))
    (hd : Gives T n [.int .u64 a.d, .int .u64 b.d] (.tuple [.int .u64 (o a.d b.d), .bool (ok a.d b.d)])) : Gives T 261 [vecP a, vecP b, .func n [] []] (vecR (eachV o ok a b)) := by
  refine gives h rfl ?_
  have w0 : IntKind.i64.wrap (0 + 1) = 1 := by decide
  have w1 : IntKind.i64.wrap (1 + 1) = 2 := by decide
  have w2 : IntKind.i64.wrap (2 + 1) = 3 := by decide
  have w3 : IntKind.i64.wrap (3 + 1) = 4 := by decide
  simp only [f261, runL, opQ, evOp, evO, evOs, guardV, argsA, pvs, putS, cellsOf, scals, scal, Nat.reduceEqDiff, Nat.reduceAdd, reduceCtorEq, fieldA, nonNil, cellsAt, mkAgg, allPV, storeB, patchL, Int.reduceToNat, Nat.reduceMul, Nat.reduceLT, stepA, Int.reduceNeg, Int.reduceLE, Int.reduceLT, Int.reduceEq, extractV, mkAgg, Nat.reduceLeDiff, fillA, pureVs, pureV, eqV, eqB, lenV, binV, intBin, intV, idxA, List.drop, List.take, RetP, retP, resV, resOne, snapV, snapVs, snapR, snapRs, ownSz, pickV, AO.isC, opE, opD, funV, vecP, vecC]
  rw [Wp_loop, Wp_eq f261l0.eq_1]
  simp only [runL, opQ, evOp, evO, evOs, guardV, argsA, pvs, putS, cellsOf, scals, scal, Nat.reduceEqDiff, Nat.reduceAdd, reduceCtorEq, fieldA, nonNil, cellsAt, mkAgg, allPV, storeB, patchL, Int.reduceToNat, Nat.reduceMul, Nat.reduceLT, stepA, Int.reduceNeg, Int.reduceLE, Int.reduceLT, Int.reduceEq, extractV, mkAgg, Nat.reduceLeDiff, fillA, pureVs, pureV, eqV, eqB, lenV, binV, intBin, intV, idxA, List.drop, List.take, RetP, retP, resV, resOne, snapV, snapVs, snapR, snapRs, ownSz, pickV, AO.isC, opE, opD, funV]
  refine (Wp_calm rfl).2 ?_
  cases e1 : ok a.a b.a
  · simp only [runL, opQ, evOp, evO, evOs, guardV, argsA, pvs, putS, cellsOf, scals, scal, Nat.reduceEqDiff, Nat.reduceAdd, reduceCtorEq, fieldA, nonNil, cellsAt, mkAgg, allPV, storeB, patchL, Int.reduceToNat, Nat.reduceMul, Nat.reduceLT, stepA, Int.reduceNeg, Int.reduceLE, Int.reduceLT, Int.reduceEq, extractV, mkAgg, Nat.reduceLeDiff, fillA, pureVs, pureV, eqV, eqB, lenV, binV, intBin, intV, idxA, List.drop, List.take, RetP, retP, resV, resOne, snapV, snapVs, snapR, snapRs, ownSz, pickV, AO.isC, opE, opD, funV, ha.callD, e1, eachV, vecR, vecP, vecC, vec0, codeE]
  · simp only [runL, opQ, evOp, evO, evOs, guardV, argsA, pvs, putS, cellsOf, scals, scal, Nat.reduceEqDiff, Nat.reduceAdd, reduceCtorEq, fieldA, nonNil, cellsAt, mkAgg, allPV, storeB, patchL, Int.reduceToNat, Nat.reduceMul, Nat.reduceLT, stepA, Int.reduceNeg, Int.reduceLE, Int.reduceLT, Int.reduceEq, extractV, mkAgg, Nat.reduceLeDiff, fillA, pureVs, pureV, eqV, eqB, lenV, binV, intBin, intV, idxA, List.drop, List.take, RetP, retP, resV, resOne, snapV, snapVs, snapR, snapRs, ownSz, pickV, AO.isC, opE, opD, funV, ha.callD, e1, w0]
    rw [Wp_loop, Wp_eq f261l0.eq_1]
    simp only [runL, opQ, evOp, evO, evOs, guardV, argsA, pvs, putS, cellsOf, scals, scal, Nat.reduceEqDiff, Nat.reduceAdd, reduceCtorEq, fieldA, nonNil, cellsAt, mkAgg, allPV, storeB, patchL, Int.reduceToNat, Nat.reduceMul, Nat.reduceLT, stepA, Int.reduceNeg, Int.reduceLE, Int.reduceLT, Int.reduceEq, extractV, mkAgg, Nat.reduceLeDiff, fillA, pureVs, pureV, eqV, eqB, lenV, binV, intBin, intV, idxA, List.drop, List.take, RetP, retP, resV, resOne, snapV, snapVs, snapR, snapRs, ownSz, pickV, AO.isC, opE, opD, funV]
    refine (Wp_calm rfl).2 ?_
    cases e2 : ok a.b b.b
    · simp only [runL, opQ, evOp, evO, evOs, guardV, argsA, pvs, putS, cellsOf, scals, scal, Nat.reduceEqDiff, Nat.reduceAdd, reduceCtorEq, fieldA, nonNil, cellsAt, mkAgg, allPV, storeB, patchL, Int.reduceToNat, Nat.reduceMul, Nat.reduceLT, stepA, Int.reduceNeg, Int.reduceLE, Int.reduceLT, Int.reduceEq, extractV, mkAgg, Nat.reduceLeDiff, fillA, pureVs, pureV, eqV, eqB, lenV, binV, intBin, intV, idxA, List.drop, List.take, RetP, retP, resV, resOne, snapV, snapVs, snapR, snapRs, ownSz, pickV, AO.isC, opE, opD, funV, hb.callD, e1, e2, eachV, vecR, vecP, vecC, vec0, codeE]
    · simp only [runL, opQ, evOp, evO, evOs, guardV, argsA, pvs, putS, cellsOf, scals, scal, Nat.reduceEqDiff, Nat.reduceAdd, reduceCtorEq, fieldA, nonNil, cellsAt, mkAgg, allPV, storeB, patchL, Int.reduceToNat, Nat.reduceMul, Nat.reduceLT, stepA, Int.reduceNeg, Int.reduceLE, Int.reduceLT, Int.reduceEq, extractV, mkAgg, Nat.reduceLeDiff, fillA, pureVs, pureV, eqV, eqB, lenV, binV, intBin, intV, idxA, List.drop, List.take, RetP, retP, resV, resOne, snapV, snapVs, snapR, snapRs, ownSz, pickV, AO.isC, opE, opD, funV, hb.callD, e2, w1]
      rw [Wp_loop, Wp_eq f261l0.eq_1]
      simp only [runL, opQ, evOp, evO, evOs, guardV, argsA, pvs, putS, cellsOf, scals, scal, Nat.reduceEqDiff, Nat.reduceAdd, reduceCtorEq, fieldA, nonNil, cellsAt, mkAgg, allPV, storeB, patchL, Int.reduceToNat, Nat.reduceMul, Nat.reduceLT, stepA, Int.reduceNeg, Int.reduceLE, Int.reduceLT, Int.reduceEq, extractV, mkAgg, Nat.reduceLeDiff, fillA, pureVs, pureV, eqV, eqB, lenV, binV, intBin, intV, idxA, List.drop, List.take, RetP, retP, resV, resOne, snapV, snapVs, snapR, snapRs, ownSz, pickV, AO.isC, opE, opD, funV]
      refine (Wp_calm rfl).2 ?_
      cases e3 : ok a.c b.c
      · simp only [runL, opQ, evOp, evO, evOs, guardV, argsA, pvs, putS, cellsOf, scals, scal, Nat.reduceEqDiff, Nat.reduceAdd, reduceCtorEq, fieldA, nonNil, cellsAt, mkAgg, allPV, storeB, patchL, Int.reduceToNat, Nat.reduceMul, Nat.reduceLT, stepA, Int.reduceNeg, Int.reduceLE, Int.reduceLT, Int.reduceEq, extractV, mkAgg, Nat.reduceLeDiff, fillA, pureVs, pureV, eqV, eqB, lenV, binV, intBin, intV, idxA, List.drop, List.take, RetP, retP, resV, resOne, snapV, snapVs, snapR, snapRs, ownSz, pickV, AO.isC, opE, opD, funV, hc.callD, e1, e2, e3, eachV, vecR, vecP, vecC, vec0, codeE]
      · simp only [runL, opQ, evOp, evO, evOs, guardV, argsA, pvs, putS, cellsOf, scals, scal, Nat.reduceEqDiff, Nat.reduceAdd, reduceCtorEq, fieldA, nonNil, cellsAt, mkAgg, allPV, storeB, patchL, Int.reduceToNat, Nat.reduceMul, Nat.reduceLT, stepA, Int.reduceNeg, Int.reduceLE, Int.reduceLT, Int.reduceEq, extractV, mkAgg, Nat.reduceLeDiff, fillA, pureVs, pureV, eqV, eqB, lenV, binV, intBin, intV, idxA, List.drop, List.take, RetP, retP, resV, resOne, snapV, snapVs, snapR, snapRs, ownSz, pickV, AO.isC, opE, opD, funV, hc.callD, e3, w2]
        rw [Wp_loop, Wp_eq f261l0.eq_1]
        simp only [runL, opQ, evOp, evO, evOs, guardV, argsA, pvs, putS, cellsOf, scals, scal, Nat.reduceEqDiff, Nat.reduceAdd, reduceCtorEq, fieldA, nonNil, cellsAt, mkAgg, allPV, storeB, patchL, Int.reduceToNat, Nat.reduceMul, Nat.reduceLT, stepA, Int.reduceNeg, Int.reduceLE, Int.reduceLT, Int.reduceEq, extractV, mkAgg, Nat.reduceLeDiff, fillA, pureVs, pureV, eqV, eqB, lenV, binV, intBin, intV, idxA, List.drop, List.take, RetP, retP, resV, resOne, snapV, snapVs, snapR, snapRs, ownSz, pickV, AO.isC, opE, opD, funV]
        refine (Wp_calm rfl).2 ?_
        cases e4 : ok a.d b.d
        · simp only [runL, opQ, evOp, evO, evOs, guardV, argsA, pvs, putS, cellsOf, scals, scal, Nat.reduceEqDiff, Nat.reduceAdd, reduceCtorEq, fieldA, nonNil, cellsAt, mkAgg, allPV, storeB, patchL, Int.reduceToNat, Nat.reduceMul, Nat.reduceLT, stepA, Int.reduceNeg, Int.reduceLE, Int.reduceLT, Int.reduceEq, extractV, mkAgg, Nat.reduceLeDiff, fillA, pureVs, pureV, eqV, eqB, lenV, binV, intBin, intV, idxA, List.drop, List.take, RetP, retP, resV, resOne, snapV, snapVs, snapR, snapRs, ownSz, pickV, AO.isC, opE, opD, funV, hd.callD, e1, e2, e3, e4, eachV, vecR, vecP, vecC, vec0, codeE]
        · simp only [runL, opQ, evOp, evO, evOs, guardV, argsA, pvs, putS, cellsOf, scals, scal, Nat.reduceEqDiff, Nat.reduceAdd, reduceCtorEq, fieldA, nonNil, cellsAt, mkAgg, allPV, storeB, patchL, Int.reduceToNat, Nat.reduceMul, Nat.reduceLT, stepA, Int.reduceNeg, Int.reduceLE, Int.reduceLT, Int.reduceEq, extractV, mkAgg, Nat.reduceLeDiff, fillA, pureVs, pureV, eqV, eqB, lenV, binV, intBin, intV, idxA, List.drop, List.take, RetP, retP, resV, resOne, snapV, snapVs, snapR, snapRs, ownSz, pickV, AO.isC, opE, opD, funV, hd.callD, e4, w3]
          rw [Wp_loop, Wp_eq f261l0.eq_1]
          simp only [runL, opQ, evOp, evO, evOs, guardV, argsA, pvs, putS, cellsOf, scals, scal, Nat.reduceEqDiff, Nat.reduceAdd, reduceCtorEq, fieldA, nonNil, cellsAt, mkAgg, allPV, storeB, patchL, Int.reduceToNat, Nat.reduceMul, Nat.reduceLT, stepA, Int.reduceNeg, Int.reduceLE, Int.reduceLT, Int.reduceEq, extractV, mkAgg, Nat.reduceLeDiff, fillA, pureVs, pureV, eqV, eqB, lenV, binV, intBin, intV, idxA, List.drop, List.take, RetP, retP, resV, resOne, snapV, snapVs, snapR, snapRs, ownSz, pickV, AO.isC, opE, opD, funV, e1, e2, e3, e4, eachV, vecR, vecP, vecC, vec0, codeE]

theorem wrapU {n : Int} (h1 : 0 ≤ n) (h2 : n < 18446744073709551616) : IntKind.u64.wrap n = n := by
  simp only [IntKind.wrap, IntKind.bits, IntKind.signed]
  simp
  omega
/-! ### The document's sums -/
def halfN (a : Int) (up : Bool) : Int := cond up (a / 4294967296) (a % 4294967296)
theorem half_ok {T : Tab} (h : Std T 144 f144) (a : Int) (up : Bool) (ha : inU a) : Gives T 144 [.int .u64 a, .bool up] (.int .u64 (halfN a up)) := by
  refine gives h rfl ?_
  obtain ⟨h1, h2⟩ := ha
  have e1 : a.tdiv (Int.ofNat 4294967296) = a / 4294967296 := Int.tdiv_eq_ediv_of_nonneg h1
  have e2 : a.tmod (Int.ofNat 4294967296) = a % 4294967296 := Int.tmod_eq_emod_of_nonneg h1
  have e3 : IntKind.u64.wrap (a / 4294967296) = a / 4294967296 := wrapU (by omega) (by omega)
  cases up
  · simp only [f144, runL, opQ, evOp, evO, evOs, guardV, argsA, pvs, putS, cellsOf, scals, scal, Nat.reduceEqDiff, Nat.reduceAdd, reduceCtorEq, fieldA, nonNil, cellsAt, mkAgg, allPV, storeB, patchL, Int.reduceToNat, Nat.reduceMul, Nat.reduceLT, stepA, Int.reduceNeg, Int.reduceLE, Int.reduceLT, Int.reduceEq, extractV, mkAgg, Nat.reduceLeDiff, fillA, pureVs, pureV, eqV, eqB, lenV, binV, intBin, intV, idxA, List.drop, List.take, RetP, retP, resV, resOne, snapV, snapVs, snapR, snapRs, ownSz, pickV, AO.isC, opE, opD, funV, e1, e2, e3, halfN]
  · simp only [f144, runL, opQ, evOp, evO, evOs, guardV, argsA, pvs, putS, cellsOf, scals, scal, Nat.reduceEqDiff, Nat.reduceAdd, reduceCtorEq, fieldA, nonNil, cellsAt, mkAgg, allPV, storeB, patchL, Int.reduceToNat, Nat.reduceMul, Nat.reduceLT, stepA, Int.reduceNeg, Int.reduceLE, Int.reduceLT, Int.reduceEq, extractV, mkAgg, Nat.reduceLeDiff, fillA, pureVs, pureV, eqV, eqB, lenV, binV, intBin, intV, idxA, List.drop, List.take, RetP, retP, resV, resOne, snapV, snapVs, snapR, snapRs, ownSz, pickV, AO.isC, opE, opD, funV, e1, e2, e3, halfN]
/-- A sum, or none. -/
def sumOk (a b : Int) : Bool := decide (a + b < 18446744073709551616)
def sumN (a b : Int) : Int := cond (sumOk a b) (a + b) 0
theorem one_ok {T : Tab} (h145 : Std T 145 f145) (h144 : Std T 144 f144) (a b : Int) (ha : inU a) (hb : inU b) : Gives T 145 [.int .u64 a, .int .u64 b] (.tuple [.int .u64 (sumN a b), .bool (sumOk a b)]) := by
  refine gives h145 rfl ?_
  have k1 := half_ok h144 a false ha
  have k2 := half_ok h144 b false hb
  have k3 := half_ok h144 a true ha
  have k4 := half_ok h144 b true hb
  obtain ⟨a1, a2⟩ := ha
  obtain ⟨b1, b2⟩ := hb
  simp only [halfN, cond_true, cond_false] at k1 k2 k3 k4
  have e1 : IntKind.u64.wrap (a % 4294967296 + b % 4294967296) = a % 4294967296 + b % 4294967296 := wrapU (by omega) (by omega)
  have e2 : IntKind.u64.wrap (a / 4294967296 + b / 4294967296) = a / 4294967296 + b / 4294967296 := wrapU (by omega) (by omega)
  have e3 : (a % 4294967296 + b % 4294967296).tdiv (Int.ofNat 4294967296) = (a % 4294967296 + b % 4294967296) / 4294967296 := Int.tdiv_eq_ediv_of_nonneg (by omega)
  have e4 : IntKind.u64.wrap ((a % 4294967296 + b % 4294967296) / 4294967296) = (a % 4294967296 + b % 4294967296) / 4294967296 := wrapU (by omega) (by omega)
  have e5 : IntKind.u64.wrap (a / 4294967296 + b / 4294967296 + (a % 4294967296 + b % 4294967296) / 4294967296) = (a + b) / 4294967296 := by
    rw [wrapU (by omega) (by omega)]; omega
  have e6 : (a % 4294967296 + b % 4294967296).tmod (Int.ofNat 4294967296) = (a + b) % 4294967296 := by
    rw [Int.tmod_eq_emod_of_nonneg (by omega)]
    show (a % 4294967296 + b % 4294967296) % 4294967296 = _
    omega
  by_cases c : 4294967296 ≤ (a + b) / 4294967296
  · have hs : sumOk a b = false := by simp only [sumOk, decide_eq_false_iff_not]; omega
    simp only [f145, runL, opQ, evOp, evO, evOs, guardV, argsA, pvs, putS, cellsOf, scals, scal, Nat.reduceEqDiff, Nat.reduceAdd, reduceCtorEq, fieldA, nonNil, cellsAt, mkAgg, allPV, storeB, patchL, Int.reduceToNat, Nat.reduceMul, Nat.reduceLT, stepA, Int.reduceNeg, Int.reduceLE, Int.reduceLT, Int.reduceEq, extractV, mkAgg, Nat.reduceLeDiff, fillA, pureVs, pureV, eqV, eqB, lenV, binV, intBin, intV, idxA, List.drop, List.take, RetP, retP, resV, resOne, snapV, snapVs, snapR, snapRs, ownSz, pickV, AO.isC, opE, opD, funV, k1.call, k2.call, k3.call, k4.call, e1, e2, e3, e4, e5, c, sumN, hs]
  · have hs : sumOk a b = true := by simp only [sumOk, decide_eq_true_eq]; omega
    have e7 : IntKind.u64.wrap ((a + b) / 4294967296 * 4294967296) = (a + b) / 4294967296 * 4294967296 := wrapU (by omega) (by omega)
    have e8 : IntKind.u64.wrap ((a + b) / 4294967296 * 4294967296 + (a + b) % 4294967296) = a + b := by
      rw [wrapU (by omega) (by omega)]; omega
    simp only [f145, runL, opQ, evOp, evO, evOs, guardV, argsA, pvs, putS, cellsOf, scals, scal, Nat.reduceEqDiff, Nat.reduceAdd, reduceCtorEq, fieldA, nonNil, cellsAt, mkAgg, allPV, storeB, patchL, Int.reduceToNat, Nat.reduceMul, Nat.reduceLT, stepA, Int.reduceNeg, Int.reduceLE, Int.reduceLT, Int.reduceEq, extractV, mkAgg, Nat.reduceLeDiff, fillA, pureVs, pureV, eqV, eqB, lenV, binV, intBin, intV, idxA, List.drop, List.take, RetP, retP, resV, resOne, snapV, snapVs, snapR, snapRs, ownSz, pickV, AO.isC, opE, opD, funV, k1.call, k2.call, k3.call, k4.call, e1, e2, e3, e4, e5, e6, e7, e8, c, sumN, hs]

def addV (a b : Vec) : Option Vec := eachV sumN sumOk a b
def vecB : Option Vec → PV
  | some v => .tuple [vecP v, .bool true]
  | none => .tuple [vecP vec0, .bool false]
set_option maxRecDepth 100000 in
set_option maxHeartbeats 4000000 in
theorem add1r_ok {T : Tab} (h140 : Std T 140 f140) (h145 : Std T 145 f145) (h144 : Std T 144 f144) (a b : Vec) (ha : a.wf) (hb : b.wf) : Gives T 140 [vecP a, vecP b] (vecB (addV a b)) := by
  refine gives h140 rfl ?_
  obtain ⟨x1, x2, x3, x4⟩ := ha
  obtain ⟨y1, y2, y3, y4⟩ := hb
  have ka := one_ok h145 h144 a.a b.a x1 y1
  have kb := one_ok h145 h144 a.b b.b x2 y2
  have kc := one_ok h145 h144 a.c b.c x3 y3
  have kd := one_ok h145 h144 a.d b.d x4 y4
  have w0 : IntKind.i64.wrap (0 + 1) = 1 := by decide
  have w1 : IntKind.i64.wrap (1 + 1) = 2 := by decide
  have w2 : IntKind.i64.wrap (2 + 1) = 3 := by decide
  have w3 : IntKind.i64.wrap (3 + 1) = 4 := by decide
  simp only [f140, runL, opQ, evOp, evO, evOs, guardV, argsA, pvs, putS, cellsOf, scals, scal, Nat.reduceEqDiff, Nat.reduceAdd, reduceCtorEq, fieldA, nonNil, cellsAt, mkAgg, allPV, storeB, patchL, Int.reduceToNat, Nat.reduceMul, Nat.reduceLT, stepA, Int.reduceNeg, Int.reduceLE, Int.reduceLT, Int.reduceEq, extractV, mkAgg, Nat.reduceLeDiff, fillA, pureVs, pureV, eqV, eqB, lenV, binV, intBin, intV, idxA, List.drop, List.take, RetP, retP, resV, resOne, snapV, snapVs, snapR, snapRs, ownSz, pickV, AO.isC, opE, opD, funV, vecP, vecC]
  rw [Wp_loop, Wp_eq f140l0.eq_1]
  simp only [runL, opQ, evOp, evO, evOs, guardV, argsA, pvs, putS, cellsOf, scals, scal, Nat.reduceEqDiff, Nat.reduceAdd, reduceCtorEq, fieldA, nonNil, cellsAt, mkAgg, allPV, storeB, patchL, Int.reduceToNat, Nat.reduceMul, Nat.reduceLT, stepA, Int.reduceNeg, Int.reduceLE, Int.reduceLT, Int.reduceEq, extractV, mkAgg, Nat.reduceLeDiff, fillA, pureVs, pureV, eqV, eqB, lenV, binV, intBin, intV, idxA, List.drop, List.take, RetP, retP, resV, resOne, snapV, snapVs, snapR, snapRs, ownSz, pickV, AO.isC, opE, opD, funV]
  refine (Wp_calm rfl).2 ?_
  cases e1 : sumOk a.a b.a
  · simp only [runL, opQ, evOp, evO, evOs, guardV, argsA, pvs, putS, cellsOf, scals, scal, Nat.reduceEqDiff, Nat.reduceAdd, reduceCtorEq, fieldA, nonNil, cellsAt, mkAgg, allPV, storeB, patchL, Int.reduceToNat, Nat.reduceMul, Nat.reduceLT, stepA, Int.reduceNeg, Int.reduceLE, Int.reduceLT, Int.reduceEq, extractV, mkAgg, Nat.reduceLeDiff, fillA, pureVs, pureV, eqV, eqB, lenV, binV, intBin, intV, idxA, List.drop, List.take, RetP, retP, resV, resOne, snapV, snapVs, snapR, snapRs, ownSz, pickV, AO.isC, opE, opD, funV, ka.callD, e1, addV, eachV, vecB, vecP, vecC, vec0]
  · simp only [runL, opQ, evOp, evO, evOs, guardV, argsA, pvs, putS, cellsOf, scals, scal, Nat.reduceEqDiff, Nat.reduceAdd, reduceCtorEq, fieldA, nonNil, cellsAt, mkAgg, allPV, storeB, patchL, Int.reduceToNat, Nat.reduceMul, Nat.reduceLT, stepA, Int.reduceNeg, Int.reduceLE, Int.reduceLT, Int.reduceEq, extractV, mkAgg, Nat.reduceLeDiff, fillA, pureVs, pureV, eqV, eqB, lenV, binV, intBin, intV, idxA, List.drop, List.take, RetP, retP, resV, resOne, snapV, snapVs, snapR, snapRs, ownSz, pickV, AO.isC, opE, opD, funV, ka.callD, e1, w0]
    rw [Wp_loop, Wp_eq f140l0.eq_1]
    simp only [runL, opQ, evOp, evO, evOs, guardV, argsA, pvs, putS, cellsOf, scals, scal, Nat.reduceEqDiff, Nat.reduceAdd, reduceCtorEq, fieldA, nonNil, cellsAt, mkAgg, allPV, storeB, patchL, Int.reduceToNat, Nat.reduceMul, Nat.reduceLT, stepA, Int.reduceNeg, Int.reduceLE, Int.reduceLT, Int.reduceEq, extractV, mkAgg, Nat.reduceLeDiff, fillA, pureVs, pureV, eqV, eqB, lenV, binV, intBin, intV, idxA, List.drop, List.take, RetP, retP, resV, resOne, snapV, snapVs, snapR, snapRs, ownSz, pickV, AO.isC, opE, opD, funV]
    refine (Wp_calm rfl).2 ?_
    cases e2 : sumOk a.b b.b
    · simp only [runL, opQ, evOp, evO, evOs, guardV, argsA, pvs, putS, cellsOf, scals, scal, Nat.reduceEqDiff, Nat.reduceAdd, reduceCtorEq, fieldA, nonNil, cellsAt, mkAgg, allPV, storeB, patchL, Int.reduceToNat, Nat.reduceMul, Nat.reduceLT, stepA, Int.reduceNeg, Int.reduceLE, Int.reduceLT, Int.reduceEq, extractV, mkAgg, Nat.reduceLeDiff, fillA, pureVs, pureV, eqV, eqB, lenV, binV, intBin, intV, idxA, List.drop, List.take, RetP, retP, resV, resOne, snapV, snapVs, snapR, snapRs, ownSz, pickV, AO.isC, opE, opD, funV, kb.callD, e1, e2, addV, eachV, vecB, vecP, vecC, vec0]
    · simp only [runL, opQ, evOp, evO, evOs, guardV, argsA, pvs, putS, cellsOf, scals, scal, Nat.reduceEqDiff, Nat.reduceAdd, reduceCtorEq, fieldA, nonNil, cellsAt, mkAgg, allPV, storeB, patchL, Int.reduceToNat, Nat.reduceMul, Nat.reduceLT, stepA, Int.reduceNeg, Int.reduceLE, Int.reduceLT, Int.reduceEq, extractV, mkAgg, Nat.reduceLeDiff, fillA, pureVs, pureV, eqV, eqB, lenV, binV, intBin, intV, idxA, List.drop, List.take, RetP, retP, resV, resOne, snapV, snapVs, snapR, snapRs, ownSz, pickV, AO.isC, opE, opD, funV, kb.callD, e2, w1]
      rw [Wp_loop, Wp_eq f140l0.eq_1]
      simp only [runL, opQ, evOp, evO, evOs, guardV, argsA, pvs, putS, cellsOf, scals, scal, Nat.reduceEqDiff, Nat.reduceAdd, reduceCtorEq, fieldA, nonNil, cellsAt, mkAgg, allPV, storeB, patchL, Int.reduceToNat, Nat.reduceMul, Nat.reduceLT, stepA, Int.reduceNeg, Int.reduceLE, Int.reduceLT, Int.reduceEq, extractV, mkAgg, Nat.reduceLeDiff, fillA, pureVs, pureV, eqV, eqB, lenV, binV, intBin, intV, idxA, List.drop, List.take, RetP, retP, resV, resOne, snapV, snapVs, snapR, snapRs, ownSz, pickV, AO.isC, opE, opD, funV]
      refine (Wp_calm rfl).2 ?_
      cases e3 : sumOk a.c b.c
      · simp only [runL, opQ, evOp, evO, evOs, guardV, argsA, pvs, putS, cellsOf, scals, scal, Nat.reduceEqDiff, Nat.reduceAdd, reduceCtorEq, fieldA, nonNil, cellsAt, mkAgg, allPV, storeB, patchL, Int.reduceToNat, Nat.reduceMul, Nat.reduceLT, stepA, Int.reduceNeg, Int.reduceLE, Int.reduceLT, Int.reduceEq, extractV, mkAgg, Nat.reduceLeDiff, fillA, pureVs, pureV, eqV, eqB, lenV, binV, intBin, intV, idxA, List.drop, List.take, RetP, retP, resV, resOne, snapV, snapVs, snapR, snapRs, ownSz, pickV, AO.isC, opE, opD, funV, kc.callD, e1, e2, e3, addV, eachV, vecB, vecP, vecC, vec0]
      · simp only [runL, opQ, evOp, evO, evOs, guardV, argsA, pvs, putS, cellsOf, scals, scal, Nat.reduceEqDiff, Nat.reduceAdd, reduceCtorEq, fieldA, nonNil, cellsAt, mkAgg, allPV, storeB, patchL, Int.reduceToNat, Nat.reduceMul, Nat.reduceLT, stepA, Int.reduceNeg, Int.reduceLE, Int.reduceLT, Int.reduceEq, extractV, mkAgg, Nat.reduceLeDiff, fillA, pureVs, pureV, eqV, eqB, lenV, binV, intBin, intV, idxA, List.drop, List.take, RetP, retP, resV, resOne, snapV, snapVs, snapR, snapRs, ownSz, pickV, AO.isC, opE, opD, funV, kc.callD, e3, w2]
        rw [Wp_loop, Wp_eq f140l0.eq_1]
        simp only [runL, opQ, evOp, evO, evOs, guardV, argsA, pvs, putS, cellsOf, scals, scal, Nat.reduceEqDiff, Nat.reduceAdd, reduceCtorEq, fieldA, nonNil, cellsAt, mkAgg, allPV, storeB, patchL, Int.reduceToNat, Nat.reduceMul, Nat.reduceLT, stepA, Int.reduceNeg, Int.reduceLE, Int.reduceLT, Int.reduceEq, extractV, mkAgg, Nat.reduceLeDiff, fillA, pureVs, pureV, eqV, eqB, lenV, binV, intBin, intV, idxA, List.drop, List.take, RetP, retP, resV, resOne, snapV, snapVs, snapR, snapRs, ownSz, pickV, AO.isC, opE, opD, funV]
        refine (Wp_calm rfl).2 ?_
        cases e4 : sumOk a.d b.d
        · simp only [runL, opQ, evOp, evO, evOs, guardV, argsA, pvs, putS, cellsOf, scals, scal, Nat.reduceEqDiff, Nat.reduceAdd, reduceCtorEq, fieldA, nonNil, cellsAt, mkAgg, allPV, storeB, patchL, Int.reduceToNat, Nat.reduceMul, Nat.reduceLT, stepA, Int.reduceNeg, Int.reduceLE, Int.reduceLT, Int.reduceEq, extractV, mkAgg, Nat.reduceLeDiff, fillA, pureVs, pureV, eqV, eqB, lenV, binV, intBin, intV, idxA, List.drop, List.take, RetP, retP, resV, resOne, snapV, snapVs, snapR, snapRs, ownSz, pickV, AO.isC, opE, opD, funV, kd.callD, e1, e2, e3, e4, addV, eachV, vecB, vecP, vecC, vec0]
        · simp only [runL, opQ, evOp, evO, evOs, guardV, argsA, pvs, putS, cellsOf, scals, scal, Nat.reduceEqDiff, Nat.reduceAdd, reduceCtorEq, fieldA, nonNil, cellsAt, mkAgg, allPV, storeB, patchL, Int.reduceToNat, Nat.reduceMul, Nat.reduceLT, stepA, Int.reduceNeg, Int.reduceLE, Int.reduceLT, Int.reduceEq, extractV, mkAgg, Nat.reduceLeDiff, fillA, pureVs, pureV, eqV, eqB, lenV, binV, intBin, intV, idxA, List.drop, List.take, RetP, retP, resV, resOne, snapV, snapVs, snapR, snapRs, ownSz, pickV, AO.isC, opE, opD, funV, kd.callD, e4, w3]
          rw [Wp_loop, Wp_eq f140l0.eq_1]
          simp only [runL, opQ, evOp, evO, evOs, guardV, argsA, pvs, putS, cellsOf, scals, scal, Nat.reduceEqDiff, Nat.reduceAdd, reduceCtorEq, fieldA, nonNil, cellsAt, mkAgg, allPV, storeB, patchL, Int.reduceToNat, Nat.reduceMul, Nat.reduceLT, stepA, Int.reduceNeg, Int.reduceLE, Int.reduceLT, Int.reduceEq, extractV, mkAgg, Nat.reduceLeDiff, fillA, pureVs, pureV, eqV, eqB, lenV, binV, intBin, intV, idxA, List.drop, List.take, RetP, retP, resV, resOne, snapV, snapVs, snapR, snapRs, ownSz, pickV, AO.isC, opE, opD, funV, e1, e2, e3, e4, addV, eachV, vecB, vecP, vecC, vec0]

def fitsB (a b : Vec) : Bool := decide (a.a ≤ b.a) && (decide (a.b ≤ b.b) && (decide (a.c ≤ b.c) && decide (a.d ≤ b.d)))
theorem fits_ok {T : Tab} (h141 : Std T 141 f141) (a b : Vec) : Gives T 141 [vecP a, vecP b] (.bool (fitsB a b)) := by
  refine gives h141 rfl ?_
  unfold fitsB
  by_cases c1 : a.a ≤ b.a
  · by_cases c2 : a.b ≤ b.b
    · by_cases c3 : a.c ≤ b.c
      · by_cases c4 : a.d ≤ b.d
        · simp only [f141, runL, opQ, evOp, evO, evOs, guardV, argsA, pvs, putS, cellsOf, scals, scal, Nat.reduceEqDiff, Nat.reduceAdd, reduceCtorEq, fieldA, nonNil, cellsAt, mkAgg, allPV, storeB, patchL, Int.reduceToNat, Nat.reduceMul, Nat.reduceLT, stepA, Int.reduceNeg, Int.reduceLE, Int.reduceLT, Int.reduceEq, extractV, mkAgg, Nat.reduceLeDiff, fillA, pureVs, pureV, eqV, eqB, lenV, binV, intBin, intV, idxA, List.drop, List.take, RetP, retP, resV, resOne, snapV, snapVs, snapR, snapRs, ownSz, pickV, AO.isC, opE, opD, funV, vecP, vecC, c1, c2, c3, c4, Bool.and_true]
        · simp only [f141, runL, opQ, evOp, evO, evOs, guardV, argsA, pvs, putS, cellsOf, scals, scal, Nat.reduceEqDiff, Nat.reduceAdd, reduceCtorEq, fieldA, nonNil, cellsAt, mkAgg, allPV, storeB, patchL, Int.reduceToNat, Nat.reduceMul, Nat.reduceLT, stepA, Int.reduceNeg, Int.reduceLE, Int.reduceLT, Int.reduceEq, extractV, mkAgg, Nat.reduceLeDiff, fillA, pureVs, pureV, eqV, eqB, lenV, binV, intBin, intV, idxA, List.drop, List.take, RetP, retP, resV, resOne, snapV, snapVs, snapR, snapRs, ownSz, pickV, AO.isC, opE, opD, funV, vecP, vecC, c1, c2, c3, c4, Bool.and_true, Bool.and_false]
      · simp only [f141, runL, opQ, evOp, evO, evOs, guardV, argsA, pvs, putS, cellsOf, scals, scal, Nat.reduceEqDiff, Nat.reduceAdd, reduceCtorEq, fieldA, nonNil, cellsAt, mkAgg, allPV, storeB, patchL, Int.reduceToNat, Nat.reduceMul, Nat.reduceLT, stepA, Int.reduceNeg, Int.reduceLE, Int.reduceLT, Int.reduceEq, extractV, mkAgg, Nat.reduceLeDiff, fillA, pureVs, pureV, eqV, eqB, lenV, binV, intBin, intV, idxA, List.drop, List.take, RetP, retP, resV, resOne, snapV, snapVs, snapR, snapRs, ownSz, pickV, AO.isC, opE, opD, funV, vecP, vecC, c1, c2, c3, Bool.and_true, Bool.false_and, Bool.and_false]
    · simp only [f141, runL, opQ, evOp, evO, evOs, guardV, argsA, pvs, putS, cellsOf, scals, scal, Nat.reduceEqDiff, Nat.reduceAdd, reduceCtorEq, fieldA, nonNil, cellsAt, mkAgg, allPV, storeB, patchL, Int.reduceToNat, Nat.reduceMul, Nat.reduceLT, stepA, Int.reduceNeg, Int.reduceLE, Int.reduceLT, Int.reduceEq, extractV, mkAgg, Nat.reduceLeDiff, fillA, pureVs, pureV, eqV, eqB, lenV, binV, intBin, intV, idxA, List.drop, List.take, RetP, retP, resV, resOne, snapV, snapVs, snapR, snapRs, ownSz, pickV, AO.isC, opE, opD, funV, vecP, vecC, c1, c2, Bool.and_true, Bool.false_and, Bool.and_false]
  · simp only [f141, runL, opQ, evOp, evO, evOs, guardV, argsA, pvs, putS, cellsOf, scals, scal, Nat.reduceEqDiff, Nat.reduceAdd, reduceCtorEq, fieldA, nonNil, cellsAt, mkAgg, allPV, storeB, patchL, Int.reduceToNat, Nat.reduceMul, Nat.reduceLT, stepA, Int.reduceNeg, Int.reduceLE, Int.reduceLT, Int.reduceEq, extractV, mkAgg, Nat.reduceLeDiff, fillA, pureVs, pureV, eqV, eqB, lenV, binV, intBin, intV, idxA, List.drop, List.take, RetP, retP, resV, resOne, snapV, snapVs, snapR, snapRs, ownSz, pickV, AO.isC, opE, opD, funV, vecP, vecC, c1, Bool.false_and]
def diffN (x y : Int) : Int := IntKind.u64.wrap (x - y)
def leB (x y : Int) : Bool := decide (y ≤ x)
def subV' (a b : Vec) : Option Vec := eachV diffN leB a b
theorem subV_if (a b : Vec) : subV' a b = if fitsB b a = true then some ⟨diffN a.a b.a, diffN a.b b.b, diffN a.c b.c, diffN a.d b.d⟩ else none := by
  unfold subV' eachV leB fitsB
  by_cases c1 : b.a ≤ a.a <;> by_cases c2 : b.b ≤ a.b <;> by_cases c3 : b.c ≤ a.c <;> by_cases c4 : b.d ≤ a.d <;> simp [c1, c2, c3, c4]
theorem sub1r_ok {T : Tab} (h142 : Std T 142 f142) (h141 : Std T 141 f141) (a b : Vec) : Gives T 142 [vecP a, vecP b] (vecB (subV' a b)) := by
  refine gives h142 rfl ?_
  have k := fits_ok h141 b a
  simp only [vecP, vecC] at k
  rw [subV_if]
  cases hf : fitsB b a
  · rw [hf] at k
    simp only [f142, runL, opQ, evOp, evO, evOs, guardV, argsA, pvs, putS, cellsOf, scals, scal, Nat.reduceEqDiff, Nat.reduceAdd, reduceCtorEq, fieldA, nonNil, cellsAt, mkAgg, allPV, storeB, patchL, Int.reduceToNat, Nat.reduceMul, Nat.reduceLT, stepA, Int.reduceNeg, Int.reduceLE, Int.reduceLT, Int.reduceEq, extractV, mkAgg, Nat.reduceLeDiff, fillA, pureVs, pureV, eqV, eqB, lenV, binV, intBin, intV, idxA, List.drop, List.take, RetP, retP, resV, resOne, snapV, snapVs, snapR, snapRs, ownSz, pickV, AO.isC, opE, opD, funV, vecP, vecC, k.call, vecB, vec0]
  · rw [hf] at k
    simp only [f142, runL, opQ, evOp, evO, evOs, guardV, argsA, pvs, putS, cellsOf, scals, scal, Nat.reduceEqDiff, Nat.reduceAdd, reduceCtorEq, fieldA, nonNil, cellsAt, mkAgg, allPV, storeB, patchL, Int.reduceToNat, Nat.reduceMul, Nat.reduceLT, stepA, Int.reduceNeg, Int.reduceLE, Int.reduceLT, Int.reduceEq, extractV, mkAgg, Nat.reduceLeDiff, fillA, pureVs, pureV, eqV, eqB, lenV, binV, intBin, intV, idxA, List.drop, List.take, RetP, retP, resV, resOne, snapV, snapVs, snapR, snapRs, ownSz, pickV, AO.isC, opE, opD, funV, vecP, vecC, k.call, vecB, diffN]

/-! ### vec's own sums -/
theorem sub_ok {T : Tab} (h258 : Std T 258 f258) (h261 : Std T 261 f261) (h259 : Std T 259 f259) (a b : Vec) : Gives T 258 [vecP a, vecP b] (vecR (subV' a b)) := by
  refine gives h258 rfl ?_
  have k := each_ok h261 (n := 259) diffN leB a b (sub1_ok h259 _ _) (sub1_ok h259 _ _) (sub1_ok h259 _ _) (sub1_ok h259 _ _)
  simp only [vecP, vecC] at k
  have e : eachV diffN leB a b = subV' a b := rfl
  rw [e] at k
  cases ho : subV' a b with
  | none =>
    rw [ho] at k
    simp only [vecR, vecP, vecC, vec0, codeE] at k
    simp only [f258, runL, opQ, evOp, evO, evOs, guardV, argsA, pvs, putS, cellsOf, scals, scal, Nat.reduceEqDiff, Nat.reduceAdd, reduceCtorEq, fieldA, nonNil, cellsAt, mkAgg, allPV, storeB, patchL, Int.reduceToNat, Nat.reduceMul, Nat.reduceLT, stepA, Int.reduceNeg, Int.reduceLE, Int.reduceLT, Int.reduceEq, extractV, mkAgg, Nat.reduceLeDiff, fillA, pureVs, pureV, eqV, eqB, lenV, binV, intBin, intV, idxA, List.drop, List.take, RetP, retP, resV, resOne, snapV, snapVs, snapR, snapRs, ownSz, pickV, AO.isC, opE, opD, funV, vecP, vecC, k.call, vecR, vec0, codeE]
  | some v =>
    rw [ho] at k
    simp only [vecR, vecP, vecC] at k
    simp only [f258, runL, opQ, evOp, evO, evOs, guardV, argsA, pvs, putS, cellsOf, scals, scal, Nat.reduceEqDiff, Nat.reduceAdd, reduceCtorEq, fieldA, nonNil, cellsAt, mkAgg, allPV, storeB, patchL, Int.reduceToNat, Nat.reduceMul, Nat.reduceLT, stepA, Int.reduceNeg, Int.reduceLE, Int.reduceLT, Int.reduceEq, extractV, mkAgg, Nat.reduceLeDiff, fillA, pureVs, pureV, eqV, eqB, lenV, binV, intBin, intV, idxA, List.drop, List.take, RetP, retP, resV, resOne, snapV, snapVs, snapR, snapRs, ownSz, pickV, AO.isC, opE, opD, funV, vecP, vecC, k.call, vecR]

/-- vec's own addition of two numbers, shown apart. -/
def add1P (args : List AV) (hp : Hl) (nx : Nat) : Option (AV × Hl × Nat) :=
  match args with
  | [.pv (.int .u64 x), .pv (.int .u64 y)] => if 0 ≤ x ∧ x ≤ 18446744073709551615 ∧ 0 ≤ y ∧ y ≤ 18446744073709551615 then some (.pv (.tuple [.int .u64 ((x + y) % 18446744073709551616), .bool (sumOk x y)]), hp, nx) else none
  | _ => none
theorem add1P_raw {E : Env} {n : Nat} (hent : Ent E n)
    (h1 : ∀ (x y : Nat) (w : World), Calls E.P (E.ρ n) #[.int .u64 (x : Int), .int .u64 (y : Int)] w fun e w' => e = .returned (.tuple #[.int .u64 (((x + y) % 18446744073709551616 : Nat) : Int), .bool (decide (((x + y) / 18446744073709551616 : Nat) = 0))]) ∧ w' = w)
    (args : List AV) (hp : Hl) (nx : Nat) (v : AV) (hp' : Hl) (nx' : Nat) (h : add1P args hp nx = some (v, hp', nx')) : RawC E n args hp nx v hp' nx' := by
  refine ⟨hent, fun X M F a w vs hX R hv => ?_⟩
  subst hX
  unfold add1P at h
  split at h
  · rename_i x y
    split at h
    · rename_i hc
      simp only [Option.some.injEq, Prod.mk.injEq] at h
      obtain ⟨rfl, rfl, rfl⟩ := h
      simp only [VAs, VA, VP] at hv
      obtain ⟨_, _, rfl, rfl, _, _, rfl, rfl, rfl⟩ := hv
      obtain ⟨m, rfl⟩ : ∃ m : Nat, x = m := ⟨x.toNat, by omega⟩
      obtain ⟨k, rfl⟩ : ∃ k : Nat, y = k := ⟨y.toNat, by omega⟩
      refine (h1 m k w).mono fun e w' hh => ?_
      obtain ⟨rfl, rfl⟩ := hh
      refine ⟨_, M, rfl, R, ?_⟩
      simp only [VA, VP, VPs]
      refine ⟨_, rfl, _, _, rfl, ?_, _, _, rfl, ?_, rfl⟩
      · rw [show (((m + k) % 18446744073709551616 : Nat) : Int) = ((m : Int) + (k : Int)) % 18446744073709551616 by omega]
      · have : (decide ((m + k) / 18446744073709551616 = 0)) = sumOk (m : Int) (k : Int) := by
          simp only [sumOk]
          rw [decide_eq_decide]
          omega
        rw [this]
    · simp at h
  · simp at h
theorem add1_ok {T : Tab} {n : Nat} (S : StdP T n add1P) (x y : Int) (hx : inU x) (hy : inU y) : Gives T n [.int .u64 x, .int .u64 y] (.tuple [.int .u64 ((x + y) % 18446744073709551616), .bool (sumOk x y)]) := by
  refine ⟨S.raw, S.own, none, ?_⟩
  have : add1P (pvs [.int .u64 x, .int .u64 y]) [] 0 = some (.pv (.tuple [.int .u64 ((x + y) % 18446744073709551616), .bool (sumOk x y)]), [], 0) := by
    simp only [pvs, add1P]
    rw [if_pos ⟨hx.1, hx.2, hy.1, hy.2⟩]
  unfold callP
  rw [D_prim S.prim this]
  simp only [snapV, snapR, ownSz]
def modN (x y : Int) : Int := (x + y) % 18446744073709551616
theorem addV_mod (a b : Vec) (ha : a.wf) (hb : b.wf) : eachV modN sumOk a b = addV a b := by
  obtain ⟨⟨p1, _⟩, ⟨p2, _⟩, ⟨p3, _⟩, ⟨p4, _⟩⟩ := ha
  obtain ⟨⟨q1, _⟩, ⟨q2, _⟩, ⟨q3, _⟩, ⟨q4, _⟩⟩ := hb
  have key : ∀ x y : Int, 0 ≤ x → 0 ≤ y → sumOk x y = true → modN x y = sumN x y := by
    intro x y h1 h2 h3
    simp only [sumN, h3, cond_true, modN]
    simp only [sumOk, decide_eq_true_eq] at h3
    omega
  unfold addV eachV
  cases c1 : sumOk a.a b.a
  · simp
  · cases c2 : sumOk a.b b.b
    · simp
    · cases c3 : sumOk a.c b.c
      · simp
      · cases c4 : sumOk a.d b.d
        · simp
        · simp only [if_true, key _ _ p1 q1 c1, key _ _ p2 q2 c2, key _ _ p3 q3 c3, key _ _ p4 q4 c4]
theorem add_ok {T : Tab} (h255 : Std T 255 f255) (h261 : Std T 261 f261) (S : StdP T 256 add1P) (a b : Vec) (ha : a.wf) (hb : b.wf) : Gives T 255 [vecP a, vecP b] (vecR (addV a b)) := by
  refine gives h255 rfl ?_
  have hA := ha
  have hB := hb
  obtain ⟨x1, x2, x3, x4⟩ := ha
  obtain ⟨y1, y2, y3, y4⟩ := hb
  have k := each_ok h261 (n := 256) modN sumOk a b (add1_ok S _ _ x1 y1) (add1_ok S _ _ x2 y2) (add1_ok S _ _ x3 y3) (add1_ok S _ _ x4 y4)
  simp only [vecP, vecC] at k
  rw [addV_mod a b hA hB] at k
  cases ho : addV a b with
  | none =>
    rw [ho] at k
    simp only [vecR, vecP, vecC, vec0, codeE] at k
    simp only [f255, runL, opQ, evOp, evO, evOs, guardV, argsA, pvs, putS, cellsOf, scals, scal, Nat.reduceEqDiff, Nat.reduceAdd, reduceCtorEq, fieldA, nonNil, cellsAt, mkAgg, allPV, storeB, patchL, Int.reduceToNat, Nat.reduceMul, Nat.reduceLT, stepA, Int.reduceNeg, Int.reduceLE, Int.reduceLT, Int.reduceEq, extractV, mkAgg, Nat.reduceLeDiff, fillA, pureVs, pureV, eqV, eqB, lenV, binV, intBin, intV, idxA, List.drop, List.take, RetP, retP, resV, resOne, snapV, snapVs, snapR, snapRs, ownSz, pickV, AO.isC, opE, opD, funV, vecP, vecC, k.call, vecR, vec0, codeE]
  | some v =>
    rw [ho] at k
    simp only [vecR, vecP, vecC] at k
    simp only [f255, runL, opQ, evOp, evO, evOs, guardV, argsA, pvs, putS, cellsOf, scals, scal, Nat.reduceEqDiff, Nat.reduceAdd, reduceCtorEq, fieldA, nonNil, cellsAt, mkAgg, allPV, storeB, patchL, Int.reduceToNat, Nat.reduceMul, Nat.reduceLT, stepA, Int.reduceNeg, Int.reduceLE, Int.reduceLT, Int.reduceEq, extractV, mkAgg, Nat.reduceLeDiff, fillA, pureVs, pureV, eqV, eqB, lenV, binV, intBin, intV, idxA, List.drop, List.take, RetP, retP, resV, resOne, snapV, snapVs, snapR, snapRs, ownSz, pickV, AO.isC, opE, opD, funV, vecP, vecC, k.call, vecR]
end Go.Proofs.YtmeigdjfcecidaaDoor.Ab
/- Layer 1: sums of rows. -/
set_option linter.unusedVariables false
set_option linter.unusedSimpArgs false
namespace Go.Proofs.YtmeigdjfcecidaaDoor.Ab
open Go

theorem vecC_length (p : Vec) : (vecC p).length = 4 := rfl
theorem addV_wf {a b v : Vec} (ha : a.wf) (hb : b.wf) (h : addV a b = some v) : v.wf := by
  obtain ⟨⟨p1, _⟩, ⟨p2, _⟩, ⟨p3, _⟩, ⟨p4, _⟩⟩ := ha
  obtain ⟨⟨q1, _⟩, ⟨q2, _⟩, ⟨q3, _⟩, ⟨q4, _⟩⟩ := hb
  have key : ∀ x y : Int, 0 ≤ x → 0 ≤ y → inU (sumN x y) := by
    intro x y h1 h2
    unfold sumN
    cases hs : sumOk x y
    · exact ⟨by simp, by simp⟩
    · simp only [sumOk, decide_eq_true_eq] at hs
      simp only [cond_true]
      exact ⟨by omega, by omega⟩
  unfold addV eachV at h
  split at h
  · split at h
    · split at h
      · split at h
        · simp only [Option.some.injEq] at h
          subst h
          exact ⟨key _ _ p1 q1, key _ _ p2 q2, key _ _ p3 q3, key _ _ p4 q4⟩
        · simp at h
      · simp at h
    · simp at h
  · simp at h
def sumFrom (acc : Vec) : List Vec → Option Vec
  | [] => some acc
  | v :: r => match addV acc v with
    | some n => sumFrom n r
    | none => none
structure StdV (T : Tab) : Prop where
  h255 : Std T 255 f255
  h261 : Std T 261 f261
  h256 : StdP T 256 add1P
  h260 : Std T 260 f260

theorem sum_loop {T : Tab} (S : StdV T) (l : List Vec) (hl : l.length ≤ 2 ^ 30) (hwf : ∀ v ∈ l, v.wf) (Q : Exit → St → Prop) (o : Option Vec)
    (hend : ∀ v, o = some v → ∀ fr hp nx, look fr 2 = .ptr 0 0 0 → look fr 4 = .ptr 1 0 0 → blkAt hp 0 = .var (pvs (vecC vec0)) → blkAt hp 1 = .var (pvs (vecC v)) → Q (.exit 0) ⟨fr, hp, nx⟩)
    (hret : o = none → ∀ fr hp nx, look fr 2 = .ptr 0 0 0 → look fr 3 = .pv (codeE 8) → blkAt hp 0 = .var (pvs (vecC vec0)) → Q .ret ⟨fr, hp, nx⟩) :
    ∀ (rest : List Vec) (i : Nat) (acc : Vec), l.drop i = rest → i ≤ l.length → acc.wf → sumFrom acc rest = o → ∀ (fr : List (Nat × AV)) (hp : Hl) (nx : Nat), 2 ≤ nx → look fr 2 = .ptr 0 0 0 → look fr 4 = .ptr 1 0 0 →
      blkAt hp 0 = .var (pvs (vecC vec0)) → blkAt hp 1 = .var (pvs (vecC acc)) → look fr 9 = .pv (.slice (l.map vecC)) → look fr 10 = .pv (.int .i64 l.length) → look fr 11 = .pv (.int .i64 i) → Wp T false (.loop f260l0) ⟨fr, hp, nx⟩ Q := by
  intro rest
  induction rest with
  | nil =>
    intro i acc hd hi ha ho fr hp nx hn h2 h4 b0 b1 h9 h10 h11
    have hlen := drop_nil hd hi
    rw [Wp_loop, Wp_eq f260l0.eq_1]
    simp only [runL, opQ, evOp, evO, evOs, guardV, argsA, pvs, putS, cellsOf, scals, scal, Nat.reduceEqDiff, Nat.reduceAdd, reduceCtorEq, fieldA, nonNil, cellsAt, mkAgg, allPV, storeB, patchL, Int.reduceToNat, Nat.reduceMul, Nat.reduceLT, stepA, Int.reduceNeg, Int.reduceLE, Int.reduceLT, Int.reduceEq, extractV, mkAgg, Nat.reduceLeDiff, fillA, pureVs, pureV, eqV, eqB, lenV, binV, intBin, intV, idxA, List.drop, List.take, RetP, retP, resV, resOne, snapV, snapVs, snapR, snapRs, ownSz, pickV, AO.isC, opE, opD, funV, h9, h10, h11, hlen, Int.lt_irrefl]
    refine hend acc ho.symm _ _ _ ?_ ?_ b0 b1
    all_goals simp only [look_if, Nat.reduceEqDiff, if_false, h2, h4]
  | cons v r ih =>
    intro i acc hd hi ha ho fr hp nx hn h2 h4 b0 b1 h9 h10 h11
    obtain ⟨hget, hlt, hw, hd', hi', hb⟩ := drop_cons hd hl
    have n0 : ¬ nx = 0 := by omega
    have n1 : ¬ nx = 1 := by omega
    have hv : v.wf := hwf v (List.mem_iff_getElem?.2 ⟨i, hget⟩)
    have k := add_ok S.h255 S.h261 S.h256 acc v ha hv
    have b0' := b0
    have b1' := b1
    simp only [vecC, vec0, pvs] at b0' b1'
    simp only [vecP, vecC] at k
    simp only [sumFrom] at ho
    rw [Wp_loop, Wp_eq f260l0.eq_1]
    cases hs : addV acc v with
    | none =>
      rw [hs] at k ho
      simp only [vecR, vecP, vecC, vec0, codeE] at k
      simp only [runL, opQ, evOp, evO, evOs, guardV, argsA, pvs, putS, cellsOf, scals, scal, Nat.reduceEqDiff, Nat.reduceAdd, reduceCtorEq, fieldA, nonNil, cellsAt, mkAgg, allPV, storeB, patchL, Int.reduceToNat, Nat.reduceMul, Nat.reduceLT, stepA, Int.reduceNeg, Int.reduceLE, Int.reduceLT, Int.reduceEq, extractV, mkAgg, Nat.reduceLeDiff, fillA, pureVs, pureV, eqV, eqB, lenV, binV, intBin, intV, idxA, List.drop, List.take, RetP, retP, resV, resOne, snapV, snapVs, snapR, snapRs, ownSz, pickV, AO.isC, opE, opD, funV, h2, h4, b0', b1', h9, h10, h11, hlt, hget, vecC, n0, n1, k.call]
      refine hret ho.symm _ _ _ ?_ ?_ ?_
      all_goals simp only [look_if, blkAt_if, Nat.reduceEqDiff, if_true, if_false, h2, codeE, vecC, vec0, pvs]
    | some n =>
      rw [hs] at k ho
      simp only [vecR, vecP, vecC] at k
      simp only [runL, opQ, evOp, evO, evOs, guardV, argsA, pvs, putS, cellsOf, scals, scal, Nat.reduceEqDiff, Nat.reduceAdd, reduceCtorEq, fieldA, nonNil, cellsAt, mkAgg, allPV, storeB, patchL, Int.reduceToNat, Nat.reduceMul, Nat.reduceLT, stepA, Int.reduceNeg, Int.reduceLE, Int.reduceLT, Int.reduceEq, extractV, mkAgg, Nat.reduceLeDiff, fillA, pureVs, pureV, eqV, eqB, lenV, binV, intBin, intV, idxA, List.drop, List.take, RetP, retP, resV, resOne, snapV, snapVs, snapR, snapRs, ownSz, pickV, AO.isC, opE, opD, funV, h2, h4, b0', b1', h9, h10, h11, hlt, hget, vecC, n0, n1, k.call, hw]
      refine ih (i + 1) n hd' hi' (addV_wf ha hv hs) ho _ _ _ (by omega) ?_ ?_ ?_ ?_ ?_ ?_ ?_
      all_goals simp only [look_if, blkAt_if, Nat.reduceEqDiff, if_true, if_false, h2, h4, b0, n0, n1, h9, h10, vecC, pvs]
theorem vec0_wf : vec0.wf := by
  refine ⟨⟨?_, ?_⟩, ⟨?_, ?_⟩, ⟨?_, ?_⟩, ⟨?_, ?_⟩⟩ <;> decide
theorem sum_ok {T : Tab} (S : StdV T) (l : List Vec) (hl : l.length ≤ 2 ^ 30) (hwf : ∀ v ∈ l, v.wf) : Gives T 260 [.slice (l.map vecC)] (vecR (sumFrom vec0 l)) := by
  refine gives S.h260 rfl ?_
  simp only [f260, runL, opQ, evOp, evO, evOs, guardV, argsA, pvs, putS, cellsOf, scals, scal, Nat.reduceEqDiff, Nat.reduceAdd, reduceCtorEq, fieldA, nonNil, cellsAt, mkAgg, allPV, storeB, patchL, Int.reduceToNat, Nat.reduceMul, Nat.reduceLT, stepA, Int.reduceNeg, Int.reduceLE, Int.reduceLT, Int.reduceEq, extractV, mkAgg, Nat.reduceLeDiff, fillA, pureVs, pureV, eqV, eqB, lenV, binV, intBin, intV, idxA, List.drop, List.take, RetP, retP, resV, resOne, snapV, snapVs, snapR, snapRs, ownSz, pickV, AO.isC, opE, opD, funV]
  refine sum_loop S l hl hwf _ (sumFrom vec0 l) (fun v ho fr hp nx g2 g4 c0 c1 => ?_) (fun ho fr hp nx g2 g3 c0 => ?_) l 0 vec0 rfl (Nat.zero_le _) vec0_wf rfl _ _ _ (Nat.le_refl _) rfl rfl rfl rfl rfl rfl rfl
  · simp only [vecC, vec0, pvs] at c0 c1
    simp only [ho]
    simp only [runL, opQ, evOp, evO, evOs, guardV, argsA, pvs, putS, cellsOf, scals, scal, Nat.reduceEqDiff, Nat.reduceAdd, reduceCtorEq, fieldA, nonNil, cellsAt, mkAgg, allPV, storeB, patchL, Int.reduceToNat, Nat.reduceMul, Nat.reduceLT, stepA, Int.reduceNeg, Int.reduceLE, Int.reduceLT, Int.reduceEq, extractV, mkAgg, Nat.reduceLeDiff, fillA, pureVs, pureV, eqV, eqB, lenV, binV, intBin, intV, idxA, List.drop, List.take, RetP, retP, resV, resOne, snapV, snapVs, snapR, snapRs, ownSz, pickV, AO.isC, opE, opD, funV, vecR, g2, g4, c0, c1, vecP, vecC]
  · simp only [vecC, vec0, pvs] at c0
    simp only [ho]
    simp only [runL, opQ, evOp, evO, evOs, guardV, argsA, pvs, putS, cellsOf, scals, scal, Nat.reduceEqDiff, Nat.reduceAdd, reduceCtorEq, fieldA, nonNil, cellsAt, mkAgg, allPV, storeB, patchL, Int.reduceToNat, Nat.reduceMul, Nat.reduceLT, stepA, Int.reduceNeg, Int.reduceLE, Int.reduceLT, Int.reduceEq, extractV, mkAgg, Nat.reduceLeDiff, fillA, pureVs, pureV, eqV, eqB, lenV, binV, intBin, intV, idxA, List.drop, List.take, RetP, retP, resV, resOne, snapV, snapVs, snapR, snapRs, ownSz, pickV, AO.isC, opE, opD, funV, vecR, g2, g3, c0, vecP, vecC, vec0]

theorem sumr_loop {T : Tab} (h140 : Std T 140 f140) (h145 : Std T 145 f145) (h144 : Std T 144 f144) (l : List Vec) (hl : l.length ≤ 2 ^ 30) (hwf : ∀ v ∈ l, v.wf) (Q : Exit → St → Prop) (o : Option Vec)
    (hend : ∀ fr hp nx, look fr 2 = .ptr 0 0 0 → look fr 4 = .ptr 1 0 0 → look fr 5 = .pv (.bool o.isSome) → blkAt hp 0 = .var (pvs (vecC vec0)) → blkAt hp 1 = .var (pvs (vecC (o.getD vec0))) → Q (.exit 0) ⟨fr, hp, nx⟩) :
    ∀ (rest : List Vec) (i : Nat) (acc : Vec), l.drop i = rest → i ≤ l.length → acc.wf → sumFrom acc rest = o → ∀ (fr : List (Nat × AV)) (hp : Hl) (nx : Nat), look fr 0 = .pv (.slice (l.map vecC)) → look fr 2 = .ptr 0 0 0 → look fr 4 = .ptr 1 0 0 → look fr 5 = .pv (.bool true) →
      blkAt hp 0 = .var (pvs (vecC vec0)) → blkAt hp 1 = .var (pvs (vecC acc)) → look fr 6 = .pv (.int .i64 i) → Wp T false (.loop f143l0) ⟨fr, hp, nx⟩ Q := by
  intro rest
  induction rest with
  | nil =>
    intro i acc hd hi ha ho fr hp nx h0 h2 h4 h5 b0 b1 h6
    have hlen := drop_nil hd hi
    simp only [sumFrom] at ho
    subst ho
    rw [Wp_loop, Wp_eq f143l0.eq_1]
    simp only [runL, opQ, evOp, evO, evOs, guardV, argsA, pvs, putS, cellsOf, scals, scal, Nat.reduceEqDiff, Nat.reduceAdd, reduceCtorEq, fieldA, nonNil, cellsAt, mkAgg, allPV, storeB, patchL, Int.reduceToNat, Nat.reduceMul, Nat.reduceLT, stepA, Int.reduceNeg, Int.reduceLE, Int.reduceLT, Int.reduceEq, extractV, mkAgg, Nat.reduceLeDiff, fillA, pureVs, pureV, eqV, eqB, lenV, binV, intBin, intV, idxA, List.drop, List.take, RetP, retP, resV, resOne, snapV, snapVs, snapR, snapRs, ownSz, pickV, AO.isC, opE, opD, funV, h0, h5, h6, hlen, Int.lt_irrefl]
    refine hend _ _ _ ?_ ?_ ?_ b0 b1
    all_goals simp only [look_if, Nat.reduceEqDiff, if_false, h2, h4, h5, Option.isSome_some]
  | cons v r ih =>
    intro i acc hd hi ha ho fr hp nx h0 h2 h4 h5 b0 b1 h6
    obtain ⟨hget, hlt, hw, hd', hi', hb⟩ := drop_cons hd hl
    have hv : v.wf := hwf v (List.mem_iff_getElem?.2 ⟨i, hget⟩)
    have k := add1r_ok h140 h145 h144 acc v ha hv
    have b0' := b0
    have b1' := b1
    simp only [vecC, vec0, pvs] at b0' b1'
    simp only [vecP, vecC] at k
    simp only [sumFrom] at ho
    rw [Wp_loop, Wp_eq f143l0.eq_1]
    simp only [runL, opQ, evOp, evO, evOs, guardV, argsA, pvs, putS, cellsOf, scals, scal, Nat.reduceEqDiff, Nat.reduceAdd, reduceCtorEq, fieldA, nonNil, cellsAt, mkAgg, allPV, storeB, patchL, Int.reduceToNat, Nat.reduceMul, Nat.reduceLT, stepA, Int.reduceNeg, Int.reduceLE, Int.reduceLT, Int.reduceEq, extractV, mkAgg, Nat.reduceLeDiff, fillA, pureVs, pureV, eqV, eqB, lenV, binV, intBin, intV, idxA, List.drop, List.take, RetP, retP, resV, resOne, snapV, snapVs, snapR, snapRs, ownSz, pickV, AO.isC, opE, opD, funV, h0, h5, h6, hlt]
    refine (Wp_calm rfl).2 ?_
    cases hs : addV acc v with
    | none =>
      rw [hs] at k ho
      simp only [vecB, vecP, vecC, vec0] at k
      subst ho
      have hz : l.length = i + 1 ∨ ((i + 1 : Nat) : Int) < (l.length : Int) := by omega
      simp only [runL, opQ, evOp, evO, evOs, guardV, argsA, pvs, putS, cellsOf, scals, scal, Nat.reduceEqDiff, Nat.reduceAdd, reduceCtorEq, fieldA, nonNil, cellsAt, mkAgg, allPV, storeB, patchL, Int.reduceToNat, Nat.reduceMul, Nat.reduceLT, stepA, Int.reduceNeg, Int.reduceLE, Int.reduceLT, Int.reduceEq, extractV, mkAgg, Nat.reduceLeDiff, fillA, pureVs, pureV, eqV, eqB, lenV, binV, intBin, intV, idxA, List.drop, List.take, RetP, retP, resV, resOne, snapV, snapVs, snapR, snapRs, ownSz, pickV, AO.isC, opE, opD, funV, h0, h2, h4, h5, b0', b1', h6, hget, vecC, k.callD, hw]
      rw [Wp_loop, Wp_eq f143l0.eq_1]
      rcases hz with hz | hz
      · have hz' : ¬ ((i + 1 : Nat) : Int) < (l.length : Int) := by omega
        simp only [runL, opQ, evOp, evO, evOs, guardV, argsA, pvs, putS, cellsOf, scals, scal, Nat.reduceEqDiff, Nat.reduceAdd, reduceCtorEq, fieldA, nonNil, cellsAt, mkAgg, allPV, storeB, patchL, Int.reduceToNat, Nat.reduceMul, Nat.reduceLT, stepA, Int.reduceNeg, Int.reduceLE, Int.reduceLT, Int.reduceEq, extractV, mkAgg, Nat.reduceLeDiff, fillA, pureVs, pureV, eqV, eqB, lenV, binV, intBin, intV, idxA, List.drop, List.take, RetP, retP, resV, resOne, snapV, snapVs, snapR, snapRs, ownSz, pickV, AO.isC, opE, opD, funV, h0, hz']
        refine hend _ _ _ ?_ ?_ ?_ ?_ ?_
        all_goals simp only [look_if, blkAt_if, Nat.reduceEqDiff, if_true, if_false, h2, h4, b0, Option.isSome_none, Option.getD_none, vecC, vec0, pvs]
      · simp only [runL, opQ, evOp, evO, evOs, guardV, argsA, pvs, putS, cellsOf, scals, scal, Nat.reduceEqDiff, Nat.reduceAdd, reduceCtorEq, fieldA, nonNil, cellsAt, mkAgg, allPV, storeB, patchL, Int.reduceToNat, Nat.reduceMul, Nat.reduceLT, stepA, Int.reduceNeg, Int.reduceLE, Int.reduceLT, Int.reduceEq, extractV, mkAgg, Nat.reduceLeDiff, fillA, pureVs, pureV, eqV, eqB, lenV, binV, intBin, intV, idxA, List.drop, List.take, RetP, retP, resV, resOne, snapV, snapVs, snapR, snapRs, ownSz, pickV, AO.isC, opE, opD, funV, h0, hz]
        refine hend _ _ _ ?_ ?_ ?_ ?_ ?_
        all_goals simp only [look_if, blkAt_if, Nat.reduceEqDiff, if_true, if_false, h2, h4, b0, Option.isSome_none, Option.getD_none, vecC, vec0, pvs]
    | some n =>
      rw [hs] at k ho
      simp only [vecB, vecP, vecC] at k
      simp only [runL, opQ, evOp, evO, evOs, guardV, argsA, pvs, putS, cellsOf, scals, scal, Nat.reduceEqDiff, Nat.reduceAdd, reduceCtorEq, fieldA, nonNil, cellsAt, mkAgg, allPV, storeB, patchL, Int.reduceToNat, Nat.reduceMul, Nat.reduceLT, stepA, Int.reduceNeg, Int.reduceLE, Int.reduceLT, Int.reduceEq, extractV, mkAgg, Nat.reduceLeDiff, fillA, pureVs, pureV, eqV, eqB, lenV, binV, intBin, intV, idxA, List.drop, List.take, RetP, retP, resV, resOne, snapV, snapVs, snapR, snapRs, ownSz, pickV, AO.isC, opE, opD, funV, h0, h2, h4, h5, b0', b1', h6, hget, vecC, k.callD, hw]
      refine ih (i + 1) n hd' hi' (addV_wf ha hv hs) ho _ _ _ ?_ ?_ ?_ ?_ ?_ ?_ ?_
      all_goals simp only [look_if, blkAt_if, Nat.reduceEqDiff, if_true, if_false, h0, h2, h4, b0, vecC, pvs]
theorem sumr_ok {T : Tab} (h143 : Std T 143 f143) (h140 : Std T 140 f140) (h145 : Std T 145 f145) (h144 : Std T 144 f144) (l : List Vec) (hl : l.length ≤ 2 ^ 30) (hwf : ∀ v ∈ l, v.wf) : Gives T 143 [.slice (l.map vecC)] (vecB (sumFrom vec0 l)) := by
  refine gives h143 rfl ?_
  simp only [f143, runL, opQ, evOp, evO, evOs, guardV, argsA, pvs, putS, cellsOf, scals, scal, Nat.reduceEqDiff, Nat.reduceAdd, reduceCtorEq, fieldA, nonNil, cellsAt, mkAgg, allPV, storeB, patchL, Int.reduceToNat, Nat.reduceMul, Nat.reduceLT, stepA, Int.reduceNeg, Int.reduceLE, Int.reduceLT, Int.reduceEq, extractV, mkAgg, Nat.reduceLeDiff, fillA, pureVs, pureV, eqV, eqB, lenV, binV, intBin, intV, idxA, List.drop, List.take, RetP, retP, resV, resOne, snapV, snapVs, snapR, snapRs, ownSz, pickV, AO.isC, opE, opD, funV]
  refine sumr_loop h140 h145 h144 l hl hwf _ (sumFrom vec0 l) (fun fr hp nx g2 g4 g5 c0 c1 => ?_) l 0 vec0 rfl (Nat.zero_le _) vec0_wf rfl _ _ _ rfl rfl rfl rfl rfl rfl rfl
  cases ho : sumFrom vec0 l with
  | none =>
    rw [ho] at g5 c1
    simp only [vecC, vec0, pvs, Option.getD_none, Option.isSome_none] at c0 c1 g5
    simp only [runL, opQ, evOp, evO, evOs, guardV, argsA, pvs, putS, cellsOf, scals, scal, Nat.reduceEqDiff, Nat.reduceAdd, reduceCtorEq, fieldA, nonNil, cellsAt, mkAgg, allPV, storeB, patchL, Int.reduceToNat, Nat.reduceMul, Nat.reduceLT, stepA, Int.reduceNeg, Int.reduceLE, Int.reduceLT, Int.reduceEq, extractV, mkAgg, Nat.reduceLeDiff, fillA, pureVs, pureV, eqV, eqB, lenV, binV, intBin, intV, idxA, List.drop, List.take, RetP, retP, resV, resOne, snapV, snapVs, snapR, snapRs, ownSz, pickV, AO.isC, opE, opD, funV, vecB, g2, g4, g5, c0, c1, vecP, vecC, vec0]
  | some v =>
    rw [ho] at g5 c1
    simp only [vecC, vec0, pvs, Option.getD_some, Option.isSome_some] at c0 c1 g5
    simp only [runL, opQ, evOp, evO, evOs, guardV, argsA, pvs, putS, cellsOf, scals, scal, Nat.reduceEqDiff, Nat.reduceAdd, reduceCtorEq, fieldA, nonNil, cellsAt, mkAgg, allPV, storeB, patchL, Int.reduceToNat, Nat.reduceMul, Nat.reduceLT, stepA, Int.reduceNeg, Int.reduceLE, Int.reduceLT, Int.reduceEq, extractV, mkAgg, Nat.reduceLeDiff, fillA, pureVs, pureV, eqV, eqB, lenV, binV, intBin, intV, idxA, List.drop, List.take, RetP, retP, resV, resOne, snapV, snapVs, snapR, snapRs, ownSz, pickV, AO.isC, opE, opD, funV, vecB, g2, g4, g5, c0, c1, vecP, vecC]
end Go.Proofs.YtmeigdjfcecidaaDoor.Ab
/- The code of functions, by our numbers. -/
set_option linter.unusedVariables false
namespace Go.Proofs.YtmeigdjfcecidaaDoor.Ab
def f82l0 : ACode :=
 (.seq (.ops [
   ⟨some 12, .bin .lss none (.t 11) (.t 10), none, []⟩])
  (.seq (.cond (.t 12)
   .skip
   (.exit 0))
  (.seq (.block 1
   (.seq (.ops [
     ⟨some 13, .idxAddr 10 (.t 9) (.t 11), none, []⟩,
     ⟨some 14, .load true 10 (.t 13), none, [0]⟩,
     ⟨some 7, .alloc [(.pv (.int .i64 0)), (.pv (.int .i64 0)), (.pv (.int .u64 0)), (.pv (.int .u64 0)), (.pv (.int .u64 0)), (.pv (.int .u64 0)), (.pv (.int .u64 0)), (.pv (.int .u64 0)), (.pv (.int .u64 0)), (.pv (.int .u64 0))], none, []⟩,
     ⟨none, .store 10 (.t 7) (.t 14), none, [2, 1, 0, 1, 2]⟩])
    (.seq (.ops [
     ⟨some 15, .fieldAddr 0 (.t 7), none, []⟩,
     ⟨some 16, .load false 1 (.t 15), none, [0]⟩,
     ⟨some 17, .mv (.t 1), none, []⟩,
     ⟨some 18, .bin .eql none (.t 16) (.t 17), none, [1, 2]⟩])
    (.cond (.t 18)
     (.seq (.ops [
       ⟨some 19, .load true 10 (.t 7), none, []⟩,
       ⟨none, .store 10 (.t 4) (.t 19), none, [0, 0]⟩,
       ⟨some 5, .mv (.c (.pv (.bool true))), none, [1, 0, 1]⟩])
      .ret)
     .skip))))
  (.ops [
   ⟨some 20, .bin .add none (.t 11) (.c (.pv (.int .i64 1))), none, []⟩,
   ⟨some 11, .mv (.t 20), none, [0]⟩]))))
/-- dunnage/cluster.Node -/
def f82 : AFunc := ⟨22, [.cell 4 true 10, .t 5],
 (.seq (.ops [
   ⟨some 2, .box (.t 0), none, []⟩,
   ⟨some 4, .alloc [(.pv (.int .i64 0)), (.pv (.int .i64 0)), (.pv (.int .u64 0)), (.pv (.int .u64 0)), (.pv (.int .u64 0)), (.pv (.int .u64 0)), (.pv (.int .u64 0)), (.pv (.int .u64 0)), (.pv (.int .u64 0)), (.pv (.int .u64 0))], none, []⟩,
   ⟨some 5, .mv (.c (.pv (.bool false))), none, []⟩])
  (.seq (.seq (.ops [
   ⟨some 8, .fieldAddr 0 (.t 2), none, []⟩,
   ⟨some 9, .load false 1 (.t 8), none, [0]⟩,
   ⟨some 10, .len (.t 9), none, [1]⟩,
   ⟨some 11, .mv (.c (.pv (.int .i64 0))), none, []⟩])
  (.block 0
   (.loop f82l0)))
  (.seq (.ops [
   ⟨some 21, .build [(.pv (.int .i64 0)), (.pv (.int .i64 0)), (.pv (.int .u64 0)), (.pv (.int .u64 0)), (.pv (.int .u64 0)), (.pv (.int .u64 0)), (.pv (.int .u64 0)), (.pv (.int .u64 0)), (.pv (.int .u64 0)), (.pv (.int .u64 0))] [], none, []⟩,
   ⟨none, .store 10 (.t 4) (.t 21), none, [0, 0]⟩,
   ⟨some 5, .mv (.c (.pv (.bool false))), none, [1, 0, 1]⟩])
  .ret)))⟩

def f83l0 : ACode :=
 (.seq (.ops [
   ⟨some 12, .bin .lss none (.t 11) (.t 10), none, []⟩])
  (.seq (.cond (.t 12)
   .skip
   (.exit 0))
  (.seq (.block 1
   (.seq (.ops [
     ⟨some 13, .idxAddr 6 (.t 9) (.t 11), none, []⟩,
     ⟨some 14, .load true 6 (.t 13), none, [0]⟩,
     ⟨some 7, .alloc [(.pv (.int .i64 0)), (.pv (.int .u64 0)), (.pv (.int .u64 0)), (.pv (.int .u64 0)), (.pv (.int .u64 0)), (.pv (.bool false))], none, []⟩,
     ⟨none, .store 6 (.t 7) (.t 14), none, [2, 1, 0, 1, 2]⟩])
    (.seq (.ops [
     ⟨some 15, .fieldAddr 0 (.t 7), none, []⟩,
     ⟨some 16, .load false 1 (.t 15), none, [0]⟩,
     ⟨some 17, .mv (.t 1), none, []⟩,
     ⟨some 18, .bin .eql none (.t 16) (.t 17), none, [1, 2]⟩])
    (.cond (.t 18)
     (.seq (.ops [
       ⟨some 19, .load true 6 (.t 7), none, []⟩,
       ⟨none, .store 6 (.t 4) (.t 19), none, [0, 0]⟩,
       ⟨some 5, .mv (.c (.pv (.bool true))), none, [1, 0, 1]⟩])
      .ret)
     .skip))))
  (.ops [
   ⟨some 20, .bin .add none (.t 11) (.c (.pv (.int .i64 1))), none, []⟩,
   ⟨some 11, .mv (.t 20), none, [0]⟩]))))
/-- dunnage/cluster.Want -/
def f83 : AFunc := ⟨22, [.cell 4 true 6, .t 5],
 (.seq (.ops [
   ⟨some 2, .box (.t 0), none, []⟩,
   ⟨some 4, .alloc [(.pv (.int .i64 0)), (.pv (.int .u64 0)), (.pv (.int .u64 0)), (.pv (.int .u64 0)), (.pv (.int .u64 0)), (.pv (.bool false))], none, []⟩,
   ⟨some 5, .mv (.c (.pv (.bool false))), none, []⟩])
  (.seq (.seq (.ops [
   ⟨some 8, .fieldAddr 0 (.t 2), none, []⟩,
   ⟨some 9, .load false 1 (.t 8), none, [0]⟩,
   ⟨some 10, .len (.t 9), none, [1]⟩,
   ⟨some 11, .mv (.c (.pv (.int .i64 0))), none, []⟩])
  (.block 0
   (.loop f83l0)))
  (.seq (.ops [
   ⟨some 21, .build [(.pv (.int .i64 0)), (.pv (.int .u64 0)), (.pv (.int .u64 0)), (.pv (.int .u64 0)), (.pv (.int .u64 0)), (.pv (.bool false))] [], none, []⟩,
   ⟨none, .store 6 (.t 4) (.t 21), none, [0, 0]⟩,
   ⟨some 5, .mv (.c (.pv (.bool false))), none, [1, 0, 1]⟩])
  .ret)))⟩

/-- dunnage/dunnagelaw05.StateTells -/
def f106 : AFunc := ⟨95, [.t 10],
 (.seq (.ops [
   ⟨some 5, .box (.t 0), none, []⟩,
   ⟨some 6, .box (.t 1), none, []⟩,
   ⟨some 7, .box (.t 2), none, []⟩,
   ⟨some 8, .box (.t 3), none, []⟩,
   ⟨some 10, .mv (.c (.pv (.bool false))), none, []⟩])
  (.seq (.ops [
   ⟨some 16, .call 107 [], none, []⟩,
   ⟨some 11, .mv (.t 16), none, [0, 0, 0]⟩])
  (.seq (.ops [
   ⟨some 17, .load true 3 (.t 5), none, []⟩,
   ⟨some 18, .load true 3 (.t 6), none, []⟩,
   ⟨some 19, .load true 3 (.t 7), none, []⟩,
   ⟨some 20, .call 163 [(.t 17), (.t 18), (.t 19)], none, [0, 1, 2]⟩,
   ⟨some 12, .mv (.t 20), none, [3, 3, 0, 1, 2, 3]⟩])
  (.seq (.seq (.ops [
   ⟨some 21, .mv (.t 12), none, []⟩,
   ⟨some 22, .not (.t 21), none, [0]⟩,
   ⟨some 23, .mv (.t 22), none, [1]⟩,
   ⟨some 24, .fieldAddr 0 (.t 8), some (23, false), [2]⟩,
   ⟨some 25, .load false 1 (.t 24), some (23, false), [3, 2]⟩,
   ⟨some 26, .len (.t 25), some (23, false), [4, 2]⟩,
   ⟨some 27, .bin .gtr none (.t 26) (.c (.pv (.int .i64 40))), some (23, false), [5, 2]⟩,
   ⟨some 28, .pick (.t 23) (.c (.pv (.bool true))) (.t 27), none, [2, 6]⟩])
  (.cond (.t 28)
   (.seq (.ops [
     ⟨some 29, .mv (.t 11), none, []⟩,
     ⟨some 10, .mv (.t 29), none, [0, 0]⟩])
    .ret)
   .skip))
  (.seq (.ops [
   ⟨some 31, .load true 3 (.t 7), none, []⟩,
   ⟨some 32, .mv (.t 4), none, []⟩,
   ⟨some 33, .call 240 [(.t 31), (.t 32)], none, [0, 1]⟩,
   ⟨some 30, .mv (.t 33), none, [2]⟩,
   ⟨some 34, .extract (.t 30) 0, none, [3]⟩,
   ⟨some 35, .extract (.t 30) 1, none, [3]⟩,
   ⟨some 13, .alloc [(.pv (.int .i64 0)), (.pv (.int .i64 0)), (.pv (.int .i64 0)), (.pv (.int .u64 0)), (.pv (.int .u64 0)), (.pv (.int .u64 0)), (.pv (.int .u64 0)), (.pv (.int .i64 0))], none, []⟩,
   ⟨none, .store 8 (.t 13) (.t 34), none, [6, 4, 2, 0, 1, 2, 3, 4, 6]⟩,
   ⟨some 14, .mv (.t 35), none, [5, 7, 0, 1, 2, 3, 4, 5, 6, 7]⟩])
  (.seq (.ops [
   ⟨some 36, .load true 3 (.t 7), none, []⟩,
   ⟨some 37, .mv (.t 4), none, []⟩,
   ⟨some 38, .call 167 [(.t 36), (.t 37)], none, [0, 1]⟩,
   ⟨some 15, .mv (.t 38), none, [2, 2, 0, 1, 2]⟩])
  (.seq (.seq (.draw [
   ⟨some 39, .mv (.t 14), none, []⟩,
   ⟨some 40, .mv (.t 15), none, []⟩,
   ⟨some 41, .bin .geq none (.t 40) (.c (.pv (.int .i64 0))), none, [1]⟩,
   ⟨some 42, .bin .neq (some .bool) (.t 39) (.t 41), none, [0, 2]⟩,
   ⟨some 43, .mv (.t 42), none, [3]⟩,
   ⟨some 44, .mv (.t 14), some (43, false), [4]⟩,
   ⟨some 45, .mv (.t 44), some (43, false), [5, 4, 4]⟩,
   ⟨some 46, .load true 8 (.t 13), some (45, true), [6]⟩,
   ⟨some 47, .fieldAddr 0 (.t 7), some (45, true), [6]⟩,
   ⟨some 48, .load false 1 (.t 47), some (45, true), [8, 6]⟩,
   ⟨some 49, .mv (.t 15), some (45, true), [6]⟩,
   ⟨some 50, .idxAddr 8 (.t 48) (.t 49), some (45, true), [9, 10, 6]⟩,
   ⟨some 51, .load true 8 (.t 50), some (45, true), [11, 6]⟩,
   ⟨some 52, .bin .neq (some (.plain [false, false, false, false, false, false, false, false])) (.t 46) (.t 51), some (45, true), [7, 12, 6]⟩,
   ⟨some 53, .pick (.t 45) (.t 52) (.c (.pv (.bool false))), some (43, false), [6, 13, 4]⟩,
   ⟨some 54, .pick (.t 43) (.c (.pv (.bool true))) (.t 53), none, [4, 14]⟩,
   ⟨some 55, .mv (.t 54), none, [15, 6]⟩,
   ⟨some 56, .mv (.t 14), some (55, false), [16]⟩,
   ⟨some 57, .not (.t 56), some (55, false), [17, 16]⟩,
   ⟨some 58, .mv (.t 57), some (55, false), [18, 16, 16]⟩,
   ⟨some 59, .load true 8 (.t 13), some (58, true), [19]⟩,
   ⟨some 60, .build [(.pv (.int .i64 0)), (.pv (.int .i64 0)), (.pv (.int .i64 0)), (.pv (.int .u64 0)), (.pv (.int .u64 0)), (.pv (.int .u64 0)), (.pv (.int .u64 0)), (.pv (.int .i64 0))] [], some (58, true), [19]⟩,
   ⟨some 61, .bin .neq (some (.plain [false, false, false, false, false, false, false, false])) (.t 59) (.t 60), some (58, true), [20, 21, 19]⟩,
   ⟨some 62, .pick (.t 58) (.t 61) (.c (.pv (.bool false))), some (55, false), [19, 22, 16]⟩,
   ⟨some 63, .pick (.t 55) (.c (.pv (.bool true))) (.t 62), none, [16, 23]⟩])
  (.cond (.t 63)
   (.seq (.ops [
     ⟨some 10, .mv (.c (.pv (.bool false))), none, []⟩])
    .ret)
   .skip))
  (.seq (.draw [
   ⟨some 64, .mv (.t 11), none, []⟩,
   ⟨some 65, .mv (.t 64), none, [0]⟩,
   ⟨some 66, .load true 3 (.t 5), some (65, true), [1]⟩,
   ⟨some 67, .call 237 [(.t 66)], some (65, true), [2, 1, 1]⟩,
   ⟨some 68, .load true 3 (.t 5), some (65, true), [1]⟩,
   ⟨some 69, .call 164 [(.t 68)], some (65, true), [4, 3, 1]⟩,
   ⟨some 70, .call 168 [(.t 67), (.t 69)], some (65, true), [3, 5, 5, 1]⟩,
   ⟨some 71, .pick (.t 65) (.t 70) (.c (.pv (.bool false))), none, [1, 6]⟩,
   ⟨some 72, .mv (.t 71), none, [7, 6]⟩,
   ⟨some 73, .load true 3 (.t 7), some (72, true), [8]⟩,
   ⟨some 74, .load true 3 (.t 8), some (72, true), [8]⟩,
   ⟨some 75, .call 241 [(.t 73), (.t 74)], some (72, true), [9, 10, 8, 8]⟩,
   ⟨some 76, .load true 3 (.t 7), some (72, true), [8]⟩,
   ⟨some 77, .load true 3 (.t 8), some (72, true), [8]⟩,
   ⟨some 78, .call 168 [(.t 76), (.t 77)], some (72, true), [12, 13, 11, 8]⟩,
   ⟨some 79, .bin .eql (some .bool) (.t 75) (.t 78), some (72, true), [11, 14, 8]⟩,
   ⟨some 80, .pick (.t 72) (.t 79) (.c (.pv (.bool false))), none, [8, 15]⟩,
   ⟨some 81, .mv (.t 80), none, [16, 14]⟩,
   ⟨some 82, .load true 3 (.t 7), some (81, true), [17]⟩,
   ⟨some 83, .load true 3 (.t 7), some (81, true), [17]⟩,
   ⟨some 84, .call 241 [(.t 82), (.t 83)], some (81, true), [18, 19, 17, 17]⟩,
   ⟨some 85, .pick (.t 81) (.t 84) (.c (.pv (.bool false))), none, [17, 20]⟩,
   ⟨some 86, .mv (.t 85), none, [21, 20]⟩,
   ⟨some 87, .load true 3 (.t 6), some (86, true), [22]⟩,
   ⟨some 88, .load true 3 (.t 7), some (86, true), [22]⟩,
   ⟨some 89, .call 238 [(.t 87), (.t 88)], some (86, true), [23, 24, 22, 22]⟩,
   ⟨some 90, .load true 3 (.t 6), some (86, true), [22]⟩,
   ⟨some 91, .load true 3 (.t 7), some (86, true), [22]⟩,
   ⟨some 92, .call 165 [(.t 90), (.t 91)], some (86, true), [26, 27, 25, 22]⟩,
   ⟨some 93, .bin .eql (some .bool) (.t 89) (.t 92), some (86, true), [25, 28, 22]⟩,
   ⟨some 94, .pick (.t 86) (.t 93) (.c (.pv (.bool false))), none, [22, 29]⟩,
   ⟨some 10, .mv (.t 94), none, [30, 28, 0, 1, 2, 3, 4, 5, 6, 7, 8, 9, 10, 11, 12, 13, 14, 15, 16, 17, 18, 19, 20, 21, 22, 23, 24, 25, 26, 27, 28, 29, 30]⟩])
  .ret))))))))⟩

/-- dunnage/dunnagelaw05.up -/
def f107 : AFunc := ⟨49, [.t 0],
 (.seq (.ops [
   ⟨some 0, .mv (.c (.pv (.bool false))), none, []⟩])
  (.seq (.ops [
   ⟨some 7, .build [.nils, .nils, .nils] [], none, []⟩,
   ⟨some 8, .build [.nils, (.pv (.int .i64 0)), (.pv (.int .i64 0))] [], none, []⟩,
   ⟨some 9, .build [.nils, (.pv (.int .i64 0)), (.pv (.int .i64 0))] [], none, []⟩,
   ⟨some 10, .build [(.pv (.int .i64 0)), (.pv (.int .i64 0)), (.pv (.int .i64 0)), (.pv (.int .i64 0))] [(0, 1, (.c (.pv (.int .i64 1)))), (1, 1, (.c (.pv (.int .i64 1))))], none, []⟩,
   ⟨some 11, .call 239 [(.t 7), (.t 8), (.t 9), (.t 10)], none, [0, 1, 2, 3]⟩,
   ⟨some 6, .mv (.t 11), none, [4]⟩,
   ⟨some 12, .extract (.t 6) 0, none, [5]⟩,
   ⟨some 13, .extract (.t 6) 1, none, [5]⟩,
   ⟨some 1, .alloc [.nils, (.pv (.int .i64 0)), (.pv (.int .i64 0))], none, []⟩,
   ⟨none, .store 3 (.t 1) (.t 12), none, [8, 6, 4, 0, 1, 2, 3, 4, 5, 6, 8]⟩,
   ⟨some 2, .mv (.t 13), none, [7, 9, 0, 1, 2, 3, 4, 5, 6, 7, 8, 9]⟩])
  (.seq (.ops [
   ⟨some 14, .build [(.pv (.int .i64 0)), (.pv (.int .i64 0)), (.pv (.int .u64 0)), (.pv (.int .u64 0)), (.pv (.int .u64 0)), (.pv (.int .u64 0)), (.pv (.int .u64 0)), (.pv (.int .u64 0)), (.pv (.int .u64 0)), (.pv (.int .u64 0))] [(0, 1, (.c (.pv (.int .i64 3)))), (1, 1, (.c (.pv (.int .i64 1))))], none, []⟩,
   ⟨some 15, .bslice 10 1 [(.pv (.int .i64 0)), (.pv (.int .i64 0)), (.pv (.int .u64 0)), (.pv (.int .u64 0)), (.pv (.int .u64 0)), (.pv (.int .u64 0)), (.pv (.int .u64 0)), (.pv (.int .u64 0)), (.pv (.int .u64 0)), (.pv (.int .u64 0))] [(0, 10, (.t 14))], none, [0]⟩,
   ⟨some 16, .build [(.pv (.int .i64 0)), (.pv (.int .i64 0)), (.pv (.int .i64 0)), (.pv (.int .u64 0)), (.pv (.int .u64 0)), (.pv (.int .u64 0)), (.pv (.int .u64 0)), (.pv (.int .i64 0))] [(0, 1, (.c (.pv (.int .i64 1))))], none, []⟩,
   ⟨some 17, .bslice 8 1 [(.pv (.int .i64 0)), (.pv (.int .i64 0)), (.pv (.int .i64 0)), (.pv (.int .u64 0)), (.pv (.int .u64 0)), (.pv (.int .u64 0)), (.pv (.int .u64 0)), (.pv (.int .i64 0))] [(0, 8, (.t 16))], none, [2]⟩,
   ⟨some 18, .build [.nils, .nils, .nils] [(0, 1, (.t 15)), (2, 1, (.t 17))], none, [1, 3]⟩,
   ⟨some 3, .alloc [.nils, .nils, .nils], none, []⟩,
   ⟨none, .store 3 (.t 3) (.t 18), none, [5, 4, 0, 1, 2, 3, 4, 5]⟩])
  (.seq (.draw [
   ⟨some 20, .load true 3 (.t 3), none, []⟩,
   ⟨some 21, .build [.nils, (.pv (.int .i64 0)), (.pv (.int .i64 0))] [], none, []⟩,
   ⟨some 22, .load true 3 (.t 3), none, []⟩,
   ⟨some 23, .call 237 [(.t 22)], none, [2]⟩,
   ⟨some 24, .build [(.pv (.int .i64 0)), (.pv (.int .i64 0)), (.pv (.int .i64 0)), (.pv (.int .i64 0))] [(0, 1, (.c (.pv (.int .i64 1)))), (1, 1, (.c (.pv (.int .i64 1)))), (2, 1, (.c (.pv (.int .i64 3))))], none, []⟩,
   ⟨some 25, .call 239 [(.t 20), (.t 21), (.t 23), (.t 24)], none, [0, 1, 3, 4, 3]⟩,
   ⟨some 19, .mv (.t 25), none, [5]⟩,
   ⟨some 26, .extract (.t 19) 0, none, [6]⟩,
   ⟨some 27, .extract (.t 19) 1, none, [6]⟩,
   ⟨some 4, .alloc [.nils, (.pv (.int .i64 0)), (.pv (.int .i64 0))], none, []⟩,
   ⟨none, .store 3 (.t 4) (.t 26), none, [9, 7, 5, 0, 1, 2, 3, 4, 5, 6, 7, 9]⟩,
   ⟨some 5, .mv (.t 27), none, [8, 10, 0, 1, 2, 3, 4, 5, 6, 7, 8, 9, 10]⟩])
  (.seq (.ops [
   ⟨some 28, .mv (.t 2), none, []⟩,
   ⟨some 29, .mkI 0 (.c (.pv (.int .i64 4))), none, []⟩,
   ⟨some 30, .bin .eql (some (.iface true)) (.t 28) (.t 29), none, [0, 1]⟩,
   ⟨some 31, .mv (.t 30), none, [2]⟩,
   ⟨some 32, .mv (.t 5), some (31, true), [3]⟩,
   ⟨some 33, .bin .eql (some (.iface true)) (.t 32) (.c (.pv .nili)), some (31, true), [4, 3]⟩,
   ⟨some 34, .pick (.t 31) (.t 33) (.c (.pv (.bool false))), none, [3, 5]⟩,
   ⟨some 35, .mv (.t 34), none, [6, 3]⟩,
   ⟨some 36, .fieldAddr 0 (.t 4), some (35, true), [7]⟩,
   ⟨some 37, .load false 1 (.t 36), some (35, true), [8, 7]⟩,
   ⟨some 38, .len (.t 37), some (35, true), [9, 7]⟩,
   ⟨some 39, .bin .eql none (.t 38) (.c (.pv (.int .i64 1))), some (35, true), [10, 7]⟩,
   ⟨some 40, .pick (.t 35) (.t 39) (.c (.pv (.bool false))), none, [7, 11]⟩,
   ⟨some 41, .mv (.t 40), none, [12, 7]⟩,
   ⟨some 42, .fieldAddr 0 (.t 4), some (41, true), [13]⟩,
   ⟨some 43, .load false 1 (.t 42), some (41, true), [14, 13]⟩,
   ⟨some 44, .idxAddr 8 (.t 43) (.c (.pv (.int .i64 0))), some (41, true), [15, 13]⟩,
   ⟨some 45, .fieldAddr 7 (.t 44), some (41, true), [16, 13]⟩,
   ⟨some 46, .load false 1 (.t 45), some (41, true), [17, 13]⟩,
   ⟨some 47, .bin .eql none (.t 46) (.c (.pv (.int .i64 3))), some (41, true), [18, 13]⟩,
   ⟨some 48, .pick (.t 41) (.t 47) (.c (.pv (.bool false))), none, [13, 19]⟩,
   ⟨some 0, .mv (.t 48), none, [20, 13, 0, 1, 2, 3, 4, 5, 6, 7, 8, 9, 10, 11, 12, 13, 14, 15, 16, 17, 18, 19, 20]⟩])
  .ret)))))⟩

/-- dunnage/dunnageref03.Few -/
def f153 : AFunc := ⟨19, [.t 2],
 (.seq (.ops [
   ⟨some 1, .box (.t 0), none, []⟩,
   ⟨some 2, .mv (.c (.pv (.bool false))), none, []⟩])
  (.seq (.ops [
   ⟨some 3, .fieldAddr 0 (.t 1), none, []⟩,
   ⟨some 4, .load false 1 (.t 3), none, [0]⟩,
   ⟨some 5, .len (.t 4), none, [1]⟩,
   ⟨some 6, .bin .leq none (.t 5) (.c (.pv (.int .i64 40))), none, [2]⟩,
   ⟨some 7, .mv (.t 6), none, [3]⟩,
   ⟨some 8, .fieldAddr 1 (.t 1), some (7, true), [4]⟩,
   ⟨some 9, .load false 1 (.t 8), some (7, true), [5, 4]⟩,
   ⟨some 10, .len (.t 9), some (7, true), [6, 4]⟩,
   ⟨some 11, .bin .leq none (.t 10) (.c (.pv (.int .i64 40))), some (7, true), [7, 4]⟩,
   ⟨some 12, .pick (.t 7) (.t 11) (.c (.pv (.bool false))), none, [4, 8]⟩,
   ⟨some 13, .mv (.t 12), none, [9, 4]⟩,
   ⟨some 14, .fieldAddr 2 (.t 1), some (13, true), [10]⟩,
   ⟨some 15, .load false 1 (.t 14), some (13, true), [11, 10]⟩,
   ⟨some 16, .len (.t 15), some (13, true), [12, 10]⟩,
   ⟨some 17, .bin .leq none (.t 16) (.c (.pv (.int .i64 40))), some (13, true), [13, 10]⟩,
   ⟨some 18, .pick (.t 13) (.t 17) (.c (.pv (.bool false))), none, [10, 14]⟩,
   ⟨some 2, .mv (.t 18), none, [15, 10, 0, 1, 2, 3, 4, 5, 6, 7, 8, 9, 10, 11, 12, 13, 14, 15]⟩])
  .ret))⟩

/-- dunnage/dunnageref05.Few -/
def f163 : AFunc := ⟨23, [.t 6],
 (.seq (.ops [
   ⟨some 3, .box (.t 0), none, []⟩,
   ⟨some 4, .box (.t 1), none, []⟩,
   ⟨some 5, .box (.t 2), none, []⟩,
   ⟨some 6, .mv (.c (.pv (.bool false))), none, []⟩])
  (.seq (.ops [
   ⟨some 8, .load true 3 (.t 3), none, []⟩,
   ⟨some 9, .call 153 [(.t 8)], none, [0]⟩,
   ⟨some 7, .mv (.t 9), none, [1, 1, 0, 1]⟩])
  (.seq (.ops [
   ⟨some 10, .mv (.t 7), none, []⟩,
   ⟨some 11, .mv (.t 10), none, [0]⟩,
   ⟨some 12, .fieldAddr 0 (.t 4), some (11, true), [1]⟩,
   ⟨some 13, .load false 1 (.t 12), some (11, true), [2, 1]⟩,
   ⟨some 14, .len (.t 13), some (11, true), [3, 1]⟩,
   ⟨some 15, .bin .leq none (.t 14) (.c (.pv (.int .i64 40))), some (11, true), [4, 1]⟩,
   ⟨some 16, .pick (.t 11) (.t 15) (.c (.pv (.bool false))), none, [1, 5]⟩,
   ⟨some 17, .mv (.t 16), none, [6, 1]⟩,
   ⟨some 18, .fieldAddr 0 (.t 5), some (17, true), [7]⟩,
   ⟨some 19, .load false 1 (.t 18), some (17, true), [8, 7]⟩,
   ⟨some 20, .len (.t 19), some (17, true), [9, 7]⟩,
   ⟨some 21, .bin .leq none (.t 20) (.c (.pv (.int .i64 40))), some (17, true), [10, 7]⟩,
   ⟨some 22, .pick (.t 17) (.t 21) (.c (.pv (.bool false))), none, [7, 11]⟩,
   ⟨some 6, .mv (.t 22), none, [12, 7, 0, 1, 2, 3, 4, 5, 6, 7, 8, 9, 10, 11, 12]⟩])
  .ret)))⟩

/-- dunnage/dunnageref05.First -/
def f164 : AFunc := ⟨8, [.cell 2 true 3],
 (.seq (.ops [
   ⟨some 1, .box (.t 0), none, []⟩,
   ⟨some 2, .alloc [.nils, (.pv (.int .i64 0)), (.pv (.int .i64 0))], none, []⟩])
  (.seq (.ops [
   ⟨some 3, .bslice 8 0 [] [], none, []⟩,
   ⟨some 4, .fieldAddr 2 (.t 1), none, []⟩,
   ⟨some 5, .load false 1 (.t 4), none, [1]⟩,
   ⟨some 6, .append 8 64 (.t 3) (.t 5), none, [0, 2]⟩,
   ⟨some 7, .build [.nils, (.pv (.int .i64 0)), (.pv (.int .i64 0))] [(0, 1, (.t 6))], none, [3]⟩,
   ⟨none, .store 3 (.t 2) (.t 7), none, [4, 3, 0, 1, 2, 3, 4]⟩])
  .ret))⟩

def f165l0 : ACode :=
 (.seq (.seq (.ops [
   ⟨some 8, .mv (.t 5), none, []⟩,
   ⟨some 9, .fieldAddr 0 (.t 2), none, []⟩,
   ⟨some 10, .load false 1 (.t 9), none, [1]⟩,
   ⟨some 11, .len (.t 10), none, [2]⟩,
   ⟨some 12, .bin .lss none (.t 8) (.t 11), none, [0, 3]⟩])
  (.cond (.t 12)
   .skip
   (.exit 0)))
  (.seq (.block 1
   (.seq (.draw [
     ⟨some 15, .load true 3 (.t 3), none, []⟩,
     ⟨some 16, .fieldAddr 0 (.t 2), none, []⟩,
     ⟨some 17, .load false 1 (.t 16), none, [1]⟩,
     ⟨some 18, .mv (.t 5), none, []⟩,
     ⟨some 19, .idxAddr 6 (.t 17) (.t 18), none, [2, 3]⟩,
     ⟨some 20, .fieldAddr 0 (.t 19), none, [4]⟩,
     ⟨some 21, .load false 1 (.t 20), none, [5]⟩,
     ⟨some 22, .call 167 [(.t 15), (.t 21)], none, [0, 6]⟩,
     ⟨some 6, .mv (.t 22), none, [7, 7, 0, 1, 2, 3, 4, 5, 6, 7]⟩])
    (.seq (.seq (.ops [
     ⟨some 23, .mv (.t 6), none, []⟩,
     ⟨some 24, .bin .lss none (.t 23) (.c (.pv (.int .i64 0))), none, [0]⟩])
    (.cond (.t 24)
     (.seq (.ops [
       ⟨some 4, .mv (.c (.pv (.bool false))), none, []⟩])
      .ret)
     .skip))
    (.seq (.ops [
     ⟨some 25, .fieldAddr 0 (.t 3), none, []⟩,
     ⟨some 26, .load false 1 (.t 25), none, [0]⟩,
     ⟨some 27, .mv (.t 6), none, []⟩,
     ⟨some 28, .idxAddr 8 (.t 26) (.t 27), none, [1, 2]⟩,
     ⟨some 29, .load true 8 (.t 28), none, [3]⟩,
     ⟨some 7, .alloc [(.pv (.int .i64 0)), (.pv (.int .i64 0)), (.pv (.int .i64 0)), (.pv (.int .u64 0)), (.pv (.int .u64 0)), (.pv (.int .u64 0)), (.pv (.int .u64 0)), (.pv (.int .i64 0))], none, []⟩,
     ⟨none, .store 8 (.t 7) (.t 29), none, [5, 4, 0, 1, 2, 3, 4, 5]⟩])
    (.seq (.draw [
     ⟨some 30, .fieldAddr 0 (.t 2), none, []⟩,
     ⟨some 31, .load false 1 (.t 30), none, [0]⟩,
     ⟨some 32, .mv (.t 5), none, []⟩,
     ⟨some 33, .idxAddr 6 (.t 31) (.t 32), none, [1, 2]⟩,
     ⟨some 34, .fieldAddr 5 (.t 33), none, [3]⟩,
     ⟨some 35, .load false 1 (.t 34), none, [4]⟩,
     ⟨some 36, .mv (.t 35), none, [5]⟩,
     ⟨some 37, .fieldAddr 7 (.t 7), some (36, true), [6]⟩,
     ⟨some 38, .load false 1 (.t 37), some (36, true), [7, 6]⟩,
     ⟨some 39, .bin .eql none (.t 38) (.c (.pv (.int .i64 0))), some (36, true), [8, 6]⟩,
     ⟨some 40, .mv (.t 39), some (36, true), [9, 6, 6]⟩,
     ⟨some 41, .fieldAddr 3 (.t 7), some (40, false), [10]⟩,
     ⟨some 42, .load true 4 (.t 41), some (40, false), [11, 10]⟩,
     ⟨some 43, .fieldAddr 0 (.t 2), some (40, false), [10]⟩,
     ⟨some 44, .load false 1 (.t 43), some (40, false), [13, 10]⟩,
     ⟨some 45, .mv (.t 5), some (40, false), [10]⟩,
     ⟨some 46, .idxAddr 6 (.t 44) (.t 45), some (40, false), [14, 15, 10]⟩,
     ⟨some 47, .fieldAddr 1 (.t 46), some (40, false), [16, 10]⟩,
     ⟨some 48, .load true 4 (.t 47), some (40, false), [17, 10]⟩,
     ⟨some 49, .bin .neq (some (.plain [false, false, false, false])) (.t 42) (.t 48), some (40, false), [12, 18, 10]⟩,
     ⟨some 50, .pick (.t 40) (.c (.pv (.bool true))) (.t 49), some (36, true), [10, 19, 6]⟩,
     ⟨some 51, .pick (.t 36) (.t 50) (.c (.pv (.bool false))), none, [6, 20]⟩,
     ⟨some 52, .mv (.t 51), none, [21, 10]⟩,
     ⟨some 53, .fieldAddr 0 (.t 2), some (52, false), [22]⟩,
     ⟨some 54, .load false 1 (.t 53), some (52, false), [23, 22]⟩,
     ⟨some 55, .mv (.t 5), some (52, false), [22]⟩,
     ⟨some 56, .idxAddr 6 (.t 54) (.t 55), some (52, false), [24, 25, 22]⟩,
     ⟨some 57, .fieldAddr 5 (.t 56), some (52, false), [26, 22]⟩,
     ⟨some 58, .load false 1 (.t 57), some (52, false), [27, 22]⟩,
     ⟨some 59, .not (.t 58), some (52, false), [28, 22]⟩,
     ⟨some 60, .mv (.t 59), some (52, false), [29, 22, 22]⟩,
     ⟨some 61, .fieldAddr 7 (.t 7), some (60, true), [30]⟩,
     ⟨some 62, .load false 1 (.t 61), some (60, true), [31, 30]⟩,
     ⟨some 63, .bin .neq none (.t 62) (.c (.pv (.int .i64 0))), some (60, true), [32, 30]⟩,
     ⟨some 64, .pick (.t 60) (.t 63) (.c (.pv (.bool false))), some (52, false), [30, 33, 22]⟩,
     ⟨some 65, .pick (.t 52) (.c (.pv (.bool true))) (.t 64), none, [22, 34]⟩])
    (.cond (.t 65)
     (.seq (.ops [
       ⟨some 4, .mv (.c (.pv (.bool false))), none, []⟩])
      .ret)
     .skip))))))
  (.ops [
   ⟨some 13, .mv (.t 5), none, []⟩,
   ⟨some 14, .bin .add none (.t 13) (.c (.pv (.int .i64 1))), none, [0]⟩,
   ⟨some 5, .mv (.t 14), none, [1, 0, 1]⟩])))
/-- dunnage/dunnageref05.Goal -/
def f165 : AFunc := ⟨66, [.t 4],
 (.seq (.ops [
   ⟨some 2, .box (.t 0), none, []⟩,
   ⟨some 3, .box (.t 1), none, []⟩,
   ⟨some 4, .mv (.c (.pv (.bool false))), none, []⟩])
  (.seq (.seq (.ops [
   ⟨some 5, .mv (.c (.pv (.int .i64 0))), none, []⟩])
  (.block 0
   (.loop f165l0)))
  (.seq (.ops [
   ⟨some 4, .mv (.c (.pv (.bool true))), none, []⟩])
  .ret)))⟩

def f167l0 : ACode :=
 (.seq (.seq (.ops [
   ⟨some 6, .mv (.t 5), none, []⟩,
   ⟨some 7, .fieldAddr 0 (.t 2), none, []⟩,
   ⟨some 8, .load false 1 (.t 7), none, [1]⟩,
   ⟨some 9, .len (.t 8), none, [2]⟩,
   ⟨some 10, .bin .lss none (.t 6) (.t 9), none, [0, 3]⟩])
  (.cond (.t 10)
   .skip
   (.exit 0)))
  (.seq (.block 1
   (.seq (.ops [
     ⟨some 13, .fieldAddr 0 (.t 2), none, []⟩,
     ⟨some 14, .load false 1 (.t 13), none, [0]⟩,
     ⟨some 15, .mv (.t 5), none, []⟩,
     ⟨some 16, .idxAddr 8 (.t 14) (.t 15), none, [1, 2]⟩,
     ⟨some 17, .fieldAddr 0 (.t 16), none, [3]⟩,
     ⟨some 18, .load false 1 (.t 17), none, [4]⟩,
     ⟨some 19, .mv (.t 1), none, []⟩,
     ⟨some 20, .bin .eql none (.t 18) (.t 19), none, [5, 6]⟩])
    (.cond (.t 20)
     (.seq (.ops [
       ⟨some 21, .mv (.t 5), none, []⟩,
       ⟨some 4, .mv (.t 21), none, [0, 0]⟩])
      .ret)
     .skip)))
  (.ops [
   ⟨some 11, .mv (.t 5), none, []⟩,
   ⟨some 12, .bin .add none (.t 11) (.c (.pv (.int .i64 1))), none, [0]⟩,
   ⟨some 5, .mv (.t 12), none, [1, 0, 1]⟩])))
/-- dunnage/dunnageref05.Place -/
def f167 : AFunc := ⟨22, [.t 4],
 (.seq (.ops [
   ⟨some 2, .box (.t 0), none, []⟩,
   ⟨some 4, .mv (.c (.pv (.int .i64 0))), none, []⟩])
  (.seq (.seq (.ops [
   ⟨some 5, .mv (.c (.pv (.int .i64 0))), none, []⟩])
  (.block 0
   (.loop f167l0)))
  (.seq (.ops [
   ⟨some 4, .mv (.c (.pv (.int .i64 (-1)))), none, []⟩])
  .ret)))⟩

def f168l0 : ACode :=
 (.seq (.seq (.ops [
   ⟨some 27, .mv (.t 5), none, []⟩,
   ⟨some 28, .fieldAddr 0 (.t 2), none, []⟩,
   ⟨some 29, .load false 1 (.t 28), none, [1]⟩,
   ⟨some 30, .len (.t 29), none, [2]⟩,
   ⟨some 31, .bin .lss none (.t 27) (.t 30), none, [0, 3]⟩])
  (.cond (.t 31)
   .skip
   (.exit 0)))
  (.seq (.block 1
   (.seq (.draw [
     ⟨some 34, .fieldAddr 0 (.t 2), none, []⟩,
     ⟨some 35, .load false 1 (.t 34), none, [0]⟩,
     ⟨some 36, .mv (.t 5), none, []⟩,
     ⟨some 37, .idxAddr 8 (.t 35) (.t 36), none, [1, 2]⟩,
     ⟨some 38, .load true 8 (.t 37), none, [3]⟩,
     ⟨some 39, .fieldAddr 0 (.t 3), none, []⟩,
     ⟨some 40, .load false 1 (.t 39), none, [5]⟩,
     ⟨some 41, .mv (.t 5), none, []⟩,
     ⟨some 42, .idxAddr 8 (.t 40) (.t 41), none, [6, 7]⟩,
     ⟨some 43, .load true 8 (.t 42), none, [8]⟩,
     ⟨some 44, .bin .neq (some (.plain [false, false, false, false, false, false, false, false])) (.t 38) (.t 43), none, [4, 9]⟩])
    (.cond (.t 44)
     (.seq (.ops [
       ⟨some 4, .mv (.c (.pv (.bool false))), none, []⟩])
      .ret)
     .skip)))
  (.ops [
   ⟨some 32, .mv (.t 5), none, []⟩,
   ⟨some 33, .bin .add none (.t 32) (.c (.pv (.int .i64 1))), none, [0]⟩,
   ⟨some 5, .mv (.t 33), none, [1, 0, 1]⟩])))
/-- dunnage/dunnageref05.Same -/
def f168 : AFunc := ⟨45, [.t 4],
 (.seq (.ops [
   ⟨some 2, .box (.t 0), none, []⟩,
   ⟨some 3, .box (.t 1), none, []⟩,
   ⟨some 4, .mv (.c (.pv (.bool false))), none, []⟩])
  (.seq (.seq (.ops [
   ⟨some 6, .fieldAddr 0 (.t 2), none, []⟩,
   ⟨some 7, .load false 1 (.t 6), none, [0]⟩,
   ⟨some 8, .len (.t 7), none, [1]⟩,
   ⟨some 9, .fieldAddr 0 (.t 3), none, []⟩,
   ⟨some 10, .load false 1 (.t 9), none, [3]⟩,
   ⟨some 11, .len (.t 10), none, [4]⟩,
   ⟨some 12, .bin .neq none (.t 8) (.t 11), none, [2, 5]⟩,
   ⟨some 13, .mv (.t 12), none, [6]⟩,
   ⟨some 14, .fieldAddr 1 (.t 2), some (13, false), [7]⟩,
   ⟨some 15, .load false 1 (.t 14), some (13, false), [8, 7]⟩,
   ⟨some 16, .fieldAddr 1 (.t 3), some (13, false), [7]⟩,
   ⟨some 17, .load false 1 (.t 16), some (13, false), [10, 7]⟩,
   ⟨some 18, .bin .neq none (.t 15) (.t 17), some (13, false), [9, 11, 7]⟩,
   ⟨some 19, .pick (.t 13) (.c (.pv (.bool true))) (.t 18), none, [7, 12]⟩,
   ⟨some 20, .mv (.t 19), none, [13, 7]⟩,
   ⟨some 21, .fieldAddr 2 (.t 2), some (20, false), [14]⟩,
   ⟨some 22, .load false 1 (.t 21), some (20, false), [15, 14]⟩,
   ⟨some 23, .fieldAddr 2 (.t 3), some (20, false), [14]⟩,
   ⟨some 24, .load false 1 (.t 23), some (20, false), [17, 14]⟩,
   ⟨some 25, .bin .neq none (.t 22) (.t 24), some (20, false), [16, 18, 14]⟩,
   ⟨some 26, .pick (.t 20) (.c (.pv (.bool true))) (.t 25), none, [14, 19]⟩])
  (.cond (.t 26)
   (.seq (.ops [
     ⟨some 4, .mv (.c (.pv (.bool false))), none, []⟩])
    .ret)
   .skip))
  (.seq (.seq (.ops [
   ⟨some 5, .mv (.c (.pv (.int .i64 0))), none, []⟩])
  (.block 0
   (.loop f168l0)))
  (.seq (.ops [
   ⟨some 4, .mv (.c (.pv (.bool true))), none, []⟩])
  .ret))))⟩

/-- dunnage/state.First -/
def f237 : AFunc := ⟨7, [.cell 2 true 3],
 (.seq (.ops [
   ⟨some 1, .box (.t 0), none, []⟩,
   ⟨some 2, .alloc [.nils, (.pv (.int .i64 0)), (.pv (.int .i64 0))], none, []⟩])
  (.seq (.ops [
   ⟨some 3, .fieldAddr 2 (.t 1), none, []⟩,
   ⟨some 4, .load false 1 (.t 3), none, [0]⟩,
   ⟨some 5, .call 279 [(.t 4)], none, [1]⟩,
   ⟨some 6, .build [.nils, (.pv (.int .i64 0)), (.pv (.int .i64 0))] [(0, 1, (.t 5))], none, [2]⟩,
   ⟨none, .store 3 (.t 2) (.t 6), none, [3, 2, 0, 1, 2, 3]⟩])
  .ret))⟩

def f238l0 : ACode :=
 (.seq (.ops [
   ⟨some 13, .bin .lss none (.t 12) (.t 11), none, []⟩])
  (.seq (.cond (.t 13)
   .skip
   (.exit 0))
  (.seq (.block 1
   (.seq (.ops [
     ⟨some 14, .idxAddr 6 (.t 10) (.t 12), none, []⟩,
     ⟨some 15, .load true 6 (.t 14), none, [0]⟩,
     ⟨some 6, .alloc [(.pv (.int .i64 0)), (.pv (.int .u64 0)), (.pv (.int .u64 0)), (.pv (.int .u64 0)), (.pv (.int .u64 0)), (.pv (.bool false))], none, []⟩,
     ⟨none, .store 6 (.t 6) (.t 15), none, [2, 1, 0, 1, 2]⟩])
    (.seq (.ops [
     ⟨some 17, .load true 3 (.t 3), none, []⟩,
     ⟨some 18, .fieldAddr 0 (.t 6), none, []⟩,
     ⟨some 19, .load false 1 (.t 18), none, [1]⟩,
     ⟨some 20, .call 240 [(.t 17), (.t 19)], none, [0, 2]⟩,
     ⟨some 16, .mv (.t 20), none, [3]⟩,
     ⟨some 21, .extract (.t 16) 0, none, [4]⟩,
     ⟨some 22, .extract (.t 16) 1, none, [4]⟩,
     ⟨some 7, .alloc [(.pv (.int .i64 0)), (.pv (.int .i64 0)), (.pv (.int .i64 0)), (.pv (.int .u64 0)), (.pv (.int .u64 0)), (.pv (.int .u64 0)), (.pv (.int .u64 0)), (.pv (.int .i64 0))], none, []⟩,
     ⟨none, .store 8 (.t 7) (.t 21), none, [7, 5, 3, 0, 1, 2, 3, 4, 5, 7]⟩,
     ⟨some 8, .mv (.t 22), none, [6, 8, 0, 1, 2, 3, 4, 5, 6, 7, 8]⟩])
    (.seq (.ops [
     ⟨some 23, .mv (.t 8), none, []⟩,
     ⟨some 24, .not (.t 23), none, [0]⟩,
     ⟨some 25, .mv (.t 24), none, [1]⟩,
     ⟨some 26, .fieldAddr 5 (.t 6), some (25, false), [2]⟩,
     ⟨some 27, .load false 1 (.t 26), some (25, false), [3, 2]⟩,
     ⟨some 28, .fieldAddr 7 (.t 7), some (25, false), [2]⟩,
     ⟨some 29, .load false 1 (.t 28), some (25, false), [5, 2]⟩,
     ⟨some 30, .bin .neq none (.t 29) (.c (.pv (.int .i64 0))), some (25, false), [6, 2]⟩,
     ⟨some 31, .bin .neq (some .bool) (.t 27) (.t 30), some (25, false), [4, 7, 2]⟩,
     ⟨some 32, .pick (.t 25) (.c (.pv (.bool true))) (.t 31), none, [2, 8]⟩,
     ⟨some 33, .mv (.t 32), none, [9, 2]⟩,
     ⟨some 34, .fieldAddr 5 (.t 6), some (33, false), [10]⟩,
     ⟨some 35, .load false 1 (.t 34), some (33, false), [11, 10]⟩,
     ⟨some 36, .mv (.t 35), some (33, false), [12, 10, 10]⟩,
     ⟨some 37, .fieldAddr 3 (.t 7), some (36, true), [13]⟩,
     ⟨some 38, .load true 4 (.t 37), some (36, true), [14, 13]⟩,
     ⟨some 39, .fieldAddr 1 (.t 6), some (36, true), [13]⟩,
     ⟨some 40, .load true 4 (.t 39), some (36, true), [16, 13]⟩,
     ⟨some 41, .bin .neq (some (.plain [false, false, false, false])) (.t 38) (.t 40), some (36, true), [15, 17, 13]⟩,
     ⟨some 42, .pick (.t 36) (.t 41) (.c (.pv (.bool false))), some (33, false), [13, 18, 10]⟩,
     ⟨some 43, .pick (.t 33) (.c (.pv (.bool true))) (.t 42), none, [10, 19]⟩])
    (.cond (.t 43)
     (.seq (.ops [
       ⟨some 4, .mv (.c (.pv (.bool false))), none, []⟩])
      .ret)
     .skip)))))
  (.ops [
   ⟨some 44, .bin .add none (.t 12) (.c (.pv (.int .i64 1))), none, []⟩,
   ⟨some 12, .mv (.t 44), none, [0]⟩]))))
/-- dunnage/state.Goal -/
def f238 : AFunc := ⟨45, [.t 4],
 (.seq (.ops [
   ⟨some 2, .box (.t 0), none, []⟩,
   ⟨some 3, .box (.t 1), none, []⟩,
   ⟨some 4, .mv (.c (.pv (.bool false))), none, []⟩])
  (.seq (.seq (.ops [
   ⟨some 9, .fieldAddr 0 (.t 2), none, []⟩,
   ⟨some 10, .load false 1 (.t 9), none, [0]⟩,
   ⟨some 11, .len (.t 10), none, [1]⟩,
   ⟨some 12, .mv (.c (.pv (.int .i64 0))), none, []⟩])
  (.block 0
   (.loop f238l0)))
  (.seq (.ops [
   ⟨some 4, .mv (.c (.pv (.bool true))), none, []⟩])
  .ret)))⟩

/-- dunnage/state.Make -/
def f239 : AFunc := ⟨139, [.cell 8 true 3, .t 9],
 (.seq (.ops [
   ⟨some 4, .box (.t 0), none, []⟩,
   ⟨some 5, .box (.t 1), none, []⟩,
   ⟨some 6, .box (.t 2), none, []⟩,
   ⟨some 7, .box (.t 3), none, []⟩,
   ⟨some 8, .alloc [.nils, (.pv (.int .i64 0)), (.pv (.int .i64 0))], none, []⟩,
   ⟨some 9, .mv (.c (.pv .nili)), none, []⟩])
  (.seq (.draw [
   ⟨some 16, .load true 3 (.t 6), none, []⟩,
   ⟨some 17, .fieldAddr 1 (.t 7), none, []⟩,
   ⟨some 18, .load false 1 (.t 17), none, [1]⟩,
   ⟨some 19, .call 244 [(.t 16), (.t 18)], none, [0, 2]⟩,
   ⟨some 20, .load true 3 (.t 6), none, []⟩,
   ⟨some 21, .fieldAddr 3 (.t 7), none, []⟩,
   ⟨some 22, .load false 1 (.t 21), none, [5]⟩,
   ⟨some 23, .call 244 [(.t 20), (.t 22)], none, [4, 6, 3]⟩,
   ⟨some 10, .mv (.t 19), none, [3, 7, 0, 1, 2, 3]⟩,
   ⟨some 11, .mv (.t 23), none, [7, 8, 0, 1, 2, 3, 4, 5, 6, 7, 8]⟩])
  (.seq (.ops [
   ⟨some 25, .load true 3 (.t 4), none, []⟩,
   ⟨some 26, .fieldAddr 2 (.t 7), none, []⟩,
   ⟨some 27, .load false 1 (.t 26), none, [1]⟩,
   ⟨some 28, .call 82 [(.t 25), (.t 27)], none, [0, 2]⟩,
   ⟨some 24, .mv (.t 28), none, [3]⟩,
   ⟨some 29, .extract (.t 24) 0, none, [4]⟩,
   ⟨some 30, .extract (.t 24) 1, none, [4]⟩,
   ⟨some 12, .alloc [(.pv (.int .i64 0)), (.pv (.int .i64 0)), (.pv (.int .u64 0)), (.pv (.int .u64 0)), (.pv (.int .u64 0)), (.pv (.int .u64 0)), (.pv (.int .u64 0)), (.pv (.int .u64 0)), (.pv (.int .u64 0)), (.pv (.int .u64 0))], none, []⟩,
   ⟨none, .store 10 (.t 12) (.t 29), none, [7, 5, 3, 0, 1, 2, 3, 4, 5, 7]⟩,
   ⟨some 13, .mv (.t 30), none, [6, 8, 0, 1, 2, 3, 4, 5, 6, 7, 8]⟩])
  (.seq (.block 0
   (.seq (.ops [
     ⟨some 32, .load true 4 (.t 7), none, []⟩,
     ⟨some 33, .call 243 [(.t 32)], none, [0]⟩,
     ⟨some 34, .not (.t 33), none, [1]⟩,
     ⟨some 31, .mv (.t 34), none, [2, 1]⟩])
    (.cond (.t 31)
     (.seq (.ops [
       ⟨some 35, .build [.nils, (.pv (.int .i64 0)), (.pv (.int .i64 0))] [], none, []⟩,
       ⟨some 36, .mkI 0 (.c (.pv (.int .i64 1))), none, []⟩,
       ⟨none, .store 3 (.t 8) (.t 35), none, [0, 0]⟩,
       ⟨some 9, .mv (.t 36), none, [1, 2, 0, 1, 2]⟩])
      .ret)
     (.seq (.ops [
       ⟨some 38, .mv (.t 10), none, []⟩,
       ⟨some 39, .bin .lss none (.t 38) (.c (.pv (.int .i64 0))), none, [0]⟩,
       ⟨some 40, .mv (.t 39), none, [1]⟩,
       ⟨some 41, .fieldAddr 0 (.t 7), some (40, false), [2]⟩,
       ⟨some 42, .load false 1 (.t 41), some (40, false), [3, 2]⟩,
       ⟨some 43, .bin .neq none (.t 42) (.c (.pv (.int .i64 2))), some (40, false), [4, 2]⟩,
       ⟨some 44, .mv (.t 43), some (40, false), [5, 2, 2]⟩,
       ⟨some 45, .mv (.t 13), some (44, true), [6]⟩,
       ⟨some 46, .not (.t 45), some (44, true), [7, 6]⟩,
       ⟨some 47, .pick (.t 44) (.t 46) (.c (.pv (.bool false))), some (40, false), [6, 8, 2]⟩,
       ⟨some 48, .pick (.t 40) (.c (.pv (.bool true))) (.t 47), none, [2, 9]⟩,
       ⟨some 49, .mv (.t 48), none, [10, 6]⟩,
       ⟨some 50, .fieldAddr 0 (.t 7), some (49, false), [11]⟩,
       ⟨some 51, .load false 1 (.t 50), some (49, false), [12, 11]⟩,
       ⟨some 52, .bin .eql none (.t 51) (.c (.pv (.int .i64 4))), some (49, false), [13, 11]⟩,
       ⟨some 53, .mv (.t 52), some (49, false), [14, 11, 11]⟩,
       ⟨some 54, .mv (.t 11), some (53, true), [15]⟩,
       ⟨some 55, .bin .lss none (.t 54) (.c (.pv (.int .i64 0))), some (53, true), [16, 15]⟩,
       ⟨some 56, .pick (.t 53) (.t 55) (.c (.pv (.bool false))), some (49, false), [15, 17, 11]⟩,
       ⟨some 57, .pick (.t 49) (.c (.pv (.bool true))) (.t 56), none, [11, 18]⟩,
       ⟨some 37, .mv (.t 57), none, [19, 15]⟩])
      (.cond (.t 37)
       (.seq (.ops [
         ⟨some 58, .build [.nils, (.pv (.int .i64 0)), (.pv (.int .i64 0))] [], none, []⟩,
         ⟨some 59, .mkI 0 (.c (.pv (.int .i64 4))), none, []⟩,
         ⟨none, .store 3 (.t 8) (.t 58), none, [0, 0]⟩,
         ⟨some 9, .mv (.t 59), none, [1, 2, 0, 1, 2]⟩])
        .ret)
       .skip)))))
  (.seq (.ops [
   ⟨some 60, .fieldAddr 0 (.t 6), none, []⟩,
   ⟨some 61, .load false 1 (.t 60), none, [0]⟩,
   ⟨some 62, .mv (.t 10), none, []⟩,
   ⟨some 63, .idxAddr 8 (.t 61) (.t 62), none, [1, 2]⟩,
   ⟨some 64, .fieldAddr 7 (.t 63), none, [3]⟩,
   ⟨some 65, .load false 1 (.t 64), none, [4]⟩,
   ⟨some 14, .mv (.t 65), none, [5, 0, 1, 2, 3, 4, 5]⟩])
  (.seq (.ops [
   ⟨some 66, .fieldAddr 0 (.t 6), none, []⟩,
   ⟨some 67, .load false 1 (.t 66), none, [0]⟩,
   ⟨some 68, .call 279 [(.t 67)], none, [1]⟩,
   ⟨some 69, .fieldAddr 0 (.t 6), none, [0, 1, 2]⟩,
   ⟨none, .store 1 (.t 69) (.t 68), none, [3, 2, 2, 0, 1, 2]⟩])
  (.seq (.ops [
   ⟨some 70, .fieldAddr 0 (.t 6), none, []⟩,
   ⟨some 71, .load false 1 (.t 70), none, [0]⟩,
   ⟨some 72, .mv (.t 10), none, []⟩,
   ⟨some 73, .idxAddr 8 (.t 71) (.t 72), none, [1, 2]⟩,
   ⟨some 15, .mv (.t 73), none, [3, 0, 1, 2, 3]⟩])
  (.seq (.seq (.ops [
   ⟨some 74, .fieldAddr 0 (.t 7), none, []⟩,
   ⟨some 75, .load false 1 (.t 74), none, [0]⟩])
  (.block 1
   (.seq (.block 5
     (.seq (.block 4
       (.seq (.block 3
         (.seq (.block 2
           (.seq (.seq (.seq (.ops [
             ⟨some 77, .bin .eql none (.t 75) (.c (.pv (.int .i64 2))), none, []⟩,
             ⟨some 76, .mv (.t 77), none, [0]⟩])
            (.cond (.t 76)
             (.exit 2)
             .skip))
            (.seq (.seq (.ops [
             ⟨some 79, .bin .eql none (.t 75) (.c (.pv (.int .i64 3))), none, []⟩,
             ⟨some 78, .mv (.t 79), none, [0]⟩])
            (.cond (.t 78)
             (.exit 3)
             .skip))
            (.seq (.ops [
             ⟨some 81, .bin .eql none (.t 75) (.c (.pv (.int .i64 4))), none, []⟩,
             ⟨some 80, .mv (.t 81), none, [0]⟩])
            (.cond (.t 80)
             (.exit 4)
             .skip))))
            (.exit 5)))
          (.seq (.seq (.seq (.ops [
           ⟨some 82, .mv (.t 14), none, []⟩,
           ⟨some 83, .bin .eql none (.t 82) (.c (.pv (.int .i64 0))), none, [0]⟩])
          (.cond (.t 83)
           (.seq (.ops [
             ⟨some 84, .build [.nils, (.pv (.int .i64 0)), (.pv (.int .i64 0))] [], none, []⟩,
             ⟨some 85, .mkI 0 (.c (.pv (.int .i64 7))), none, []⟩,
             ⟨none, .store 3 (.t 8) (.t 84), none, [0, 0]⟩,
             ⟨some 9, .mv (.t 85), none, [1, 2, 0, 1, 2]⟩])
            .ret)
           .skip))
          (.seq (.ops [
           ⟨some 86, .mv (.t 15), none, []⟩,
           ⟨some 87, .nilchk (.t 86), none, [0, 0]⟩,
           ⟨some 88, .fieldAddr 7 (.t 87), none, [1, 0]⟩,
           ⟨none, .store 1 (.t 88) (.c (.pv (.int .i64 0))), none, [2, 0]⟩])
          (.seq (.ops [
           ⟨some 89, .load true 3 (.t 6), none, []⟩,
           ⟨none, .store 3 (.t 8) (.t 89), none, [0, 0]⟩,
           ⟨some 9, .mv (.c (.pv .nili)), none, [1, 0, 1]⟩])
          .ret)))
          (.exit 1))))
        (.seq (.seq (.seq (.ops [
         ⟨some 90, .mv (.t 14), none, []⟩,
         ⟨some 91, .bin .eql none (.t 90) (.c (.pv (.int .i64 0))), none, [0]⟩,
         ⟨some 92, .mv (.t 91), none, [1]⟩,
         ⟨some 93, .mv (.t 14), some (92, false), [2]⟩,
         ⟨some 94, .fieldAddr 2 (.t 7), some (92, false), [2]⟩,
         ⟨some 95, .load false 1 (.t 94), some (92, false), [4, 2]⟩,
         ⟨some 96, .bin .eql none (.t 93) (.t 95), some (92, false), [3, 5, 2]⟩,
         ⟨some 97, .pick (.t 92) (.c (.pv (.bool true))) (.t 96), none, [2, 6]⟩])
        (.cond (.t 97)
         (.seq (.ops [
           ⟨some 98, .build [.nils, (.pv (.int .i64 0)), (.pv (.int .i64 0))] [], none, []⟩,
           ⟨some 99, .mkI 0 (.c (.pv (.int .i64 7))), none, []⟩,
           ⟨none, .store 3 (.t 8) (.t 98), none, [0, 0]⟩,
           ⟨some 9, .mv (.t 99), none, [1, 2, 0, 1, 2]⟩])
          .ret)
         .skip))
        (.ops [
         ⟨some 100, .fieldAddr 2 (.t 6), none, []⟩,
         ⟨some 101, .load false 1 (.t 100), none, [0]⟩,
         ⟨some 102, .bin .add none (.t 101) (.c (.pv (.int .i64 1))), none, [1]⟩,
         ⟨some 103, .fieldAddr 2 (.t 6), none, [0, 1, 2]⟩,
         ⟨none, .store 1 (.t 103) (.t 102), none, [3, 2, 0, 1, 2]⟩]))
        (.exit 1))))
      (.seq (.seq (.draw [
       ⟨some 104, .mv (.t 10), none, []⟩,
       ⟨some 105, .mv (.t 11), none, []⟩,
       ⟨some 106, .bin .eql none (.t 104) (.t 105), none, [0, 1]⟩,
       ⟨some 107, .mv (.t 106), none, [2]⟩,
       ⟨some 108, .fieldAddr 0 (.t 6), some (107, false), [3]⟩,
       ⟨some 109, .load false 1 (.t 108), some (107, false), [4, 3]⟩,
       ⟨some 110, .mv (.t 11), some (107, false), [3]⟩,
       ⟨some 111, .idxAddr 8 (.t 109) (.t 110), some (107, false), [5, 6, 3]⟩,
       ⟨some 112, .fieldAddr 7 (.t 111), some (107, false), [7, 3]⟩,
       ⟨some 113, .load false 1 (.t 112), some (107, false), [8, 3]⟩,
       ⟨some 114, .fieldAddr 2 (.t 7), some (107, false), [3]⟩,
       ⟨some 115, .load false 1 (.t 114), some (107, false), [10, 3]⟩,
       ⟨some 116, .bin .neq none (.t 113) (.t 115), some (107, false), [9, 11, 3]⟩,
       ⟨some 117, .pick (.t 107) (.c (.pv (.bool true))) (.t 116), none, [3, 12]⟩])
      (.cond (.t 117)
       (.seq (.ops [
         ⟨some 118, .build [.nils, (.pv (.int .i64 0)), (.pv (.int .i64 0))] [], none, []⟩,
         ⟨some 119, .mkI 0 (.c (.pv (.int .i64 7))), none, []⟩,
         ⟨none, .store 3 (.t 8) (.t 118), none, [0, 0]⟩,
         ⟨some 9, .mv (.t 119), none, [1, 2, 0, 1, 2]⟩])
        .ret)
       .skip))
      (.seq (.ops [
       ⟨some 120, .fieldAddr 0 (.t 6), none, []⟩,
       ⟨some 121, .load false 1 (.t 120), none, [0]⟩,
       ⟨some 122, .mv (.t 11), none, []⟩,
       ⟨some 123, .idxAddr 8 (.t 121) (.t 122), none, [1, 2, 0, 1, 2]⟩,
       ⟨some 124, .fieldAddr 7 (.t 123), none, [3, 0, 1, 2]⟩,
       ⟨none, .store 1 (.t 124) (.c (.pv (.int .i64 0))), none, [4, 0, 1, 2]⟩])
      (.ops [
       ⟨some 125, .fieldAddr 1 (.t 6), none, []⟩,
       ⟨some 126, .load false 1 (.t 125), none, [0]⟩,
       ⟨some 127, .bin .add none (.t 126) (.c (.pv (.int .i64 1))), none, [1]⟩,
       ⟨some 128, .fieldAddr 1 (.t 6), none, [0, 1, 2]⟩,
       ⟨none, .store 1 (.t 128) (.t 127), none, [3, 2, 0, 1, 2]⟩])))))
    (.seq (.seq (.ops [
     ⟨some 129, .mv (.t 14), none, []⟩,
     ⟨some 130, .bin .neq none (.t 129) (.c (.pv (.int .i64 0))), none, [0]⟩])
    (.cond (.t 130)
     (.seq (.ops [
       ⟨some 131, .build [.nils, (.pv (.int .i64 0)), (.pv (.int .i64 0))] [], none, []⟩,
       ⟨some 132, .mkI 0 (.c (.pv (.int .i64 7))), none, []⟩,
       ⟨none, .store 3 (.t 8) (.t 131), none, [0, 0]⟩,
       ⟨some 9, .mv (.t 132), none, [1, 2, 0, 1, 2]⟩])
      .ret)
     .skip))
    (.exit 1)))))
  (.seq (.ops [
   ⟨some 133, .load true 3 (.t 5), none, []⟩,
   ⟨some 134, .mv (.t 15), none, []⟩,
   ⟨some 135, .fieldAddr 2 (.t 7), none, []⟩,
   ⟨some 136, .load false 1 (.t 135), none, [2]⟩,
   ⟨some 137, .call 242 [(.t 133), (.t 134), (.t 136)], none, [0, 1, 3]⟩])
  (.seq (.ops [
   ⟨some 138, .load true 3 (.t 6), none, []⟩,
   ⟨none, .store 3 (.t 8) (.t 138), none, [0, 0]⟩,
   ⟨some 9, .mv (.c (.pv .nili)), none, [1, 0, 1]⟩])
  .ret))))))))))⟩

/-- dunnage/state.Pod -/
def f240 : AFunc := ⟨18, [.cell 4 true 8, .t 5],
 (.seq (.ops [
   ⟨some 2, .box (.t 0), none, []⟩,
   ⟨some 4, .alloc [(.pv (.int .i64 0)), (.pv (.int .i64 0)), (.pv (.int .i64 0)), (.pv (.int .u64 0)), (.pv (.int .u64 0)), (.pv (.int .u64 0)), (.pv (.int .u64 0)), (.pv (.int .i64 0))], none, []⟩,
   ⟨some 5, .mv (.c (.pv (.bool false))), none, []⟩])
  (.seq (.ops [
   ⟨some 7, .load true 3 (.t 2), none, []⟩,
   ⟨some 8, .mv (.t 1), none, []⟩,
   ⟨some 9, .call 244 [(.t 7), (.t 8)], none, [0, 1]⟩,
   ⟨some 6, .mv (.t 9), none, [2, 2, 0, 1, 2]⟩])
  (.seq (.seq (.ops [
   ⟨some 10, .mv (.t 6), none, []⟩,
   ⟨some 11, .bin .lss none (.t 10) (.c (.pv (.int .i64 0))), none, [0]⟩])
  (.cond (.t 11)
   (.seq (.ops [
     ⟨some 12, .build [(.pv (.int .i64 0)), (.pv (.int .i64 0)), (.pv (.int .i64 0)), (.pv (.int .u64 0)), (.pv (.int .u64 0)), (.pv (.int .u64 0)), (.pv (.int .u64 0)), (.pv (.int .i64 0))] [], none, []⟩,
     ⟨none, .store 8 (.t 4) (.t 12), none, [0, 0]⟩,
     ⟨some 5, .mv (.c (.pv (.bool false))), none, [1, 0, 1]⟩])
    .ret)
   .skip))
  (.seq (.ops [
   ⟨some 13, .fieldAddr 0 (.t 2), none, []⟩,
   ⟨some 14, .load false 1 (.t 13), none, [0]⟩,
   ⟨some 15, .mv (.t 6), none, []⟩,
   ⟨some 16, .idxAddr 8 (.t 14) (.t 15), none, [1, 2]⟩,
   ⟨some 17, .load true 8 (.t 16), none, [3]⟩,
   ⟨none, .store 8 (.t 4) (.t 17), none, [4, 0, 1, 2, 3, 4]⟩,
   ⟨some 5, .mv (.c (.pv (.bool true))), none, [5, 0, 1, 2, 3, 4, 5]⟩])
  .ret))))⟩

/-- dunnage/state.Same -/
def f241 : AFunc := ⟨24, [.t 4],
 (.seq (.ops [
   ⟨some 2, .box (.t 0), none, []⟩,
   ⟨some 3, .box (.t 1), none, []⟩,
   ⟨some 4, .mv (.c (.pv (.bool false))), none, []⟩])
  (.seq (.ops [
   ⟨some 5, .fieldAddr 1 (.t 2), none, []⟩,
   ⟨some 6, .load false 1 (.t 5), none, [0]⟩,
   ⟨some 7, .fieldAddr 1 (.t 3), none, []⟩,
   ⟨some 8, .load false 1 (.t 7), none, [2]⟩,
   ⟨some 9, .bin .eql none (.t 6) (.t 8), none, [1, 3]⟩,
   ⟨some 10, .mv (.t 9), none, [4]⟩,
   ⟨some 11, .fieldAddr 2 (.t 2), some (10, true), [5]⟩,
   ⟨some 12, .load false 1 (.t 11), some (10, true), [6, 5]⟩,
   ⟨some 13, .fieldAddr 2 (.t 3), some (10, true), [5]⟩,
   ⟨some 14, .load false 1 (.t 13), some (10, true), [8, 5]⟩,
   ⟨some 15, .bin .eql none (.t 12) (.t 14), some (10, true), [7, 9, 5]⟩,
   ⟨some 16, .pick (.t 10) (.t 15) (.c (.pv (.bool false))), none, [5, 10]⟩,
   ⟨some 17, .mv (.t 16), none, [11, 5]⟩,
   ⟨some 18, .fieldAddr 0 (.t 2), some (17, true), [12]⟩,
   ⟨some 19, .load false 1 (.t 18), some (17, true), [13, 12]⟩,
   ⟨some 20, .fieldAddr 0 (.t 3), some (17, true), [12]⟩,
   ⟨some 21, .load false 1 (.t 20), some (17, true), [15, 12]⟩,
   ⟨some 22, .call 286 [(.t 19), (.t 21)], some (17, true), [14, 16, 12, 12]⟩,
   ⟨some 23, .pick (.t 17) (.t 22) (.c (.pv (.bool false))), none, [12, 17]⟩,
   ⟨some 4, .mv (.t 23), none, [18, 17, 0, 1, 2, 3, 4, 5, 6, 7, 8, 9, 10, 11, 12, 13, 14, 15, 16, 17, 18]⟩])
  .ret))⟩

/-- dunnage/state.come -/
def f242 : AFunc := ⟨31, [],
 (.seq (.ops [
   ⟨some 3, .box (.t 0), none, []⟩])
  (.seq (.ops [
   ⟨some 8, .mv (.t 1), none, []⟩,
   ⟨some 9, .mv (.t 2), none, []⟩,
   ⟨some 10, .nilchk (.t 8), none, [0, 0, 1]⟩,
   ⟨some 11, .fieldAddr 7 (.t 10), none, [2, 0, 1]⟩,
   ⟨none, .store 1 (.t 11) (.t 9), none, [3, 1, 0, 1]⟩])
  (.seq (.draw [
   ⟨some 13, .load true 3 (.t 3), none, []⟩,
   ⟨some 14, .mv (.t 1), none, []⟩,
   ⟨some 15, .nilchk (.t 14), none, [1]⟩,
   ⟨some 16, .fieldAddr 0 (.t 15), none, [2]⟩,
   ⟨some 17, .load false 1 (.t 16), none, [3]⟩,
   ⟨some 18, .call 83 [(.t 13), (.t 17)], none, [0, 4]⟩,
   ⟨some 12, .mv (.t 18), none, [5]⟩,
   ⟨some 19, .extract (.t 12) 0, none, [6]⟩,
   ⟨some 20, .extract (.t 12) 1, none, [6]⟩,
   ⟨some 6, .alloc [(.pv (.int .i64 0)), (.pv (.int .u64 0)), (.pv (.int .u64 0)), (.pv (.int .u64 0)), (.pv (.int .u64 0)), (.pv (.bool false))], none, []⟩,
   ⟨none, .store 6 (.t 6) (.t 19), none, [9, 7, 5, 0, 1, 2, 3, 4, 5, 6, 7, 9]⟩,
   ⟨some 7, .mv (.t 20), none, [8, 10, 0, 1, 2, 3, 4, 5, 6, 7, 8, 9, 10]⟩])
  (.seq (.ops [
   ⟨some 21, .mv (.t 7), none, []⟩,
   ⟨some 22, .mv (.t 21), none, [0]⟩,
   ⟨some 23, .fieldAddr 5 (.t 6), some (22, true), [1]⟩,
   ⟨some 24, .load false 1 (.t 23), some (22, true), [2, 1]⟩,
   ⟨some 25, .pick (.t 22) (.t 24) (.c (.pv (.bool false))), none, [1, 3]⟩])
  (.cond (.t 25)
   (.ops [
     ⟨some 26, .mv (.t 1), none, []⟩,
     ⟨some 27, .fieldAddr 1 (.t 6), none, []⟩,
     ⟨some 28, .load true 4 (.t 27), none, [1]⟩,
     ⟨some 29, .nilchk (.t 26), none, [0, 0, 1, 2]⟩,
     ⟨some 30, .fieldAddr 3 (.t 29), none, [3, 0, 1, 2]⟩,
     ⟨none, .store 4 (.t 30) (.t 28), none, [4, 2, 0, 1, 2]⟩])
   .skip)))))⟩

/-- dunnage/state.form -/
def f243 : AFunc := ⟨23, [.t 2],
 (.seq (.ops [
   ⟨some 1, .box (.t 0), none, []⟩,
   ⟨some 2, .mv (.c (.pv (.bool false))), none, []⟩])
  (.seq (.seq (.ops [
   ⟨some 3, .fieldAddr 0 (.t 1), none, []⟩,
   ⟨some 4, .load false 1 (.t 3), none, [0]⟩])
  (.block 0
   (.seq (.ops [
     ⟨some 6, .bin .eql none (.t 4) (.c (.pv (.int .i64 2))), none, []⟩,
     ⟨some 5, .mv (.t 6), none, [0]⟩])
    (.cond (.t 5)
     (.seq (.ops [
       ⟨some 7, .fieldAddr 2 (.t 1), none, []⟩,
       ⟨some 8, .load false 1 (.t 7), none, [0]⟩,
       ⟨some 9, .bin .eql none (.t 8) (.c (.pv (.int .i64 0))), none, [1]⟩,
       ⟨some 10, .mv (.t 9), none, [2]⟩,
       ⟨some 11, .fieldAddr 3 (.t 1), some (10, true), [3]⟩,
       ⟨some 12, .load false 1 (.t 11), some (10, true), [4, 3]⟩,
       ⟨some 13, .bin .eql none (.t 12) (.c (.pv (.int .i64 0))), some (10, true), [5, 3]⟩,
       ⟨some 14, .pick (.t 10) (.t 13) (.c (.pv (.bool false))), none, [3, 6]⟩,
       ⟨some 2, .mv (.t 14), none, [7, 3, 0, 1, 2, 3, 4, 5, 6, 7]⟩])
      .ret)
     (.seq (.seq (.ops [
       ⟨some 16, .bin .eql none (.t 4) (.c (.pv (.int .i64 1))), none, []⟩,
       ⟨some 15, .mv (.t 16), none, [0]⟩])
      (.cond (.t 15)
       .skip
       (.ops [
         ⟨some 17, .bin .eql none (.t 4) (.c (.pv (.int .i64 3))), none, []⟩,
         ⟨some 15, .mv (.t 17), none, [0]⟩])))
      (.cond (.t 15)
       (.seq (.ops [
         ⟨some 18, .fieldAddr 3 (.t 1), none, []⟩,
         ⟨some 19, .load false 1 (.t 18), none, [0]⟩,
         ⟨some 20, .bin .eql none (.t 19) (.c (.pv (.int .i64 0))), none, [1]⟩,
         ⟨some 2, .mv (.t 20), none, [2, 0, 1, 2]⟩])
        .ret)
       (.seq (.ops [
         ⟨some 22, .bin .eql none (.t 4) (.c (.pv (.int .i64 4))), none, []⟩,
         ⟨some 21, .mv (.t 22), none, [0]⟩])
        (.cond (.t 21)
         (.seq (.ops [
           ⟨some 2, .mv (.c (.pv (.bool true))), none, []⟩])
          .ret)
         .skip))))))))
  (.seq (.ops [
   ⟨some 2, .mv (.c (.pv (.bool false))), none, []⟩])
  .ret)))⟩

/-- dunnage/state.place -/
def f244 : AFunc := ⟨9, [.t 4],
 (.seq (.ops [
   ⟨some 2, .box (.t 0), none, []⟩,
   ⟨some 3, .box (.t 1), none, []⟩,
   ⟨some 4, .mv (.c (.pv (.int .i64 0))), none, []⟩])
  (.seq (.ops [
   ⟨some 5, .fieldAddr 0 (.t 2), none, []⟩,
   ⟨some 6, .load false 1 (.t 5), none, [0]⟩,
   ⟨some 7, .mkF 245 [] [(.t 3)], none, []⟩,
   ⟨some 8, .call 287 [(.t 6), (.t 7)], none, [1, 2]⟩,
   ⟨some 4, .mv (.t 8), none, [3, 3, 0, 1, 2, 3]⟩])
  .ret))⟩

/-- dunnage/state.place$1 -/
def f245 : AFunc := ⟨8, [.t 3],
 (.seq (.ops [
   ⟨some 2, .box (.t 0), none, []⟩,
   ⟨some 3, .mv (.c (.pv (.bool false))), none, []⟩])
  (.seq (.ops [
   ⟨some 4, .fieldAddr 0 (.t 2), none, []⟩,
   ⟨some 5, .load false 1 (.t 4), none, [0]⟩,
   ⟨some 6, .load false 1 (.t 1), none, []⟩,
   ⟨some 7, .bin .eql none (.t 5) (.t 6), none, [1, 2]⟩,
   ⟨some 3, .mv (.t 7), none, [3, 0, 1, 2, 3]⟩])
  .ret))⟩

/-- slices.Clone[[]dunnage/api.Pod,dunnage/api.Pod] -/
def f279 : AFunc := ⟨8, [.t 2],
 (.seq (.ops [
   ⟨some 2, .mv (.c .nils), none, []⟩])
  (.seq (.seq (.ops [
   ⟨some 3, .mv (.t 0), none, []⟩,
   ⟨some 4, .bin .eql (some .slice) (.t 3) (.c .nils), none, [0]⟩])
  (.cond (.t 4)
   (.seq (.ops [
     ⟨some 2, .mv (.c .nils), none, []⟩])
    .ret)
   .skip))
  (.seq (.ops [
   ⟨some 5, .bslice 8 0 [] [], none, []⟩,
   ⟨some 6, .mv (.t 0), none, []⟩,
   ⟨some 7, .append 8 64 (.t 5) (.t 6), none, [0, 1]⟩,
   ⟨some 2, .mv (.t 7), none, [2, 2, 0, 1, 2]⟩])
  .ret)))⟩

def f286l0 : ACode :=
 (.seq (.ops [
   ⟨some 14, .bin .lss none (.t 13) (.t 12), none, []⟩])
  (.seq (.cond (.t 14)
   .skip
   (.exit 0))
  (.seq (.block 1
   (.seq (.ops [
     ⟨some 15, .mv (.t 13), none, []⟩,
     ⟨some 5, .mv (.t 15), none, [0, 0]⟩])
    (.seq (.draw [
     ⟨some 16, .mv (.t 0), none, []⟩,
     ⟨some 17, .mv (.t 5), none, []⟩,
     ⟨some 18, .idxAddr 8 (.t 16) (.t 17), none, [0, 1]⟩,
     ⟨some 19, .load true 8 (.t 18), none, [2]⟩,
     ⟨some 20, .mv (.t 1), none, []⟩,
     ⟨some 21, .mv (.t 5), none, []⟩,
     ⟨some 22, .idxAddr 8 (.t 20) (.t 21), none, [4, 5]⟩,
     ⟨some 23, .load true 8 (.t 22), none, [6]⟩,
     ⟨some 24, .bin .neq (some (.plain [false, false, false, false, false, false, false, false])) (.t 19) (.t 23), none, [3, 7]⟩])
    (.cond (.t 24)
     (.seq (.ops [
       ⟨some 4, .mv (.c (.pv (.bool false))), none, []⟩])
      .ret)
     .skip))))
  (.ops [
   ⟨some 25, .bin .add none (.t 13) (.c (.pv (.int .i64 1))), none, []⟩,
   ⟨some 13, .mv (.t 25), none, [0]⟩]))))
/-- slices.Equal[[]dunnage/api.Pod,dunnage/api.Pod] -/
def f286 : AFunc := ⟨26, [.t 4],
 (.seq (.ops [
   ⟨some 4, .mv (.c (.pv (.bool false))), none, []⟩])
  (.seq (.seq (.ops [
   ⟨some 6, .mv (.t 0), none, []⟩,
   ⟨some 7, .len (.t 6), none, [0]⟩,
   ⟨some 8, .mv (.t 1), none, []⟩,
   ⟨some 9, .len (.t 8), none, [2]⟩,
   ⟨some 10, .bin .neq none (.t 7) (.t 9), none, [1, 3]⟩])
  (.cond (.t 10)
   (.seq (.ops [
     ⟨some 4, .mv (.c (.pv (.bool false))), none, []⟩])
    .ret)
   .skip))
  (.seq (.seq (.ops [
   ⟨some 11, .mv (.t 0), none, []⟩,
   ⟨some 12, .len (.t 11), none, [0]⟩,
   ⟨some 13, .mv (.c (.pv (.int .i64 0))), none, []⟩])
  (.block 0
   (.loop f286l0)))
  (.seq (.ops [
   ⟨some 4, .mv (.c (.pv (.bool true))), none, []⟩])
  .ret))))⟩

def f287l0 : ACode :=
 (.seq (.ops [
   ⟨some 9, .bin .lss none (.t 8) (.t 7), none, []⟩])
  (.seq (.cond (.t 9)
   .skip
   (.exit 0))
  (.seq (.block 1
   (.seq (.ops [
     ⟨some 10, .mv (.t 8), none, []⟩,
     ⟨some 5, .mv (.t 10), none, [0, 0]⟩])
    (.seq (.ops [
     ⟨some 11, .mv (.t 1), none, []⟩,
     ⟨some 12, .mv (.t 0), none, []⟩,
     ⟨some 13, .mv (.t 5), none, []⟩,
     ⟨some 14, .idxAddr 8 (.t 12) (.t 13), none, [1, 2]⟩,
     ⟨some 15, .load true 8 (.t 14), none, [3]⟩,
     ⟨some 16, .callv (.t 11) [(.t 15)], none, [0, 4]⟩])
    (.cond (.t 16)
     (.seq (.ops [
       ⟨some 17, .mv (.t 5), none, []⟩,
       ⟨some 4, .mv (.t 17), none, [0, 0]⟩])
      .ret)
     .skip))))
  (.ops [
   ⟨some 18, .bin .add none (.t 8) (.c (.pv (.int .i64 1))), none, []⟩,
   ⟨some 8, .mv (.t 18), none, [0]⟩]))))
/-- slices.IndexFunc[[]dunnage/api.Pod,dunnage/api.Pod] -/
def f287 : AFunc := ⟨19, [.t 4],
 (.seq (.ops [
   ⟨some 4, .mv (.c (.pv (.int .i64 0))), none, []⟩])
  (.seq (.seq (.ops [
   ⟨some 6, .mv (.t 0), none, []⟩,
   ⟨some 7, .len (.t 6), none, [0]⟩,
   ⟨some 8, .mv (.c (.pv (.int .i64 0))), none, []⟩])
  (.block 0
   (.loop f287l0)))
  (.seq (.ops [
   ⟨some 4, .mv (.c (.pv (.int .i64 (-1)))), none, []⟩])
  .ret)))⟩

end Go.Proofs.YtmeigdjfcecidaaDoor.Ab
/- Layer 5: contracts. -/
set_option linter.unusedVariables false
set_option linter.unusedSimpArgs false
namespace Go.Proofs.YtmeigdjfcecidaaDoor.Ab
open Go

/-- A pod's place, from here on. -/
def placeFrom (id : Int) : Nat → List Pod → Int
  | _, [] => -1
  | i, p :: r => if p.id = id then i else placeFrom id (i + 1) r

theorem place_ok {T : Tab} (h167 : Std T 167 f167) (t : State) (id : Int) (h : t.pods.length ≤ 2 ^ 30) :
    Gives T 167 [stateP t, .int .i64 id] (.int .i64 (placeFrom id 0 t.pods)) := by
  refine gives h167 rfl ?_
  simp only [f167, runL, opQ, evOp, evO, evOs, guardV, argsA, pvs, putS, cellsOf, scals, scal, Nat.reduceEqDiff, Nat.reduceAdd, reduceCtorEq, fieldA, nonNil, cellsAt, mkAgg, allPV, storeB, patchL, Int.reduceToNat, Nat.reduceMul, Nat.reduceLT, stepA, Int.reduceNeg, Int.reduceLE, Int.reduceLT, Int.reduceEq, extractV, mkAgg, Nat.reduceLeDiff, fillA, pureVs, pureV, eqV, eqB, lenV, binV, intBin, intV, idxA, List.drop, List.take, RetP, retP, resV, resOne, snapV, snapVs, snapR, snapRs, ownSz, pickV, AO.isC, opE, opD, funV, stateP]
  have loop : ∀ (rest : List Pod) (i : Nat) (fr : List (Nat × AV)), t.pods.drop i = rest → i ≤ t.pods.length → look fr 5 = .pv (.int .i64 i) → look fr 1 = .pv (.int .i64 id) → look fr 2 = .ptr 0 0 0 →
      Wp T false (.loop f167l0) ⟨fr, [(0, .var [.pv (.slice (t.pods.map podC)), .pv (.int .i64 t.pre), .pv (.int .i64 t.shi)])], 1⟩
        (blkQ 0 (seqQ T false (.seq (.ops [⟨some 4, .mv (.c (.pv (.int .i64 (-1)))), none, []⟩]) .ret) (RetP [.t 4] (.int .i64 (placeFrom id i rest))))) := by
    intro rest
    induction rest with
    | nil =>
      intro i fr hd hi h5 h1 h2
      have hlen : t.pods.length = i := by
        have := congrArg List.length hd
        simp at this
        omega
      rw [Wp_loop, Wp_eq f167l0.eq_1]
      simp only [runL, opQ, evOp, evO, evOs, guardV, argsA, pvs, putS, cellsOf, scals, scal, Nat.reduceEqDiff, Nat.reduceAdd, reduceCtorEq, fieldA, nonNil, cellsAt, mkAgg, allPV, storeB, patchL, Int.reduceToNat, Nat.reduceMul, Nat.reduceLT, stepA, Int.reduceNeg, Int.reduceLE, Int.reduceLT, Int.reduceEq, extractV, mkAgg, Nat.reduceLeDiff, fillA, pureVs, pureV, eqV, eqB, lenV, binV, intBin, intV, idxA, List.drop, List.take, RetP, retP, resV, resOne, snapV, snapVs, snapR, snapRs, ownSz, pickV, AO.isC, opE, opD, funV, h5, h1, h2, List.length_map, hlen, Int.lt_irrefl, decide_false, placeFrom, not_true_eq_false]
    | cons p r ih =>
      intro i fr hd hi h5 h1 h2
      have hget : t.pods[i]? = some p := by
        have := congrArg (·[0]?) hd
        simpa using this
      have hlt : i < t.pods.length := (List.getElem?_eq_some_iff.1 hget).1
      have hlt' : (i : Int) < (t.pods.length : Int) := by omega
      rw [Wp_loop, Wp_eq f167l0.eq_1]
      simp only [runL, opQ, evOp, evO, evOs, guardV, argsA, pvs, putS, cellsOf, scals, scal, Nat.reduceEqDiff, Nat.reduceAdd, reduceCtorEq, fieldA, nonNil, cellsAt, mkAgg, allPV, storeB, patchL, Int.reduceToNat, Nat.reduceMul, Nat.reduceLT, stepA, Int.reduceNeg, Int.reduceLE, Int.reduceLT, Int.reduceEq, extractV, mkAgg, Nat.reduceLeDiff, fillA, pureVs, pureV, eqV, eqB, lenV, binV, intBin, intV, idxA, List.drop, List.take, RetP, retP, resV, resOne, snapV, snapVs, snapR, snapRs, ownSz, pickV, AO.isC, opE, opD, funV, h5, h1, h2, List.length_map, hlt', decide_true, Int.toNat_natCast, List.getElem?_map, hget, Option.map_some, Int.natCast_nonneg, podC]
      by_cases hp : p.id = id
      · simp only [runL, opQ, evOp, evO, evOs, guardV, argsA, pvs, putS, cellsOf, scals, scal, Nat.reduceEqDiff, Nat.reduceAdd, reduceCtorEq, fieldA, nonNil, cellsAt, mkAgg, allPV, storeB, patchL, Int.reduceToNat, Nat.reduceMul, Nat.reduceLT, stepA, Int.reduceNeg, Int.reduceLE, Int.reduceLT, Int.reduceEq, extractV, mkAgg, Nat.reduceLeDiff, fillA, pureVs, pureV, eqV, eqB, lenV, binV, intBin, intV, idxA, List.drop, List.take, RetP, retP, resV, resOne, snapV, snapVs, snapR, snapRs, ownSz, pickV, AO.isC, opE, opD, funV, h5, h1, h2, hp, placeFrom]
      · have hw : IntKind.i64.wrap ((i : Int) + 1) = ((i + 1 : Nat) : Int) := by rw [wrap6] <;> omega
        simp only [runL, opQ, evOp, evO, evOs, guardV, argsA, pvs, putS, cellsOf, scals, scal, Nat.reduceEqDiff, Nat.reduceAdd, reduceCtorEq, fieldA, nonNil, cellsAt, mkAgg, allPV, storeB, patchL, Int.reduceToNat, Nat.reduceMul, Nat.reduceLT, stepA, Int.reduceNeg, Int.reduceLE, Int.reduceLT, Int.reduceEq, extractV, mkAgg, Nat.reduceLeDiff, fillA, pureVs, pureV, eqV, eqB, lenV, binV, intBin, intV, idxA, List.drop, List.take, RetP, retP, resV, resOne, snapV, snapVs, snapR, snapRs, ownSz, pickV, AO.isC, opE, opD, funV, h5, h1, h2, hp, placeFrom, hw]
        refine ih (i + 1) _ ?_ (by omega) ?_ ?_ ?_
        · rw [← List.drop_drop, hd]; rfl
        all_goals simp only [look_if, Nat.reduceEqDiff, if_true, if_false, h1, h2]
  exact loop t.pods 0 _ rfl (Nat.zero_le _) rfl rfl rfl

def few3 (s : Snap) : Bool := decide ((s.nodes.length : Int) ≤ 40) && (decide ((s.loads.length : Int) ≤ 40) && decide ((s.pods.length : Int) ≤ 40))
theorem few3_ok {T : Tab} (h153 : Std T 153 f153) (s : Snap) : Gives T 153 [snapP s] (.bool (few3 s)) := by
  refine gives h153 rfl ?_
  unfold few3
  by_cases h1 : (s.nodes.length : Int) ≤ 40 <;> by_cases h2 : (s.loads.length : Int) ≤ 40 <;> by_cases h3 : (s.pods.length : Int) ≤ 40 <;>
    simp only [f153, runL, opQ, evOp, evO, evOs, guardV, argsA, pvs, putS, cellsOf, scals, scal, Nat.reduceEqDiff, Nat.reduceAdd, reduceCtorEq, fieldA, nonNil, cellsAt, mkAgg, allPV, storeB, patchL, Int.reduceToNat, Nat.reduceMul, Nat.reduceLT, stepA, Int.reduceNeg, Int.reduceLE, Int.reduceLT, Int.reduceEq, extractV, mkAgg, Nat.reduceLeDiff, fillA, pureVs, pureV, eqV, eqB, lenV, binV, intBin, intV, idxA, List.drop, List.take, RetP, retP, resV, resOne, snapV, snapVs, snapR, snapRs, ownSz, pickV, AO.isC, opE, opD, funV, snapP, List.length_map, h1, h2, h3, decide_true, decide_false, Bool.and_true, Bool.true_and, Bool.and_false, Bool.false_and]

def few5 (s : Snap) (x : Spec) (t : State) : Bool := few3 s && (decide ((x.wants.length : Int) ≤ 40) && decide ((t.pods.length : Int) ≤ 40))
theorem few5_ok {T : Tab} (h163 : Std T 163 f163) (h153 : Std T 153 f153) (s : Snap) (x : Spec) (t : State) : Gives T 163 [snapP s, specP x, stateP t] (.bool (few5 s x t)) := by
  refine gives h163 rfl ?_
  unfold few5
  cases hc : few3 s <;> by_cases h1 : (x.wants.length : Int) ≤ 40 <;> by_cases h2 : (t.pods.length : Int) ≤ 40 <;>
    simp only [f163, runL, opQ, evOp, evO, evOs, guardV, argsA, pvs, putS, cellsOf, scals, scal, Nat.reduceEqDiff, Nat.reduceAdd, reduceCtorEq, fieldA, nonNil, cellsAt, mkAgg, allPV, storeB, patchL, Int.reduceToNat, Nat.reduceMul, Nat.reduceLT, stepA, Int.reduceNeg, Int.reduceLE, Int.reduceLT, Int.reduceEq, extractV, mkAgg, Nat.reduceLeDiff, fillA, pureVs, pureV, eqV, eqB, lenV, binV, intBin, intV, idxA, List.drop, List.take, RetP, retP, resV, resOne, snapV, snapVs, snapR, snapRs, ownSz, pickV, AO.isC, opE, opD, funV, snapP, specP, stateP, (few3_ok h153 s).call, hc, List.length_map, h1, h2, decide_true, decide_false, Bool.and_true, Bool.true_and, Bool.and_false, Bool.false_and]

theorem eqPods {p q : Pod} : eqCells [false, false, false, false, false, false, false, false] (podC p) (podC q) = some (decide (p = q)) := by
  obtain ⟨a, b, c, ⟨d, e, f, g⟩, h⟩ := p
  obtain ⟨a', b', c', ⟨d', e', f', g'⟩, h'⟩ := q
  simp only [podC, eqCells, if_true, Option.some.injEq]
  rw [Bool.eq_iff_iff]
  simp [and_assoc]

theorem podC_length (p : Pod) : (podC p).length = 8 := rfl
theorem pvs_take (l : List PV) (n : Nat) : (pvs l).take n = pvs (l.take n) := by
  induction l generalizing n with
  | nil => simp [pvs]
  | cons a r ih => cases n <;> simp [pvs, ih]

theorem same5_ok {T : Tab} (h168 : Std T 168 f168) (a b : State) (ha : a.pods.length ≤ 2 ^ 30) :
    Gives T 168 [stateP a, stateP b] (.bool (decide (a = b))) := by
  refine gives h168 rfl ?_
  have loop : ∀ (ra rb : List Pod) (i : Nat), a.pods.length = b.pods.length → a.pods.drop i = ra → b.pods.drop i = rb → i ≤ a.pods.length → ∀ (fr : List (Nat × AV)), look fr 5 = .pv (.int .i64 i) → look fr 2 = .ptr 0 0 0 → look fr 3 = .ptr 1 0 0 →
      Wp T false (.loop f168l0) ⟨fr, [(1, .var [.pv (.slice (b.pods.map podC)), .pv (.int .i64 b.pre), .pv (.int .i64 b.shi)]), (0, .var [.pv (.slice (a.pods.map podC)), .pv (.int .i64 a.pre), .pv (.int .i64 a.shi)])], 2⟩
        (blkQ 0 (seqQ T false (.seq (.ops [⟨some 4, .mv (.c (.pv (.bool true))), none, []⟩]) .ret) (RetP [.t 4] (.bool (decide (ra = rb)))))) := by
    intro ra
    induction ra with
    | nil =>
      intro rb i hl hda hdb hi fr h5 h2 h3
      have hlen : a.pods.length = i := by
        have := congrArg List.length hda
        simp at this
        omega
      have : rb = [] := by
        rw [← hdb]
        exact List.drop_eq_nil_of_le (by omega)
      subst this
      rw [Wp_loop, Wp_eq f168l0.eq_1]
      simp only [runL, opQ, evOp, evO, evOs, guardV, argsA, pvs, putS, cellsOf, scals, scal, Nat.reduceEqDiff, Nat.reduceAdd, reduceCtorEq, fieldA, nonNil, cellsAt, mkAgg, allPV, storeB, patchL, Int.reduceToNat, Nat.reduceMul, Nat.reduceLT, stepA, Int.reduceNeg, Int.reduceLE, Int.reduceLT, Int.reduceEq, extractV, mkAgg, Nat.reduceLeDiff, fillA, pureVs, pureV, eqV, eqB, lenV, binV, intBin, intV, idxA, List.drop, List.take, RetP, retP, resV, resOne, snapV, snapVs, snapR, snapRs, ownSz, pickV, AO.isC, opE, opD, funV, h5, h2, h3, List.length_map, hlen, Int.lt_irrefl, decide_false, decide_true]
    | cons p r ih =>
      intro rb i hl hda hdb hi fr h5 h2 h3
      have hga : a.pods[i]? = some p := by
        have := congrArg (·[0]?) hda
        simpa using this
      have hlt : i < a.pods.length := (List.getElem?_eq_some_iff.1 hga).1
      have hlt' : (i : Int) < (a.pods.length : Int) := by omega
      cases rb with
      | nil =>
        have := congrArg List.length hdb
        simp at this
        omega
      | cons q rb =>
        have hgb : b.pods[i]? = some q := by
          have := congrArg (·[0]?) hdb
          simpa using this
        rw [Wp_loop, Wp_eq f168l0.eq_1]
        simp only [runL, opQ, evOp, evO, evOs, guardV, argsA, pvs, putS, cellsOf, scals, scal, Nat.reduceEqDiff, Nat.reduceAdd, reduceCtorEq, fieldA, nonNil, cellsAt, mkAgg, allPV, storeB, patchL, Int.reduceToNat, Nat.reduceMul, Nat.reduceLT, stepA, Int.reduceNeg, Int.reduceLE, Int.reduceLT, Int.reduceEq, extractV, mkAgg, Nat.reduceLeDiff, fillA, pureVs, pureV, eqV, eqB, lenV, binV, intBin, intV, idxA, List.drop, List.take, RetP, retP, resV, resOne, snapV, snapVs, snapR, snapRs, ownSz, pickV, AO.isC, opE, opD, funV, h5, h2, h3, List.length_map, hlt', decide_true]
        refine (Wp_calm rfl).2 ?_
        have hw : IntKind.i64.wrap ((i : Int) + 1) = ((i + 1 : Nat) : Int) := by rw [wrap6] <;> omega
        by_cases hpq : p = q
        · subst hpq
          simp only [runL, opQ, evOp, evO, evOs, guardV, argsA, pvs, putS, cellsOf, scals, scal, Nat.reduceEqDiff, Nat.reduceAdd, reduceCtorEq, fieldA, nonNil, cellsAt, mkAgg, allPV, storeB, patchL, Int.reduceToNat, Nat.reduceMul, Nat.reduceLT, stepA, Int.reduceNeg, Int.reduceLE, Int.reduceLT, Int.reduceEq, extractV, mkAgg, Nat.reduceLeDiff, fillA, pureVs, pureV, eqV, eqB, lenV, binV, intBin, intV, idxA, List.drop, List.take, RetP, retP, resV, resOne, snapV, snapVs, snapR, snapRs, ownSz, pickV, AO.isC, opE, opD, funV, h5, h2, h3, hga, hgb, podC_length, eqPods, hw, List.cons.injEq]
          refine ih rb (i + 1) hl ?_ ?_ (by omega) _ ?_ ?_ ?_
          · rw [← List.drop_drop, hda]; rfl
          · rw [← List.drop_drop, hdb]; rfl
          all_goals simp only [look_if, Nat.reduceEqDiff, if_true, if_false, h2, h3]
        · simp only [runL, opQ, evOp, evO, evOs, guardV, argsA, pvs, putS, cellsOf, scals, scal, Nat.reduceEqDiff, Nat.reduceAdd, reduceCtorEq, fieldA, nonNil, cellsAt, mkAgg, allPV, storeB, patchL, Int.reduceToNat, Nat.reduceMul, Nat.reduceLT, stepA, Int.reduceNeg, Int.reduceLE, Int.reduceLT, Int.reduceEq, extractV, mkAgg, Nat.reduceLeDiff, fillA, pureVs, pureV, eqV, eqB, lenV, binV, intBin, intV, idxA, List.drop, List.take, RetP, retP, resV, resOne, snapV, snapVs, snapR, snapRs, ownSz, pickV, AO.isC, opE, opD, funV, h5, h2, h3, hga, hgb, podC_length, eqPods, hpq, hw, List.cons.injEq, false_and]
  have hab : a = b ↔ a.pods = b.pods ∧ a.pre = b.pre ∧ a.shi = b.shi := by cases a; cases b; simp
  simp only [f168, runL, opQ, evOp, evO, evOs, guardV, argsA, pvs, putS, cellsOf, scals, scal, Nat.reduceEqDiff, Nat.reduceAdd, reduceCtorEq, fieldA, nonNil, cellsAt, mkAgg, allPV, storeB, patchL, Int.reduceToNat, Nat.reduceMul, Nat.reduceLT, stepA, Int.reduceNeg, Int.reduceLE, Int.reduceLT, Int.reduceEq, extractV, mkAgg, Nat.reduceLeDiff, fillA, pureVs, pureV, eqV, eqB, lenV, binV, intBin, intV, idxA, List.drop, List.take, RetP, retP, resV, resOne, snapV, snapVs, snapR, snapRs, ownSz, pickV, AO.isC, opE, opD, funV, stateP]
  by_cases hl : a.pods.length = b.pods.length
  · by_cases hp : a.pre = b.pre
    · by_cases hs : a.shi = b.shi
      · simp only [runL, opQ, evOp, evO, evOs, guardV, argsA, pvs, putS, cellsOf, scals, scal, Nat.reduceEqDiff, Nat.reduceAdd, reduceCtorEq, fieldA, nonNil, cellsAt, mkAgg, allPV, storeB, patchL, Int.reduceToNat, Nat.reduceMul, Nat.reduceLT, stepA, Int.reduceNeg, Int.reduceLE, Int.reduceLT, Int.reduceEq, extractV, mkAgg, Nat.reduceLeDiff, fillA, pureVs, pureV, eqV, eqB, lenV, binV, intBin, intV, idxA, List.drop, List.take, RetP, retP, resV, resOne, snapV, snapVs, snapR, snapRs, ownSz, pickV, AO.isC, opE, opD, funV, hl, hp, hs, hab]
        have := loop a.pods b.pods 0 hl rfl rfl (Nat.zero_le _)
        simp only [hp, hs] at this
        exact this _ rfl rfl rfl
      · simp only [runL, opQ, evOp, evO, evOs, guardV, argsA, pvs, putS, cellsOf, scals, scal, Nat.reduceEqDiff, Nat.reduceAdd, reduceCtorEq, fieldA, nonNil, cellsAt, mkAgg, allPV, storeB, patchL, Int.reduceToNat, Nat.reduceMul, Nat.reduceLT, stepA, Int.reduceNeg, Int.reduceLE, Int.reduceLT, Int.reduceEq, extractV, mkAgg, Nat.reduceLeDiff, fillA, pureVs, pureV, eqV, eqB, lenV, binV, intBin, intV, idxA, List.drop, List.take, RetP, retP, resV, resOne, snapV, snapVs, snapR, snapRs, ownSz, pickV, AO.isC, opE, opD, funV, hl, hp, hs, hab, and_false]
    · simp only [runL, opQ, evOp, evO, evOs, guardV, argsA, pvs, putS, cellsOf, scals, scal, Nat.reduceEqDiff, Nat.reduceAdd, reduceCtorEq, fieldA, nonNil, cellsAt, mkAgg, allPV, storeB, patchL, Int.reduceToNat, Nat.reduceMul, Nat.reduceLT, stepA, Int.reduceNeg, Int.reduceLE, Int.reduceLT, Int.reduceEq, extractV, mkAgg, Nat.reduceLeDiff, fillA, pureVs, pureV, eqV, eqB, lenV, binV, intBin, intV, idxA, List.drop, List.take, RetP, retP, resV, resOne, snapV, snapVs, snapR, snapRs, ownSz, pickV, AO.isC, opE, opD, funV, hl, hp, hab, and_false, false_and]
  · have hl' : ¬ a.pods = b.pods := fun h => hl (by rw [h])
    simp only [runL, opQ, evOp, evO, evOs, guardV, argsA, pvs, putS, cellsOf, scals, scal, Nat.reduceEqDiff, Nat.reduceAdd, reduceCtorEq, fieldA, nonNil, cellsAt, mkAgg, allPV, storeB, patchL, Int.reduceToNat, Nat.reduceMul, Nat.reduceLT, stepA, Int.reduceNeg, Int.reduceLE, Int.reduceLT, Int.reduceEq, extractV, mkAgg, Nat.reduceLeDiff, fillA, pureVs, pureV, eqV, eqB, lenV, binV, intBin, intV, idxA, List.drop, List.take, RetP, retP, resV, resOne, snapV, snapVs, snapR, snapRs, ownSz, pickV, AO.isC, opE, opD, funV, hl, hab, hl', false_and]
end Go.Proofs.YtmeigdjfcecidaaDoor.Ab
/- The code of functions, by our numbers. -/
set_option linter.unusedVariables false
namespace Go.Proofs.YtmeigdjfcecidaaDoor.Ab
open Go
/-- (*dunnage/api.Spot).Unwrap -/
def f4 : AFunc := ⟨8, [.t 2],
 (.seq (.ops [
   ⟨some 2, .mv (.c (.pv .nili)), none, []⟩])
  (.seq (.ops [
   ⟨some 3, .mv (.t 0), none, []⟩,
   ⟨some 4, .nilchk (.t 3), none, [0]⟩,
   ⟨some 5, .fieldAddr 1 (.t 4), none, [1]⟩,
   ⟨some 6, .load false 1 (.t 5), none, [2]⟩,
   ⟨some 7, .mkI 0 (.t 6), none, [3]⟩,
   ⟨some 2, .mv (.t 7), none, [4, 0, 1, 2, 3, 4]⟩])
  .ret))⟩

def f70l0 : ACode :=
 (.seq (.ops [
   ⟨some 12, .bin .lss none (.t 11) (.t 10), none, []⟩])
  (.seq (.cond (.t 12)
   .skip
   (.exit 0))
  (.seq (.block 1
   (.seq (.ops [
     ⟨some 13, .mv (.t 11), none, []⟩,
     ⟨some 14, .idxAddr 5 (.t 9) (.t 11), none, []⟩,
     ⟨some 15, .load true 5 (.t 14), none, [1]⟩,
     ⟨some 6, .alloc [(.pv (.int .i64 0)), (.pv (.bool false)), (.pv (.int .i64 0)), (.pv (.int .i64 0)), (.pv (.int .i64 0))], none, []⟩,
     ⟨some 5, .mv (.t 13), none, [0, 0, 1, 2, 3]⟩,
     ⟨none, .store 5 (.t 6) (.t 15), none, [3, 2, 4, 0, 1, 2, 3, 4]⟩])
    (.seq (.ops [
     ⟨some 16, .load true 3 (.t 3), none, []⟩,
     ⟨some 17, .fieldAddr 0 (.t 6), none, []⟩,
     ⟨some 18, .load false 1 (.t 17), none, [1]⟩,
     ⟨some 19, .call 71 [(.t 16), (.t 18)], none, [0, 2]⟩,
     ⟨some 7, .mv (.t 19), none, [3, 3, 0, 1, 2, 3]⟩])
    (.block 2
     (.seq (.ops [
       ⟨some 21, .mv (.t 7), none, []⟩,
       ⟨some 22, .fieldAddr 3 (.t 6), none, []⟩,
       ⟨some 23, .load false 1 (.t 22), none, [1]⟩,
       ⟨some 24, .bin .lss none (.t 21) (.t 23), none, [0, 2]⟩,
       ⟨some 20, .mv (.t 24), none, [3]⟩])
      (.cond (.t 20)
       (.seq (.ops [
         ⟨some 25, .mv (.t 5), none, []⟩,
         ⟨some 26, .build [(.pv (.int .i64 0)), (.pv (.int .i64 0))] [(0, 1, (.t 25)), (1, 1, (.c (.pv (.int .i64 12))))], none, [0]⟩,
         ⟨some 27, .box (.t 26), none, [1]⟩,
         ⟨some 28, .mkI 1 (.t 27), none, [2]⟩,
         ⟨some 4, .mv (.t 28), none, [3, 0, 1, 2, 3]⟩])
        .ret)
       (.seq (.ops [
         ⟨some 30, .mv (.t 7), none, []⟩,
         ⟨some 31, .fieldAddr 4 (.t 6), none, []⟩,
         ⟨some 32, .load false 1 (.t 31), none, [1]⟩,
         ⟨some 33, .bin .gtr none (.t 30) (.t 32), none, [0, 2]⟩,
         ⟨some 29, .mv (.t 33), none, [3]⟩])
        (.cond (.t 29)
         (.seq (.ops [
           ⟨some 34, .mv (.t 5), none, []⟩,
           ⟨some 35, .build [(.pv (.int .i64 0)), (.pv (.int .i64 0))] [(0, 1, (.t 34)), (1, 1, (.c (.pv (.int .i64 13))))], none, [0]⟩,
           ⟨some 36, .box (.t 35), none, [1]⟩,
           ⟨some 37, .mkI 1 (.t 36), none, [2]⟩,
           ⟨some 4, .mv (.t 37), none, [3, 0, 1, 2, 3]⟩])
          .ret)
         .skip))))))))
  (.ops [
   ⟨some 38, .bin .add none (.t 11) (.c (.pv (.int .i64 1))), none, []⟩,
   ⟨some 11, .mv (.t 38), none, [0]⟩]))))
/-- dunnage/budget.Check -/
def f70 : AFunc := ⟨39, [.t 4],
 (.seq (.ops [
   ⟨some 2, .box (.t 0), none, []⟩,
   ⟨some 3, .box (.t 1), none, []⟩,
   ⟨some 4, .mv (.c (.pv .nili)), none, []⟩])
  (.seq (.seq (.ops [
   ⟨some 8, .fieldAddr 1 (.t 2), none, []⟩,
   ⟨some 9, .load false 1 (.t 8), none, [0]⟩,
   ⟨some 10, .len (.t 9), none, [1]⟩,
   ⟨some 11, .mv (.c (.pv (.int .i64 0))), none, []⟩])
  (.block 0
   (.loop f70l0)))
  (.seq (.ops [
   ⟨some 4, .mv (.c (.pv .nili)), none, []⟩])
  .ret)))⟩

def f71l0 : ACode :=
 (.seq (.ops [
   ⟨some 12, .bin .lss none (.t 11) (.t 10), none, []⟩])
  (.seq (.cond (.t 12)
   .skip
   (.exit 0))
  (.seq (.block 1
   (.seq (.ops [
     ⟨some 13, .idxAddr 8 (.t 9) (.t 11), none, []⟩,
     ⟨some 14, .load true 8 (.t 13), none, [0]⟩,
     ⟨some 7, .alloc [(.pv (.int .i64 0)), (.pv (.int .i64 0)), (.pv (.int .i64 0)), (.pv (.int .u64 0)), (.pv (.int .u64 0)), (.pv (.int .u64 0)), (.pv (.int .u64 0)), (.pv (.int .i64 0))], none, []⟩,
     ⟨none, .store 8 (.t 7) (.t 14), none, [2, 1, 0, 1, 2]⟩])
    (.seq (.ops [
     ⟨some 15, .fieldAddr 1 (.t 7), none, []⟩,
     ⟨some 16, .load false 1 (.t 15), none, [0]⟩,
     ⟨some 17, .mv (.t 1), none, []⟩,
     ⟨some 18, .bin .eql none (.t 16) (.t 17), none, [1, 2]⟩,
     ⟨some 19, .mv (.t 18), none, [3]⟩,
     ⟨some 20, .fieldAddr 7 (.t 7), some (19, true), [4]⟩,
     ⟨some 21, .load false 1 (.t 20), some (19, true), [5, 4]⟩,
     ⟨some 22, .bin .neq none (.t 21) (.c (.pv (.int .i64 0))), some (19, true), [6, 4]⟩,
     ⟨some 23, .pick (.t 19) (.t 22) (.c (.pv (.bool false))), none, [4, 7]⟩])
    (.cond (.t 23)
     (.ops [
       ⟨some 24, .mv (.t 5), none, []⟩,
       ⟨some 25, .bin .add none (.t 24) (.c (.pv (.int .i64 1))), none, [0]⟩,
       ⟨some 5, .mv (.t 25), none, [1, 0, 1]⟩])
     .skip))))
  (.ops [
   ⟨some 26, .bin .add none (.t 11) (.c (.pv (.int .i64 1))), none, []⟩,
   ⟨some 11, .mv (.t 26), none, [0]⟩]))))
/-- dunnage/budget.Size -/
def f71 : AFunc := ⟨28, [.t 4],
 (.seq (.ops [
   ⟨some 2, .box (.t 0), none, []⟩,
   ⟨some 4, .mv (.c (.pv (.int .i64 0))), none, []⟩])
  (.seq (.ops [
   ⟨some 5, .mv (.c (.pv (.int .i64 0))), none, []⟩])
  (.seq (.seq (.ops [
   ⟨some 8, .fieldAddr 0 (.t 2), none, []⟩,
   ⟨some 9, .load false 1 (.t 8), none, [0]⟩,
   ⟨some 10, .len (.t 9), none, [1]⟩,
   ⟨some 11, .mv (.c (.pv (.int .i64 0))), none, []⟩])
  (.block 0
   (.loop f71l0)))
  (.seq (.ops [
   ⟨some 27, .mv (.t 5), none, []⟩,
   ⟨some 4, .mv (.t 27), none, [0, 0]⟩])
  .ret))))⟩

/-- dunnage/budget.Used -/
def f72 : AFunc := ⟨18, [.t 4],
 (.seq (.ops [
   ⟨some 2, .box (.t 0), none, []⟩,
   ⟨some 3, .box (.t 1), none, []⟩,
   ⟨some 4, .mv (.c (.pv .nili)), none, []⟩])
  (.seq (.seq (.ops [
   ⟨some 5, .fieldAddr 1 (.t 3), none, []⟩,
   ⟨some 6, .load false 1 (.t 5), none, [0]⟩,
   ⟨some 7, .fieldAddr 1 (.t 2), none, []⟩,
   ⟨some 8, .load false 1 (.t 7), none, [2]⟩,
   ⟨some 9, .bin .gtr none (.t 6) (.t 8), none, [1, 3]⟩,
   ⟨some 10, .mv (.t 9), none, [4]⟩,
   ⟨some 11, .fieldAddr 2 (.t 3), some (10, false), [5]⟩,
   ⟨some 12, .load false 1 (.t 11), some (10, false), [6, 5]⟩,
   ⟨some 13, .fieldAddr 2 (.t 2), some (10, false), [5]⟩,
   ⟨some 14, .load false 1 (.t 13), some (10, false), [8, 5]⟩,
   ⟨some 15, .bin .gtr none (.t 12) (.t 14), some (10, false), [7, 9, 5]⟩,
   ⟨some 16, .pick (.t 10) (.c (.pv (.bool true))) (.t 15), none, [5, 10]⟩])
  (.cond (.t 16)
   (.seq (.ops [
     ⟨some 17, .mkI 0 (.c (.pv (.int .i64 15))), none, []⟩,
     ⟨some 4, .mv (.t 17), none, [0, 0]⟩])
    .ret)
   .skip))
  (.seq (.ops [
   ⟨some 4, .mv (.c (.pv .nili)), none, []⟩])
  .ret)))⟩

def f102l0 : ACode :=
 (.seq (.seq (.ops [
   ⟨some 6, .mv (.t 3), none, []⟩,
   ⟨some 7, .bin .leq none (.t 6) (.c (.pv (.int .i64 17))), none, [0]⟩])
  (.cond (.t 7)
   .skip
   (.exit 0)))
  (.seq (.block 1
   (.seq (.ops [
     ⟨some 10, .mv (.t 0), none, []⟩,
     ⟨some 11, .mv (.t 3), none, []⟩,
     ⟨some 12, .mkI 0 (.t 11), none, [1]⟩,
     ⟨some 13, .bin .eql (some (.iface true)) (.t 10) (.t 12), none, [0, 2]⟩])
    (.cond (.t 13)
     (.seq (.ops [
       ⟨some 14, .mv (.t 3), none, []⟩,
       ⟨some 2, .mv (.t 14), none, [0, 0]⟩])
      .ret)
     .skip)))
  (.ops [
   ⟨some 8, .mv (.t 3), none, []⟩,
   ⟨some 9, .bin .add none (.t 8) (.c (.pv (.int .i64 1))), none, [0]⟩,
   ⟨some 3, .mv (.t 9), none, [1, 0, 1]⟩])))
/-- dunnage/dunnagelaw00.Code -/
def f102 : AFunc := ⟨15, [.t 2],
 (.seq (.ops [
   ⟨some 2, .mv (.c (.pv (.int .i64 0))), none, []⟩])
  (.seq (.seq (.ops [
   ⟨some 4, .mv (.t 0), none, []⟩,
   ⟨some 5, .bin .eql (some (.iface true)) (.t 4) (.c (.pv .nili)), none, [0]⟩])
  (.cond (.t 5)
   (.seq (.ops [
     ⟨some 2, .mv (.c (.pv (.int .i64 0))), none, []⟩])
    .ret)
   .skip))
  (.seq (.seq (.ops [
   ⟨some 3, .mv (.c (.pv (.int .i64 1))), none, []⟩])
  (.block 0
   (.loop f102l0)))
  (.seq (.ops [
   ⟨some 2, .mv (.c (.pv (.int .i64 (-1)))), none, []⟩])
  .ret))))⟩

/-- dunnage/dunnagelaw00.Is -/
def f103 : AFunc := ⟨46, [.t 6],
 (.seq (.ops [
   ⟨some 6, .mv (.c (.pv (.bool false))), none, []⟩])
  (.seq (.ops [
   ⟨some 7, .alloc [(.pv .nilp)], none, []⟩])
  (.seq (.ops [
   ⟨some 10, .mv (.t 0), none, []⟩,
   ⟨some 11, .mkI 2 (.t 7), none, []⟩,
   ⟨some 12, .call 266 [(.t 10), (.t 11)], none, [0, 1]⟩,
   ⟨some 8, .mv (.t 12), none, [2, 2, 0, 1, 2]⟩])
  (.seq (.seq (.ops [
   ⟨some 13, .mv (.t 8), none, []⟩,
   ⟨some 14, .not (.t 13), none, [0]⟩,
   ⟨some 15, .mv (.t 14), none, [1]⟩,
   ⟨some 16, .load false 1 (.t 7), some (15, false), [2]⟩,
   ⟨some 17, .bin .eql (some .ptr) (.t 16) (.c (.pv .nilp)), some (15, false), [3, 2]⟩,
   ⟨some 18, .pick (.t 15) (.c (.pv (.bool true))) (.t 17), none, [2, 4]⟩,
   ⟨some 19, .mv (.t 18), none, [5, 2]⟩,
   ⟨some 20, .mv (.t 0), some (19, false), [6]⟩,
   ⟨some 21, .load false 1 (.t 7), some (19, false), [6]⟩,
   ⟨some 22, .mkI 1 (.t 21), some (19, false), [8, 6]⟩,
   ⟨some 23, .bin .neq (some (.iface true)) (.t 20) (.t 22), some (19, false), [7, 9, 6]⟩,
   ⟨some 24, .pick (.t 19) (.c (.pv (.bool true))) (.t 23), none, [6, 10]⟩])
  (.cond (.t 24)
   (.seq (.ops [
     ⟨some 6, .mv (.c (.pv (.bool false))), none, []⟩])
    .ret)
   .skip))
  (.seq (.ops [
   ⟨some 25, .mv (.t 0), none, []⟩,
   ⟨some 26, .mv (.t 2), none, []⟩,
   ⟨some 27, .mkI 0 (.t 26), none, [1]⟩,
   ⟨some 28, .call 267 [(.t 25), (.t 27)], none, [0, 2]⟩,
   ⟨some 9, .mv (.t 28), none, [3, 3, 0, 1, 2, 3]⟩])
  (.seq (.ops [
   ⟨some 29, .mv (.t 9), none, []⟩,
   ⟨some 30, .mv (.t 29), none, [0]⟩,
   ⟨some 31, .load false 1 (.t 7), some (30, true), [1]⟩,
   ⟨some 32, .nilchk (.t 31), some (30, true), [2, 1]⟩,
   ⟨some 33, .fieldAddr 0 (.t 32), some (30, true), [3, 1]⟩,
   ⟨some 34, .load false 1 (.t 33), some (30, true), [4, 1]⟩,
   ⟨some 35, .mv (.t 1), some (30, true), [1]⟩,
   ⟨some 36, .bin .eql none (.t 34) (.t 35), some (30, true), [5, 6, 1]⟩,
   ⟨some 37, .pick (.t 30) (.t 36) (.c (.pv (.bool false))), none, [1, 7]⟩,
   ⟨some 38, .mv (.t 37), none, [8, 1]⟩,
   ⟨some 39, .load false 1 (.t 7), some (38, true), [9]⟩,
   ⟨some 40, .nilchk (.t 39), some (38, true), [10, 9]⟩,
   ⟨some 41, .fieldAddr 1 (.t 40), some (38, true), [11, 9]⟩,
   ⟨some 42, .load false 1 (.t 41), some (38, true), [12, 9]⟩,
   ⟨some 43, .mv (.t 2), some (38, true), [9]⟩,
   ⟨some 44, .bin .eql none (.t 42) (.t 43), some (38, true), [13, 14, 9]⟩,
   ⟨some 45, .pick (.t 38) (.t 44) (.c (.pv (.bool false))), none, [9, 15]⟩,
   ⟨some 6, .mv (.t 45), none, [16, 9, 0, 1, 2, 3, 4, 5, 6, 7, 8, 9, 10, 11, 12, 13, 14, 15, 16]⟩])
  .ret))))))⟩

/-- dunnage/dunnagelaw00.Told -/
def f105 : AFunc := ⟨17, [.t 6],
 (.seq (.ops [
   ⟨some 6, .mv (.c (.pv (.bool false))), none, []⟩])
  (.seq (.seq (.ops [
   ⟨some 7, .mv (.t 2), none, []⟩,
   ⟨some 8, .bin .lss none (.t 7) (.c (.pv (.int .i64 0))), none, [0]⟩])
  (.cond (.t 8)
   (.seq (.ops [
     ⟨some 9, .mv (.t 0), none, []⟩,
     ⟨some 10, .call 102 [(.t 9)], none, [0]⟩,
     ⟨some 11, .mv (.t 1), none, []⟩,
     ⟨some 12, .bin .eql none (.t 10) (.t 11), none, [1, 2]⟩,
     ⟨some 6, .mv (.t 12), none, [3, 1, 0, 1, 2, 3]⟩])
    .ret)
   .skip))
  (.seq (.ops [
   ⟨some 13, .mv (.t 0), none, []⟩,
   ⟨some 14, .mv (.t 2), none, []⟩,
   ⟨some 15, .mv (.t 1), none, []⟩,
   ⟨some 16, .call 103 [(.t 13), (.t 14), (.t 15)], none, [0, 1, 2]⟩,
   ⟨some 6, .mv (.t 16), none, [3, 3, 0, 1, 2, 3]⟩])
  .ret)))⟩

def f173l0 : ACode :=
 (.seq (.seq (.ops [
   ⟨some 8, .mv (.t 6), none, []⟩,
   ⟨some 9, .fieldAddr 1 (.t 2), none, []⟩,
   ⟨some 10, .load false 1 (.t 9), none, [1]⟩,
   ⟨some 11, .len (.t 10), none, [2]⟩,
   ⟨some 12, .bin .lss none (.t 8) (.t 11), none, [0, 3]⟩])
  (.cond (.t 12)
   .skip
   (.exit 0)))
  (.seq (.block 1
   (.seq (.draw [
     ⟨some 15, .load true 3 (.t 3), none, []⟩,
     ⟨some 16, .fieldAddr 1 (.t 2), none, []⟩,
     ⟨some 17, .load false 1 (.t 16), none, [1]⟩,
     ⟨some 18, .mv (.t 6), none, []⟩,
     ⟨some 19, .idxAddr 5 (.t 17) (.t 18), none, [2, 3]⟩,
     ⟨some 20, .fieldAddr 0 (.t 19), none, [4]⟩,
     ⟨some 21, .load false 1 (.t 20), none, [5]⟩,
     ⟨some 22, .call 176 [(.t 15), (.t 21)], none, [0, 6]⟩,
     ⟨some 7, .mv (.t 22), none, [7, 7, 0, 1, 2, 3, 4, 5, 6, 7]⟩])
    (.seq (.seq (.ops [
     ⟨some 23, .mv (.t 7), none, []⟩,
     ⟨some 24, .fieldAddr 1 (.t 2), none, []⟩,
     ⟨some 25, .load false 1 (.t 24), none, [1]⟩,
     ⟨some 26, .mv (.t 6), none, []⟩,
     ⟨some 27, .idxAddr 5 (.t 25) (.t 26), none, [2, 3]⟩,
     ⟨some 28, .fieldAddr 3 (.t 27), none, [4]⟩,
     ⟨some 29, .load false 1 (.t 28), none, [5]⟩,
     ⟨some 30, .bin .lss none (.t 23) (.t 29), none, [0, 6]⟩])
    (.cond (.t 30)
     (.seq (.ops [
       ⟨some 31, .mv (.t 6), none, []⟩,
       ⟨some 4, .mv (.c (.pv (.int .i64 12))), none, []⟩,
       ⟨some 5, .mv (.t 31), none, [0, 1, 0, 1]⟩])
      .ret)
     .skip))
    (.seq (.ops [
     ⟨some 32, .mv (.t 7), none, []⟩,
     ⟨some 33, .fieldAddr 1 (.t 2), none, []⟩,
     ⟨some 34, .load false 1 (.t 33), none, [1]⟩,
     ⟨some 35, .mv (.t 6), none, []⟩,
     ⟨some 36, .idxAddr 5 (.t 34) (.t 35), none, [2, 3]⟩,
     ⟨some 37, .fieldAddr 4 (.t 36), none, [4]⟩,
     ⟨some 38, .load false 1 (.t 37), none, [5]⟩,
     ⟨some 39, .bin .gtr none (.t 32) (.t 38), none, [0, 6]⟩])
    (.cond (.t 39)
     (.seq (.ops [
       ⟨some 40, .mv (.t 6), none, []⟩,
       ⟨some 4, .mv (.c (.pv (.int .i64 13))), none, []⟩,
       ⟨some 5, .mv (.t 40), none, [0, 1, 0, 1]⟩])
      .ret)
     .skip)))))
  (.ops [
   ⟨some 13, .mv (.t 6), none, []⟩,
   ⟨some 14, .bin .add none (.t 13) (.c (.pv (.int .i64 1))), none, [0]⟩,
   ⟨some 6, .mv (.t 14), none, [1, 0, 1]⟩])))
/-- dunnage/dunnageref07.Budget -/
def f173 : AFunc := ⟨41, [.t 4, .t 5],
 (.seq (.ops [
   ⟨some 2, .box (.t 0), none, []⟩,
   ⟨some 3, .box (.t 1), none, []⟩,
   ⟨some 4, .mv (.c (.pv (.int .i64 0))), none, []⟩,
   ⟨some 5, .mv (.c (.pv (.int .i64 0))), none, [2]⟩])
  (.seq (.seq (.ops [
   ⟨some 6, .mv (.c (.pv (.int .i64 0))), none, []⟩])
  (.block 0
   (.loop f173l0)))
  (.seq (.ops [
   ⟨some 4, .mv (.c (.pv (.int .i64 0))), none, []⟩,
   ⟨some 5, .mv (.c (.pv (.int .i64 (-1)))), none, [0, 0]⟩])
  .ret)))⟩

def f176l0 : ACode :=
 (.seq (.seq (.ops [
   ⟨some 7, .mv (.t 6), none, []⟩,
   ⟨some 8, .fieldAddr 0 (.t 2), none, []⟩,
   ⟨some 9, .load false 1 (.t 8), none, [1]⟩,
   ⟨some 10, .len (.t 9), none, [2]⟩,
   ⟨some 11, .bin .lss none (.t 7) (.t 10), none, [0, 3]⟩])
  (.cond (.t 11)
   .skip
   (.exit 0)))
  (.seq (.block 1
   (.seq (.ops [
     ⟨some 14, .fieldAddr 0 (.t 2), none, []⟩,
     ⟨some 15, .load false 1 (.t 14), none, [0]⟩,
     ⟨some 16, .mv (.t 6), none, []⟩,
     ⟨some 17, .idxAddr 8 (.t 15) (.t 16), none, [1, 2]⟩,
     ⟨some 18, .fieldAddr 1 (.t 17), none, [3]⟩,
     ⟨some 19, .load false 1 (.t 18), none, [4]⟩,
     ⟨some 20, .mv (.t 1), none, []⟩,
     ⟨some 21, .bin .eql none (.t 19) (.t 20), none, [5, 6]⟩,
     ⟨some 22, .mv (.t 21), none, [7]⟩,
     ⟨some 23, .fieldAddr 0 (.t 2), some (22, true), [8]⟩,
     ⟨some 24, .load false 1 (.t 23), some (22, true), [9, 8]⟩,
     ⟨some 25, .mv (.t 6), some (22, true), [8]⟩,
     ⟨some 26, .idxAddr 8 (.t 24) (.t 25), some (22, true), [10, 11, 8]⟩,
     ⟨some 27, .fieldAddr 7 (.t 26), some (22, true), [12, 8]⟩,
     ⟨some 28, .load false 1 (.t 27), some (22, true), [13, 8]⟩,
     ⟨some 29, .bin .neq none (.t 28) (.c (.pv (.int .i64 0))), some (22, true), [14, 8]⟩,
     ⟨some 30, .pick (.t 22) (.t 29) (.c (.pv (.bool false))), none, [8, 15]⟩])
    (.cond (.t 30)
     (.ops [
       ⟨some 31, .mv (.t 5), none, []⟩,
       ⟨some 32, .bin .add none (.t 31) (.c (.pv (.int .i64 1))), none, [0]⟩,
       ⟨some 5, .mv (.t 32), none, [1, 0, 1]⟩])
     .skip)))
  (.ops [
   ⟨some 12, .mv (.t 6), none, []⟩,
   ⟨some 13, .bin .add none (.t 12) (.c (.pv (.int .i64 1))), none, [0]⟩,
   ⟨some 6, .mv (.t 13), none, [1, 0, 1]⟩])))
/-- dunnage/dunnageref07.Size -/
def f176 : AFunc := ⟨34, [.t 4],
 (.seq (.ops [
   ⟨some 2, .box (.t 0), none, []⟩,
   ⟨some 4, .mv (.c (.pv (.int .i64 0))), none, []⟩])
  (.seq (.ops [
   ⟨some 5, .mv (.c (.pv (.int .i64 0))), none, []⟩])
  (.seq (.seq (.ops [
   ⟨some 6, .mv (.c (.pv (.int .i64 0))), none, []⟩])
  (.block 0
   (.loop f176l0)))
  (.seq (.ops [
   ⟨some 33, .mv (.t 5), none, []⟩,
   ⟨some 4, .mv (.t 33), none, [0, 0]⟩])
  .ret))))⟩

/-- dunnage/dunnageref07.Used -/
def f179 : AFunc := ⟨17, [.t 4],
 (.seq (.ops [
   ⟨some 2, .box (.t 0), none, []⟩,
   ⟨some 3, .box (.t 1), none, []⟩,
   ⟨some 4, .mv (.c (.pv (.bool false))), none, []⟩])
  (.seq (.ops [
   ⟨some 5, .fieldAddr 1 (.t 3), none, []⟩,
   ⟨some 6, .load false 1 (.t 5), none, [0]⟩,
   ⟨some 7, .fieldAddr 1 (.t 2), none, []⟩,
   ⟨some 8, .load false 1 (.t 7), none, [2]⟩,
   ⟨some 9, .bin .gtr none (.t 6) (.t 8), none, [1, 3]⟩,
   ⟨some 10, .mv (.t 9), none, [4]⟩,
   ⟨some 11, .fieldAddr 2 (.t 3), some (10, false), [5]⟩,
   ⟨some 12, .load false 1 (.t 11), some (10, false), [6, 5]⟩,
   ⟨some 13, .fieldAddr 2 (.t 2), some (10, false), [5]⟩,
   ⟨some 14, .load false 1 (.t 13), some (10, false), [8, 5]⟩,
   ⟨some 15, .bin .gtr none (.t 12) (.t 14), some (10, false), [7, 9, 5]⟩,
   ⟨some 16, .pick (.t 10) (.c (.pv (.bool true))) (.t 15), none, [5, 10]⟩,
   ⟨some 4, .mv (.t 16), none, [11, 5, 0, 1, 2, 3, 4, 5, 6, 7, 8, 9, 10, 11]⟩])
  .ret))⟩

/-- dunnage/dunnagelaw09.BudgetTells -/
def f316 : AFunc := ⟨67, [.t 8],
 (.seq (.ops [
   ⟨some 4, .box (.t 0), none, []⟩,
   ⟨some 5, .box (.t 1), none, []⟩,
   ⟨some 6, .box (.t 2), none, []⟩,
   ⟨some 8, .mv (.c (.pv (.bool false))), none, []⟩])
  (.seq (.ops [
   ⟨some 15, .call 317 [], none, []⟩,
   ⟨some 9, .mv (.t 15), none, [0, 0, 0]⟩])
  (.seq (.ops [
   ⟨some 16, .load true 3 (.t 4), none, []⟩,
   ⟨some 17, .load true 3 (.t 5), none, []⟩,
   ⟨some 18, .load true 3 (.t 6), none, []⟩,
   ⟨some 19, .call 163 [(.t 16), (.t 17), (.t 18)], none, [0, 1, 2]⟩,
   ⟨some 10, .mv (.t 19), none, [3, 3, 0, 1, 2, 3]⟩])
  (.seq (.seq (.ops [
   ⟨some 20, .mv (.t 10), none, []⟩,
   ⟨some 21, .not (.t 20), none, [0]⟩])
  (.cond (.t 21)
   (.seq (.ops [
     ⟨some 22, .mv (.t 9), none, []⟩,
     ⟨some 8, .mv (.t 22), none, [0, 0]⟩])
    .ret)
   .skip))
  (.seq (.ops [
   ⟨some 24, .load true 3 (.t 4), none, []⟩,
   ⟨some 25, .load true 3 (.t 6), none, []⟩,
   ⟨some 26, .call 173 [(.t 24), (.t 25)], none, [0, 1]⟩,
   ⟨some 23, .mv (.t 26), none, [2]⟩,
   ⟨some 27, .extract (.t 23) 0, none, [3]⟩,
   ⟨some 28, .extract (.t 23) 1, none, [3]⟩,
   ⟨some 11, .mv (.t 27), none, [4, 2, 0, 1, 2, 3, 4]⟩,
   ⟨some 12, .mv (.t 28), none, [5, 6, 0, 1, 2, 3, 4, 5, 6]⟩])
  (.seq (.ops [
   ⟨some 29, .load true 3 (.t 5), none, []⟩,
   ⟨some 30, .load true 3 (.t 6), none, []⟩,
   ⟨some 31, .call 179 [(.t 29), (.t 30)], none, [0, 1]⟩,
   ⟨some 13, .mv (.t 31), none, [2, 2, 0, 1, 2]⟩])
  (.seq (.ops [
   ⟨some 32, .load true 3 (.t 5), none, []⟩,
   ⟨some 33, .load true 3 (.t 6), none, []⟩,
   ⟨some 34, .call 72 [(.t 32), (.t 33)], none, [0, 1]⟩,
   ⟨some 14, .mv (.t 34), none, [2, 2, 0, 1, 2]⟩])
  (.seq (.seq (.ops [
   ⟨some 35, .mv (.t 13), none, []⟩,
   ⟨some 36, .mv (.t 35), none, [0]⟩,
   ⟨some 37, .mv (.t 14), some (36, true), [1]⟩,
   ⟨some 38, .mkI 0 (.c (.pv (.int .i64 15))), some (36, true), [1]⟩,
   ⟨some 39, .bin .neq (some (.iface true)) (.t 37) (.t 38), some (36, true), [2, 3, 1]⟩,
   ⟨some 40, .pick (.t 36) (.t 39) (.c (.pv (.bool false))), none, [1, 4]⟩,
   ⟨some 41, .mv (.t 40), none, [5, 1]⟩,
   ⟨some 42, .mv (.t 13), some (41, false), [6]⟩,
   ⟨some 43, .not (.t 42), some (41, false), [7, 6]⟩,
   ⟨some 44, .mv (.t 43), some (41, false), [8, 6, 6]⟩,
   ⟨some 45, .mv (.t 14), some (44, true), [9]⟩,
   ⟨some 46, .bin .neq (some (.iface true)) (.t 45) (.c (.pv .nili)), some (44, true), [10, 9]⟩,
   ⟨some 47, .pick (.t 44) (.t 46) (.c (.pv (.bool false))), some (41, false), [9, 11, 6]⟩,
   ⟨some 48, .pick (.t 41) (.c (.pv (.bool true))) (.t 47), none, [6, 12]⟩])
  (.cond (.t 48)
   (.seq (.ops [
     ⟨some 8, .mv (.c (.pv (.bool false))), none, []⟩])
    .ret)
   .skip))
  (.seq (.draw [
   ⟨some 49, .mv (.t 9), none, []⟩,
   ⟨some 50, .mv (.t 49), none, [0]⟩,
   ⟨some 51, .load true 3 (.t 6), some (50, true), [1]⟩,
   ⟨some 52, .mv (.t 3), some (50, true), [1]⟩,
   ⟨some 53, .call 71 [(.t 51), (.t 52)], some (50, true), [2, 3, 1, 1]⟩,
   ⟨some 54, .load true 3 (.t 6), some (50, true), [1]⟩,
   ⟨some 55, .mv (.t 3), some (50, true), [1]⟩,
   ⟨some 56, .call 176 [(.t 54), (.t 55)], some (50, true), [5, 6, 4, 1]⟩,
   ⟨some 57, .bin .eql none (.t 53) (.t 56), some (50, true), [4, 7, 1]⟩,
   ⟨some 58, .pick (.t 50) (.t 57) (.c (.pv (.bool false))), none, [1, 8]⟩,
   ⟨some 59, .mv (.t 58), none, [9, 7]⟩,
   ⟨some 60, .load true 3 (.t 4), some (59, true), [10]⟩,
   ⟨some 61, .load true 3 (.t 6), some (59, true), [10]⟩,
   ⟨some 62, .call 70 [(.t 60), (.t 61)], some (59, true), [11, 12, 10, 10]⟩,
   ⟨some 63, .mv (.t 11), some (59, true), [10]⟩,
   ⟨some 64, .mv (.t 12), some (59, true), [10]⟩,
   ⟨some 65, .call 105 [(.t 62), (.t 63), (.t 64)], some (59, true), [13, 14, 15, 13, 10]⟩,
   ⟨some 66, .pick (.t 59) (.t 65) (.c (.pv (.bool false))), none, [10, 16]⟩,
   ⟨some 8, .mv (.t 66), none, [17, 16, 0, 1, 2, 3, 4, 5, 6, 7, 8, 9, 10, 11, 12, 13, 14, 15, 16, 17]⟩])
  .ret)))))))))⟩

/-- dunnage/dunnagelaw09.up -/
def f317 : AFunc := ⟨22, [.t 0],
 (.seq (.ops [
   ⟨some 0, .mv (.c (.pv (.bool false))), none, []⟩])
  (.seq (.ops [
   ⟨some 2, .build [(.pv (.int .i64 0)), (.pv (.bool false)), (.pv (.int .i64 0)), (.pv (.int .i64 0)), (.pv (.int .i64 0))] [(0, 1, (.c (.pv (.int .i64 2)))), (3, 1, (.c (.pv (.int .i64 1)))), (4, 1, (.c (.pv (.int .i64 1))))], none, []⟩,
   ⟨some 3, .bslice 5 1 [(.pv (.int .i64 0)), (.pv (.bool false)), (.pv (.int .i64 0)), (.pv (.int .i64 0)), (.pv (.int .i64 0))] [(0, 5, (.t 2))], none, [0]⟩,
   ⟨some 4, .build [.nils, .nils, .nils] [(1, 1, (.t 3))], none, [1]⟩,
   ⟨some 1, .alloc [.nils, .nils, .nils], none, []⟩,
   ⟨none, .store 3 (.t 1) (.t 4), none, [3, 2, 0, 1, 2, 3]⟩])
  (.seq (.ops [
   ⟨some 5, .load true 3 (.t 1), none, []⟩,
   ⟨some 6, .build [.nils, (.pv (.int .i64 0)), (.pv (.int .i64 0))] [], none, []⟩,
   ⟨some 7, .call 70 [(.t 5), (.t 6)], none, [0, 1]⟩,
   ⟨some 8, .call 103 [(.t 7), (.c (.pv (.int .i64 0))), (.c (.pv (.int .i64 12)))], none, [2, 2]⟩,
   ⟨some 9, .mv (.t 8), none, [3, 3]⟩,
   ⟨some 10, .build [.nils, (.pv (.int .i64 0)), (.pv (.int .i64 0))] [], some (9, true), [4]⟩,
   ⟨some 11, .build [.nils, (.pv (.int .i64 0)), (.pv (.int .i64 0))] [(2, 1, (.c (.pv (.int .i64 1))))], some (9, true), [4]⟩,
   ⟨some 12, .call 72 [(.t 10), (.t 11)], some (9, true), [5, 6, 4, 4]⟩,
   ⟨some 13, .mkI 0 (.c (.pv (.int .i64 15))), some (9, true), [4]⟩,
   ⟨some 14, .bin .eql (some (.iface true)) (.t 12) (.t 13), some (9, true), [7, 8, 4]⟩,
   ⟨some 15, .pick (.t 9) (.t 14) (.c (.pv (.bool false))), none, [4, 9]⟩,
   ⟨some 16, .mv (.t 15), none, [10, 7]⟩,
   ⟨some 17, .build [.nils, (.pv (.int .i64 0)), (.pv (.int .i64 0))] [], some (16, true), [11]⟩,
   ⟨some 18, .build [.nils, (.pv (.int .i64 0)), (.pv (.int .i64 0))] [], some (16, true), [11]⟩,
   ⟨some 19, .call 72 [(.t 17), (.t 18)], some (16, true), [12, 13, 11, 11]⟩,
   ⟨some 20, .bin .eql (some (.iface true)) (.t 19) (.c (.pv .nili)), some (16, true), [14, 11]⟩,
   ⟨some 21, .pick (.t 16) (.t 20) (.c (.pv (.bool false))), none, [11, 15]⟩,
   ⟨some 0, .mv (.t 21), none, [16, 14, 0, 1, 2, 3, 4, 5, 6, 7, 8, 9, 10, 11, 12, 13, 14, 15, 16]⟩])
  .ret)))⟩
end Go.Proofs.YtmeigdjfcecidaaDoor.Ab
