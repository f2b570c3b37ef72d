/- The layer, part 3: Co67, Sp7, Sp7c. -/
import Derived.Test.YtmeigdjfcecidaaDoorA2
/- The code of functions, by our numbers. -/
set_option linter.unusedVariables false
namespace Go.Proofs.YtmeigdjfcecidaaDoor.Ab
open Go
def f68l0 : ACode :=
 (.seq (.ops [
   ⟨some 23, .bin .lss none (.t 22) (.t 21), none, []⟩])
  (.seq (.cond (.t 23)
   .skip
   (.exit 2))
  (.seq (.block 3
   (.seq (.ops [
     ⟨some 24, .idxAddr 8 (.t 20) (.t 22), none, []⟩,
     ⟨some 25, .load true 8 (.t 24), none, [0]⟩,
     ⟨some 8, .alloc [(.pv (.int .i64 0)), (.pv (.int .i64 0)), (.pv (.int .i64 0)), (.pv (.int .u64 0)), (.pv (.int .u64 0)), (.pv (.int .u64 0)), (.pv (.int .u64 0)), (.pv (.int .i64 0))], none, []⟩,
     ⟨none, .store 8 (.t 8) (.t 25), none, [2, 1, 0, 1, 2]⟩])
    (.seq (.ops [
     ⟨some 26, .load true 3 (.t 2), none, []⟩,
     ⟨some 27, .load true 8 (.t 6), none, []⟩,
     ⟨some 28, .load true 8 (.t 8), none, []⟩,
     ⟨some 29, .call 69 [(.t 26), (.t 27), (.t 28)], none, [0, 1, 2]⟩])
    (.cond (.t 29)
     (.seq (.ops [
       ⟨some 30, .mv (.t 5), none, []⟩,
       ⟨some 31, .build [(.pv (.int .i64 0)), (.pv (.int .i64 0))] [(0, 1, (.t 30)), (1, 1, (.c (.pv (.int .i64 10))))], none, [0]⟩,
       ⟨some 32, .box (.t 31), none, [1]⟩,
       ⟨some 33, .mkI 1 (.t 32), none, [2]⟩,
       ⟨some 4, .mv (.t 33), none, [3, 0, 1, 2, 3]⟩])
      .ret)
     .skip))))
  (.ops [
   ⟨some 34, .bin .add none (.t 22) (.c (.pv (.int .i64 1))), none, []⟩,
   ⟨some 22, .mv (.t 34), none, [0]⟩]))))
def f68l1 : ACode :=
 (.seq (.ops [
   ⟨some 13, .bin .lss none (.t 12) (.t 11), none, []⟩])
  (.seq (.cond (.t 13)
   .skip
   (.exit 0))
  (.seq (.block 1
   (.seq (.ops [
     ⟨some 14, .mv (.t 12), none, []⟩,
     ⟨some 15, .idxAddr 8 (.t 10) (.t 12), none, []⟩,
     ⟨some 16, .load true 8 (.t 15), none, [1]⟩,
     ⟨some 6, .alloc [(.pv (.int .i64 0)), (.pv (.int .i64 0)), (.pv (.int .i64 0)), (.pv (.int .u64 0)), (.pv (.int .u64 0)), (.pv (.int .u64 0)), (.pv (.int .u64 0)), (.pv (.int .i64 0))], none, []⟩,
     ⟨some 5, .mv (.t 14), none, [0, 0, 1, 2, 3]⟩,
     ⟨none, .store 8 (.t 6) (.t 16), none, [3, 2, 4, 0, 1, 2, 3, 4]⟩])
    (.seq (.ops [
     ⟨some 17, .fieldAddr 0 (.t 3), none, []⟩,
     ⟨some 18, .load false 1 (.t 17), none, [0]⟩,
     ⟨some 19, .mv (.t 5), none, []⟩,
     ⟨some 20, .slice 8 (.t 18) none (some (.t 19)), none, [1, 2]⟩,
     ⟨some 21, .len (.t 20), none, [3]⟩,
     ⟨some 22, .mv (.c (.pv (.int .i64 0))), none, []⟩])
    (.block 2
     (.loop f68l0)))))
  (.ops [
   ⟨some 35, .bin .add none (.t 12) (.c (.pv (.int .i64 1))), none, []⟩,
   ⟨some 12, .mv (.t 35), none, [0]⟩]))))
/-- dunnage/apart.Check -/
def f68 : AFunc := ⟨36, [.t 4],
 (.seq (.ops [
   ⟨some 2, .box (.t 0), none, []⟩,
   ⟨some 3, .box (.t 1), none, []⟩,
   ⟨some 4, .mv (.c (.pv .nili)), none, []⟩])
  (.seq (.seq (.ops [
   ⟨some 9, .fieldAddr 0 (.t 3), none, []⟩,
   ⟨some 10, .load false 1 (.t 9), none, [0]⟩,
   ⟨some 11, .len (.t 10), none, [1]⟩,
   ⟨some 12, .mv (.c (.pv (.int .i64 0))), none, []⟩])
  (.block 0
   (.loop f68l1)))
  (.seq (.ops [
   ⟨some 4, .mv (.c (.pv .nili)), none, []⟩])
  .ret)))⟩

/-- dunnage/apart.two -/
def f69 : AFunc := ⟨40, [.t 6],
 (.seq (.ops [
   ⟨some 3, .box (.t 0), none, []⟩,
   ⟨some 4, .box (.t 1), none, []⟩,
   ⟨some 5, .box (.t 2), none, []⟩,
   ⟨some 6, .mv (.c (.pv (.bool false))), none, []⟩])
  (.seq (.ops [
   ⟨some 10, .load true 3 (.t 3), none, []⟩,
   ⟨some 11, .fieldAddr 1 (.t 4), none, []⟩,
   ⟨some 12, .load false 1 (.t 11), none, [1]⟩,
   ⟨some 13, .call 81 [(.t 10), (.t 12)], none, [0, 2]⟩,
   ⟨some 9, .mv (.t 13), none, [3]⟩,
   ⟨some 14, .extract (.t 9) 0, none, [4]⟩,
   ⟨some 15, .extract (.t 9) 1, none, [4]⟩,
   ⟨some 7, .alloc [(.pv (.int .i64 0)), (.pv (.bool false)), (.pv (.int .i64 0)), (.pv (.int .i64 0)), (.pv (.int .i64 0))], none, []⟩,
   ⟨none, .store 5 (.t 7) (.t 14), none, [7, 5, 3, 0, 1, 2, 3, 4, 5, 7]⟩,
   ⟨some 8, .mv (.t 15), none, [6, 8, 0, 1, 2, 3, 4, 5, 6, 7, 8]⟩])
  (.seq (.ops [
   ⟨some 16, .fieldAddr 1 (.t 4), none, []⟩,
   ⟨some 17, .load false 1 (.t 16), none, [0]⟩,
   ⟨some 18, .fieldAddr 1 (.t 5), none, []⟩,
   ⟨some 19, .load false 1 (.t 18), none, [2]⟩,
   ⟨some 20, .bin .eql none (.t 17) (.t 19), none, [1, 3]⟩,
   ⟨some 21, .mv (.t 20), none, [4]⟩,
   ⟨some 22, .fieldAddr 7 (.t 4), some (21, true), [5]⟩,
   ⟨some 23, .load false 1 (.t 22), some (21, true), [6, 5]⟩,
   ⟨some 24, .fieldAddr 7 (.t 5), some (21, true), [5]⟩,
   ⟨some 25, .load false 1 (.t 24), some (21, true), [8, 5]⟩,
   ⟨some 26, .bin .eql none (.t 23) (.t 25), some (21, true), [7, 9, 5]⟩,
   ⟨some 27, .pick (.t 21) (.t 26) (.c (.pv (.bool false))), none, [5, 10]⟩,
   ⟨some 28, .mv (.t 27), none, [11, 5]⟩,
   ⟨some 29, .fieldAddr 7 (.t 4), some (28, true), [12]⟩,
   ⟨some 30, .load false 1 (.t 29), some (28, true), [13, 12]⟩,
   ⟨some 31, .bin .neq none (.t 30) (.c (.pv (.int .i64 0))), some (28, true), [14, 12]⟩,
   ⟨some 32, .pick (.t 28) (.t 31) (.c (.pv (.bool false))), none, [12, 15]⟩,
   ⟨some 33, .mv (.t 32), none, [16, 12]⟩,
   ⟨some 34, .mv (.t 8), some (33, true), [17]⟩,
   ⟨some 35, .pick (.t 33) (.t 34) (.c (.pv (.bool false))), none, [17, 18]⟩,
   ⟨some 36, .mv (.t 35), none, [19, 17]⟩,
   ⟨some 37, .fieldAddr 1 (.t 7), some (36, true), [20]⟩,
   ⟨some 38, .load false 1 (.t 37), some (36, true), [21, 20]⟩,
   ⟨some 39, .pick (.t 36) (.t 38) (.c (.pv (.bool false))), none, [20, 22]⟩,
   ⟨some 6, .mv (.t 39), none, [23, 20, 0, 1, 2, 3, 4, 5, 6, 7, 8, 9, 10, 11, 12, 13, 14, 15, 16, 17, 18, 19, 20, 21, 22, 23]⟩])
  .ret)))⟩

def f81l0 : ACode :=
 (.seq (.ops [
   ⟨some 12, .bin .lss none (.t 11) (.t 10), none, []⟩])
  (.seq (.cond (.t 12)
   .skip
   (.exit 0))
  (.seq (.block 1
   (.seq (.ops [
     ⟨some 13, .idxAddr 5 (.t 9) (.t 11), none, []⟩,
     ⟨some 14, .load true 5 (.t 13), none, [0]⟩,
     ⟨some 7, .alloc [(.pv (.int .i64 0)), (.pv (.bool false)), (.pv (.int .i64 0)), (.pv (.int .i64 0)), (.pv (.int .i64 0))], none, []⟩,
     ⟨none, .store 5 (.t 7) (.t 14), none, [2, 1, 0, 1, 2]⟩])
    (.seq (.ops [
     ⟨some 15, .fieldAddr 0 (.t 7), none, []⟩,
     ⟨some 16, .load false 1 (.t 15), none, [0]⟩,
     ⟨some 17, .mv (.t 1), none, []⟩,
     ⟨some 18, .bin .eql none (.t 16) (.t 17), none, [1, 2]⟩])
    (.cond (.t 18)
     (.seq (.ops [
       ⟨some 19, .load true 5 (.t 7), none, []⟩,
       ⟨none, .store 5 (.t 4) (.t 19), none, [0, 0]⟩,
       ⟨some 5, .mv (.c (.pv (.bool true))), none, [1, 0, 1]⟩])
      .ret)
     .skip))))
  (.ops [
   ⟨some 20, .bin .add none (.t 11) (.c (.pv (.int .i64 1))), none, []⟩,
   ⟨some 11, .mv (.t 20), none, [0]⟩]))))
/-- dunnage/cluster.Load -/
def f81 : AFunc := ⟨22, [.cell 4 true 5, .t 5],
 (.seq (.ops [
   ⟨some 2, .box (.t 0), none, []⟩,
   ⟨some 4, .alloc [(.pv (.int .i64 0)), (.pv (.bool false)), (.pv (.int .i64 0)), (.pv (.int .i64 0)), (.pv (.int .i64 0))], none, []⟩,
   ⟨some 5, .mv (.c (.pv (.bool false))), none, []⟩])
  (.seq (.seq (.ops [
   ⟨some 8, .fieldAddr 1 (.t 2), none, []⟩,
   ⟨some 9, .load false 1 (.t 8), none, [0]⟩,
   ⟨some 10, .len (.t 9), none, [1]⟩,
   ⟨some 11, .mv (.c (.pv (.int .i64 0))), none, []⟩])
  (.block 0
   (.loop f81l0)))
  (.seq (.ops [
   ⟨some 21, .build [(.pv (.int .i64 0)), (.pv (.bool false)), (.pv (.int .i64 0)), (.pv (.int .i64 0)), (.pv (.int .i64 0))] [], none, []⟩,
   ⟨none, .store 5 (.t 4) (.t 21), none, [0, 0]⟩,
   ⟨some 5, .mv (.c (.pv (.bool false))), none, [1, 0, 1]⟩])
  .ret)))⟩

def f140l0 : ACode :=
 (.seq (.seq (.ops [
   ⟨some 10, .mv (.t 7), none, []⟩,
   ⟨some 11, .bin .lss none (.t 10) (.c (.pv (.int .i64 4))), none, [0]⟩])
  (.cond (.t 11)
   .skip
   (.exit 0)))
  (.seq (.block 1
   (.seq (.draw [
     ⟨some 15, .mv (.t 7), none, []⟩,
     ⟨some 16, .idxArr 4 1 (.t 2) (.t 15), none, [0]⟩,
     ⟨some 17, .load false 1 (.t 16), none, [1]⟩,
     ⟨some 18, .mv (.t 7), none, []⟩,
     ⟨some 19, .idxArr 4 1 (.t 3) (.t 18), none, [3]⟩,
     ⟨some 20, .load false 1 (.t 19), none, [4]⟩,
     ⟨some 21, .call 145 [(.t 17), (.t 20)], none, [2, 5]⟩,
     ⟨some 14, .mv (.t 21), none, [6]⟩,
     ⟨some 22, .extract (.t 14) 0, none, [7]⟩,
     ⟨some 23, .extract (.t 14) 1, none, [7]⟩,
     ⟨some 8, .mv (.t 22), none, [8, 6, 0, 1, 2, 3, 4, 5, 6, 7, 8]⟩,
     ⟨some 9, .mv (.t 23), none, [9, 10, 0, 1, 2, 3, 4, 5, 6, 7, 8, 9, 10]⟩])
    (.seq (.seq (.ops [
     ⟨some 24, .mv (.t 9), none, []⟩,
     ⟨some 25, .not (.t 24), none, [0]⟩])
    (.cond (.t 25)
     (.seq (.ops [
       ⟨some 26, .build [(.pv (.int .u64 0)), (.pv (.int .u64 0)), (.pv (.int .u64 0)), (.pv (.int .u64 0))] [], none, []⟩,
       ⟨none, .store 4 (.t 4) (.t 26), none, [0, 0]⟩,
       ⟨some 5, .mv (.c (.pv (.bool false))), none, [1, 0, 1]⟩])
      .ret)
     .skip))
    (.ops [
     ⟨some 27, .mv (.t 7), none, []⟩,
     ⟨some 28, .mv (.t 8), none, []⟩,
     ⟨some 29, .idxArr 4 1 (.t 6) (.t 27), none, [0, 0, 1]⟩,
     ⟨none, .store 1 (.t 29) (.t 28), none, [2, 1, 0, 1]⟩]))))
  (.ops [
   ⟨some 12, .mv (.t 7), none, []⟩,
   ⟨some 13, .bin .add none (.t 12) (.c (.pv (.int .i64 1))), none, [0]⟩,
   ⟨some 7, .mv (.t 13), none, [1, 0, 1]⟩])))
/-- dunnage/dunnageref01.Add -/
def f140 : AFunc := ⟨31, [.cell 4 true 4, .t 5],
 (.seq (.ops [
   ⟨some 2, .box (.t 0), none, []⟩,
   ⟨some 3, .box (.t 1), none, []⟩,
   ⟨some 4, .alloc [(.pv (.int .u64 0)), (.pv (.int .u64 0)), (.pv (.int .u64 0)), (.pv (.int .u64 0))], none, []⟩,
   ⟨some 5, .mv (.c (.pv (.bool false))), none, []⟩])
  (.seq (.ops [
   ⟨some 6, .alloc [(.pv (.int .u64 0)), (.pv (.int .u64 0)), (.pv (.int .u64 0)), (.pv (.int .u64 0))], none, []⟩])
  (.seq (.seq (.ops [
   ⟨some 7, .mv (.c (.pv (.int .i64 0))), none, []⟩])
  (.block 0
   (.loop f140l0)))
  (.seq (.ops [
   ⟨some 30, .load true 4 (.t 6), none, []⟩,
   ⟨none, .store 4 (.t 4) (.t 30), none, [0, 0]⟩,
   ⟨some 5, .mv (.c (.pv (.bool true))), none, [1, 0, 1]⟩])
  .ret))))⟩

/-- dunnage/dunnageref01.Fits -/
def f141 : AFunc := ⟨31, [.t 4],
 (.seq (.ops [
   ⟨some 2, .box (.t 0), none, []⟩,
   ⟨some 3, .box (.t 1), none, []⟩,
   ⟨some 4, .mv (.c (.pv (.bool false))), none, []⟩])
  (.seq (.ops [
   ⟨some 5, .idxArr 4 1 (.t 2) (.c (.pv (.int .i64 0))), none, []⟩,
   ⟨some 6, .load false 1 (.t 5), none, [0]⟩,
   ⟨some 7, .idxArr 4 1 (.t 3) (.c (.pv (.int .i64 0))), none, []⟩,
   ⟨some 8, .load false 1 (.t 7), none, [2]⟩,
   ⟨some 9, .bin .leq none (.t 6) (.t 8), none, [1, 3]⟩,
   ⟨some 10, .mv (.t 9), none, [4]⟩,
   ⟨some 11, .idxArr 4 1 (.t 2) (.c (.pv (.int .i64 1))), some (10, true), [5]⟩,
   ⟨some 12, .load false 1 (.t 11), some (10, true), [6, 5]⟩,
   ⟨some 13, .idxArr 4 1 (.t 3) (.c (.pv (.int .i64 1))), some (10, true), [5]⟩,
   ⟨some 14, .load false 1 (.t 13), some (10, true), [8, 5]⟩,
   ⟨some 15, .bin .leq none (.t 12) (.t 14), some (10, true), [7, 9, 5]⟩,
   ⟨some 16, .pick (.t 10) (.t 15) (.c (.pv (.bool false))), none, [5, 10]⟩,
   ⟨some 17, .mv (.t 16), none, [11, 5]⟩,
   ⟨some 18, .idxArr 4 1 (.t 2) (.c (.pv (.int .i64 2))), some (17, true), [12]⟩,
   ⟨some 19, .load false 1 (.t 18), some (17, true), [13, 12]⟩,
   ⟨some 20, .idxArr 4 1 (.t 3) (.c (.pv (.int .i64 2))), some (17, true), [12]⟩,
   ⟨some 21, .load false 1 (.t 20), some (17, true), [15, 12]⟩,
   ⟨some 22, .bin .leq none (.t 19) (.t 21), some (17, true), [14, 16, 12]⟩,
   ⟨some 23, .pick (.t 17) (.t 22) (.c (.pv (.bool false))), none, [12, 17]⟩,
   ⟨some 24, .mv (.t 23), none, [18, 12]⟩,
   ⟨some 25, .idxArr 4 1 (.t 2) (.c (.pv (.int .i64 3))), some (24, true), [19]⟩,
   ⟨some 26, .load false 1 (.t 25), some (24, true), [20, 19]⟩,
   ⟨some 27, .idxArr 4 1 (.t 3) (.c (.pv (.int .i64 3))), some (24, true), [19]⟩,
   ⟨some 28, .load false 1 (.t 27), some (24, true), [22, 19]⟩,
   ⟨some 29, .bin .leq none (.t 26) (.t 28), some (24, true), [21, 23, 19]⟩,
   ⟨some 30, .pick (.t 24) (.t 29) (.c (.pv (.bool false))), none, [19, 24]⟩,
   ⟨some 4, .mv (.t 30), none, [25, 19, 0, 1, 2, 3, 4, 5, 6, 7, 8, 9, 10, 11, 12, 13, 14, 15, 16, 17, 18, 19, 20, 21, 22, 23, 24, 25]⟩])
  .ret))⟩

/-- dunnage/dunnageref01.Sub -/
def f142 : AFunc := ⟨34, [.cell 4 true 4, .t 5],
 (.seq (.ops [
   ⟨some 2, .box (.t 0), none, []⟩,
   ⟨some 3, .box (.t 1), none, []⟩,
   ⟨some 4, .alloc [(.pv (.int .u64 0)), (.pv (.int .u64 0)), (.pv (.int .u64 0)), (.pv (.int .u64 0))], none, []⟩,
   ⟨some 5, .mv (.c (.pv (.bool false))), none, []⟩])
  (.seq (.ops [
   ⟨some 7, .load true 4 (.t 3), none, []⟩,
   ⟨some 8, .load true 4 (.t 2), none, []⟩,
   ⟨some 9, .call 141 [(.t 7), (.t 8)], none, [0, 1]⟩,
   ⟨some 6, .mv (.t 9), none, [2, 2, 0, 1, 2]⟩])
  (.seq (.seq (.ops [
   ⟨some 10, .mv (.t 6), none, []⟩,
   ⟨some 11, .not (.t 10), none, [0]⟩])
  (.cond (.t 11)
   (.seq (.ops [
     ⟨some 12, .build [(.pv (.int .u64 0)), (.pv (.int .u64 0)), (.pv (.int .u64 0)), (.pv (.int .u64 0))] [], none, []⟩,
     ⟨none, .store 4 (.t 4) (.t 12), none, [0, 0]⟩,
     ⟨some 5, .mv (.c (.pv (.bool false))), none, [1, 0, 1]⟩])
    .ret)
   .skip))
  (.seq (.ops [
   ⟨some 13, .idxArr 4 1 (.t 2) (.c (.pv (.int .i64 0))), none, []⟩,
   ⟨some 14, .load false 1 (.t 13), none, [0]⟩,
   ⟨some 15, .idxArr 4 1 (.t 3) (.c (.pv (.int .i64 0))), none, []⟩,
   ⟨some 16, .load false 1 (.t 15), none, [2]⟩,
   ⟨some 17, .bin .sub none (.t 14) (.t 16), none, [1, 3]⟩,
   ⟨some 18, .idxArr 4 1 (.t 2) (.c (.pv (.int .i64 1))), none, []⟩,
   ⟨some 19, .load false 1 (.t 18), none, [5]⟩,
   ⟨some 20, .idxArr 4 1 (.t 3) (.c (.pv (.int .i64 1))), none, []⟩,
   ⟨some 21, .load false 1 (.t 20), none, [7]⟩,
   ⟨some 22, .bin .sub none (.t 19) (.t 21), none, [6, 8]⟩,
   ⟨some 23, .idxArr 4 1 (.t 2) (.c (.pv (.int .i64 2))), none, []⟩,
   ⟨some 24, .load false 1 (.t 23), none, [10]⟩,
   ⟨some 25, .idxArr 4 1 (.t 3) (.c (.pv (.int .i64 2))), none, []⟩,
   ⟨some 26, .load false 1 (.t 25), none, [12]⟩,
   ⟨some 27, .bin .sub none (.t 24) (.t 26), none, [11, 13]⟩,
   ⟨some 28, .idxArr 4 1 (.t 2) (.c (.pv (.int .i64 3))), none, []⟩,
   ⟨some 29, .load false 1 (.t 28), none, [15]⟩,
   ⟨some 30, .idxArr 4 1 (.t 3) (.c (.pv (.int .i64 3))), none, []⟩,
   ⟨some 31, .load false 1 (.t 30), none, [17]⟩,
   ⟨some 32, .bin .sub none (.t 29) (.t 31), none, [16, 18]⟩,
   ⟨some 33, .build [(.pv (.int .u64 0)), (.pv (.int .u64 0)), (.pv (.int .u64 0)), (.pv (.int .u64 0))] [(0, 1, (.t 17)), (1, 1, (.t 22)), (2, 1, (.t 27)), (3, 1, (.t 32))], none, [4, 9, 14, 19]⟩,
   ⟨none, .store 4 (.t 4) (.t 33), none, [20, 0, 1, 2, 3, 4, 5, 6, 7, 8, 9, 10, 11, 12, 13, 14, 15, 16, 17, 18, 19, 20]⟩,
   ⟨some 5, .mv (.c (.pv (.bool true))), none, [21, 0, 1, 2, 3, 4, 5, 6, 7, 8, 9, 10, 11, 12, 13, 14, 15, 16, 17, 18, 19, 20, 21]⟩])
  .ret))))⟩

def f143l0 : ACode :=
 (.seq (.seq (.ops [
   ⟨some 7, .mv (.t 6), none, []⟩,
   ⟨some 8, .mv (.t 0), none, []⟩,
   ⟨some 9, .len (.t 8), none, [1]⟩,
   ⟨some 10, .bin .lss none (.t 7) (.t 9), none, [0, 2]⟩,
   ⟨some 11, .mv (.t 10), none, [3]⟩,
   ⟨some 12, .mv (.t 5), some (11, true), [4]⟩,
   ⟨some 13, .pick (.t 11) (.t 12) (.c (.pv (.bool false))), none, [4, 5]⟩])
  (.cond (.t 13)
   .skip
   (.exit 0)))
  (.seq (.block 1
   (.draw [
     ⟨some 17, .load true 4 (.t 4), none, []⟩,
     ⟨some 18, .mv (.t 0), none, []⟩,
     ⟨some 19, .mv (.t 6), none, []⟩,
     ⟨some 20, .idxAddr 4 (.t 18) (.t 19), none, [1, 2]⟩,
     ⟨some 21, .load true 4 (.t 20), none, [3]⟩,
     ⟨some 22, .call 140 [(.t 17), (.t 21)], none, [0, 4]⟩,
     ⟨some 16, .mv (.t 22), none, [5]⟩,
     ⟨some 23, .extract (.t 16) 0, none, [6]⟩,
     ⟨some 24, .extract (.t 16) 1, none, [6]⟩,
     ⟨none, .store 4 (.t 4) (.t 23), none, [7, 5, 0, 1, 2, 3, 4, 5, 6, 7]⟩,
     ⟨some 5, .mv (.t 24), none, [8, 9, 0, 1, 2, 3, 4, 5, 6, 7, 8, 9]⟩]))
  (.ops [
   ⟨some 14, .mv (.t 6), none, []⟩,
   ⟨some 15, .bin .add none (.t 14) (.c (.pv (.int .i64 1))), none, [0]⟩,
   ⟨some 6, .mv (.t 15), none, [1, 0, 1]⟩])))
/-- dunnage/dunnageref01.Sum -/
def f143 : AFunc := ⟨27, [.cell 2 true 4, .t 3],
 (.seq (.ops [
   ⟨some 2, .alloc [(.pv (.int .u64 0)), (.pv (.int .u64 0)), (.pv (.int .u64 0)), (.pv (.int .u64 0))], none, []⟩,
   ⟨some 3, .mv (.c (.pv (.bool false))), none, []⟩])
  (.seq (.ops [
   ⟨some 4, .alloc [(.pv (.int .u64 0)), (.pv (.int .u64 0)), (.pv (.int .u64 0)), (.pv (.int .u64 0))], none, []⟩])
  (.seq (.ops [
   ⟨some 5, .mv (.c (.pv (.bool true))), none, []⟩])
  (.seq (.seq (.ops [
   ⟨some 6, .mv (.c (.pv (.int .i64 0))), none, []⟩])
  (.block 0
   (.loop f143l0)))
  (.seq (.ops [
   ⟨some 25, .load true 4 (.t 4), none, []⟩,
   ⟨some 26, .mv (.t 5), none, []⟩,
   ⟨none, .store 4 (.t 2) (.t 25), none, [0, 0]⟩,
   ⟨some 3, .mv (.t 26), none, [1, 2, 0, 1, 2]⟩])
  .ret)))))⟩

/-- dunnage/dunnageref01.half -/
def f144 : AFunc := ⟨10, [.t 4],
 (.seq (.ops [
   ⟨some 4, .mv (.c (.pv (.int .u64 0))), none, []⟩])
  (.seq (.seq (.ops [
   ⟨some 5, .mv (.t 1), none, []⟩])
  (.cond (.t 5)
   (.seq (.ops [
     ⟨some 6, .mv (.t 0), none, []⟩,
     ⟨some 7, .bin .quo none (.t 6) (.c (.pv (.int .u64 4294967296))), none, [0]⟩,
     ⟨some 4, .mv (.t 7), none, [1, 0, 1]⟩])
    .ret)
   .skip))
  (.seq (.ops [
   ⟨some 8, .mv (.t 0), none, []⟩,
   ⟨some 9, .bin .rem none (.t 8) (.c (.pv (.int .u64 4294967296))), none, [0]⟩,
   ⟨some 4, .mv (.t 9), none, [1, 0, 1]⟩])
  .ret)))⟩

/-- dunnage/dunnageref01.one -/
def f145 : AFunc := ⟨28, [.t 4, .t 5],
 (.seq (.ops [
   ⟨some 4, .mv (.c (.pv (.int .u64 0))), none, []⟩,
   ⟨some 5, .mv (.c (.pv (.bool false))), none, [0]⟩])
  (.seq (.ops [
   ⟨some 8, .mv (.t 0), none, []⟩,
   ⟨some 9, .call 144 [(.t 8), (.c (.pv (.bool false)))], none, [0]⟩,
   ⟨some 10, .mv (.t 1), none, []⟩,
   ⟨some 11, .call 144 [(.t 10), (.c (.pv (.bool false)))], none, [2, 1]⟩,
   ⟨some 12, .bin .add none (.t 9) (.t 11), none, [1, 3]⟩,
   ⟨some 6, .mv (.t 12), none, [4, 3, 0, 1, 2, 3, 4]⟩])
  (.seq (.ops [
   ⟨some 13, .mv (.t 0), none, []⟩,
   ⟨some 14, .call 144 [(.t 13), (.c (.pv (.bool true)))], none, [0]⟩,
   ⟨some 15, .mv (.t 1), none, []⟩,
   ⟨some 16, .call 144 [(.t 15), (.c (.pv (.bool true)))], none, [2, 1]⟩,
   ⟨some 17, .bin .add none (.t 14) (.t 16), none, [1, 3]⟩,
   ⟨some 18, .mv (.t 6), none, []⟩,
   ⟨some 19, .bin .quo none (.t 18) (.c (.pv (.int .u64 4294967296))), none, [5]⟩,
   ⟨some 20, .bin .add none (.t 17) (.t 19), none, [4, 6]⟩,
   ⟨some 7, .mv (.t 20), none, [7, 3, 0, 1, 2, 3, 4, 5, 6, 7]⟩])
  (.seq (.seq (.ops [
   ⟨some 21, .mv (.t 7), none, []⟩,
   ⟨some 22, .bin .geq none (.t 21) (.c (.pv (.int .u64 4294967296))), none, [0]⟩])
  (.cond (.t 22)
   (.seq (.ops [
     ⟨some 4, .mv (.c (.pv (.int .u64 0))), none, []⟩,
     ⟨some 5, .mv (.c (.pv (.bool false))), none, [0, 0]⟩])
    .ret)
   .skip))
  (.seq (.ops [
   ⟨some 23, .mv (.t 7), none, []⟩,
   ⟨some 24, .bin .mul none (.t 23) (.c (.pv (.int .u64 4294967296))), none, [0]⟩,
   ⟨some 25, .mv (.t 6), none, []⟩,
   ⟨some 26, .bin .rem none (.t 25) (.c (.pv (.int .u64 4294967296))), none, [2]⟩,
   ⟨some 27, .bin .add none (.t 24) (.t 26), none, [1, 3]⟩,
   ⟨some 4, .mv (.t 27), none, [4, 0, 1, 2, 3, 4]⟩,
   ⟨some 5, .mv (.c (.pv (.bool true))), none, [5, 0, 1, 2, 3, 4, 5]⟩])
  .ret)))))⟩

def f155l0 : ACode :=
 (.seq (.seq (.ops [
   ⟨some 6, .mv (.t 5), none, []⟩,
   ⟨some 7, .fieldAddr 0 (.t 2), none, []⟩,
   ⟨some 8, .load false 1 (.t 7), none, [1]⟩,
   ⟨some 9, .len (.t 8), none, [2]⟩,
   ⟨some 10, .bin .lss none (.t 6) (.t 9), none, [0, 3]⟩])
  (.cond (.t 10)
   .skip
   (.exit 0)))
  (.seq (.block 1
   (.seq (.ops [
     ⟨some 13, .fieldAddr 0 (.t 2), none, []⟩,
     ⟨some 14, .load false 1 (.t 13), none, [0]⟩,
     ⟨some 15, .mv (.t 5), none, []⟩,
     ⟨some 16, .idxAddr 10 (.t 14) (.t 15), none, [1, 2]⟩,
     ⟨some 17, .fieldAddr 0 (.t 16), none, [3]⟩,
     ⟨some 18, .load false 1 (.t 17), none, [4]⟩,
     ⟨some 19, .mv (.t 1), none, []⟩,
     ⟨some 20, .bin .eql none (.t 18) (.t 19), none, [5, 6]⟩])
    (.cond (.t 20)
     (.seq (.ops [
       ⟨some 21, .mv (.t 5), none, []⟩,
       ⟨some 4, .mv (.t 21), none, [0, 0]⟩])
      .ret)
     .skip)))
  (.ops [
   ⟨some 11, .mv (.t 5), none, []⟩,
   ⟨some 12, .bin .add none (.t 11) (.c (.pv (.int .i64 1))), none, [0]⟩,
   ⟨some 5, .mv (.t 12), none, [1, 0, 1]⟩])))
/-- dunnage/dunnageref03.Node -/
def f155 : AFunc := ⟨22, [.t 4],
 (.seq (.ops [
   ⟨some 2, .box (.t 0), none, []⟩,
   ⟨some 4, .mv (.c (.pv (.int .i64 0))), none, []⟩])
  (.seq (.seq (.ops [
   ⟨some 5, .mv (.c (.pv (.int .i64 0))), none, []⟩])
  (.block 0
   (.loop f155l0)))
  (.seq (.ops [
   ⟨some 4, .mv (.c (.pv (.int .i64 (-1)))), none, []⟩])
  .ret)))⟩

def f169l0 : ACode :=
 (.seq (.seq (.ops [
   ⟨some 9, .mv (.t 6), none, []⟩,
   ⟨some 10, .fieldAddr 0 (.t 2), none, []⟩,
   ⟨some 11, .load false 1 (.t 10), none, [1]⟩,
   ⟨some 12, .len (.t 11), none, [2]⟩,
   ⟨some 13, .bin .lss none (.t 9) (.t 12), none, [0, 3]⟩])
  (.cond (.t 13)
   .skip
   (.exit 0)))
  (.seq (.block 1
   (.seq (.draw [
     ⟨some 17, .load true 3 (.t 2), none, []⟩,
     ⟨some 18, .load true 3 (.t 3), none, []⟩,
     ⟨some 19, .fieldAddr 0 (.t 2), none, []⟩,
     ⟨some 20, .load false 1 (.t 19), none, [2]⟩,
     ⟨some 21, .mv (.t 6), none, []⟩,
     ⟨some 22, .idxAddr 10 (.t 20) (.t 21), none, [3, 4]⟩,
     ⟨some 23, .fieldAddr 0 (.t 22), none, [5]⟩,
     ⟨some 24, .load false 1 (.t 23), none, [6]⟩,
     ⟨some 25, .call 170 [(.t 17), (.t 18), (.t 24)], none, [0, 1, 7]⟩,
     ⟨some 16, .mv (.t 25), none, [8]⟩,
     ⟨some 26, .extract (.t 16) 0, none, [9]⟩,
     ⟨some 27, .extract (.t 16) 1, none, [9]⟩,
     ⟨some 7, .alloc [(.pv (.int .u64 0)), (.pv (.int .u64 0)), (.pv (.int .u64 0)), (.pv (.int .u64 0))], none, []⟩,
     ⟨none, .store 4 (.t 7) (.t 26), none, [12, 10, 8, 0, 1, 2, 3, 4, 5, 6, 7, 8, 9, 10, 12]⟩,
     ⟨some 8, .mv (.t 27), none, [11, 13, 0, 1, 2, 3, 4, 5, 6, 7, 8, 9, 10, 11, 12, 13]⟩])
    (.seq (.ops [
     ⟨some 28, .mv (.t 8), none, []⟩,
     ⟨some 29, .bin .neq none (.t 28) (.c (.pv (.int .i64 0))), none, [0]⟩])
    (.cond (.t 29)
     (.seq (.ops [
       ⟨some 30, .mv (.t 8), none, []⟩,
       ⟨some 31, .mv (.t 6), none, []⟩,
       ⟨some 4, .mv (.t 30), none, [0, 0]⟩,
       ⟨some 5, .mv (.t 31), none, [1, 2, 0, 1, 2]⟩])
      .ret)
     .skip))))
  (.ops [
   ⟨some 14, .mv (.t 6), none, []⟩,
   ⟨some 15, .bin .add none (.t 14) (.c (.pv (.int .i64 1))), none, [0]⟩,
   ⟨some 6, .mv (.t 15), none, [1, 0, 1]⟩])))
/-- dunnage/dunnageref06.Check -/
def f169 : AFunc := ⟨32, [.t 4, .t 5],
 (.seq (.ops [
   ⟨some 2, .box (.t 0), none, []⟩,
   ⟨some 3, .box (.t 1), none, []⟩,
   ⟨some 4, .mv (.c (.pv (.int .i64 0))), none, []⟩,
   ⟨some 5, .mv (.c (.pv (.int .i64 0))), none, [2]⟩])
  (.seq (.seq (.ops [
   ⟨some 6, .mv (.c (.pv (.int .i64 0))), none, []⟩])
  (.block 0
   (.loop f169l0)))
  (.seq (.ops [
   ⟨some 4, .mv (.c (.pv (.int .i64 0))), none, []⟩,
   ⟨some 5, .mv (.c (.pv (.int .i64 (-1)))), none, [0, 0]⟩])
  .ret)))⟩

/-- dunnage/dunnageref06.Rest -/
def f170 : AFunc := ⟨59, [.cell 6 true 4, .t 7],
 (.seq (.ops [
   ⟨some 3, .box (.t 0), none, []⟩,
   ⟨some 4, .box (.t 1), none, []⟩,
   ⟨some 6, .alloc [(.pv (.int .u64 0)), (.pv (.int .u64 0)), (.pv (.int .u64 0)), (.pv (.int .u64 0))], none, []⟩,
   ⟨some 7, .mv (.c (.pv (.int .i64 0))), none, []⟩])
  (.seq (.ops [
   ⟨some 15, .load true 3 (.t 3), none, []⟩,
   ⟨some 16, .mv (.t 2), none, []⟩,
   ⟨some 17, .call 155 [(.t 15), (.t 16)], none, [0, 1]⟩,
   ⟨some 8, .mv (.t 17), none, [2, 2, 0, 1, 2]⟩])
  (.seq (.seq (.ops [
   ⟨some 18, .mv (.t 8), none, []⟩,
   ⟨some 19, .bin .lss none (.t 18) (.c (.pv (.int .i64 0))), none, [0]⟩])
  (.cond (.t 19)
   (.seq (.ops [
     ⟨some 20, .build [(.pv (.int .u64 0)), (.pv (.int .u64 0)), (.pv (.int .u64 0)), (.pv (.int .u64 0))] [], none, []⟩,
     ⟨none, .store 4 (.t 6) (.t 20), none, [0, 0]⟩,
     ⟨some 7, .mv (.c (.pv (.int .i64 4))), none, [1, 0, 1]⟩])
    .ret)
   .skip))
  (.seq (.ops [
   ⟨some 22, .load true 3 (.t 4), none, []⟩,
   ⟨some 23, .mv (.t 2), none, []⟩,
   ⟨some 24, .call 171 [(.t 22), (.t 23)], none, [0, 1]⟩,
   ⟨some 21, .mv (.t 24), none, [2]⟩,
   ⟨some 25, .extract (.t 21) 0, none, [3]⟩,
   ⟨some 26, .extract (.t 21) 1, none, [3]⟩,
   ⟨some 9, .alloc [(.pv (.int .u64 0)), (.pv (.int .u64 0)), (.pv (.int .u64 0)), (.pv (.int .u64 0))], none, []⟩,
   ⟨none, .store 4 (.t 9) (.t 25), none, [6, 4, 2, 0, 1, 2, 3, 4, 6]⟩,
   ⟨some 10, .mv (.t 26), none, [5, 7, 0, 1, 2, 3, 4, 5, 6, 7]⟩])
  (.seq (.seq (.ops [
   ⟨some 27, .mv (.t 10), none, []⟩,
   ⟨some 28, .not (.t 27), none, [0]⟩])
  (.cond (.t 28)
   (.seq (.ops [
     ⟨some 29, .build [(.pv (.int .u64 0)), (.pv (.int .u64 0)), (.pv (.int .u64 0)), (.pv (.int .u64 0))] [], none, []⟩,
     ⟨none, .store 4 (.t 6) (.t 29), none, [0, 0]⟩,
     ⟨some 7, .mv (.c (.pv (.int .i64 8))), none, [1, 0, 1]⟩])
    .ret)
   .skip))
  (.seq (.draw [
   ⟨some 31, .fieldAddr 0 (.t 3), none, []⟩,
   ⟨some 32, .load false 1 (.t 31), none, [0]⟩,
   ⟨some 33, .mv (.t 8), none, []⟩,
   ⟨some 34, .idxAddr 10 (.t 32) (.t 33), none, [1, 2]⟩,
   ⟨some 35, .fieldAddr 2 (.t 34), none, [3]⟩,
   ⟨some 36, .load true 4 (.t 35), none, [4]⟩,
   ⟨some 37, .fieldAddr 0 (.t 3), none, []⟩,
   ⟨some 38, .load false 1 (.t 37), none, [6]⟩,
   ⟨some 39, .mv (.t 8), none, []⟩,
   ⟨some 40, .idxAddr 10 (.t 38) (.t 39), none, [7, 8]⟩,
   ⟨some 41, .fieldAddr 6 (.t 40), none, [9]⟩,
   ⟨some 42, .load true 4 (.t 41), none, [10]⟩,
   ⟨some 43, .call 142 [(.t 36), (.t 42)], none, [5, 11]⟩,
   ⟨some 30, .mv (.t 43), none, [12]⟩,
   ⟨some 44, .extract (.t 30) 0, none, [13]⟩,
   ⟨some 45, .extract (.t 30) 1, none, [13]⟩,
   ⟨some 11, .alloc [(.pv (.int .u64 0)), (.pv (.int .u64 0)), (.pv (.int .u64 0)), (.pv (.int .u64 0))], none, []⟩,
   ⟨none, .store 4 (.t 11) (.t 44), none, [16, 14, 12, 0, 1, 2, 3, 4, 5, 6, 7, 8, 9, 10, 11, 12, 13, 14, 16]⟩,
   ⟨some 12, .mv (.t 45), none, [15, 17, 0, 1, 2, 3, 4, 5, 6, 7, 8, 9, 10, 11, 12, 13, 14, 15, 16, 17]⟩])
  (.seq (.seq (.ops [
   ⟨some 46, .mv (.t 12), none, []⟩,
   ⟨some 47, .not (.t 46), none, [0]⟩])
  (.cond (.t 47)
   (.seq (.ops [
     ⟨some 48, .build [(.pv (.int .u64 0)), (.pv (.int .u64 0)), (.pv (.int .u64 0)), (.pv (.int .u64 0))] [], none, []⟩,
     ⟨none, .store 4 (.t 6) (.t 48), none, [0, 0]⟩,
     ⟨some 7, .mv (.c (.pv (.int .i64 9))), none, [1, 0, 1]⟩])
    .ret)
   .skip))
  (.seq (.ops [
   ⟨some 50, .load true 4 (.t 11), none, []⟩,
   ⟨some 51, .load true 4 (.t 9), none, []⟩,
   ⟨some 52, .call 142 [(.t 50), (.t 51)], none, [0, 1]⟩,
   ⟨some 49, .mv (.t 52), none, [2]⟩,
   ⟨some 53, .extract (.t 49) 0, none, [3]⟩,
   ⟨some 54, .extract (.t 49) 1, none, [3]⟩,
   ⟨some 13, .alloc [(.pv (.int .u64 0)), (.pv (.int .u64 0)), (.pv (.int .u64 0)), (.pv (.int .u64 0))], none, []⟩,
   ⟨none, .store 4 (.t 13) (.t 53), none, [6, 4, 2, 0, 1, 2, 3, 4, 6]⟩,
   ⟨some 14, .mv (.t 54), none, [5, 7, 0, 1, 2, 3, 4, 5, 6, 7]⟩])
  (.seq (.seq (.ops [
   ⟨some 55, .mv (.t 14), none, []⟩,
   ⟨some 56, .not (.t 55), none, [0]⟩])
  (.cond (.t 56)
   (.seq (.ops [
     ⟨some 57, .build [(.pv (.int .u64 0)), (.pv (.int .u64 0)), (.pv (.int .u64 0)), (.pv (.int .u64 0))] [], none, []⟩,
     ⟨none, .store 4 (.t 6) (.t 57), none, [0, 0]⟩,
     ⟨some 7, .mv (.c (.pv (.int .i64 9))), none, [1, 0, 1]⟩])
    .ret)
   .skip))
  (.seq (.ops [
   ⟨some 58, .load true 4 (.t 13), none, []⟩,
   ⟨none, .store 4 (.t 6) (.t 58), none, [0, 0]⟩,
   ⟨some 7, .mv (.c (.pv (.int .i64 0))), none, [1, 0, 1]⟩])
  .ret))))))))))⟩

def f171l0 : ACode :=
 (.seq (.seq (.ops [
   ⟨some 10, .mv (.t 7), none, []⟩,
   ⟨some 11, .fieldAddr 0 (.t 2), none, []⟩,
   ⟨some 12, .load false 1 (.t 11), none, [1]⟩,
   ⟨some 13, .len (.t 12), none, [2]⟩,
   ⟨some 14, .bin .lss none (.t 10) (.t 13), none, [0, 3]⟩])
  (.cond (.t 14)
   .skip
   (.exit 0)))
  (.seq (.block 1
   (.seq (.ops [
     ⟨some 17, .fieldAddr 0 (.t 2), none, []⟩,
     ⟨some 18, .load false 1 (.t 17), none, [0]⟩,
     ⟨some 19, .mv (.t 7), none, []⟩,
     ⟨some 20, .idxAddr 8 (.t 18) (.t 19), none, [1, 2]⟩,
     ⟨some 21, .fieldAddr 7 (.t 20), none, [3]⟩,
     ⟨some 22, .load false 1 (.t 21), none, [4]⟩,
     ⟨some 23, .mv (.t 1), none, []⟩,
     ⟨some 24, .bin .eql none (.t 22) (.t 23), none, [5, 6]⟩])
    (.cond (.t 24)
     (.ops [
       ⟨some 25, .mv (.t 6), none, []⟩,
       ⟨some 26, .fieldAddr 0 (.t 2), none, []⟩,
       ⟨some 27, .load false 1 (.t 26), none, [1]⟩,
       ⟨some 28, .mv (.t 7), none, []⟩,
       ⟨some 29, .idxAddr 8 (.t 27) (.t 28), none, [2, 3]⟩,
       ⟨some 30, .fieldAddr 3 (.t 29), none, [4]⟩,
       ⟨some 31, .load true 4 (.t 30), none, [5]⟩,
       ⟨some 32, .bslice 4 1 [(.pv (.int .u64 0)), (.pv (.int .u64 0)), (.pv (.int .u64 0)), (.pv (.int .u64 0))] [(0, 4, (.t 31))], none, [6]⟩,
       ⟨some 33, .append 4 32 (.t 25) (.t 32), none, [0, 7]⟩,
       ⟨some 6, .mv (.t 33), none, [8, 8, 0, 1, 2, 3, 4, 5, 6, 7, 8]⟩])
     .skip)))
  (.ops [
   ⟨some 15, .mv (.t 7), none, []⟩,
   ⟨some 16, .bin .add none (.t 15) (.c (.pv (.int .i64 1))), none, [0]⟩,
   ⟨some 7, .mv (.t 16), none, [1, 0, 1]⟩])))
/-- dunnage/dunnageref06.Use -/
def f171 : AFunc := ⟨43, [.cell 4 true 4, .t 5],
 (.seq (.ops [
   ⟨some 2, .box (.t 0), none, []⟩,
   ⟨some 4, .alloc [(.pv (.int .u64 0)), (.pv (.int .u64 0)), (.pv (.int .u64 0)), (.pv (.int .u64 0))], none, []⟩,
   ⟨some 5, .mv (.c (.pv (.bool false))), none, []⟩])
  (.seq (.ops [
   ⟨some 6, .mv (.c .nils), none, []⟩])
  (.seq (.seq (.ops [
   ⟨some 7, .mv (.c (.pv (.int .i64 0))), none, []⟩])
  (.block 0
   (.loop f171l0)))
  (.seq (.ops [
   ⟨some 35, .mv (.t 6), none, []⟩,
   ⟨some 36, .call 143 [(.t 35)], none, [0]⟩,
   ⟨some 34, .mv (.t 36), none, [1]⟩,
   ⟨some 37, .extract (.t 34) 0, none, [2]⟩,
   ⟨some 38, .extract (.t 34) 1, none, [2]⟩,
   ⟨some 8, .alloc [(.pv (.int .u64 0)), (.pv (.int .u64 0)), (.pv (.int .u64 0)), (.pv (.int .u64 0))], none, []⟩,
   ⟨none, .store 4 (.t 8) (.t 37), none, [5, 3, 1, 0, 1, 2, 3, 5]⟩,
   ⟨some 9, .mv (.t 38), none, [4, 6, 0, 1, 2, 3, 4, 5, 6]⟩])
  (.seq (.seq (.ops [
   ⟨some 39, .mv (.t 9), none, []⟩,
   ⟨some 40, .not (.t 39), none, [0]⟩])
  (.cond (.t 40)
   (.seq (.ops [
     ⟨some 41, .build [(.pv (.int .u64 0)), (.pv (.int .u64 0)), (.pv (.int .u64 0)), (.pv (.int .u64 0))] [], none, []⟩,
     ⟨none, .store 4 (.t 4) (.t 41), none, [0, 0]⟩,
     ⟨some 5, .mv (.c (.pv (.bool false))), none, [1, 0, 1]⟩])
    .ret)
   .skip))
  (.seq (.ops [
   ⟨some 42, .load true 4 (.t 8), none, []⟩,
   ⟨none, .store 4 (.t 4) (.t 42), none, [0, 0]⟩,
   ⟨some 5, .mv (.c (.pv (.bool true))), none, [1, 0, 1]⟩])
  .ret))))))⟩

def f219l0 : ACode :=
 (.seq (.ops [
   ⟨some 14, .bin .lss none (.t 13) (.t 12), none, []⟩])
  (.seq (.cond (.t 14)
   .skip
   (.exit 0))
  (.seq (.block 1
   (.seq (.ops [
     ⟨some 15, .mv (.t 13), none, []⟩,
     ⟨some 16, .idxAddr 10 (.t 11) (.t 13), none, []⟩,
     ⟨some 17, .load true 10 (.t 16), none, [1]⟩,
     ⟨some 6, .alloc [(.pv (.int .i64 0)), (.pv (.int .i64 0)), (.pv (.int .u64 0)), (.pv (.int .u64 0)), (.pv (.int .u64 0)), (.pv (.int .u64 0)), (.pv (.int .u64 0)), (.pv (.int .u64 0)), (.pv (.int .u64 0)), (.pv (.int .u64 0))], none, []⟩,
     ⟨some 5, .mv (.t 15), none, [0, 0, 1, 2, 3]⟩,
     ⟨none, .store 10 (.t 6) (.t 17), none, [3, 2, 4, 0, 1, 2, 3, 4]⟩])
    (.seq (.ops [
     ⟨some 19, .load true 3 (.t 2), none, []⟩,
     ⟨some 20, .load true 3 (.t 3), none, []⟩,
     ⟨some 21, .fieldAddr 0 (.t 6), none, []⟩,
     ⟨some 22, .load false 1 (.t 21), none, [2]⟩,
     ⟨some 23, .call 220 [(.t 19), (.t 20), (.t 22)], none, [0, 1, 3]⟩,
     ⟨some 18, .mv (.t 23), none, [4]⟩,
     ⟨some 24, .extract (.t 18) 0, none, [5]⟩,
     ⟨some 25, .extract (.t 18) 1, none, [5]⟩,
     ⟨some 7, .alloc [(.pv (.int .u64 0)), (.pv (.int .u64 0)), (.pv (.int .u64 0)), (.pv (.int .u64 0))], none, []⟩,
     ⟨none, .store 4 (.t 7) (.t 24), none, [8, 6, 4, 0, 1, 2, 3, 4, 5, 6, 8]⟩,
     ⟨some 8, .mv (.t 25), none, [7, 9, 0, 1, 2, 3, 4, 5, 6, 7, 8, 9]⟩])
    (.seq (.ops [
     ⟨some 9, .alloc [(.pv (.int .i64 0))], none, []⟩])
    (.seq (.ops [
     ⟨some 26, .mv (.t 8), none, []⟩,
     ⟨some 27, .mkI 3 (.t 9), none, []⟩,
     ⟨some 28, .call 266 [(.t 26), (.t 27)], none, [0, 1]⟩])
    (.cond (.t 28)
     (.seq (.ops [
       ⟨some 29, .mv (.t 5), none, []⟩,
       ⟨some 30, .load false 1 (.t 9), none, []⟩,
       ⟨some 31, .build [(.pv (.int .i64 0)), (.pv (.int .i64 0))] [(0, 1, (.t 29)), (1, 1, (.t 30))], none, [0, 1]⟩,
       ⟨some 32, .box (.t 31), none, [2]⟩,
       ⟨some 33, .mkI 1 (.t 32), none, [3]⟩,
       ⟨some 4, .mv (.t 33), none, [4, 0, 1, 2, 3, 4]⟩])
      .ret)
     .skip))))))
  (.ops [
   ⟨some 34, .bin .add none (.t 13) (.c (.pv (.int .i64 1))), none, []⟩,
   ⟨some 13, .mv (.t 34), none, [0]⟩]))))
/-- dunnage/room.Check -/
def f219 : AFunc := ⟨35, [.t 4],
 (.seq (.ops [
   ⟨some 2, .box (.t 0), none, []⟩,
   ⟨some 3, .box (.t 1), none, []⟩,
   ⟨some 4, .mv (.c (.pv .nili)), none, []⟩])
  (.seq (.seq (.ops [
   ⟨some 10, .fieldAddr 0 (.t 2), none, []⟩,
   ⟨some 11, .load false 1 (.t 10), none, [0]⟩,
   ⟨some 12, .len (.t 11), none, [1]⟩,
   ⟨some 13, .mv (.c (.pv (.int .i64 0))), none, []⟩])
  (.block 0
   (.loop f219l0)))
  (.seq (.ops [
   ⟨some 4, .mv (.c (.pv .nili)), none, []⟩])
  .ret)))⟩

/-- dunnage/room.Rest -/
def f220 : AFunc := ⟨54, [.cell 6 true 4, .t 7],
 (.seq (.ops [
   ⟨some 3, .box (.t 0), none, []⟩,
   ⟨some 4, .box (.t 1), none, []⟩,
   ⟨some 6, .alloc [(.pv (.int .u64 0)), (.pv (.int .u64 0)), (.pv (.int .u64 0)), (.pv (.int .u64 0))], none, []⟩,
   ⟨some 7, .mv (.c (.pv .nili)), none, []⟩])
  (.seq (.ops [
   ⟨some 14, .load true 3 (.t 3), none, []⟩,
   ⟨some 15, .mv (.t 2), none, []⟩,
   ⟨some 16, .call 82 [(.t 14), (.t 15)], none, [0, 1]⟩,
   ⟨some 13, .mv (.t 16), none, [2]⟩,
   ⟨some 17, .extract (.t 13) 0, none, [3]⟩,
   ⟨some 18, .extract (.t 13) 1, none, [3]⟩,
   ⟨some 8, .alloc [(.pv (.int .i64 0)), (.pv (.int .i64 0)), (.pv (.int .u64 0)), (.pv (.int .u64 0)), (.pv (.int .u64 0)), (.pv (.int .u64 0)), (.pv (.int .u64 0)), (.pv (.int .u64 0)), (.pv (.int .u64 0)), (.pv (.int .u64 0))], none, []⟩,
   ⟨none, .store 10 (.t 8) (.t 17), none, [6, 4, 2, 0, 1, 2, 3, 4, 6]⟩,
   ⟨some 9, .mv (.t 18), none, [5, 7, 0, 1, 2, 3, 4, 5, 6, 7]⟩])
  (.seq (.seq (.ops [
   ⟨some 19, .mv (.t 9), none, []⟩,
   ⟨some 20, .not (.t 19), none, [0]⟩])
  (.cond (.t 20)
   (.seq (.ops [
     ⟨some 21, .build [(.pv (.int .u64 0)), (.pv (.int .u64 0)), (.pv (.int .u64 0)), (.pv (.int .u64 0))] [], none, []⟩,
     ⟨some 22, .mkI 0 (.c (.pv (.int .i64 4))), none, []⟩,
     ⟨none, .store 4 (.t 6) (.t 21), none, [0, 0]⟩,
     ⟨some 7, .mv (.t 22), none, [1, 2, 0, 1, 2]⟩])
    .ret)
   .skip))
  (.seq (.ops [
   ⟨some 24, .load true 3 (.t 4), none, []⟩,
   ⟨some 25, .mv (.t 2), none, []⟩,
   ⟨some 26, .call 221 [(.t 24), (.t 25)], none, [0, 1]⟩,
   ⟨some 23, .mv (.t 26), none, [2]⟩,
   ⟨some 27, .extract (.t 23) 0, none, [3]⟩,
   ⟨some 28, .extract (.t 23) 1, none, [3]⟩,
   ⟨some 10, .alloc [(.pv (.int .u64 0)), (.pv (.int .u64 0)), (.pv (.int .u64 0)), (.pv (.int .u64 0))], none, []⟩,
   ⟨none, .store 4 (.t 10) (.t 27), none, [6, 4, 2, 0, 1, 2, 3, 4, 6]⟩,
   ⟨some 11, .mv (.t 28), none, [5, 7, 0, 1, 2, 3, 4, 5, 6, 7]⟩])
  (.seq (.seq (.ops [
   ⟨some 29, .mv (.t 11), none, []⟩,
   ⟨some 30, .bin .neq (some (.iface true)) (.t 29) (.c (.pv .nili)), none, [0]⟩])
  (.cond (.t 30)
   (.seq (.ops [
     ⟨some 31, .build [(.pv (.int .u64 0)), (.pv (.int .u64 0)), (.pv (.int .u64 0)), (.pv (.int .u64 0))] [], none, []⟩,
     ⟨some 32, .mv (.t 11), none, []⟩,
     ⟨none, .store 4 (.t 6) (.t 31), none, [0, 0]⟩,
     ⟨some 7, .mv (.t 32), none, [1, 2, 0, 1, 2]⟩])
    .ret)
   .skip))
  (.seq (.ops [
   ⟨some 34, .fieldAddr 2 (.t 8), none, []⟩,
   ⟨some 35, .load true 4 (.t 34), none, [0]⟩,
   ⟨some 36, .fieldAddr 6 (.t 8), none, []⟩,
   ⟨some 37, .load true 4 (.t 36), none, [2]⟩,
   ⟨some 38, .call 258 [(.t 35), (.t 37)], none, [1, 3]⟩,
   ⟨some 33, .mv (.t 38), none, [4]⟩,
   ⟨some 39, .extract (.t 33) 0, none, [5]⟩,
   ⟨some 40, .extract (.t 33) 1, none, [5]⟩,
   ⟨some 12, .alloc [(.pv (.int .u64 0)), (.pv (.int .u64 0)), (.pv (.int .u64 0)), (.pv (.int .u64 0))], none, []⟩,
   ⟨none, .store 4 (.t 12) (.t 39), none, [8, 6, 4, 0, 1, 2, 3, 4, 5, 6, 8]⟩,
   ⟨some 11, .mv (.t 40), none, [7, 9, 0, 1, 2, 3, 4, 5, 6, 7, 8, 9]⟩])
  (.seq (.seq (.ops [
   ⟨some 41, .mv (.t 11), none, []⟩,
   ⟨some 42, .bin .eql (some (.iface true)) (.t 41) (.c (.pv .nili)), none, [0]⟩])
  (.cond (.t 42)
   (.ops [
     ⟨some 44, .load true 4 (.t 12), none, []⟩,
     ⟨some 45, .load true 4 (.t 10), none, []⟩,
     ⟨some 46, .call 258 [(.t 44), (.t 45)], none, [0, 1]⟩,
     ⟨some 43, .mv (.t 46), none, [2]⟩,
     ⟨some 47, .extract (.t 43) 0, none, [3]⟩,
     ⟨some 48, .extract (.t 43) 1, none, [3]⟩,
     ⟨none, .store 4 (.t 12) (.t 47), none, [4, 2, 0, 1, 2, 3, 4]⟩,
     ⟨some 11, .mv (.t 48), none, [5, 6, 0, 1, 2, 3, 4, 5, 6]⟩])
   .skip))
  (.seq (.seq (.ops [
   ⟨some 49, .mv (.t 11), none, []⟩,
   ⟨some 50, .bin .neq (some (.iface true)) (.t 49) (.c (.pv .nili)), none, [0]⟩])
  (.cond (.t 50)
   (.seq (.ops [
     ⟨some 51, .build [(.pv (.int .u64 0)), (.pv (.int .u64 0)), (.pv (.int .u64 0)), (.pv (.int .u64 0))] [], none, []⟩,
     ⟨some 52, .mkI 0 (.c (.pv (.int .i64 9))), none, []⟩,
     ⟨none, .store 4 (.t 6) (.t 51), none, [0, 0]⟩,
     ⟨some 7, .mv (.t 52), none, [1, 2, 0, 1, 2]⟩])
    .ret)
   .skip))
  (.seq (.ops [
   ⟨some 53, .load true 4 (.t 12), none, []⟩,
   ⟨none, .store 4 (.t 6) (.t 53), none, [0, 0]⟩,
   ⟨some 7, .mv (.c (.pv .nili)), none, [1, 0, 1]⟩])
  .ret)))))))))⟩

def f221l0 : ACode :=
 (.seq (.ops [
   ⟨some 13, .bin .lss none (.t 12) (.t 11), none, []⟩])
  (.seq (.cond (.t 13)
   .skip
   (.exit 0))
  (.seq (.block 1
   (.seq (.ops [
     ⟨some 14, .idxAddr 8 (.t 10) (.t 12), none, []⟩,
     ⟨some 15, .load true 8 (.t 14), none, [0]⟩,
     ⟨some 8, .alloc [(.pv (.int .i64 0)), (.pv (.int .i64 0)), (.pv (.int .i64 0)), (.pv (.int .u64 0)), (.pv (.int .u64 0)), (.pv (.int .u64 0)), (.pv (.int .u64 0)), (.pv (.int .i64 0))], none, []⟩,
     ⟨none, .store 8 (.t 8) (.t 15), none, [2, 1, 0, 1, 2]⟩])
    (.seq (.ops [
     ⟨some 16, .fieldAddr 7 (.t 8), none, []⟩,
     ⟨some 17, .load false 1 (.t 16), none, [0]⟩,
     ⟨some 18, .mv (.t 1), none, []⟩,
     ⟨some 19, .bin .eql none (.t 17) (.t 18), none, [1, 2]⟩])
    (.cond (.t 19)
     (.ops [
       ⟨some 20, .mv (.t 6), none, []⟩,
       ⟨some 21, .fieldAddr 3 (.t 8), none, []⟩,
       ⟨some 22, .load true 4 (.t 21), none, [1]⟩,
       ⟨some 23, .bslice 4 1 [(.pv (.int .u64 0)), (.pv (.int .u64 0)), (.pv (.int .u64 0)), (.pv (.int .u64 0))] [(0, 4, (.t 22))], none, [2]⟩,
       ⟨some 24, .append 4 32 (.t 20) (.t 23), none, [0, 3]⟩,
       ⟨some 6, .mv (.t 24), none, [4, 4, 0, 1, 2, 3, 4]⟩])
     .skip))))
  (.ops [
   ⟨some 25, .bin .add none (.t 12) (.c (.pv (.int .i64 1))), none, []⟩,
   ⟨some 12, .mv (.t 25), none, [0]⟩]))))
/-- dunnage/room.Use -/
def f221 : AFunc := ⟨30, [.cell 4 true 4, .t 5],
 (.seq (.ops [
   ⟨some 2, .box (.t 0), none, []⟩,
   ⟨some 4, .alloc [(.pv (.int .u64 0)), (.pv (.int .u64 0)), (.pv (.int .u64 0)), (.pv (.int .u64 0))], none, []⟩,
   ⟨some 5, .mv (.c (.pv .nili)), none, []⟩])
  (.seq (.ops [
   ⟨some 6, .mv (.c .nils), none, []⟩])
  (.seq (.seq (.ops [
   ⟨some 9, .fieldAddr 0 (.t 2), none, []⟩,
   ⟨some 10, .load false 1 (.t 9), none, [0]⟩,
   ⟨some 11, .len (.t 10), none, [1]⟩,
   ⟨some 12, .mv (.c (.pv (.int .i64 0))), none, []⟩])
  (.block 0
   (.loop f221l0)))
  (.seq (.ops [
   ⟨some 26, .mv (.t 6), none, []⟩,
   ⟨some 27, .call 260 [(.t 26)], none, [0]⟩,
   ⟨some 28, .extract (.t 27) 0, none, [1]⟩,
   ⟨some 29, .extract (.t 27) 1, none, [1]⟩,
   ⟨none, .store 4 (.t 4) (.t 28), none, [2, 1, 0, 1, 2, 3]⟩,
   ⟨some 5, .mv (.t 29), none, [3, 4, 0, 1, 2, 3, 4]⟩])
  .ret))))⟩

/-- dunnage/vec.Add -/
def f255 : AFunc := ⟨11, [.cell 4 true 4, .t 5],
 (.seq (.ops [
   ⟨some 2, .box (.t 0), none, []⟩,
   ⟨some 3, .box (.t 1), none, []⟩,
   ⟨some 4, .alloc [(.pv (.int .u64 0)), (.pv (.int .u64 0)), (.pv (.int .u64 0)), (.pv (.int .u64 0))], none, []⟩,
   ⟨some 5, .mv (.c (.pv .nili)), none, []⟩])
  (.seq (.ops [
   ⟨some 6, .load true 4 (.t 2), none, []⟩,
   ⟨some 7, .load true 4 (.t 3), none, []⟩,
   ⟨some 8, .call 261 [(.t 6), (.t 7), (.f 256)], none, [0, 1]⟩,
   ⟨some 9, .extract (.t 8) 0, none, [2]⟩,
   ⟨some 10, .extract (.t 8) 1, none, [2]⟩,
   ⟨none, .store 4 (.t 4) (.t 9), none, [3, 2, 0, 1, 2, 3, 4]⟩,
   ⟨some 5, .mv (.t 10), none, [4, 5, 0, 1, 2, 3, 4, 5]⟩])
  .ret))⟩

/-- dunnage/vec.Add$1 -/
def f256 : AFunc := ⟨17, [.t 4, .t 5],
 (.seq (.ops [
   ⟨some 4, .mv (.c (.pv (.int .u64 0))), none, []⟩,
   ⟨some 5, .mv (.c (.pv (.bool false))), none, [0]⟩])
  (.seq (.ops [
   ⟨some 9, .mv (.t 0), none, []⟩,
   ⟨some 10, .mv (.t 1), none, []⟩,
   ⟨some 11, .call 270 [(.t 9), (.t 10), (.c (.pv (.int .u64 0)))], none, [0, 1]⟩,
   ⟨some 8, .mv (.t 11), none, [2]⟩,
   ⟨some 12, .extract (.t 8) 0, none, [3]⟩,
   ⟨some 13, .extract (.t 8) 1, none, [3]⟩,
   ⟨some 6, .mv (.t 12), none, [4, 2, 0, 1, 2, 3, 4]⟩,
   ⟨some 7, .mv (.t 13), none, [5, 6, 0, 1, 2, 3, 4, 5, 6]⟩])
  (.seq (.ops [
   ⟨some 14, .mv (.t 6), none, []⟩,
   ⟨some 15, .mv (.t 7), none, []⟩,
   ⟨some 16, .bin .eql none (.t 15) (.c (.pv (.int .u64 0))), none, [1]⟩,
   ⟨some 4, .mv (.t 14), none, [0, 0]⟩,
   ⟨some 5, .mv (.t 16), none, [2, 3, 0, 1, 2, 3]⟩])
  .ret)))⟩

/-- dunnage/vec.Sub -/
def f258 : AFunc := ⟨11, [.cell 4 true 4, .t 5],
 (.seq (.ops [
   ⟨some 2, .box (.t 0), none, []⟩,
   ⟨some 3, .box (.t 1), none, []⟩,
   ⟨some 4, .alloc [(.pv (.int .u64 0)), (.pv (.int .u64 0)), (.pv (.int .u64 0)), (.pv (.int .u64 0))], none, []⟩,
   ⟨some 5, .mv (.c (.pv .nili)), none, []⟩])
  (.seq (.ops [
   ⟨some 6, .load true 4 (.t 2), none, []⟩,
   ⟨some 7, .load true 4 (.t 3), none, []⟩,
   ⟨some 8, .call 261 [(.t 6), (.t 7), (.f 259)], none, [0, 1]⟩,
   ⟨some 9, .extract (.t 8) 0, none, [2]⟩,
   ⟨some 10, .extract (.t 8) 1, none, [2]⟩,
   ⟨none, .store 4 (.t 4) (.t 9), none, [3, 2, 0, 1, 2, 3, 4]⟩,
   ⟨some 5, .mv (.t 10), none, [4, 5, 0, 1, 2, 3, 4, 5]⟩])
  .ret))⟩

/-- dunnage/vec.Sub$1 -/
def f259 : AFunc := ⟨12, [.t 4, .t 5],
 (.seq (.ops [
   ⟨some 4, .mv (.c (.pv (.int .u64 0))), none, []⟩,
   ⟨some 5, .mv (.c (.pv (.bool false))), none, [0]⟩])
  (.seq (.ops [
   ⟨some 6, .mv (.t 0), none, []⟩,
   ⟨some 7, .mv (.t 1), none, []⟩,
   ⟨some 8, .bin .sub none (.t 6) (.t 7), none, [0, 1]⟩,
   ⟨some 9, .mv (.t 0), none, []⟩,
   ⟨some 10, .mv (.t 1), none, []⟩,
   ⟨some 11, .bin .geq none (.t 9) (.t 10), none, [3, 4]⟩,
   ⟨some 4, .mv (.t 8), none, [2, 0, 1, 2]⟩,
   ⟨some 5, .mv (.t 11), none, [5, 6, 0, 1, 2, 3, 4, 5, 6]⟩])
  .ret))⟩

def f260l0 : ACode :=
 (.seq (.ops [
   ⟨some 12, .bin .lss none (.t 11) (.t 10), none, []⟩])
  (.seq (.cond (.t 12)
   .skip
   (.exit 0))
  (.seq (.block 1
   (.seq (.ops [
     ⟨some 13, .idxAddr 4 (.t 9) (.t 11), none, []⟩,
     ⟨some 14, .load true 4 (.t 13), none, [0]⟩,
     ⟨some 6, .alloc [(.pv (.int .u64 0)), (.pv (.int .u64 0)), (.pv (.int .u64 0)), (.pv (.int .u64 0))], none, []⟩,
     ⟨none, .store 4 (.t 6) (.t 14), none, [2, 1, 0, 1, 2]⟩])
    (.seq (.ops [
     ⟨some 16, .load true 4 (.t 4), none, []⟩,
     ⟨some 17, .load true 4 (.t 6), none, []⟩,
     ⟨some 18, .call 255 [(.t 16), (.t 17)], none, [0, 1]⟩,
     ⟨some 15, .mv (.t 18), none, [2]⟩,
     ⟨some 19, .extract (.t 15) 0, none, [3]⟩,
     ⟨some 20, .extract (.t 15) 1, none, [3]⟩,
     ⟨some 7, .alloc [(.pv (.int .u64 0)), (.pv (.int .u64 0)), (.pv (.int .u64 0)), (.pv (.int .u64 0))], none, []⟩,
     ⟨none, .store 4 (.t 7) (.t 19), none, [6, 4, 2, 0, 1, 2, 3, 4, 6]⟩,
     ⟨some 8, .mv (.t 20), none, [5, 7, 0, 1, 2, 3, 4, 5, 6, 7]⟩])
    (.seq (.seq (.ops [
     ⟨some 21, .mv (.t 8), none, []⟩,
     ⟨some 22, .bin .neq (some (.iface true)) (.t 21) (.c (.pv .nili)), none, [0]⟩])
    (.cond (.t 22)
     (.seq (.ops [
       ⟨some 23, .build [(.pv (.int .u64 0)), (.pv (.int .u64 0)), (.pv (.int .u64 0)), (.pv (.int .u64 0))] [], none, []⟩,
       ⟨some 24, .mv (.t 8), none, []⟩,
       ⟨none, .store 4 (.t 2) (.t 23), none, [0, 0]⟩,
       ⟨some 3, .mv (.t 24), none, [1, 2, 0, 1, 2]⟩])
      .ret)
     .skip))
    (.ops [
     ⟨some 25, .load true 4 (.t 7), none, []⟩,
     ⟨none, .store 4 (.t 4) (.t 25), none, [0, 0]⟩])))))
  (.ops [
   ⟨some 26, .bin .add none (.t 11) (.c (.pv (.int .i64 1))), none, []⟩,
   ⟨some 11, .mv (.t 26), none, [0]⟩]))))
/-- dunnage/vec.Sum -/
def f260 : AFunc := ⟨28, [.cell 2 true 4, .t 3],
 (.seq (.ops [
   ⟨some 2, .alloc [(.pv (.int .u64 0)), (.pv (.int .u64 0)), (.pv (.int .u64 0)), (.pv (.int .u64 0))], none, []⟩,
   ⟨some 3, .mv (.c (.pv .nili)), none, []⟩])
  (.seq (.ops [
   ⟨some 4, .alloc [(.pv (.int .u64 0)), (.pv (.int .u64 0)), (.pv (.int .u64 0)), (.pv (.int .u64 0))], none, []⟩])
  (.seq (.seq (.ops [
   ⟨some 9, .mv (.t 0), none, []⟩,
   ⟨some 10, .len (.t 9), none, [0]⟩,
   ⟨some 11, .mv (.c (.pv (.int .i64 0))), none, []⟩])
  (.block 0
   (.loop f260l0)))
  (.seq (.ops [
   ⟨some 27, .load true 4 (.t 4), none, []⟩,
   ⟨none, .store 4 (.t 2) (.t 27), none, [0, 0]⟩,
   ⟨some 3, .mv (.c (.pv .nili)), none, [1, 0, 1]⟩])
  .ret))))⟩

def f261l0 : ACode :=
 (.seq (.ops [
   ⟨some 13, .bin .lss none (.t 12) (.c (.pv (.int .i64 4))), none, []⟩])
  (.seq (.cond (.t 13)
   .skip
   (.exit 0))
  (.seq (.block 1
   (.seq (.ops [
     ⟨some 14, .mv (.t 12), none, []⟩,
     ⟨some 9, .mv (.t 14), none, [0, 0]⟩])
    (.seq (.draw [
     ⟨some 16, .mv (.t 2), none, []⟩,
     ⟨some 17, .mv (.t 9), none, []⟩,
     ⟨some 18, .idxArr 4 1 (.t 3) (.t 17), none, [1]⟩,
     ⟨some 19, .load false 1 (.t 18), none, [2]⟩,
     ⟨some 20, .mv (.t 9), none, []⟩,
     ⟨some 21, .idxArr 4 1 (.t 4) (.t 20), none, [4]⟩,
     ⟨some 22, .load false 1 (.t 21), none, [5]⟩,
     ⟨some 23, .callv (.t 16) [(.t 19), (.t 22)], none, [0, 3, 6]⟩,
     ⟨some 15, .mv (.t 23), none, [7]⟩,
     ⟨some 24, .extract (.t 15) 0, none, [8]⟩,
     ⟨some 25, .extract (.t 15) 1, none, [8]⟩,
     ⟨some 10, .mv (.t 24), none, [9, 7, 0, 1, 2, 3, 4, 5, 6, 7, 8, 9]⟩,
     ⟨some 11, .mv (.t 25), none, [10, 11, 0, 1, 2, 3, 4, 5, 6, 7, 8, 9, 10, 11]⟩])
    (.seq (.seq (.ops [
     ⟨some 26, .mv (.t 11), none, []⟩,
     ⟨some 27, .not (.t 26), none, [0]⟩])
    (.cond (.t 27)
     (.seq (.ops [
       ⟨some 28, .build [(.pv (.int .u64 0)), (.pv (.int .u64 0)), (.pv (.int .u64 0)), (.pv (.int .u64 0))] [], none, []⟩,
       ⟨some 29, .mkI 0 (.c (.pv (.int .i64 8))), none, []⟩,
       ⟨none, .store 4 (.t 6) (.t 28), none, [0, 0]⟩,
       ⟨some 7, .mv (.t 29), none, [1, 2, 0, 1, 2]⟩])
      .ret)
     .skip))
    (.ops [
     ⟨some 30, .mv (.t 9), none, []⟩,
     ⟨some 31, .mv (.t 10), none, []⟩,
     ⟨some 32, .idxArr 4 1 (.t 8) (.t 30), none, [0, 0, 1]⟩,
     ⟨none, .store 1 (.t 32) (.t 31), none, [2, 1, 0, 1]⟩])))))
  (.ops [
   ⟨some 33, .bin .add none (.t 12) (.c (.pv (.int .i64 1))), none, []⟩,
   ⟨some 12, .mv (.t 33), none, [0]⟩]))))
/-- dunnage/vec.each -/
def f261 : AFunc := ⟨35, [.cell 6 true 4, .t 7],
 (.seq (.ops [
   ⟨some 3, .box (.t 0), none, []⟩,
   ⟨some 4, .box (.t 1), none, []⟩,
   ⟨some 6, .alloc [(.pv (.int .u64 0)), (.pv (.int .u64 0)), (.pv (.int .u64 0)), (.pv (.int .u64 0))], none, []⟩,
   ⟨some 7, .mv (.c (.pv .nili)), none, []⟩])
  (.seq (.ops [
   ⟨some 8, .alloc [(.pv (.int .u64 0)), (.pv (.int .u64 0)), (.pv (.int .u64 0)), (.pv (.int .u64 0))], none, []⟩])
  (.seq (.seq (.ops [
   ⟨some 12, .mv (.c (.pv (.int .i64 0))), none, []⟩])
  (.block 0
   (.loop f261l0)))
  (.seq (.ops [
   ⟨some 34, .load true 4 (.t 8), none, []⟩,
   ⟨none, .store 4 (.t 6) (.t 34), none, [0, 0]⟩,
   ⟨some 7, .mv (.c (.pv .nili)), none, [1, 0, 1]⟩])
  .ret))))⟩

/-- dunnage/dunnagelaw07.ApartLess -/
def f318 : AFunc := ⟨64, [.t 6],
 (.seq (.ops [
   ⟨some 3, .box (.t 0), none, []⟩,
   ⟨some 4, .box (.t 1), none, []⟩,
   ⟨some 6, .mv (.c (.pv (.bool false))), none, []⟩])
  (.seq (.ops [
   ⟨some 10, .call 324 [], none, []⟩,
   ⟨some 7, .mv (.t 10), none, [0, 0, 0]⟩])
  (.seq (.ops [
   ⟨some 11, .load true 3 (.t 3), none, []⟩,
   ⟨some 12, .build [.nils, (.pv (.int .i64 0)), (.pv (.int .i64 0))] [], none, []⟩,
   ⟨some 13, .load true 3 (.t 4), none, []⟩,
   ⟨some 14, .call 163 [(.t 11), (.t 12), (.t 13)], none, [0, 1, 2]⟩,
   ⟨some 8, .mv (.t 14), none, [3, 3, 0, 1, 2, 3]⟩])
  (.seq (.seq (.ops [
   ⟨some 15, .mv (.t 8), none, []⟩,
   ⟨some 16, .not (.t 15), none, [0]⟩,
   ⟨some 17, .mv (.t 16), none, [1]⟩,
   ⟨some 18, .mv (.t 2), some (17, false), [2]⟩,
   ⟨some 19, .bin .lss none (.t 18) (.c (.pv (.int .i64 0))), some (17, false), [3, 2]⟩,
   ⟨some 20, .pick (.t 17) (.c (.pv (.bool true))) (.t 19), none, [2, 4]⟩,
   ⟨some 21, .mv (.t 20), none, [5, 2]⟩,
   ⟨some 22, .mv (.t 2), some (21, false), [6]⟩,
   ⟨some 23, .fieldAddr 0 (.t 4), some (21, false), [6]⟩,
   ⟨some 24, .load false 1 (.t 23), some (21, false), [8, 6]⟩,
   ⟨some 25, .len (.t 24), some (21, false), [9, 6]⟩,
   ⟨some 26, .bin .geq none (.t 22) (.t 25), some (21, false), [7, 10, 6]⟩,
   ⟨some 27, .pick (.t 21) (.c (.pv (.bool true))) (.t 26), none, [6, 11]⟩])
  (.cond (.t 27)
   (.seq (.ops [
     ⟨some 28, .mv (.t 7), none, []⟩,
     ⟨some 6, .mv (.t 28), none, [0, 0]⟩])
    .ret)
   .skip))
  (.seq (.seq (.ops [
   ⟨some 29, .load true 3 (.t 3), none, []⟩,
   ⟨some 30, .load true 3 (.t 4), none, []⟩,
   ⟨some 31, .call 68 [(.t 29), (.t 30)], none, [0, 1]⟩,
   ⟨some 32, .bin .neq (some (.iface true)) (.t 31) (.c (.pv .nili)), none, [2]⟩])
  (.cond (.t 32)
   (.seq (.ops [
     ⟨some 33, .mv (.t 7), none, []⟩,
     ⟨some 6, .mv (.t 33), none, [0, 0]⟩])
    .ret)
   .skip))
  (.seq (.draw [
   ⟨some 34, .bslice 8 0 [] [], none, []⟩,
   ⟨some 35, .fieldAddr 0 (.t 4), none, []⟩,
   ⟨some 36, .load false 1 (.t 35), none, [1]⟩,
   ⟨some 37, .mv (.t 2), none, []⟩,
   ⟨some 38, .slice 8 (.t 36) none (some (.t 37)), none, [2, 3]⟩,
   ⟨some 39, .append 8 64 (.t 34) (.t 38), none, [0, 4]⟩,
   ⟨some 40, .fieldAddr 0 (.t 4), none, []⟩,
   ⟨some 41, .load false 1 (.t 40), none, [6]⟩,
   ⟨some 42, .mv (.t 2), none, []⟩,
   ⟨some 43, .bin .add none (.t 42) (.c (.pv (.int .i64 1))), none, [8]⟩,
   ⟨some 44, .slice 8 (.t 41) (some (.t 43)) none, none, [7, 9]⟩,
   ⟨some 45, .append 8 64 (.t 39) (.t 44), none, [5, 10, 5]⟩,
   ⟨some 46, .build [.nils, (.pv (.int .i64 0)), (.pv (.int .i64 0))] [(0, 1, (.t 45))], none, [11]⟩,
   ⟨some 9, .alloc [.nils, (.pv (.int .i64 0)), (.pv (.int .i64 0))], none, []⟩,
   ⟨none, .store 3 (.t 9) (.t 46), none, [13, 12, 11, 0, 1, 2, 3, 4, 5, 6, 7, 8, 9, 10, 11, 12, 13]⟩])
  (.seq (.draw [
   ⟨some 47, .mv (.t 7), none, []⟩,
   ⟨some 48, .mv (.t 47), none, [0]⟩,
   ⟨some 49, .load true 3 (.t 3), some (48, true), [1]⟩,
   ⟨some 50, .load true 3 (.t 9), some (48, true), [1]⟩,
   ⟨some 51, .call 68 [(.t 49), (.t 50)], some (48, true), [2, 3, 1, 1]⟩,
   ⟨some 52, .bin .eql (some (.iface true)) (.t 51) (.c (.pv .nili)), some (48, true), [4, 1]⟩,
   ⟨some 53, .pick (.t 48) (.t 52) (.c (.pv (.bool false))), none, [1, 5]⟩,
   ⟨some 54, .mv (.t 53), none, [6, 4]⟩,
   ⟨some 55, .load true 3 (.t 3), some (54, true), [7]⟩,
   ⟨some 56, .fieldAddr 0 (.t 4), some (54, true), [7]⟩,
   ⟨some 57, .load false 1 (.t 56), some (54, true), [9, 7]⟩,
   ⟨some 58, .mv (.t 2), some (54, true), [7]⟩,
   ⟨some 59, .slice 8 (.t 57) none (some (.t 58)), some (54, true), [10, 11, 7]⟩,
   ⟨some 60, .build [.nils, (.pv (.int .i64 0)), (.pv (.int .i64 0))] [(0, 1, (.t 59))], some (54, true), [12, 7]⟩,
   ⟨some 61, .call 68 [(.t 55), (.t 60)], some (54, true), [8, 13, 7, 7]⟩,
   ⟨some 62, .bin .eql (some (.iface true)) (.t 61) (.c (.pv .nili)), some (54, true), [14, 7]⟩,
   ⟨some 63, .pick (.t 54) (.t 62) (.c (.pv (.bool false))), none, [7, 15]⟩,
   ⟨some 6, .mv (.t 63), none, [16, 14, 0, 1, 2, 3, 4, 5, 6, 7, 8, 9, 10, 11, 12, 13, 14, 15, 16]⟩])
  .ret)))))))⟩

def f319l0 : ACode :=
 (.seq (.seq (.ops [
   ⟨some 19, .mv (.t 8), none, []⟩,
   ⟨some 20, .fieldAddr 0 (.t 3), none, []⟩,
   ⟨some 21, .load false 1 (.t 20), none, [1]⟩,
   ⟨some 22, .len (.t 21), none, [2]⟩,
   ⟨some 23, .bin .lss none (.t 19) (.t 22), none, [0, 3]⟩])
  (.cond (.t 23)
   .skip
   (.exit 0)))
  (.seq (.block 1
   (.seq (.draw [
     ⟨some 26, .mv (.t 8), none, []⟩,
     ⟨some 27, .bin .gtr none (.t 26) (.c (.pv (.int .i64 0))), none, [0]⟩,
     ⟨some 28, .mv (.t 27), none, [1]⟩,
     ⟨some 29, .fieldAddr 0 (.t 3), some (28, true), [2]⟩,
     ⟨some 30, .load false 1 (.t 29), some (28, true), [3, 2]⟩,
     ⟨some 31, .mv (.t 8), some (28, true), [2]⟩,
     ⟨some 32, .idxAddr 8 (.t 30) (.t 31), some (28, true), [4, 5, 2]⟩,
     ⟨some 33, .fieldAddr 0 (.t 32), some (28, true), [6, 2]⟩,
     ⟨some 34, .load false 1 (.t 33), some (28, true), [7, 2]⟩,
     ⟨some 35, .fieldAddr 0 (.t 3), some (28, true), [2]⟩,
     ⟨some 36, .load false 1 (.t 35), some (28, true), [9, 2]⟩,
     ⟨some 37, .mv (.t 8), some (28, true), [2]⟩,
     ⟨some 38, .bin .sub none (.t 37) (.c (.pv (.int .i64 1))), some (28, true), [11, 2]⟩,
     ⟨some 39, .idxAddr 8 (.t 36) (.t 38), some (28, true), [10, 12, 2]⟩,
     ⟨some 40, .fieldAddr 0 (.t 39), some (28, true), [13, 2]⟩,
     ⟨some 41, .load false 1 (.t 40), some (28, true), [14, 2]⟩,
     ⟨some 42, .bin .leq none (.t 34) (.t 41), some (28, true), [8, 15, 2]⟩,
     ⟨some 43, .pick (.t 28) (.t 42) (.c (.pv (.bool false))), none, [2, 16]⟩,
     ⟨some 44, .mv (.t 43), none, [17, 2]⟩,
     ⟨some 45, .fieldAddr 0 (.t 3), some (44, false), [18]⟩,
     ⟨some 46, .load false 1 (.t 45), some (44, false), [19, 18]⟩,
     ⟨some 47, .mv (.t 8), some (44, false), [18]⟩,
     ⟨some 48, .idxAddr 8 (.t 46) (.t 47), some (44, false), [20, 21, 18]⟩,
     ⟨some 49, .fieldAddr 0 (.t 48), some (44, false), [22, 18]⟩,
     ⟨some 50, .load false 1 (.t 49), some (44, false), [23, 18]⟩,
     ⟨some 51, .bin .lss none (.t 50) (.c (.pv (.int .i64 1))), some (44, false), [24, 18]⟩,
     ⟨some 52, .pick (.t 44) (.c (.pv (.bool true))) (.t 51), none, [18, 25]⟩])
    (.cond (.t 52)
     (.seq (.ops [
       ⟨some 53, .mv (.t 5), none, []⟩,
       ⟨some 4, .mv (.t 53), none, [0, 0]⟩])
      .ret)
     .skip)))
  (.ops [
   ⟨some 24, .mv (.t 8), none, []⟩,
   ⟨some 25, .bin .add none (.t 24) (.c (.pv (.int .i64 1))), none, [0]⟩,
   ⟨some 8, .mv (.t 25), none, [1, 0, 1]⟩])))
def f319l1 : ACode :=
 (.seq (.seq (.ops [
   ⟨some 54, .mv (.t 9), none, []⟩,
   ⟨some 55, .fieldAddr 0 (.t 3), none, []⟩,
   ⟨some 56, .load false 1 (.t 55), none, [1]⟩,
   ⟨some 57, .len (.t 56), none, [2]⟩,
   ⟨some 58, .bin .lss none (.t 54) (.t 57), none, [0, 3]⟩])
  (.cond (.t 58)
   .skip
   (.exit 2)))
  (.seq (.block 3
   (.seq (.draw [
     ⟨some 61, .load true 3 (.t 2), none, []⟩,
     ⟨some 62, .load true 3 (.t 3), none, []⟩,
     ⟨some 63, .fieldAddr 0 (.t 3), none, []⟩,
     ⟨some 64, .load false 1 (.t 63), none, [2]⟩,
     ⟨some 65, .mv (.t 9), none, []⟩,
     ⟨some 66, .idxAddr 8 (.t 64) (.t 65), none, [3, 4]⟩,
     ⟨some 67, .fieldAddr 0 (.t 66), none, [5]⟩,
     ⟨some 68, .load false 1 (.t 67), none, [6]⟩,
     ⟨some 69, .call 325 [(.t 61), (.t 62), (.t 68)], none, [0, 1, 7]⟩,
     ⟨some 10, .mv (.t 69), none, [8, 8, 0, 1, 2, 3, 4, 5, 6, 7, 8]⟩])
    (.seq (.seq (.ops [
     ⟨some 70, .mv (.t 10), none, []⟩,
     ⟨some 71, .bin .neq none (.t 70) (.c (.pv (.int .i64 0))), none, [0]⟩,
     ⟨some 72, .mv (.t 71), none, [1]⟩,
     ⟨some 73, .mv (.t 10), some (72, true), [2]⟩,
     ⟨some 74, .fieldAddr 0 (.t 3), some (72, true), [2]⟩,
     ⟨some 75, .load false 1 (.t 74), some (72, true), [4, 2]⟩,
     ⟨some 76, .mv (.t 9), some (72, true), [2]⟩,
     ⟨some 77, .idxAddr 8 (.t 75) (.t 76), some (72, true), [5, 6, 2]⟩,
     ⟨some 78, .fieldAddr 0 (.t 77), some (72, true), [7, 2]⟩,
     ⟨some 79, .load false 1 (.t 78), some (72, true), [8, 2]⟩,
     ⟨some 80, .bin .eql none (.t 73) (.t 79), some (72, true), [3, 9, 2]⟩,
     ⟨some 81, .mv (.t 80), some (72, true), [10, 2, 2]⟩,
     ⟨some 82, .load true 3 (.t 2), some (81, false), [11]⟩,
     ⟨some 83, .load true 3 (.t 3), some (81, false), [11]⟩,
     ⟨some 84, .mv (.t 10), some (81, false), [11]⟩,
     ⟨some 85, .call 325 [(.t 82), (.t 83), (.t 84)], some (81, false), [12, 13, 14, 11, 11]⟩,
     ⟨some 86, .bin .eql none (.t 85) (.c (.pv (.int .i64 0))), some (81, false), [15, 11]⟩,
     ⟨some 87, .pick (.t 81) (.c (.pv (.bool true))) (.t 86), some (72, true), [11, 16, 2]⟩,
     ⟨some 88, .pick (.t 72) (.t 87) (.c (.pv (.bool false))), none, [2, 17]⟩])
    (.cond (.t 88)
     (.seq (.ops [
       ⟨some 4, .mv (.c (.pv (.bool false))), none, []⟩])
      .ret)
     .skip))
    (.ops [
     ⟨some 89, .mv (.t 7), none, []⟩,
     ⟨some 90, .mv (.t 89), none, [0]⟩,
     ⟨some 91, .mv (.t 10), some (90, false), [1]⟩,
     ⟨some 92, .bin .neq none (.t 91) (.c (.pv (.int .i64 0))), some (90, false), [2, 1]⟩,
     ⟨some 93, .pick (.t 90) (.c (.pv (.bool true))) (.t 92), none, [1, 3]⟩,
     ⟨some 7, .mv (.t 93), none, [4, 1, 0, 1, 2, 3, 4]⟩]))))
  (.ops [
   ⟨some 59, .mv (.t 9), none, []⟩,
   ⟨some 60, .bin .add none (.t 59) (.c (.pv (.int .i64 1))), none, [0]⟩,
   ⟨some 9, .mv (.t 60), none, [1, 0, 1]⟩])))
/-- dunnage/dunnagelaw07.ApartBoth -/
def f319 : AFunc := ⟨103, [.t 4],
 (.seq (.ops [
   ⟨some 2, .box (.t 0), none, []⟩,
   ⟨some 3, .box (.t 1), none, []⟩,
   ⟨some 4, .mv (.c (.pv (.bool false))), none, []⟩])
  (.seq (.ops [
   ⟨some 11, .call 324 [], none, []⟩,
   ⟨some 5, .mv (.t 11), none, [0, 0, 0]⟩])
  (.seq (.ops [
   ⟨some 12, .load true 3 (.t 2), none, []⟩,
   ⟨some 13, .build [.nils, (.pv (.int .i64 0)), (.pv (.int .i64 0))] [], none, []⟩,
   ⟨some 14, .load true 3 (.t 3), none, []⟩,
   ⟨some 15, .call 163 [(.t 12), (.t 13), (.t 14)], none, [0, 1, 2]⟩,
   ⟨some 6, .mv (.t 15), none, [3, 3, 0, 1, 2, 3]⟩])
  (.seq (.seq (.ops [
   ⟨some 16, .mv (.t 6), none, []⟩,
   ⟨some 17, .not (.t 16), none, [0]⟩])
  (.cond (.t 17)
   (.seq (.ops [
     ⟨some 18, .mv (.t 5), none, []⟩,
     ⟨some 4, .mv (.t 18), none, [0, 0]⟩])
    .ret)
   .skip))
  (.seq (.ops [
   ⟨some 7, .mv (.c (.pv (.bool false))), none, []⟩])
  (.seq (.seq (.ops [
   ⟨some 8, .mv (.c (.pv (.int .i64 0))), none, []⟩])
  (.block 0
   (.loop f319l0)))
  (.seq (.seq (.ops [
   ⟨some 9, .mv (.c (.pv (.int .i64 0))), none, []⟩])
  (.block 2
   (.loop f319l1)))
  (.seq (.ops [
   ⟨some 94, .mv (.t 5), none, []⟩,
   ⟨some 95, .mv (.t 94), none, [0]⟩,
   ⟨some 96, .mv (.t 7), some (95, true), [1]⟩,
   ⟨some 97, .load true 3 (.t 2), some (95, true), [1]⟩,
   ⟨some 98, .load true 3 (.t 3), some (95, true), [1]⟩,
   ⟨some 99, .call 68 [(.t 97), (.t 98)], some (95, true), [3, 4, 1, 1]⟩,
   ⟨some 100, .bin .neq (some (.iface true)) (.t 99) (.c (.pv .nili)), some (95, true), [5, 1]⟩,
   ⟨some 101, .bin .eql (some .bool) (.t 96) (.t 100), some (95, true), [2, 6, 1]⟩,
   ⟨some 102, .pick (.t 95) (.t 101) (.c (.pv (.bool false))), none, [1, 7]⟩,
   ⟨some 4, .mv (.t 102), none, [8, 5, 0, 1, 2, 3, 4, 5, 6, 7, 8]⟩])
  .ret))))))))⟩

/-- dunnage/dunnagelaw06.RoomTells -/
def f320 : AFunc := ⟨98, [.t 6],
 (.seq (.ops [
   ⟨some 3, .box (.t 0), none, []⟩,
   ⟨some 4, .box (.t 1), none, []⟩,
   ⟨some 6, .mv (.c (.pv (.bool false))), none, []⟩])
  (.seq (.ops [
   ⟨some 19, .call 326 [], none, []⟩,
   ⟨some 7, .mv (.t 19), none, [0, 0, 0]⟩])
  (.seq (.ops [
   ⟨some 20, .load true 3 (.t 3), none, []⟩,
   ⟨some 21, .build [.nils, (.pv (.int .i64 0)), (.pv (.int .i64 0))] [], none, []⟩,
   ⟨some 22, .load true 3 (.t 4), none, []⟩,
   ⟨some 23, .call 163 [(.t 20), (.t 21), (.t 22)], none, [0, 1, 2]⟩,
   ⟨some 8, .mv (.t 23), none, [3, 3, 0, 1, 2, 3]⟩])
  (.seq (.seq (.ops [
   ⟨some 24, .mv (.t 8), none, []⟩,
   ⟨some 25, .not (.t 24), none, [0]⟩])
  (.cond (.t 25)
   (.seq (.ops [
     ⟨some 26, .mv (.t 7), none, []⟩,
     ⟨some 6, .mv (.t 26), none, [0, 0]⟩])
    .ret)
   .skip))
  (.seq (.ops [
   ⟨some 28, .load true 3 (.t 4), none, []⟩,
   ⟨some 29, .mv (.t 2), none, []⟩,
   ⟨some 30, .call 221 [(.t 28), (.t 29)], none, [0, 1]⟩,
   ⟨some 27, .mv (.t 30), none, [2]⟩,
   ⟨some 31, .extract (.t 27) 0, none, [3]⟩,
   ⟨some 32, .extract (.t 27) 1, none, [3]⟩,
   ⟨some 9, .alloc [(.pv (.int .u64 0)), (.pv (.int .u64 0)), (.pv (.int .u64 0)), (.pv (.int .u64 0))], none, []⟩,
   ⟨none, .store 4 (.t 9) (.t 31), none, [6, 4, 2, 0, 1, 2, 3, 4, 6]⟩,
   ⟨some 10, .mv (.t 32), none, [5, 7, 0, 1, 2, 3, 4, 5, 6, 7]⟩])
  (.seq (.ops [
   ⟨some 34, .load true 3 (.t 3), none, []⟩,
   ⟨some 35, .load true 3 (.t 4), none, []⟩,
   ⟨some 36, .mv (.t 2), none, []⟩,
   ⟨some 37, .call 220 [(.t 34), (.t 35), (.t 36)], none, [0, 1, 2]⟩,
   ⟨some 33, .mv (.t 37), none, [3]⟩,
   ⟨some 38, .extract (.t 33) 0, none, [4]⟩,
   ⟨some 39, .extract (.t 33) 1, none, [4]⟩,
   ⟨some 11, .alloc [(.pv (.int .u64 0)), (.pv (.int .u64 0)), (.pv (.int .u64 0)), (.pv (.int .u64 0))], none, []⟩,
   ⟨none, .store 4 (.t 11) (.t 38), none, [7, 5, 3, 0, 1, 2, 3, 4, 5, 7]⟩,
   ⟨some 12, .mv (.t 39), none, [6, 8, 0, 1, 2, 3, 4, 5, 6, 7, 8]⟩])
  (.seq (.ops [
   ⟨some 41, .load true 3 (.t 4), none, []⟩,
   ⟨some 42, .mv (.t 2), none, []⟩,
   ⟨some 43, .call 171 [(.t 41), (.t 42)], none, [0, 1]⟩,
   ⟨some 40, .mv (.t 43), none, [2]⟩,
   ⟨some 44, .extract (.t 40) 0, none, [3]⟩,
   ⟨some 45, .extract (.t 40) 1, none, [3]⟩,
   ⟨some 13, .alloc [(.pv (.int .u64 0)), (.pv (.int .u64 0)), (.pv (.int .u64 0)), (.pv (.int .u64 0))], none, []⟩,
   ⟨none, .store 4 (.t 13) (.t 44), none, [6, 4, 2, 0, 1, 2, 3, 4, 6]⟩,
   ⟨some 14, .mv (.t 45), none, [5, 7, 0, 1, 2, 3, 4, 5, 6, 7]⟩])
  (.seq (.ops [
   ⟨some 47, .load true 3 (.t 3), none, []⟩,
   ⟨some 48, .load true 3 (.t 4), none, []⟩,
   ⟨some 49, .mv (.t 2), none, []⟩,
   ⟨some 50, .call 170 [(.t 47), (.t 48), (.t 49)], none, [0, 1, 2]⟩,
   ⟨some 46, .mv (.t 50), none, [3]⟩,
   ⟨some 51, .extract (.t 46) 0, none, [4]⟩,
   ⟨some 52, .extract (.t 46) 1, none, [4]⟩,
   ⟨some 15, .alloc [(.pv (.int .u64 0)), (.pv (.int .u64 0)), (.pv (.int .u64 0)), (.pv (.int .u64 0))], none, []⟩,
   ⟨none, .store 4 (.t 15) (.t 51), none, [7, 5, 3, 0, 1, 2, 3, 4, 5, 7]⟩,
   ⟨some 16, .mv (.t 52), none, [6, 8, 0, 1, 2, 3, 4, 5, 6, 7, 8]⟩])
  (.seq (.ops [
   ⟨some 54, .load true 3 (.t 3), none, []⟩,
   ⟨some 55, .load true 3 (.t 4), none, []⟩,
   ⟨some 56, .call 169 [(.t 54), (.t 55)], none, [0, 1]⟩,
   ⟨some 53, .mv (.t 56), none, [2]⟩,
   ⟨some 57, .extract (.t 53) 0, none, [3]⟩,
   ⟨some 58, .extract (.t 53) 1, none, [3]⟩,
   ⟨some 17, .mv (.t 57), none, [4, 2, 0, 1, 2, 3, 4]⟩,
   ⟨some 18, .mv (.t 58), none, [5, 6, 0, 1, 2, 3, 4, 5, 6]⟩])
  (.seq (.seq (.ops [
   ⟨some 59, .mv (.t 14), none, []⟩,
   ⟨some 60, .mv (.t 59), none, [0]⟩,
   ⟨some 61, .mv (.t 10), some (60, true), [1]⟩,
   ⟨some 62, .bin .neq (some (.iface true)) (.t 61) (.c (.pv .nili)), some (60, true), [2, 1]⟩,
   ⟨some 63, .pick (.t 60) (.t 62) (.c (.pv (.bool false))), none, [1, 3]⟩,
   ⟨some 64, .mv (.t 63), none, [4, 1]⟩,
   ⟨some 65, .mv (.t 14), some (64, false), [5]⟩,
   ⟨some 66, .not (.t 65), some (64, false), [6, 5]⟩,
   ⟨some 67, .mv (.t 66), some (64, false), [7, 5, 5]⟩,
   ⟨some 68, .mv (.t 10), some (67, true), [8]⟩,
   ⟨some 69, .mkI 0 (.c (.pv (.int .i64 8))), some (67, true), [8]⟩,
   ⟨some 70, .bin .neq (some (.iface true)) (.t 68) (.t 69), some (67, true), [9, 10, 8]⟩,
   ⟨some 71, .pick (.t 67) (.t 70) (.c (.pv (.bool false))), some (64, false), [8, 11, 5]⟩,
   ⟨some 72, .pick (.t 64) (.c (.pv (.bool true))) (.t 71), none, [5, 12]⟩,
   ⟨some 73, .mv (.t 72), none, [13, 8]⟩,
   ⟨some 74, .load true 4 (.t 9), some (73, false), [14]⟩,
   ⟨some 75, .load true 4 (.t 13), some (73, false), [14]⟩,
   ⟨some 76, .bin .neq (some (.plain [false, false, false, false])) (.t 74) (.t 75), some (73, false), [15, 16, 14]⟩,
   ⟨some 77, .pick (.t 73) (.c (.pv (.bool true))) (.t 76), none, [14, 17]⟩])
  (.cond (.t 77)
   (.seq (.ops [
     ⟨some 6, .mv (.c (.pv (.bool false))), none, []⟩])
    .ret)
   .skip))
  (.seq (.ops [
   ⟨some 78, .mv (.t 7), none, []⟩,
   ⟨some 79, .mv (.t 78), none, [0]⟩,
   ⟨some 80, .mv (.t 12), some (79, true), [1]⟩,
   ⟨some 81, .call 102 [(.t 80)], some (79, true), [2, 1, 1]⟩,
   ⟨some 82, .mv (.t 16), some (79, true), [1]⟩,
   ⟨some 83, .bin .eql none (.t 81) (.t 82), some (79, true), [3, 4, 1]⟩,
   ⟨some 84, .pick (.t 79) (.t 83) (.c (.pv (.bool false))), none, [1, 5]⟩,
   ⟨some 85, .mv (.t 84), none, [6, 3]⟩,
   ⟨some 86, .load true 4 (.t 11), some (85, true), [7]⟩,
   ⟨some 87, .load true 4 (.t 15), some (85, true), [7]⟩,
   ⟨some 88, .bin .eql (some (.plain [false, false, false, false])) (.t 86) (.t 87), some (85, true), [8, 9, 7]⟩,
   ⟨some 89, .pick (.t 85) (.t 88) (.c (.pv (.bool false))), none, [7, 10]⟩,
   ⟨some 90, .mv (.t 89), none, [11, 7]⟩,
   ⟨some 91, .load true 3 (.t 3), some (90, true), [12]⟩,
   ⟨some 92, .load true 3 (.t 4), some (90, true), [12]⟩,
   ⟨some 93, .call 219 [(.t 91), (.t 92)], some (90, true), [13, 14, 12, 12]⟩,
   ⟨some 94, .mv (.t 17), some (90, true), [12]⟩,
   ⟨some 95, .mv (.t 18), some (90, true), [12]⟩,
   ⟨some 96, .call 105 [(.t 93), (.t 94), (.t 95)], some (90, true), [15, 16, 17, 15, 12]⟩,
   ⟨some 97, .pick (.t 90) (.t 96) (.c (.pv (.bool false))), none, [12, 18]⟩,
   ⟨some 6, .mv (.t 97), none, [19, 18, 0, 1, 2, 3, 4, 5, 6, 7, 8, 9, 10, 11, 12, 13, 14, 15, 16, 17, 18, 19]⟩])
  .ret)))))))))))⟩

def f321l0 : ACode :=
 (.seq (.seq (.ops [
   ⟨some 64, .mv (.t 15), none, []⟩,
   ⟨some 65, .mv (.t 7), none, []⟩,
   ⟨some 66, .bin .lss none (.t 64) (.t 65), none, [0, 1]⟩])
  (.cond (.t 66)
   .skip
   (.exit 2)))
  (.seq (.block 3
   (.draw [
     ⟨some 69, .mv (.t 14), none, []⟩,
     ⟨some 70, .mv (.t 69), none, [0]⟩,
     ⟨some 71, .fieldAddr 0 (.t 2), some (70, true), [1]⟩,
     ⟨some 72, .load false 1 (.t 71), some (70, true), [2, 1]⟩,
     ⟨some 73, .mv (.t 15), some (70, true), [1]⟩,
     ⟨some 74, .idxAddr 10 (.t 72) (.t 73), some (70, true), [3, 4, 1]⟩,
     ⟨some 75, .fieldAddr 0 (.t 74), some (70, true), [5, 1]⟩,
     ⟨some 76, .load false 1 (.t 75), some (70, true), [6, 1]⟩,
     ⟨some 77, .fieldAddr 0 (.t 2), some (70, true), [1]⟩,
     ⟨some 78, .load false 1 (.t 77), some (70, true), [8, 1]⟩,
     ⟨some 79, .mv (.t 7), some (70, true), [1]⟩,
     ⟨some 80, .idxAddr 10 (.t 78) (.t 79), some (70, true), [9, 10, 1]⟩,
     ⟨some 81, .fieldAddr 0 (.t 80), some (70, true), [11, 1]⟩,
     ⟨some 82, .load false 1 (.t 81), some (70, true), [12, 1]⟩,
     ⟨some 83, .bin .neq none (.t 76) (.t 82), some (70, true), [7, 13, 1]⟩,
     ⟨some 84, .pick (.t 70) (.t 83) (.c (.pv (.bool false))), none, [1, 14]⟩,
     ⟨some 14, .mv (.t 84), none, [15, 1, 0, 1, 2, 3, 4, 5, 6, 7, 8, 9, 10, 11, 12, 13, 14, 15]⟩]))
  (.ops [
   ⟨some 67, .mv (.t 15), none, []⟩,
   ⟨some 68, .bin .add none (.t 67) (.c (.pv (.int .i64 1))), none, [0]⟩,
   ⟨some 15, .mv (.t 68), none, [1, 0, 1]⟩])))
def f321l1 : ACode :=
 (.seq (.seq (.ops [
   ⟨some 26, .mv (.t 7), none, []⟩,
   ⟨some 27, .fieldAddr 0 (.t 2), none, []⟩,
   ⟨some 28, .load false 1 (.t 27), none, [1]⟩,
   ⟨some 29, .len (.t 28), none, [2]⟩,
   ⟨some 30, .bin .lss none (.t 26) (.t 29), none, [0, 3]⟩])
  (.cond (.t 30)
   .skip
   (.exit 0)))
  (.seq (.block 1
   (.seq (.draw [
     ⟨some 34, .load true 3 (.t 2), none, []⟩,
     ⟨some 35, .load true 3 (.t 3), none, []⟩,
     ⟨some 36, .fieldAddr 0 (.t 2), none, []⟩,
     ⟨some 37, .load false 1 (.t 36), none, [2]⟩,
     ⟨some 38, .mv (.t 7), none, []⟩,
     ⟨some 39, .idxAddr 10 (.t 37) (.t 38), none, [3, 4]⟩,
     ⟨some 40, .fieldAddr 0 (.t 39), none, [5]⟩,
     ⟨some 41, .load false 1 (.t 40), none, [6]⟩,
     ⟨some 42, .call 220 [(.t 34), (.t 35), (.t 41)], none, [0, 1, 7]⟩,
     ⟨some 33, .mv (.t 42), none, [8]⟩,
     ⟨some 43, .extract (.t 33) 0, none, [9]⟩,
     ⟨some 44, .extract (.t 33) 1, none, [9]⟩,
     ⟨some 8, .alloc [(.pv (.int .u64 0)), (.pv (.int .u64 0)), (.pv (.int .u64 0)), (.pv (.int .u64 0))], none, []⟩,
     ⟨none, .store 4 (.t 8) (.t 43), none, [12, 10, 8, 0, 1, 2, 3, 4, 5, 6, 7, 8, 9, 10, 12]⟩,
     ⟨some 9, .mv (.t 44), none, [11, 13, 0, 1, 2, 3, 4, 5, 6, 7, 8, 9, 10, 11, 12, 13]⟩])
    (.seq (.seq (.ops [
     ⟨some 45, .mv (.t 9), none, []⟩,
     ⟨some 46, .bin .neq (some (.iface true)) (.t 45) (.c (.pv .nili)), none, [0]⟩])
    (.cond (.t 46)
     (.exit 1)
     .skip))
    (.seq (.draw [
     ⟨some 48, .load true 3 (.t 3), none, []⟩,
     ⟨some 49, .fieldAddr 0 (.t 2), none, []⟩,
     ⟨some 50, .load false 1 (.t 49), none, [1]⟩,
     ⟨some 51, .mv (.t 7), none, []⟩,
     ⟨some 52, .idxAddr 10 (.t 50) (.t 51), none, [2, 3]⟩,
     ⟨some 53, .fieldAddr 0 (.t 52), none, [4]⟩,
     ⟨some 54, .load false 1 (.t 53), none, [5]⟩,
     ⟨some 55, .call 221 [(.t 48), (.t 54)], none, [0, 6]⟩,
     ⟨some 47, .mv (.t 55), none, [7]⟩,
     ⟨some 56, .extract (.t 47) 0, none, [8]⟩,
     ⟨some 57, .extract (.t 47) 1, none, [8]⟩,
     ⟨some 10, .alloc [(.pv (.int .u64 0)), (.pv (.int .u64 0)), (.pv (.int .u64 0)), (.pv (.int .u64 0))], none, []⟩,
     ⟨none, .store 4 (.t 10) (.t 56), none, [11, 9, 7, 0, 1, 2, 3, 4, 5, 6, 7, 8, 9, 11]⟩,
     ⟨some 11, .mv (.t 57), none, [10, 12, 0, 1, 2, 3, 4, 5, 6, 7, 8, 9, 10, 11, 12]⟩])
    (.seq (.ops [
     ⟨some 59, .load true 4 (.t 8), none, []⟩,
     ⟨some 60, .load true 4 (.t 10), none, []⟩,
     ⟨some 61, .call 255 [(.t 59), (.t 60)], none, [0, 1]⟩,
     ⟨some 58, .mv (.t 61), none, [2]⟩,
     ⟨some 62, .extract (.t 58) 0, none, [3]⟩,
     ⟨some 63, .extract (.t 58) 1, none, [3]⟩,
     ⟨some 12, .alloc [(.pv (.int .u64 0)), (.pv (.int .u64 0)), (.pv (.int .u64 0)), (.pv (.int .u64 0))], none, []⟩,
     ⟨none, .store 4 (.t 12) (.t 62), none, [6, 4, 2, 0, 1, 2, 3, 4, 6]⟩,
     ⟨some 13, .mv (.t 63), none, [5, 7, 0, 1, 2, 3, 4, 5, 6, 7]⟩])
    (.seq (.ops [
     ⟨some 14, .mv (.c (.pv (.bool true))), none, []⟩])
    (.seq (.seq (.ops [
     ⟨some 15, .mv (.c (.pv (.int .i64 0))), none, []⟩])
    (.block 2
     (.loop f321l0)))
    (.seq (.draw [
     ⟨some 86, .load true 4 (.t 12), none, []⟩,
     ⟨some 87, .fieldAddr 0 (.t 2), none, []⟩,
     ⟨some 88, .load false 1 (.t 87), none, [1]⟩,
     ⟨some 89, .mv (.t 7), none, []⟩,
     ⟨some 90, .idxAddr 10 (.t 88) (.t 89), none, [2, 3]⟩,
     ⟨some 91, .fieldAddr 6 (.t 90), none, [4]⟩,
     ⟨some 92, .load true 4 (.t 91), none, [5]⟩,
     ⟨some 93, .call 255 [(.t 86), (.t 92)], none, [0, 6]⟩,
     ⟨some 85, .mv (.t 93), none, [7]⟩,
     ⟨some 94, .extract (.t 85) 0, none, [8]⟩,
     ⟨some 95, .extract (.t 85) 1, none, [8]⟩,
     ⟨some 16, .alloc [(.pv (.int .u64 0)), (.pv (.int .u64 0)), (.pv (.int .u64 0)), (.pv (.int .u64 0))], none, []⟩,
     ⟨none, .store 4 (.t 16) (.t 94), none, [11, 9, 7, 0, 1, 2, 3, 4, 5, 6, 7, 8, 9, 11]⟩,
     ⟨some 17, .mv (.t 95), none, [10, 12, 0, 1, 2, 3, 4, 5, 6, 7, 8, 9, 10, 11, 12]⟩])
    (.seq (.draw [
     ⟨some 96, .mv (.t 11), none, []⟩,
     ⟨some 97, .bin .neq (some (.iface true)) (.t 96) (.c (.pv .nili)), none, [0]⟩,
     ⟨some 98, .mv (.t 97), none, [1]⟩,
     ⟨some 99, .mv (.t 13), some (98, false), [2]⟩,
     ⟨some 100, .bin .neq (some (.iface true)) (.t 99) (.c (.pv .nili)), some (98, false), [3, 2]⟩,
     ⟨some 101, .pick (.t 98) (.c (.pv (.bool true))) (.t 100), none, [2, 4]⟩,
     ⟨some 102, .mv (.t 101), none, [5, 2]⟩,
     ⟨some 103, .mv (.t 14), some (102, false), [6]⟩,
     ⟨some 104, .mv (.t 103), some (102, false), [7, 6, 6]⟩,
     ⟨some 105, .mv (.t 17), some (104, true), [8]⟩,
     ⟨some 106, .bin .neq (some (.iface true)) (.t 105) (.c (.pv .nili)), some (104, true), [9, 8]⟩,
     ⟨some 107, .mv (.t 106), some (104, true), [10, 8, 8]⟩,
     ⟨some 108, .load true 4 (.t 16), some (107, false), [11]⟩,
     ⟨some 109, .fieldAddr 0 (.t 2), some (107, false), [11]⟩,
     ⟨some 110, .load false 1 (.t 109), some (107, false), [13, 11]⟩,
     ⟨some 111, .mv (.t 7), some (107, false), [11]⟩,
     ⟨some 112, .idxAddr 10 (.t 110) (.t 111), some (107, false), [14, 15, 11]⟩,
     ⟨some 113, .fieldAddr 2 (.t 112), some (107, false), [16, 11]⟩,
     ⟨some 114, .load true 4 (.t 113), some (107, false), [17, 11]⟩,
     ⟨some 115, .bin .neq (some (.plain [false, false, false, false])) (.t 108) (.t 114), some (107, false), [12, 18, 11]⟩,
     ⟨some 116, .pick (.t 107) (.c (.pv (.bool true))) (.t 115), some (104, true), [11, 19, 8]⟩,
     ⟨some 117, .pick (.t 104) (.t 116) (.c (.pv (.bool false))), some (102, false), [8, 20, 6]⟩,
     ⟨some 118, .pick (.t 102) (.c (.pv (.bool true))) (.t 117), none, [6, 21]⟩])
    (.cond (.t 118)
     (.seq (.ops [
       ⟨some 4, .mv (.c (.pv (.bool false))), none, []⟩])
      .ret)
     .skip))))))))))
  (.ops [
   ⟨some 31, .mv (.t 7), none, []⟩,
   ⟨some 32, .bin .add none (.t 31) (.c (.pv (.int .i64 1))), none, [0]⟩,
   ⟨some 7, .mv (.t 32), none, [1, 0, 1]⟩])))
/-- dunnage/dunnagelaw06.RoomWhole -/
def f321 : AFunc := ⟨120, [.t 4],
 (.seq (.ops [
   ⟨some 2, .box (.t 0), none, []⟩,
   ⟨some 3, .box (.t 1), none, []⟩,
   ⟨some 4, .mv (.c (.pv (.bool false))), none, []⟩])
  (.seq (.ops [
   ⟨some 18, .call 326 [], none, []⟩,
   ⟨some 5, .mv (.t 18), none, [0, 0, 0]⟩])
  (.seq (.ops [
   ⟨some 19, .load true 3 (.t 2), none, []⟩,
   ⟨some 20, .build [.nils, (.pv (.int .i64 0)), (.pv (.int .i64 0))] [], none, []⟩,
   ⟨some 21, .load true 3 (.t 3), none, []⟩,
   ⟨some 22, .call 163 [(.t 19), (.t 20), (.t 21)], none, [0, 1, 2]⟩,
   ⟨some 6, .mv (.t 22), none, [3, 3, 0, 1, 2, 3]⟩])
  (.seq (.seq (.ops [
   ⟨some 23, .mv (.t 6), none, []⟩,
   ⟨some 24, .not (.t 23), none, [0]⟩])
  (.cond (.t 24)
   (.seq (.ops [
     ⟨some 25, .mv (.t 5), none, []⟩,
     ⟨some 4, .mv (.t 25), none, [0, 0]⟩])
    .ret)
   .skip))
  (.seq (.seq (.ops [
   ⟨some 7, .mv (.c (.pv (.int .i64 0))), none, []⟩])
  (.block 0
   (.loop f321l1)))
  (.seq (.ops [
   ⟨some 119, .mv (.t 5), none, []⟩,
   ⟨some 4, .mv (.t 119), none, [0, 0]⟩])
  .ret))))))⟩

/-- dunnage/dunnagelaw06.RoomLess -/
def f322 : AFunc := ⟨55, [.t 6],
 (.seq (.ops [
   ⟨some 3, .box (.t 0), none, []⟩,
   ⟨some 4, .box (.t 1), none, []⟩,
   ⟨some 6, .mv (.c (.pv (.bool false))), none, []⟩])
  (.seq (.ops [
   ⟨some 10, .call 326 [], none, []⟩,
   ⟨some 7, .mv (.t 10), none, [0, 0, 0]⟩])
  (.seq (.ops [
   ⟨some 11, .load true 3 (.t 3), none, []⟩,
   ⟨some 12, .build [.nils, (.pv (.int .i64 0)), (.pv (.int .i64 0))] [], none, []⟩,
   ⟨some 13, .load true 3 (.t 4), none, []⟩,
   ⟨some 14, .call 163 [(.t 11), (.t 12), (.t 13)], none, [0, 1, 2]⟩,
   ⟨some 8, .mv (.t 14), none, [3, 3, 0, 1, 2, 3]⟩])
  (.seq (.seq (.ops [
   ⟨some 15, .mv (.t 8), none, []⟩,
   ⟨some 16, .not (.t 15), none, [0]⟩,
   ⟨some 17, .mv (.t 16), none, [1]⟩,
   ⟨some 18, .mv (.t 2), some (17, false), [2]⟩,
   ⟨some 19, .bin .lss none (.t 18) (.c (.pv (.int .i64 0))), some (17, false), [3, 2]⟩,
   ⟨some 20, .pick (.t 17) (.c (.pv (.bool true))) (.t 19), none, [2, 4]⟩,
   ⟨some 21, .mv (.t 20), none, [5, 2]⟩,
   ⟨some 22, .mv (.t 2), some (21, false), [6]⟩,
   ⟨some 23, .fieldAddr 0 (.t 4), some (21, false), [6]⟩,
   ⟨some 24, .load false 1 (.t 23), some (21, false), [8, 6]⟩,
   ⟨some 25, .len (.t 24), some (21, false), [9, 6]⟩,
   ⟨some 26, .bin .geq none (.t 22) (.t 25), some (21, false), [7, 10, 6]⟩,
   ⟨some 27, .pick (.t 21) (.c (.pv (.bool true))) (.t 26), none, [6, 11]⟩,
   ⟨some 28, .mv (.t 27), none, [12, 6]⟩,
   ⟨some 29, .load true 3 (.t 3), some (28, false), [13]⟩,
   ⟨some 30, .load true 3 (.t 4), some (28, false), [13]⟩,
   ⟨some 31, .call 219 [(.t 29), (.t 30)], some (28, false), [14, 15, 13, 13]⟩,
   ⟨some 32, .bin .neq (some (.iface true)) (.t 31) (.c (.pv .nili)), some (28, false), [16, 13]⟩,
   ⟨some 33, .pick (.t 28) (.c (.pv (.bool true))) (.t 32), none, [13, 17]⟩])
  (.cond (.t 33)
   (.seq (.ops [
     ⟨some 34, .mv (.t 7), none, []⟩,
     ⟨some 6, .mv (.t 34), none, [0, 0]⟩])
    .ret)
   .skip))
  (.seq (.draw [
   ⟨some 35, .bslice 8 0 [] [], none, []⟩,
   ⟨some 36, .fieldAddr 0 (.t 4), none, []⟩,
   ⟨some 37, .load false 1 (.t 36), none, [1]⟩,
   ⟨some 38, .mv (.t 2), none, []⟩,
   ⟨some 39, .slice 8 (.t 37) none (some (.t 38)), none, [2, 3]⟩,
   ⟨some 40, .append 8 64 (.t 35) (.t 39), none, [0, 4]⟩,
   ⟨some 41, .fieldAddr 0 (.t 4), none, []⟩,
   ⟨some 42, .load false 1 (.t 41), none, [6]⟩,
   ⟨some 43, .mv (.t 2), none, []⟩,
   ⟨some 44, .bin .add none (.t 43) (.c (.pv (.int .i64 1))), none, [8]⟩,
   ⟨some 45, .slice 8 (.t 42) (some (.t 44)) none, none, [7, 9]⟩,
   ⟨some 46, .append 8 64 (.t 40) (.t 45), none, [5, 10, 5]⟩,
   ⟨some 47, .build [.nils, (.pv (.int .i64 0)), (.pv (.int .i64 0))] [(0, 1, (.t 46))], none, [11]⟩,
   ⟨some 9, .alloc [.nils, (.pv (.int .i64 0)), (.pv (.int .i64 0))], none, []⟩,
   ⟨none, .store 3 (.t 9) (.t 47), none, [13, 12, 11, 0, 1, 2, 3, 4, 5, 6, 7, 8, 9, 10, 11, 12, 13]⟩])
  (.seq (.ops [
   ⟨some 48, .mv (.t 7), none, []⟩,
   ⟨some 49, .mv (.t 48), none, [0]⟩,
   ⟨some 50, .load true 3 (.t 3), some (49, true), [1]⟩,
   ⟨some 51, .load true 3 (.t 9), some (49, true), [1]⟩,
   ⟨some 52, .call 219 [(.t 50), (.t 51)], some (49, true), [2, 3, 1, 1]⟩,
   ⟨some 53, .bin .eql (some (.iface true)) (.t 52) (.c (.pv .nili)), some (49, true), [4, 1]⟩,
   ⟨some 54, .pick (.t 49) (.t 53) (.c (.pv (.bool false))), none, [1, 5]⟩,
   ⟨some 6, .mv (.t 54), none, [6, 4, 0, 1, 2, 3, 4, 5, 6]⟩])
  .ret))))))⟩

/-- dunnage/dunnagelaw09.BudgetMoves -/
def f323 : AFunc := ⟨112, [.t 10],
 (.seq (.ops [
   ⟨some 5, .box (.t 0), none, []⟩,
   ⟨some 6, .box (.t 1), none, []⟩,
   ⟨some 7, .box (.t 2), none, []⟩,
   ⟨some 8, .box (.t 3), none, []⟩,
   ⟨some 10, .mv (.c (.pv (.bool false))), none, []⟩])
  (.seq (.ops [
   ⟨some 20, .call 317 [], none, []⟩,
   ⟨some 11, .mv (.t 20), none, [0, 0, 0]⟩])
  (.seq (.ops [
   ⟨some 21, .load true 3 (.t 5), none, []⟩,
   ⟨some 22, .load true 3 (.t 6), none, []⟩,
   ⟨some 23, .load true 3 (.t 7), none, []⟩,
   ⟨some 24, .call 163 [(.t 21), (.t 22), (.t 23)], none, [0, 1, 2]⟩,
   ⟨some 12, .mv (.t 24), none, [3, 3, 0, 1, 2, 3]⟩])
  (.seq (.seq (.ops [
   ⟨some 25, .mv (.t 12), none, []⟩,
   ⟨some 26, .not (.t 25), none, [0]⟩])
  (.cond (.t 26)
   (.seq (.ops [
     ⟨some 27, .mv (.t 11), none, []⟩,
     ⟨some 10, .mv (.t 27), none, [0, 0]⟩])
    .ret)
   .skip))
  (.seq (.ops [
   ⟨some 29, .load true 3 (.t 5), none, []⟩,
   ⟨some 30, .load true 3 (.t 6), none, []⟩,
   ⟨some 31, .load true 3 (.t 7), none, []⟩,
   ⟨some 32, .load true 4 (.t 8), none, []⟩,
   ⟨some 33, .call 239 [(.t 29), (.t 30), (.t 31), (.t 32)], none, [0, 1, 2, 3]⟩,
   ⟨some 28, .mv (.t 33), none, [4]⟩,
   ⟨some 34, .extract (.t 28) 0, none, [5]⟩,
   ⟨some 35, .extract (.t 28) 1, none, [5]⟩,
   ⟨some 13, .alloc [.nils, (.pv (.int .i64 0)), (.pv (.int .i64 0))], none, []⟩,
   ⟨none, .store 3 (.t 13) (.t 34), none, [8, 6, 4, 0, 1, 2, 3, 4, 5, 6, 8]⟩,
   ⟨some 14, .mv (.t 35), none, [7, 9, 0, 1, 2, 3, 4, 5, 6, 7, 8, 9]⟩])
  (.seq (.seq (.ops [
   ⟨some 36, .mv (.t 14), none, []⟩,
   ⟨some 37, .bin .neq (some (.iface true)) (.t 36) (.c (.pv .nili)), none, [0]⟩,
   ⟨some 38, .mv (.t 37), none, [1]⟩,
   ⟨some 39, .fieldAddr 0 (.t 8), some (38, false), [2]⟩,
   ⟨some 40, .load false 1 (.t 39), some (38, false), [3, 2]⟩,
   ⟨some 41, .bin .neq none (.t 40) (.c (.pv (.int .i64 2))), some (38, false), [4, 2]⟩,
   ⟨some 42, .mv (.t 41), some (38, false), [5, 2, 2]⟩,
   ⟨some 43, .fieldAddr 2 (.t 8), some (42, true), [6]⟩,
   ⟨some 44, .load false 1 (.t 43), some (42, true), [7, 6]⟩,
   ⟨some 45, .bin .eql none (.t 44) (.c (.pv (.int .i64 0))), some (42, true), [8, 6]⟩,
   ⟨some 46, .pick (.t 42) (.t 45) (.c (.pv (.bool false))), some (38, false), [6, 9, 2]⟩,
   ⟨some 47, .pick (.t 38) (.c (.pv (.bool true))) (.t 46), none, [2, 10]⟩])
  (.cond (.t 47)
   (.seq (.ops [
     ⟨some 48, .mv (.t 11), none, []⟩,
     ⟨some 10, .mv (.t 48), none, [0, 0]⟩])
    .ret)
   .skip))
  (.seq (.ops [
   ⟨some 50, .load true 3 (.t 7), none, []⟩,
   ⟨some 51, .fieldAddr 1 (.t 8), none, []⟩,
   ⟨some 52, .load false 1 (.t 51), none, [1]⟩,
   ⟨some 53, .call 240 [(.t 50), (.t 52)], none, [0, 2]⟩,
   ⟨some 49, .mv (.t 53), none, [3]⟩,
   ⟨some 54, .extract (.t 49) 0, none, [4]⟩,
   ⟨some 55, .extract (.t 49) 1, none, [4]⟩,
   ⟨some 15, .alloc [(.pv (.int .i64 0)), (.pv (.int .i64 0)), (.pv (.int .i64 0)), (.pv (.int .u64 0)), (.pv (.int .u64 0)), (.pv (.int .u64 0)), (.pv (.int .u64 0)), (.pv (.int .i64 0))], none, []⟩,
   ⟨none, .store 8 (.t 15) (.t 54), none, [7, 5, 3, 0, 1, 2, 3, 4, 5, 7]⟩,
   ⟨some 16, .mv (.t 55), none, [6, 8, 0, 1, 2, 3, 4, 5, 6, 7, 8]⟩])
  (.seq (.ops [
   ⟨some 57, .load true 3 (.t 7), none, []⟩,
   ⟨some 58, .fieldAddr 3 (.t 8), none, []⟩,
   ⟨some 59, .load false 1 (.t 58), none, [1]⟩,
   ⟨some 60, .call 240 [(.t 57), (.t 59)], none, [0, 2]⟩,
   ⟨some 56, .mv (.t 60), none, [3]⟩,
   ⟨some 61, .extract (.t 56) 0, none, [4]⟩,
   ⟨some 62, .extract (.t 56) 1, none, [4]⟩,
   ⟨some 17, .alloc [(.pv (.int .i64 0)), (.pv (.int .i64 0)), (.pv (.int .i64 0)), (.pv (.int .u64 0)), (.pv (.int .u64 0)), (.pv (.int .u64 0)), (.pv (.int .u64 0)), (.pv (.int .i64 0))], none, []⟩,
   ⟨none, .store 8 (.t 17) (.t 61), none, [7, 5, 3, 0, 1, 2, 3, 4, 5, 7]⟩,
   ⟨some 18, .mv (.t 62), none, [6, 8, 0, 1, 2, 3, 4, 5, 6, 7, 8]⟩])
  (.seq (.ops [
   ⟨some 63, .load true 3 (.t 7), none, []⟩,
   ⟨some 64, .mv (.t 4), none, []⟩,
   ⟨some 65, .call 71 [(.t 63), (.t 64)], none, [0, 1]⟩,
   ⟨some 19, .mv (.t 65), none, [2, 2, 0, 1, 2]⟩])
  (.seq (.seq (.ops [
   ⟨some 66, .fieldAddr 0 (.t 8), none, []⟩,
   ⟨some 67, .load false 1 (.t 66), none, [0]⟩,
   ⟨some 68, .bin .eql none (.t 67) (.c (.pv (.int .i64 2))), none, [1]⟩,
   ⟨some 69, .mv (.t 68), none, [2]⟩,
   ⟨some 70, .fieldAddr 1 (.t 15), some (69, true), [3]⟩,
   ⟨some 71, .load false 1 (.t 70), some (69, true), [4, 3]⟩,
   ⟨some 72, .mv (.t 4), some (69, true), [3]⟩,
   ⟨some 73, .bin .eql none (.t 71) (.t 72), some (69, true), [5, 6, 3]⟩,
   ⟨some 74, .pick (.t 69) (.t 73) (.c (.pv (.bool false))), none, [3, 7]⟩])
  (.cond (.t 74)
   (.ops [
     ⟨some 75, .mv (.t 19), none, []⟩,
     ⟨some 76, .bin .sub none (.t 75) (.c (.pv (.int .i64 1))), none, [0]⟩,
     ⟨some 19, .mv (.t 76), none, [1, 0, 1]⟩])
   .skip))
  (.seq (.seq (.ops [
   ⟨some 77, .fieldAddr 0 (.t 8), none, []⟩,
   ⟨some 78, .load false 1 (.t 77), none, [0]⟩,
   ⟨some 79, .bin .eql none (.t 78) (.c (.pv (.int .i64 1))), none, [1]⟩,
   ⟨some 80, .mv (.t 79), none, [2]⟩,
   ⟨some 81, .fieldAddr 0 (.t 8), some (80, false), [3]⟩,
   ⟨some 82, .load false 1 (.t 81), some (80, false), [4, 3]⟩,
   ⟨some 83, .bin .eql none (.t 82) (.c (.pv (.int .i64 4))), some (80, false), [5, 3]⟩,
   ⟨some 84, .pick (.t 80) (.c (.pv (.bool true))) (.t 83), none, [3, 6]⟩,
   ⟨some 85, .mv (.t 84), none, [7, 3]⟩,
   ⟨some 86, .fieldAddr 1 (.t 15), some (85, true), [8]⟩,
   ⟨some 87, .load false 1 (.t 86), some (85, true), [9, 8]⟩,
   ⟨some 88, .mv (.t 4), some (85, true), [8]⟩,
   ⟨some 89, .bin .eql none (.t 87) (.t 88), some (85, true), [10, 11, 8]⟩,
   ⟨some 90, .pick (.t 85) (.t 89) (.c (.pv (.bool false))), none, [8, 12]⟩])
  (.cond (.t 90)
   (.ops [
     ⟨some 91, .mv (.t 19), none, []⟩,
     ⟨some 92, .bin .add none (.t 91) (.c (.pv (.int .i64 1))), none, [0]⟩,
     ⟨some 19, .mv (.t 92), none, [1, 0, 1]⟩])
   .skip))
  (.seq (.seq (.ops [
   ⟨some 93, .fieldAddr 0 (.t 8), none, []⟩,
   ⟨some 94, .load false 1 (.t 93), none, [0]⟩,
   ⟨some 95, .bin .eql none (.t 94) (.c (.pv (.int .i64 4))), none, [1]⟩,
   ⟨some 96, .mv (.t 95), none, [2]⟩,
   ⟨some 97, .fieldAddr 1 (.t 17), some (96, true), [3]⟩,
   ⟨some 98, .load false 1 (.t 97), some (96, true), [4, 3]⟩,
   ⟨some 99, .mv (.t 4), some (96, true), [3]⟩,
   ⟨some 100, .bin .eql none (.t 98) (.t 99), some (96, true), [5, 6, 3]⟩,
   ⟨some 101, .pick (.t 96) (.t 100) (.c (.pv (.bool false))), none, [3, 7]⟩])
  (.cond (.t 101)
   (.ops [
     ⟨some 102, .mv (.t 19), none, []⟩,
     ⟨some 103, .bin .sub none (.t 102) (.c (.pv (.int .i64 1))), none, [0]⟩,
     ⟨some 19, .mv (.t 103), none, [1, 0, 1]⟩])
   .skip))
  (.seq (.ops [
   ⟨some 104, .mv (.t 11), none, []⟩,
   ⟨some 105, .mv (.t 104), none, [0]⟩,
   ⟨some 106, .load true 3 (.t 13), some (105, true), [1]⟩,
   ⟨some 107, .mv (.t 4), some (105, true), [1]⟩,
   ⟨some 108, .call 71 [(.t 106), (.t 107)], some (105, true), [2, 3, 1, 1]⟩,
   ⟨some 109, .mv (.t 19), some (105, true), [1]⟩,
   ⟨some 110, .bin .eql none (.t 108) (.t 109), some (105, true), [4, 5, 1]⟩,
   ⟨some 111, .pick (.t 105) (.t 110) (.c (.pv (.bool false))), none, [1, 6]⟩,
   ⟨some 10, .mv (.t 111), none, [7, 4, 0, 1, 2, 3, 4, 5, 6, 7]⟩])
  .ret)))))))))))))⟩

/-- dunnage/dunnagelaw07.up -/
def f324 : AFunc := ⟨26, [.t 0],
 (.seq (.ops [
   ⟨some 0, .mv (.c (.pv (.bool false))), none, []⟩])
  (.seq (.ops [
   ⟨some 3, .build [(.pv (.int .i64 0)), (.pv (.bool false)), (.pv (.int .i64 0)), (.pv (.int .i64 0)), (.pv (.int .i64 0))] [(0, 1, (.c (.pv (.int .i64 2)))), (1, 1, (.c (.pv (.bool true))))], none, []⟩,
   ⟨some 4, .bslice 5 1 [(.pv (.int .i64 0)), (.pv (.bool false)), (.pv (.int .i64 0)), (.pv (.int .i64 0)), (.pv (.int .i64 0))] [(0, 5, (.t 3))], none, [0]⟩,
   ⟨some 5, .build [.nils, .nils, .nils] [(1, 1, (.t 4))], none, [1]⟩,
   ⟨some 1, .alloc [.nils, .nils, .nils], none, []⟩,
   ⟨none, .store 3 (.t 1) (.t 5), none, [3, 2, 0, 1, 2, 3]⟩])
  (.seq (.ops [
   ⟨some 6, .build [(.pv (.int .i64 0)), (.pv (.int .i64 0)), (.pv (.int .i64 0)), (.pv (.int .u64 0)), (.pv (.int .u64 0)), (.pv (.int .u64 0)), (.pv (.int .u64 0)), (.pv (.int .i64 0))] [(0, 1, (.c (.pv (.int .i64 1)))), (1, 1, (.c (.pv (.int .i64 2)))), (7, 1, (.c (.pv (.int .i64 3))))], none, []⟩,
   ⟨some 7, .build [(.pv (.int .i64 0)), (.pv (.int .i64 0)), (.pv (.int .i64 0)), (.pv (.int .u64 0)), (.pv (.int .u64 0)), (.pv (.int .u64 0)), (.pv (.int .u64 0)), (.pv (.int .i64 0))] [(0, 1, (.c (.pv (.int .i64 4)))), (1, 1, (.c (.pv (.int .i64 2)))), (7, 1, (.c (.pv (.int .i64 3))))], none, []⟩,
   ⟨some 8, .bslice 8 2 [(.pv (.int .i64 0)), (.pv (.int .i64 0)), (.pv (.int .i64 0)), (.pv (.int .u64 0)), (.pv (.int .u64 0)), (.pv (.int .u64 0)), (.pv (.int .u64 0)), (.pv (.int .i64 0)), (.pv (.int .i64 0)), (.pv (.int .i64 0)), (.pv (.int .i64 0)), (.pv (.int .u64 0)), (.pv (.int .u64 0)), (.pv (.int .u64 0)), (.pv (.int .u64 0)), (.pv (.int .i64 0))] [(0, 8, (.t 6)), (8, 8, (.t 7))], none, [0, 1]⟩,
   ⟨some 9, .build [.nils, (.pv (.int .i64 0)), (.pv (.int .i64 0))] [(0, 1, (.t 8))], none, [2]⟩,
   ⟨some 2, .alloc [.nils, (.pv (.int .i64 0)), (.pv (.int .i64 0))], none, []⟩,
   ⟨none, .store 3 (.t 2) (.t 9), none, [4, 3, 0, 1, 2, 3, 4]⟩])
  (.seq (.ops [
   ⟨some 10, .load true 3 (.t 1), none, []⟩,
   ⟨some 11, .build [.nils, (.pv (.int .i64 0)), (.pv (.int .i64 0))] [], none, []⟩,
   ⟨some 12, .call 68 [(.t 10), (.t 11)], none, [0, 1]⟩,
   ⟨some 13, .bin .eql (some (.iface true)) (.t 12) (.c (.pv .nili)), none, [2]⟩,
   ⟨some 14, .mv (.t 13), none, [3, 2]⟩,
   ⟨some 15, .load true 3 (.t 1), some (14, true), [4]⟩,
   ⟨some 16, .load true 3 (.t 2), some (14, true), [4]⟩,
   ⟨some 17, .call 325 [(.t 15), (.t 16), (.c (.pv (.int .i64 1)))], some (14, true), [5, 6, 4, 4]⟩,
   ⟨some 18, .bin .eql none (.t 17) (.c (.pv (.int .i64 4))), some (14, true), [7, 4]⟩,
   ⟨some 19, .pick (.t 14) (.t 18) (.c (.pv (.bool false))), none, [4, 8]⟩,
   ⟨some 20, .mv (.t 19), none, [9, 7]⟩,
   ⟨some 21, .load true 3 (.t 1), some (20, true), [10]⟩,
   ⟨some 22, .load true 3 (.t 2), some (20, true), [10]⟩,
   ⟨some 23, .call 68 [(.t 21), (.t 22)], some (20, true), [11, 12, 10, 10]⟩,
   ⟨some 24, .call 103 [(.t 23), (.c (.pv (.int .i64 1))), (.c (.pv (.int .i64 10)))], some (20, true), [13, 13, 10]⟩,
   ⟨some 25, .pick (.t 20) (.t 24) (.c (.pv (.bool false))), none, [10, 14]⟩,
   ⟨some 0, .mv (.t 25), none, [15, 14, 0, 1, 2, 3, 4, 5, 6, 7, 8, 9, 10, 11, 12, 13, 14, 15]⟩])
  .ret))))⟩

def f325l0 : ACode :=
 (.seq (.ops [
   ⟨some 27, .bin .lss none (.t 26) (.t 25), none, []⟩])
  (.seq (.cond (.t 27)
   .skip
   (.exit 2))
  (.seq (.block 3
   (.seq (.ops [
     ⟨some 28, .mv (.t 26), none, []⟩,
     ⟨some 29, .idxAddr 8 (.t 24) (.t 26), none, []⟩,
     ⟨some 30, .load true 8 (.t 29), none, [1]⟩,
     ⟨some 10, .alloc [(.pv (.int .i64 0)), (.pv (.int .i64 0)), (.pv (.int .i64 0)), (.pv (.int .u64 0)), (.pv (.int .u64 0)), (.pv (.int .u64 0)), (.pv (.int .u64 0)), (.pv (.int .i64 0))], none, []⟩,
     ⟨some 9, .mv (.t 28), none, [0, 0, 1, 2, 3]⟩,
     ⟨none, .store 8 (.t 10) (.t 30), none, [3, 2, 4, 0, 1, 2, 3, 4]⟩])
    (.seq (.ops [
     ⟨some 31, .mv (.t 7), none, []⟩,
     ⟨some 32, .mv (.t 9), none, []⟩,
     ⟨some 33, .bin .neq none (.t 31) (.t 32), none, [0, 1]⟩,
     ⟨some 34, .mv (.t 33), none, [2]⟩,
     ⟨some 35, .load true 3 (.t 3), some (34, true), [3]⟩,
     ⟨some 36, .load true 8 (.t 8), some (34, true), [3]⟩,
     ⟨some 37, .load true 8 (.t 10), some (34, true), [3]⟩,
     ⟨some 38, .call 69 [(.t 35), (.t 36), (.t 37)], some (34, true), [4, 5, 6, 3, 3]⟩,
     ⟨some 39, .pick (.t 34) (.t 38) (.c (.pv (.bool false))), none, [3, 7]⟩])
    (.cond (.t 39)
     (.seq (.ops [
       ⟨some 40, .fieldAddr 0 (.t 10), none, []⟩,
       ⟨some 41, .load false 1 (.t 40), none, [0]⟩,
       ⟨some 6, .mv (.t 41), none, [1, 0, 1]⟩])
      .ret)
     .skip))))
  (.ops [
   ⟨some 42, .bin .add none (.t 26) (.c (.pv (.int .i64 1))), none, []⟩,
   ⟨some 26, .mv (.t 42), none, [0]⟩]))))
def f325l1 : ACode :=
 (.seq (.ops [
   ⟨some 15, .bin .lss none (.t 14) (.t 13), none, []⟩])
  (.seq (.cond (.t 15)
   .skip
   (.exit 0))
  (.seq (.block 1
   (.seq (.ops [
     ⟨some 16, .mv (.t 14), none, []⟩,
     ⟨some 17, .idxAddr 8 (.t 12) (.t 14), none, []⟩,
     ⟨some 18, .load true 8 (.t 17), none, [1]⟩,
     ⟨some 8, .alloc [(.pv (.int .i64 0)), (.pv (.int .i64 0)), (.pv (.int .i64 0)), (.pv (.int .u64 0)), (.pv (.int .u64 0)), (.pv (.int .u64 0)), (.pv (.int .u64 0)), (.pv (.int .i64 0))], none, []⟩,
     ⟨some 7, .mv (.t 16), none, [0, 0, 1, 2, 3]⟩,
     ⟨none, .store 8 (.t 8) (.t 18), none, [3, 2, 4, 0, 1, 2, 3, 4]⟩])
    (.seq (.seq (.ops [
     ⟨some 19, .fieldAddr 0 (.t 8), none, []⟩,
     ⟨some 20, .load false 1 (.t 19), none, [0]⟩,
     ⟨some 21, .mv (.t 2), none, []⟩,
     ⟨some 22, .bin .neq none (.t 20) (.t 21), none, [1, 2]⟩])
    (.cond (.t 22)
     (.exit 1)
     .skip))
    (.seq (.seq (.ops [
     ⟨some 23, .fieldAddr 0 (.t 4), none, []⟩,
     ⟨some 24, .load false 1 (.t 23), none, [0]⟩,
     ⟨some 25, .len (.t 24), none, [1]⟩,
     ⟨some 26, .mv (.c (.pv (.int .i64 0))), none, []⟩])
    (.block 2
     (.loop f325l0)))
    (.exit 0)))))
  (.ops [
   ⟨some 43, .bin .add none (.t 14) (.c (.pv (.int .i64 1))), none, []⟩,
   ⟨some 14, .mv (.t 43), none, [0]⟩]))))
/-- dunnage/apart.Clash -/
def f325 : AFunc := ⟨44, [.t 6],
 (.seq (.ops [
   ⟨some 3, .box (.t 0), none, []⟩,
   ⟨some 4, .box (.t 1), none, []⟩,
   ⟨some 6, .mv (.c (.pv (.int .i64 0))), none, []⟩])
  (.seq (.seq (.ops [
   ⟨some 11, .fieldAddr 0 (.t 4), none, []⟩,
   ⟨some 12, .load false 1 (.t 11), none, [0]⟩,
   ⟨some 13, .len (.t 12), none, [1]⟩,
   ⟨some 14, .mv (.c (.pv (.int .i64 0))), none, []⟩])
  (.block 0
   (.loop f325l1)))
  (.seq (.ops [
   ⟨some 6, .mv (.c (.pv (.int .i64 0))), none, []⟩])
  .ret)))⟩

/-- dunnage/dunnagelaw06.up -/
def f326 : AFunc := ⟨39, [.t 0],
 (.seq (.ops [
   ⟨some 0, .mv (.c (.pv (.bool false))), none, []⟩])
  (.seq (.ops [
   ⟨some 5, .build [(.pv (.int .u64 0)), (.pv (.int .u64 0)), (.pv (.int .u64 0)), (.pv (.int .u64 0))] [(0, 1, (.c (.pv (.int .u64 5))))], none, []⟩,
   ⟨some 6, .build [(.pv (.int .u64 0)), (.pv (.int .u64 0)), (.pv (.int .u64 0)), (.pv (.int .u64 0))] [(0, 1, (.c (.pv (.int .u64 1))))], none, []⟩,
   ⟨some 7, .build [(.pv (.int .i64 0)), (.pv (.int .i64 0)), (.pv (.int .u64 0)), (.pv (.int .u64 0)), (.pv (.int .u64 0)), (.pv (.int .u64 0)), (.pv (.int .u64 0)), (.pv (.int .u64 0)), (.pv (.int .u64 0)), (.pv (.int .u64 0))] [(0, 1, (.c (.pv (.int .i64 3)))), (1, 1, (.c (.pv (.int .i64 1)))), (2, 4, (.t 5)), (6, 4, (.t 6))], none, [0, 1]⟩,
   ⟨some 8, .bslice 10 1 [(.pv (.int .i64 0)), (.pv (.int .i64 0)), (.pv (.int .u64 0)), (.pv (.int .u64 0)), (.pv (.int .u64 0)), (.pv (.int .u64 0)), (.pv (.int .u64 0)), (.pv (.int .u64 0)), (.pv (.int .u64 0)), (.pv (.int .u64 0))] [(0, 10, (.t 7))], none, [2]⟩,
   ⟨some 9, .build [.nils, .nils, .nils] [(0, 1, (.t 8))], none, [3]⟩,
   ⟨some 1, .alloc [.nils, .nils, .nils], none, []⟩,
   ⟨none, .store 3 (.t 1) (.t 9), none, [5, 4, 0, 1, 2, 3, 4, 5]⟩])
  (.seq (.ops [
   ⟨some 11, .load true 3 (.t 1), none, []⟩,
   ⟨some 12, .build [.nils, (.pv (.int .i64 0)), (.pv (.int .i64 0))] [], none, []⟩,
   ⟨some 13, .call 220 [(.t 11), (.t 12), (.c (.pv (.int .i64 3)))], none, [0, 1]⟩,
   ⟨some 10, .mv (.t 13), none, [2]⟩,
   ⟨some 14, .extract (.t 10) 0, none, [3]⟩,
   ⟨some 15, .extract (.t 10) 1, none, [3]⟩,
   ⟨some 2, .alloc [(.pv (.int .u64 0)), (.pv (.int .u64 0)), (.pv (.int .u64 0)), (.pv (.int .u64 0))], none, []⟩,
   ⟨none, .store 4 (.t 2) (.t 14), none, [6, 4, 2, 0, 1, 2, 3, 4, 6]⟩,
   ⟨some 3, .mv (.t 15), none, [5, 7, 0, 1, 2, 3, 4, 5, 6, 7]⟩])
  (.seq (.ops [
   ⟨some 16, .load true 3 (.t 1), none, []⟩,
   ⟨some 17, .build [(.pv (.int .u64 0)), (.pv (.int .u64 0)), (.pv (.int .u64 0)), (.pv (.int .u64 0))] [(0, 1, (.c (.pv (.int .u64 5))))], none, []⟩,
   ⟨some 18, .build [(.pv (.int .i64 0)), (.pv (.int .i64 0)), (.pv (.int .i64 0)), (.pv (.int .u64 0)), (.pv (.int .u64 0)), (.pv (.int .u64 0)), (.pv (.int .u64 0)), (.pv (.int .i64 0))] [(0, 1, (.c (.pv (.int .i64 1)))), (7, 1, (.c (.pv (.int .i64 3)))), (3, 4, (.t 17))], none, [1]⟩,
   ⟨some 19, .bslice 8 1 [(.pv (.int .i64 0)), (.pv (.int .i64 0)), (.pv (.int .i64 0)), (.pv (.int .u64 0)), (.pv (.int .u64 0)), (.pv (.int .u64 0)), (.pv (.int .u64 0)), (.pv (.int .i64 0))] [(0, 8, (.t 18))], none, [2]⟩,
   ⟨some 20, .build [.nils, (.pv (.int .i64 0)), (.pv (.int .i64 0))] [(0, 1, (.t 19))], none, [3]⟩,
   ⟨some 21, .call 219 [(.t 16), (.t 20)], none, [0, 4]⟩,
   ⟨some 4, .mv (.t 21), none, [5, 5, 0, 1, 2, 3, 4, 5]⟩])
  (.seq (.ops [
   ⟨some 22, .mv (.t 3), none, []⟩,
   ⟨some 23, .bin .eql (some (.iface true)) (.t 22) (.c (.pv .nili)), none, [0]⟩,
   ⟨some 24, .mv (.t 23), none, [1]⟩,
   ⟨some 25, .load true 4 (.t 2), some (24, true), [2]⟩,
   ⟨some 26, .build [(.pv (.int .u64 0)), (.pv (.int .u64 0)), (.pv (.int .u64 0)), (.pv (.int .u64 0))] [(0, 1, (.c (.pv (.int .u64 4))))], some (24, true), [2]⟩,
   ⟨some 27, .bin .eql (some (.plain [false, false, false, false])) (.t 25) (.t 26), some (24, true), [3, 4, 2]⟩,
   ⟨some 28, .pick (.t 24) (.t 27) (.c (.pv (.bool false))), none, [2, 5]⟩,
   ⟨some 29, .mv (.t 28), none, [6, 2]⟩,
   ⟨some 30, .load true 3 (.t 1), some (29, true), [7]⟩,
   ⟨some 31, .build [.nils, (.pv (.int .i64 0)), (.pv (.int .i64 0))] [], some (29, true), [7]⟩,
   ⟨some 32, .call 219 [(.t 30), (.t 31)], some (29, true), [8, 9, 7, 7]⟩,
   ⟨some 33, .bin .eql (some (.iface true)) (.t 32) (.c (.pv .nili)), some (29, true), [10, 7]⟩,
   ⟨some 34, .pick (.t 29) (.t 33) (.c (.pv (.bool false))), none, [7, 11]⟩,
   ⟨some 35, .mv (.t 34), none, [12, 10]⟩,
   ⟨some 36, .mv (.t 4), some (35, true), [13]⟩,
   ⟨some 37, .call 103 [(.t 36), (.c (.pv (.int .i64 0))), (.c (.pv (.int .i64 9)))], some (35, true), [14, 13, 13]⟩,
   ⟨some 38, .pick (.t 35) (.t 37) (.c (.pv (.bool false))), none, [13, 15]⟩,
   ⟨some 0, .mv (.t 38), none, [16, 15, 0, 1, 2, 3, 4, 5, 6, 7, 8, 9, 10, 11, 12, 13, 14, 15, 16]⟩])
  .ret)))))⟩
end Go.Proofs.YtmeigdjfcecidaaDoor.Ab
/- Layer 7 (apart): contracts. -/
set_option linter.unusedVariables false
set_option linter.unusedSimpArgs false
namespace Go.Proofs.YtmeigdjfcecidaaDoor.Ab
open Go

def load0 : Load := ⟨0, false, 0, 0, 0⟩
def loadOf (id : Int) (l : List Load) : Option Load := l.find? (fun n => decide (n.id = id))
def loadR : Option Load → PV
  | some n => .tuple [.agg (loadC n), .bool true]
  | none => .tuple [.agg (loadC load0), .bool false]
theorem load_loop {T : Tab} (l : List Load) (id : Int) (hl : l.length ≤ 2 ^ 30) (Q : Exit → St → Prop) (o : Option Load)
    (hend : o = none → ∀ fr hp nx, look fr 4 = .ptr 1 0 0 → blkAt hp 1 = .var (pvs (loadC load0)) → Q (.exit 0) ⟨fr, hp, nx⟩)
    (hret : ∀ n, o = some n → ∀ fr hp nx, look fr 4 = .ptr 1 0 0 → look fr 5 = .pv (.bool true) → blkAt hp 1 = .var (pvs (loadC n)) → Q .ret ⟨fr, hp, nx⟩) :
    ∀ (rest : List Load) (i : Nat), l.drop i = rest → i ≤ l.length → loadOf id rest = o → ∀ (fr : List (Nat × AV)) (hp : Hl) (nx : Nat), 2 ≤ nx → look fr 4 = .ptr 1 0 0 → blkAt hp 1 = .var (pvs (loadC load0)) →
      look fr 1 = .pv (.int .i64 id) → look fr 9 = .pv (.slice (l.map loadC)) → look fr 10 = .pv (.int .i64 l.length) → look fr 11 = .pv (.int .i64 i) → Wp T false (.loop f81l0) ⟨fr, hp, nx⟩ Q := by
  intro rest
  induction rest with
  | nil =>
    intro i hd hi ho fr hp nx hn h4 b1 h1 h9 h10 h11
    have hlen := drop_nil hd hi
    rw [Wp_loop, Wp_eq f81l0.eq_1]
    simp only [Wp_seq, Wp_ops, Wp_cond, Wp_skip, Wp_ret, Wp_exit, Wp_block, WpO_cons, WpO_nil, opQ, evOp, evO, evOs, evQ_some, guardV, guardQ_true, guardQ_false, boolQ_true, boolQ_false, argsA, pvs, putS, cellsOf, scals, scal, seqQ_normal, seqQ_ret, seqQ_exit, blkQ_normal, blkQ_ret, blkQ_exit, look_if, blkAt_if, if_true, if_false, Nat.reduceEqDiff, Nat.reduceAdd, true_implies, reduceCtorEq, false_implies, and_true, true_and, List.nil_append, List.cons_append, Bool.and_self, Nat.zero_add, Nat.add_zero, fieldA, nonNil, cellsAt, loadV_one, loadV_pvs, loadV_cons, mkAgg, allPV, List.drop_zero, List.drop_succ_cons, List.take_succ_cons, List.take_zero, List.length_cons, List.length_nil, Nat.beq_eq, storeB, patchL, beq_self_eq_true, ge_iff_le, gt_iff_lt, Int.reduceNeg, Int.reduceLE, Int.reduceLT, Int.reduceEq, extractV, List.getElem?_cons_zero, List.getElem?_cons_succ, mkAgg, Nat.add_eq_left, Nat.left_eq_add, Nat.one_ne_zero, ble_dec, beq_dec, decide_eq_true_eq, Nat.reduceLeDiff, Nat.le_refl, fillA, pureVs, pureV, beq_int, bne_int, Int.natCast_inj, eq_self, eqV, eqB, decide_true, decide_false, List.length_map, Int.toNat_natCast, List.getElem?_map, Option.map_some, Option.map_none, Int.natCast_nonneg, Option.some.injEq, lenV, binV, intBin, intV, idxA, ne_eq, not_true_eq_false, not_false_eq_true, List.drop, List.take, RetP, retP, resV, resOne, snapV, snapVs, snapR, snapRs, ownSz, pickV, cond_true, cond_false, bTT, bTF, bFT, bFF, Bool.not_true, Bool.not_false, AO.isC, Bool.or_true, Bool.true_or, Bool.or_false, Bool.false_or, WpE_cons, WpE_nil, opE, evE_some, guardE_true, guardE_false, WpD_cons, WpD_nil, opD, evD_some, guardD_true, guardD_false, h4, h1, h9, h10, h11, hlen, Int.lt_irrefl]
    refine hend ho.symm _ _ _ ?_ b1
    simp only [look_if, Nat.reduceEqDiff, if_false, h4]
  | cons n r ih =>
    intro i hd hi ho fr hp nx hn h4 b1 h1 h9 h10 h11
    obtain ⟨hget, hlt, hw, hd', hi', hb⟩ := drop_cons hd hl
    have n1 : ¬ nx = 1 := by omega
    have b1' := b1
    simp only [loadC, load0, pvs] at b1'
    rw [Wp_loop, Wp_eq f81l0.eq_1]
    by_cases hk : n.id = id
    · simp only [Wp_seq, Wp_ops, Wp_cond, Wp_skip, Wp_ret, Wp_exit, Wp_block, WpO_cons, WpO_nil, opQ, evOp, evO, evOs, evQ_some, guardV, guardQ_true, guardQ_false, boolQ_true, boolQ_false, argsA, pvs, putS, cellsOf, scals, scal, seqQ_normal, seqQ_ret, seqQ_exit, blkQ_normal, blkQ_ret, blkQ_exit, look_if, blkAt_if, if_true, if_false, Nat.reduceEqDiff, Nat.reduceAdd, true_implies, reduceCtorEq, false_implies, and_true, true_and, List.nil_append, List.cons_append, Bool.and_self, Nat.zero_add, Nat.add_zero, fieldA, nonNil, cellsAt, loadV_one, loadV_pvs, loadV_cons, mkAgg, allPV, List.drop_zero, List.drop_succ_cons, List.take_succ_cons, List.take_zero, List.length_cons, List.length_nil, Nat.beq_eq, storeB, patchL, beq_self_eq_true, ge_iff_le, gt_iff_lt, Int.reduceNeg, Int.reduceLE, Int.reduceLT, Int.reduceEq, extractV, List.getElem?_cons_zero, List.getElem?_cons_succ, mkAgg, Nat.add_eq_left, Nat.left_eq_add, Nat.one_ne_zero, ble_dec, beq_dec, decide_eq_true_eq, Nat.reduceLeDiff, Nat.le_refl, fillA, pureVs, pureV, beq_int, bne_int, Int.natCast_inj, eq_self, eqV, eqB, decide_true, decide_false, List.length_map, Int.toNat_natCast, List.getElem?_map, Option.map_some, Option.map_none, Int.natCast_nonneg, Option.some.injEq, lenV, binV, intBin, intV, idxA, ne_eq, not_true_eq_false, not_false_eq_true, List.drop, List.take, RetP, retP, resV, resOne, snapV, snapVs, snapR, snapRs, ownSz, pickV, cond_true, cond_false, bTT, bTF, bFT, bFF, Bool.not_true, Bool.not_false, AO.isC, Bool.or_true, Bool.true_or, Bool.or_false, Bool.false_or, WpE_cons, WpE_nil, opE, evE_some, guardE_true, guardE_false, WpD_cons, WpD_nil, opD, evD_some, guardD_true, guardD_false, h4, b1', h1, h9, h10, h11, hlt, hget, loadC, n1, hk]
      refine hret n (by rw [← ho]; simp [loadOf, hk]) _ _ _ ?_ ?_ ?_
      all_goals simp only [look_if, blkAt_if, Nat.reduceEqDiff, if_true, if_false, h4, n1, loadC, pvs, hk]
    · simp only [Wp_seq, Wp_ops, Wp_cond, Wp_skip, Wp_ret, Wp_exit, Wp_block, WpO_cons, WpO_nil, opQ, evOp, evO, evOs, evQ_some, guardV, guardQ_true, guardQ_false, boolQ_true, boolQ_false, argsA, pvs, putS, cellsOf, scals, scal, seqQ_normal, seqQ_ret, seqQ_exit, blkQ_normal, blkQ_ret, blkQ_exit, look_if, blkAt_if, if_true, if_false, Nat.reduceEqDiff, Nat.reduceAdd, true_implies, reduceCtorEq, false_implies, and_true, true_and, List.nil_append, List.cons_append, Bool.and_self, Nat.zero_add, Nat.add_zero, fieldA, nonNil, cellsAt, loadV_one, loadV_pvs, loadV_cons, mkAgg, allPV, List.drop_zero, List.drop_succ_cons, List.take_succ_cons, List.take_zero, List.length_cons, List.length_nil, Nat.beq_eq, storeB, patchL, beq_self_eq_true, ge_iff_le, gt_iff_lt, Int.reduceNeg, Int.reduceLE, Int.reduceLT, Int.reduceEq, extractV, List.getElem?_cons_zero, List.getElem?_cons_succ, mkAgg, Nat.add_eq_left, Nat.left_eq_add, Nat.one_ne_zero, ble_dec, beq_dec, decide_eq_true_eq, Nat.reduceLeDiff, Nat.le_refl, fillA, pureVs, pureV, beq_int, bne_int, Int.natCast_inj, eq_self, eqV, eqB, decide_true, decide_false, List.length_map, Int.toNat_natCast, List.getElem?_map, Option.map_some, Option.map_none, Int.natCast_nonneg, Option.some.injEq, lenV, binV, intBin, intV, idxA, ne_eq, not_true_eq_false, not_false_eq_true, List.drop, List.take, RetP, retP, resV, resOne, snapV, snapVs, snapR, snapRs, ownSz, pickV, cond_true, cond_false, bTT, bTF, bFT, bFF, Bool.not_true, Bool.not_false, AO.isC, Bool.or_true, Bool.true_or, Bool.or_false, Bool.false_or, WpE_cons, WpE_nil, opE, evE_some, guardE_true, guardE_false, WpD_cons, WpD_nil, opD, evD_some, guardD_true, guardD_false, h4, b1', h1, h9, h10, h11, hlt, hget, loadC, n1, hk, hw]
      refine ih (i + 1) hd' hi' (by rw [← ho]; simp [loadOf, hk]) _ _ _ (by omega) ?_ ?_ ?_ ?_ ?_ ?_
      all_goals simp only [look_if, blkAt_if, Nat.reduceEqDiff, if_true, if_false, h4, b1, n1, h1, h9, h10]
theorem load_ok {T : Tab} (h : Std T 81 f81) (s : Snap) (id : Int) (hl : s.loads.length ≤ 2 ^ 30) : Gives T 81 [snapP s, .int .i64 id] (loadR (loadOf id s.loads)) := by
  refine gives h rfl ?_
  simp only [f81, Wp_seq, Wp_ops, Wp_cond, Wp_skip, Wp_ret, Wp_exit, Wp_block, WpO_cons, WpO_nil, opQ, evOp, evO, evOs, evQ_some, guardV, guardQ_true, guardQ_false, boolQ_true, boolQ_false, argsA, pvs, putS, cellsOf, scals, scal, seqQ_normal, seqQ_ret, seqQ_exit, blkQ_normal, blkQ_ret, blkQ_exit, look_if, blkAt_if, if_true, if_false, Nat.reduceEqDiff, Nat.reduceAdd, true_implies, reduceCtorEq, false_implies, and_true, true_and, List.nil_append, List.cons_append, Bool.and_self, Nat.zero_add, Nat.add_zero, fieldA, nonNil, cellsAt, loadV_one, loadV_pvs, loadV_cons, mkAgg, allPV, List.drop_zero, List.drop_succ_cons, List.take_succ_cons, List.take_zero, List.length_cons, List.length_nil, Nat.beq_eq, storeB, patchL, beq_self_eq_true, ge_iff_le, gt_iff_lt, Int.reduceNeg, Int.reduceLE, Int.reduceLT, Int.reduceEq, extractV, List.getElem?_cons_zero, List.getElem?_cons_succ, mkAgg, Nat.add_eq_left, Nat.left_eq_add, Nat.one_ne_zero, ble_dec, beq_dec, decide_eq_true_eq, Nat.reduceLeDiff, Nat.le_refl, fillA, pureVs, pureV, beq_int, bne_int, Int.natCast_inj, eq_self, eqV, eqB, decide_true, decide_false, List.length_map, Int.toNat_natCast, List.getElem?_map, Option.map_some, Option.map_none, Int.natCast_nonneg, Option.some.injEq, lenV, binV, intBin, intV, idxA, ne_eq, not_true_eq_false, not_false_eq_true, List.drop, List.take, RetP, retP, resV, resOne, snapV, snapVs, snapR, snapRs, ownSz, pickV, cond_true, cond_false, bTT, bTF, bFT, bFF, Bool.not_true, Bool.not_false, AO.isC, Bool.or_true, Bool.true_or, Bool.or_false, Bool.false_or, WpE_cons, WpE_nil, opE, evE_some, guardE_true, guardE_false, WpD_cons, WpD_nil, opD, evD_some, guardD_true, guardD_false, snapP]
  refine load_loop s.loads id hl _ (loadOf id s.loads) (fun ho fr hp nx h4 b1 => ?_) (fun n ho fr hp nx h4 h5 b1 => ?_) s.loads 0 rfl (Nat.zero_le _) rfl _ _ _ (Nat.le_refl _) rfl rfl rfl rfl rfl rfl
  · simp only [loadC, load0, pvs] at b1
    simp only [Wp_seq, Wp_ops, Wp_cond, Wp_skip, Wp_ret, Wp_exit, Wp_block, WpO_cons, WpO_nil, opQ, evOp, evO, evOs, evQ_some, guardV, guardQ_true, guardQ_false, boolQ_true, boolQ_false, argsA, pvs, putS, cellsOf, scals, scal, seqQ_normal, seqQ_ret, seqQ_exit, blkQ_normal, blkQ_ret, blkQ_exit, look_if, blkAt_if, if_true, if_false, Nat.reduceEqDiff, Nat.reduceAdd, true_implies, reduceCtorEq, false_implies, and_true, true_and, List.nil_append, List.cons_append, Bool.and_self, Nat.zero_add, Nat.add_zero, fieldA, nonNil, cellsAt, loadV_one, loadV_pvs, loadV_cons, mkAgg, allPV, List.drop_zero, List.drop_succ_cons, List.take_succ_cons, List.take_zero, List.length_cons, List.length_nil, Nat.beq_eq, storeB, patchL, beq_self_eq_true, ge_iff_le, gt_iff_lt, Int.reduceNeg, Int.reduceLE, Int.reduceLT, Int.reduceEq, extractV, List.getElem?_cons_zero, List.getElem?_cons_succ, mkAgg, Nat.add_eq_left, Nat.left_eq_add, Nat.one_ne_zero, ble_dec, beq_dec, decide_eq_true_eq, Nat.reduceLeDiff, Nat.le_refl, fillA, pureVs, pureV, beq_int, bne_int, Int.natCast_inj, eq_self, eqV, eqB, decide_true, decide_false, List.length_map, Int.toNat_natCast, List.getElem?_map, Option.map_some, Option.map_none, Int.natCast_nonneg, Option.some.injEq, lenV, binV, intBin, intV, idxA, ne_eq, not_true_eq_false, not_false_eq_true, List.drop, List.take, RetP, retP, resV, resOne, snapV, snapVs, snapR, snapRs, ownSz, pickV, cond_true, cond_false, bTT, bTF, bFT, bFF, Bool.not_true, Bool.not_false, AO.isC, Bool.or_true, Bool.true_or, Bool.or_false, Bool.false_or, WpE_cons, WpE_nil, opE, evE_some, guardE_true, guardE_false, WpD_cons, WpD_nil, opD, evD_some, guardD_true, guardD_false, ho, loadR, h4, b1, loadC, load0]
  · simp only [loadC, pvs] at b1
    simp only [Wp_seq, Wp_ops, Wp_cond, Wp_skip, Wp_ret, Wp_exit, Wp_block, WpO_cons, WpO_nil, opQ, evOp, evO, evOs, evQ_some, guardV, guardQ_true, guardQ_false, boolQ_true, boolQ_false, argsA, pvs, putS, cellsOf, scals, scal, seqQ_normal, seqQ_ret, seqQ_exit, blkQ_normal, blkQ_ret, blkQ_exit, look_if, blkAt_if, if_true, if_false, Nat.reduceEqDiff, Nat.reduceAdd, true_implies, reduceCtorEq, false_implies, and_true, true_and, List.nil_append, List.cons_append, Bool.and_self, Nat.zero_add, Nat.add_zero, fieldA, nonNil, cellsAt, loadV_one, loadV_pvs, loadV_cons, mkAgg, allPV, List.drop_zero, List.drop_succ_cons, List.take_succ_cons, List.take_zero, List.length_cons, List.length_nil, Nat.beq_eq, storeB, patchL, beq_self_eq_true, ge_iff_le, gt_iff_lt, Int.reduceNeg, Int.reduceLE, Int.reduceLT, Int.reduceEq, extractV, List.getElem?_cons_zero, List.getElem?_cons_succ, mkAgg, Nat.add_eq_left, Nat.left_eq_add, Nat.one_ne_zero, ble_dec, beq_dec, decide_eq_true_eq, Nat.reduceLeDiff, Nat.le_refl, fillA, pureVs, pureV, beq_int, bne_int, Int.natCast_inj, eq_self, eqV, eqB, decide_true, decide_false, List.length_map, Int.toNat_natCast, List.getElem?_map, Option.map_some, Option.map_none, Int.natCast_nonneg, Option.some.injEq, lenV, binV, intBin, intV, idxA, ne_eq, not_true_eq_false, not_false_eq_true, List.drop, List.take, RetP, retP, resV, resOne, snapV, snapVs, snapR, snapRs, ownSz, pickV, cond_true, cond_false, bTT, bTF, bFT, bFF, Bool.not_true, Bool.not_false, AO.isC, Bool.or_true, Bool.true_or, Bool.or_false, Bool.false_or, WpE_cons, WpE_nil, opE, evE_some, guardE_true, guardE_false, WpD_cons, WpD_nil, opD, evD_some, guardD_true, guardD_false, ho, loadR, h4, h5, b1, loadC]

/-- Two that may not be together. -/
def twoB (ls : List Load) (a b : Pod) : Bool := decide (a.load = b.load) && (decide (a.node = b.node) && (decide (a.node ≠ 0) && (match loadOf a.load ls with | some l => l.apart | none => false)))
theorem two_ok {T : Tab} (h69 : Std T 69 f69) (h81 : Std T 81 f81) (s : Snap) (hs : s.loads.length ≤ 2 ^ 30) (a b : Pod) : Gives T 69 [snapP s, .agg (podC a), .agg (podC b)] (.bool (twoB s.loads a b)) := by
  refine gives h69 rfl ?_
  have k := load_ok h81 s a.load hs
  unfold twoB
  cases hl : loadOf a.load s.loads with
  | none =>
    rw [hl] at k
    by_cases c1 : a.load = b.load
    · by_cases c2 : a.node = b.node
      · by_cases c3 : b.node = 0
        · simp only [f69, Wp_seq, Wp_ops, Wp_cond, Wp_skip, Wp_ret, Wp_exit, Wp_block, WpO_cons, WpO_nil, opQ, evOp, evO, evOs, evQ_some, guardV, guardQ_true, guardQ_false, boolQ_true, boolQ_false, argsA, pvs, putS, cellsOf, scals, scal, seqQ_normal, seqQ_ret, seqQ_exit, blkQ_normal, blkQ_ret, blkQ_exit, look_if, blkAt_if, if_true, if_false, Nat.reduceEqDiff, Nat.reduceAdd, true_implies, reduceCtorEq, false_implies, and_true, true_and, List.nil_append, List.cons_append, Bool.and_self, Nat.zero_add, Nat.add_zero, fieldA, nonNil, cellsAt, loadV_one, loadV_pvs, loadV_cons, mkAgg, allPV, List.drop_zero, List.drop_succ_cons, List.take_succ_cons, List.take_zero, List.length_cons, List.length_nil, Nat.beq_eq, storeB, patchL, beq_self_eq_true, ge_iff_le, gt_iff_lt, Int.reduceNeg, Int.reduceLE, Int.reduceLT, Int.reduceEq, extractV, List.getElem?_cons_zero, List.getElem?_cons_succ, mkAgg, Nat.add_eq_left, Nat.left_eq_add, Nat.one_ne_zero, ble_dec, beq_dec, decide_eq_true_eq, Nat.reduceLeDiff, Nat.le_refl, fillA, pureVs, pureV, beq_int, bne_int, Int.natCast_inj, eq_self, eqV, eqB, decide_true, decide_false, List.length_map, Int.toNat_natCast, List.getElem?_map, Option.map_some, Option.map_none, Int.natCast_nonneg, Option.some.injEq, lenV, binV, intBin, intV, idxA, ne_eq, not_true_eq_false, not_false_eq_true, List.drop, List.take, RetP, retP, resV, resOne, snapV, snapVs, snapR, snapRs, ownSz, pickV, cond_true, cond_false, bTT, bTF, bFT, bFF, Bool.not_true, Bool.not_false, AO.isC, Bool.or_true, Bool.true_or, Bool.or_false, Bool.false_or, WpE_cons, WpE_nil, opE, evE_some, guardE_true, guardE_false, WpD_cons, WpD_nil, opD, evD_some, guardD_true, guardD_false, snapP, podC, k.call, loadR, loadC, load0, c1, c2, c3, Bool.and_false, Bool.false_and, Bool.true_and, Bool.and_true]
        · simp only [f69, Wp_seq, Wp_ops, Wp_cond, Wp_skip, Wp_ret, Wp_exit, Wp_block, WpO_cons, WpO_nil, opQ, evOp, evO, evOs, evQ_some, guardV, guardQ_true, guardQ_false, boolQ_true, boolQ_false, argsA, pvs, putS, cellsOf, scals, scal, seqQ_normal, seqQ_ret, seqQ_exit, blkQ_normal, blkQ_ret, blkQ_exit, look_if, blkAt_if, if_true, if_false, Nat.reduceEqDiff, Nat.reduceAdd, true_implies, reduceCtorEq, false_implies, and_true, true_and, List.nil_append, List.cons_append, Bool.and_self, Nat.zero_add, Nat.add_zero, fieldA, nonNil, cellsAt, loadV_one, loadV_pvs, loadV_cons, mkAgg, allPV, List.drop_zero, List.drop_succ_cons, List.take_succ_cons, List.take_zero, List.length_cons, List.length_nil, Nat.beq_eq, storeB, patchL, beq_self_eq_true, ge_iff_le, gt_iff_lt, Int.reduceNeg, Int.reduceLE, Int.reduceLT, Int.reduceEq, extractV, List.getElem?_cons_zero, List.getElem?_cons_succ, mkAgg, Nat.add_eq_left, Nat.left_eq_add, Nat.one_ne_zero, ble_dec, beq_dec, decide_eq_true_eq, Nat.reduceLeDiff, Nat.le_refl, fillA, pureVs, pureV, beq_int, bne_int, Int.natCast_inj, eq_self, eqV, eqB, decide_true, decide_false, List.length_map, Int.toNat_natCast, List.getElem?_map, Option.map_some, Option.map_none, Int.natCast_nonneg, Option.some.injEq, lenV, binV, intBin, intV, idxA, ne_eq, not_true_eq_false, not_false_eq_true, List.drop, List.take, RetP, retP, resV, resOne, snapV, snapVs, snapR, snapRs, ownSz, pickV, cond_true, cond_false, bTT, bTF, bFT, bFF, Bool.not_true, Bool.not_false, AO.isC, Bool.or_true, Bool.true_or, Bool.or_false, Bool.false_or, WpE_cons, WpE_nil, opE, evE_some, guardE_true, guardE_false, WpD_cons, WpD_nil, opD, evD_some, guardD_true, guardD_false, snapP, podC, k.call, loadR, loadC, load0, c1, c2, c3, Bool.and_false, Bool.false_and, Bool.true_and, Bool.and_true]
      · simp only [f69, Wp_seq, Wp_ops, Wp_cond, Wp_skip, Wp_ret, Wp_exit, Wp_block, WpO_cons, WpO_nil, opQ, evOp, evO, evOs, evQ_some, guardV, guardQ_true, guardQ_false, boolQ_true, boolQ_false, argsA, pvs, putS, cellsOf, scals, scal, seqQ_normal, seqQ_ret, seqQ_exit, blkQ_normal, blkQ_ret, blkQ_exit, look_if, blkAt_if, if_true, if_false, Nat.reduceEqDiff, Nat.reduceAdd, true_implies, reduceCtorEq, false_implies, and_true, true_and, List.nil_append, List.cons_append, Bool.and_self, Nat.zero_add, Nat.add_zero, fieldA, nonNil, cellsAt, loadV_one, loadV_pvs, loadV_cons, mkAgg, allPV, List.drop_zero, List.drop_succ_cons, List.take_succ_cons, List.take_zero, List.length_cons, List.length_nil, Nat.beq_eq, storeB, patchL, beq_self_eq_true, ge_iff_le, gt_iff_lt, Int.reduceNeg, Int.reduceLE, Int.reduceLT, Int.reduceEq, extractV, List.getElem?_cons_zero, List.getElem?_cons_succ, mkAgg, Nat.add_eq_left, Nat.left_eq_add, Nat.one_ne_zero, ble_dec, beq_dec, decide_eq_true_eq, Nat.reduceLeDiff, Nat.le_refl, fillA, pureVs, pureV, beq_int, bne_int, Int.natCast_inj, eq_self, eqV, eqB, decide_true, decide_false, List.length_map, Int.toNat_natCast, List.getElem?_map, Option.map_some, Option.map_none, Int.natCast_nonneg, Option.some.injEq, lenV, binV, intBin, intV, idxA, ne_eq, not_true_eq_false, not_false_eq_true, List.drop, List.take, RetP, retP, resV, resOne, snapV, snapVs, snapR, snapRs, ownSz, pickV, cond_true, cond_false, bTT, bTF, bFT, bFF, Bool.not_true, Bool.not_false, AO.isC, Bool.or_true, Bool.true_or, Bool.or_false, Bool.false_or, WpE_cons, WpE_nil, opE, evE_some, guardE_true, guardE_false, WpD_cons, WpD_nil, opD, evD_some, guardD_true, guardD_false, snapP, podC, k.call, loadR, loadC, load0, c1, c2, Bool.and_false, Bool.false_and, Bool.true_and, Bool.and_true]
    · simp only [f69, Wp_seq, Wp_ops, Wp_cond, Wp_skip, Wp_ret, Wp_exit, Wp_block, WpO_cons, WpO_nil, opQ, evOp, evO, evOs, evQ_some, guardV, guardQ_true, guardQ_false, boolQ_true, boolQ_false, argsA, pvs, putS, cellsOf, scals, scal, seqQ_normal, seqQ_ret, seqQ_exit, blkQ_normal, blkQ_ret, blkQ_exit, look_if, blkAt_if, if_true, if_false, Nat.reduceEqDiff, Nat.reduceAdd, true_implies, reduceCtorEq, false_implies, and_true, true_and, List.nil_append, List.cons_append, Bool.and_self, Nat.zero_add, Nat.add_zero, fieldA, nonNil, cellsAt, loadV_one, loadV_pvs, loadV_cons, mkAgg, allPV, List.drop_zero, List.drop_succ_cons, List.take_succ_cons, List.take_zero, List.length_cons, List.length_nil, Nat.beq_eq, storeB, patchL, beq_self_eq_true, ge_iff_le, gt_iff_lt, Int.reduceNeg, Int.reduceLE, Int.reduceLT, Int.reduceEq, extractV, List.getElem?_cons_zero, List.getElem?_cons_succ, mkAgg, Nat.add_eq_left, Nat.left_eq_add, Nat.one_ne_zero, ble_dec, beq_dec, decide_eq_true_eq, Nat.reduceLeDiff, Nat.le_refl, fillA, pureVs, pureV, beq_int, bne_int, Int.natCast_inj, eq_self, eqV, eqB, decide_true, decide_false, List.length_map, Int.toNat_natCast, List.getElem?_map, Option.map_some, Option.map_none, Int.natCast_nonneg, Option.some.injEq, lenV, binV, intBin, intV, idxA, ne_eq, not_true_eq_false, not_false_eq_true, List.drop, List.take, RetP, retP, resV, resOne, snapV, snapVs, snapR, snapRs, ownSz, pickV, cond_true, cond_false, bTT, bTF, bFT, bFF, Bool.not_true, Bool.not_false, AO.isC, Bool.or_true, Bool.true_or, Bool.or_false, Bool.false_or, WpE_cons, WpE_nil, opE, evE_some, guardE_true, guardE_false, WpD_cons, WpD_nil, opD, evD_some, guardD_true, guardD_false, snapP, podC, k.call, loadR, loadC, load0, c1, Bool.and_false, Bool.false_and, Bool.true_and, Bool.and_true]
  | some l =>
    rw [hl] at k
    by_cases c1 : a.load = b.load
    · by_cases c2 : a.node = b.node
      · by_cases c3 : b.node = 0
        · simp only [f69, Wp_seq, Wp_ops, Wp_cond, Wp_skip, Wp_ret, Wp_exit, Wp_block, WpO_cons, WpO_nil, opQ, evOp, evO, evOs, evQ_some, guardV, guardQ_true, guardQ_false, boolQ_true, boolQ_false, argsA, pvs, putS, cellsOf, scals, scal, seqQ_normal, seqQ_ret, seqQ_exit, blkQ_normal, blkQ_ret, blkQ_exit, look_if, blkAt_if, if_true, if_false, Nat.reduceEqDiff, Nat.reduceAdd, true_implies, reduceCtorEq, false_implies, and_true, true_and, List.nil_append, List.cons_append, Bool.and_self, Nat.zero_add, Nat.add_zero, fieldA, nonNil, cellsAt, loadV_one, loadV_pvs, loadV_cons, mkAgg, allPV, List.drop_zero, List.drop_succ_cons, List.take_succ_cons, List.take_zero, List.length_cons, List.length_nil, Nat.beq_eq, storeB, patchL, beq_self_eq_true, ge_iff_le, gt_iff_lt, Int.reduceNeg, Int.reduceLE, Int.reduceLT, Int.reduceEq, extractV, List.getElem?_cons_zero, List.getElem?_cons_succ, mkAgg, Nat.add_eq_left, Nat.left_eq_add, Nat.one_ne_zero, ble_dec, beq_dec, decide_eq_true_eq, Nat.reduceLeDiff, Nat.le_refl, fillA, pureVs, pureV, beq_int, bne_int, Int.natCast_inj, eq_self, eqV, eqB, decide_true, decide_false, List.length_map, Int.toNat_natCast, List.getElem?_map, Option.map_some, Option.map_none, Int.natCast_nonneg, Option.some.injEq, lenV, binV, intBin, intV, idxA, ne_eq, not_true_eq_false, not_false_eq_true, List.drop, List.take, RetP, retP, resV, resOne, snapV, snapVs, snapR, snapRs, ownSz, pickV, cond_true, cond_false, bTT, bTF, bFT, bFF, Bool.not_true, Bool.not_false, AO.isC, Bool.or_true, Bool.true_or, Bool.or_false, Bool.false_or, WpE_cons, WpE_nil, opE, evE_some, guardE_true, guardE_false, WpD_cons, WpD_nil, opD, evD_some, guardD_true, guardD_false, snapP, podC, k.call, loadR, loadC, load0, c1, c2, c3, Bool.and_false, Bool.false_and, Bool.true_and, Bool.and_true]
        · cases c4 : l.apart
          · simp only [f69, Wp_seq, Wp_ops, Wp_cond, Wp_skip, Wp_ret, Wp_exit, Wp_block, WpO_cons, WpO_nil, opQ, evOp, evO, evOs, evQ_some, guardV, guardQ_true, guardQ_false, boolQ_true, boolQ_false, argsA, pvs, putS, cellsOf, scals, scal, seqQ_normal, seqQ_ret, seqQ_exit, blkQ_normal, blkQ_ret, blkQ_exit, look_if, blkAt_if, if_true, if_false, Nat.reduceEqDiff, Nat.reduceAdd, true_implies, reduceCtorEq, false_implies, and_true, true_and, List.nil_append, List.cons_append, Bool.and_self, Nat.zero_add, Nat.add_zero, fieldA, nonNil, cellsAt, loadV_one, loadV_pvs, loadV_cons, mkAgg, allPV, List.drop_zero, List.drop_succ_cons, List.take_succ_cons, List.take_zero, List.length_cons, List.length_nil, Nat.beq_eq, storeB, patchL, beq_self_eq_true, ge_iff_le, gt_iff_lt, Int.reduceNeg, Int.reduceLE, Int.reduceLT, Int.reduceEq, extractV, List.getElem?_cons_zero, List.getElem?_cons_succ, mkAgg, Nat.add_eq_left, Nat.left_eq_add, Nat.one_ne_zero, ble_dec, beq_dec, decide_eq_true_eq, Nat.reduceLeDiff, Nat.le_refl, fillA, pureVs, pureV, beq_int, bne_int, Int.natCast_inj, eq_self, eqV, eqB, decide_true, decide_false, List.length_map, Int.toNat_natCast, List.getElem?_map, Option.map_some, Option.map_none, Int.natCast_nonneg, Option.some.injEq, lenV, binV, intBin, intV, idxA, ne_eq, not_true_eq_false, not_false_eq_true, List.drop, List.take, RetP, retP, resV, resOne, snapV, snapVs, snapR, snapRs, ownSz, pickV, cond_true, cond_false, bTT, bTF, bFT, bFF, Bool.not_true, Bool.not_false, AO.isC, Bool.or_true, Bool.true_or, Bool.or_false, Bool.false_or, WpE_cons, WpE_nil, opE, evE_some, guardE_true, guardE_false, WpD_cons, WpD_nil, opD, evD_some, guardD_true, guardD_false, snapP, podC, k.call, loadR, loadC, load0, c1, c2, c3, c4, Bool.and_false, Bool.false_and, Bool.true_and, Bool.and_true]
          · simp only [f69, Wp_seq, Wp_ops, Wp_cond, Wp_skip, Wp_ret, Wp_exit, Wp_block, WpO_cons, WpO_nil, opQ, evOp, evO, evOs, evQ_some, guardV, guardQ_true, guardQ_false, boolQ_true, boolQ_false, argsA, pvs, putS, cellsOf, scals, scal, seqQ_normal, seqQ_ret, seqQ_exit, blkQ_normal, blkQ_ret, blkQ_exit, look_if, blkAt_if, if_true, if_false, Nat.reduceEqDiff, Nat.reduceAdd, true_implies, reduceCtorEq, false_implies, and_true, true_and, List.nil_append, List.cons_append, Bool.and_self, Nat.zero_add, Nat.add_zero, fieldA, nonNil, cellsAt, loadV_one, loadV_pvs, loadV_cons, mkAgg, allPV, List.drop_zero, List.drop_succ_cons, List.take_succ_cons, List.take_zero, List.length_cons, List.length_nil, Nat.beq_eq, storeB, patchL, beq_self_eq_true, ge_iff_le, gt_iff_lt, Int.reduceNeg, Int.reduceLE, Int.reduceLT, Int.reduceEq, extractV, List.getElem?_cons_zero, List.getElem?_cons_succ, mkAgg, Nat.add_eq_left, Nat.left_eq_add, Nat.one_ne_zero, ble_dec, beq_dec, decide_eq_true_eq, Nat.reduceLeDiff, Nat.le_refl, fillA, pureVs, pureV, beq_int, bne_int, Int.natCast_inj, eq_self, eqV, eqB, decide_true, decide_false, List.length_map, Int.toNat_natCast, List.getElem?_map, Option.map_some, Option.map_none, Int.natCast_nonneg, Option.some.injEq, lenV, binV, intBin, intV, idxA, ne_eq, not_true_eq_false, not_false_eq_true, List.drop, List.take, RetP, retP, resV, resOne, snapV, snapVs, snapR, snapRs, ownSz, pickV, cond_true, cond_false, bTT, bTF, bFT, bFF, Bool.not_true, Bool.not_false, AO.isC, Bool.or_true, Bool.true_or, Bool.or_false, Bool.false_or, WpE_cons, WpE_nil, opE, evE_some, guardE_true, guardE_false, WpD_cons, WpD_nil, opD, evD_some, guardD_true, guardD_false, snapP, podC, k.call, loadR, loadC, load0, c1, c2, c3, c4, Bool.and_false, Bool.false_and, Bool.true_and, Bool.and_true]
      · simp only [f69, Wp_seq, Wp_ops, Wp_cond, Wp_skip, Wp_ret, Wp_exit, Wp_block, WpO_cons, WpO_nil, opQ, evOp, evO, evOs, evQ_some, guardV, guardQ_true, guardQ_false, boolQ_true, boolQ_false, argsA, pvs, putS, cellsOf, scals, scal, seqQ_normal, seqQ_ret, seqQ_exit, blkQ_normal, blkQ_ret, blkQ_exit, look_if, blkAt_if, if_true, if_false, Nat.reduceEqDiff, Nat.reduceAdd, true_implies, reduceCtorEq, false_implies, and_true, true_and, List.nil_append, List.cons_append, Bool.and_self, Nat.zero_add, Nat.add_zero, fieldA, nonNil, cellsAt, loadV_one, loadV_pvs, loadV_cons, mkAgg, allPV, List.drop_zero, List.drop_succ_cons, List.take_succ_cons, List.take_zero, List.length_cons, List.length_nil, Nat.beq_eq, storeB, patchL, beq_self_eq_true, ge_iff_le, gt_iff_lt, Int.reduceNeg, Int.reduceLE, Int.reduceLT, Int.reduceEq, extractV, List.getElem?_cons_zero, List.getElem?_cons_succ, mkAgg, Nat.add_eq_left, Nat.left_eq_add, Nat.one_ne_zero, ble_dec, beq_dec, decide_eq_true_eq, Nat.reduceLeDiff, Nat.le_refl, fillA, pureVs, pureV, beq_int, bne_int, Int.natCast_inj, eq_self, eqV, eqB, decide_true, decide_false, List.length_map, Int.toNat_natCast, List.getElem?_map, Option.map_some, Option.map_none, Int.natCast_nonneg, Option.some.injEq, lenV, binV, intBin, intV, idxA, ne_eq, not_true_eq_false, not_false_eq_true, List.drop, List.take, RetP, retP, resV, resOne, snapV, snapVs, snapR, snapRs, ownSz, pickV, cond_true, cond_false, bTT, bTF, bFT, bFF, Bool.not_true, Bool.not_false, AO.isC, Bool.or_true, Bool.true_or, Bool.or_false, Bool.false_or, WpE_cons, WpE_nil, opE, evE_some, guardE_true, guardE_false, WpD_cons, WpD_nil, opD, evD_some, guardD_true, guardD_false, snapP, podC, k.call, loadR, loadC, load0, c1, c2, Bool.and_false, Bool.false_and, Bool.true_and, Bool.and_true]
    · simp only [f69, Wp_seq, Wp_ops, Wp_cond, Wp_skip, Wp_ret, Wp_exit, Wp_block, WpO_cons, WpO_nil, opQ, evOp, evO, evOs, evQ_some, guardV, guardQ_true, guardQ_false, boolQ_true, boolQ_false, argsA, pvs, putS, cellsOf, scals, scal, seqQ_normal, seqQ_ret, seqQ_exit, blkQ_normal, blkQ_ret, blkQ_exit, look_if, blkAt_if, if_true, if_false, Nat.reduceEqDiff, Nat.reduceAdd, true_implies, reduceCtorEq, false_implies, and_true, true_and, List.nil_append, List.cons_append, Bool.and_self, Nat.zero_add, Nat.add_zero, fieldA, nonNil, cellsAt, loadV_one, loadV_pvs, loadV_cons, mkAgg, allPV, List.drop_zero, List.drop_succ_cons, List.take_succ_cons, List.take_zero, List.length_cons, List.length_nil, Nat.beq_eq, storeB, patchL, beq_self_eq_true, ge_iff_le, gt_iff_lt, Int.reduceNeg, Int.reduceLE, Int.reduceLT, Int.reduceEq, extractV, List.getElem?_cons_zero, List.getElem?_cons_succ, mkAgg, Nat.add_eq_left, Nat.left_eq_add, Nat.one_ne_zero, ble_dec, beq_dec, decide_eq_true_eq, Nat.reduceLeDiff, Nat.le_refl, fillA, pureVs, pureV, beq_int, bne_int, Int.natCast_inj, eq_self, eqV, eqB, decide_true, decide_false, List.length_map, Int.toNat_natCast, List.getElem?_map, Option.map_some, Option.map_none, Int.natCast_nonneg, Option.some.injEq, lenV, binV, intBin, intV, idxA, ne_eq, not_true_eq_false, not_false_eq_true, List.drop, List.take, RetP, retP, resV, resOne, snapV, snapVs, snapR, snapRs, ownSz, pickV, cond_true, cond_false, bTT, bTF, bFT, bFF, Bool.not_true, Bool.not_false, AO.isC, Bool.or_true, Bool.true_or, Bool.or_false, Bool.false_or, WpE_cons, WpE_nil, opE, evE_some, guardE_true, guardE_false, WpD_cons, WpD_nil, opD, evD_some, guardD_true, guardD_false, snapP, podC, k.call, loadR, loadC, load0, c1, Bool.and_false, Bool.false_and, Bool.true_and, Bool.and_true]

/-- The first one, from here on, that clashes with one ahead of it. -/
def apartFrom (ls : List Load) : List Pod → List Pod → Option (Int × Int)
  | _, [] => none
  | prev, p :: r => if prev.any (fun q => twoB ls p q) = true then some (10, prev.length) else apartFrom ls (prev ++ [p]) r

theorem apart_in {T : Tab} (h69 : Std T 69 f69) (h81 : Std T 81 f81) (s : Snap) (t : State) (hs : s.loads.length ≤ 2 ^ 30) (qs : List Pod) (hq : qs.length ≤ 2 ^ 30) (p : Pod) (i : Nat) (idp : Nat) (hidp : 2 ≤ idp) (Q : Exit → St → Prop) (b : Bool)
    (hend : b = false → ∀ fr hp nx, 2 ≤ nx → look fr 2 = .ptr 0 0 0 → look fr 3 = .ptr 1 0 0 → look fr 10 = .pv (.slice (t.pods.map podC)) → look fr 11 = .pv (.int .i64 t.pods.length) → look fr 12 = .pv (.int .i64 i) →
      blkAt hp 0 = .var [.pv (.slice (s.nodes.map nodeC)), .pv (.slice (s.loads.map loadC)), .pv (.slice (s.pods.map podC))] → blkAt hp 1 = .var [.pv (.slice (t.pods.map podC)), .pv (.int .i64 t.pre), .pv (.int .i64 t.shi)] → Q (.exit 2) ⟨fr, hp, nx⟩)
    (hret : b = true → ∀ fr hp nx id, look fr 4 = .iface 1 (.ptr id 0 0) → blkAt hp id = .var [.pv (.int .i64 i), .pv (.int .i64 10)] → Q .ret ⟨fr, hp, nx⟩) :
    ∀ (rest : List Pod) (k : Nat), qs.drop k = rest → k ≤ qs.length → rest.any (fun q => twoB s.loads p q) = b → ∀ (fr : List (Nat × AV)) (hp : Hl) (nx : Nat), idp < nx →
      look fr 2 = .ptr 0 0 0 → look fr 3 = .ptr 1 0 0 → look fr 10 = .pv (.slice (t.pods.map podC)) → look fr 11 = .pv (.int .i64 t.pods.length) → look fr 12 = .pv (.int .i64 i) →
      blkAt hp 0 = .var [.pv (.slice (s.nodes.map nodeC)), .pv (.slice (s.loads.map loadC)), .pv (.slice (s.pods.map podC))] → blkAt hp 1 = .var [.pv (.slice (t.pods.map podC)), .pv (.int .i64 t.pre), .pv (.int .i64 t.shi)] →
      look fr 5 = .pv (.int .i64 i) → look fr 6 = .ptr idp 0 0 → blkAt hp idp = .var (pvs (podC p)) → look fr 20 = .pv (.slice (qs.map podC)) → look fr 21 = .pv (.int .i64 qs.length) → look fr 22 = .pv (.int .i64 k) →
      Wp T false (.loop f68l0) ⟨fr, hp, nx⟩ Q := by
  intro rest
  induction rest with
  | nil =>
    intro k hd hi hb fr hp nx hn h2 h3 h10 h11 h12 b0 b1 h5 h6 bp h20 h21 h22
    have hlen := drop_nil hd hi
    rw [Wp_loop, Wp_eq f68l0.eq_1]
    simp only [Wp_seq, Wp_ops, Wp_cond, Wp_skip, Wp_ret, Wp_exit, Wp_block, WpO_cons, WpO_nil, opQ, evOp, evO, evOs, evQ_some, guardV, guardQ_true, guardQ_false, boolQ_true, boolQ_false, argsA, pvs, putS, cellsOf, scals, scal, seqQ_normal, seqQ_ret, seqQ_exit, blkQ_normal, blkQ_ret, blkQ_exit, look_if, blkAt_if, if_true, if_false, Nat.reduceEqDiff, Nat.reduceAdd, true_implies, reduceCtorEq, false_implies, and_true, true_and, List.nil_append, List.cons_append, Bool.and_self, Nat.zero_add, Nat.add_zero, fieldA, nonNil, cellsAt, loadV_one, loadV_pvs, loadV_cons, mkAgg, allPV, List.drop_zero, List.drop_succ_cons, List.take_succ_cons, List.take_zero, List.length_cons, List.length_nil, Nat.beq_eq, storeB, patchL, beq_self_eq_true, ge_iff_le, gt_iff_lt, Int.reduceNeg, Int.reduceLE, Int.reduceLT, Int.reduceEq, extractV, List.getElem?_cons_zero, List.getElem?_cons_succ, mkAgg, Nat.add_eq_left, Nat.left_eq_add, Nat.one_ne_zero, ble_dec, beq_dec, decide_eq_true_eq, Nat.reduceLeDiff, Nat.le_refl, fillA, pureVs, pureV, beq_int, bne_int, Int.natCast_inj, eq_self, eqV, eqB, decide_true, decide_false, List.length_map, Int.toNat_natCast, List.getElem?_map, Option.map_some, Option.map_none, Int.natCast_nonneg, Option.some.injEq, lenV, binV, intBin, intV, idxA, ne_eq, not_true_eq_false, not_false_eq_true, List.drop, List.take, RetP, retP, resV, resOne, snapV, snapVs, snapR, snapRs, ownSz, pickV, cond_true, cond_false, bTT, bTF, bFT, bFF, Bool.not_true, Bool.not_false, AO.isC, Bool.or_true, Bool.true_or, Bool.or_false, Bool.false_or, WpE_cons, WpE_nil, opE, evE_some, guardE_true, guardE_false, WpD_cons, WpD_nil, opD, evD_some, guardD_true, guardD_false, h20, h21, h22, hlen, Int.lt_irrefl]
    refine hend (by rw [← hb]; rfl) _ _ _ (by omega) ?_ ?_ ?_ ?_ ?_ b0 b1
    all_goals simp only [look_if, Nat.reduceEqDiff, if_false, h2, h3, h10, h11, h12]
  | cons q r ih =>
    intro k hd hi hb fr hp nx hn h2 h3 h10 h11 h12 b0 b1 h5 h6 bp h20 h21 h22
    obtain ⟨hget, hlt, hw, hd', hi', hbb⟩ := drop_cons hd hq
    have n0 : ¬ nx = 0 := by omega
    have n1 : ¬ nx = 1 := by omega
    have np : ¬ nx = idp := by omega
    have kt := two_ok h69 h81 s hs p q
    have bp' := bp
    simp only [podC, pvs] at bp'
    simp only [podC] at kt
    rw [Wp_loop, Wp_eq f68l0.eq_1]
    cases ht : twoB s.loads p q
    · rw [ht] at kt
      simp only [Wp_seq, Wp_ops, Wp_cond, Wp_skip, Wp_ret, Wp_exit, Wp_block, WpO_cons, WpO_nil, opQ, evOp, evO, evOs, evQ_some, guardV, guardQ_true, guardQ_false, boolQ_true, boolQ_false, argsA, pvs, putS, cellsOf, scals, scal, seqQ_normal, seqQ_ret, seqQ_exit, blkQ_normal, blkQ_ret, blkQ_exit, look_if, blkAt_if, if_true, if_false, Nat.reduceEqDiff, Nat.reduceAdd, true_implies, reduceCtorEq, false_implies, and_true, true_and, List.nil_append, List.cons_append, Bool.and_self, Nat.zero_add, Nat.add_zero, fieldA, nonNil, cellsAt, loadV_one, loadV_pvs, loadV_cons, mkAgg, allPV, List.drop_zero, List.drop_succ_cons, List.take_succ_cons, List.take_zero, List.length_cons, List.length_nil, Nat.beq_eq, storeB, patchL, beq_self_eq_true, ge_iff_le, gt_iff_lt, Int.reduceNeg, Int.reduceLE, Int.reduceLT, Int.reduceEq, extractV, List.getElem?_cons_zero, List.getElem?_cons_succ, mkAgg, Nat.add_eq_left, Nat.left_eq_add, Nat.one_ne_zero, ble_dec, beq_dec, decide_eq_true_eq, Nat.reduceLeDiff, Nat.le_refl, fillA, pureVs, pureV, beq_int, bne_int, Int.natCast_inj, eq_self, eqV, eqB, decide_true, decide_false, List.length_map, Int.toNat_natCast, List.getElem?_map, Option.map_some, Option.map_none, Int.natCast_nonneg, Option.some.injEq, lenV, binV, intBin, intV, idxA, ne_eq, not_true_eq_false, not_false_eq_true, List.drop, List.take, RetP, retP, resV, resOne, snapV, snapVs, snapR, snapRs, ownSz, pickV, cond_true, cond_false, bTT, bTF, bFT, bFF, Bool.not_true, Bool.not_false, AO.isC, Bool.or_true, Bool.true_or, Bool.or_false, Bool.false_or, WpE_cons, WpE_nil, opE, evE_some, guardE_true, guardE_false, WpD_cons, WpD_nil, opD, evD_some, guardD_true, guardD_false, h2, b0, h6, bp', h20, h21, h22, hlt, hget, podC, n0, n1, np, kt.call, snapP, hw]
      refine ih (k + 1) hd' hi' (by rw [← hb]; simp [ht]) _ _ _ (by omega) ?_ ?_ ?_ ?_ ?_ ?_ ?_ ?_ ?_ ?_ ?_ ?_ ?_
      all_goals simp only [look_if, blkAt_if, Nat.reduceEqDiff, if_true, if_false, h2, h3, h10, h11, h12, b0, b1, h5, h6, bp, h20, h21, n0, n1, np]
    · rw [ht] at kt
      simp only [Wp_seq, Wp_ops, Wp_cond, Wp_skip, Wp_ret, Wp_exit, Wp_block, WpO_cons, WpO_nil, opQ, evOp, evO, evOs, evQ_some, guardV, guardQ_true, guardQ_false, boolQ_true, boolQ_false, argsA, pvs, putS, cellsOf, scals, scal, seqQ_normal, seqQ_ret, seqQ_exit, blkQ_normal, blkQ_ret, blkQ_exit, look_if, blkAt_if, if_true, if_false, Nat.reduceEqDiff, Nat.reduceAdd, true_implies, reduceCtorEq, false_implies, and_true, true_and, List.nil_append, List.cons_append, Bool.and_self, Nat.zero_add, Nat.add_zero, fieldA, nonNil, cellsAt, loadV_one, loadV_pvs, loadV_cons, mkAgg, allPV, List.drop_zero, List.drop_succ_cons, List.take_succ_cons, List.take_zero, List.length_cons, List.length_nil, Nat.beq_eq, storeB, patchL, beq_self_eq_true, ge_iff_le, gt_iff_lt, Int.reduceNeg, Int.reduceLE, Int.reduceLT, Int.reduceEq, extractV, List.getElem?_cons_zero, List.getElem?_cons_succ, mkAgg, Nat.add_eq_left, Nat.left_eq_add, Nat.one_ne_zero, ble_dec, beq_dec, decide_eq_true_eq, Nat.reduceLeDiff, Nat.le_refl, fillA, pureVs, pureV, beq_int, bne_int, Int.natCast_inj, eq_self, eqV, eqB, decide_true, decide_false, List.length_map, Int.toNat_natCast, List.getElem?_map, Option.map_some, Option.map_none, Int.natCast_nonneg, Option.some.injEq, lenV, binV, intBin, intV, idxA, ne_eq, not_true_eq_false, not_false_eq_true, List.drop, List.take, RetP, retP, resV, resOne, snapV, snapVs, snapR, snapRs, ownSz, pickV, cond_true, cond_false, bTT, bTF, bFT, bFF, Bool.not_true, Bool.not_false, AO.isC, Bool.or_true, Bool.true_or, Bool.or_false, Bool.false_or, WpE_cons, WpE_nil, opE, evE_some, guardE_true, guardE_false, WpD_cons, WpD_nil, opD, evD_some, guardD_true, guardD_false, h2, b0, h5, h6, bp', h20, h21, h22, hlt, hget, podC, n0, n1, np, kt.call, snapP]
      refine hret (by rw [← hb]; simp [ht]) _ _ _ (nx + 1) ?_ ?_
      · simp only [look_if, Nat.reduceEqDiff, if_true, if_false]
      · simp only [blkAt_if, if_true]
theorem apart_out {T : Tab} (h69 : Std T 69 f69) (h81 : Std T 81 f81) (s : Snap) (t : State) (hs : s.loads.length ≤ 2 ^ 30) (ht : t.pods.length ≤ 2 ^ 30) (Q : Exit → St → Prop) (o : Option (Int × Int))
    (hend : o = none → ∀ fr hp nx, Q (.exit 0) ⟨fr, hp, nx⟩)
    (hret : ∀ c i, o = some (c, i) → ∀ fr hp nx id, look fr 4 = .iface 1 (.ptr id 0 0) → blkAt hp id = .var [.pv (.int .i64 i), .pv (.int .i64 c)] → Q .ret ⟨fr, hp, nx⟩) :
    ∀ (rest : List Pod) (i : Nat), t.pods.drop i = rest → i ≤ t.pods.length → apartFrom s.loads (t.pods.take i) rest = o → ∀ (fr : List (Nat × AV)) (hp : Hl) (nx : Nat), 2 ≤ nx →
      look fr 2 = .ptr 0 0 0 → look fr 3 = .ptr 1 0 0 → look fr 10 = .pv (.slice (t.pods.map podC)) → look fr 11 = .pv (.int .i64 t.pods.length) → look fr 12 = .pv (.int .i64 i) →
      blkAt hp 0 = .var [.pv (.slice (s.nodes.map nodeC)), .pv (.slice (s.loads.map loadC)), .pv (.slice (s.pods.map podC))] → blkAt hp 1 = .var [.pv (.slice (t.pods.map podC)), .pv (.int .i64 t.pre), .pv (.int .i64 t.shi)] →
      Wp T false (.loop f68l1) ⟨fr, hp, nx⟩ Q := by
  intro rest
  induction rest with
  | nil =>
    intro i hd hi ho fr hp nx hn h2 h3 h10 h11 h12 b0 b1
    have hlen := drop_nil hd hi
    rw [Wp_loop, Wp_eq f68l1.eq_1]
    simp only [Wp_seq, Wp_ops, Wp_cond, Wp_skip, Wp_ret, Wp_exit, Wp_block, WpO_cons, WpO_nil, opQ, evOp, evO, evOs, evQ_some, guardV, guardQ_true, guardQ_false, boolQ_true, boolQ_false, argsA, pvs, putS, cellsOf, scals, scal, seqQ_normal, seqQ_ret, seqQ_exit, blkQ_normal, blkQ_ret, blkQ_exit, look_if, blkAt_if, if_true, if_false, Nat.reduceEqDiff, Nat.reduceAdd, true_implies, reduceCtorEq, false_implies, and_true, true_and, List.nil_append, List.cons_append, Bool.and_self, Nat.zero_add, Nat.add_zero, fieldA, nonNil, cellsAt, loadV_one, loadV_pvs, loadV_cons, mkAgg, allPV, List.drop_zero, List.drop_succ_cons, List.take_succ_cons, List.take_zero, List.length_cons, List.length_nil, Nat.beq_eq, storeB, patchL, beq_self_eq_true, ge_iff_le, gt_iff_lt, Int.reduceNeg, Int.reduceLE, Int.reduceLT, Int.reduceEq, extractV, List.getElem?_cons_zero, List.getElem?_cons_succ, mkAgg, Nat.add_eq_left, Nat.left_eq_add, Nat.one_ne_zero, ble_dec, beq_dec, decide_eq_true_eq, Nat.reduceLeDiff, Nat.le_refl, fillA, pureVs, pureV, beq_int, bne_int, Int.natCast_inj, eq_self, eqV, eqB, decide_true, decide_false, List.length_map, Int.toNat_natCast, List.getElem?_map, Option.map_some, Option.map_none, Int.natCast_nonneg, Option.some.injEq, lenV, binV, intBin, intV, idxA, ne_eq, not_true_eq_false, not_false_eq_true, List.drop, List.take, RetP, retP, resV, resOne, snapV, snapVs, snapR, snapRs, ownSz, pickV, cond_true, cond_false, bTT, bTF, bFT, bFF, Bool.not_true, Bool.not_false, AO.isC, Bool.or_true, Bool.true_or, Bool.or_false, Bool.false_or, WpE_cons, WpE_nil, opE, evE_some, guardE_true, guardE_false, WpD_cons, WpD_nil, opD, evD_some, guardD_true, guardD_false, h10, h11, h12, hlen, Int.lt_irrefl]
    exact hend ho.symm _ _ _
  | cons p r ih =>
    intro i hd hi ho fr hp nx hn h2 h3 h10 h11 h12 b0 b1
    obtain ⟨hget, hlt, hw, hd', hi', hbb⟩ := drop_cons hd ht
    have n0 : ¬ nx = 0 := by omega
    have n1 : ¬ nx = 1 := by omega
    have hlt' : i ≤ t.pods.length := by omega
    have htk : (t.pods.take i).length = i := List.length_take_of_le hlt'
    simp only [apartFrom, htk] at ho
    rw [Wp_loop, Wp_eq f68l1.eq_1]
    simp only [Wp_seq, Wp_ops, Wp_cond, Wp_skip, Wp_ret, Wp_exit, Wp_block, WpO_cons, WpO_nil, opQ, evOp, evO, evOs, evQ_some, guardV, guardQ_true, guardQ_false, boolQ_true, boolQ_false, argsA, pvs, putS, cellsOf, scals, scal, seqQ_normal, seqQ_ret, seqQ_exit, blkQ_normal, blkQ_ret, blkQ_exit, look_if, blkAt_if, if_true, if_false, Nat.reduceEqDiff, Nat.reduceAdd, true_implies, reduceCtorEq, false_implies, and_true, true_and, List.nil_append, List.cons_append, Bool.and_self, Nat.zero_add, Nat.add_zero, fieldA, nonNil, cellsAt, loadV_one, loadV_pvs, loadV_cons, mkAgg, allPV, List.drop_zero, List.drop_succ_cons, List.take_succ_cons, List.take_zero, List.length_cons, List.length_nil, Nat.beq_eq, storeB, patchL, beq_self_eq_true, ge_iff_le, gt_iff_lt, Int.reduceNeg, Int.reduceLE, Int.reduceLT, Int.reduceEq, extractV, List.getElem?_cons_zero, List.getElem?_cons_succ, mkAgg, Nat.add_eq_left, Nat.left_eq_add, Nat.one_ne_zero, ble_dec, beq_dec, decide_eq_true_eq, Nat.reduceLeDiff, Nat.le_refl, fillA, pureVs, pureV, beq_int, bne_int, Int.natCast_inj, eq_self, eqV, eqB, decide_true, decide_false, List.length_map, Int.toNat_natCast, List.getElem?_map, Option.map_some, Option.map_none, Int.natCast_nonneg, Option.some.injEq, lenV, binV, intBin, intV, idxA, ne_eq, not_true_eq_false, not_false_eq_true, List.drop, List.take, RetP, retP, resV, resOne, snapV, snapVs, snapR, snapRs, ownSz, pickV, cond_true, cond_false, bTT, bTF, bFT, bFF, Bool.not_true, Bool.not_false, AO.isC, Bool.or_true, Bool.true_or, Bool.or_false, Bool.false_or, WpE_cons, WpE_nil, opE, evE_some, guardE_true, guardE_false, WpD_cons, WpD_nil, opD, evD_some, guardD_true, guardD_false, h3, b1, h10, h11, h12, hlt, hget, podC, n0, n1, subV, bndO, Option.getD_some, Option.getD_none, allLen_pods, Nat.zero_le, hlt']
    simp only [Nat.sub_zero, ← List.map_take, List.length_map, htk]
    refine apart_in h69 h81 s t hs (t.pods.take i) (by omega) p i nx hn _ ((t.pods.take i).any (fun q => twoB s.loads p q)) ?_ ?_ (t.pods.take i) 0 rfl (Nat.zero_le _) rfl _ _ _ (Nat.lt_succ_self _) ?_ ?_ ?_ ?_ ?_ ?_ ?_ ?_ ?_ ?_ ?_ ?_ ?_
    · intro hb fr' hp' nx' g0 g2 g3 g10 g11 g12 gb0 gb1
      simp only [Wp_seq, Wp_ops, Wp_cond, Wp_skip, Wp_ret, Wp_exit, Wp_block, WpO_cons, WpO_nil, opQ, evOp, evO, evOs, evQ_some, guardV, guardQ_true, guardQ_false, boolQ_true, boolQ_false, argsA, pvs, putS, cellsOf, scals, scal, seqQ_normal, seqQ_ret, seqQ_exit, blkQ_normal, blkQ_ret, blkQ_exit, look_if, blkAt_if, if_true, if_false, Nat.reduceEqDiff, Nat.reduceAdd, true_implies, reduceCtorEq, false_implies, and_true, true_and, List.nil_append, List.cons_append, Bool.and_self, Nat.zero_add, Nat.add_zero, fieldA, nonNil, cellsAt, loadV_one, loadV_pvs, loadV_cons, mkAgg, allPV, List.drop_zero, List.drop_succ_cons, List.take_succ_cons, List.take_zero, List.length_cons, List.length_nil, Nat.beq_eq, storeB, patchL, beq_self_eq_true, ge_iff_le, gt_iff_lt, Int.reduceNeg, Int.reduceLE, Int.reduceLT, Int.reduceEq, extractV, List.getElem?_cons_zero, List.getElem?_cons_succ, mkAgg, Nat.add_eq_left, Nat.left_eq_add, Nat.one_ne_zero, ble_dec, beq_dec, decide_eq_true_eq, Nat.reduceLeDiff, Nat.le_refl, fillA, pureVs, pureV, beq_int, bne_int, Int.natCast_inj, eq_self, eqV, eqB, decide_true, decide_false, List.length_map, Int.toNat_natCast, List.getElem?_map, Option.map_some, Option.map_none, Int.natCast_nonneg, Option.some.injEq, lenV, binV, intBin, intV, idxA, ne_eq, not_true_eq_false, not_false_eq_true, List.drop, List.take, RetP, retP, resV, resOne, snapV, snapVs, snapR, snapRs, ownSz, pickV, cond_true, cond_false, bTT, bTF, bFT, bFF, Bool.not_true, Bool.not_false, AO.isC, Bool.or_true, Bool.true_or, Bool.or_false, Bool.false_or, WpE_cons, WpE_nil, opE, evE_some, guardE_true, guardE_false, WpD_cons, WpD_nil, opD, evD_some, guardD_true, guardD_false, g12, hw]
      rw [if_neg (by rw [hb]; simp)] at ho
      refine ih (i + 1) hd' hi' ?_ _ _ _ g0 ?_ ?_ ?_ ?_ ?_ gb0 gb1
      · rw [← ho, List.take_add_one, hget]; rfl
      all_goals simp only [look_if, Nat.reduceEqDiff, if_true, if_false, g2, g3, g10, g11, g12]
    · intro hb fr' hp' nx' id g4 gb
      rw [if_pos hb] at ho
      simp only [Wp_seq, Wp_ops, Wp_cond, Wp_skip, Wp_ret, Wp_exit, Wp_block, WpO_cons, WpO_nil, opQ, evOp, evO, evOs, evQ_some, guardV, guardQ_true, guardQ_false, boolQ_true, boolQ_false, argsA, pvs, putS, cellsOf, scals, scal, seqQ_normal, seqQ_ret, seqQ_exit, blkQ_normal, blkQ_ret, blkQ_exit, look_if, blkAt_if, if_true, if_false, Nat.reduceEqDiff, Nat.reduceAdd, true_implies, reduceCtorEq, false_implies, and_true, true_and, List.nil_append, List.cons_append, Bool.and_self, Nat.zero_add, Nat.add_zero, fieldA, nonNil, cellsAt, loadV_one, loadV_pvs, loadV_cons, mkAgg, allPV, List.drop_zero, List.drop_succ_cons, List.take_succ_cons, List.take_zero, List.length_cons, List.length_nil, Nat.beq_eq, storeB, patchL, beq_self_eq_true, ge_iff_le, gt_iff_lt, Int.reduceNeg, Int.reduceLE, Int.reduceLT, Int.reduceEq, extractV, List.getElem?_cons_zero, List.getElem?_cons_succ, mkAgg, Nat.add_eq_left, Nat.left_eq_add, Nat.one_ne_zero, ble_dec, beq_dec, decide_eq_true_eq, Nat.reduceLeDiff, Nat.le_refl, fillA, pureVs, pureV, beq_int, bne_int, Int.natCast_inj, eq_self, eqV, eqB, decide_true, decide_false, List.length_map, Int.toNat_natCast, List.getElem?_map, Option.map_some, Option.map_none, Int.natCast_nonneg, Option.some.injEq, lenV, binV, intBin, intV, idxA, ne_eq, not_true_eq_false, not_false_eq_true, List.drop, List.take, RetP, retP, resV, resOne, snapV, snapVs, snapR, snapRs, ownSz, pickV, cond_true, cond_false, bTT, bTF, bFT, bFF, Bool.not_true, Bool.not_false, AO.isC, Bool.or_true, Bool.true_or, Bool.or_false, Bool.false_or, WpE_cons, WpE_nil, opE, evE_some, guardE_true, guardE_false, WpD_cons, WpD_nil, opD, evD_some, guardD_true, guardD_false]
      exact hret 10 i ho.symm _ _ _ id g4 gb
    all_goals simp only [look_if, blkAt_if, Nat.reduceEqDiff, if_true, if_false, h2, h3, h10, h11, h12, b0, b1, n0, n1, podC, pvs, htk]
    all_goals rfl
theorem apart_ok {T : Tab} (h68 : Std T 68 f68) (h69 : Std T 69 f69) (h81 : Std T 81 f81) (s : Snap) (t : State) (hs : s.loads.length ≤ 2 ^ 30) (ht : t.pods.length ≤ 2 ^ 30) : Gives T 68 [snapP s, stateP t] (errO (apartFrom s.loads [] t.pods)) := by
  refine gives h68 rfl ?_
  simp only [f68, Wp_seq, Wp_ops, Wp_cond, Wp_skip, Wp_ret, Wp_exit, Wp_block, WpO_cons, WpO_nil, opQ, evOp, evO, evOs, evQ_some, guardV, guardQ_true, guardQ_false, boolQ_true, boolQ_false, argsA, pvs, putS, cellsOf, scals, scal, seqQ_normal, seqQ_ret, seqQ_exit, blkQ_normal, blkQ_ret, blkQ_exit, look_if, blkAt_if, if_true, if_false, Nat.reduceEqDiff, Nat.reduceAdd, true_implies, reduceCtorEq, false_implies, and_true, true_and, List.nil_append, List.cons_append, Bool.and_self, Nat.zero_add, Nat.add_zero, fieldA, nonNil, cellsAt, loadV_one, loadV_pvs, loadV_cons, mkAgg, allPV, List.drop_zero, List.drop_succ_cons, List.take_succ_cons, List.take_zero, List.length_cons, List.length_nil, Nat.beq_eq, storeB, patchL, beq_self_eq_true, ge_iff_le, gt_iff_lt, Int.reduceNeg, Int.reduceLE, Int.reduceLT, Int.reduceEq, extractV, List.getElem?_cons_zero, List.getElem?_cons_succ, mkAgg, Nat.add_eq_left, Nat.left_eq_add, Nat.one_ne_zero, ble_dec, beq_dec, decide_eq_true_eq, Nat.reduceLeDiff, Nat.le_refl, fillA, pureVs, pureV, beq_int, bne_int, Int.natCast_inj, eq_self, eqV, eqB, decide_true, decide_false, List.length_map, Int.toNat_natCast, List.getElem?_map, Option.map_some, Option.map_none, Int.natCast_nonneg, Option.some.injEq, lenV, binV, intBin, intV, idxA, ne_eq, not_true_eq_false, not_false_eq_true, List.drop, List.take, RetP, retP, resV, resOne, snapV, snapVs, snapR, snapRs, ownSz, pickV, cond_true, cond_false, bTT, bTF, bFT, bFF, Bool.not_true, Bool.not_false, AO.isC, Bool.or_true, Bool.true_or, Bool.or_false, Bool.false_or, WpE_cons, WpE_nil, opE, evE_some, guardE_true, guardE_false, WpD_cons, WpD_nil, opD, evD_some, guardD_true, guardD_false, snapP, stateP]
  refine apart_out h69 h81 s t hs ht _ (apartFrom s.loads [] t.pods) (fun ho fr hp nx => ?_) (fun c i ho fr hp nx id h4 hb => ?_) t.pods 0 rfl (Nat.zero_le _) rfl _ _ _ (Nat.le_refl _) rfl rfl rfl rfl rfl rfl rfl
  · simp only [Wp_seq, Wp_ops, Wp_cond, Wp_skip, Wp_ret, Wp_exit, Wp_block, WpO_cons, WpO_nil, opQ, evOp, evO, evOs, evQ_some, guardV, guardQ_true, guardQ_false, boolQ_true, boolQ_false, argsA, pvs, putS, cellsOf, scals, scal, seqQ_normal, seqQ_ret, seqQ_exit, blkQ_normal, blkQ_ret, blkQ_exit, look_if, blkAt_if, if_true, if_false, Nat.reduceEqDiff, Nat.reduceAdd, true_implies, reduceCtorEq, false_implies, and_true, true_and, List.nil_append, List.cons_append, Bool.and_self, Nat.zero_add, Nat.add_zero, fieldA, nonNil, cellsAt, loadV_one, loadV_pvs, loadV_cons, mkAgg, allPV, List.drop_zero, List.drop_succ_cons, List.take_succ_cons, List.take_zero, List.length_cons, List.length_nil, Nat.beq_eq, storeB, patchL, beq_self_eq_true, ge_iff_le, gt_iff_lt, Int.reduceNeg, Int.reduceLE, Int.reduceLT, Int.reduceEq, extractV, List.getElem?_cons_zero, List.getElem?_cons_succ, mkAgg, Nat.add_eq_left, Nat.left_eq_add, Nat.one_ne_zero, ble_dec, beq_dec, decide_eq_true_eq, Nat.reduceLeDiff, Nat.le_refl, fillA, pureVs, pureV, beq_int, bne_int, Int.natCast_inj, eq_self, eqV, eqB, decide_true, decide_false, List.length_map, Int.toNat_natCast, List.getElem?_map, Option.map_some, Option.map_none, Int.natCast_nonneg, Option.some.injEq, lenV, binV, intBin, intV, idxA, ne_eq, not_true_eq_false, not_false_eq_true, List.drop, List.take, RetP, retP, resV, resOne, snapV, snapVs, snapR, snapRs, ownSz, pickV, cond_true, cond_false, bTT, bTF, bFT, bFF, Bool.not_true, Bool.not_false, AO.isC, Bool.or_true, Bool.true_or, Bool.or_false, Bool.false_or, WpE_cons, WpE_nil, opE, evE_some, guardE_true, guardE_false, WpD_cons, WpD_nil, opD, evD_some, guardD_true, guardD_false, ho, errO]
  · simp only [Wp_seq, Wp_ops, Wp_cond, Wp_skip, Wp_ret, Wp_exit, Wp_block, WpO_cons, WpO_nil, opQ, evOp, evO, evOs, evQ_some, guardV, guardQ_true, guardQ_false, boolQ_true, boolQ_false, argsA, pvs, putS, cellsOf, scals, scal, seqQ_normal, seqQ_ret, seqQ_exit, blkQ_normal, blkQ_ret, blkQ_exit, look_if, blkAt_if, if_true, if_false, Nat.reduceEqDiff, Nat.reduceAdd, true_implies, reduceCtorEq, false_implies, and_true, true_and, List.nil_append, List.cons_append, Bool.and_self, Nat.zero_add, Nat.add_zero, fieldA, nonNil, cellsAt, loadV_one, loadV_pvs, loadV_cons, mkAgg, allPV, List.drop_zero, List.drop_succ_cons, List.take_succ_cons, List.take_zero, List.length_cons, List.length_nil, Nat.beq_eq, storeB, patchL, beq_self_eq_true, ge_iff_le, gt_iff_lt, Int.reduceNeg, Int.reduceLE, Int.reduceLT, Int.reduceEq, extractV, List.getElem?_cons_zero, List.getElem?_cons_succ, mkAgg, Nat.add_eq_left, Nat.left_eq_add, Nat.one_ne_zero, ble_dec, beq_dec, decide_eq_true_eq, Nat.reduceLeDiff, Nat.le_refl, fillA, pureVs, pureV, beq_int, bne_int, Int.natCast_inj, eq_self, eqV, eqB, decide_true, decide_false, List.length_map, Int.toNat_natCast, List.getElem?_map, Option.map_some, Option.map_none, Int.natCast_nonneg, Option.some.injEq, lenV, binV, intBin, intV, idxA, ne_eq, not_true_eq_false, not_false_eq_true, List.drop, List.take, RetP, retP, resV, resOne, snapV, snapVs, snapR, snapRs, ownSz, pickV, cond_true, cond_false, bTT, bTF, bFT, bFF, Bool.not_true, Bool.not_false, AO.isC, Bool.or_true, Bool.true_or, Bool.or_false, Bool.false_or, WpE_cons, WpE_nil, opE, evE_some, guardE_true, guardE_false, WpD_cons, WpD_nil, opD, evD_some, guardD_true, guardD_false, ho, errO, h4, hb, spotE]

def partnerFrom (ls : List Load) (p : Pod) (i : Nat) : Nat → List Pod → Option Pod
  | _, [] => none
  | k, q :: r => if ¬ i = k ∧ twoB ls p q = true then some q else partnerFrom ls p i (k + 1) r
def idOr (o : Option Pod) : Int := match o with | some q => q.id | none => 0
def clashFrom (ls : List Load) (all : List Pod) (pod : Int) : Nat → List Pod → Int
  | _, [] => 0
  | i, p :: r => if p.id = pod then idOr (partnerFrom ls p i 0 all) else clashFrom ls all pod (i + 1) r

theorem clash_in {T : Tab} (h69 : Std T 69 f69) (h81 : Std T 81 f81) (s : Snap) (hs : s.loads.length ≤ 2 ^ 30) (qs : List Pod) (hq : qs.length ≤ 2 ^ 30) (p : Pod) (i : Nat) (idp : Nat) (hidp : 2 ≤ idp) (Q : Exit → St → Prop) (o : Option Pod)
    (hend : o = none → ∀ fr hp nx, Q (.exit 2) ⟨fr, hp, nx⟩)
    (hret : ∀ q, o = some q → ∀ fr hp nx, look fr 6 = .pv (.int .i64 q.id) → Q .ret ⟨fr, hp, nx⟩) :
    ∀ (rest : List Pod) (k : Nat), qs.drop k = rest → k ≤ qs.length → partnerFrom s.loads p i k rest = o → ∀ (fr : List (Nat × AV)) (hp : Hl) (nx : Nat), idp < nx →
      look fr 3 = .ptr 0 0 0 → blkAt hp 0 = .var [.pv (.slice (s.nodes.map nodeC)), .pv (.slice (s.loads.map loadC)), .pv (.slice (s.pods.map podC))] →
      look fr 7 = .pv (.int .i64 i) → look fr 8 = .ptr idp 0 0 → blkAt hp idp = .var (pvs (podC p)) → look fr 24 = .pv (.slice (qs.map podC)) → look fr 25 = .pv (.int .i64 qs.length) → look fr 26 = .pv (.int .i64 k) →
      Wp T false (.loop f325l0) ⟨fr, hp, nx⟩ Q := by
  intro rest
  induction rest with
  | nil =>
    intro k hd hi ho fr hp nx hn h3 b0 h7 h8 bp h24 h25 h26
    have hlen := drop_nil hd hi
    rw [Wp_loop, Wp_eq f325l0.eq_1]
    simp only [Wp_seq, Wp_ops, Wp_cond, Wp_skip, Wp_ret, Wp_exit, Wp_block, WpO_cons, WpO_nil, opQ, evOp, evO, evOs, evQ_some, guardV, guardQ_true, guardQ_false, boolQ_true, boolQ_false, argsA, pvs, putS, cellsOf, scals, scal, seqQ_normal, seqQ_ret, seqQ_exit, blkQ_normal, blkQ_ret, blkQ_exit, look_if, blkAt_if, if_true, if_false, Nat.reduceEqDiff, Nat.reduceAdd, true_implies, reduceCtorEq, false_implies, and_true, true_and, List.nil_append, List.cons_append, Bool.and_self, Nat.zero_add, Nat.add_zero, fieldA, nonNil, cellsAt, loadV_one, loadV_pvs, loadV_cons, mkAgg, allPV, List.drop_zero, List.drop_succ_cons, List.take_succ_cons, List.take_zero, List.length_cons, List.length_nil, Nat.beq_eq, storeB, patchL, beq_self_eq_true, ge_iff_le, gt_iff_lt, Int.reduceNeg, Int.reduceLE, Int.reduceLT, Int.reduceEq, extractV, List.getElem?_cons_zero, List.getElem?_cons_succ, mkAgg, Nat.add_eq_left, Nat.left_eq_add, Nat.one_ne_zero, ble_dec, beq_dec, decide_eq_true_eq, Nat.reduceLeDiff, Nat.le_refl, fillA, pureVs, pureV, beq_int, bne_int, Int.natCast_inj, eq_self, eqV, eqB, decide_true, decide_false, List.length_map, Int.toNat_natCast, List.getElem?_map, Option.map_some, Option.map_none, Int.natCast_nonneg, Option.some.injEq, lenV, binV, intBin, intV, idxA, ne_eq, not_true_eq_false, not_false_eq_true, List.drop, List.take, RetP, retP, resV, resOne, snapV, snapVs, snapR, snapRs, ownSz, pickV, cond_true, cond_false, bTT, bTF, bFT, bFF, Bool.not_true, Bool.not_false, AO.isC, Bool.or_true, Bool.true_or, Bool.or_false, Bool.false_or, WpE_cons, WpE_nil, opE, evE_some, guardE_true, guardE_false, WpD_cons, WpD_nil, opD, evD_some, guardD_true, guardD_false, h24, h25, h26, hlen, Int.lt_irrefl]
    exact hend ho.symm _ _ _
  | cons q r ih =>
    intro k hd hi ho fr hp nx hn h3 b0 h7 h8 bp h24 h25 h26
    obtain ⟨hget, hlt, hw, hd', hi', hbb⟩ := drop_cons hd hq
    have n0 : ¬ nx = 0 := by omega
    have np : ¬ nx = idp := by omega
    have kt := two_ok h69 h81 s hs p q
    have bp' := bp
    simp only [podC, pvs] at bp'
    simp only [podC] at kt
    rw [Wp_loop, Wp_eq f325l0.eq_1]
    simp only [partnerFrom] at ho
    by_cases c1 : i = k
    · rw [if_neg (by simp [c1])] at ho
      simp only [Wp_seq, Wp_ops, Wp_cond, Wp_skip, Wp_ret, Wp_exit, Wp_block, WpO_cons, WpO_nil, opQ, evOp, evO, evOs, evQ_some, guardV, guardQ_true, guardQ_false, boolQ_true, boolQ_false, argsA, pvs, putS, cellsOf, scals, scal, seqQ_normal, seqQ_ret, seqQ_exit, blkQ_normal, blkQ_ret, blkQ_exit, look_if, blkAt_if, if_true, if_false, Nat.reduceEqDiff, Nat.reduceAdd, true_implies, reduceCtorEq, false_implies, and_true, true_and, List.nil_append, List.cons_append, Bool.and_self, Nat.zero_add, Nat.add_zero, fieldA, nonNil, cellsAt, loadV_one, loadV_pvs, loadV_cons, mkAgg, allPV, List.drop_zero, List.drop_succ_cons, List.take_succ_cons, List.take_zero, List.length_cons, List.length_nil, Nat.beq_eq, storeB, patchL, beq_self_eq_true, ge_iff_le, gt_iff_lt, Int.reduceNeg, Int.reduceLE, Int.reduceLT, Int.reduceEq, extractV, List.getElem?_cons_zero, List.getElem?_cons_succ, mkAgg, Nat.add_eq_left, Nat.left_eq_add, Nat.one_ne_zero, ble_dec, beq_dec, decide_eq_true_eq, Nat.reduceLeDiff, Nat.le_refl, fillA, pureVs, pureV, beq_int, bne_int, Int.natCast_inj, eq_self, eqV, eqB, decide_true, decide_false, List.length_map, Int.toNat_natCast, List.getElem?_map, Option.map_some, Option.map_none, Int.natCast_nonneg, Option.some.injEq, lenV, binV, intBin, intV, idxA, ne_eq, not_true_eq_false, not_false_eq_true, List.drop, List.take, RetP, retP, resV, resOne, snapV, snapVs, snapR, snapRs, ownSz, pickV, cond_true, cond_false, bTT, bTF, bFT, bFF, Bool.not_true, Bool.not_false, AO.isC, Bool.or_true, Bool.true_or, Bool.or_false, Bool.false_or, WpE_cons, WpE_nil, opE, evE_some, guardE_true, guardE_false, WpD_cons, WpD_nil, opD, evD_some, guardD_true, guardD_false, h3, b0, h7, h8, bp', h24, h25, h26, hlt, hget, podC, n0, np, snapP, hw, c1]
      refine ih (k + 1) hd' hi' ho _ _ _ (by omega) ?_ ?_ ?_ ?_ ?_ ?_ ?_ ?_
      all_goals simp only [look_if, blkAt_if, Nat.reduceEqDiff, if_true, if_false, h3, b0, h7, h8, bp, h24, h25, n0, np, c1]
    · cases ht : twoB s.loads p q
      · rw [if_neg (by simp [ht])] at ho
        rw [ht] at kt
        simp only [Wp_seq, Wp_ops, Wp_cond, Wp_skip, Wp_ret, Wp_exit, Wp_block, WpO_cons, WpO_nil, opQ, evOp, evO, evOs, evQ_some, guardV, guardQ_true, guardQ_false, boolQ_true, boolQ_false, argsA, pvs, putS, cellsOf, scals, scal, seqQ_normal, seqQ_ret, seqQ_exit, blkQ_normal, blkQ_ret, blkQ_exit, look_if, blkAt_if, if_true, if_false, Nat.reduceEqDiff, Nat.reduceAdd, true_implies, reduceCtorEq, false_implies, and_true, true_and, List.nil_append, List.cons_append, Bool.and_self, Nat.zero_add, Nat.add_zero, fieldA, nonNil, cellsAt, loadV_one, loadV_pvs, loadV_cons, mkAgg, allPV, List.drop_zero, List.drop_succ_cons, List.take_succ_cons, List.take_zero, List.length_cons, List.length_nil, Nat.beq_eq, storeB, patchL, beq_self_eq_true, ge_iff_le, gt_iff_lt, Int.reduceNeg, Int.reduceLE, Int.reduceLT, Int.reduceEq, extractV, List.getElem?_cons_zero, List.getElem?_cons_succ, mkAgg, Nat.add_eq_left, Nat.left_eq_add, Nat.one_ne_zero, ble_dec, beq_dec, decide_eq_true_eq, Nat.reduceLeDiff, Nat.le_refl, fillA, pureVs, pureV, beq_int, bne_int, Int.natCast_inj, eq_self, eqV, eqB, decide_true, decide_false, List.length_map, Int.toNat_natCast, List.getElem?_map, Option.map_some, Option.map_none, Int.natCast_nonneg, Option.some.injEq, lenV, binV, intBin, intV, idxA, ne_eq, not_true_eq_false, not_false_eq_true, List.drop, List.take, RetP, retP, resV, resOne, snapV, snapVs, snapR, snapRs, ownSz, pickV, cond_true, cond_false, bTT, bTF, bFT, bFF, Bool.not_true, Bool.not_false, AO.isC, Bool.or_true, Bool.true_or, Bool.or_false, Bool.false_or, WpE_cons, WpE_nil, opE, evE_some, guardE_true, guardE_false, WpD_cons, WpD_nil, opD, evD_some, guardD_true, guardD_false, h3, b0, h7, h8, bp', h24, h25, h26, hlt, hget, podC, n0, np, kt.call, snapP, hw, c1]
        refine ih (k + 1) hd' hi' ho _ _ _ (by omega) ?_ ?_ ?_ ?_ ?_ ?_ ?_ ?_
        all_goals simp only [look_if, blkAt_if, Nat.reduceEqDiff, if_true, if_false, h3, b0, h7, h8, bp, h24, h25, n0, np]
      · rw [if_pos ⟨c1, ht⟩] at ho
        rw [ht] at kt
        simp only [Wp_seq, Wp_ops, Wp_cond, Wp_skip, Wp_ret, Wp_exit, Wp_block, WpO_cons, WpO_nil, opQ, evOp, evO, evOs, evQ_some, guardV, guardQ_true, guardQ_false, boolQ_true, boolQ_false, argsA, pvs, putS, cellsOf, scals, scal, seqQ_normal, seqQ_ret, seqQ_exit, blkQ_normal, blkQ_ret, blkQ_exit, look_if, blkAt_if, if_true, if_false, Nat.reduceEqDiff, Nat.reduceAdd, true_implies, reduceCtorEq, false_implies, and_true, true_and, List.nil_append, List.cons_append, Bool.and_self, Nat.zero_add, Nat.add_zero, fieldA, nonNil, cellsAt, loadV_one, loadV_pvs, loadV_cons, mkAgg, allPV, List.drop_zero, List.drop_succ_cons, List.take_succ_cons, List.take_zero, List.length_cons, List.length_nil, Nat.beq_eq, storeB, patchL, beq_self_eq_true, ge_iff_le, gt_iff_lt, Int.reduceNeg, Int.reduceLE, Int.reduceLT, Int.reduceEq, extractV, List.getElem?_cons_zero, List.getElem?_cons_succ, mkAgg, Nat.add_eq_left, Nat.left_eq_add, Nat.one_ne_zero, ble_dec, beq_dec, decide_eq_true_eq, Nat.reduceLeDiff, Nat.le_refl, fillA, pureVs, pureV, beq_int, bne_int, Int.natCast_inj, eq_self, eqV, eqB, decide_true, decide_false, List.length_map, Int.toNat_natCast, List.getElem?_map, Option.map_some, Option.map_none, Int.natCast_nonneg, Option.some.injEq, lenV, binV, intBin, intV, idxA, ne_eq, not_true_eq_false, not_false_eq_true, List.drop, List.take, RetP, retP, resV, resOne, snapV, snapVs, snapR, snapRs, ownSz, pickV, cond_true, cond_false, bTT, bTF, bFT, bFF, Bool.not_true, Bool.not_false, AO.isC, Bool.or_true, Bool.true_or, Bool.or_false, Bool.false_or, WpE_cons, WpE_nil, opE, evE_some, guardE_true, guardE_false, WpD_cons, WpD_nil, opD, evD_some, guardD_true, guardD_false, h3, b0, h7, h8, bp', h24, h25, h26, hlt, hget, podC, n0, np, kt.call, snapP, hw, c1]
        exact hret q ho.symm _ _ _ (by simp only [look_if, Nat.reduceEqDiff, if_true, if_false])
theorem clash_out {T : Tab} (h69 : Std T 69 f69) (h81 : Std T 81 f81) (s : Snap) (t : State) (hs : s.loads.length ≤ 2 ^ 30) (ht : t.pods.length ≤ 2 ^ 30) (pod : Int) (Q : Exit → St → Prop) (v : Int)
    (hend : v = 0 → ∀ fr hp nx, Q (.exit 0) ⟨fr, hp, nx⟩)
    (hret : ∀ fr hp nx, look fr 6 = .pv (.int .i64 v) → Q .ret ⟨fr, hp, nx⟩) :
    ∀ (rest : List Pod) (i : Nat), t.pods.drop i = rest → i ≤ t.pods.length → clashFrom s.loads t.pods pod i rest = v → ∀ (fr : List (Nat × AV)) (hp : Hl) (nx : Nat), 2 ≤ nx →
      look fr 3 = .ptr 0 0 0 → look fr 4 = .ptr 1 0 0 → look fr 2 = .pv (.int .i64 pod) → look fr 12 = .pv (.slice (t.pods.map podC)) → look fr 13 = .pv (.int .i64 t.pods.length) → look fr 14 = .pv (.int .i64 i) →
      blkAt hp 0 = .var [.pv (.slice (s.nodes.map nodeC)), .pv (.slice (s.loads.map loadC)), .pv (.slice (s.pods.map podC))] → blkAt hp 1 = .var [.pv (.slice (t.pods.map podC)), .pv (.int .i64 t.pre), .pv (.int .i64 t.shi)] →
      Wp T false (.loop f325l1) ⟨fr, hp, nx⟩ Q := by
  intro rest
  induction rest with
  | nil =>
    intro i hd hi ho fr hp nx hn h3 h4 h2 h12 h13 h14 b0 b1
    have hlen := drop_nil hd hi
    rw [Wp_loop, Wp_eq f325l1.eq_1]
    simp only [Wp_seq, Wp_ops, Wp_cond, Wp_skip, Wp_ret, Wp_exit, Wp_block, WpO_cons, WpO_nil, opQ, evOp, evO, evOs, evQ_some, guardV, guardQ_true, guardQ_false, boolQ_true, boolQ_false, argsA, pvs, putS, cellsOf, scals, scal, seqQ_normal, seqQ_ret, seqQ_exit, blkQ_normal, blkQ_ret, blkQ_exit, look_if, blkAt_if, if_true, if_false, Nat.reduceEqDiff, Nat.reduceAdd, true_implies, reduceCtorEq, false_implies, and_true, true_and, List.nil_append, List.cons_append, Bool.and_self, Nat.zero_add, Nat.add_zero, fieldA, nonNil, cellsAt, loadV_one, loadV_pvs, loadV_cons, mkAgg, allPV, List.drop_zero, List.drop_succ_cons, List.take_succ_cons, List.take_zero, List.length_cons, List.length_nil, Nat.beq_eq, storeB, patchL, beq_self_eq_true, ge_iff_le, gt_iff_lt, Int.reduceNeg, Int.reduceLE, Int.reduceLT, Int.reduceEq, extractV, List.getElem?_cons_zero, List.getElem?_cons_succ, mkAgg, Nat.add_eq_left, Nat.left_eq_add, Nat.one_ne_zero, ble_dec, beq_dec, decide_eq_true_eq, Nat.reduceLeDiff, Nat.le_refl, fillA, pureVs, pureV, beq_int, bne_int, Int.natCast_inj, eq_self, eqV, eqB, decide_true, decide_false, List.length_map, Int.toNat_natCast, List.getElem?_map, Option.map_some, Option.map_none, Int.natCast_nonneg, Option.some.injEq, lenV, binV, intBin, intV, idxA, ne_eq, not_true_eq_false, not_false_eq_true, List.drop, List.take, RetP, retP, resV, resOne, snapV, snapVs, snapR, snapRs, ownSz, pickV, cond_true, cond_false, bTT, bTF, bFT, bFF, Bool.not_true, Bool.not_false, AO.isC, Bool.or_true, Bool.true_or, Bool.or_false, Bool.false_or, WpE_cons, WpE_nil, opE, evE_some, guardE_true, guardE_false, WpD_cons, WpD_nil, opD, evD_some, guardD_true, guardD_false, h12, h13, h14, hlen, Int.lt_irrefl]
    exact hend ho.symm _ _ _
  | cons p r ih =>
    intro i hd hi ho fr hp nx hn h3 h4 h2 h12 h13 h14 b0 b1
    obtain ⟨hget, hlt, hw, hd', hi', hbb⟩ := drop_cons hd ht
    have n0 : ¬ nx = 0 := by omega
    have n1 : ¬ nx = 1 := by omega
    simp only [clashFrom] at ho
    rw [Wp_loop, Wp_eq f325l1.eq_1]
    by_cases c1 : p.id = pod
    · rw [if_pos c1] at ho
      simp only [Wp_seq, Wp_ops, Wp_cond, Wp_skip, Wp_ret, Wp_exit, Wp_block, WpO_cons, WpO_nil, opQ, evOp, evO, evOs, evQ_some, guardV, guardQ_true, guardQ_false, boolQ_true, boolQ_false, argsA, pvs, putS, cellsOf, scals, scal, seqQ_normal, seqQ_ret, seqQ_exit, blkQ_normal, blkQ_ret, blkQ_exit, look_if, blkAt_if, if_true, if_false, Nat.reduceEqDiff, Nat.reduceAdd, true_implies, reduceCtorEq, false_implies, and_true, true_and, List.nil_append, List.cons_append, Bool.and_self, Nat.zero_add, Nat.add_zero, fieldA, nonNil, cellsAt, loadV_one, loadV_pvs, loadV_cons, mkAgg, allPV, List.drop_zero, List.drop_succ_cons, List.take_succ_cons, List.take_zero, List.length_cons, List.length_nil, Nat.beq_eq, storeB, patchL, beq_self_eq_true, ge_iff_le, gt_iff_lt, Int.reduceNeg, Int.reduceLE, Int.reduceLT, Int.reduceEq, extractV, List.getElem?_cons_zero, List.getElem?_cons_succ, mkAgg, Nat.add_eq_left, Nat.left_eq_add, Nat.one_ne_zero, ble_dec, beq_dec, decide_eq_true_eq, Nat.reduceLeDiff, Nat.le_refl, fillA, pureVs, pureV, beq_int, bne_int, Int.natCast_inj, eq_self, eqV, eqB, decide_true, decide_false, List.length_map, Int.toNat_natCast, List.getElem?_map, Option.map_some, Option.map_none, Int.natCast_nonneg, Option.some.injEq, lenV, binV, intBin, intV, idxA, ne_eq, not_true_eq_false, not_false_eq_true, List.drop, List.take, RetP, retP, resV, resOne, snapV, snapVs, snapR, snapRs, ownSz, pickV, cond_true, cond_false, bTT, bTF, bFT, bFF, Bool.not_true, Bool.not_false, AO.isC, Bool.or_true, Bool.true_or, Bool.or_false, Bool.false_or, WpE_cons, WpE_nil, opE, evE_some, guardE_true, guardE_false, WpD_cons, WpD_nil, opD, evD_some, guardD_true, guardD_false, h3, h4, h2, h12, h13, h14, b0, b1, hlt, hget, podC, n0, n1, c1]
      refine clash_in h69 h81 s hs t.pods ht p i nx hn _ (partnerFrom s.loads p i 0 t.pods) ?_ ?_ t.pods 0 rfl (Nat.zero_le _) rfl _ _ _ (Nat.lt_succ_self _) ?_ ?_ ?_ ?_ ?_ ?_ ?_ ?_
      · intro hn fr' hp' nx'
        simp only [Wp_seq, Wp_ops, Wp_cond, Wp_skip, Wp_ret, Wp_exit, Wp_block, WpO_cons, WpO_nil, opQ, evOp, evO, evOs, evQ_some, guardV, guardQ_true, guardQ_false, boolQ_true, boolQ_false, argsA, pvs, putS, cellsOf, scals, scal, seqQ_normal, seqQ_ret, seqQ_exit, blkQ_normal, blkQ_ret, blkQ_exit, look_if, blkAt_if, if_true, if_false, Nat.reduceEqDiff, Nat.reduceAdd, true_implies, reduceCtorEq, false_implies, and_true, true_and, List.nil_append, List.cons_append, Bool.and_self, Nat.zero_add, Nat.add_zero, fieldA, nonNil, cellsAt, loadV_one, loadV_pvs, loadV_cons, mkAgg, allPV, List.drop_zero, List.drop_succ_cons, List.take_succ_cons, List.take_zero, List.length_cons, List.length_nil, Nat.beq_eq, storeB, patchL, beq_self_eq_true, ge_iff_le, gt_iff_lt, Int.reduceNeg, Int.reduceLE, Int.reduceLT, Int.reduceEq, extractV, List.getElem?_cons_zero, List.getElem?_cons_succ, mkAgg, Nat.add_eq_left, Nat.left_eq_add, Nat.one_ne_zero, ble_dec, beq_dec, decide_eq_true_eq, Nat.reduceLeDiff, Nat.le_refl, fillA, pureVs, pureV, beq_int, bne_int, Int.natCast_inj, eq_self, eqV, eqB, decide_true, decide_false, List.length_map, Int.toNat_natCast, List.getElem?_map, Option.map_some, Option.map_none, Int.natCast_nonneg, Option.some.injEq, lenV, binV, intBin, intV, idxA, ne_eq, not_true_eq_false, not_false_eq_true, List.drop, List.take, RetP, retP, resV, resOne, snapV, snapVs, snapR, snapRs, ownSz, pickV, cond_true, cond_false, bTT, bTF, bFT, bFF, Bool.not_true, Bool.not_false, AO.isC, Bool.or_true, Bool.true_or, Bool.or_false, Bool.false_or, WpE_cons, WpE_nil, opE, evE_some, guardE_true, guardE_false, WpD_cons, WpD_nil, opD, evD_some, guardD_true, guardD_false]
        exact hend (by rw [← ho, hn]; rfl) _ _ _
      · intro q hq fr' hp' nx' g6
        simp only [Wp_seq, Wp_ops, Wp_cond, Wp_skip, Wp_ret, Wp_exit, Wp_block, WpO_cons, WpO_nil, opQ, evOp, evO, evOs, evQ_some, guardV, guardQ_true, guardQ_false, boolQ_true, boolQ_false, argsA, pvs, putS, cellsOf, scals, scal, seqQ_normal, seqQ_ret, seqQ_exit, blkQ_normal, blkQ_ret, blkQ_exit, look_if, blkAt_if, if_true, if_false, Nat.reduceEqDiff, Nat.reduceAdd, true_implies, reduceCtorEq, false_implies, and_true, true_and, List.nil_append, List.cons_append, Bool.and_self, Nat.zero_add, Nat.add_zero, fieldA, nonNil, cellsAt, loadV_one, loadV_pvs, loadV_cons, mkAgg, allPV, List.drop_zero, List.drop_succ_cons, List.take_succ_cons, List.take_zero, List.length_cons, List.length_nil, Nat.beq_eq, storeB, patchL, beq_self_eq_true, ge_iff_le, gt_iff_lt, Int.reduceNeg, Int.reduceLE, Int.reduceLT, Int.reduceEq, extractV, List.getElem?_cons_zero, List.getElem?_cons_succ, mkAgg, Nat.add_eq_left, Nat.left_eq_add, Nat.one_ne_zero, ble_dec, beq_dec, decide_eq_true_eq, Nat.reduceLeDiff, Nat.le_refl, fillA, pureVs, pureV, beq_int, bne_int, Int.natCast_inj, eq_self, eqV, eqB, decide_true, decide_false, List.length_map, Int.toNat_natCast, List.getElem?_map, Option.map_some, Option.map_none, Int.natCast_nonneg, Option.some.injEq, lenV, binV, intBin, intV, idxA, ne_eq, not_true_eq_false, not_false_eq_true, List.drop, List.take, RetP, retP, resV, resOne, snapV, snapVs, snapR, snapRs, ownSz, pickV, cond_true, cond_false, bTT, bTF, bFT, bFF, Bool.not_true, Bool.not_false, AO.isC, Bool.or_true, Bool.true_or, Bool.or_false, Bool.false_or, WpE_cons, WpE_nil, opE, evE_some, guardE_true, guardE_false, WpD_cons, WpD_nil, opD, evD_some, guardD_true, guardD_false]
        refine hret _ _ _ ?_
        rw [g6, ← ho, hq]
        rfl
      all_goals simp only [look_if, blkAt_if, Nat.reduceEqDiff, if_true, if_false, h3, h4, b0, n0, n1, podC, pvs, c1]
      all_goals rfl
    · rw [if_neg c1] at ho
      simp only [Wp_seq, Wp_ops, Wp_cond, Wp_skip, Wp_ret, Wp_exit, Wp_block, WpO_cons, WpO_nil, opQ, evOp, evO, evOs, evQ_some, guardV, guardQ_true, guardQ_false, boolQ_true, boolQ_false, argsA, pvs, putS, cellsOf, scals, scal, seqQ_normal, seqQ_ret, seqQ_exit, blkQ_normal, blkQ_ret, blkQ_exit, look_if, blkAt_if, if_true, if_false, Nat.reduceEqDiff, Nat.reduceAdd, true_implies, reduceCtorEq, false_implies, and_true, true_and, List.nil_append, List.cons_append, Bool.and_self, Nat.zero_add, Nat.add_zero, fieldA, nonNil, cellsAt, loadV_one, loadV_pvs, loadV_cons, mkAgg, allPV, List.drop_zero, List.drop_succ_cons, List.take_succ_cons, List.take_zero, List.length_cons, List.length_nil, Nat.beq_eq, storeB, patchL, beq_self_eq_true, ge_iff_le, gt_iff_lt, Int.reduceNeg, Int.reduceLE, Int.reduceLT, Int.reduceEq, extractV, List.getElem?_cons_zero, List.getElem?_cons_succ, mkAgg, Nat.add_eq_left, Nat.left_eq_add, Nat.one_ne_zero, ble_dec, beq_dec, decide_eq_true_eq, Nat.reduceLeDiff, Nat.le_refl, fillA, pureVs, pureV, beq_int, bne_int, Int.natCast_inj, eq_self, eqV, eqB, decide_true, decide_false, List.length_map, Int.toNat_natCast, List.getElem?_map, Option.map_some, Option.map_none, Int.natCast_nonneg, Option.some.injEq, lenV, binV, intBin, intV, idxA, ne_eq, not_true_eq_false, not_false_eq_true, List.drop, List.take, RetP, retP, resV, resOne, snapV, snapVs, snapR, snapRs, ownSz, pickV, cond_true, cond_false, bTT, bTF, bFT, bFF, Bool.not_true, Bool.not_false, AO.isC, Bool.or_true, Bool.true_or, Bool.or_false, Bool.false_or, WpE_cons, WpE_nil, opE, evE_some, guardE_true, guardE_false, WpD_cons, WpD_nil, opD, evD_some, guardD_true, guardD_false, h3, h4, h2, h12, h13, h14, b0, b1, hlt, hget, podC, n0, n1, c1, hw]
      refine ih (i + 1) hd' hi' ho _ _ _ (by omega) ?_ ?_ ?_ ?_ ?_ ?_ ?_ ?_
      all_goals simp only [look_if, blkAt_if, Nat.reduceEqDiff, if_true, if_false, h3, h4, h2, h12, h13, b0, b1, n0, n1]
theorem clash_ok {T : Tab} (h325 : Std T 325 f325) (h69 : Std T 69 f69) (h81 : Std T 81 f81) (s : Snap) (t : State) (pod : Int) (hs : s.loads.length ≤ 2 ^ 30) (ht : t.pods.length ≤ 2 ^ 30) : Gives T 325 [snapP s, stateP t, .int .i64 pod] (.int .i64 (clashFrom s.loads t.pods pod 0 t.pods)) := by
  refine gives h325 rfl ?_
  simp only [f325, Wp_seq, Wp_ops, Wp_cond, Wp_skip, Wp_ret, Wp_exit, Wp_block, WpO_cons, WpO_nil, opQ, evOp, evO, evOs, evQ_some, guardV, guardQ_true, guardQ_false, boolQ_true, boolQ_false, argsA, pvs, putS, cellsOf, scals, scal, seqQ_normal, seqQ_ret, seqQ_exit, blkQ_normal, blkQ_ret, blkQ_exit, look_if, blkAt_if, if_true, if_false, Nat.reduceEqDiff, Nat.reduceAdd, true_implies, reduceCtorEq, false_implies, and_true, true_and, List.nil_append, List.cons_append, Bool.and_self, Nat.zero_add, Nat.add_zero, fieldA, nonNil, cellsAt, loadV_one, loadV_pvs, loadV_cons, mkAgg, allPV, List.drop_zero, List.drop_succ_cons, List.take_succ_cons, List.take_zero, List.length_cons, List.length_nil, Nat.beq_eq, storeB, patchL, beq_self_eq_true, ge_iff_le, gt_iff_lt, Int.reduceNeg, Int.reduceLE, Int.reduceLT, Int.reduceEq, extractV, List.getElem?_cons_zero, List.getElem?_cons_succ, mkAgg, Nat.add_eq_left, Nat.left_eq_add, Nat.one_ne_zero, ble_dec, beq_dec, decide_eq_true_eq, Nat.reduceLeDiff, Nat.le_refl, fillA, pureVs, pureV, beq_int, bne_int, Int.natCast_inj, eq_self, eqV, eqB, decide_true, decide_false, List.length_map, Int.toNat_natCast, List.getElem?_map, Option.map_some, Option.map_none, Int.natCast_nonneg, Option.some.injEq, lenV, binV, intBin, intV, idxA, ne_eq, not_true_eq_false, not_false_eq_true, List.drop, List.take, RetP, retP, resV, resOne, snapV, snapVs, snapR, snapRs, ownSz, pickV, cond_true, cond_false, bTT, bTF, bFT, bFF, Bool.not_true, Bool.not_false, AO.isC, Bool.or_true, Bool.true_or, Bool.or_false, Bool.false_or, WpE_cons, WpE_nil, opE, evE_some, guardE_true, guardE_false, WpD_cons, WpD_nil, opD, evD_some, guardD_true, guardD_false, snapP, stateP]
  refine clash_out h69 h81 s t hs ht pod _ (clashFrom s.loads t.pods pod 0 t.pods) (fun ho fr hp nx => ?_) (fun fr hp nx h6 => ?_) t.pods 0 rfl (Nat.zero_le _) rfl _ _ _ (Nat.le_refl _) rfl rfl rfl rfl rfl rfl rfl rfl
  · simp only [Wp_seq, Wp_ops, Wp_cond, Wp_skip, Wp_ret, Wp_exit, Wp_block, WpO_cons, WpO_nil, opQ, evOp, evO, evOs, evQ_some, guardV, guardQ_true, guardQ_false, boolQ_true, boolQ_false, argsA, pvs, putS, cellsOf, scals, scal, seqQ_normal, seqQ_ret, seqQ_exit, blkQ_normal, blkQ_ret, blkQ_exit, look_if, blkAt_if, if_true, if_false, Nat.reduceEqDiff, Nat.reduceAdd, true_implies, reduceCtorEq, false_implies, and_true, true_and, List.nil_append, List.cons_append, Bool.and_self, Nat.zero_add, Nat.add_zero, fieldA, nonNil, cellsAt, loadV_one, loadV_pvs, loadV_cons, mkAgg, allPV, List.drop_zero, List.drop_succ_cons, List.take_succ_cons, List.take_zero, List.length_cons, List.length_nil, Nat.beq_eq, storeB, patchL, beq_self_eq_true, ge_iff_le, gt_iff_lt, Int.reduceNeg, Int.reduceLE, Int.reduceLT, Int.reduceEq, extractV, List.getElem?_cons_zero, List.getElem?_cons_succ, mkAgg, Nat.add_eq_left, Nat.left_eq_add, Nat.one_ne_zero, ble_dec, beq_dec, decide_eq_true_eq, Nat.reduceLeDiff, Nat.le_refl, fillA, pureVs, pureV, beq_int, bne_int, Int.natCast_inj, eq_self, eqV, eqB, decide_true, decide_false, List.length_map, Int.toNat_natCast, List.getElem?_map, Option.map_some, Option.map_none, Int.natCast_nonneg, Option.some.injEq, lenV, binV, intBin, intV, idxA, ne_eq, not_true_eq_false, not_false_eq_true, List.drop, List.take, RetP, retP, resV, resOne, snapV, snapVs, snapR, snapRs, ownSz, pickV, cond_true, cond_false, bTT, bTF, bFT, bFF, Bool.not_true, Bool.not_false, AO.isC, Bool.or_true, Bool.true_or, Bool.or_false, Bool.false_or, WpE_cons, WpE_nil, opE, evE_some, guardE_true, guardE_false, WpD_cons, WpD_nil, opD, evD_some, guardD_true, guardD_false, ho]
  · simp only [Wp_seq, Wp_ops, Wp_cond, Wp_skip, Wp_ret, Wp_exit, Wp_block, WpO_cons, WpO_nil, opQ, evOp, evO, evOs, evQ_some, guardV, guardQ_true, guardQ_false, boolQ_true, boolQ_false, argsA, pvs, putS, cellsOf, scals, scal, seqQ_normal, seqQ_ret, seqQ_exit, blkQ_normal, blkQ_ret, blkQ_exit, look_if, blkAt_if, if_true, if_false, Nat.reduceEqDiff, Nat.reduceAdd, true_implies, reduceCtorEq, false_implies, and_true, true_and, List.nil_append, List.cons_append, Bool.and_self, Nat.zero_add, Nat.add_zero, fieldA, nonNil, cellsAt, loadV_one, loadV_pvs, loadV_cons, mkAgg, allPV, List.drop_zero, List.drop_succ_cons, List.take_succ_cons, List.take_zero, List.length_cons, List.length_nil, Nat.beq_eq, storeB, patchL, beq_self_eq_true, ge_iff_le, gt_iff_lt, Int.reduceNeg, Int.reduceLE, Int.reduceLT, Int.reduceEq, extractV, List.getElem?_cons_zero, List.getElem?_cons_succ, mkAgg, Nat.add_eq_left, Nat.left_eq_add, Nat.one_ne_zero, ble_dec, beq_dec, decide_eq_true_eq, Nat.reduceLeDiff, Nat.le_refl, fillA, pureVs, pureV, beq_int, bne_int, Int.natCast_inj, eq_self, eqV, eqB, decide_true, decide_false, List.length_map, Int.toNat_natCast, List.getElem?_map, Option.map_some, Option.map_none, Int.natCast_nonneg, Option.some.injEq, lenV, binV, intBin, intV, idxA, ne_eq, not_true_eq_false, not_false_eq_true, List.drop, List.take, RetP, retP, resV, resOne, snapV, snapVs, snapR, snapRs, ownSz, pickV, cond_true, cond_false, bTT, bTF, bFT, bFF, Bool.not_true, Bool.not_false, AO.isC, Bool.or_true, Bool.true_or, Bool.or_false, Bool.false_or, WpE_cons, WpE_nil, opE, evE_some, guardE_true, guardE_false, WpD_cons, WpD_nil, opD, evD_some, guardD_true, guardD_false, h6]
end Go.Proofs.YtmeigdjfcecidaaDoor.Ab
/- Law 7: ApartLess, ApartBoth. -/
set_option linter.unusedVariables false
set_option linter.unusedSimpArgs false
namespace Go.Proofs.YtmeigdjfcecidaaDoor.Ab
open Go

def l07 : List (Nat × AFunc) := [(68, f68), (69, f69), (81, f81), (153, f153), (163, f163), (318, f318), (319, f319), (324, f324), (325, f325)]
def p07 : List (Nat × Prm) := [(103, isP)]
def T07 : Tab := tabOf l07 [] [] [] [324, 318] p07
theorem up07 : Gives T07 324 [] (.bool true) := ⟨rfl, rfl, none, callP_true (k := 60) (by decide +kernel)⟩

/-! ### The plain law -/
theorem apartFrom_none (ls : List Load) : ∀ (rest prev : List Pod), apartFrom ls prev rest = none ↔ (∀ p ∈ rest, ∀ q ∈ prev, twoB ls p q = false) ∧ rest.Pairwise (fun a b => twoB ls b a = false)
  | [], prev => by simp [apartFrom]
  | p :: r, prev => by
    simp only [apartFrom]
    by_cases h : prev.any (fun q => twoB ls p q) = true
    · rw [if_pos h]
      simp only [reduceCtorEq, false_iff]
      intro ⟨h1, _⟩
      obtain ⟨q, hq, hh⟩ := List.any_eq_true.1 h
      rw [h1 p (by simp) q hq] at hh
      simp at hh
    · rw [if_neg h, apartFrom_none ls r (prev ++ [p])]
      have h' : ∀ q ∈ prev, twoB ls p q = false := by
        intro q hq
        have := fun hh => h (List.any_eq_true.2 ⟨q, hq, hh⟩)
        simpa using this
      simp only [List.mem_append, List.pairwise_cons, List.mem_cons, List.not_mem_nil, or_false]
      constructor
      · rintro ⟨h1, h2⟩
        refine ⟨fun a ha q hq => ?_, fun a ha => h1 a ha p (.inr rfl), h2⟩
        rcases ha with rfl | ha
        · exact h' q hq
        · exact h1 a ha q (.inl hq)
      · rintro ⟨h1, h2, h3⟩
        refine ⟨fun a ha q hq => ?_, h3⟩
        rcases hq with hq | rfl
        · exact h1 a (.inr ha) q hq
        · exact h2 a ha
theorem apart_sub {ls : List Load} {a b : List Pod} (h : apartFrom ls [] b = none) (hs : a.Sublist b) : apartFrom ls [] a = none := by
  rw [apartFrom_none] at h ⊢
  exact ⟨fun p _ q hq => by simp at hq, h.2.sublist hs⟩

theorem law07a (s : Snap) (t : State) (n : Int) (_ : s.wf) (_ : t.wf) (_ : inI n) : Gives T07 318 [snapP s, stateP t, .int .i64 n] (.bool true) := by
  refine givesS (f := f318) ⟨rfl, rfl, rfl, rfl, rfl⟩ rfl ?_
  have kf := few5_ok (T := T07) ⟨rfl, rfl, rfl, rfl, rfl⟩ ⟨rfl, rfl, rfl, rfl, rfl⟩ s ⟨[], 0, 0⟩ t
  cases hf : few5 s ⟨[], 0, 0⟩ t
  · simp only [f318, Wp_seq, Wp_ops, Wp_cond, Wp_skip, Wp_ret, Wp_exit, Wp_block, WpO_cons, WpO_nil, opQ, evOp, evO, evOs, evQ_some, guardV, guardQ_true, guardQ_false, boolQ_true, boolQ_false, argsA, pvs, putS, cellsOf, scals, scal, seqQ_normal, seqQ_ret, seqQ_exit, blkQ_normal, blkQ_ret, blkQ_exit, look_if, blkAt_if, if_true, if_false, Nat.reduceEqDiff, Nat.reduceAdd, true_implies, reduceCtorEq, false_implies, and_true, true_and, List.nil_append, List.cons_append, Bool.and_self, Nat.zero_add, Nat.add_zero, fieldA, nonNil, cellsAt, loadV_one, loadV_pvs, loadV_cons, mkAgg, allPV, List.drop_zero, List.drop_succ_cons, List.take_succ_cons, List.take_zero, List.length_cons, List.length_nil, Nat.beq_eq, storeB, patchL, beq_self_eq_true, ge_iff_le, gt_iff_lt, Int.reduceNeg, Int.reduceLE, Int.reduceLT, Int.reduceEq, extractV, List.getElem?_cons_zero, List.getElem?_cons_succ, mkAgg, Nat.add_eq_left, Nat.left_eq_add, Nat.one_ne_zero, ble_dec, beq_dec, decide_eq_true_eq, Nat.reduceLeDiff, Nat.le_refl, fillA, pureVs, pureV, beq_int, bne_int, Int.natCast_inj, eq_self, eqV, eqB, decide_true, decide_false, List.length_map, Int.toNat_natCast, List.getElem?_map, Option.map_some, Option.map_none, Int.natCast_nonneg, Option.some.injEq, lenV, binV, intBin, intV, idxA, ne_eq, not_true_eq_false, not_false_eq_true, List.drop, List.take, RetP, retP, resV, resOne, snapV, snapVs, snapR, snapRs, ownSz, pickV, cond_true, cond_false, bTT, bTF, bFT, bFF, Bool.not_true, Bool.not_false, AO.isC, Bool.or_true, Bool.true_or, Bool.or_false, Bool.false_or, WpE_cons, WpE_nil, opE, evE_some, guardE_true, guardE_false, WpD_cons, WpD_nil, opD, evD_some, guardD_true, guardD_false, up07.call, snapP, specP, stateP, kf.call, hf, List.map_nil]
  · have hf' := hf
    simp only [few5, few3, Bool.and_eq_true, decide_eq_true_eq] at hf'
    obtain ⟨⟨l1, l2, l3⟩, l4, l5⟩ := hf'
    have b2 : s.loads.length ≤ 2 ^ 30 := by omega
    have b5 : t.pods.length ≤ 2 ^ 30 := by omega
    by_cases c1 : n < 0
    · simp only [f318, Wp_seq, Wp_ops, Wp_cond, Wp_skip, Wp_ret, Wp_exit, Wp_block, WpO_cons, WpO_nil, opQ, evOp, evO, evOs, evQ_some, guardV, guardQ_true, guardQ_false, boolQ_true, boolQ_false, argsA, pvs, putS, cellsOf, scals, scal, seqQ_normal, seqQ_ret, seqQ_exit, blkQ_normal, blkQ_ret, blkQ_exit, look_if, blkAt_if, if_true, if_false, Nat.reduceEqDiff, Nat.reduceAdd, true_implies, reduceCtorEq, false_implies, and_true, true_and, List.nil_append, List.cons_append, Bool.and_self, Nat.zero_add, Nat.add_zero, fieldA, nonNil, cellsAt, loadV_one, loadV_pvs, loadV_cons, mkAgg, allPV, List.drop_zero, List.drop_succ_cons, List.take_succ_cons, List.take_zero, List.length_cons, List.length_nil, Nat.beq_eq, storeB, patchL, beq_self_eq_true, ge_iff_le, gt_iff_lt, Int.reduceNeg, Int.reduceLE, Int.reduceLT, Int.reduceEq, extractV, List.getElem?_cons_zero, List.getElem?_cons_succ, mkAgg, Nat.add_eq_left, Nat.left_eq_add, Nat.one_ne_zero, ble_dec, beq_dec, decide_eq_true_eq, Nat.reduceLeDiff, Nat.le_refl, fillA, pureVs, pureV, beq_int, bne_int, Int.natCast_inj, eq_self, eqV, eqB, decide_true, decide_false, List.length_map, Int.toNat_natCast, List.getElem?_map, Option.map_some, Option.map_none, Int.natCast_nonneg, Option.some.injEq, lenV, binV, intBin, intV, idxA, ne_eq, not_true_eq_false, not_false_eq_true, List.drop, List.take, RetP, retP, resV, resOne, snapV, snapVs, snapR, snapRs, ownSz, pickV, cond_true, cond_false, bTT, bTF, bFT, bFF, Bool.not_true, Bool.not_false, AO.isC, Bool.or_true, Bool.true_or, Bool.or_false, Bool.false_or, WpE_cons, WpE_nil, opE, evE_some, guardE_true, guardE_false, WpD_cons, WpD_nil, opD, evD_some, guardD_true, guardD_false, up07.call, snapP, specP, stateP, kf.call, hf, List.map_nil, c1]
    · by_cases c2 : (t.pods.length : Int) ≤ n
      · simp only [f318, Wp_seq, Wp_ops, Wp_cond, Wp_skip, Wp_ret, Wp_exit, Wp_block, WpO_cons, WpO_nil, opQ, evOp, evO, evOs, evQ_some, guardV, guardQ_true, guardQ_false, boolQ_true, boolQ_false, argsA, pvs, putS, cellsOf, scals, scal, seqQ_normal, seqQ_ret, seqQ_exit, blkQ_normal, blkQ_ret, blkQ_exit, look_if, blkAt_if, if_true, if_false, Nat.reduceEqDiff, Nat.reduceAdd, true_implies, reduceCtorEq, false_implies, and_true, true_and, List.nil_append, List.cons_append, Bool.and_self, Nat.zero_add, Nat.add_zero, fieldA, nonNil, cellsAt, loadV_one, loadV_pvs, loadV_cons, mkAgg, allPV, List.drop_zero, List.drop_succ_cons, List.take_succ_cons, List.take_zero, List.length_cons, List.length_nil, Nat.beq_eq, storeB, patchL, beq_self_eq_true, ge_iff_le, gt_iff_lt, Int.reduceNeg, Int.reduceLE, Int.reduceLT, Int.reduceEq, extractV, List.getElem?_cons_zero, List.getElem?_cons_succ, mkAgg, Nat.add_eq_left, Nat.left_eq_add, Nat.one_ne_zero, ble_dec, beq_dec, decide_eq_true_eq, Nat.reduceLeDiff, Nat.le_refl, fillA, pureVs, pureV, beq_int, bne_int, Int.natCast_inj, eq_self, eqV, eqB, decide_true, decide_false, List.length_map, Int.toNat_natCast, List.getElem?_map, Option.map_some, Option.map_none, Int.natCast_nonneg, Option.some.injEq, lenV, binV, intBin, intV, idxA, ne_eq, not_true_eq_false, not_false_eq_true, List.drop, List.take, RetP, retP, resV, resOne, snapV, snapVs, snapR, snapRs, ownSz, pickV, cond_true, cond_false, bTT, bTF, bFT, bFF, Bool.not_true, Bool.not_false, AO.isC, Bool.or_true, Bool.true_or, Bool.or_false, Bool.false_or, WpE_cons, WpE_nil, opE, evE_some, guardE_true, guardE_false, WpD_cons, WpD_nil, opD, evD_some, guardD_true, guardD_false, up07.call, snapP, specP, stateP, kf.call, hf, List.map_nil, c1, c2]
      · obtain ⟨m, rfl⟩ : ∃ m : Nat, n = m := ⟨n.toNat, by omega⟩
        have k1 := apart_ok (T := T07) ⟨rfl, rfl, rfl, rfl, rfl⟩ ⟨rfl, rfl, rfl, rfl, rfl⟩ ⟨rfl, rfl, rfl, rfl, rfl⟩ s t b2 b5
        cases ho : apartFrom s.loads [] t.pods with
        | some q =>
          rw [ho] at k1
          simp only [f318, Wp_seq, Wp_ops, Wp_cond, Wp_skip, Wp_ret, Wp_exit, Wp_block, WpO_cons, WpO_nil, opQ, evOp, evO, evOs, evQ_some, guardV, guardQ_true, guardQ_false, boolQ_true, boolQ_false, argsA, pvs, putS, cellsOf, scals, scal, seqQ_normal, seqQ_ret, seqQ_exit, blkQ_normal, blkQ_ret, blkQ_exit, look_if, blkAt_if, if_true, if_false, Nat.reduceEqDiff, Nat.reduceAdd, true_implies, reduceCtorEq, false_implies, and_true, true_and, List.nil_append, List.cons_append, Bool.and_self, Nat.zero_add, Nat.add_zero, fieldA, nonNil, cellsAt, loadV_one, loadV_pvs, loadV_cons, mkAgg, allPV, List.drop_zero, List.drop_succ_cons, List.take_succ_cons, List.take_zero, List.length_cons, List.length_nil, Nat.beq_eq, storeB, patchL, beq_self_eq_true, ge_iff_le, gt_iff_lt, Int.reduceNeg, Int.reduceLE, Int.reduceLT, Int.reduceEq, extractV, List.getElem?_cons_zero, List.getElem?_cons_succ, mkAgg, Nat.add_eq_left, Nat.left_eq_add, Nat.one_ne_zero, ble_dec, beq_dec, decide_eq_true_eq, Nat.reduceLeDiff, Nat.le_refl, fillA, pureVs, pureV, beq_int, bne_int, Int.natCast_inj, eq_self, eqV, eqB, decide_true, decide_false, List.length_map, Int.toNat_natCast, List.getElem?_map, Option.map_some, Option.map_none, Int.natCast_nonneg, Option.some.injEq, lenV, binV, intBin, intV, idxA, ne_eq, not_true_eq_false, not_false_eq_true, List.drop, List.take, RetP, retP, resV, resOne, snapV, snapVs, snapR, snapRs, ownSz, pickV, cond_true, cond_false, bTT, bTF, bFT, bFF, Bool.not_true, Bool.not_false, AO.isC, Bool.or_true, Bool.true_or, Bool.or_false, Bool.false_or, WpE_cons, WpE_nil, opE, evE_some, guardE_true, guardE_false, WpD_cons, WpD_nil, opD, evD_some, guardD_true, guardD_false, up07.call, snapP, specP, stateP, kf.call, hf, List.map_nil, c1, c2, k1.call, errO, spotE]
        | none =>
          rw [ho] at k1
          have hm : m ≤ t.pods.length := by omega
          have hm1 : m + 1 ≤ t.pods.length := by omega
          have hw : IntKind.i64.wrap ((m : Int) + 1) = ((m + 1 : Nat) : Int) := by rw [wrap6] <;> omega
          simp only [f318, Wp_seq, Wp_ops, Wp_cond, Wp_skip, Wp_ret, Wp_exit, Wp_block, WpO_cons, WpO_nil, opQ, evOp, evO, evOs, evQ_some, guardV, guardQ_true, guardQ_false, boolQ_true, boolQ_false, argsA, pvs, putS, cellsOf, scals, scal, seqQ_normal, seqQ_ret, seqQ_exit, blkQ_normal, blkQ_ret, blkQ_exit, look_if, blkAt_if, if_true, if_false, Nat.reduceEqDiff, Nat.reduceAdd, true_implies, reduceCtorEq, false_implies, and_true, true_and, List.nil_append, List.cons_append, Bool.and_self, Nat.zero_add, Nat.add_zero, fieldA, nonNil, cellsAt, loadV_one, loadV_pvs, loadV_cons, mkAgg, allPV, List.drop_zero, List.drop_succ_cons, List.take_succ_cons, List.take_zero, List.length_cons, List.length_nil, Nat.beq_eq, storeB, patchL, beq_self_eq_true, ge_iff_le, gt_iff_lt, Int.reduceNeg, Int.reduceLE, Int.reduceLT, Int.reduceEq, extractV, List.getElem?_cons_zero, List.getElem?_cons_succ, mkAgg, Nat.add_eq_left, Nat.left_eq_add, Nat.one_ne_zero, ble_dec, beq_dec, decide_eq_true_eq, Nat.reduceLeDiff, Nat.le_refl, fillA, pureVs, pureV, beq_int, bne_int, Int.natCast_inj, eq_self, eqV, eqB, decide_true, decide_false, List.length_map, Int.toNat_natCast, List.getElem?_map, Option.map_some, Option.map_none, Int.natCast_nonneg, Option.some.injEq, lenV, binV, intBin, intV, idxA, ne_eq, not_true_eq_false, not_false_eq_true, List.drop, List.take, RetP, retP, resV, resOne, snapV, snapVs, snapR, snapRs, ownSz, pickV, cond_true, cond_false, bTT, bTF, bFT, bFF, Bool.not_true, Bool.not_false, AO.isC, Bool.or_true, Bool.true_or, Bool.or_false, Bool.false_or, WpE_cons, WpE_nil, opE, evE_some, guardE_true, guardE_false, WpD_cons, WpD_nil, opD, evD_some, guardD_true, guardD_false, up07.call, snapP, specP, stateP, kf.call, hf, List.map_nil, c1, c2, k1.call, errO]
          refine Wp_draws.2 ?_
          have hA : (t.pods.take m).length ≤ 2 ^ 30 := by rw [List.length_take]; omega
          have hD : ((t.pods.map podC).drop (m + 1)).take (t.pods.length - (m + 1)) = (t.pods.drop (m + 1)).map podC := by
            rw [← List.map_drop, List.take_of_length_le]
            simp
          have hB : (t.pods.take m).length + (t.pods.drop (m + 1)).length ≤ 2 ^ 30 := by rw [List.length_take, List.length_drop]; omega
          have hC : (t.pods.take m).map podC ++ (t.pods.drop (m + 1)).map podC = (t.pods.take m ++ t.pods.drop (m + 1)).map podC := (List.map_append ..).symm
          have hsub : (t.pods.take m ++ t.pods.drop (m + 1)).Sublist t.pods := by
            conv => rhs; rw [← List.take_append_drop m t.pods]
            refine List.Sublist.append (List.Sublist.refl _) ?_
            rw [← List.drop_drop]
            exact List.drop_sublist _ _
          have k2 := apart_ok (T := T07) ⟨rfl, rfl, rfl, rfl, rfl⟩ ⟨rfl, rfl, rfl, rfl, rfl⟩ ⟨rfl, rfl, rfl, rfl, rfl⟩ s ⟨t.pods.take m ++ t.pods.drop (m + 1), 0, 0⟩ b2 (by rw [List.length_append]; exact hB)
          have k3 := apart_ok (T := T07) ⟨rfl, rfl, rfl, rfl, rfl⟩ ⟨rfl, rfl, rfl, rfl, rfl⟩ ⟨rfl, rfl, rfl, rfl, rfl⟩ s ⟨t.pods.take m, 0, 0⟩ b2 hA
          rw [apart_sub ho hsub] at k2
          rw [apart_sub ho (List.take_sublist _ _)] at k3
          simp only [stateP, snapP, errO] at k2 k3
          simp only [frzAll, rowKeys, frzSs, frzS, frzF, frzH, frzB, frzV, frzVs, mkFun, blkAt, cond_true, cond_false, beq_self, Wp_seq, Wp_ops, Wp_cond, Wp_skip, Wp_ret, Wp_exit, Wp_block, WpO_cons, WpO_nil, opQ, evOp, evO, evOs, evQ_some, guardV, guardQ_true, guardQ_false, boolQ_true, boolQ_false, argsA, pvs, putS, cellsOf, scals, scal, seqQ_normal, seqQ_ret, seqQ_exit, blkQ_normal, blkQ_ret, blkQ_exit, look_if, blkAt_if, if_true, if_false, Nat.reduceEqDiff, Nat.reduceAdd, true_implies, reduceCtorEq, false_implies, and_true, true_and, List.nil_append, List.cons_append, Bool.and_self, Nat.zero_add, Nat.add_zero, fieldA, nonNil, cellsAt, loadV_one, loadV_pvs, loadV_cons, mkAgg, allPV, List.drop_zero, List.drop_succ_cons, List.take_succ_cons, List.take_zero, List.length_cons, List.length_nil, Nat.beq_eq, storeB, patchL, beq_self_eq_true, ge_iff_le, gt_iff_lt, Int.reduceNeg, Int.reduceLE, Int.reduceLT, Int.reduceEq, extractV, List.getElem?_cons_zero, List.getElem?_cons_succ, mkAgg, Nat.add_eq_left, Nat.left_eq_add, Nat.one_ne_zero, ble_dec, beq_dec, decide_eq_true_eq, Nat.reduceLeDiff, Nat.le_refl, fillA, pureVs, pureV, beq_int, bne_int, Int.natCast_inj, eq_self, eqV, eqB, decide_true, decide_false, List.length_map, Int.toNat_natCast, List.getElem?_map, Option.map_some, Option.map_none, Int.natCast_nonneg, Option.some.injEq, lenV, binV, intBin, intV, idxA, ne_eq, not_true_eq_false, not_false_eq_true, List.drop, List.take, RetP, retP, resV, resOne, snapV, snapVs, snapR, snapRs, ownSz, pickV, cond_true, cond_false, bTT, bTF, bFT, bFF, Bool.not_true, Bool.not_false, AO.isC, Bool.or_true, Bool.true_or, Bool.or_false, Bool.false_or, WpE_cons, WpE_nil, opE, evE_some, guardE_true, guardE_false, WpD_cons, WpD_nil, opD, evD_some, guardD_true, guardD_false, partsScal, srcV, chunk, appV, baseV, subV, bndO, allLen_pods, Option.getD_some, Option.getD_none, Nat.zero_le, hm, hm1, hw, Nat.sub_zero, ← List.map_take, hA, hD, hB, hC]
          refine ⟨?_, ?_⟩
          · simp only [chkFrom, allLt, storeB', restOK, mem, indepB, En.reads, aTmps, aTmpsL, aTmpsP, aTmpsO, gTmps, AO.tmps, disj, keys, optL, rdEv, idOf, List.reverse_cons, List.reverse_nil, List.nil_append, List.cons_append, List.append_nil, Wp_seq, Wp_ops, Wp_cond, Wp_skip, Wp_ret, Wp_exit, Wp_block, WpO_cons, WpO_nil, opQ, evOp, evO, evOs, evQ_some, guardV, guardQ_true, guardQ_false, boolQ_true, boolQ_false, argsA, pvs, putS, cellsOf, scals, scal, seqQ_normal, seqQ_ret, seqQ_exit, blkQ_normal, blkQ_ret, blkQ_exit, look_if, blkAt_if, if_true, if_false, Nat.reduceEqDiff, Nat.reduceAdd, true_implies, reduceCtorEq, false_implies, and_true, true_and, List.nil_append, List.cons_append, Bool.and_self, Nat.zero_add, Nat.add_zero, fieldA, nonNil, cellsAt, loadV_one, loadV_pvs, loadV_cons, mkAgg, allPV, List.drop_zero, List.drop_succ_cons, List.take_succ_cons, List.take_zero, List.length_cons, List.length_nil, Nat.beq_eq, storeB, patchL, beq_self_eq_true, ge_iff_le, gt_iff_lt, Int.reduceNeg, Int.reduceLE, Int.reduceLT, Int.reduceEq, extractV, List.getElem?_cons_zero, List.getElem?_cons_succ, mkAgg, Nat.add_eq_left, Nat.left_eq_add, Nat.one_ne_zero, ble_dec, beq_dec, decide_eq_true_eq, Nat.reduceLeDiff, Nat.le_refl, fillA, pureVs, pureV, beq_int, bne_int, Int.natCast_inj, eq_self, eqV, eqB, decide_true, decide_false, List.length_map, Int.toNat_natCast, List.getElem?_map, Option.map_some, Option.map_none, Int.natCast_nonneg, Option.some.injEq, lenV, binV, intBin, intV, idxA, ne_eq, not_true_eq_false, not_false_eq_true, List.drop, List.take, RetP, retP, resV, resOne, snapV, snapVs, snapR, snapRs, ownSz, pickV, cond_true, cond_false, bTT, bTF, bFT, bFF, Bool.not_true, Bool.not_false, AO.isC, Bool.or_true, Bool.true_or, Bool.or_false, Bool.false_or, WpE_cons, WpE_nil, opE, evE_some, guardE_true, guardE_false, WpD_cons, WpD_nil, opD, evD_some, guardD_true, guardD_false, Bool.and_true, Bool.true_and]; rfl
          · refine (Wp_calms rfl).2 ?_
            simp only [frzAll, rowKeys, frzSs, frzS, frzF, frzH, frzB, frzV, frzVs, mkFun, blkAt, cond_true, cond_false, beq_self, Wp_seq, Wp_ops, Wp_cond, Wp_skip, Wp_ret, Wp_exit, Wp_block, WpO_cons, WpO_nil, opQ, evOp, evO, evOs, evQ_some, guardV, guardQ_true, guardQ_false, boolQ_true, boolQ_false, argsA, pvs, putS, cellsOf, scals, scal, seqQ_normal, seqQ_ret, seqQ_exit, blkQ_normal, blkQ_ret, blkQ_exit, look_if, blkAt_if, if_true, if_false, Nat.reduceEqDiff, Nat.reduceAdd, true_implies, reduceCtorEq, false_implies, and_true, true_and, List.nil_append, List.cons_append, Bool.and_self, Nat.zero_add, Nat.add_zero, fieldA, nonNil, cellsAt, loadV_one, loadV_pvs, loadV_cons, mkAgg, allPV, List.drop_zero, List.drop_succ_cons, List.take_succ_cons, List.take_zero, List.length_cons, List.length_nil, Nat.beq_eq, storeB, patchL, beq_self_eq_true, ge_iff_le, gt_iff_lt, Int.reduceNeg, Int.reduceLE, Int.reduceLT, Int.reduceEq, extractV, List.getElem?_cons_zero, List.getElem?_cons_succ, mkAgg, Nat.add_eq_left, Nat.left_eq_add, Nat.one_ne_zero, ble_dec, beq_dec, decide_eq_true_eq, Nat.reduceLeDiff, Nat.le_refl, fillA, pureVs, pureV, beq_int, bne_int, Int.natCast_inj, eq_self, eqV, eqB, decide_true, decide_false, List.length_map, Int.toNat_natCast, List.getElem?_map, Option.map_some, Option.map_none, Int.natCast_nonneg, Option.some.injEq, lenV, binV, intBin, intV, idxA, ne_eq, not_true_eq_false, not_false_eq_true, List.drop, List.take, RetP, retP, resV, resOne, snapV, snapVs, snapR, snapRs, ownSz, pickV, cond_true, cond_false, bTT, bTF, bFT, bFF, Bool.not_true, Bool.not_false, AO.isC, Bool.or_true, Bool.true_or, Bool.or_false, Bool.false_or, WpE_cons, WpE_nil, opE, evE_some, guardE_true, guardE_false, WpD_cons, WpD_nil, opD, evD_some, guardD_true, guardD_false, k2.callD, k3.callD, subV, bndO, allLen_pods, Option.getD_some, Option.getD_none, Nat.zero_le, hm, Nat.sub_zero, ← List.map_take]

/-! ### ApartBoth: the plain law -/
theorem two_symm {ls : List Load} {a b : Pod} (h : twoB ls a b = true) : twoB ls b a = true := by
  simp only [twoB, Bool.and_eq_true, decide_eq_true_eq] at h ⊢
  obtain ⟨h1, h2, h3, h4⟩ := h
  exact ⟨h1.symm, h2.symm, by rw [← h2]; exact h3, by rw [← h1]; exact h4⟩
theorem partner_some {ls : List Load} {p : Pod} {i : Nat} {q : Pod} : ∀ {rest : List Pod} {k : Nat}, partnerFrom ls p i k rest = some q → ∃ j, rest[j]? = some q ∧ i ≠ k + j ∧ twoB ls p q = true
  | [], k, h => by simp [partnerFrom] at h
  | a :: r, k, h => by
    simp only [partnerFrom] at h
    split at h
    · rename_i hc
      simp only [Option.some.injEq] at h
      subst h
      exact ⟨0, rfl, by simpa using hc.1, hc.2⟩
    · obtain ⟨j, h1, h2, h3⟩ := partner_some h
      exact ⟨j + 1, by simpa using h1, by omega, h3⟩
theorem partner_none {ls : List Load} {p : Pod} {i : Nat} : ∀ {rest : List Pod} {k : Nat}, partnerFrom ls p i k rest = none → ∀ j q, rest[j]? = some q → i ≠ k + j → twoB ls p q = false
  | [], k, h => by simp
  | a :: r, k, h => by
    simp only [partnerFrom] at h
    split at h
    · simp at h
    · rename_i hc
      intro j q hj hne
      cases j with
      | zero =>
        simp at hj
        subst hj
        cases ht : twoB ls p a with
        | false => rfl
        | true => exact absurd ⟨by simpa using hne, ht⟩ hc
      | succ j => exact partner_none h j q (by simpa using hj) (by omega)

/-- All Ids are from 1 on, and rise. -/
def risesFrom : Option Int → List Pod → Bool
  | _, [] => true
  | none, p :: r => decide (1 ≤ p.id) && risesFrom (some p.id) r
  | some x, p :: r => decide (x < p.id) && (decide (1 ≤ p.id) && risesFrom (some p.id) r)
theorem rises_some : ∀ {l : List Pod} {x : Int}, risesFrom (some x) l = true → (∀ p ∈ l, x < p.id ∧ 1 ≤ p.id) ∧ l.Pairwise (fun a b => a.id < b.id)
  | [], x, h => by simp
  | p :: r, x, h => by
    simp only [risesFrom, Bool.and_eq_true, decide_eq_true_eq] at h
    obtain ⟨h1, h2, h3⟩ := h
    obtain ⟨g1, g2⟩ := rises_some h3
    refine ⟨fun q hq => ?_, List.pairwise_cons.2 ⟨fun q hq => (g1 q hq).1, g2⟩⟩
    rcases List.mem_cons.1 hq with rfl | hq
    · exact ⟨h1, h2⟩
    · have := g1 q hq; omega
theorem rises_none : ∀ {l : List Pod}, risesFrom none l = true → (∀ p ∈ l, 1 ≤ p.id) ∧ l.Pairwise (fun a b => a.id < b.id)
  | [], h => by simp
  | p :: r, h => by
    simp only [risesFrom, Bool.and_eq_true, decide_eq_true_eq] at h
    obtain ⟨g1, g2⟩ := rises_some h.2
    refine ⟨fun q hq => ?_, List.pairwise_cons.2 ⟨fun q hq => (g1 q hq).1, g2⟩⟩
    rcases List.mem_cons.1 hq with rfl | hq
    · exact h.1
    · exact (g1 q hq).2
theorem ids_ne {l : List Pod} (h : l.Pairwise (fun a b => a.id < b.id)) {i j : Nat} {p q : Pod} (hi : l[i]? = some p) (hj : l[j]? = some q) (hne : i ≠ j) : p.id ≠ q.id := by
  obtain ⟨h1, rfl⟩ := List.getElem?_eq_some_iff.1 hi
  obtain ⟨h2, rfl⟩ := List.getElem?_eq_some_iff.1 hj
  rw [List.pairwise_iff_getElem] at h
  rcases Nat.lt_or_gt_of_ne hne with h3 | h3
  · have := h i j h1 h2 h3; omega
  · have := h j i h2 h1 h3; omega
theorem clash_at {ls : List Load} {pods : List Pod} (h : pods.Pairwise (fun a b => a.id < b.id)) {i : Nat} {p : Pod} (hi : pods[i]? = some p) : clashFrom ls pods p.id 0 pods = idOr (partnerFrom ls p i 0 pods) := by
  have key : ∀ (rest : List Pod) (j : Nat), pods.drop j = rest → j ≤ i → clashFrom ls pods p.id j rest = idOr (partnerFrom ls p i 0 pods) := by
    intro rest
    induction rest with
    | nil =>
      intro j hd hj
      have := congrArg List.length hd
      simp at this
      have := (List.getElem?_eq_some_iff.1 hi).1
      omega
    | cons q r ih =>
      intro j hd hj
      have hq : pods[j]? = some q := by
        have := congrArg (·[0]?) hd
        simpa using this
      simp only [clashFrom]
      by_cases hij : j = i
      · subst hij
        rw [hi] at hq
        simp only [Option.some.injEq] at hq
        subst hq
        rw [if_pos rfl]
      · rw [if_neg (ids_ne h hq hi hij)]
        exact ih (j + 1) (by rw [← List.drop_drop, hd]; rfl) (by omega)
  exact key pods 0 rfl (Nat.zero_le _)
def clashB (ls : List Load) (pods : List Pod) (p : Pod) : Bool := decide (clashFrom ls pods p.id 0 pods ≠ 0)
theorem both1 {ls : List Load} {pods : List Pod} (h : risesFrom none pods = true) {p : Pod} (hp : p ∈ pods) (hc : clashFrom ls pods p.id 0 pods ≠ 0) :
    clashFrom ls pods p.id 0 pods ≠ p.id ∧ clashFrom ls pods (clashFrom ls pods p.id 0 pods) 0 pods ≠ 0 := by
  obtain ⟨h1, h2⟩ := rises_none h
  obtain ⟨i, hi⟩ := List.mem_iff_getElem?.1 hp
  rw [clash_at h2 hi] at hc ⊢
  cases ho : partnerFrom ls p i 0 pods with
  | none => rw [ho] at hc; exact absurd rfl hc
  | some q =>
    obtain ⟨j, hj, hne, ht⟩ := partner_some ho
    rw [Nat.zero_add] at hne
    simp only [idOr]
    refine ⟨(ids_ne h2 hi hj hne).symm, ?_⟩
    rw [clash_at h2 hj]
    cases hr : partnerFrom ls q j 0 pods with
    | none =>
      have := partner_none hr i p hi (by omega)
      rw [two_symm ht] at this
      simp at this
    | some r =>
      obtain ⟨k, hk, _, _⟩ := partner_some hr
      have := h1 r (List.mem_iff_getElem?.2 ⟨k, hk⟩)
      simp only [idOr]
      omega
theorem both2 {ls : List Load} {pods : List Pod} (h : risesFrom none pods = true) : (pods.any (clashB ls pods) = true) ↔ apartFrom ls [] pods ≠ none := by
  obtain ⟨h1, h2⟩ := rises_none h
  rw [ne_eq, apartFrom_none]
  simp only [List.not_mem_nil, false_implies, implies_true, true_and]
  rw [List.pairwise_iff_getElem]
  constructor
  · intro ha hpw
    obtain ⟨p, hp, hc⟩ := List.any_eq_true.1 ha
    simp only [clashB, decide_eq_true_eq] at hc
    obtain ⟨i, hi⟩ := List.mem_iff_getElem?.1 hp
    rw [clash_at h2 hi] at hc
    cases ho : partnerFrom ls p i 0 pods with
    | none => rw [ho] at hc; exact absurd rfl hc
    | some q =>
      obtain ⟨j, hj, hne, ht⟩ := partner_some ho
      rw [Nat.zero_add] at hne
      obtain ⟨l1, rfl⟩ := List.getElem?_eq_some_iff.1 hi
      obtain ⟨l2, rfl⟩ := List.getElem?_eq_some_iff.1 hj
      rcases Nat.lt_or_gt_of_ne hne with h3 | h3
      · have := hpw i j l1 l2 h3; rw [two_symm ht] at this; simp at this
      · have := hpw j i l2 l1 h3; rw [ht] at this; simp at this
  · intro hn
    refine Classical.byContradiction fun ha => hn fun i j hi hj hij => ?_
    have ha' : ∀ p ∈ pods, clashFrom ls pods p.id 0 pods = 0 := by
      intro p hp
      have := fun hc => ha (List.any_eq_true.2 ⟨p, hp, hc⟩)
      simpa [clashB] using this
    have hz := ha' pods[j] (List.getElem_mem hj)
    have gj : pods[j]? = some pods[j] := List.getElem?_eq_getElem hj
    rw [clash_at h2 gj] at hz
    cases ho : partnerFrom ls pods[j] j 0 pods with
    | none => exact partner_none ho i pods[i] (List.getElem?_eq_getElem hi) (by omega)
    | some q =>
      rw [ho] at hz
      obtain ⟨k, hk, _, _⟩ := partner_some ho
      have := h1 q (List.mem_iff_getElem?.2 ⟨k, hk⟩)
      simp only [idOr] at hz
      omega

/-! ### ApartBoth: the walk -/
theorem both_l0 {T : Tab} (t : State) (ht : t.pods.length ≤ 2 ^ 30) (Q : Exit → St → Prop) (hp : Hl) (nx : Nat) (b1 : blkAt hp 1 = .var [.pv (.slice (t.pods.map podC)), .pv (.int .i64 t.pre), .pv (.int .i64 t.shi)]) (fr0 : List (Nat × AV)) (hQ : Q = Q)
    (hret : ∀ fr, look fr 4 = .pv (.bool true) → Q .ret ⟨fr, hp, nx⟩)
    (hend : risesFrom none t.pods = true → ∀ fr, look fr 2 = .ptr 0 0 0 → look fr 3 = .ptr 1 0 0 → look fr 5 = .pv (.bool true) → look fr 7 = .pv (.bool false) → Q (.exit 0) ⟨fr, hp, nx⟩) :
    ∀ (rest : List Pod) (i : Nat) (prev : Option Int), t.pods.drop i = rest → i ≤ t.pods.length → (prev = none ∧ i = 0 ∨ ∃ j p, i = j + 1 ∧ t.pods[j]? = some p ∧ prev = some p.id) → (risesFrom prev rest = true → risesFrom none t.pods = true) →
      ∀ (fr : List (Nat × AV)), look fr 2 = .ptr 0 0 0 → look fr 3 = .ptr 1 0 0 → look fr 5 = .pv (.bool true) → look fr 7 = .pv (.bool false) → look fr 8 = .pv (.int .i64 i) → Wp T false (.loop f319l0) ⟨fr, hp, nx⟩ Q := by
  intro rest
  induction rest with
  | nil =>
    intro i prev hd hi hpv hr fr h2 h3 h5 h7 h8
    have hlen := drop_nil hd hi
    rw [Wp_loop, Wp_eq f319l0.eq_1]
    simp only [Wp_seq, Wp_ops, Wp_cond, Wp_skip, Wp_ret, Wp_exit, Wp_block, WpO_cons, WpO_nil, opQ, evOp, evO, evOs, evQ_some, guardV, guardQ_true, guardQ_false, boolQ_true, boolQ_false, argsA, pvs, putS, cellsOf, scals, scal, seqQ_normal, seqQ_ret, seqQ_exit, blkQ_normal, blkQ_ret, blkQ_exit, look_if, blkAt_if, if_true, if_false, Nat.reduceEqDiff, Nat.reduceAdd, true_implies, reduceCtorEq, false_implies, and_true, true_and, List.nil_append, List.cons_append, Bool.and_self, Nat.zero_add, Nat.add_zero, fieldA, nonNil, cellsAt, loadV_one, loadV_pvs, loadV_cons, mkAgg, allPV, List.drop_zero, List.drop_succ_cons, List.take_succ_cons, List.take_zero, List.length_cons, List.length_nil, Nat.beq_eq, storeB, patchL, beq_self_eq_true, ge_iff_le, gt_iff_lt, Int.reduceNeg, Int.reduceLE, Int.reduceLT, Int.reduceEq, extractV, List.getElem?_cons_zero, List.getElem?_cons_succ, mkAgg, Nat.add_eq_left, Nat.left_eq_add, Nat.one_ne_zero, ble_dec, beq_dec, decide_eq_true_eq, Nat.reduceLeDiff, Nat.le_refl, fillA, pureVs, pureV, beq_int, bne_int, Int.natCast_inj, eq_self, eqV, eqB, decide_true, decide_false, List.length_map, Int.toNat_natCast, List.getElem?_map, Option.map_some, Option.map_none, Int.natCast_nonneg, Option.some.injEq, lenV, binV, intBin, intV, idxA, ne_eq, not_true_eq_false, not_false_eq_true, List.drop, List.take, RetP, retP, resV, resOne, snapV, snapVs, snapR, snapRs, ownSz, pickV, cond_true, cond_false, bTT, bTF, bFT, bFF, Bool.not_true, Bool.not_false, AO.isC, Bool.or_true, Bool.true_or, Bool.or_false, Bool.false_or, WpE_cons, WpE_nil, opE, evE_some, guardE_true, guardE_false, WpD_cons, WpD_nil, opD, evD_some, guardD_true, guardD_false, h3, b1, h8, hlen, Int.lt_irrefl]
    refine hend (hr (by cases prev <;> rfl)) _ ?_ ?_ ?_ ?_
    all_goals simp only [look_if, Nat.reduceEqDiff, if_false, h2, h3, h5, h7]
  | cons p r ih =>
    intro i prev hd hi hpv hr fr h2 h3 h5 h7 h8
    obtain ⟨hget, hlt, hw, hd', hi', hbb⟩ := drop_cons hd ht
    rw [Wp_loop, Wp_eq f319l0.eq_1]
    simp only [Wp_seq, Wp_ops, Wp_cond, Wp_skip, Wp_ret, Wp_exit, Wp_block, WpO_cons, WpO_nil, opQ, evOp, evO, evOs, evQ_some, guardV, guardQ_true, guardQ_false, boolQ_true, boolQ_false, argsA, pvs, putS, cellsOf, scals, scal, seqQ_normal, seqQ_ret, seqQ_exit, blkQ_normal, blkQ_ret, blkQ_exit, look_if, blkAt_if, if_true, if_false, Nat.reduceEqDiff, Nat.reduceAdd, true_implies, reduceCtorEq, false_implies, and_true, true_and, List.nil_append, List.cons_append, Bool.and_self, Nat.zero_add, Nat.add_zero, fieldA, nonNil, cellsAt, loadV_one, loadV_pvs, loadV_cons, mkAgg, allPV, List.drop_zero, List.drop_succ_cons, List.take_succ_cons, List.take_zero, List.length_cons, List.length_nil, Nat.beq_eq, storeB, patchL, beq_self_eq_true, ge_iff_le, gt_iff_lt, Int.reduceNeg, Int.reduceLE, Int.reduceLT, Int.reduceEq, extractV, List.getElem?_cons_zero, List.getElem?_cons_succ, mkAgg, Nat.add_eq_left, Nat.left_eq_add, Nat.one_ne_zero, ble_dec, beq_dec, decide_eq_true_eq, Nat.reduceLeDiff, Nat.le_refl, fillA, pureVs, pureV, beq_int, bne_int, Int.natCast_inj, eq_self, eqV, eqB, decide_true, decide_false, List.length_map, Int.toNat_natCast, List.getElem?_map, Option.map_some, Option.map_none, Int.natCast_nonneg, Option.some.injEq, lenV, binV, intBin, intV, idxA, ne_eq, not_true_eq_false, not_false_eq_true, List.drop, List.take, RetP, retP, resV, resOne, snapV, snapVs, snapR, snapRs, ownSz, pickV, cond_true, cond_false, bTT, bTF, bFT, bFF, Bool.not_true, Bool.not_false, AO.isC, Bool.or_true, Bool.true_or, Bool.or_false, Bool.false_or, WpE_cons, WpE_nil, opE, evE_some, guardE_true, guardE_false, WpD_cons, WpD_nil, opD, evD_some, guardD_true, guardD_false, h3, b1, h8, hlt]
    refine (Wp_calm rfl).2 ?_
    have again : risesFrom (some p.id) r = true → (risesFrom prev (p :: r) = true) → risesFrom none t.pods = true := fun _ h => hr h
    rcases hpv with ⟨rfl, hz⟩ | ⟨j, q, rfl, hq, rfl⟩
    · have hj0 : ¬ (0 : Int) < (i : Int) := by omega
      by_cases c2 : p.id < 1
      · simp only [Wp_seq, Wp_ops, Wp_cond, Wp_skip, Wp_ret, Wp_exit, Wp_block, WpO_cons, WpO_nil, opQ, evOp, evO, evOs, evQ_some, guardV, guardQ_true, guardQ_false, boolQ_true, boolQ_false, argsA, pvs, putS, cellsOf, scals, scal, seqQ_normal, seqQ_ret, seqQ_exit, blkQ_normal, blkQ_ret, blkQ_exit, look_if, blkAt_if, if_true, if_false, Nat.reduceEqDiff, Nat.reduceAdd, true_implies, reduceCtorEq, false_implies, and_true, true_and, List.nil_append, List.cons_append, Bool.and_self, Nat.zero_add, Nat.add_zero, fieldA, nonNil, cellsAt, loadV_one, loadV_pvs, loadV_cons, mkAgg, allPV, List.drop_zero, List.drop_succ_cons, List.take_succ_cons, List.take_zero, List.length_cons, List.length_nil, Nat.beq_eq, storeB, patchL, beq_self_eq_true, ge_iff_le, gt_iff_lt, Int.reduceNeg, Int.reduceLE, Int.reduceLT, Int.reduceEq, extractV, List.getElem?_cons_zero, List.getElem?_cons_succ, mkAgg, Nat.add_eq_left, Nat.left_eq_add, Nat.one_ne_zero, ble_dec, beq_dec, decide_eq_true_eq, Nat.reduceLeDiff, Nat.le_refl, fillA, pureVs, pureV, beq_int, bne_int, Int.natCast_inj, eq_self, eqV, eqB, decide_true, decide_false, List.length_map, Int.toNat_natCast, List.getElem?_map, Option.map_some, Option.map_none, Int.natCast_nonneg, Option.some.injEq, lenV, binV, intBin, intV, idxA, ne_eq, not_true_eq_false, not_false_eq_true, List.drop, List.take, RetP, retP, resV, resOne, snapV, snapVs, snapR, snapRs, ownSz, pickV, cond_true, cond_false, bTT, bTF, bFT, bFF, Bool.not_true, Bool.not_false, AO.isC, Bool.or_true, Bool.true_or, Bool.or_false, Bool.false_or, WpE_cons, WpE_nil, opE, evE_some, guardE_true, guardE_false, WpD_cons, WpD_nil, opD, evD_some, guardD_true, guardD_false, h3, b1, h8, hget, podC, c2, h5, hj0]
        exact hret _ (by simp only [look_if, Nat.reduceEqDiff, if_true, if_false])
      · simp only [Wp_seq, Wp_ops, Wp_cond, Wp_skip, Wp_ret, Wp_exit, Wp_block, WpO_cons, WpO_nil, opQ, evOp, evO, evOs, evQ_some, guardV, guardQ_true, guardQ_false, boolQ_true, boolQ_false, argsA, pvs, putS, cellsOf, scals, scal, seqQ_normal, seqQ_ret, seqQ_exit, blkQ_normal, blkQ_ret, blkQ_exit, look_if, blkAt_if, if_true, if_false, Nat.reduceEqDiff, Nat.reduceAdd, true_implies, reduceCtorEq, false_implies, and_true, true_and, List.nil_append, List.cons_append, Bool.and_self, Nat.zero_add, Nat.add_zero, fieldA, nonNil, cellsAt, loadV_one, loadV_pvs, loadV_cons, mkAgg, allPV, List.drop_zero, List.drop_succ_cons, List.take_succ_cons, List.take_zero, List.length_cons, List.length_nil, Nat.beq_eq, storeB, patchL, beq_self_eq_true, ge_iff_le, gt_iff_lt, Int.reduceNeg, Int.reduceLE, Int.reduceLT, Int.reduceEq, extractV, List.getElem?_cons_zero, List.getElem?_cons_succ, mkAgg, Nat.add_eq_left, Nat.left_eq_add, Nat.one_ne_zero, ble_dec, beq_dec, decide_eq_true_eq, Nat.reduceLeDiff, Nat.le_refl, fillA, pureVs, pureV, beq_int, bne_int, Int.natCast_inj, eq_self, eqV, eqB, decide_true, decide_false, List.length_map, Int.toNat_natCast, List.getElem?_map, Option.map_some, Option.map_none, Int.natCast_nonneg, Option.some.injEq, lenV, binV, intBin, intV, idxA, ne_eq, not_true_eq_false, not_false_eq_true, List.drop, List.take, RetP, retP, resV, resOne, snapV, snapVs, snapR, snapRs, ownSz, pickV, cond_true, cond_false, bTT, bTF, bFT, bFF, Bool.not_true, Bool.not_false, AO.isC, Bool.or_true, Bool.true_or, Bool.or_false, Bool.false_or, WpE_cons, WpE_nil, opE, evE_some, guardE_true, guardE_false, WpD_cons, WpD_nil, opD, evD_some, guardD_true, guardD_false, h3, b1, h8, hget, podC, c2, h5, hj0, hw]
        refine ih (i + 1) (some p.id) hd' hi' (.inr ⟨i, p, rfl, hget, rfl⟩) (fun hh => hr (by simp only [risesFrom, hh, Bool.and_true, decide_eq_true_eq]; omega)) _ ?_ ?_ ?_ ?_ ?_
        all_goals simp only [look_if, Nat.reduceEqDiff, if_true, if_false, h2, h3, h5, h7]
    · have hj0 : (0 : Int) < ((j + 1 : Nat) : Int) := by omega
      have hws : IntKind.i64.wrap (((j + 1 : Nat) : Int) - 1) = (j : Int) := by rw [wrap6] <;> omega
      have hjn : (0 : Int) ≤ (j : Int) := by omega
      have hjt : (j : Int).toNat = j := by omega
      by_cases c1 : p.id ≤ q.id
      · simp only [Wp_seq, Wp_ops, Wp_cond, Wp_skip, Wp_ret, Wp_exit, Wp_block, WpO_cons, WpO_nil, opQ, evOp, evO, evOs, evQ_some, guardV, guardQ_true, guardQ_false, boolQ_true, boolQ_false, argsA, pvs, putS, cellsOf, scals, scal, seqQ_normal, seqQ_ret, seqQ_exit, blkQ_normal, blkQ_ret, blkQ_exit, look_if, blkAt_if, if_true, if_false, Nat.reduceEqDiff, Nat.reduceAdd, true_implies, reduceCtorEq, false_implies, and_true, true_and, List.nil_append, List.cons_append, Bool.and_self, Nat.zero_add, Nat.add_zero, fieldA, nonNil, cellsAt, loadV_one, loadV_pvs, loadV_cons, mkAgg, allPV, List.drop_zero, List.drop_succ_cons, List.take_succ_cons, List.take_zero, List.length_cons, List.length_nil, Nat.beq_eq, storeB, patchL, beq_self_eq_true, ge_iff_le, gt_iff_lt, Int.reduceNeg, Int.reduceLE, Int.reduceLT, Int.reduceEq, extractV, List.getElem?_cons_zero, List.getElem?_cons_succ, mkAgg, Nat.add_eq_left, Nat.left_eq_add, Nat.one_ne_zero, ble_dec, beq_dec, decide_eq_true_eq, Nat.reduceLeDiff, Nat.le_refl, fillA, pureVs, pureV, beq_int, bne_int, Int.natCast_inj, eq_self, eqV, eqB, decide_true, decide_false, List.length_map, Int.toNat_natCast, List.getElem?_map, Option.map_some, Option.map_none, Int.natCast_nonneg, Option.some.injEq, lenV, binV, intBin, intV, idxA, ne_eq, not_true_eq_false, not_false_eq_true, List.drop, List.take, RetP, retP, resV, resOne, snapV, snapVs, snapR, snapRs, ownSz, pickV, cond_true, cond_false, bTT, bTF, bFT, bFF, Bool.not_true, Bool.not_false, AO.isC, Bool.or_true, Bool.true_or, Bool.or_false, Bool.false_or, WpE_cons, WpE_nil, opE, evE_some, guardE_true, guardE_false, WpD_cons, WpD_nil, opD, evD_some, guardD_true, guardD_false, h3, b1, h8, hget, podC, h5, hj0, hws, hjn, hjt, hq, c1]
        exact hret _ (by simp only [look_if, Nat.reduceEqDiff, if_true, if_false])
      · by_cases c2 : p.id < 1
        · simp only [Wp_seq, Wp_ops, Wp_cond, Wp_skip, Wp_ret, Wp_exit, Wp_block, WpO_cons, WpO_nil, opQ, evOp, evO, evOs, evQ_some, guardV, guardQ_true, guardQ_false, boolQ_true, boolQ_false, argsA, pvs, putS, cellsOf, scals, scal, seqQ_normal, seqQ_ret, seqQ_exit, blkQ_normal, blkQ_ret, blkQ_exit, look_if, blkAt_if, if_true, if_false, Nat.reduceEqDiff, Nat.reduceAdd, true_implies, reduceCtorEq, false_implies, and_true, true_and, List.nil_append, List.cons_append, Bool.and_self, Nat.zero_add, Nat.add_zero, fieldA, nonNil, cellsAt, loadV_one, loadV_pvs, loadV_cons, mkAgg, allPV, List.drop_zero, List.drop_succ_cons, List.take_succ_cons, List.take_zero, List.length_cons, List.length_nil, Nat.beq_eq, storeB, patchL, beq_self_eq_true, ge_iff_le, gt_iff_lt, Int.reduceNeg, Int.reduceLE, Int.reduceLT, Int.reduceEq, extractV, List.getElem?_cons_zero, List.getElem?_cons_succ, mkAgg, Nat.add_eq_left, Nat.left_eq_add, Nat.one_ne_zero, ble_dec, beq_dec, decide_eq_true_eq, Nat.reduceLeDiff, Nat.le_refl, fillA, pureVs, pureV, beq_int, bne_int, Int.natCast_inj, eq_self, eqV, eqB, decide_true, decide_false, List.length_map, Int.toNat_natCast, List.getElem?_map, Option.map_some, Option.map_none, Int.natCast_nonneg, Option.some.injEq, lenV, binV, intBin, intV, idxA, ne_eq, not_true_eq_false, not_false_eq_true, List.drop, List.take, RetP, retP, resV, resOne, snapV, snapVs, snapR, snapRs, ownSz, pickV, cond_true, cond_false, bTT, bTF, bFT, bFF, Bool.not_true, Bool.not_false, AO.isC, Bool.or_true, Bool.true_or, Bool.or_false, Bool.false_or, WpE_cons, WpE_nil, opE, evE_some, guardE_true, guardE_false, WpD_cons, WpD_nil, opD, evD_some, guardD_true, guardD_false, h3, b1, h8, hget, podC, h5, hj0, hws, hjn, hjt, hq, c1, c2]
          exact hret _ (by simp only [look_if, Nat.reduceEqDiff, if_true, if_false])
        · simp only [Wp_seq, Wp_ops, Wp_cond, Wp_skip, Wp_ret, Wp_exit, Wp_block, WpO_cons, WpO_nil, opQ, evOp, evO, evOs, evQ_some, guardV, guardQ_true, guardQ_false, boolQ_true, boolQ_false, argsA, pvs, putS, cellsOf, scals, scal, seqQ_normal, seqQ_ret, seqQ_exit, blkQ_normal, blkQ_ret, blkQ_exit, look_if, blkAt_if, if_true, if_false, Nat.reduceEqDiff, Nat.reduceAdd, true_implies, reduceCtorEq, false_implies, and_true, true_and, List.nil_append, List.cons_append, Bool.and_self, Nat.zero_add, Nat.add_zero, fieldA, nonNil, cellsAt, loadV_one, loadV_pvs, loadV_cons, mkAgg, allPV, List.drop_zero, List.drop_succ_cons, List.take_succ_cons, List.take_zero, List.length_cons, List.length_nil, Nat.beq_eq, storeB, patchL, beq_self_eq_true, ge_iff_le, gt_iff_lt, Int.reduceNeg, Int.reduceLE, Int.reduceLT, Int.reduceEq, extractV, List.getElem?_cons_zero, List.getElem?_cons_succ, mkAgg, Nat.add_eq_left, Nat.left_eq_add, Nat.one_ne_zero, ble_dec, beq_dec, decide_eq_true_eq, Nat.reduceLeDiff, Nat.le_refl, fillA, pureVs, pureV, beq_int, bne_int, Int.natCast_inj, eq_self, eqV, eqB, decide_true, decide_false, List.length_map, Int.toNat_natCast, List.getElem?_map, Option.map_some, Option.map_none, Int.natCast_nonneg, Option.some.injEq, lenV, binV, intBin, intV, idxA, ne_eq, not_true_eq_false, not_false_eq_true, List.drop, List.take, RetP, retP, resV, resOne, snapV, snapVs, snapR, snapRs, ownSz, pickV, cond_true, cond_false, bTT, bTF, bFT, bFF, Bool.not_true, Bool.not_false, AO.isC, Bool.or_true, Bool.true_or, Bool.or_false, Bool.false_or, WpE_cons, WpE_nil, opE, evE_some, guardE_true, guardE_false, WpD_cons, WpD_nil, opD, evD_some, guardD_true, guardD_false, h3, b1, h8, hget, podC, h5, hj0, hws, hjn, hjt, hq, c1, c2, hw]
          refine ih (j + 1 + 1) (some p.id) hd' hi' (.inr ⟨j + 1, p, rfl, hget, rfl⟩) (fun hh => hr (by simp only [risesFrom, hh, Bool.and_true, Bool.and_eq_true, decide_eq_true_eq]; omega)) _ ?_ ?_ ?_ ?_ ?_
          all_goals simp only [look_if, Nat.reduceEqDiff, if_true, if_false, h2, h3, h5, h7]

theorem both_l1 (s : Snap) (t : State) (hs : s.loads.length ≤ 2 ^ 30) (ht : t.pods.length ≤ 2 ^ 30) (hg : risesFrom none t.pods = true) (Q : Exit → St → Prop) (hp : Hl) (nx : Nat)
    (b0 : blkAt hp 0 = .var [.pv (.slice (s.nodes.map nodeC)), .pv (.slice (s.loads.map loadC)), .pv (.slice (s.pods.map podC))]) (b1 : blkAt hp 1 = .var [.pv (.slice (t.pods.map podC)), .pv (.int .i64 t.pre), .pv (.int .i64 t.shi)]) (tot : Bool)
    (hend : ∀ fr, look fr 2 = .ptr 0 0 0 → look fr 3 = .ptr 1 0 0 → look fr 5 = .pv (.bool true) → look fr 7 = .pv (.bool tot) → Q (.exit 2) ⟨fr, hp, nx⟩) :
    ∀ (rest : List Pod) (i : Nat) (c : Bool), t.pods.drop i = rest → i ≤ t.pods.length → (c || rest.any (clashB s.loads t.pods)) = tot →
      ∀ (fr : List (Nat × AV)), look fr 2 = .ptr 0 0 0 → look fr 3 = .ptr 1 0 0 → look fr 5 = .pv (.bool true) → look fr 7 = .pv (.bool c) → look fr 9 = .pv (.int .i64 i) → Wp T07 false (.loop f319l1) ⟨fr, hp, nx⟩ Q := by
  intro rest
  induction rest with
  | nil =>
    intro i c hd hi hc fr h2 h3 h5 h7 h9
    have hlen := drop_nil hd hi
    rw [Wp_loop, Wp_eq f319l1.eq_1]
    simp only [Wp_seq, Wp_ops, Wp_cond, Wp_skip, Wp_ret, Wp_exit, Wp_block, WpO_cons, WpO_nil, opQ, evOp, evO, evOs, evQ_some, guardV, guardQ_true, guardQ_false, boolQ_true, boolQ_false, argsA, pvs, putS, cellsOf, scals, scal, seqQ_normal, seqQ_ret, seqQ_exit, blkQ_normal, blkQ_ret, blkQ_exit, look_if, blkAt_if, if_true, if_false, Nat.reduceEqDiff, Nat.reduceAdd, true_implies, reduceCtorEq, false_implies, and_true, true_and, List.nil_append, List.cons_append, Bool.and_self, Nat.zero_add, Nat.add_zero, fieldA, nonNil, cellsAt, loadV_one, loadV_pvs, loadV_cons, mkAgg, allPV, List.drop_zero, List.drop_succ_cons, List.take_succ_cons, List.take_zero, List.length_cons, List.length_nil, Nat.beq_eq, storeB, patchL, beq_self_eq_true, ge_iff_le, gt_iff_lt, Int.reduceNeg, Int.reduceLE, Int.reduceLT, Int.reduceEq, extractV, List.getElem?_cons_zero, List.getElem?_cons_succ, mkAgg, Nat.add_eq_left, Nat.left_eq_add, Nat.one_ne_zero, ble_dec, beq_dec, decide_eq_true_eq, Nat.reduceLeDiff, Nat.le_refl, fillA, pureVs, pureV, beq_int, bne_int, Int.natCast_inj, eq_self, eqV, eqB, decide_true, decide_false, List.length_map, Int.toNat_natCast, List.getElem?_map, Option.map_some, Option.map_none, Int.natCast_nonneg, Option.some.injEq, lenV, binV, intBin, intV, idxA, ne_eq, not_true_eq_false, not_false_eq_true, List.drop, List.take, RetP, retP, resV, resOne, snapV, snapVs, snapR, snapRs, ownSz, pickV, cond_true, cond_false, bTT, bTF, bFT, bFF, Bool.not_true, Bool.not_false, AO.isC, Bool.or_true, Bool.true_or, Bool.or_false, Bool.false_or, WpE_cons, WpE_nil, opE, evE_some, guardE_true, guardE_false, WpD_cons, WpD_nil, opD, evD_some, guardD_true, guardD_false, h3, b1, h9, hlen, Int.lt_irrefl]
    simp only [List.any_nil, Bool.or_false] at hc
    subst hc
    refine hend _ ?_ ?_ ?_ ?_
    all_goals simp only [look_if, Nat.reduceEqDiff, if_false, h2, h3, h5, h7]
  | cons p r ih =>
    intro i c hd hi hc fr h2 h3 h5 h7 h9
    obtain ⟨hget, hlt, hw, hd', hi', hbb⟩ := drop_cons hd ht
    have hmem : p ∈ t.pods := List.mem_iff_getElem?.2 ⟨i, hget⟩
    have k1 := clash_ok (T := T07) ⟨rfl, rfl, rfl, rfl, rfl⟩ ⟨rfl, rfl, rfl, rfl, rfl⟩ ⟨rfl, rfl, rfl, rfl, rfl⟩ s t p.id hs ht
    have k2 := clash_ok (T := T07) ⟨rfl, rfl, rfl, rfl, rfl⟩ ⟨rfl, rfl, rfl, rfl, rfl⟩ ⟨rfl, rfl, rfl, rfl, rfl⟩ s t (clashFrom s.loads t.pods p.id 0 t.pods) hs ht
    simp only [snapP, stateP] at k1 k2
    rw [Wp_loop, Wp_eq f319l1.eq_1]
    simp only [Wp_seq, Wp_ops, Wp_cond, Wp_skip, Wp_ret, Wp_exit, Wp_block, WpO_cons, WpO_nil, opQ, evOp, evO, evOs, evQ_some, guardV, guardQ_true, guardQ_false, boolQ_true, boolQ_false, argsA, pvs, putS, cellsOf, scals, scal, seqQ_normal, seqQ_ret, seqQ_exit, blkQ_normal, blkQ_ret, blkQ_exit, look_if, blkAt_if, if_true, if_false, Nat.reduceEqDiff, Nat.reduceAdd, true_implies, reduceCtorEq, false_implies, and_true, true_and, List.nil_append, List.cons_append, Bool.and_self, Nat.zero_add, Nat.add_zero, fieldA, nonNil, cellsAt, loadV_one, loadV_pvs, loadV_cons, mkAgg, allPV, List.drop_zero, List.drop_succ_cons, List.take_succ_cons, List.take_zero, List.length_cons, List.length_nil, Nat.beq_eq, storeB, patchL, beq_self_eq_true, ge_iff_le, gt_iff_lt, Int.reduceNeg, Int.reduceLE, Int.reduceLT, Int.reduceEq, extractV, List.getElem?_cons_zero, List.getElem?_cons_succ, mkAgg, Nat.add_eq_left, Nat.left_eq_add, Nat.one_ne_zero, ble_dec, beq_dec, decide_eq_true_eq, Nat.reduceLeDiff, Nat.le_refl, fillA, pureVs, pureV, beq_int, bne_int, Int.natCast_inj, eq_self, eqV, eqB, decide_true, decide_false, List.length_map, Int.toNat_natCast, List.getElem?_map, Option.map_some, Option.map_none, Int.natCast_nonneg, Option.some.injEq, lenV, binV, intBin, intV, idxA, ne_eq, not_true_eq_false, not_false_eq_true, List.drop, List.take, RetP, retP, resV, resOne, snapV, snapVs, snapR, snapRs, ownSz, pickV, cond_true, cond_false, bTT, bTF, bFT, bFF, Bool.not_true, Bool.not_false, AO.isC, Bool.or_true, Bool.true_or, Bool.or_false, Bool.false_or, WpE_cons, WpE_nil, opE, evE_some, guardE_true, guardE_false, WpD_cons, WpD_nil, opD, evD_some, guardD_true, guardD_false, h3, b1, h9, hlt]
    refine (Wp_calm rfl).2 ?_
    simp only [List.any_cons] at hc
    by_cases cz : clashFrom s.loads t.pods p.id 0 t.pods = 0
    · have hb : clashB s.loads t.pods p = false := by simp [clashB, cz]
      rw [hb, Bool.false_or] at hc
      cases c <;>
      · simp only [Wp_seq, Wp_ops, Wp_cond, Wp_skip, Wp_ret, Wp_exit, Wp_block, WpO_cons, WpO_nil, opQ, evOp, evO, evOs, evQ_some, guardV, guardQ_true, guardQ_false, boolQ_true, boolQ_false, argsA, pvs, putS, cellsOf, scals, scal, seqQ_normal, seqQ_ret, seqQ_exit, blkQ_normal, blkQ_ret, blkQ_exit, look_if, blkAt_if, if_true, if_false, Nat.reduceEqDiff, Nat.reduceAdd, true_implies, reduceCtorEq, false_implies, and_true, true_and, List.nil_append, List.cons_append, Bool.and_self, Nat.zero_add, Nat.add_zero, fieldA, nonNil, cellsAt, loadV_one, loadV_pvs, loadV_cons, mkAgg, allPV, List.drop_zero, List.drop_succ_cons, List.take_succ_cons, List.take_zero, List.length_cons, List.length_nil, Nat.beq_eq, storeB, patchL, beq_self_eq_true, ge_iff_le, gt_iff_lt, Int.reduceNeg, Int.reduceLE, Int.reduceLT, Int.reduceEq, extractV, List.getElem?_cons_zero, List.getElem?_cons_succ, mkAgg, Nat.add_eq_left, Nat.left_eq_add, Nat.one_ne_zero, ble_dec, beq_dec, decide_eq_true_eq, Nat.reduceLeDiff, Nat.le_refl, fillA, pureVs, pureV, beq_int, bne_int, Int.natCast_inj, eq_self, eqV, eqB, decide_true, decide_false, List.length_map, Int.toNat_natCast, List.getElem?_map, Option.map_some, Option.map_none, Int.natCast_nonneg, Option.some.injEq, lenV, binV, intBin, intV, idxA, ne_eq, not_true_eq_false, not_false_eq_true, List.drop, List.take, RetP, retP, resV, resOne, snapV, snapVs, snapR, snapRs, ownSz, pickV, cond_true, cond_false, bTT, bTF, bFT, bFF, Bool.not_true, Bool.not_false, AO.isC, Bool.or_true, Bool.true_or, Bool.or_false, Bool.false_or, WpE_cons, WpE_nil, opE, evE_some, guardE_true, guardE_false, WpD_cons, WpD_nil, opD, evD_some, guardD_true, guardD_false, h2, h3, b0, b1, h9, hget, podC, k1.callD, cz, h7, hw]
        refine ih (i + 1) _ hd' hi' hc _ ?_ ?_ ?_ ?_ ?_
        all_goals simp only [look_if, Nat.reduceEqDiff, if_true, if_false, h2, h3, h5, h7]
    · have hb : clashB s.loads t.pods p = true := by simp [clashB, cz]
      rw [hb, Bool.true_or, Bool.or_true] at hc
      obtain ⟨e1, e2⟩ := both1 hg hmem cz
      cases c <;>
      · simp only [Wp_seq, Wp_ops, Wp_cond, Wp_skip, Wp_ret, Wp_exit, Wp_block, WpO_cons, WpO_nil, opQ, evOp, evO, evOs, evQ_some, guardV, guardQ_true, guardQ_false, boolQ_true, boolQ_false, argsA, pvs, putS, cellsOf, scals, scal, seqQ_normal, seqQ_ret, seqQ_exit, blkQ_normal, blkQ_ret, blkQ_exit, look_if, blkAt_if, if_true, if_false, Nat.reduceEqDiff, Nat.reduceAdd, true_implies, reduceCtorEq, false_implies, and_true, true_and, List.nil_append, List.cons_append, Bool.and_self, Nat.zero_add, Nat.add_zero, fieldA, nonNil, cellsAt, loadV_one, loadV_pvs, loadV_cons, mkAgg, allPV, List.drop_zero, List.drop_succ_cons, List.take_succ_cons, List.take_zero, List.length_cons, List.length_nil, Nat.beq_eq, storeB, patchL, beq_self_eq_true, ge_iff_le, gt_iff_lt, Int.reduceNeg, Int.reduceLE, Int.reduceLT, Int.reduceEq, extractV, List.getElem?_cons_zero, List.getElem?_cons_succ, mkAgg, Nat.add_eq_left, Nat.left_eq_add, Nat.one_ne_zero, ble_dec, beq_dec, decide_eq_true_eq, Nat.reduceLeDiff, Nat.le_refl, fillA, pureVs, pureV, beq_int, bne_int, Int.natCast_inj, eq_self, eqV, eqB, decide_true, decide_false, List.length_map, Int.toNat_natCast, List.getElem?_map, Option.map_some, Option.map_none, Int.natCast_nonneg, Option.some.injEq, lenV, binV, intBin, intV, idxA, ne_eq, not_true_eq_false, not_false_eq_true, List.drop, List.take, RetP, retP, resV, resOne, snapV, snapVs, snapR, snapRs, ownSz, pickV, cond_true, cond_false, bTT, bTF, bFT, bFF, Bool.not_true, Bool.not_false, AO.isC, Bool.or_true, Bool.true_or, Bool.or_false, Bool.false_or, WpE_cons, WpE_nil, opE, evE_some, guardE_true, guardE_false, WpD_cons, WpD_nil, opD, evD_some, guardD_true, guardD_false, h2, h3, b0, b1, h9, hget, podC, k1.callD, k2.call, cz, e1, e2, h7, hw]
        refine ih (i + 1) true hd' hi' (by rw [Bool.true_or]; exact hc) _ ?_ ?_ ?_ ?_ ?_
        all_goals simp only [look_if, Nat.reduceEqDiff, if_true, if_false, h2, h3, h5, h7]

theorem law07b (s : Snap) (t : State) (_ : s.wf) (_ : t.wf) : Gives T07 319 [snapP s, stateP t] (.bool true) := by
  refine gives (f := f319) ⟨rfl, rfl, rfl, rfl, rfl⟩ rfl ?_
  have kf := few5_ok (T := T07) ⟨rfl, rfl, rfl, rfl, rfl⟩ ⟨rfl, rfl, rfl, rfl, rfl⟩ s ⟨[], 0, 0⟩ t
  cases hf : few5 s ⟨[], 0, 0⟩ t
  · simp only [f319, Wp_seq, Wp_ops, Wp_cond, Wp_skip, Wp_ret, Wp_exit, Wp_block, WpO_cons, WpO_nil, opQ, evOp, evO, evOs, evQ_some, guardV, guardQ_true, guardQ_false, boolQ_true, boolQ_false, argsA, pvs, putS, cellsOf, scals, scal, seqQ_normal, seqQ_ret, seqQ_exit, blkQ_normal, blkQ_ret, blkQ_exit, look_if, blkAt_if, if_true, if_false, Nat.reduceEqDiff, Nat.reduceAdd, true_implies, reduceCtorEq, false_implies, and_true, true_and, List.nil_append, List.cons_append, Bool.and_self, Nat.zero_add, Nat.add_zero, fieldA, nonNil, cellsAt, loadV_one, loadV_pvs, loadV_cons, mkAgg, allPV, List.drop_zero, List.drop_succ_cons, List.take_succ_cons, List.take_zero, List.length_cons, List.length_nil, Nat.beq_eq, storeB, patchL, beq_self_eq_true, ge_iff_le, gt_iff_lt, Int.reduceNeg, Int.reduceLE, Int.reduceLT, Int.reduceEq, extractV, List.getElem?_cons_zero, List.getElem?_cons_succ, mkAgg, Nat.add_eq_left, Nat.left_eq_add, Nat.one_ne_zero, ble_dec, beq_dec, decide_eq_true_eq, Nat.reduceLeDiff, Nat.le_refl, fillA, pureVs, pureV, beq_int, bne_int, Int.natCast_inj, eq_self, eqV, eqB, decide_true, decide_false, List.length_map, Int.toNat_natCast, List.getElem?_map, Option.map_some, Option.map_none, Int.natCast_nonneg, Option.some.injEq, lenV, binV, intBin, intV, idxA, ne_eq, not_true_eq_false, not_false_eq_true, List.drop, List.take, RetP, retP, resV, resOne, snapV, snapVs, snapR, snapRs, ownSz, pickV, cond_true, cond_false, bTT, bTF, bFT, bFF, Bool.not_true, Bool.not_false, AO.isC, Bool.or_true, Bool.true_or, Bool.or_false, Bool.false_or, WpE_cons, WpE_nil, opE, evE_some, guardE_true, guardE_false, WpD_cons, WpD_nil, opD, evD_some, guardD_true, guardD_false, up07.call, snapP, specP, stateP, kf.call, hf, List.map_nil]
  · have hf' := hf
    simp only [few5, few3, Bool.and_eq_true, decide_eq_true_eq] at hf'
    obtain ⟨⟨l1, l2, l3⟩, l4, l5⟩ := hf'
    have b2 : s.loads.length ≤ 2 ^ 30 := by omega
    have b5 : t.pods.length ≤ 2 ^ 30 := by omega
    have k1 := apart_ok (T := T07) ⟨rfl, rfl, rfl, rfl, rfl⟩ ⟨rfl, rfl, rfl, rfl, rfl⟩ ⟨rfl, rfl, rfl, rfl, rfl⟩ s t b2 b5
    simp only [snapP, stateP] at k1
    simp only [f319, Wp_seq, Wp_ops, Wp_cond, Wp_skip, Wp_ret, Wp_exit, Wp_block, WpO_cons, WpO_nil, opQ, evOp, evO, evOs, evQ_some, guardV, guardQ_true, guardQ_false, boolQ_true, boolQ_false, argsA, pvs, putS, cellsOf, scals, scal, seqQ_normal, seqQ_ret, seqQ_exit, blkQ_normal, blkQ_ret, blkQ_exit, look_if, blkAt_if, if_true, if_false, Nat.reduceEqDiff, Nat.reduceAdd, true_implies, reduceCtorEq, false_implies, and_true, true_and, List.nil_append, List.cons_append, Bool.and_self, Nat.zero_add, Nat.add_zero, fieldA, nonNil, cellsAt, loadV_one, loadV_pvs, loadV_cons, mkAgg, allPV, List.drop_zero, List.drop_succ_cons, List.take_succ_cons, List.take_zero, List.length_cons, List.length_nil, Nat.beq_eq, storeB, patchL, beq_self_eq_true, ge_iff_le, gt_iff_lt, Int.reduceNeg, Int.reduceLE, Int.reduceLT, Int.reduceEq, extractV, List.getElem?_cons_zero, List.getElem?_cons_succ, mkAgg, Nat.add_eq_left, Nat.left_eq_add, Nat.one_ne_zero, ble_dec, beq_dec, decide_eq_true_eq, Nat.reduceLeDiff, Nat.le_refl, fillA, pureVs, pureV, beq_int, bne_int, Int.natCast_inj, eq_self, eqV, eqB, decide_true, decide_false, List.length_map, Int.toNat_natCast, List.getElem?_map, Option.map_some, Option.map_none, Int.natCast_nonneg, Option.some.injEq, lenV, binV, intBin, intV, idxA, ne_eq, not_true_eq_false, not_false_eq_true, List.drop, List.take, RetP, retP, resV, resOne, snapV, snapVs, snapR, snapRs, ownSz, pickV, cond_true, cond_false, bTT, bTF, bFT, bFF, Bool.not_true, Bool.not_false, AO.isC, Bool.or_true, Bool.true_or, Bool.or_false, Bool.false_or, WpE_cons, WpE_nil, opE, evE_some, guardE_true, guardE_false, WpD_cons, WpD_nil, opD, evD_some, guardD_true, guardD_false, up07.call, snapP, specP, stateP, kf.call, hf, List.map_nil]
    refine both_l0 (T := T07) t b5 _ _ _ rfl [] rfl (fun fr h4 => ?_) (fun hg fr h2 h3 h5 h7 => ?_) t.pods 0 none rfl (Nat.zero_le _) (.inl ⟨rfl, rfl⟩) (fun h => h) _ rfl rfl rfl rfl rfl
    · simp only [Wp_seq, Wp_ops, Wp_cond, Wp_skip, Wp_ret, Wp_exit, Wp_block, WpO_cons, WpO_nil, opQ, evOp, evO, evOs, evQ_some, guardV, guardQ_true, guardQ_false, boolQ_true, boolQ_false, argsA, pvs, putS, cellsOf, scals, scal, seqQ_normal, seqQ_ret, seqQ_exit, blkQ_normal, blkQ_ret, blkQ_exit, look_if, blkAt_if, if_true, if_false, Nat.reduceEqDiff, Nat.reduceAdd, true_implies, reduceCtorEq, false_implies, and_true, true_and, List.nil_append, List.cons_append, Bool.and_self, Nat.zero_add, Nat.add_zero, fieldA, nonNil, cellsAt, loadV_one, loadV_pvs, loadV_cons, mkAgg, allPV, List.drop_zero, List.drop_succ_cons, List.take_succ_cons, List.take_zero, List.length_cons, List.length_nil, Nat.beq_eq, storeB, patchL, beq_self_eq_true, ge_iff_le, gt_iff_lt, Int.reduceNeg, Int.reduceLE, Int.reduceLT, Int.reduceEq, extractV, List.getElem?_cons_zero, List.getElem?_cons_succ, mkAgg, Nat.add_eq_left, Nat.left_eq_add, Nat.one_ne_zero, ble_dec, beq_dec, decide_eq_true_eq, Nat.reduceLeDiff, Nat.le_refl, fillA, pureVs, pureV, beq_int, bne_int, Int.natCast_inj, eq_self, eqV, eqB, decide_true, decide_false, List.length_map, Int.toNat_natCast, List.getElem?_map, Option.map_some, Option.map_none, Int.natCast_nonneg, Option.some.injEq, lenV, binV, intBin, intV, idxA, ne_eq, not_true_eq_false, not_false_eq_true, List.drop, List.take, RetP, retP, resV, resOne, snapV, snapVs, snapR, snapRs, ownSz, pickV, cond_true, cond_false, bTT, bTF, bFT, bFF, Bool.not_true, Bool.not_false, AO.isC, Bool.or_true, Bool.true_or, Bool.or_false, Bool.false_or, WpE_cons, WpE_nil, opE, evE_some, guardE_true, guardE_false, WpD_cons, WpD_nil, opD, evD_some, guardD_true, guardD_false, h4]
    · simp only [Wp_seq, Wp_ops, Wp_cond, Wp_skip, Wp_ret, Wp_exit, Wp_block, WpO_cons, WpO_nil, opQ, evOp, evO, evOs, evQ_some, guardV, guardQ_true, guardQ_false, boolQ_true, boolQ_false, argsA, pvs, putS, cellsOf, scals, scal, seqQ_normal, seqQ_ret, seqQ_exit, blkQ_normal, blkQ_ret, blkQ_exit, look_if, blkAt_if, if_true, if_false, Nat.reduceEqDiff, Nat.reduceAdd, true_implies, reduceCtorEq, false_implies, and_true, true_and, List.nil_append, List.cons_append, Bool.and_self, Nat.zero_add, Nat.add_zero, fieldA, nonNil, cellsAt, loadV_one, loadV_pvs, loadV_cons, mkAgg, allPV, List.drop_zero, List.drop_succ_cons, List.take_succ_cons, List.take_zero, List.length_cons, List.length_nil, Nat.beq_eq, storeB, patchL, beq_self_eq_true, ge_iff_le, gt_iff_lt, Int.reduceNeg, Int.reduceLE, Int.reduceLT, Int.reduceEq, extractV, List.getElem?_cons_zero, List.getElem?_cons_succ, mkAgg, Nat.add_eq_left, Nat.left_eq_add, Nat.one_ne_zero, ble_dec, beq_dec, decide_eq_true_eq, Nat.reduceLeDiff, Nat.le_refl, fillA, pureVs, pureV, beq_int, bne_int, Int.natCast_inj, eq_self, eqV, eqB, decide_true, decide_false, List.length_map, Int.toNat_natCast, List.getElem?_map, Option.map_some, Option.map_none, Int.natCast_nonneg, Option.some.injEq, lenV, binV, intBin, intV, idxA, ne_eq, not_true_eq_false, not_false_eq_true, List.drop, List.take, RetP, retP, resV, resOne, snapV, snapVs, snapR, snapRs, ownSz, pickV, cond_true, cond_false, bTT, bTF, bFT, bFF, Bool.not_true, Bool.not_false, AO.isC, Bool.or_true, Bool.true_or, Bool.or_false, Bool.false_or, WpE_cons, WpE_nil, opE, evE_some, guardE_true, guardE_false, WpD_cons, WpD_nil, opD, evD_some, guardD_true, guardD_false]
      refine both_l1 s t b2 b5 hg _ _ _ rfl rfl (t.pods.any (clashB s.loads t.pods)) (fun fr g2 g3 g5 g7 => ?_) t.pods 0 false rfl (Nat.zero_le _) (Bool.false_or _) _ ?_ ?_ ?_ ?_ ?_
      · have hb := both2 (ls := s.loads) hg
        cases ho : apartFrom s.loads [] t.pods with
        | none =>
          rw [ho] at k1 hb
          have : t.pods.any (clashB s.loads t.pods) = false := by simpa using hb
          simp only [Wp_seq, Wp_ops, Wp_cond, Wp_skip, Wp_ret, Wp_exit, Wp_block, WpO_cons, WpO_nil, opQ, evOp, evO, evOs, evQ_some, guardV, guardQ_true, guardQ_false, boolQ_true, boolQ_false, argsA, pvs, putS, cellsOf, scals, scal, seqQ_normal, seqQ_ret, seqQ_exit, blkQ_normal, blkQ_ret, blkQ_exit, look_if, blkAt_if, if_true, if_false, Nat.reduceEqDiff, Nat.reduceAdd, true_implies, reduceCtorEq, false_implies, and_true, true_and, List.nil_append, List.cons_append, Bool.and_self, Nat.zero_add, Nat.add_zero, fieldA, nonNil, cellsAt, loadV_one, loadV_pvs, loadV_cons, mkAgg, allPV, List.drop_zero, List.drop_succ_cons, List.take_succ_cons, List.take_zero, List.length_cons, List.length_nil, Nat.beq_eq, storeB, patchL, beq_self_eq_true, ge_iff_le, gt_iff_lt, Int.reduceNeg, Int.reduceLE, Int.reduceLT, Int.reduceEq, extractV, List.getElem?_cons_zero, List.getElem?_cons_succ, mkAgg, Nat.add_eq_left, Nat.left_eq_add, Nat.one_ne_zero, ble_dec, beq_dec, decide_eq_true_eq, Nat.reduceLeDiff, Nat.le_refl, fillA, pureVs, pureV, beq_int, bne_int, Int.natCast_inj, eq_self, eqV, eqB, decide_true, decide_false, List.length_map, Int.toNat_natCast, List.getElem?_map, Option.map_some, Option.map_none, Int.natCast_nonneg, Option.some.injEq, lenV, binV, intBin, intV, idxA, ne_eq, not_true_eq_false, not_false_eq_true, List.drop, List.take, RetP, retP, resV, resOne, snapV, snapVs, snapR, snapRs, ownSz, pickV, cond_true, cond_false, bTT, bTF, bFT, bFF, Bool.not_true, Bool.not_false, AO.isC, Bool.or_true, Bool.true_or, Bool.or_false, Bool.false_or, WpE_cons, WpE_nil, opE, evE_some, guardE_true, guardE_false, WpD_cons, WpD_nil, opD, evD_some, guardD_true, guardD_false, g2, g3, g5, g7, k1.call, errO, this]
        | some q =>
          rw [ho] at k1 hb
          have : t.pods.any (clashB s.loads t.pods) = true := hb.2 (by simp)
          simp only [Wp_seq, Wp_ops, Wp_cond, Wp_skip, Wp_ret, Wp_exit, Wp_block, WpO_cons, WpO_nil, opQ, evOp, evO, evOs, evQ_some, guardV, guardQ_true, guardQ_false, boolQ_true, boolQ_false, argsA, pvs, putS, cellsOf, scals, scal, seqQ_normal, seqQ_ret, seqQ_exit, blkQ_normal, blkQ_ret, blkQ_exit, look_if, blkAt_if, if_true, if_false, Nat.reduceEqDiff, Nat.reduceAdd, true_implies, reduceCtorEq, false_implies, and_true, true_and, List.nil_append, List.cons_append, Bool.and_self, Nat.zero_add, Nat.add_zero, fieldA, nonNil, cellsAt, loadV_one, loadV_pvs, loadV_cons, mkAgg, allPV, List.drop_zero, List.drop_succ_cons, List.take_succ_cons, List.take_zero, List.length_cons, List.length_nil, Nat.beq_eq, storeB, patchL, beq_self_eq_true, ge_iff_le, gt_iff_lt, Int.reduceNeg, Int.reduceLE, Int.reduceLT, Int.reduceEq, extractV, List.getElem?_cons_zero, List.getElem?_cons_succ, mkAgg, Nat.add_eq_left, Nat.left_eq_add, Nat.one_ne_zero, ble_dec, beq_dec, decide_eq_true_eq, Nat.reduceLeDiff, Nat.le_refl, fillA, pureVs, pureV, beq_int, bne_int, Int.natCast_inj, eq_self, eqV, eqB, decide_true, decide_false, List.length_map, Int.toNat_natCast, List.getElem?_map, Option.map_some, Option.map_none, Int.natCast_nonneg, Option.some.injEq, lenV, binV, intBin, intV, idxA, ne_eq, not_true_eq_false, not_false_eq_true, List.drop, List.take, RetP, retP, resV, resOne, snapV, snapVs, snapR, snapRs, ownSz, pickV, cond_true, cond_false, bTT, bTF, bFT, bFF, Bool.not_true, Bool.not_false, AO.isC, Bool.or_true, Bool.true_or, Bool.or_false, Bool.false_or, WpE_cons, WpE_nil, opE, evE_some, guardE_true, guardE_false, WpD_cons, WpD_nil, opD, evD_some, guardD_true, guardD_false, g2, g3, g5, g7, k1.call, errO, spotE, this]
      all_goals simp only [look_if, Nat.reduceEqDiff, if_true, if_false, h2, h3, h5, h7]
      all_goals rfl
end Go.Proofs.YtmeigdjfcecidaaDoor.Ab
