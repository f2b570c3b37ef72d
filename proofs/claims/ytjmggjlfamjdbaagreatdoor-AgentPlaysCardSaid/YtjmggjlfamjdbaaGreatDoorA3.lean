/- The layer, part 3: Co08, Sp8, Co09, Sp9, Sp8b, Co67, Sp7, Sp1, Sp1b, Ab54, Sp6, Sp6b, Co11, Sp11, Ab59, Sp11f. -/
import Derived.Test.YtjmggjlfamjdbaaGreatDoorA2
set_option linter.unusedVariables false
namespace Go.Proofs.YtjmggjlfamjdbaaGreatDoor.Ab
open Go
def f84l0 : ACode :=
 (.seq (.ops [
   ⟨some 10, .bin .lss none (.t 9) (.t 8), none, []⟩])
  (.seq (.cond (.t 10)
   .skip
   (.exit 0))
  (.seq (.block 1
   (.seq (.ops [
     ⟨some 11, .idxAddr 10 (.t 7) (.t 9), none, []⟩,
     ⟨some 12, .load true 10 (.t 11), none, [0]⟩,
     ⟨some 5, .alloc [(.pv (.int .i64 0)), (.pv (.int .i64 0)), (.pv (.int .u64 0)), (.pv (.int .u64 0)), (.pv (.int .u64 0)), (.pv (.int .u64 0)), (.pv (.int .u64 0)), (.pv (.int .u64 0)), (.pv (.int .u64 0)), (.pv (.int .u64 0))], none, []⟩,
     ⟨none, .store 10 (.t 5) (.t 12), none, [2, 1, 0, 1, 2]⟩])
    (.ops [
     ⟨some 13, .mv (.t 3), none, []⟩,
     ⟨some 14, .fieldAddr 1 (.t 5), none, []⟩,
     ⟨some 15, .load false 1 (.t 14), none, [1]⟩,
     ⟨some 16, .bslice 1 1 [(.pv (.int .i64 0))] [(0, 1, (.t 15))], none, [2]⟩,
     ⟨some 17, .append 1 8 (.t 13) (.t 16), none, [0, 3]⟩,
     ⟨some 3, .mv (.t 17), none, [4, 4, 0, 1, 2, 3, 4]⟩])))
  (.ops [
   ⟨some 18, .bin .add none (.t 9) (.c (.pv (.int .i64 1))), none, []⟩,
   ⟨some 9, .mv (.t 18), none, [0]⟩]))))
def f84 : AFunc := ⟨23, [.t 2],
 (.seq (.ops [
   ⟨some 1, .box (.t 0), none, []⟩,
   ⟨some 2, .mv (.c .nils), none, []⟩])
  (.seq (.ops [
   ⟨some 3, .mv (.c .nils), none, []⟩])
  (.seq (.seq (.ops [
   ⟨some 6, .fieldAddr 0 (.t 1), none, []⟩,
   ⟨some 7, .load false 1 (.t 6), none, [0]⟩,
   ⟨some 8, .len (.t 7), none, [1]⟩,
   ⟨some 9, .mv (.c (.pv (.int .i64 0))), none, []⟩])
  (.block 0
   (.loop f84l0)))
  (.seq (.ops [
   ⟨some 19, .mv (.t 3), none, []⟩,
   ⟨some 20, .call 293 [(.t 19)], none, [0]⟩])
  (.seq (.ops [
   ⟨some 21, .mv (.t 3), none, []⟩,
   ⟨some 22, .call 281 [(.t 21)], none, [0]⟩,
   ⟨some 2, .mv (.t 22), none, [1, 1, 0, 1]⟩])
  .ret)))))⟩
def f157l0 : ACode :=
 (.seq (.seq (.ops [
   ⟨some 6, .mv (.t 5), none, []⟩,
   ⟨some 7, .fieldAddr 0 (.t 2), none, []⟩,
   ⟨some 8, .load false 1 (.t 7), none, [1]⟩,
   ⟨some 9, .len (.t 8), none, [2]⟩,
   ⟨some 10, .bin .lss none (.t 6) (.t 9), none, [0, 3]⟩])
  (.cond (.t 10)
   .skip
   (.exit 0)))
  (.seq (.block 1
   (.seq (.ops [
     ⟨some 13, .fieldAddr 0 (.t 2), none, []⟩,
     ⟨some 14, .load false 1 (.t 13), none, [0]⟩,
     ⟨some 15, .mv (.t 5), none, []⟩,
     ⟨some 16, .idxAddr 6 (.t 14) (.t 15), none, [1, 2]⟩,
     ⟨some 17, .fieldAddr 0 (.t 16), none, [3]⟩,
     ⟨some 18, .load false 1 (.t 17), none, [4]⟩,
     ⟨some 19, .mv (.t 1), none, []⟩,
     ⟨some 20, .bin .eql none (.t 18) (.t 19), none, [5, 6]⟩])
    (.cond (.t 20)
     (.seq (.ops [
       ⟨some 21, .mv (.t 5), none, []⟩,
       ⟨some 4, .mv (.t 21), none, [0, 0]⟩])
      .ret)
     .skip)))
  (.ops [
   ⟨some 11, .mv (.t 5), none, []⟩,
   ⟨some 12, .bin .add none (.t 11) (.c (.pv (.int .i64 1))), none, [0]⟩,
   ⟨some 5, .mv (.t 12), none, [1, 0, 1]⟩])))
def f157 : AFunc := ⟨22, [.t 4],
 (.seq (.ops [
   ⟨some 2, .box (.t 0), none, []⟩,
   ⟨some 4, .mv (.c (.pv (.int .i64 0))), none, []⟩])
  (.seq (.seq (.ops [
   ⟨some 5, .mv (.c (.pv (.int .i64 0))), none, []⟩])
  (.block 0
   (.loop f157l0)))
  (.seq (.ops [
   ⟨some 4, .mv (.c (.pv (.int .i64 (-1)))), none, []⟩])
  .ret)))⟩
def f158l0 : ACode :=
 (.seq (.seq (.draw [
   ⟨some 14, .mv (.t 5), none, []⟩,
   ⟨some 15, .mv (.t 3), none, []⟩,
   ⟨some 16, .len (.t 15), none, [1]⟩,
   ⟨some 17, .bin .lss none (.t 14) (.t 16), none, [0, 2]⟩,
   ⟨some 18, .mv (.t 17), none, [3]⟩,
   ⟨some 19, .mv (.t 3), some (18, true), [4]⟩,
   ⟨some 20, .mv (.t 5), some (18, true), [4]⟩,
   ⟨some 21, .idxAddr 1 (.t 19) (.t 20), some (18, true), [5, 6, 4]⟩,
   ⟨some 22, .load false 1 (.t 21), some (18, true), [7, 4]⟩,
   ⟨some 23, .fieldAddr 0 (.t 1), some (18, true), [4]⟩,
   ⟨some 24, .load false 1 (.t 23), some (18, true), [9, 4]⟩,
   ⟨some 25, .mv (.t 4), some (18, true), [4]⟩,
   ⟨some 26, .idxAddr 10 (.t 24) (.t 25), some (18, true), [10, 11, 4]⟩,
   ⟨some 27, .fieldAddr 1 (.t 26), some (18, true), [12, 4]⟩,
   ⟨some 28, .load false 1 (.t 27), some (18, true), [13, 4]⟩,
   ⟨some 29, .bin .lss none (.t 22) (.t 28), some (18, true), [8, 14, 4]⟩,
   ⟨some 30, .pick (.t 18) (.t 29) (.c (.pv (.bool false))), none, [4, 15]⟩])
  (.cond (.t 30)
   .skip
   (.exit 2)))
  (.block 3
   (.ops [
     ⟨some 31, .mv (.t 5), none, []⟩,
     ⟨some 32, .bin .add none (.t 31) (.c (.pv (.int .i64 1))), none, [0]⟩,
     ⟨some 5, .mv (.t 32), none, [1, 0, 1]⟩])))
def f158l1 : ACode :=
 (.seq (.seq (.ops [
   ⟨some 7, .mv (.t 4), none, []⟩,
   ⟨some 8, .fieldAddr 0 (.t 1), none, []⟩,
   ⟨some 9, .load false 1 (.t 8), none, [1]⟩,
   ⟨some 10, .len (.t 9), none, [2]⟩,
   ⟨some 11, .bin .lss none (.t 7) (.t 10), none, [0, 3]⟩])
  (.cond (.t 11)
   .skip
   (.exit 0)))
  (.seq (.block 1
   (.seq (.ops [
     ⟨some 5, .mv (.c (.pv (.int .i64 0))), none, []⟩])
    (.seq (.block 2
     (.loop f158l0))
    (.seq (.seq (.draw [
     ⟨some 33, .mv (.t 5), none, []⟩,
     ⟨some 34, .mv (.t 3), none, []⟩,
     ⟨some 35, .len (.t 34), none, [1]⟩,
     ⟨some 36, .bin .lss none (.t 33) (.t 35), none, [0, 2]⟩,
     ⟨some 37, .mv (.t 36), none, [3]⟩,
     ⟨some 38, .mv (.t 3), some (37, true), [4]⟩,
     ⟨some 39, .mv (.t 5), some (37, true), [4]⟩,
     ⟨some 40, .idxAddr 1 (.t 38) (.t 39), some (37, true), [5, 6, 4]⟩,
     ⟨some 41, .load false 1 (.t 40), some (37, true), [7, 4]⟩,
     ⟨some 42, .fieldAddr 0 (.t 1), some (37, true), [4]⟩,
     ⟨some 43, .load false 1 (.t 42), some (37, true), [9, 4]⟩,
     ⟨some 44, .mv (.t 4), some (37, true), [4]⟩,
     ⟨some 45, .idxAddr 10 (.t 43) (.t 44), some (37, true), [10, 11, 4]⟩,
     ⟨some 46, .fieldAddr 1 (.t 45), some (37, true), [12, 4]⟩,
     ⟨some 47, .load false 1 (.t 46), some (37, true), [13, 4]⟩,
     ⟨some 48, .bin .eql none (.t 41) (.t 47), some (37, true), [8, 14, 4]⟩,
     ⟨some 49, .pick (.t 37) (.t 48) (.c (.pv (.bool false))), none, [4, 15]⟩])
    (.cond (.t 49)
     (.exit 1)
     .skip))
    (.seq (.ops [
     ⟨some 50, .bslice 1 0 [] [], none, []⟩,
     ⟨some 51, .mv (.t 3), none, []⟩,
     ⟨some 52, .mv (.t 5), none, []⟩,
     ⟨some 53, .slice 1 (.t 51) none (some (.t 52)), none, [1, 2]⟩,
     ⟨some 54, .append 1 8 (.t 50) (.t 53), none, [0, 3]⟩,
     ⟨some 6, .mv (.t 54), none, [4, 4, 0, 1, 2, 3, 4]⟩])
    (.seq (.ops [
     ⟨some 55, .mv (.t 6), none, []⟩,
     ⟨some 56, .fieldAddr 0 (.t 1), none, []⟩,
     ⟨some 57, .load false 1 (.t 56), none, [1]⟩,
     ⟨some 58, .mv (.t 4), none, []⟩,
     ⟨some 59, .idxAddr 10 (.t 57) (.t 58), none, [2, 3]⟩,
     ⟨some 60, .fieldAddr 1 (.t 59), none, [4]⟩,
     ⟨some 61, .load false 1 (.t 60), none, [5]⟩,
     ⟨some 62, .bslice 1 1 [(.pv (.int .i64 0))] [(0, 1, (.t 61))], none, [6]⟩,
     ⟨some 63, .append 1 8 (.t 55) (.t 62), none, [0, 7]⟩,
     ⟨some 6, .mv (.t 63), none, [8, 8, 0, 1, 2, 3, 4, 5, 6, 7, 8]⟩])
    (.ops [
     ⟨some 64, .mv (.t 6), none, []⟩,
     ⟨some 65, .mv (.t 3), none, []⟩,
     ⟨some 66, .mv (.t 5), none, []⟩,
     ⟨some 67, .slice 1 (.t 65) (some (.t 66)) none, none, [1, 2]⟩,
     ⟨some 68, .append 1 8 (.t 64) (.t 67), none, [0, 3]⟩,
     ⟨some 3, .mv (.t 68), none, [4, 4, 0, 1, 2, 3, 4]⟩])))))))
  (.ops [
   ⟨some 12, .mv (.t 4), none, []⟩,
   ⟨some 13, .bin .add none (.t 12) (.c (.pv (.int .i64 1))), none, [0]⟩,
   ⟨some 4, .mv (.t 13), none, [1, 0, 1]⟩])))
def f158 : AFunc := ⟨70, [.t 2],
 (.seq (.ops [
   ⟨some 1, .box (.t 0), none, []⟩,
   ⟨some 2, .mv (.c .nils), none, []⟩])
  (.seq (.ops [
   ⟨some 3, .mv (.c .nils), none, []⟩])
  (.seq (.seq (.ops [
   ⟨some 4, .mv (.c (.pv (.int .i64 0))), none, []⟩])
  (.block 0
   (.loop f158l1)))
  (.seq (.ops [
   ⟨some 69, .mv (.t 3), none, []⟩,
   ⟨some 2, .mv (.t 69), none, [0, 0]⟩])
  .ret))))⟩
def f234l0 : ACode :=
 (.seq (.ops [
   ⟨some 11, .bin .lss none (.t 10) (.t 9), none, []⟩])
  (.seq (.cond (.t 11)
   .skip
   (.exit 0))
  (.seq (.block 1
   (.seq (.ops [
     ⟨some 12, .mv (.t 10), none, []⟩,
     ⟨some 13, .idxAddr 5 (.t 8) (.t 10), none, []⟩,
     ⟨some 14, .load true 5 (.t 13), none, [1]⟩,
     ⟨some 6, .alloc [(.pv (.int .i64 0)), (.pv (.bool false)), (.pv (.int .i64 0)), (.pv (.int .i64 0)), (.pv (.int .i64 0))], none, []⟩,
     ⟨some 5, .mv (.t 12), none, [0, 0, 1, 2, 3]⟩,
     ⟨none, .store 5 (.t 6) (.t 14), none, [3, 2, 4, 0, 1, 2, 3, 4]⟩])
    (.seq (.draw [
     ⟨some 15, .fieldAddr 2 (.t 6), none, []⟩,
     ⟨some 16, .load false 1 (.t 15), none, [0]⟩,
     ⟨some 17, .bin .gtr none (.t 16) (.c (.pv (.int .i64 0))), none, [1]⟩,
     ⟨some 18, .mv (.t 17), none, [2]⟩,
     ⟨some 19, .load true 3 (.t 2), some (18, true), [3]⟩,
     ⟨some 20, .load true 3 (.t 3), some (18, true), [3]⟩,
     ⟨some 21, .fieldAddr 0 (.t 6), some (18, true), [3]⟩,
     ⟨some 22, .load false 1 (.t 21), some (18, true), [6, 3]⟩,
     ⟨some 23, .call 236 [(.t 19), (.t 20), (.t 22)], some (18, true), [4, 5, 7, 3, 3]⟩,
     ⟨some 24, .fieldAddr 2 (.t 6), some (18, true), [3]⟩,
     ⟨some 25, .load false 1 (.t 24), some (18, true), [9, 3]⟩,
     ⟨some 26, .bin .gtr none (.t 23) (.t 25), some (18, true), [8, 10, 3]⟩,
     ⟨some 27, .pick (.t 18) (.t 26) (.c (.pv (.bool false))), none, [3, 11]⟩])
    (.cond (.t 27)
     (.seq (.ops [
       ⟨some 28, .mv (.t 5), none, []⟩,
       ⟨some 29, .build [(.pv (.int .i64 0)), (.pv (.int .i64 0))] [(0, 1, (.t 28)), (1, 1, (.c (.pv (.int .i64 11))))], none, [0]⟩,
       ⟨some 30, .box (.t 29), none, [1]⟩,
       ⟨some 31, .mkI 1 (.t 30), none, [2]⟩,
       ⟨some 4, .mv (.t 31), none, [3, 0, 1, 2, 3]⟩])
      .ret)
     .skip))))
  (.ops [
   ⟨some 32, .bin .add none (.t 10) (.c (.pv (.int .i64 1))), none, []⟩,
   ⟨some 10, .mv (.t 32), none, [0]⟩]))))
def f234 : AFunc := ⟨33, [.t 4],
 (.seq (.ops [
   ⟨some 2, .box (.t 0), none, []⟩,
   ⟨some 3, .box (.t 1), none, []⟩,
   ⟨some 4, .mv (.c (.pv .nili)), none, []⟩])
  (.seq (.seq (.ops [
   ⟨some 7, .fieldAddr 1 (.t 2), none, []⟩,
   ⟨some 8, .load false 1 (.t 7), none, [0]⟩,
   ⟨some 9, .len (.t 8), none, [1]⟩,
   ⟨some 10, .mv (.c (.pv (.int .i64 0))), none, []⟩])
  (.block 0
   (.loop f234l0)))
  (.seq (.ops [
   ⟨some 4, .mv (.c (.pv .nili)), none, []⟩])
  .ret)))⟩
def f235l0 : ACode :=
 (.seq (.ops [
   ⟨some 18, .bin .lss none (.t 17) (.t 16), none, []⟩])
  (.seq (.cond (.t 18)
   .skip
   (.exit 0))
  (.seq (.block 1
   (.seq (.ops [
     ⟨some 19, .idxAddr 8 (.t 15) (.t 17), none, []⟩,
     ⟨some 20, .load true 8 (.t 19), none, [0]⟩,
     ⟨some 11, .alloc [(.pv (.int .i64 0)), (.pv (.int .i64 0)), (.pv (.int .i64 0)), (.pv (.int .u64 0)), (.pv (.int .u64 0)), (.pv (.int .u64 0)), (.pv (.int .u64 0)), (.pv (.int .i64 0))], none, []⟩,
     ⟨none, .store 8 (.t 11) (.t 20), none, [2, 1, 0, 1, 2]⟩])
    (.seq (.ops [
     ⟨some 22, .load true 3 (.t 4), none, []⟩,
     ⟨some 23, .fieldAddr 7 (.t 11), none, []⟩,
     ⟨some 24, .load false 1 (.t 23), none, [1]⟩,
     ⟨some 25, .call 82 [(.t 22), (.t 24)], none, [0, 2]⟩,
     ⟨some 21, .mv (.t 25), none, [3]⟩,
     ⟨some 26, .extract (.t 21) 0, none, [4]⟩,
     ⟨some 27, .extract (.t 21) 1, none, [4]⟩,
     ⟨some 12, .alloc [(.pv (.int .i64 0)), (.pv (.int .i64 0)), (.pv (.int .u64 0)), (.pv (.int .u64 0)), (.pv (.int .u64 0)), (.pv (.int .u64 0)), (.pv (.int .u64 0)), (.pv (.int .u64 0)), (.pv (.int .u64 0)), (.pv (.int .u64 0))], none, []⟩,
     ⟨none, .store 10 (.t 12) (.t 26), none, [7, 5, 3, 0, 1, 2, 3, 4, 5, 7]⟩,
     ⟨some 13, .mv (.t 27), none, [6, 8, 0, 1, 2, 3, 4, 5, 6, 7, 8]⟩])
    (.seq (.ops [
     ⟨some 28, .fieldAddr 1 (.t 11), none, []⟩,
     ⟨some 29, .load false 1 (.t 28), none, [0]⟩,
     ⟨some 30, .mv (.t 2), none, []⟩,
     ⟨some 31, .bin .eql none (.t 29) (.t 30), none, [1, 2]⟩,
     ⟨some 32, .mv (.t 31), none, [3]⟩,
     ⟨some 33, .fieldAddr 7 (.t 11), some (32, true), [4]⟩,
     ⟨some 34, .load false 1 (.t 33), some (32, true), [5, 4]⟩,
     ⟨some 35, .bin .neq none (.t 34) (.c (.pv (.int .i64 0))), some (32, true), [6, 4]⟩,
     ⟨some 36, .pick (.t 32) (.t 35) (.c (.pv (.bool false))), none, [4, 7]⟩,
     ⟨some 37, .mv (.t 36), none, [8, 4]⟩,
     ⟨some 38, .mv (.t 13), some (37, true), [9]⟩,
     ⟨some 39, .pick (.t 37) (.t 38) (.c (.pv (.bool false))), none, [9, 10]⟩,
     ⟨some 40, .mv (.t 39), none, [11, 9]⟩,
     ⟨some 41, .fieldAddr 1 (.t 12), some (40, true), [12]⟩,
     ⟨some 42, .load false 1 (.t 41), some (40, true), [13, 12]⟩,
     ⟨some 43, .mv (.t 3), some (40, true), [12]⟩,
     ⟨some 44, .bin .eql none (.t 42) (.t 43), some (40, true), [14, 15, 12]⟩,
     ⟨some 45, .pick (.t 40) (.t 44) (.c (.pv (.bool false))), none, [12, 16]⟩])
    (.cond (.t 45)
     (.ops [
       ⟨some 46, .mv (.t 9), none, []⟩,
       ⟨some 47, .bin .add none (.t 46) (.c (.pv (.int .i64 1))), none, [0]⟩,
       ⟨some 9, .mv (.t 47), none, [1, 0, 1]⟩])
     .skip)))))
  (.ops [
   ⟨some 48, .bin .add none (.t 17) (.c (.pv (.int .i64 1))), none, []⟩,
   ⟨some 17, .mv (.t 48), none, [0]⟩]))))
def f235 : AFunc := ⟨50, [.t 8],
 (.seq (.ops [
   ⟨some 4, .box (.t 0), none, []⟩,
   ⟨some 5, .box (.t 1), none, []⟩,
   ⟨some 8, .mv (.c (.pv (.int .i64 0))), none, []⟩])
  (.seq (.ops [
   ⟨some 9, .mv (.c (.pv (.int .i64 0))), none, []⟩])
  (.seq (.seq (.ops [
   ⟨some 14, .fieldAddr 0 (.t 5), none, []⟩,
   ⟨some 15, .load false 1 (.t 14), none, [0]⟩,
   ⟨some 16, .len (.t 15), none, [1]⟩,
   ⟨some 17, .mv (.c (.pv (.int .i64 0))), none, []⟩])
  (.block 0
   (.loop f235l0)))
  (.seq (.ops [
   ⟨some 49, .mv (.t 9), none, []⟩,
   ⟨some 8, .mv (.t 49), none, [0, 0]⟩])
  .ret))))⟩
def f236l0 : ACode :=
 (.seq (.ops [
   ⟨some 14, .bin .lss none (.t 13) (.t 12), none, []⟩])
  (.seq (.cond (.t 14)
   .skip
   (.exit 0))
  (.seq (.block 1
   (.seq (.ops [
     ⟨some 15, .idxAddr 1 (.t 11) (.t 13), none, []⟩,
     ⟨some 16, .load false 1 (.t 15), none, [0]⟩,
     ⟨some 9, .mv (.t 16), none, [1, 0, 1]⟩])
    (.ops [
     ⟨some 17, .mv (.t 7), none, []⟩,
     ⟨some 18, .load true 3 (.t 3), none, []⟩,
     ⟨some 19, .load true 3 (.t 4), none, []⟩,
     ⟨some 20, .mv (.t 2), none, []⟩,
     ⟨some 21, .mv (.t 9), none, []⟩,
     ⟨some 22, .call 235 [(.t 18), (.t 19), (.t 20), (.t 21)], none, [1, 2, 3, 4]⟩,
     ⟨some 23, .bslice 1 1 [(.pv (.int .i64 0))] [(0, 1, (.t 22))], none, [5]⟩,
     ⟨some 24, .append 1 8 (.t 17) (.t 23), none, [0, 6, 5]⟩,
     ⟨some 7, .mv (.t 24), none, [7, 7, 0, 1, 2, 3, 4, 5, 6, 7]⟩])))
  (.ops [
   ⟨some 25, .bin .add none (.t 13) (.c (.pv (.int .i64 1))), none, []⟩,
   ⟨some 13, .mv (.t 25), none, [0]⟩]))))
def f236 : AFunc := ⟨34, [.t 6],
 (.seq (.ops [
   ⟨some 3, .box (.t 0), none, []⟩,
   ⟨some 4, .box (.t 1), none, []⟩,
   ⟨some 6, .mv (.c (.pv (.int .i64 0))), none, []⟩])
  (.seq (.ops [
   ⟨some 7, .mv (.c .nils), none, []⟩])
  (.seq (.seq (.ops [
   ⟨some 10, .load true 3 (.t 3), none, []⟩,
   ⟨some 11, .call 84 [(.t 10)], none, [0]⟩,
   ⟨some 12, .len (.t 11), none, [1]⟩,
   ⟨some 13, .mv (.c (.pv (.int .i64 0))), none, []⟩])
  (.block 0
   (.loop f236l0)))
  (.seq (.seq (.ops [
   ⟨some 26, .mv (.t 7), none, []⟩,
   ⟨some 27, .len (.t 26), none, [0]⟩,
   ⟨some 28, .bin .eql none (.t 27) (.c (.pv (.int .i64 0))), none, [1]⟩])
  (.cond (.t 28)
   (.seq (.ops [
     ⟨some 6, .mv (.c (.pv (.int .i64 0))), none, []⟩])
    .ret)
   .skip))
  (.seq (.ops [
   ⟨some 29, .mv (.t 7), none, []⟩,
   ⟨some 30, .call 290 [(.t 29)], none, [0]⟩,
   ⟨some 31, .mv (.t 7), none, []⟩,
   ⟨some 32, .call 291 [(.t 31)], none, [2, 1]⟩,
   ⟨some 33, .bin .sub none (.t 30) (.t 32), none, [1, 3]⟩,
   ⟨some 6, .mv (.t 33), none, [4, 3, 0, 1, 2, 3, 4]⟩])
  .ret)))))⟩
end Go.Proofs.YtjmggjlfamjdbaaGreatDoor.Ab
set_option linter.unusedVariables false
set_option linter.unusedSimpArgs false
namespace Go.Proofs.YtjmggjlfamjdbaaGreatDoor.Ab
open Go
def zonesL (s : Snap) : List Int := risesL (s.nodes.map Node.zone)
structure StdZ (T : Tab) : Prop where
  p293 : T.prim 293 = some sortP
  r293 : T.raw 293 = true
  p281 : T.prim 281 = some compP
  r281 : T.raw 281 = true
  h84 : Std T 84 f84
section
variable {T : Tab}
theorem zones_loop (s : Snap) (hl : s.nodes.length ≤ 2 ^ 29) (Q : Exit → St → Prop)
    (hend : ∀ fr hp nx, Own (look fr 3) hp 1 ((s.nodes.map Node.zone).map i64C) 1 nx → Q (.exit 0) ⟨fr, hp, nx⟩) :
    ∀ (rest : List Node) (i : Nat) (acc : List Int), s.nodes.drop i = rest → i ≤ s.nodes.length → acc ++ rest.map Node.zone = s.nodes.map Node.zone → ∀ (fr : List (Nat × AV)) (hp : Hl) (nx : Nat), 1 ≤ nx → look fr 7 = .pv (.slice (s.nodes.map nodeC)) → look fr 8 = .pv (.int .i64 s.nodes.length) → look fr 9 = .pv (.int .i64 i) →
      Own (look fr 3) hp 1 (acc.map i64C) 1 nx → Wp T false (.loop f84l0) ⟨fr, hp, nx⟩ Q := by
  intro rest
  induction rest with
  | nil =>
    intro i acc hd hi ho fr hp nx hnx h7 h8 h9 h3
    have hlen := drop_nil hd hi
    simp only [List.map_nil, List.append_nil] at ho
    subst ho
    rw [Wp_loop, Wp_eq f84l0.eq_1]
    simp only [runL, defL, binV, simprocAttr, List.drop, List.take, h7, h8, h9, hlen, Int.lt_irrefl]
    exact hend _ _ _ (by simp only [look_if, blkAt_if, Nat.reduceEqDiff, if_true, if_false]; exact h3)
  | cons n r ih =>
    intro i acc hd hi ho fr hp nx hnx h7 h8 h9 h3
    obtain ⟨hget, hlt, hw, hd', hi', hb⟩ := drop_cons hd (by omega)
    have hlen : acc.length + 1 ≤ 2 ^ 30 := by
      have := congrArg List.length ho
      simp at this
      omega
    have hp1 := ((h3.over (i := nx) (b := .var [.pv (.int .i64 0), .pv (.int .i64 0), .pv (.int .u64 0), .pv (.int .u64 0), .pv (.int .u64 0), .pv (.int .u64 0), .pv (.int .u64 0), .pv (.int .u64 0), .pv (.int .u64 0), .pv (.int .u64 0)]) (.inr (Nat.le_refl _))).over (i := nx) (b := .var (pvs (nodeC n))) (.inr (Nat.le_refl _))).up (Nat.le_succ nx)
    obtain ⟨v', W, k, a1, a2, a3⟩ := hp1.app1 (by omega) (i64C n.zone) (by rw [List.length_map]; omega)
    simp only [i64C, nodeC, pvs] at a1 a3
    rw [Wp_loop, Wp_eq f84l0.eq_1]
    simp only [runL, defL, binV, simprocAttr, List.drop, List.take, h7, h8, h9, hlt, hget, nodeC, partsScal, srcV, chunk, allLen, List.all_cons, List.all_nil, a1, hw]
    refine ih (i + 1) (acc ++ [n.zone]) hd' hi' (by rw [← ho]; simp) _ _ _ (by omega) ?_ ?_ ?_ ?_
    all_goals try simp only [look_if, blkAt_if, Nat.reduceEqDiff, if_true, if_false, h7, h8]
    simpa only [List.map_append, List.map_cons, List.map_nil, i64C] using a3
theorem zones_ok (S : StdZ T) (s : Snap) (hl : s.nodes.length ≤ 2 ^ 29) : Gives T 84 [snapP s] (.slice ((zonesL s).map i64C)) := by
  refine gives S.h84 rfl ?_
  simp only [f84, runL, defL, binV, simprocAttr, List.drop, List.take, snapP]
  refine zones_loop s hl _ (fun fr hp nx h3 => ?_) s.nodes 0 [] rfl (Nat.zero_le _) rfl _ _ _ (Nat.le_refl _) rfl rfl rfl Own.nil
  rcases h3 with ⟨he, h3⟩ | ⟨id, h3, i1, i2, i3⟩
  · have hz : s.nodes.map Node.zone = [] := by simpa using he
    simp only [runL, defL, binV, simprocAttr, List.drop, List.take, h3]
    rw [callQ_raw S.r293 (D_prim S.p293 (show sortP [.nils] hp nx = some (.pv (.tuple []), hp, nx) from rfl))]
    simp only [runL, defL, binV, simprocAttr, List.drop, List.take, h3]
    rw [callQ_raw S.r281 (D_prim S.p281 (show compP [.nils] hp nx = some (.nils, hp, nx) from rfl))]
    have hn : risesL [] = [] := List.eq_nil_of_length_eq_zero (by have := risesL_le []; simpa using this)
    simp only [runL, defL, binV, simprocAttr, List.drop, List.take, zonesL, hz, hn, List.map_nil]
  · have hlen : (s.nodes.map Node.zone).length ≤ 2 ^ 30 := by rw [List.length_map]; omega
    have e1 : sortP [.ms id] hp nx = some (.pv (.tuple []), (id, .row 1 ((sortL (s.nodes.map Node.zone)).map i64C)) :: hp, nx) := by
      simp only [sortP, i3, intsV_map, hlen, if_true]
    simp only [runL, defL, binV, simprocAttr, List.drop, List.take, h3]
    rw [callQ_raw S.r293 (D_prim S.p293 e1)]
    simp only [runL, defL, binV, simprocAttr, List.drop, List.take, h3]
    have hlen2 : (sortL (s.nodes.map Node.zone)).length ≤ 2 ^ 30 := by rw [sortL_length]; exact hlen
    have e2 : compP [.ms id] ((id, .row 1 ((sortL (s.nodes.map Node.zone)).map i64C)) :: hp) nx = some (.msub id 0 (zonesL s).length, (id, .row 1 (((zonesL s) ++ List.replicate ((sortL (s.nodes.map Node.zone)).length - (zonesL s).length) 0).map i64C)) :: (id, .row 1 ((sortL (s.nodes.map Node.zone)).map i64C)) :: hp, nx) := by
      simp only [compP, blkAt_if, if_true, intsV_map, hlen2]
      rfl
    rw [callQ_raw S.r281 (D_prim S.p281 e2)]
    have hle : (zonesL s).length ≤ (zonesL s).length + (List.replicate ((sortL (s.nodes.map Node.zone)).length - (zonesL s).length) (0 : Int)).length := Nat.le_add_right _ _
    simp only [runL, defL, binV, simprocAttr, List.drop, List.take, List.map_append, List.length_append, hle, List.take_append_of_le_length, List.length_map, Nat.le_refl, List.take_length]
    rw [List.take_of_length_le (by rw [List.length_map]; exact Nat.le_refl _)]
/-! ### Counts -/
def zoneIs (s : Snap) (node zone : Int) : Bool := match nodeOf node s.nodes with
  | some x => decide (x.zone = zone)
  | none => false
def inZ (s : Snap) (load zone : Int) (p : Pod) : Bool := decide (p.load = load) && (decide (p.node ≠ 0) && zoneIs s p.node zone)
def cntZ (s : Snap) (load zone : Int) : List Pod → Nat
  | [] => 0
  | p :: r => (if inZ s load zone p = true then 1 else 0) + cntZ s load zone r
theorem cntZ_le (s : Snap) (load zone : Int) : ∀ l, cntZ s load zone l ≤ l.length
  | [] => Nat.le_refl _
  | p :: r => by
    have := cntZ_le s load zone r
    simp only [cntZ, List.length_cons]
    split <;> omega
structure Std8 (T : Tab) : Prop where
  z : StdZ T
  h82 : Std T 82 f82
  h235 : Std T 235 f235
  h236 : Std T 236 f236
  m290 : StdP T 290 (foldP mostL)
  m291 : StdP T 291 (foldP leastL)
  fl290 : T.flat 290 = true
  fl291 : T.flat 291 = true
theorem count_loop (S : Std8 T) (s : Snap) (t : State) (load zone : Int) (hn : s.nodes.length ≤ 2 ^ 29) (hl : t.pods.length ≤ 2 ^ 29) (Q : Exit → St → Prop)
    (hend : ∀ fr hp nx, look fr 9 = .pv (.int .i64 (cntZ s load zone t.pods : Nat)) → Q (.exit 0) ⟨fr, hp, nx⟩) :
    ∀ (rest : List Pod) (i acc : Nat), t.pods.drop i = rest → i ≤ t.pods.length → acc + cntZ s load zone rest = cntZ s load zone t.pods → ∀ (fr : List (Nat × AV)) (hp : Hl) (nx : Nat), 2 ≤ nx → look fr 2 = .pv (.int .i64 load) → look fr 3 = .pv (.int .i64 zone) → look fr 4 = .ptr 0 0 0 →
      blkAt hp 0 = .var [.pv (.slice (s.nodes.map nodeC)), .pv (.slice (s.loads.map loadC)), .pv (.slice (s.pods.map podC))] → look fr 9 = .pv (.int .i64 (acc : Int)) → look fr 15 = .pv (.slice (t.pods.map podC)) → look fr 16 = .pv (.int .i64 t.pods.length) → look fr 17 = .pv (.int .i64 i) → Wp T false (.loop f235l0) ⟨fr, hp, nx⟩ Q := by
  intro rest
  induction rest with
  | nil =>
    intro i acc hd hi ho fr hp nx hnx g2 g3 g4 b0 g9 g15 g16 g17
    have hlen := drop_nil hd hi
    simp only [cntZ, Nat.add_zero] at ho
    subst ho
    rw [Wp_loop, Wp_eq f235l0.eq_1]
    simp only [runL, defL, binV, simprocAttr, List.drop, List.take, g15, g16, g17, hlen, Int.lt_irrefl]
    exact hend _ _ _ (by simp only [look_if, blkAt_if, Nat.reduceEqDiff, if_true, if_false]; exact g9)
  | cons p r ih =>
    intro i acc hd hi ho fr hp nx hnx g2 g3 g4 b0 g9 g15 g16 g17
    obtain ⟨hget, hlt, hw, hd', hi', hb⟩ := drop_cons hd (by omega)
    have n0 : ¬ nx = 0 := by omega
    have hacc : acc + 1 ≤ 2 ^ 30 := by
      have h1 := cntZ_le s load zone t.pods
      have h2 := cntZ_le s load zone (p :: r)
      omega
    have k := node_ok S.h82 s p.node (by omega)
    simp only [snapP] at k
    have skip : inZ s load zone p = false → ∀ fr' hp' nx', 2 ≤ nx' → look fr' 2 = look fr 2 → look fr' 3 = look fr 3 → look fr' 4 = look fr 4 → blkAt hp' 0 = blkAt hp 0 → look fr' 9 = look fr 9 → look fr' 15 = look fr 15 → look fr' 16 = look fr 16 → look fr' 17 = .pv (.int .i64 ((i + 1 : Nat) : Int)) → Wp T false (.loop f235l0) ⟨fr', hp', nx'⟩ Q := by
      intro h fr' hp' nx' q1 q2 q3 q4 q5 q6 q7 q8 q9
      exact ih (i + 1) acc hd' hi' (by rw [← ho, cntZ, h]; simp) _ _ _ q1 (q2.trans g2) (q3.trans g3) (q4.trans g4) (q5.trans b0) (q6.trans g9) (q7.trans g15) (q8.trans g16) q9
    rw [Wp_loop, Wp_eq f235l0.eq_1]
    by_cases c1 : p.load = load
    · have d1 := decide_eq_true c1
      by_cases c2 : p.node = 0
      · have d2 := decide_eq_true c2
        have hz : inZ s load zone p = false := by simp [inZ, c2]
        cases hno : nodeOf p.node s.nodes with
        | none =>
          rw [hno] at k
          simp only [nodeR, nodeC, node0] at k
          simp only [runL, defL, binV, simprocAttr, List.drop, List.take, g2, g3, g4, b0, g15, g16, g17, hlt, hget, podC, n0, k.call, d1, d2, hw]
          refine skip hz _ _ _ (by omega) ?_ ?_ ?_ ?_ ?_ ?_ ?_ ?_
          all_goals try simp only [look_if, blkAt_if, Nat.reduceEqDiff, if_true, if_false, n0]
        | some x =>
          rw [hno] at k
          simp only [nodeR, nodeC] at k
          simp only [runL, defL, binV, simprocAttr, List.drop, List.take, g2, g3, g4, b0, g15, g16, g17, hlt, hget, podC, n0, k.call, d1, d2, hw]
          refine skip hz _ _ _ (by omega) ?_ ?_ ?_ ?_ ?_ ?_ ?_ ?_
          all_goals try simp only [look_if, blkAt_if, Nat.reduceEqDiff, if_true, if_false, n0]
      · cases hno : nodeOf p.node s.nodes with
        | none =>
          have hz : inZ s load zone p = false := by simp [inZ, zoneIs, hno]
          rw [hno] at k
          simp only [nodeR, nodeC, node0] at k
          simp only [runL, defL, binV, simprocAttr, List.drop, List.take, g2, g3, g4, b0, g15, g16, g17, hlt, hget, podC, n0, k.call, d1, c2, hw]
          refine skip hz _ _ _ (by omega) ?_ ?_ ?_ ?_ ?_ ?_ ?_ ?_
          all_goals try simp only [look_if, blkAt_if, Nat.reduceEqDiff, if_true, if_false, n0]
        | some x =>
          rw [hno] at k
          simp only [nodeR, nodeC] at k
          by_cases c3 : x.zone = zone
          · have d3 := decide_eq_true c3
            have hz : inZ s load zone p = true := by simp [inZ, zoneIs, hno, c1, c2, c3]
            have hw2 : IntKind.i64.wrap ((acc : Int) + 1) = ((acc + 1 : Nat) : Int) := by rw [wrap6] <;> omega
            simp only [runL, defL, binV, simprocAttr, List.drop, List.take, g2, g3, g4, b0, g9, g15, g16, g17, hlt, hget, podC, n0, k.call, d1, c2, d3, hw, hw2]
            refine ih (i + 1) (acc + 1) hd' hi' (by rw [← ho, cntZ, hz]; simp; omega) _ _ _ (by omega) ?_ ?_ ?_ ?_ ?_ ?_ ?_ ?_
            all_goals try simp only [look_if, blkAt_if, Nat.reduceEqDiff, if_true, if_false, n0, g2, g3, g4, b0, g15, g16]
          · have hz : inZ s load zone p = false := by simp [inZ, zoneIs, hno, c3]
            simp only [runL, defL, binV, simprocAttr, List.drop, List.take, g2, g3, g4, b0, g15, g16, g17, hlt, hget, podC, n0, k.call, d1, c2, c3, hw]
            refine skip hz _ _ _ (by omega) ?_ ?_ ?_ ?_ ?_ ?_ ?_ ?_
            all_goals try simp only [look_if, blkAt_if, Nat.reduceEqDiff, if_true, if_false, n0]
    · have hz : inZ s load zone p = false := by simp [inZ, c1]
      cases hno : nodeOf p.node s.nodes with
      | none =>
        rw [hno] at k
        simp only [nodeR, nodeC, node0] at k
        simp only [runL, defL, binV, simprocAttr, List.drop, List.take, g2, g3, g4, b0, g15, g16, g17, hlt, hget, podC, n0, k.call, c1, hw]
        refine skip hz _ _ _ (by omega) ?_ ?_ ?_ ?_ ?_ ?_ ?_ ?_
        all_goals try simp only [look_if, blkAt_if, Nat.reduceEqDiff, if_true, if_false, n0]
      | some x =>
        rw [hno] at k
        simp only [nodeR, nodeC] at k
        simp only [runL, defL, binV, simprocAttr, List.drop, List.take, g2, g3, g4, b0, g15, g16, g17, hlt, hget, podC, n0, k.call, c1, hw]
        refine skip hz _ _ _ (by omega) ?_ ?_ ?_ ?_ ?_ ?_ ?_ ?_
        all_goals try simp only [look_if, blkAt_if, Nat.reduceEqDiff, if_true, if_false, n0]
theorem count8_ok (S : Std8 T) (s : Snap) (t : State) (load zone : Int) (hn : s.nodes.length ≤ 2 ^ 29) (hl : t.pods.length ≤ 2 ^ 29) : Gives T 235 [snapP s, stateP t, .int .i64 load, .int .i64 zone] (.int .i64 (cntZ s load zone t.pods : Nat)) := by
  refine gives S.h235 rfl ?_
  simp only [f235, runL, defL, binV, simprocAttr, List.drop, List.take, snapP, stateP]
  refine count_loop S s t load zone hn hl _ (fun fr hp nx g9 => ?_) t.pods 0 0 rfl (Nat.zero_le _) (Nat.zero_add _) _ _ _ (Nat.le_refl _) rfl rfl rfl rfl rfl rfl rfl rfl
  simp only [runL, defL, binV, simprocAttr, List.drop, List.take, g9]
/-! ### Skews -/
def cntsL (s : Snap) (load : Int) (pods : List Pod) : List Int := (zonesL s).map fun z => ((cntZ s load z pods : Nat) : Int)
def skewOf (l : List Int) : Int := match l with
  | [] => 0
  | n :: r => mostL (n :: r) - leastL (n :: r)
def skewZ (s : Snap) (load : Int) (pods : List Pod) : Int := skewOf (cntsL s load pods)
theorem skew_loop (S : Std8 T) (s : Snap) (t : State) (load : Int) (hn : s.nodes.length ≤ 2 ^ 29) (hl : t.pods.length ≤ 2 ^ 29) (Q : Exit → St → Prop)
    (hend : ∀ fr hp nx, Own (look fr 7) hp 1 ((cntsL s load t.pods).map i64C) 2 nx → Q (.exit 0) ⟨fr, hp, nx⟩) :
    ∀ (rest : List Int) (i : Nat) (acc : List Int), (zonesL s).drop i = rest → i ≤ (zonesL s).length → acc ++ rest.map (fun z => ((cntZ s load z t.pods : Nat) : Int)) = cntsL s load t.pods → ∀ (fr : List (Nat × AV)) (hp : Hl) (nx : Nat), 2 ≤ nx → look fr 2 = .pv (.int .i64 load) → look fr 3 = .ptr 0 0 0 → look fr 4 = .ptr 1 0 0 →
      blkAt hp 0 = .var [.pv (.slice (s.nodes.map nodeC)), .pv (.slice (s.loads.map loadC)), .pv (.slice (s.pods.map podC))] → blkAt hp 1 = .var [.pv (.slice (t.pods.map podC)), .pv (.int .i64 t.pre), .pv (.int .i64 t.shi)] →
      look fr 11 = .pv (.slice ((zonesL s).map i64C)) → look fr 12 = .pv (.int .i64 (zonesL s).length) → look fr 13 = .pv (.int .i64 i) → Own (look fr 7) hp 1 (acc.map i64C) 2 nx → Wp T false (.loop f236l0) ⟨fr, hp, nx⟩ Q := by
  intro rest
  have hzl : (zonesL s).length ≤ 2 ^ 29 := by
    have := risesL_le (s.nodes.map Node.zone)
    rw [List.length_map] at this
    exact Nat.le_trans this hn
  induction rest with
  | nil =>
    intro i acc hd hi ho fr hp nx hnx g2 g3 g4 b0 b1 g11 g12 g13 h7
    have hlen := drop_nil hd hi
    simp only [List.map_nil, List.append_nil] at ho
    subst ho
    rw [Wp_loop, Wp_eq f236l0.eq_1]
    simp only [runL, defL, binV, simprocAttr, List.drop, List.take, g11, g12, g13, hlen, Int.lt_irrefl]
    exact hend _ _ _ (by simp only [look_if, blkAt_if, Nat.reduceEqDiff, if_true, if_false]; exact h7)
  | cons z r ih =>
    intro i acc hd hi ho fr hp nx hnx g2 g3 g4 b0 b1 g11 g12 g13 h7
    obtain ⟨hget, hlt, hw, hd', hi', hb⟩ := drop_cons hd (by omega)
    have hlen : acc.length + 1 ≤ 2 ^ 30 := by
      have := congrArg List.length ho
      simp [cntsL] at this
      omega
    have k := count8_ok S s t load z hn hl
    simp only [snapP, stateP] at k
    obtain ⟨v', W, m, a1, a2, a3⟩ := h7.app1 (by omega) (i64C (cntZ s load z t.pods : Nat)) (by rw [List.length_map]; omega)
    simp only [i64C] at a1 a3
    rw [Wp_loop, Wp_eq f236l0.eq_1]
    simp only [runL, defL, binV, simprocAttr, List.drop, List.take, g2, g3, g4, b0, b1, g11, g12, g13, hlt, hget, i64C, k.call, partsScal, srcV, chunk, allLen, List.all_cons, List.all_nil, a1, hw]
    have z0 := a2 0 (by omega)
    have z1 := a2 1 (by omega)
    simp only [i64C] at z0 z1
    refine ih (i + 1) (acc ++ [((cntZ s load z t.pods : Nat) : Int)]) hd' hi' (by rw [← ho]; simp) _ _ _ (by omega) ?_ ?_ ?_ ?_ ?_ ?_ ?_ ?_ ?_
    all_goals try simp only [look_if, blkAt_if, Nat.reduceEqDiff, if_true, if_false, g2, g3, g4, g11, g12]
    · exact z0.trans b0
    · exact z1.trans b1
    · simpa only [List.map_append, List.map_cons, List.map_nil, i64C] using a3
theorem foldl_max_range (lo hi : Int) : ∀ (l : List Int) (a : Int), lo ≤ a → a ≤ hi → (∀ x ∈ l, lo ≤ x ∧ x ≤ hi) → lo ≤ l.foldl max a ∧ l.foldl max a ≤ hi
  | [], a, h1, h2, _ => ⟨h1, h2⟩
  | x :: r, a, h1, h2, h => by
    have hx := h x (List.mem_cons_self ..)
    exact foldl_max_range lo hi r (max a x) (by omega) (by omega) (fun y hy => h y (List.mem_cons_of_mem _ hy))
theorem foldl_min_range (lo hi : Int) : ∀ (l : List Int) (a : Int), lo ≤ a → a ≤ hi → (∀ x ∈ l, lo ≤ x ∧ x ≤ hi) → lo ≤ l.foldl min a ∧ l.foldl min a ≤ hi
  | [], a, h1, h2, _ => ⟨h1, h2⟩
  | x :: r, a, h1, h2, h => by
    have hx := h x (List.mem_cons_self ..)
    exact foldl_min_range lo hi r (min a x) (by omega) (by omega) (fun y hy => h y (List.mem_cons_of_mem _ hy))
theorem mostL_range {lo hi : Int} {n : Int} {r : List Int} (h : ∀ x ∈ n :: r, lo ≤ x ∧ x ≤ hi) : lo ≤ mostL (n :: r) ∧ mostL (n :: r) ≤ hi := foldl_max_range lo hi _ _ (h n (by simp)).1 (h n (by simp)).2 h
theorem leastL_range {lo hi : Int} {n : Int} {r : List Int} (h : ∀ x ∈ n :: r, lo ≤ x ∧ x ≤ hi) : lo ≤ leastL (n :: r) ∧ leastL (n :: r) ≤ hi := foldl_min_range lo hi _ _ (h n (by simp)).1 (h n (by simp)).2 h
theorem cntsL_range (s : Snap) (load : Int) (pods : List Pod) : ∀ x ∈ cntsL s load pods, 0 ≤ x ∧ x ≤ pods.length := by
  intro x hx
  simp only [cntsL, List.mem_map] at hx
  obtain ⟨z, _, rfl⟩ := hx
  have := cntZ_le s load z pods
  omega
theorem skew8_ok (S : Std8 T) (s : Snap) (t : State) (load : Int) (hn : s.nodes.length ≤ 2 ^ 29) (hl : t.pods.length ≤ 2 ^ 29) : Gives T 236 [snapP s, stateP t, .int .i64 load] (.int .i64 (skewZ s load t.pods)) := by
  refine gives S.h236 rfl ?_
  have k := zones_ok S.z s hn
  simp only [snapP] at k
  simp only [f236, runL, defL, binV, simprocAttr, List.drop, List.take, snapP, stateP, k.call]
  refine skew_loop S s t load hn hl _ (fun fr hp nx h7 => ?_) (zonesL s) 0 [] rfl (Nat.zero_le _) rfl _ _ _ (Nat.le_refl _) rfl rfl rfl rfl rfl rfl ?_ rfl Own.nil
  · have hr := cntsL_range s load t.pods
    have hcl : (cntsL s load t.pods).length ≤ 2 ^ 30 := by
      have := risesL_le (s.nodes.map Node.zone)
      rw [List.length_map] at this
      simp only [cntsL, List.length_map]
      exact Nat.le_trans this (by omega)
    have e7 := h7.len
    rw [List.length_map] at e7
    simp only [skewZ]
    cases hc : cntsL s load t.pods with
    | nil =>
      rw [hc] at e7
      have z0 : ((0 : Nat) : Int) = 0 := rfl
      simp only [runL, defL, binV, simprocAttr, List.drop, List.take, e7, z0, skewOf]
    | cons n r =>
      rw [hc] at e7 hr h7 hcl
      have k1 := (fold_ok S.m290 (n :: r) (by simp) hcl).callF S.fl290 rfl
      have k2 := (fold_ok S.m291 (n :: r) (by simp) hcl).callF S.fl291 rfl
      rcases h7 with ⟨he, h7⟩ | ⟨id, h7, i1, i2, i3⟩
      · simp at he
      · have r1 := mostL_range hr
        have r2 := leastL_range hr
        have hwr : IntKind.i64.wrap (mostL (n :: r) - leastL (n :: r)) = mostL (n :: r) - leastL (n :: r) := by rw [wrap6] <;> omega
        have hne : ¬ ((r.length + 1 : Nat) : Int) = 0 := by omega
        simp only [runL, defL, binV, simprocAttr, List.drop, List.take, h7, i3, hne, k1, k2, hwr, skewOf]
  · simp only [runL, defL, binV, simprocAttr, List.drop, List.take]
end
end Go.Proofs.YtjmggjlfamjdbaaGreatDoor.Ab
set_option linter.unusedVariables false
namespace Go.Proofs.YtjmggjlfamjdbaaGreatDoor.Ab
open Go
def f4 : AFunc := ⟨8, [.t 2],
 (.seq (.ops [
   ⟨some 2, .mv (.c (.pv .nili)), none, []⟩])
  (.seq (.ops [
   ⟨some 3, .mv (.t 0), none, []⟩,
   ⟨some 4, .nilchk (.t 3), none, [0]⟩,
   ⟨some 5, .fieldAddr 1 (.t 4), none, [1]⟩,
   ⟨some 6, .load false 1 (.t 5), none, [2]⟩,
   ⟨some 7, .mkI 0 (.t 6), none, [3]⟩,
   ⟨some 2, .mv (.t 7), none, [4, 0, 1, 2, 3, 4]⟩])
  .ret))⟩
def f70l0 : ACode :=
 (.seq (.ops [
   ⟨some 12, .bin .lss none (.t 11) (.t 10), none, []⟩])
  (.seq (.cond (.t 12)
   .skip
   (.exit 0))
  (.seq (.block 1
   (.seq (.ops [
     ⟨some 13, .mv (.t 11), none, []⟩,
     ⟨some 14, .idxAddr 5 (.t 9) (.t 11), none, []⟩,
     ⟨some 15, .load true 5 (.t 14), none, [1]⟩,
     ⟨some 6, .alloc [(.pv (.int .i64 0)), (.pv (.bool false)), (.pv (.int .i64 0)), (.pv (.int .i64 0)), (.pv (.int .i64 0))], none, []⟩,
     ⟨some 5, .mv (.t 13), none, [0, 0, 1, 2, 3]⟩,
     ⟨none, .store 5 (.t 6) (.t 15), none, [3, 2, 4, 0, 1, 2, 3, 4]⟩])
    (.seq (.ops [
     ⟨some 16, .load true 3 (.t 3), none, []⟩,
     ⟨some 17, .fieldAddr 0 (.t 6), none, []⟩,
     ⟨some 18, .load false 1 (.t 17), none, [1]⟩,
     ⟨some 19, .call 71 [(.t 16), (.t 18)], none, [0, 2]⟩,
     ⟨some 7, .mv (.t 19), none, [3, 3, 0, 1, 2, 3]⟩])
    (.block 2
     (.seq (.ops [
       ⟨some 21, .mv (.t 7), none, []⟩,
       ⟨some 22, .fieldAddr 3 (.t 6), none, []⟩,
       ⟨some 23, .load false 1 (.t 22), none, [1]⟩,
       ⟨some 24, .bin .lss none (.t 21) (.t 23), none, [0, 2]⟩,
       ⟨some 20, .mv (.t 24), none, [3]⟩])
      (.cond (.t 20)
       (.seq (.ops [
         ⟨some 25, .mv (.t 5), none, []⟩,
         ⟨some 26, .build [(.pv (.int .i64 0)), (.pv (.int .i64 0))] [(0, 1, (.t 25)), (1, 1, (.c (.pv (.int .i64 12))))], none, [0]⟩,
         ⟨some 27, .box (.t 26), none, [1]⟩,
         ⟨some 28, .mkI 1 (.t 27), none, [2]⟩,
         ⟨some 4, .mv (.t 28), none, [3, 0, 1, 2, 3]⟩])
        .ret)
       (.seq (.ops [
         ⟨some 30, .mv (.t 7), none, []⟩,
         ⟨some 31, .fieldAddr 4 (.t 6), none, []⟩,
         ⟨some 32, .load false 1 (.t 31), none, [1]⟩,
         ⟨some 33, .bin .gtr none (.t 30) (.t 32), none, [0, 2]⟩,
         ⟨some 29, .mv (.t 33), none, [3]⟩])
        (.cond (.t 29)
         (.seq (.ops [
           ⟨some 34, .mv (.t 5), none, []⟩,
           ⟨some 35, .build [(.pv (.int .i64 0)), (.pv (.int .i64 0))] [(0, 1, (.t 34)), (1, 1, (.c (.pv (.int .i64 13))))], none, [0]⟩,
           ⟨some 36, .box (.t 35), none, [1]⟩,
           ⟨some 37, .mkI 1 (.t 36), none, [2]⟩,
           ⟨some 4, .mv (.t 37), none, [3, 0, 1, 2, 3]⟩])
          .ret)
         .skip))))))))
  (.ops [
   ⟨some 38, .bin .add none (.t 11) (.c (.pv (.int .i64 1))), none, []⟩,
   ⟨some 11, .mv (.t 38), none, [0]⟩]))))
def f70 : AFunc := ⟨39, [.t 4],
 (.seq (.ops [
   ⟨some 2, .box (.t 0), none, []⟩,
   ⟨some 3, .box (.t 1), none, []⟩,
   ⟨some 4, .mv (.c (.pv .nili)), none, []⟩])
  (.seq (.seq (.ops [
   ⟨some 8, .fieldAddr 1 (.t 2), none, []⟩,
   ⟨some 9, .load false 1 (.t 8), none, [0]⟩,
   ⟨some 10, .len (.t 9), none, [1]⟩,
   ⟨some 11, .mv (.c (.pv (.int .i64 0))), none, []⟩])
  (.block 0
   (.loop f70l0)))
  (.seq (.ops [
   ⟨some 4, .mv (.c (.pv .nili)), none, []⟩])
  .ret)))⟩
def f71l0 : ACode :=
 (.seq (.ops [
   ⟨some 12, .bin .lss none (.t 11) (.t 10), none, []⟩])
  (.seq (.cond (.t 12)
   .skip
   (.exit 0))
  (.seq (.block 1
   (.seq (.ops [
     ⟨some 13, .idxAddr 8 (.t 9) (.t 11), none, []⟩,
     ⟨some 14, .load true 8 (.t 13), none, [0]⟩,
     ⟨some 7, .alloc [(.pv (.int .i64 0)), (.pv (.int .i64 0)), (.pv (.int .i64 0)), (.pv (.int .u64 0)), (.pv (.int .u64 0)), (.pv (.int .u64 0)), (.pv (.int .u64 0)), (.pv (.int .i64 0))], none, []⟩,
     ⟨none, .store 8 (.t 7) (.t 14), none, [2, 1, 0, 1, 2]⟩])
    (.seq (.ops [
     ⟨some 15, .fieldAddr 1 (.t 7), none, []⟩,
     ⟨some 16, .load false 1 (.t 15), none, [0]⟩,
     ⟨some 17, .mv (.t 1), none, []⟩,
     ⟨some 18, .bin .eql none (.t 16) (.t 17), none, [1, 2]⟩,
     ⟨some 19, .mv (.t 18), none, [3]⟩,
     ⟨some 20, .fieldAddr 7 (.t 7), some (19, true), [4]⟩,
     ⟨some 21, .load false 1 (.t 20), some (19, true), [5, 4]⟩,
     ⟨some 22, .bin .neq none (.t 21) (.c (.pv (.int .i64 0))), some (19, true), [6, 4]⟩,
     ⟨some 23, .pick (.t 19) (.t 22) (.c (.pv (.bool false))), none, [4, 7]⟩])
    (.cond (.t 23)
     (.ops [
       ⟨some 24, .mv (.t 5), none, []⟩,
       ⟨some 25, .bin .add none (.t 24) (.c (.pv (.int .i64 1))), none, [0]⟩,
       ⟨some 5, .mv (.t 25), none, [1, 0, 1]⟩])
     .skip))))
  (.ops [
   ⟨some 26, .bin .add none (.t 11) (.c (.pv (.int .i64 1))), none, []⟩,
   ⟨some 11, .mv (.t 26), none, [0]⟩]))))
def f71 : AFunc := ⟨28, [.t 4],
 (.seq (.ops [
   ⟨some 2, .box (.t 0), none, []⟩,
   ⟨some 4, .mv (.c (.pv (.int .i64 0))), none, []⟩])
  (.seq (.ops [
   ⟨some 5, .mv (.c (.pv (.int .i64 0))), none, []⟩])
  (.seq (.seq (.ops [
   ⟨some 8, .fieldAddr 0 (.t 2), none, []⟩,
   ⟨some 9, .load false 1 (.t 8), none, [0]⟩,
   ⟨some 10, .len (.t 9), none, [1]⟩,
   ⟨some 11, .mv (.c (.pv (.int .i64 0))), none, []⟩])
  (.block 0
   (.loop f71l0)))
  (.seq (.ops [
   ⟨some 27, .mv (.t 5), none, []⟩,
   ⟨some 4, .mv (.t 27), none, [0, 0]⟩])
  .ret))))⟩
def f72 : AFunc := ⟨18, [.t 4],
 (.seq (.ops [
   ⟨some 2, .box (.t 0), none, []⟩,
   ⟨some 3, .box (.t 1), none, []⟩,
   ⟨some 4, .mv (.c (.pv .nili)), none, []⟩])
  (.seq (.seq (.ops [
   ⟨some 5, .fieldAddr 1 (.t 3), none, []⟩,
   ⟨some 6, .load false 1 (.t 5), none, [0]⟩,
   ⟨some 7, .fieldAddr 1 (.t 2), none, []⟩,
   ⟨some 8, .load false 1 (.t 7), none, [2]⟩,
   ⟨some 9, .bin .gtr none (.t 6) (.t 8), none, [1, 3]⟩,
   ⟨some 10, .mv (.t 9), none, [4]⟩,
   ⟨some 11, .fieldAddr 2 (.t 3), some (10, false), [5]⟩,
   ⟨some 12, .load false 1 (.t 11), some (10, false), [6, 5]⟩,
   ⟨some 13, .fieldAddr 2 (.t 2), some (10, false), [5]⟩,
   ⟨some 14, .load false 1 (.t 13), some (10, false), [8, 5]⟩,
   ⟨some 15, .bin .gtr none (.t 12) (.t 14), some (10, false), [7, 9, 5]⟩,
   ⟨some 16, .pick (.t 10) (.c (.pv (.bool true))) (.t 15), none, [5, 10]⟩])
  (.cond (.t 16)
   (.seq (.ops [
     ⟨some 17, .mkI 0 (.c (.pv (.int .i64 15))), none, []⟩,
     ⟨some 4, .mv (.t 17), none, [0, 0]⟩])
    .ret)
   .skip))
  (.seq (.ops [
   ⟨some 4, .mv (.c (.pv .nili)), none, []⟩])
  .ret)))⟩
def f102l0 : ACode :=
 (.seq (.seq (.ops [
   ⟨some 6, .mv (.t 3), none, []⟩,
   ⟨some 7, .bin .leq none (.t 6) (.c (.pv (.int .i64 17))), none, [0]⟩])
  (.cond (.t 7)
   .skip
   (.exit 0)))
  (.seq (.block 1
   (.seq (.ops [
     ⟨some 10, .mv (.t 0), none, []⟩,
     ⟨some 11, .mv (.t 3), none, []⟩,
     ⟨some 12, .mkI 0 (.t 11), none, [1]⟩,
     ⟨some 13, .bin .eql (some (.iface true)) (.t 10) (.t 12), none, [0, 2]⟩])
    (.cond (.t 13)
     (.seq (.ops [
       ⟨some 14, .mv (.t 3), none, []⟩,
       ⟨some 2, .mv (.t 14), none, [0, 0]⟩])
      .ret)
     .skip)))
  (.ops [
   ⟨some 8, .mv (.t 3), none, []⟩,
   ⟨some 9, .bin .add none (.t 8) (.c (.pv (.int .i64 1))), none, [0]⟩,
   ⟨some 3, .mv (.t 9), none, [1, 0, 1]⟩])))
def f102 : AFunc := ⟨15, [.t 2],
 (.seq (.ops [
   ⟨some 2, .mv (.c (.pv (.int .i64 0))), none, []⟩])
  (.seq (.seq (.ops [
   ⟨some 4, .mv (.t 0), none, []⟩,
   ⟨some 5, .bin .eql (some (.iface true)) (.t 4) (.c (.pv .nili)), none, [0]⟩])
  (.cond (.t 5)
   (.seq (.ops [
     ⟨some 2, .mv (.c (.pv (.int .i64 0))), none, []⟩])
    .ret)
   .skip))
  (.seq (.seq (.ops [
   ⟨some 3, .mv (.c (.pv (.int .i64 1))), none, []⟩])
  (.block 0
   (.loop f102l0)))
  (.seq (.ops [
   ⟨some 2, .mv (.c (.pv (.int .i64 (-1)))), none, []⟩])
  .ret))))⟩
def f105 : AFunc := ⟨17, [.t 6],
 (.seq (.ops [
   ⟨some 6, .mv (.c (.pv (.bool false))), none, []⟩])
  (.seq (.seq (.ops [
   ⟨some 7, .mv (.t 2), none, []⟩,
   ⟨some 8, .bin .lss none (.t 7) (.c (.pv (.int .i64 0))), none, [0]⟩])
  (.cond (.t 8)
   (.seq (.ops [
     ⟨some 9, .mv (.t 0), none, []⟩,
     ⟨some 10, .call 102 [(.t 9)], none, [0]⟩,
     ⟨some 11, .mv (.t 1), none, []⟩,
     ⟨some 12, .bin .eql none (.t 10) (.t 11), none, [1, 2]⟩,
     ⟨some 6, .mv (.t 12), none, [3, 1, 0, 1, 2, 3]⟩])
    .ret)
   .skip))
  (.seq (.ops [
   ⟨some 13, .mv (.t 0), none, []⟩,
   ⟨some 14, .mv (.t 2), none, []⟩,
   ⟨some 15, .mv (.t 1), none, []⟩,
   ⟨some 16, .call 103 [(.t 13), (.t 14), (.t 15)], none, [0, 1, 2]⟩,
   ⟨some 6, .mv (.t 16), none, [3, 3, 0, 1, 2, 3]⟩])
  .ret)))⟩
def f173l0 : ACode :=
 (.seq (.seq (.ops [
   ⟨some 8, .mv (.t 6), none, []⟩,
   ⟨some 9, .fieldAddr 1 (.t 2), none, []⟩,
   ⟨some 10, .load false 1 (.t 9), none, [1]⟩,
   ⟨some 11, .len (.t 10), none, [2]⟩,
   ⟨some 12, .bin .lss none (.t 8) (.t 11), none, [0, 3]⟩])
  (.cond (.t 12)
   .skip
   (.exit 0)))
  (.seq (.block 1
   (.seq (.draw [
     ⟨some 15, .load true 3 (.t 3), none, []⟩,
     ⟨some 16, .fieldAddr 1 (.t 2), none, []⟩,
     ⟨some 17, .load false 1 (.t 16), none, [1]⟩,
     ⟨some 18, .mv (.t 6), none, []⟩,
     ⟨some 19, .idxAddr 5 (.t 17) (.t 18), none, [2, 3]⟩,
     ⟨some 20, .fieldAddr 0 (.t 19), none, [4]⟩,
     ⟨some 21, .load false 1 (.t 20), none, [5]⟩,
     ⟨some 22, .call 176 [(.t 15), (.t 21)], none, [0, 6]⟩,
     ⟨some 7, .mv (.t 22), none, [7, 7, 0, 1, 2, 3, 4, 5, 6, 7]⟩])
    (.seq (.seq (.ops [
     ⟨some 23, .mv (.t 7), none, []⟩,
     ⟨some 24, .fieldAddr 1 (.t 2), none, []⟩,
     ⟨some 25, .load false 1 (.t 24), none, [1]⟩,
     ⟨some 26, .mv (.t 6), none, []⟩,
     ⟨some 27, .idxAddr 5 (.t 25) (.t 26), none, [2, 3]⟩,
     ⟨some 28, .fieldAddr 3 (.t 27), none, [4]⟩,
     ⟨some 29, .load false 1 (.t 28), none, [5]⟩,
     ⟨some 30, .bin .lss none (.t 23) (.t 29), none, [0, 6]⟩])
    (.cond (.t 30)
     (.seq (.ops [
       ⟨some 31, .mv (.t 6), none, []⟩,
       ⟨some 4, .mv (.c (.pv (.int .i64 12))), none, []⟩,
       ⟨some 5, .mv (.t 31), none, [0, 1, 0, 1]⟩])
      .ret)
     .skip))
    (.seq (.ops [
     ⟨some 32, .mv (.t 7), none, []⟩,
     ⟨some 33, .fieldAddr 1 (.t 2), none, []⟩,
     ⟨some 34, .load false 1 (.t 33), none, [1]⟩,
     ⟨some 35, .mv (.t 6), none, []⟩,
     ⟨some 36, .idxAddr 5 (.t 34) (.t 35), none, [2, 3]⟩,
     ⟨some 37, .fieldAddr 4 (.t 36), none, [4]⟩,
     ⟨some 38, .load false 1 (.t 37), none, [5]⟩,
     ⟨some 39, .bin .gtr none (.t 32) (.t 38), none, [0, 6]⟩])
    (.cond (.t 39)
     (.seq (.ops [
       ⟨some 40, .mv (.t 6), none, []⟩,
       ⟨some 4, .mv (.c (.pv (.int .i64 13))), none, []⟩,
       ⟨some 5, .mv (.t 40), none, [0, 1, 0, 1]⟩])
      .ret)
     .skip)))))
  (.ops [
   ⟨some 13, .mv (.t 6), none, []⟩,
   ⟨some 14, .bin .add none (.t 13) (.c (.pv (.int .i64 1))), none, [0]⟩,
   ⟨some 6, .mv (.t 14), none, [1, 0, 1]⟩])))
def f173 : AFunc := ⟨41, [.t 4, .t 5],
 (.seq (.ops [
   ⟨some 2, .box (.t 0), none, []⟩,
   ⟨some 3, .box (.t 1), none, []⟩,
   ⟨some 4, .mv (.c (.pv (.int .i64 0))), none, []⟩,
   ⟨some 5, .mv (.c (.pv (.int .i64 0))), none, [2]⟩])
  (.seq (.seq (.ops [
   ⟨some 6, .mv (.c (.pv (.int .i64 0))), none, []⟩])
  (.block 0
   (.loop f173l0)))
  (.seq (.ops [
   ⟨some 4, .mv (.c (.pv (.int .i64 0))), none, []⟩,
   ⟨some 5, .mv (.c (.pv (.int .i64 (-1)))), none, [0, 0]⟩])
  .ret)))⟩
def f176l0 : ACode :=
 (.seq (.seq (.ops [
   ⟨some 7, .mv (.t 6), none, []⟩,
   ⟨some 8, .fieldAddr 0 (.t 2), none, []⟩,
   ⟨some 9, .load false 1 (.t 8), none, [1]⟩,
   ⟨some 10, .len (.t 9), none, [2]⟩,
   ⟨some 11, .bin .lss none (.t 7) (.t 10), none, [0, 3]⟩])
  (.cond (.t 11)
   .skip
   (.exit 0)))
  (.seq (.block 1
   (.seq (.ops [
     ⟨some 14, .fieldAddr 0 (.t 2), none, []⟩,
     ⟨some 15, .load false 1 (.t 14), none, [0]⟩,
     ⟨some 16, .mv (.t 6), none, []⟩,
     ⟨some 17, .idxAddr 8 (.t 15) (.t 16), none, [1, 2]⟩,
     ⟨some 18, .fieldAddr 1 (.t 17), none, [3]⟩,
     ⟨some 19, .load false 1 (.t 18), none, [4]⟩,
     ⟨some 20, .mv (.t 1), none, []⟩,
     ⟨some 21, .bin .eql none (.t 19) (.t 20), none, [5, 6]⟩,
     ⟨some 22, .mv (.t 21), none, [7]⟩,
     ⟨some 23, .fieldAddr 0 (.t 2), some (22, true), [8]⟩,
     ⟨some 24, .load false 1 (.t 23), some (22, true), [9, 8]⟩,
     ⟨some 25, .mv (.t 6), some (22, true), [8]⟩,
     ⟨some 26, .idxAddr 8 (.t 24) (.t 25), some (22, true), [10, 11, 8]⟩,
     ⟨some 27, .fieldAddr 7 (.t 26), some (22, true), [12, 8]⟩,
     ⟨some 28, .load false 1 (.t 27), some (22, true), [13, 8]⟩,
     ⟨some 29, .bin .neq none (.t 28) (.c (.pv (.int .i64 0))), some (22, true), [14, 8]⟩,
     ⟨some 30, .pick (.t 22) (.t 29) (.c (.pv (.bool false))), none, [8, 15]⟩])
    (.cond (.t 30)
     (.ops [
       ⟨some 31, .mv (.t 5), none, []⟩,
       ⟨some 32, .bin .add none (.t 31) (.c (.pv (.int .i64 1))), none, [0]⟩,
       ⟨some 5, .mv (.t 32), none, [1, 0, 1]⟩])
     .skip)))
  (.ops [
   ⟨some 12, .mv (.t 6), none, []⟩,
   ⟨some 13, .bin .add none (.t 12) (.c (.pv (.int .i64 1))), none, [0]⟩,
   ⟨some 6, .mv (.t 13), none, [1, 0, 1]⟩])))
def f176 : AFunc := ⟨34, [.t 4],
 (.seq (.ops [
   ⟨some 2, .box (.t 0), none, []⟩,
   ⟨some 4, .mv (.c (.pv (.int .i64 0))), none, []⟩])
  (.seq (.ops [
   ⟨some 5, .mv (.c (.pv (.int .i64 0))), none, []⟩])
  (.seq (.seq (.ops [
   ⟨some 6, .mv (.c (.pv (.int .i64 0))), none, []⟩])
  (.block 0
   (.loop f176l0)))
  (.seq (.ops [
   ⟨some 33, .mv (.t 5), none, []⟩,
   ⟨some 4, .mv (.t 33), none, [0, 0]⟩])
  .ret))))⟩
def f179 : AFunc := ⟨17, [.t 4],
 (.seq (.ops [
   ⟨some 2, .box (.t 0), none, []⟩,
   ⟨some 3, .box (.t 1), none, []⟩,
   ⟨some 4, .mv (.c (.pv (.bool false))), none, []⟩])
  (.seq (.ops [
   ⟨some 5, .fieldAddr 1 (.t 3), none, []⟩,
   ⟨some 6, .load false 1 (.t 5), none, [0]⟩,
   ⟨some 7, .fieldAddr 1 (.t 2), none, []⟩,
   ⟨some 8, .load false 1 (.t 7), none, [2]⟩,
   ⟨some 9, .bin .gtr none (.t 6) (.t 8), none, [1, 3]⟩,
   ⟨some 10, .mv (.t 9), none, [4]⟩,
   ⟨some 11, .fieldAddr 2 (.t 3), some (10, false), [5]⟩,
   ⟨some 12, .load false 1 (.t 11), some (10, false), [6, 5]⟩,
   ⟨some 13, .fieldAddr 2 (.t 2), some (10, false), [5]⟩,
   ⟨some 14, .load false 1 (.t 13), some (10, false), [8, 5]⟩,
   ⟨some 15, .bin .gtr none (.t 12) (.t 14), some (10, false), [7, 9, 5]⟩,
   ⟨some 16, .pick (.t 10) (.c (.pv (.bool true))) (.t 15), none, [5, 10]⟩,
   ⟨some 4, .mv (.t 16), none, [11, 5, 0, 1, 2, 3, 4, 5, 6, 7, 8, 9, 10, 11]⟩])
  .ret))⟩
end Go.Proofs.YtjmggjlfamjdbaaGreatDoor.Ab
set_option linter.unusedVariables false
set_option linter.unusedSimpArgs false
namespace Go.Proofs.YtjmggjlfamjdbaaGreatDoor.Ab
open Go
section
variable {T : Tab}
def sizeN (load : Int) : List Pod → Nat
  | [] => 0
  | p :: r => (if p.load = load ∧ p.node ≠ 0 then 1 else 0) + sizeN load r
theorem size_loop (load : Int) (pods : List Pod) (hl : pods.length ≤ 2 ^ 30) (Q : Exit → St → Prop) (total : Nat) (hQ : ∀ fr hp nx, look fr 5 = .pv (.int .i64 total) → Q (.exit 0) ⟨fr, hp, nx⟩) :
    ∀ (rest : List Pod) (i k : Nat), pods.drop i = rest → i ≤ pods.length → k ≤ i → k + sizeN load rest = total → ∀ (fr : List (Nat × AV)) (hp : Hl) (nx : Nat), look fr 5 = .pv (.int .i64 k) → look fr 1 = .pv (.int .i64 load) →
      look fr 9 = .pv (.slice (pods.map podC)) → look fr 10 = .pv (.int .i64 pods.length) → look fr 11 = .pv (.int .i64 i) → Wp T false (.loop f71l0) ⟨fr, hp, nx⟩ Q := by
  intro rest
  induction rest with
  | nil =>
    intro i k hd hi hk ht fr hp nx h5 h1 h9 h10 h11
    have hlen := drop_nil hd hi
    simp only [sizeN, Nat.add_zero] at ht
    subst ht
    rw [Wp_loop, Wp_eq f71l0.eq_1]
    simp only [runL, defL, binV, simprocAttr, List.drop, List.take, lenV, funV, h5, h1, h9, h10, h11, hlen, Int.lt_irrefl]
    exact hQ _ _ _ (by simp only [look_if, Nat.reduceEqDiff, if_false, h5])
  | cons p r ih =>
    intro i k hd hi hk ht fr hp nx h5 h1 h9 h10 h11
    obtain ⟨hget, hlt, hw, hd', hi', hb⟩ := drop_cons hd hl
    have hwk : IntKind.i64.wrap ((k : Int) + 1) = ((k + 1 : Nat) : Int) := by rw [wrap6] <;> omega
    rw [Wp_loop, Wp_eq f71l0.eq_1]
    by_cases hp1 : p.load = load
    · by_cases hp2 : p.node = 0
      · simp only [runL, defL, binV, simprocAttr, List.drop, List.take, lenV, funV, h5, h1, h9, h10, h11, hlt, hget, podC, hp1, hp2, hw]
        refine ih (i + 1) k hd' hi' (by omega) (by simpa [sizeN, hp2] using ht) _ _ _ ?_ ?_ ?_ ?_ ?_
        all_goals simp only [look_if, Nat.reduceEqDiff, if_true, if_false, h5, h1, h9, h10]
      · simp only [runL, defL, binV, simprocAttr, List.drop, List.take, lenV, funV, h5, h1, h9, h10, h11, hlt, hget, podC, hp1, hp2, hw, hwk]
        refine ih (i + 1) (k + 1) hd' hi' (by omega) (by simp [sizeN, hp1, hp2] at ht; omega) _ _ _ ?_ ?_ ?_ ?_ ?_
        all_goals simp only [look_if, Nat.reduceEqDiff, if_true, if_false, h5, h1, h9, h10]
    · simp only [runL, defL, binV, simprocAttr, List.drop, List.take, lenV, funV, h5, h1, h9, h10, h11, hlt, hget, podC, hp1, hw]
      refine ih (i + 1) k hd' hi' (by omega) (by simpa [sizeN, hp1] using ht) _ _ _ ?_ ?_ ?_ ?_ ?_
      all_goals simp only [look_if, Nat.reduceEqDiff, if_true, if_false, h5, h1, h9, h10]
theorem size_ok (h71 : Std T 71 f71) (t : State) (load : Int) (h : t.pods.length ≤ 2 ^ 30) : Gives T 71 [stateP t, .int .i64 load] (.int .i64 (sizeN load t.pods)) := by
  refine gives h71 rfl ?_
  simp only [f71, runL, defL, binV, simprocAttr, List.drop, List.take, lenV, funV, stateP]
  refine size_loop load t.pods h _ (sizeN load t.pods) (fun fr hp nx h5 => ?_) t.pods 0 0 rfl (Nat.zero_le _) (Nat.le_refl _) (Nat.zero_add _) _ _ _ rfl rfl rfl rfl rfl
  simp only [runL, defL, binV, simprocAttr, List.drop, List.take, lenV, funV, h5]
theorem size2_loop (load : Int) (t : State) (hl : t.pods.length ≤ 2 ^ 30) (Q : Exit → St → Prop) (total : Nat) (hQ : ∀ fr hp nx, look fr 5 = .pv (.int .i64 total) → Q (.exit 0) ⟨fr, hp, nx⟩) :
    ∀ (rest : List Pod) (i k : Nat), t.pods.drop i = rest → i ≤ t.pods.length → k ≤ i → k + sizeN load rest = total → ∀ (fr : List (Nat × AV)) (hp : Hl) (nx : Nat), look fr 5 = .pv (.int .i64 k) → look fr 1 = .pv (.int .i64 load) →
      look fr 2 = .ptr 0 0 0 → blkAt hp 0 = .var [.pv (.slice (t.pods.map podC)), .pv (.int .i64 t.pre), .pv (.int .i64 t.shi)] → look fr 6 = .pv (.int .i64 i) → Wp T false (.loop f176l0) ⟨fr, hp, nx⟩ Q := by
  intro rest
  induction rest with
  | nil =>
    intro i k hd hi hk ht fr hp nx h5 h1 h2 b0 h6
    have hlen := drop_nil hd hi
    simp only [sizeN, Nat.add_zero] at ht
    subst ht
    rw [Wp_loop, Wp_eq f176l0.eq_1]
    simp only [runL, defL, binV, simprocAttr, List.drop, List.take, lenV, funV, h5, h1, h2, b0, h6, hlen, Int.lt_irrefl]
    exact hQ _ _ _ (by simp only [look_if, Nat.reduceEqDiff, if_false, h5])
  | cons p r ih =>
    intro i k hd hi hk ht fr hp nx h5 h1 h2 b0 h6
    obtain ⟨hget, hlt, hw, hd', hi', hb⟩ := drop_cons hd hl
    have hwk : IntKind.i64.wrap ((k : Int) + 1) = ((k + 1 : Nat) : Int) := by rw [wrap6] <;> omega
    rw [Wp_loop, Wp_eq f176l0.eq_1]
    by_cases hp1 : p.load = load
    · by_cases hp2 : p.node = 0
      · simp only [runL, defL, binV, simprocAttr, List.drop, List.take, lenV, funV, h5, h1, h2, b0, h6, hlt, hget, podC, hp1, hp2, hw]
        refine ih (i + 1) k hd' hi' (by omega) (by simpa [sizeN, hp2] using ht) _ _ _ ?_ ?_ ?_ b0 ?_
        all_goals simp only [look_if, Nat.reduceEqDiff, if_true, if_false, h5, h1, h2]
      · simp only [runL, defL, binV, simprocAttr, List.drop, List.take, lenV, funV, h5, h1, h2, b0, h6, hlt, hget, podC, hp1, hp2, hw, hwk]
        refine ih (i + 1) (k + 1) hd' hi' (by omega) (by simp [sizeN, hp1, hp2] at ht; omega) _ _ _ ?_ ?_ ?_ b0 ?_
        all_goals simp only [look_if, Nat.reduceEqDiff, if_true, if_false, h5, h1, h2]
    · simp only [runL, defL, binV, simprocAttr, List.drop, List.take, lenV, funV, h5, h1, h2, b0, h6, hlt, hget, podC, hp1, hw]
      refine ih (i + 1) k hd' hi' (by omega) (by simpa [sizeN, hp1] using ht) _ _ _ ?_ ?_ ?_ b0 ?_
      all_goals simp only [look_if, Nat.reduceEqDiff, if_true, if_false, h5, h1, h2]
theorem size2_ok (h176 : Std T 176 f176) (t : State) (load : Int) (h : t.pods.length ≤ 2 ^ 30) : Gives T 176 [stateP t, .int .i64 load] (.int .i64 (sizeN load t.pods)) := by
  refine gives h176 rfl ?_
  simp only [f176, runL, defL, binV, simprocAttr, List.drop, List.take, lenV, funV, stateP]
  refine size2_loop load t h _ (sizeN load t.pods) (fun fr hp nx h5 => ?_) t.pods 0 0 rfl (Nat.zero_le _) (Nat.le_refl _) (Nat.zero_add _) _ _ _ rfl rfl rfl rfl rfl
  simp only [runL, defL, binV, simprocAttr, List.drop, List.take, lenV, funV, h5]
def badLoad (pods : List Pod) : Nat → List Load → Option (Int × Int)
  | _, [] => none
  | i, l :: r => if (sizeN l.id pods : Int) < l.min then some (12, i) else if (sizeN l.id pods : Int) > l.max then some (13, i) else badLoad pods (i + 1) r
theorem check9_loop (s : Snap) (t : State) (ht : t.pods.length ≤ 2 ^ 30) (hl : s.loads.length ≤ 2 ^ 30) (h71 : Std T 71 f71) (Q : Exit → St → Prop) (o : Option (Int × Int))
    (hend : o = none → ∀ fr hp nx, Q (.exit 0) ⟨fr, hp, nx⟩)
    (hret : ∀ c i, o = some (c, i) → ∀ fr hp nx id, look fr 4 = .iface 1 (.ptr id 0 0) → blkAt hp id = .var [.pv (.int .i64 i), .pv (.int .i64 c)] → Q .ret ⟨fr, hp, nx⟩) :
    ∀ (rest : List Load) (i : Nat), s.loads.drop i = rest → i ≤ s.loads.length → badLoad t.pods i rest = o → ∀ (fr : List (Nat × AV)) (hp : Hl) (nx : Nat), 2 ≤ nx →
      look fr 3 = .ptr 1 0 0 → blkAt hp 1 = .var [.pv (.slice (t.pods.map podC)), .pv (.int .i64 t.pre), .pv (.int .i64 t.shi)] →
      look fr 9 = .pv (.slice (s.loads.map loadC)) → look fr 10 = .pv (.int .i64 s.loads.length) → look fr 11 = .pv (.int .i64 i) → Wp T false (.loop f70l0) ⟨fr, hp, nx⟩ Q := by
  intro rest
  induction rest with
  | nil =>
    intro i hd hi ho fr hp nx hn h3 b1 h9 h10 h11
    have hlen := drop_nil hd hi
    rw [Wp_loop, Wp_eq f70l0.eq_1]
    simp only [runL, defL, binV, simprocAttr, List.drop, List.take, lenV, funV, h3, h9, h10, h11, hlen, Int.lt_irrefl]
    exact hend ho.symm _ _ _
  | cons l r ih =>
    intro i hd hi ho fr hp nx hn h3 b1 h9 h10 h11
    obtain ⟨hget, hlt, hw, hd', hi', hb⟩ := drop_cons hd hl
    have n1 : ¬ nx = 1 := by omega
    have k := size_ok h71 t l.id ht
    rw [Wp_loop, Wp_eq f70l0.eq_1]
    simp only [badLoad] at ho
    by_cases c1 : (sizeN l.id t.pods : Int) < l.min
    · rw [if_pos c1] at ho
      simp only [runL, defL, binV, simprocAttr, List.drop, List.take, lenV, funV, h3, b1, h9, h10, h11, hlt, hget, loadC, n1, k.call, stateP, c1]
      refine hret 12 i ho.symm _ _ _ (nx + 1) ?_ ?_
      · simp only [look_if, Nat.reduceEqDiff, if_true, if_false]
      · simp only [blkAt_if, if_true]
    · rw [if_neg c1] at ho
      by_cases c2 : (sizeN l.id t.pods : Int) > l.max
      · rw [if_pos c2] at ho
        have c2' : l.max < (sizeN l.id t.pods : Int) := c2
        simp only [runL, defL, binV, simprocAttr, List.drop, List.take, lenV, funV, h3, b1, h9, h10, h11, hlt, hget, loadC, n1, k.call, stateP, c1, c2']
        refine hret 13 i ho.symm _ _ _ (nx + 1) ?_ ?_
        · simp only [look_if, Nat.reduceEqDiff, if_true, if_false]
        · simp only [blkAt_if, if_true]
      · rw [if_neg c2] at ho
        have c2' : ¬ l.max < (sizeN l.id t.pods : Int) := c2
        simp only [runL, defL, binV, simprocAttr, List.drop, List.take, lenV, funV, h3, b1, h9, h10, h11, hlt, hget, loadC, n1, k.call, stateP, c1, c2', hw]
        refine ih (i + 1) hd' hi' ho _ _ _ (by omega) ?_ ?_ ?_ ?_ ?_
        all_goals simp only [look_if, blkAt_if, Nat.reduceEqDiff, if_true, if_false, h3, b1, h9, h10, n1]
def errO : Option (Int × Int) → PV
  | none => .nili
  | some (c, i) => spotE i c
theorem check9_ok (h70 : Std T 70 f70) (h71 : Std T 71 f71) (s : Snap) (t : State) (ht : t.pods.length ≤ 2 ^ 30) (hl : s.loads.length ≤ 2 ^ 30) : Gives T 70 [snapP s, stateP t] (errO (badLoad t.pods 0 s.loads)) := by
  refine gives h70 rfl ?_
  simp only [f70, runL, defL, binV, simprocAttr, List.drop, List.take, lenV, funV, snapP, stateP]
  refine check9_loop s t ht hl h71 _ (badLoad t.pods 0 s.loads) (fun ho fr hp nx => ?_) (fun c i ho fr hp nx id h4 hb => ?_) s.loads 0 rfl (Nat.zero_le _) rfl _ _ _ (Nat.le_refl _) rfl rfl rfl rfl rfl
  · simp only [runL, defL, binV, simprocAttr, List.drop, List.take, lenV, funV, ho, errO]
  · simp only [runL, defL, binV, simprocAttr, List.drop, List.take, lenV, funV, ho, errO, h4, hb, spotE]
def badO : Option (Int × Int) → PV
  | none => .tuple [.int .i64 0, .int .i64 (-1)]
  | some (c, i) => .tuple [.int .i64 c, .int .i64 i]
theorem check9b_loop (s : Snap) (t : State) (ht : t.pods.length ≤ 2 ^ 30) (hl : s.loads.length ≤ 2 ^ 30) (h176 : Std T 176 f176) (Q : Exit → St → Prop) (o : Option (Int × Int))
    (hend : o = none → ∀ fr hp nx, Q (.exit 0) ⟨fr, hp, nx⟩)
    (hret : ∀ c i, o = some (c, i) → ∀ fr hp nx, look fr 4 = .pv (.int .i64 c) → look fr 5 = .pv (.int .i64 i) → Q .ret ⟨fr, hp, nx⟩) :
    ∀ (rest : List Load) (i : Nat), s.loads.drop i = rest → i ≤ s.loads.length → badLoad t.pods i rest = o → ∀ (fr : List (Nat × AV)) (hp : Hl) (nx : Nat),
      look fr 2 = .ptr 0 0 0 → blkAt hp 0 = .var [.pv (.slice (s.nodes.map nodeC)), .pv (.slice (s.loads.map loadC)), .pv (.slice (s.pods.map podC))] →
      look fr 3 = .ptr 1 0 0 → blkAt hp 1 = .var [.pv (.slice (t.pods.map podC)), .pv (.int .i64 t.pre), .pv (.int .i64 t.shi)] →
      look fr 6 = .pv (.int .i64 i) → Wp T false (.loop f173l0) ⟨fr, hp, nx⟩ Q := by
  intro rest
  induction rest with
  | nil =>
    intro i hd hi ho fr hp nx h2 b0 h3 b1 h6
    have hlen := drop_nil hd hi
    rw [Wp_loop, Wp_eq f173l0.eq_1]
    simp only [runL, defL, binV, simprocAttr, List.drop, List.take, lenV, funV, h2, h3, b0, h6, hlen, Int.lt_irrefl]
    exact hend ho.symm _ _ _
  | cons l r ih =>
    intro i hd hi ho fr hp nx h2 b0 h3 b1 h6
    obtain ⟨hget, hlt, hw, hd', hi', hb⟩ := drop_cons hd hl
    have k := size2_ok h176 t l.id ht
    rw [Wp_loop, Wp_eq f173l0.eq_1]
    simp only [badLoad] at ho
    simp only [runL, defL, binV, simprocAttr, List.drop, List.take, lenV, funV, h2, h3, b0, h6, hlt]
    refine (Wp_calm rfl).2 ?_
    by_cases c1 : (sizeN l.id t.pods : Int) < l.min
    · rw [if_pos c1] at ho
      simp only [runL, defL, binV, simprocAttr, List.drop, List.take, lenV, funV, h2, h3, b0, b1, h6, hget, loadC, k.callD, stateP, c1]
      refine hret 12 i ho.symm _ _ _ ?_ ?_
      all_goals simp only [look_if, Nat.reduceEqDiff, if_true, if_false]
    · rw [if_neg c1] at ho
      by_cases c2 : (sizeN l.id t.pods : Int) > l.max
      · rw [if_pos c2] at ho
        have c2' : l.max < (sizeN l.id t.pods : Int) := c2
        simp only [runL, defL, binV, simprocAttr, List.drop, List.take, lenV, funV, h2, h3, b0, b1, h6, hget, loadC, k.callD, stateP, c1, c2']
        refine hret 13 i ho.symm _ _ _ ?_ ?_
        all_goals simp only [look_if, Nat.reduceEqDiff, if_true, if_false]
      · rw [if_neg c2] at ho
        have c2' : ¬ l.max < (sizeN l.id t.pods : Int) := c2
        simp only [runL, defL, binV, simprocAttr, List.drop, List.take, lenV, funV, h2, h3, b0, b1, h6, hget, loadC, k.callD, stateP, c1, c2', hw]
        refine ih (i + 1) hd' hi' ho _ _ _ ?_ b0 ?_ b1 ?_
        all_goals simp only [look_if, Nat.reduceEqDiff, if_true, if_false, h2, h3]
theorem check9b_ok (h173 : Std T 173 f173) (h176 : Std T 176 f176) (s : Snap) (t : State) (ht : t.pods.length ≤ 2 ^ 30) (hl : s.loads.length ≤ 2 ^ 30) : Gives T 173 [snapP s, stateP t] (badO (badLoad t.pods 0 s.loads)) := by
  refine gives h173 rfl ?_
  simp only [f173, runL, defL, binV, simprocAttr, List.drop, List.take, lenV, funV, snapP, stateP]
  refine check9b_loop s t ht hl h176 _ (badLoad t.pods 0 s.loads) (fun ho fr hp nx => ?_) (fun c i ho fr hp nx h4 h5 => ?_) s.loads 0 rfl (Nat.zero_le _) rfl _ _ _ rfl rfl rfl rfl rfl
  · simp only [runL, defL, binV, simprocAttr, List.drop, List.take, lenV, funV, ho, badO]
  · simp only [runL, defL, binV, simprocAttr, List.drop, List.take, lenV, funV, ho, badO, h4, h5]
def usedB (x : Spec) (t : State) : Bool := decide (t.pre > x.pre) || decide (t.shi > x.shi)
theorem used9_ok (h72 : Std T 72 f72) (x : Spec) (t : State) : Gives T 72 [specP x, stateP t] (cond (usedB x t) (codeE 15) .nili) := by
  refine gives h72 rfl ?_
  unfold usedB
  by_cases c1 : x.pre < t.pre <;> by_cases c2 : x.shi < t.shi <;>
    simp only [f72, runL, defL, binV, simprocAttr, List.drop, List.take, lenV, funV, specP, stateP, c1, c2, codeE, Bool.true_or, Bool.or_true, Bool.or_false, Bool.false_or]
theorem used9b_ok (h179 : Std T 179 f179) (x : Spec) (t : State) : Gives T 179 [specP x, stateP t] (.bool (usedB x t)) := by
  refine gives h179 rfl ?_
  unfold usedB
  by_cases c1 : x.pre < t.pre <;> by_cases c2 : x.shi < t.shi <;>
    simp only [f179, runL, defL, binV, simprocAttr, List.drop, List.take, lenV, funV, specP, stateP, c1, c2, Bool.true_or, Bool.or_true, Bool.or_false, Bool.false_or]
/-! ### The laws' own helpers -/
theorem code_nil (h102 : Std T 102 f102) : Gives T 102 [.nili] (.int .i64 0) := by
  refine gives h102 rfl ?_
  simp only [f102, runL, defL, binV, simprocAttr, List.drop, List.take, lenV, funV, AO.isC, Bool.or_true]
def bad1 : Option (Int × Int) → Int
  | none => 0
  | some (c, _) => c
def bad2 : Option (Int × Int) → Int
  | none => -1
  | some (_, i) => i
theorem told_ok (h105 : Std T 105 f105) (h102 : Std T 102 f102) (h103 : StdP T 103 isP) (o : Option (Int × Int)) (h : ∀ c i, o = some (c, i) → 0 ≤ i) :
    Gives T 105 [errO o, .int .i64 (bad1 o), .int .i64 (bad2 o)] (.bool true) := by
  refine gives h105 rfl ?_
  cases o with
  | none => simp only [f105, runL, defL, binV, simprocAttr, List.drop, List.take, lenV, funV, errO, bad1, bad2, (code_nil h102).call]
  | some q =>
    obtain ⟨c, i⟩ := q
    have hi : ¬ i < 0 := by have := h c i rfl; omega
    have k := is_ok h103 (e := spotE i c) (x := i) (y := c) (b := true) (by simp [isV, spotE])
    simp only [f105, runL, defL, binV, simprocAttr, List.drop, List.take, lenV, funV, errO, bad1, bad2, spotE, hi]
    simp only [spotE] at k
    simp only [runL, defL, binV, simprocAttr, List.drop, List.take, lenV, funV, k.call]
end
end Go.Proofs.YtjmggjlfamjdbaaGreatDoor.Ab
set_option linter.unusedVariables false
set_option linter.unusedSimpArgs false
namespace Go.Proofs.YtjmggjlfamjdbaaGreatDoor.Ab
open Go
/-! ### Plain: all counts together -/
section
variable {T : Tab}
end
end Go.Proofs.YtjmggjlfamjdbaaGreatDoor.Ab
set_option linter.unusedVariables false
namespace Go.Proofs.YtjmggjlfamjdbaaGreatDoor.Ab
open Go
def f68l0 : ACode :=
 (.seq (.ops [
   ⟨some 23, .bin .lss none (.t 22) (.t 21), none, []⟩])
  (.seq (.cond (.t 23)
   .skip
   (.exit 2))
  (.seq (.block 3
   (.seq (.ops [
     ⟨some 24, .idxAddr 8 (.t 20) (.t 22), none, []⟩,
     ⟨some 25, .load true 8 (.t 24), none, [0]⟩,
     ⟨some 8, .alloc [(.pv (.int .i64 0)), (.pv (.int .i64 0)), (.pv (.int .i64 0)), (.pv (.int .u64 0)), (.pv (.int .u64 0)), (.pv (.int .u64 0)), (.pv (.int .u64 0)), (.pv (.int .i64 0))], none, []⟩,
     ⟨none, .store 8 (.t 8) (.t 25), none, [2, 1, 0, 1, 2]⟩])
    (.seq (.ops [
     ⟨some 26, .load true 3 (.t 2), none, []⟩,
     ⟨some 27, .load true 8 (.t 6), none, []⟩,
     ⟨some 28, .load true 8 (.t 8), none, []⟩,
     ⟨some 29, .call 69 [(.t 26), (.t 27), (.t 28)], none, [0, 1, 2]⟩])
    (.cond (.t 29)
     (.seq (.ops [
       ⟨some 30, .mv (.t 5), none, []⟩,
       ⟨some 31, .build [(.pv (.int .i64 0)), (.pv (.int .i64 0))] [(0, 1, (.t 30)), (1, 1, (.c (.pv (.int .i64 10))))], none, [0]⟩,
       ⟨some 32, .box (.t 31), none, [1]⟩,
       ⟨some 33, .mkI 1 (.t 32), none, [2]⟩,
       ⟨some 4, .mv (.t 33), none, [3, 0, 1, 2, 3]⟩])
      .ret)
     .skip))))
  (.ops [
   ⟨some 34, .bin .add none (.t 22) (.c (.pv (.int .i64 1))), none, []⟩,
   ⟨some 22, .mv (.t 34), none, [0]⟩]))))
def f68l1 : ACode :=
 (.seq (.ops [
   ⟨some 13, .bin .lss none (.t 12) (.t 11), none, []⟩])
  (.seq (.cond (.t 13)
   .skip
   (.exit 0))
  (.seq (.block 1
   (.seq (.ops [
     ⟨some 14, .mv (.t 12), none, []⟩,
     ⟨some 15, .idxAddr 8 (.t 10) (.t 12), none, []⟩,
     ⟨some 16, .load true 8 (.t 15), none, [1]⟩,
     ⟨some 6, .alloc [(.pv (.int .i64 0)), (.pv (.int .i64 0)), (.pv (.int .i64 0)), (.pv (.int .u64 0)), (.pv (.int .u64 0)), (.pv (.int .u64 0)), (.pv (.int .u64 0)), (.pv (.int .i64 0))], none, []⟩,
     ⟨some 5, .mv (.t 14), none, [0, 0, 1, 2, 3]⟩,
     ⟨none, .store 8 (.t 6) (.t 16), none, [3, 2, 4, 0, 1, 2, 3, 4]⟩])
    (.seq (.ops [
     ⟨some 17, .fieldAddr 0 (.t 3), none, []⟩,
     ⟨some 18, .load false 1 (.t 17), none, [0]⟩,
     ⟨some 19, .mv (.t 5), none, []⟩,
     ⟨some 20, .slice 8 (.t 18) none (some (.t 19)), none, [1, 2]⟩,
     ⟨some 21, .len (.t 20), none, [3]⟩,
     ⟨some 22, .mv (.c (.pv (.int .i64 0))), none, []⟩])
    (.block 2
     (.loop f68l0)))))
  (.ops [
   ⟨some 35, .bin .add none (.t 12) (.c (.pv (.int .i64 1))), none, []⟩,
   ⟨some 12, .mv (.t 35), none, [0]⟩]))))
def f68 : AFunc := ⟨36, [.t 4],
 (.seq (.ops [
   ⟨some 2, .box (.t 0), none, []⟩,
   ⟨some 3, .box (.t 1), none, []⟩,
   ⟨some 4, .mv (.c (.pv .nili)), none, []⟩])
  (.seq (.seq (.ops [
   ⟨some 9, .fieldAddr 0 (.t 3), none, []⟩,
   ⟨some 10, .load false 1 (.t 9), none, [0]⟩,
   ⟨some 11, .len (.t 10), none, [1]⟩,
   ⟨some 12, .mv (.c (.pv (.int .i64 0))), none, []⟩])
  (.block 0
   (.loop f68l1)))
  (.seq (.ops [
   ⟨some 4, .mv (.c (.pv .nili)), none, []⟩])
  .ret)))⟩
def f69 : AFunc := ⟨40, [.t 6],
 (.seq (.ops [
   ⟨some 3, .box (.t 0), none, []⟩,
   ⟨some 4, .box (.t 1), none, []⟩,
   ⟨some 5, .box (.t 2), none, []⟩,
   ⟨some 6, .mv (.c (.pv (.bool false))), none, []⟩])
  (.seq (.ops [
   ⟨some 10, .load true 3 (.t 3), none, []⟩,
   ⟨some 11, .fieldAddr 1 (.t 4), none, []⟩,
   ⟨some 12, .load false 1 (.t 11), none, [1]⟩,
   ⟨some 13, .call 81 [(.t 10), (.t 12)], none, [0, 2]⟩,
   ⟨some 9, .mv (.t 13), none, [3]⟩,
   ⟨some 14, .extract (.t 9) 0, none, [4]⟩,
   ⟨some 15, .extract (.t 9) 1, none, [4]⟩,
   ⟨some 7, .alloc [(.pv (.int .i64 0)), (.pv (.bool false)), (.pv (.int .i64 0)), (.pv (.int .i64 0)), (.pv (.int .i64 0))], none, []⟩,
   ⟨none, .store 5 (.t 7) (.t 14), none, [7, 5, 3, 0, 1, 2, 3, 4, 5, 7]⟩,
   ⟨some 8, .mv (.t 15), none, [6, 8, 0, 1, 2, 3, 4, 5, 6, 7, 8]⟩])
  (.seq (.ops [
   ⟨some 16, .fieldAddr 1 (.t 4), none, []⟩,
   ⟨some 17, .load false 1 (.t 16), none, [0]⟩,
   ⟨some 18, .fieldAddr 1 (.t 5), none, []⟩,
   ⟨some 19, .load false 1 (.t 18), none, [2]⟩,
   ⟨some 20, .bin .eql none (.t 17) (.t 19), none, [1, 3]⟩,
   ⟨some 21, .mv (.t 20), none, [4]⟩,
   ⟨some 22, .fieldAddr 7 (.t 4), some (21, true), [5]⟩,
   ⟨some 23, .load false 1 (.t 22), some (21, true), [6, 5]⟩,
   ⟨some 24, .fieldAddr 7 (.t 5), some (21, true), [5]⟩,
   ⟨some 25, .load false 1 (.t 24), some (21, true), [8, 5]⟩,
   ⟨some 26, .bin .eql none (.t 23) (.t 25), some (21, true), [7, 9, 5]⟩,
   ⟨some 27, .pick (.t 21) (.t 26) (.c (.pv (.bool false))), none, [5, 10]⟩,
   ⟨some 28, .mv (.t 27), none, [11, 5]⟩,
   ⟨some 29, .fieldAddr 7 (.t 4), some (28, true), [12]⟩,
   ⟨some 30, .load false 1 (.t 29), some (28, true), [13, 12]⟩,
   ⟨some 31, .bin .neq none (.t 30) (.c (.pv (.int .i64 0))), some (28, true), [14, 12]⟩,
   ⟨some 32, .pick (.t 28) (.t 31) (.c (.pv (.bool false))), none, [12, 15]⟩,
   ⟨some 33, .mv (.t 32), none, [16, 12]⟩,
   ⟨some 34, .mv (.t 8), some (33, true), [17]⟩,
   ⟨some 35, .pick (.t 33) (.t 34) (.c (.pv (.bool false))), none, [17, 18]⟩,
   ⟨some 36, .mv (.t 35), none, [19, 17]⟩,
   ⟨some 37, .fieldAddr 1 (.t 7), some (36, true), [20]⟩,
   ⟨some 38, .load false 1 (.t 37), some (36, true), [21, 20]⟩,
   ⟨some 39, .pick (.t 36) (.t 38) (.c (.pv (.bool false))), none, [20, 22]⟩,
   ⟨some 6, .mv (.t 39), none, [23, 20, 0, 1, 2, 3, 4, 5, 6, 7, 8, 9, 10, 11, 12, 13, 14, 15, 16, 17, 18, 19, 20, 21, 22, 23]⟩])
  .ret)))⟩
def f81l0 : ACode :=
 (.seq (.ops [
   ⟨some 12, .bin .lss none (.t 11) (.t 10), none, []⟩])
  (.seq (.cond (.t 12)
   .skip
   (.exit 0))
  (.seq (.block 1
   (.seq (.ops [
     ⟨some 13, .idxAddr 5 (.t 9) (.t 11), none, []⟩,
     ⟨some 14, .load true 5 (.t 13), none, [0]⟩,
     ⟨some 7, .alloc [(.pv (.int .i64 0)), (.pv (.bool false)), (.pv (.int .i64 0)), (.pv (.int .i64 0)), (.pv (.int .i64 0))], none, []⟩,
     ⟨none, .store 5 (.t 7) (.t 14), none, [2, 1, 0, 1, 2]⟩])
    (.seq (.ops [
     ⟨some 15, .fieldAddr 0 (.t 7), none, []⟩,
     ⟨some 16, .load false 1 (.t 15), none, [0]⟩,
     ⟨some 17, .mv (.t 1), none, []⟩,
     ⟨some 18, .bin .eql none (.t 16) (.t 17), none, [1, 2]⟩])
    (.cond (.t 18)
     (.seq (.ops [
       ⟨some 19, .load true 5 (.t 7), none, []⟩,
       ⟨none, .store 5 (.t 4) (.t 19), none, [0, 0]⟩,
       ⟨some 5, .mv (.c (.pv (.bool true))), none, [1, 0, 1]⟩])
      .ret)
     .skip))))
  (.ops [
   ⟨some 20, .bin .add none (.t 11) (.c (.pv (.int .i64 1))), none, []⟩,
   ⟨some 11, .mv (.t 20), none, [0]⟩]))))
def f81 : AFunc := ⟨22, [.cell 4 true 5, .t 5],
 (.seq (.ops [
   ⟨some 2, .box (.t 0), none, []⟩,
   ⟨some 4, .alloc [(.pv (.int .i64 0)), (.pv (.bool false)), (.pv (.int .i64 0)), (.pv (.int .i64 0)), (.pv (.int .i64 0))], none, []⟩,
   ⟨some 5, .mv (.c (.pv (.bool false))), none, []⟩])
  (.seq (.seq (.ops [
   ⟨some 8, .fieldAddr 1 (.t 2), none, []⟩,
   ⟨some 9, .load false 1 (.t 8), none, [0]⟩,
   ⟨some 10, .len (.t 9), none, [1]⟩,
   ⟨some 11, .mv (.c (.pv (.int .i64 0))), none, []⟩])
  (.block 0
   (.loop f81l0)))
  (.seq (.ops [
   ⟨some 21, .build [(.pv (.int .i64 0)), (.pv (.bool false)), (.pv (.int .i64 0)), (.pv (.int .i64 0)), (.pv (.int .i64 0))] [], none, []⟩,
   ⟨none, .store 5 (.t 4) (.t 21), none, [0, 0]⟩,
   ⟨some 5, .mv (.c (.pv (.bool false))), none, [1, 0, 1]⟩])
  .ret)))⟩
def f140l0 : ACode :=
 (.seq (.seq (.ops [
   ⟨some 10, .mv (.t 7), none, []⟩,
   ⟨some 11, .bin .lss none (.t 10) (.c (.pv (.int .i64 4))), none, [0]⟩])
  (.cond (.t 11)
   .skip
   (.exit 0)))
  (.seq (.block 1
   (.seq (.draw [
     ⟨some 15, .mv (.t 7), none, []⟩,
     ⟨some 16, .idxArr 4 1 (.t 2) (.t 15), none, [0]⟩,
     ⟨some 17, .load false 1 (.t 16), none, [1]⟩,
     ⟨some 18, .mv (.t 7), none, []⟩,
     ⟨some 19, .idxArr 4 1 (.t 3) (.t 18), none, [3]⟩,
     ⟨some 20, .load false 1 (.t 19), none, [4]⟩,
     ⟨some 21, .call 145 [(.t 17), (.t 20)], none, [2, 5]⟩,
     ⟨some 14, .mv (.t 21), none, [6]⟩,
     ⟨some 22, .extract (.t 14) 0, none, [7]⟩,
     ⟨some 23, .extract (.t 14) 1, none, [7]⟩,
     ⟨some 8, .mv (.t 22), none, [8, 6, 0, 1, 2, 3, 4, 5, 6, 7, 8]⟩,
     ⟨some 9, .mv (.t 23), none, [9, 10, 0, 1, 2, 3, 4, 5, 6, 7, 8, 9, 10]⟩])
    (.seq (.seq (.ops [
     ⟨some 24, .mv (.t 9), none, []⟩,
     ⟨some 25, .not (.t 24), none, [0]⟩])
    (.cond (.t 25)
     (.seq (.ops [
       ⟨some 26, .build [(.pv (.int .u64 0)), (.pv (.int .u64 0)), (.pv (.int .u64 0)), (.pv (.int .u64 0))] [], none, []⟩,
       ⟨none, .store 4 (.t 4) (.t 26), none, [0, 0]⟩,
       ⟨some 5, .mv (.c (.pv (.bool false))), none, [1, 0, 1]⟩])
      .ret)
     .skip))
    (.ops [
     ⟨some 27, .mv (.t 7), none, []⟩,
     ⟨some 28, .mv (.t 8), none, []⟩,
     ⟨some 29, .idxArr 4 1 (.t 6) (.t 27), none, [0, 0, 1]⟩,
     ⟨none, .store 1 (.t 29) (.t 28), none, [2, 1, 0, 1]⟩]))))
  (.ops [
   ⟨some 12, .mv (.t 7), none, []⟩,
   ⟨some 13, .bin .add none (.t 12) (.c (.pv (.int .i64 1))), none, [0]⟩,
   ⟨some 7, .mv (.t 13), none, [1, 0, 1]⟩])))
def f140 : AFunc := ⟨31, [.cell 4 true 4, .t 5],
 (.seq (.ops [
   ⟨some 2, .box (.t 0), none, []⟩,
   ⟨some 3, .box (.t 1), none, []⟩,
   ⟨some 4, .alloc [(.pv (.int .u64 0)), (.pv (.int .u64 0)), (.pv (.int .u64 0)), (.pv (.int .u64 0))], none, []⟩,
   ⟨some 5, .mv (.c (.pv (.bool false))), none, []⟩])
  (.seq (.ops [
   ⟨some 6, .alloc [(.pv (.int .u64 0)), (.pv (.int .u64 0)), (.pv (.int .u64 0)), (.pv (.int .u64 0))], none, []⟩])
  (.seq (.seq (.ops [
   ⟨some 7, .mv (.c (.pv (.int .i64 0))), none, []⟩])
  (.block 0
   (.loop f140l0)))
  (.seq (.ops [
   ⟨some 30, .load true 4 (.t 6), none, []⟩,
   ⟨none, .store 4 (.t 4) (.t 30), none, [0, 0]⟩,
   ⟨some 5, .mv (.c (.pv (.bool true))), none, [1, 0, 1]⟩])
  .ret))))⟩
def f141 : AFunc := ⟨31, [.t 4],
 (.seq (.ops [
   ⟨some 2, .box (.t 0), none, []⟩,
   ⟨some 3, .box (.t 1), none, []⟩,
   ⟨some 4, .mv (.c (.pv (.bool false))), none, []⟩])
  (.seq (.ops [
   ⟨some 5, .idxArr 4 1 (.t 2) (.c (.pv (.int .i64 0))), none, []⟩,
   ⟨some 6, .load false 1 (.t 5), none, [0]⟩,
   ⟨some 7, .idxArr 4 1 (.t 3) (.c (.pv (.int .i64 0))), none, []⟩,
   ⟨some 8, .load false 1 (.t 7), none, [2]⟩,
   ⟨some 9, .bin .leq none (.t 6) (.t 8), none, [1, 3]⟩,
   ⟨some 10, .mv (.t 9), none, [4]⟩,
   ⟨some 11, .idxArr 4 1 (.t 2) (.c (.pv (.int .i64 1))), some (10, true), [5]⟩,
   ⟨some 12, .load false 1 (.t 11), some (10, true), [6, 5]⟩,
   ⟨some 13, .idxArr 4 1 (.t 3) (.c (.pv (.int .i64 1))), some (10, true), [5]⟩,
   ⟨some 14, .load false 1 (.t 13), some (10, true), [8, 5]⟩,
   ⟨some 15, .bin .leq none (.t 12) (.t 14), some (10, true), [7, 9, 5]⟩,
   ⟨some 16, .pick (.t 10) (.t 15) (.c (.pv (.bool false))), none, [5, 10]⟩,
   ⟨some 17, .mv (.t 16), none, [11, 5]⟩,
   ⟨some 18, .idxArr 4 1 (.t 2) (.c (.pv (.int .i64 2))), some (17, true), [12]⟩,
   ⟨some 19, .load false 1 (.t 18), some (17, true), [13, 12]⟩,
   ⟨some 20, .idxArr 4 1 (.t 3) (.c (.pv (.int .i64 2))), some (17, true), [12]⟩,
   ⟨some 21, .load false 1 (.t 20), some (17, true), [15, 12]⟩,
   ⟨some 22, .bin .leq none (.t 19) (.t 21), some (17, true), [14, 16, 12]⟩,
   ⟨some 23, .pick (.t 17) (.t 22) (.c (.pv (.bool false))), none, [12, 17]⟩,
   ⟨some 24, .mv (.t 23), none, [18, 12]⟩,
   ⟨some 25, .idxArr 4 1 (.t 2) (.c (.pv (.int .i64 3))), some (24, true), [19]⟩,
   ⟨some 26, .load false 1 (.t 25), some (24, true), [20, 19]⟩,
   ⟨some 27, .idxArr 4 1 (.t 3) (.c (.pv (.int .i64 3))), some (24, true), [19]⟩,
   ⟨some 28, .load false 1 (.t 27), some (24, true), [22, 19]⟩,
   ⟨some 29, .bin .leq none (.t 26) (.t 28), some (24, true), [21, 23, 19]⟩,
   ⟨some 30, .pick (.t 24) (.t 29) (.c (.pv (.bool false))), none, [19, 24]⟩,
   ⟨some 4, .mv (.t 30), none, [25, 19, 0, 1, 2, 3, 4, 5, 6, 7, 8, 9, 10, 11, 12, 13, 14, 15, 16, 17, 18, 19, 20, 21, 22, 23, 24, 25]⟩])
  .ret))⟩
def f142 : AFunc := ⟨34, [.cell 4 true 4, .t 5],
 (.seq (.ops [
   ⟨some 2, .box (.t 0), none, []⟩,
   ⟨some 3, .box (.t 1), none, []⟩,
   ⟨some 4, .alloc [(.pv (.int .u64 0)), (.pv (.int .u64 0)), (.pv (.int .u64 0)), (.pv (.int .u64 0))], none, []⟩,
   ⟨some 5, .mv (.c (.pv (.bool false))), none, []⟩])
  (.seq (.ops [
   ⟨some 7, .load true 4 (.t 3), none, []⟩,
   ⟨some 8, .load true 4 (.t 2), none, []⟩,
   ⟨some 9, .call 141 [(.t 7), (.t 8)], none, [0, 1]⟩,
   ⟨some 6, .mv (.t 9), none, [2, 2, 0, 1, 2]⟩])
  (.seq (.seq (.ops [
   ⟨some 10, .mv (.t 6), none, []⟩,
   ⟨some 11, .not (.t 10), none, [0]⟩])
  (.cond (.t 11)
   (.seq (.ops [
     ⟨some 12, .build [(.pv (.int .u64 0)), (.pv (.int .u64 0)), (.pv (.int .u64 0)), (.pv (.int .u64 0))] [], none, []⟩,
     ⟨none, .store 4 (.t 4) (.t 12), none, [0, 0]⟩,
     ⟨some 5, .mv (.c (.pv (.bool false))), none, [1, 0, 1]⟩])
    .ret)
   .skip))
  (.seq (.ops [
   ⟨some 13, .idxArr 4 1 (.t 2) (.c (.pv (.int .i64 0))), none, []⟩,
   ⟨some 14, .load false 1 (.t 13), none, [0]⟩,
   ⟨some 15, .idxArr 4 1 (.t 3) (.c (.pv (.int .i64 0))), none, []⟩,
   ⟨some 16, .load false 1 (.t 15), none, [2]⟩,
   ⟨some 17, .bin .sub none (.t 14) (.t 16), none, [1, 3]⟩,
   ⟨some 18, .idxArr 4 1 (.t 2) (.c (.pv (.int .i64 1))), none, []⟩,
   ⟨some 19, .load false 1 (.t 18), none, [5]⟩,
   ⟨some 20, .idxArr 4 1 (.t 3) (.c (.pv (.int .i64 1))), none, []⟩,
   ⟨some 21, .load false 1 (.t 20), none, [7]⟩,
   ⟨some 22, .bin .sub none (.t 19) (.t 21), none, [6, 8]⟩,
   ⟨some 23, .idxArr 4 1 (.t 2) (.c (.pv (.int .i64 2))), none, []⟩,
   ⟨some 24, .load false 1 (.t 23), none, [10]⟩,
   ⟨some 25, .idxArr 4 1 (.t 3) (.c (.pv (.int .i64 2))), none, []⟩,
   ⟨some 26, .load false 1 (.t 25), none, [12]⟩,
   ⟨some 27, .bin .sub none (.t 24) (.t 26), none, [11, 13]⟩,
   ⟨some 28, .idxArr 4 1 (.t 2) (.c (.pv (.int .i64 3))), none, []⟩,
   ⟨some 29, .load false 1 (.t 28), none, [15]⟩,
   ⟨some 30, .idxArr 4 1 (.t 3) (.c (.pv (.int .i64 3))), none, []⟩,
   ⟨some 31, .load false 1 (.t 30), none, [17]⟩,
   ⟨some 32, .bin .sub none (.t 29) (.t 31), none, [16, 18]⟩,
   ⟨some 33, .build [(.pv (.int .u64 0)), (.pv (.int .u64 0)), (.pv (.int .u64 0)), (.pv (.int .u64 0))] [(0, 1, (.t 17)), (1, 1, (.t 22)), (2, 1, (.t 27)), (3, 1, (.t 32))], none, [4, 9, 14, 19]⟩,
   ⟨none, .store 4 (.t 4) (.t 33), none, [20, 0, 1, 2, 3, 4, 5, 6, 7, 8, 9, 10, 11, 12, 13, 14, 15, 16, 17, 18, 19, 20]⟩,
   ⟨some 5, .mv (.c (.pv (.bool true))), none, [21, 0, 1, 2, 3, 4, 5, 6, 7, 8, 9, 10, 11, 12, 13, 14, 15, 16, 17, 18, 19, 20, 21]⟩])
  .ret))))⟩
def f143l0 : ACode :=
 (.seq (.seq (.ops [
   ⟨some 7, .mv (.t 6), none, []⟩,
   ⟨some 8, .mv (.t 0), none, []⟩,
   ⟨some 9, .len (.t 8), none, [1]⟩,
   ⟨some 10, .bin .lss none (.t 7) (.t 9), none, [0, 2]⟩,
   ⟨some 11, .mv (.t 10), none, [3]⟩,
   ⟨some 12, .mv (.t 5), some (11, true), [4]⟩,
   ⟨some 13, .pick (.t 11) (.t 12) (.c (.pv (.bool false))), none, [4, 5]⟩])
  (.cond (.t 13)
   .skip
   (.exit 0)))
  (.seq (.block 1
   (.draw [
     ⟨some 17, .load true 4 (.t 4), none, []⟩,
     ⟨some 18, .mv (.t 0), none, []⟩,
     ⟨some 19, .mv (.t 6), none, []⟩,
     ⟨some 20, .idxAddr 4 (.t 18) (.t 19), none, [1, 2]⟩,
     ⟨some 21, .load true 4 (.t 20), none, [3]⟩,
     ⟨some 22, .call 140 [(.t 17), (.t 21)], none, [0, 4]⟩,
     ⟨some 16, .mv (.t 22), none, [5]⟩,
     ⟨some 23, .extract (.t 16) 0, none, [6]⟩,
     ⟨some 24, .extract (.t 16) 1, none, [6]⟩,
     ⟨none, .store 4 (.t 4) (.t 23), none, [7, 5, 0, 1, 2, 3, 4, 5, 6, 7]⟩,
     ⟨some 5, .mv (.t 24), none, [8, 9, 0, 1, 2, 3, 4, 5, 6, 7, 8, 9]⟩]))
  (.ops [
   ⟨some 14, .mv (.t 6), none, []⟩,
   ⟨some 15, .bin .add none (.t 14) (.c (.pv (.int .i64 1))), none, [0]⟩,
   ⟨some 6, .mv (.t 15), none, [1, 0, 1]⟩])))
def f143 : AFunc := ⟨27, [.cell 2 true 4, .t 3],
 (.seq (.ops [
   ⟨some 2, .alloc [(.pv (.int .u64 0)), (.pv (.int .u64 0)), (.pv (.int .u64 0)), (.pv (.int .u64 0))], none, []⟩,
   ⟨some 3, .mv (.c (.pv (.bool false))), none, []⟩])
  (.seq (.ops [
   ⟨some 4, .alloc [(.pv (.int .u64 0)), (.pv (.int .u64 0)), (.pv (.int .u64 0)), (.pv (.int .u64 0))], none, []⟩])
  (.seq (.ops [
   ⟨some 5, .mv (.c (.pv (.bool true))), none, []⟩])
  (.seq (.seq (.ops [
   ⟨some 6, .mv (.c (.pv (.int .i64 0))), none, []⟩])
  (.block 0
   (.loop f143l0)))
  (.seq (.ops [
   ⟨some 25, .load true 4 (.t 4), none, []⟩,
   ⟨some 26, .mv (.t 5), none, []⟩,
   ⟨none, .store 4 (.t 2) (.t 25), none, [0, 0]⟩,
   ⟨some 3, .mv (.t 26), none, [1, 2, 0, 1, 2]⟩])
  .ret)))))⟩
def f144 : AFunc := ⟨10, [.t 4],
 (.seq (.ops [
   ⟨some 4, .mv (.c (.pv (.int .u64 0))), none, []⟩])
  (.seq (.seq (.ops [
   ⟨some 5, .mv (.t 1), none, []⟩])
  (.cond (.t 5)
   (.seq (.ops [
     ⟨some 6, .mv (.t 0), none, []⟩,
     ⟨some 7, .bin .quo none (.t 6) (.c (.pv (.int .u64 4294967296))), none, [0]⟩,
     ⟨some 4, .mv (.t 7), none, [1, 0, 1]⟩])
    .ret)
   .skip))
  (.seq (.ops [
   ⟨some 8, .mv (.t 0), none, []⟩,
   ⟨some 9, .bin .rem none (.t 8) (.c (.pv (.int .u64 4294967296))), none, [0]⟩,
   ⟨some 4, .mv (.t 9), none, [1, 0, 1]⟩])
  .ret)))⟩
def f145 : AFunc := ⟨28, [.t 4, .t 5],
 (.seq (.ops [
   ⟨some 4, .mv (.c (.pv (.int .u64 0))), none, []⟩,
   ⟨some 5, .mv (.c (.pv (.bool false))), none, [0]⟩])
  (.seq (.ops [
   ⟨some 8, .mv (.t 0), none, []⟩,
   ⟨some 9, .call 144 [(.t 8), (.c (.pv (.bool false)))], none, [0]⟩,
   ⟨some 10, .mv (.t 1), none, []⟩,
   ⟨some 11, .call 144 [(.t 10), (.c (.pv (.bool false)))], none, [2, 1]⟩,
   ⟨some 12, .bin .add none (.t 9) (.t 11), none, [1, 3]⟩,
   ⟨some 6, .mv (.t 12), none, [4, 3, 0, 1, 2, 3, 4]⟩])
  (.seq (.ops [
   ⟨some 13, .mv (.t 0), none, []⟩,
   ⟨some 14, .call 144 [(.t 13), (.c (.pv (.bool true)))], none, [0]⟩,
   ⟨some 15, .mv (.t 1), none, []⟩,
   ⟨some 16, .call 144 [(.t 15), (.c (.pv (.bool true)))], none, [2, 1]⟩,
   ⟨some 17, .bin .add none (.t 14) (.t 16), none, [1, 3]⟩,
   ⟨some 18, .mv (.t 6), none, []⟩,
   ⟨some 19, .bin .quo none (.t 18) (.c (.pv (.int .u64 4294967296))), none, [5]⟩,
   ⟨some 20, .bin .add none (.t 17) (.t 19), none, [4, 6]⟩,
   ⟨some 7, .mv (.t 20), none, [7, 3, 0, 1, 2, 3, 4, 5, 6, 7]⟩])
  (.seq (.seq (.ops [
   ⟨some 21, .mv (.t 7), none, []⟩,
   ⟨some 22, .bin .geq none (.t 21) (.c (.pv (.int .u64 4294967296))), none, [0]⟩])
  (.cond (.t 22)
   (.seq (.ops [
     ⟨some 4, .mv (.c (.pv (.int .u64 0))), none, []⟩,
     ⟨some 5, .mv (.c (.pv (.bool false))), none, [0, 0]⟩])
    .ret)
   .skip))
  (.seq (.ops [
   ⟨some 23, .mv (.t 7), none, []⟩,
   ⟨some 24, .bin .mul none (.t 23) (.c (.pv (.int .u64 4294967296))), none, [0]⟩,
   ⟨some 25, .mv (.t 6), none, []⟩,
   ⟨some 26, .bin .rem none (.t 25) (.c (.pv (.int .u64 4294967296))), none, [2]⟩,
   ⟨some 27, .bin .add none (.t 24) (.t 26), none, [1, 3]⟩,
   ⟨some 4, .mv (.t 27), none, [4, 0, 1, 2, 3, 4]⟩,
   ⟨some 5, .mv (.c (.pv (.bool true))), none, [5, 0, 1, 2, 3, 4, 5]⟩])
  .ret)))))⟩
def f155l0 : ACode :=
 (.seq (.seq (.ops [
   ⟨some 6, .mv (.t 5), none, []⟩,
   ⟨some 7, .fieldAddr 0 (.t 2), none, []⟩,
   ⟨some 8, .load false 1 (.t 7), none, [1]⟩,
   ⟨some 9, .len (.t 8), none, [2]⟩,
   ⟨some 10, .bin .lss none (.t 6) (.t 9), none, [0, 3]⟩])
  (.cond (.t 10)
   .skip
   (.exit 0)))
  (.seq (.block 1
   (.seq (.ops [
     ⟨some 13, .fieldAddr 0 (.t 2), none, []⟩,
     ⟨some 14, .load false 1 (.t 13), none, [0]⟩,
     ⟨some 15, .mv (.t 5), none, []⟩,
     ⟨some 16, .idxAddr 10 (.t 14) (.t 15), none, [1, 2]⟩,
     ⟨some 17, .fieldAddr 0 (.t 16), none, [3]⟩,
     ⟨some 18, .load false 1 (.t 17), none, [4]⟩,
     ⟨some 19, .mv (.t 1), none, []⟩,
     ⟨some 20, .bin .eql none (.t 18) (.t 19), none, [5, 6]⟩])
    (.cond (.t 20)
     (.seq (.ops [
       ⟨some 21, .mv (.t 5), none, []⟩,
       ⟨some 4, .mv (.t 21), none, [0, 0]⟩])
      .ret)
     .skip)))
  (.ops [
   ⟨some 11, .mv (.t 5), none, []⟩,
   ⟨some 12, .bin .add none (.t 11) (.c (.pv (.int .i64 1))), none, [0]⟩,
   ⟨some 5, .mv (.t 12), none, [1, 0, 1]⟩])))
def f155 : AFunc := ⟨22, [.t 4],
 (.seq (.ops [
   ⟨some 2, .box (.t 0), none, []⟩,
   ⟨some 4, .mv (.c (.pv (.int .i64 0))), none, []⟩])
  (.seq (.seq (.ops [
   ⟨some 5, .mv (.c (.pv (.int .i64 0))), none, []⟩])
  (.block 0
   (.loop f155l0)))
  (.seq (.ops [
   ⟨some 4, .mv (.c (.pv (.int .i64 (-1)))), none, []⟩])
  .ret)))⟩
def f169l0 : ACode :=
 (.seq (.seq (.ops [
   ⟨some 9, .mv (.t 6), none, []⟩,
   ⟨some 10, .fieldAddr 0 (.t 2), none, []⟩,
   ⟨some 11, .load false 1 (.t 10), none, [1]⟩,
   ⟨some 12, .len (.t 11), none, [2]⟩,
   ⟨some 13, .bin .lss none (.t 9) (.t 12), none, [0, 3]⟩])
  (.cond (.t 13)
   .skip
   (.exit 0)))
  (.seq (.block 1
   (.seq (.draw [
     ⟨some 17, .load true 3 (.t 2), none, []⟩,
     ⟨some 18, .load true 3 (.t 3), none, []⟩,
     ⟨some 19, .fieldAddr 0 (.t 2), none, []⟩,
     ⟨some 20, .load false 1 (.t 19), none, [2]⟩,
     ⟨some 21, .mv (.t 6), none, []⟩,
     ⟨some 22, .idxAddr 10 (.t 20) (.t 21), none, [3, 4]⟩,
     ⟨some 23, .fieldAddr 0 (.t 22), none, [5]⟩,
     ⟨some 24, .load false 1 (.t 23), none, [6]⟩,
     ⟨some 25, .call 170 [(.t 17), (.t 18), (.t 24)], none, [0, 1, 7]⟩,
     ⟨some 16, .mv (.t 25), none, [8]⟩,
     ⟨some 26, .extract (.t 16) 0, none, [9]⟩,
     ⟨some 27, .extract (.t 16) 1, none, [9]⟩,
     ⟨some 7, .alloc [(.pv (.int .u64 0)), (.pv (.int .u64 0)), (.pv (.int .u64 0)), (.pv (.int .u64 0))], none, []⟩,
     ⟨none, .store 4 (.t 7) (.t 26), none, [12, 10, 8, 0, 1, 2, 3, 4, 5, 6, 7, 8, 9, 10, 12]⟩,
     ⟨some 8, .mv (.t 27), none, [11, 13, 0, 1, 2, 3, 4, 5, 6, 7, 8, 9, 10, 11, 12, 13]⟩])
    (.seq (.ops [
     ⟨some 28, .mv (.t 8), none, []⟩,
     ⟨some 29, .bin .neq none (.t 28) (.c (.pv (.int .i64 0))), none, [0]⟩])
    (.cond (.t 29)
     (.seq (.ops [
       ⟨some 30, .mv (.t 8), none, []⟩,
       ⟨some 31, .mv (.t 6), none, []⟩,
       ⟨some 4, .mv (.t 30), none, [0, 0]⟩,
       ⟨some 5, .mv (.t 31), none, [1, 2, 0, 1, 2]⟩])
      .ret)
     .skip))))
  (.ops [
   ⟨some 14, .mv (.t 6), none, []⟩,
   ⟨some 15, .bin .add none (.t 14) (.c (.pv (.int .i64 1))), none, [0]⟩,
   ⟨some 6, .mv (.t 15), none, [1, 0, 1]⟩])))
def f169 : AFunc := ⟨32, [.t 4, .t 5],
 (.seq (.ops [
   ⟨some 2, .box (.t 0), none, []⟩,
   ⟨some 3, .box (.t 1), none, []⟩,
   ⟨some 4, .mv (.c (.pv (.int .i64 0))), none, []⟩,
   ⟨some 5, .mv (.c (.pv (.int .i64 0))), none, [2]⟩])
  (.seq (.seq (.ops [
   ⟨some 6, .mv (.c (.pv (.int .i64 0))), none, []⟩])
  (.block 0
   (.loop f169l0)))
  (.seq (.ops [
   ⟨some 4, .mv (.c (.pv (.int .i64 0))), none, []⟩,
   ⟨some 5, .mv (.c (.pv (.int .i64 (-1)))), none, [0, 0]⟩])
  .ret)))⟩
def f170 : AFunc := ⟨59, [.cell 6 true 4, .t 7],
 (.seq (.ops [
   ⟨some 3, .box (.t 0), none, []⟩,
   ⟨some 4, .box (.t 1), none, []⟩,
   ⟨some 6, .alloc [(.pv (.int .u64 0)), (.pv (.int .u64 0)), (.pv (.int .u64 0)), (.pv (.int .u64 0))], none, []⟩,
   ⟨some 7, .mv (.c (.pv (.int .i64 0))), none, []⟩])
  (.seq (.ops [
   ⟨some 15, .load true 3 (.t 3), none, []⟩,
   ⟨some 16, .mv (.t 2), none, []⟩,
   ⟨some 17, .call 155 [(.t 15), (.t 16)], none, [0, 1]⟩,
   ⟨some 8, .mv (.t 17), none, [2, 2, 0, 1, 2]⟩])
  (.seq (.seq (.ops [
   ⟨some 18, .mv (.t 8), none, []⟩,
   ⟨some 19, .bin .lss none (.t 18) (.c (.pv (.int .i64 0))), none, [0]⟩])
  (.cond (.t 19)
   (.seq (.ops [
     ⟨some 20, .build [(.pv (.int .u64 0)), (.pv (.int .u64 0)), (.pv (.int .u64 0)), (.pv (.int .u64 0))] [], none, []⟩,
     ⟨none, .store 4 (.t 6) (.t 20), none, [0, 0]⟩,
     ⟨some 7, .mv (.c (.pv (.int .i64 4))), none, [1, 0, 1]⟩])
    .ret)
   .skip))
  (.seq (.ops [
   ⟨some 22, .load true 3 (.t 4), none, []⟩,
   ⟨some 23, .mv (.t 2), none, []⟩,
   ⟨some 24, .call 171 [(.t 22), (.t 23)], none, [0, 1]⟩,
   ⟨some 21, .mv (.t 24), none, [2]⟩,
   ⟨some 25, .extract (.t 21) 0, none, [3]⟩,
   ⟨some 26, .extract (.t 21) 1, none, [3]⟩,
   ⟨some 9, .alloc [(.pv (.int .u64 0)), (.pv (.int .u64 0)), (.pv (.int .u64 0)), (.pv (.int .u64 0))], none, []⟩,
   ⟨none, .store 4 (.t 9) (.t 25), none, [6, 4, 2, 0, 1, 2, 3, 4, 6]⟩,
   ⟨some 10, .mv (.t 26), none, [5, 7, 0, 1, 2, 3, 4, 5, 6, 7]⟩])
  (.seq (.seq (.ops [
   ⟨some 27, .mv (.t 10), none, []⟩,
   ⟨some 28, .not (.t 27), none, [0]⟩])
  (.cond (.t 28)
   (.seq (.ops [
     ⟨some 29, .build [(.pv (.int .u64 0)), (.pv (.int .u64 0)), (.pv (.int .u64 0)), (.pv (.int .u64 0))] [], none, []⟩,
     ⟨none, .store 4 (.t 6) (.t 29), none, [0, 0]⟩,
     ⟨some 7, .mv (.c (.pv (.int .i64 8))), none, [1, 0, 1]⟩])
    .ret)
   .skip))
  (.seq (.draw [
   ⟨some 31, .fieldAddr 0 (.t 3), none, []⟩,
   ⟨some 32, .load false 1 (.t 31), none, [0]⟩,
   ⟨some 33, .mv (.t 8), none, []⟩,
   ⟨some 34, .idxAddr 10 (.t 32) (.t 33), none, [1, 2]⟩,
   ⟨some 35, .fieldAddr 2 (.t 34), none, [3]⟩,
   ⟨some 36, .load true 4 (.t 35), none, [4]⟩,
   ⟨some 37, .fieldAddr 0 (.t 3), none, []⟩,
   ⟨some 38, .load false 1 (.t 37), none, [6]⟩,
   ⟨some 39, .mv (.t 8), none, []⟩,
   ⟨some 40, .idxAddr 10 (.t 38) (.t 39), none, [7, 8]⟩,
   ⟨some 41, .fieldAddr 6 (.t 40), none, [9]⟩,
   ⟨some 42, .load true 4 (.t 41), none, [10]⟩,
   ⟨some 43, .call 142 [(.t 36), (.t 42)], none, [5, 11]⟩,
   ⟨some 30, .mv (.t 43), none, [12]⟩,
   ⟨some 44, .extract (.t 30) 0, none, [13]⟩,
   ⟨some 45, .extract (.t 30) 1, none, [13]⟩,
   ⟨some 11, .alloc [(.pv (.int .u64 0)), (.pv (.int .u64 0)), (.pv (.int .u64 0)), (.pv (.int .u64 0))], none, []⟩,
   ⟨none, .store 4 (.t 11) (.t 44), none, [16, 14, 12, 0, 1, 2, 3, 4, 5, 6, 7, 8, 9, 10, 11, 12, 13, 14, 16]⟩,
   ⟨some 12, .mv (.t 45), none, [15, 17, 0, 1, 2, 3, 4, 5, 6, 7, 8, 9, 10, 11, 12, 13, 14, 15, 16, 17]⟩])
  (.seq (.seq (.ops [
   ⟨some 46, .mv (.t 12), none, []⟩,
   ⟨some 47, .not (.t 46), none, [0]⟩])
  (.cond (.t 47)
   (.seq (.ops [
     ⟨some 48, .build [(.pv (.int .u64 0)), (.pv (.int .u64 0)), (.pv (.int .u64 0)), (.pv (.int .u64 0))] [], none, []⟩,
     ⟨none, .store 4 (.t 6) (.t 48), none, [0, 0]⟩,
     ⟨some 7, .mv (.c (.pv (.int .i64 9))), none, [1, 0, 1]⟩])
    .ret)
   .skip))
  (.seq (.ops [
   ⟨some 50, .load true 4 (.t 11), none, []⟩,
   ⟨some 51, .load true 4 (.t 9), none, []⟩,
   ⟨some 52, .call 142 [(.t 50), (.t 51)], none, [0, 1]⟩,
   ⟨some 49, .mv (.t 52), none, [2]⟩,
   ⟨some 53, .extract (.t 49) 0, none, [3]⟩,
   ⟨some 54, .extract (.t 49) 1, none, [3]⟩,
   ⟨some 13, .alloc [(.pv (.int .u64 0)), (.pv (.int .u64 0)), (.pv (.int .u64 0)), (.pv (.int .u64 0))], none, []⟩,
   ⟨none, .store 4 (.t 13) (.t 53), none, [6, 4, 2, 0, 1, 2, 3, 4, 6]⟩,
   ⟨some 14, .mv (.t 54), none, [5, 7, 0, 1, 2, 3, 4, 5, 6, 7]⟩])
  (.seq (.seq (.ops [
   ⟨some 55, .mv (.t 14), none, []⟩,
   ⟨some 56, .not (.t 55), none, [0]⟩])
  (.cond (.t 56)
   (.seq (.ops [
     ⟨some 57, .build [(.pv (.int .u64 0)), (.pv (.int .u64 0)), (.pv (.int .u64 0)), (.pv (.int .u64 0))] [], none, []⟩,
     ⟨none, .store 4 (.t 6) (.t 57), none, [0, 0]⟩,
     ⟨some 7, .mv (.c (.pv (.int .i64 9))), none, [1, 0, 1]⟩])
    .ret)
   .skip))
  (.seq (.ops [
   ⟨some 58, .load true 4 (.t 13), none, []⟩,
   ⟨none, .store 4 (.t 6) (.t 58), none, [0, 0]⟩,
   ⟨some 7, .mv (.c (.pv (.int .i64 0))), none, [1, 0, 1]⟩])
  .ret))))))))))⟩
def f171l0 : ACode :=
 (.seq (.seq (.ops [
   ⟨some 10, .mv (.t 7), none, []⟩,
   ⟨some 11, .fieldAddr 0 (.t 2), none, []⟩,
   ⟨some 12, .load false 1 (.t 11), none, [1]⟩,
   ⟨some 13, .len (.t 12), none, [2]⟩,
   ⟨some 14, .bin .lss none (.t 10) (.t 13), none, [0, 3]⟩])
  (.cond (.t 14)
   .skip
   (.exit 0)))
  (.seq (.block 1
   (.seq (.ops [
     ⟨some 17, .fieldAddr 0 (.t 2), none, []⟩,
     ⟨some 18, .load false 1 (.t 17), none, [0]⟩,
     ⟨some 19, .mv (.t 7), none, []⟩,
     ⟨some 20, .idxAddr 8 (.t 18) (.t 19), none, [1, 2]⟩,
     ⟨some 21, .fieldAddr 7 (.t 20), none, [3]⟩,
     ⟨some 22, .load false 1 (.t 21), none, [4]⟩,
     ⟨some 23, .mv (.t 1), none, []⟩,
     ⟨some 24, .bin .eql none (.t 22) (.t 23), none, [5, 6]⟩])
    (.cond (.t 24)
     (.ops [
       ⟨some 25, .mv (.t 6), none, []⟩,
       ⟨some 26, .fieldAddr 0 (.t 2), none, []⟩,
       ⟨some 27, .load false 1 (.t 26), none, [1]⟩,
       ⟨some 28, .mv (.t 7), none, []⟩,
       ⟨some 29, .idxAddr 8 (.t 27) (.t 28), none, [2, 3]⟩,
       ⟨some 30, .fieldAddr 3 (.t 29), none, [4]⟩,
       ⟨some 31, .load true 4 (.t 30), none, [5]⟩,
       ⟨some 32, .bslice 4 1 [(.pv (.int .u64 0)), (.pv (.int .u64 0)), (.pv (.int .u64 0)), (.pv (.int .u64 0))] [(0, 4, (.t 31))], none, [6]⟩,
       ⟨some 33, .append 4 32 (.t 25) (.t 32), none, [0, 7]⟩,
       ⟨some 6, .mv (.t 33), none, [8, 8, 0, 1, 2, 3, 4, 5, 6, 7, 8]⟩])
     .skip)))
  (.ops [
   ⟨some 15, .mv (.t 7), none, []⟩,
   ⟨some 16, .bin .add none (.t 15) (.c (.pv (.int .i64 1))), none, [0]⟩,
   ⟨some 7, .mv (.t 16), none, [1, 0, 1]⟩])))
def f171 : AFunc := ⟨43, [.cell 4 true 4, .t 5],
 (.seq (.ops [
   ⟨some 2, .box (.t 0), none, []⟩,
   ⟨some 4, .alloc [(.pv (.int .u64 0)), (.pv (.int .u64 0)), (.pv (.int .u64 0)), (.pv (.int .u64 0))], none, []⟩,
   ⟨some 5, .mv (.c (.pv (.bool false))), none, []⟩])
  (.seq (.ops [
   ⟨some 6, .mv (.c .nils), none, []⟩])
  (.seq (.seq (.ops [
   ⟨some 7, .mv (.c (.pv (.int .i64 0))), none, []⟩])
  (.block 0
   (.loop f171l0)))
  (.seq (.ops [
   ⟨some 35, .mv (.t 6), none, []⟩,
   ⟨some 36, .call 143 [(.t 35)], none, [0]⟩,
   ⟨some 34, .mv (.t 36), none, [1]⟩,
   ⟨some 37, .extract (.t 34) 0, none, [2]⟩,
   ⟨some 38, .extract (.t 34) 1, none, [2]⟩,
   ⟨some 8, .alloc [(.pv (.int .u64 0)), (.pv (.int .u64 0)), (.pv (.int .u64 0)), (.pv (.int .u64 0))], none, []⟩,
   ⟨none, .store 4 (.t 8) (.t 37), none, [5, 3, 1, 0, 1, 2, 3, 5]⟩,
   ⟨some 9, .mv (.t 38), none, [4, 6, 0, 1, 2, 3, 4, 5, 6]⟩])
  (.seq (.seq (.ops [
   ⟨some 39, .mv (.t 9), none, []⟩,
   ⟨some 40, .not (.t 39), none, [0]⟩])
  (.cond (.t 40)
   (.seq (.ops [
     ⟨some 41, .build [(.pv (.int .u64 0)), (.pv (.int .u64 0)), (.pv (.int .u64 0)), (.pv (.int .u64 0))] [], none, []⟩,
     ⟨none, .store 4 (.t 4) (.t 41), none, [0, 0]⟩,
     ⟨some 5, .mv (.c (.pv (.bool false))), none, [1, 0, 1]⟩])
    .ret)
   .skip))
  (.seq (.ops [
   ⟨some 42, .load true 4 (.t 8), none, []⟩,
   ⟨none, .store 4 (.t 4) (.t 42), none, [0, 0]⟩,
   ⟨some 5, .mv (.c (.pv (.bool true))), none, [1, 0, 1]⟩])
  .ret))))))⟩
def f219l0 : ACode :=
 (.seq (.ops [
   ⟨some 14, .bin .lss none (.t 13) (.t 12), none, []⟩])
  (.seq (.cond (.t 14)
   .skip
   (.exit 0))
  (.seq (.block 1
   (.seq (.ops [
     ⟨some 15, .mv (.t 13), none, []⟩,
     ⟨some 16, .idxAddr 10 (.t 11) (.t 13), none, []⟩,
     ⟨some 17, .load true 10 (.t 16), none, [1]⟩,
     ⟨some 6, .alloc [(.pv (.int .i64 0)), (.pv (.int .i64 0)), (.pv (.int .u64 0)), (.pv (.int .u64 0)), (.pv (.int .u64 0)), (.pv (.int .u64 0)), (.pv (.int .u64 0)), (.pv (.int .u64 0)), (.pv (.int .u64 0)), (.pv (.int .u64 0))], none, []⟩,
     ⟨some 5, .mv (.t 15), none, [0, 0, 1, 2, 3]⟩,
     ⟨none, .store 10 (.t 6) (.t 17), none, [3, 2, 4, 0, 1, 2, 3, 4]⟩])
    (.seq (.ops [
     ⟨some 19, .load true 3 (.t 2), none, []⟩,
     ⟨some 20, .load true 3 (.t 3), none, []⟩,
     ⟨some 21, .fieldAddr 0 (.t 6), none, []⟩,
     ⟨some 22, .load false 1 (.t 21), none, [2]⟩,
     ⟨some 23, .call 220 [(.t 19), (.t 20), (.t 22)], none, [0, 1, 3]⟩,
     ⟨some 18, .mv (.t 23), none, [4]⟩,
     ⟨some 24, .extract (.t 18) 0, none, [5]⟩,
     ⟨some 25, .extract (.t 18) 1, none, [5]⟩,
     ⟨some 7, .alloc [(.pv (.int .u64 0)), (.pv (.int .u64 0)), (.pv (.int .u64 0)), (.pv (.int .u64 0))], none, []⟩,
     ⟨none, .store 4 (.t 7) (.t 24), none, [8, 6, 4, 0, 1, 2, 3, 4, 5, 6, 8]⟩,
     ⟨some 8, .mv (.t 25), none, [7, 9, 0, 1, 2, 3, 4, 5, 6, 7, 8, 9]⟩])
    (.seq (.ops [
     ⟨some 9, .alloc [(.pv (.int .i64 0))], none, []⟩])
    (.seq (.ops [
     ⟨some 26, .mv (.t 8), none, []⟩,
     ⟨some 27, .mkI 3 (.t 9), none, []⟩,
     ⟨some 28, .call 266 [(.t 26), (.t 27)], none, [0, 1]⟩])
    (.cond (.t 28)
     (.seq (.ops [
       ⟨some 29, .mv (.t 5), none, []⟩,
       ⟨some 30, .load false 1 (.t 9), none, []⟩,
       ⟨some 31, .build [(.pv (.int .i64 0)), (.pv (.int .i64 0))] [(0, 1, (.t 29)), (1, 1, (.t 30))], none, [0, 1]⟩,
       ⟨some 32, .box (.t 31), none, [2]⟩,
       ⟨some 33, .mkI 1 (.t 32), none, [3]⟩,
       ⟨some 4, .mv (.t 33), none, [4, 0, 1, 2, 3, 4]⟩])
      .ret)
     .skip))))))
  (.ops [
   ⟨some 34, .bin .add none (.t 13) (.c (.pv (.int .i64 1))), none, []⟩,
   ⟨some 13, .mv (.t 34), none, [0]⟩]))))
def f219 : AFunc := ⟨35, [.t 4],
 (.seq (.ops [
   ⟨some 2, .box (.t 0), none, []⟩,
   ⟨some 3, .box (.t 1), none, []⟩,
   ⟨some 4, .mv (.c (.pv .nili)), none, []⟩])
  (.seq (.seq (.ops [
   ⟨some 10, .fieldAddr 0 (.t 2), none, []⟩,
   ⟨some 11, .load false 1 (.t 10), none, [0]⟩,
   ⟨some 12, .len (.t 11), none, [1]⟩,
   ⟨some 13, .mv (.c (.pv (.int .i64 0))), none, []⟩])
  (.block 0
   (.loop f219l0)))
  (.seq (.ops [
   ⟨some 4, .mv (.c (.pv .nili)), none, []⟩])
  .ret)))⟩
def f220 : AFunc := ⟨54, [.cell 6 true 4, .t 7],
 (.seq (.ops [
   ⟨some 3, .box (.t 0), none, []⟩,
   ⟨some 4, .box (.t 1), none, []⟩,
   ⟨some 6, .alloc [(.pv (.int .u64 0)), (.pv (.int .u64 0)), (.pv (.int .u64 0)), (.pv (.int .u64 0))], none, []⟩,
   ⟨some 7, .mv (.c (.pv .nili)), none, []⟩])
  (.seq (.ops [
   ⟨some 14, .load true 3 (.t 3), none, []⟩,
   ⟨some 15, .mv (.t 2), none, []⟩,
   ⟨some 16, .call 82 [(.t 14), (.t 15)], none, [0, 1]⟩,
   ⟨some 13, .mv (.t 16), none, [2]⟩,
   ⟨some 17, .extract (.t 13) 0, none, [3]⟩,
   ⟨some 18, .extract (.t 13) 1, none, [3]⟩,
   ⟨some 8, .alloc [(.pv (.int .i64 0)), (.pv (.int .i64 0)), (.pv (.int .u64 0)), (.pv (.int .u64 0)), (.pv (.int .u64 0)), (.pv (.int .u64 0)), (.pv (.int .u64 0)), (.pv (.int .u64 0)), (.pv (.int .u64 0)), (.pv (.int .u64 0))], none, []⟩,
   ⟨none, .store 10 (.t 8) (.t 17), none, [6, 4, 2, 0, 1, 2, 3, 4, 6]⟩,
   ⟨some 9, .mv (.t 18), none, [5, 7, 0, 1, 2, 3, 4, 5, 6, 7]⟩])
  (.seq (.seq (.ops [
   ⟨some 19, .mv (.t 9), none, []⟩,
   ⟨some 20, .not (.t 19), none, [0]⟩])
  (.cond (.t 20)
   (.seq (.ops [
     ⟨some 21, .build [(.pv (.int .u64 0)), (.pv (.int .u64 0)), (.pv (.int .u64 0)), (.pv (.int .u64 0))] [], none, []⟩,
     ⟨some 22, .mkI 0 (.c (.pv (.int .i64 4))), none, []⟩,
     ⟨none, .store 4 (.t 6) (.t 21), none, [0, 0]⟩,
     ⟨some 7, .mv (.t 22), none, [1, 2, 0, 1, 2]⟩])
    .ret)
   .skip))
  (.seq (.ops [
   ⟨some 24, .load true 3 (.t 4), none, []⟩,
   ⟨some 25, .mv (.t 2), none, []⟩,
   ⟨some 26, .call 221 [(.t 24), (.t 25)], none, [0, 1]⟩,
   ⟨some 23, .mv (.t 26), none, [2]⟩,
   ⟨some 27, .extract (.t 23) 0, none, [3]⟩,
   ⟨some 28, .extract (.t 23) 1, none, [3]⟩,
   ⟨some 10, .alloc [(.pv (.int .u64 0)), (.pv (.int .u64 0)), (.pv (.int .u64 0)), (.pv (.int .u64 0))], none, []⟩,
   ⟨none, .store 4 (.t 10) (.t 27), none, [6, 4, 2, 0, 1, 2, 3, 4, 6]⟩,
   ⟨some 11, .mv (.t 28), none, [5, 7, 0, 1, 2, 3, 4, 5, 6, 7]⟩])
  (.seq (.seq (.ops [
   ⟨some 29, .mv (.t 11), none, []⟩,
   ⟨some 30, .bin .neq (some (.iface true)) (.t 29) (.c (.pv .nili)), none, [0]⟩])
  (.cond (.t 30)
   (.seq (.ops [
     ⟨some 31, .build [(.pv (.int .u64 0)), (.pv (.int .u64 0)), (.pv (.int .u64 0)), (.pv (.int .u64 0))] [], none, []⟩,
     ⟨some 32, .mv (.t 11), none, []⟩,
     ⟨none, .store 4 (.t 6) (.t 31), none, [0, 0]⟩,
     ⟨some 7, .mv (.t 32), none, [1, 2, 0, 1, 2]⟩])
    .ret)
   .skip))
  (.seq (.ops [
   ⟨some 34, .fieldAddr 2 (.t 8), none, []⟩,
   ⟨some 35, .load true 4 (.t 34), none, [0]⟩,
   ⟨some 36, .fieldAddr 6 (.t 8), none, []⟩,
   ⟨some 37, .load true 4 (.t 36), none, [2]⟩,
   ⟨some 38, .call 258 [(.t 35), (.t 37)], none, [1, 3]⟩,
   ⟨some 33, .mv (.t 38), none, [4]⟩,
   ⟨some 39, .extract (.t 33) 0, none, [5]⟩,
   ⟨some 40, .extract (.t 33) 1, none, [5]⟩,
   ⟨some 12, .alloc [(.pv (.int .u64 0)), (.pv (.int .u64 0)), (.pv (.int .u64 0)), (.pv (.int .u64 0))], none, []⟩,
   ⟨none, .store 4 (.t 12) (.t 39), none, [8, 6, 4, 0, 1, 2, 3, 4, 5, 6, 8]⟩,
   ⟨some 11, .mv (.t 40), none, [7, 9, 0, 1, 2, 3, 4, 5, 6, 7, 8, 9]⟩])
  (.seq (.seq (.ops [
   ⟨some 41, .mv (.t 11), none, []⟩,
   ⟨some 42, .bin .eql (some (.iface true)) (.t 41) (.c (.pv .nili)), none, [0]⟩])
  (.cond (.t 42)
   (.ops [
     ⟨some 44, .load true 4 (.t 12), none, []⟩,
     ⟨some 45, .load true 4 (.t 10), none, []⟩,
     ⟨some 46, .call 258 [(.t 44), (.t 45)], none, [0, 1]⟩,
     ⟨some 43, .mv (.t 46), none, [2]⟩,
     ⟨some 47, .extract (.t 43) 0, none, [3]⟩,
     ⟨some 48, .extract (.t 43) 1, none, [3]⟩,
     ⟨none, .store 4 (.t 12) (.t 47), none, [4, 2, 0, 1, 2, 3, 4]⟩,
     ⟨some 11, .mv (.t 48), none, [5, 6, 0, 1, 2, 3, 4, 5, 6]⟩])
   .skip))
  (.seq (.seq (.ops [
   ⟨some 49, .mv (.t 11), none, []⟩,
   ⟨some 50, .bin .neq (some (.iface true)) (.t 49) (.c (.pv .nili)), none, [0]⟩])
  (.cond (.t 50)
   (.seq (.ops [
     ⟨some 51, .build [(.pv (.int .u64 0)), (.pv (.int .u64 0)), (.pv (.int .u64 0)), (.pv (.int .u64 0))] [], none, []⟩,
     ⟨some 52, .mkI 0 (.c (.pv (.int .i64 9))), none, []⟩,
     ⟨none, .store 4 (.t 6) (.t 51), none, [0, 0]⟩,
     ⟨some 7, .mv (.t 52), none, [1, 2, 0, 1, 2]⟩])
    .ret)
   .skip))
  (.seq (.ops [
   ⟨some 53, .load true 4 (.t 12), none, []⟩,
   ⟨none, .store 4 (.t 6) (.t 53), none, [0, 0]⟩,
   ⟨some 7, .mv (.c (.pv .nili)), none, [1, 0, 1]⟩])
  .ret)))))))))⟩
def f221l0 : ACode :=
 (.seq (.ops [
   ⟨some 13, .bin .lss none (.t 12) (.t 11), none, []⟩])
  (.seq (.cond (.t 13)
   .skip
   (.exit 0))
  (.seq (.block 1
   (.seq (.ops [
     ⟨some 14, .idxAddr 8 (.t 10) (.t 12), none, []⟩,
     ⟨some 15, .load true 8 (.t 14), none, [0]⟩,
     ⟨some 8, .alloc [(.pv (.int .i64 0)), (.pv (.int .i64 0)), (.pv (.int .i64 0)), (.pv (.int .u64 0)), (.pv (.int .u64 0)), (.pv (.int .u64 0)), (.pv (.int .u64 0)), (.pv (.int .i64 0))], none, []⟩,
     ⟨none, .store 8 (.t 8) (.t 15), none, [2, 1, 0, 1, 2]⟩])
    (.seq (.ops [
     ⟨some 16, .fieldAddr 7 (.t 8), none, []⟩,
     ⟨some 17, .load false 1 (.t 16), none, [0]⟩,
     ⟨some 18, .mv (.t 1), none, []⟩,
     ⟨some 19, .bin .eql none (.t 17) (.t 18), none, [1, 2]⟩])
    (.cond (.t 19)
     (.ops [
       ⟨some 20, .mv (.t 6), none, []⟩,
       ⟨some 21, .fieldAddr 3 (.t 8), none, []⟩,
       ⟨some 22, .load true 4 (.t 21), none, [1]⟩,
       ⟨some 23, .bslice 4 1 [(.pv (.int .u64 0)), (.pv (.int .u64 0)), (.pv (.int .u64 0)), (.pv (.int .u64 0))] [(0, 4, (.t 22))], none, [2]⟩,
       ⟨some 24, .append 4 32 (.t 20) (.t 23), none, [0, 3]⟩,
       ⟨some 6, .mv (.t 24), none, [4, 4, 0, 1, 2, 3, 4]⟩])
     .skip))))
  (.ops [
   ⟨some 25, .bin .add none (.t 12) (.c (.pv (.int .i64 1))), none, []⟩,
   ⟨some 12, .mv (.t 25), none, [0]⟩]))))
def f221 : AFunc := ⟨30, [.cell 4 true 4, .t 5],
 (.seq (.ops [
   ⟨some 2, .box (.t 0), none, []⟩,
   ⟨some 4, .alloc [(.pv (.int .u64 0)), (.pv (.int .u64 0)), (.pv (.int .u64 0)), (.pv (.int .u64 0))], none, []⟩,
   ⟨some 5, .mv (.c (.pv .nili)), none, []⟩])
  (.seq (.ops [
   ⟨some 6, .mv (.c .nils), none, []⟩])
  (.seq (.seq (.ops [
   ⟨some 9, .fieldAddr 0 (.t 2), none, []⟩,
   ⟨some 10, .load false 1 (.t 9), none, [0]⟩,
   ⟨some 11, .len (.t 10), none, [1]⟩,
   ⟨some 12, .mv (.c (.pv (.int .i64 0))), none, []⟩])
  (.block 0
   (.loop f221l0)))
  (.seq (.ops [
   ⟨some 26, .mv (.t 6), none, []⟩,
   ⟨some 27, .call 260 [(.t 26)], none, [0]⟩,
   ⟨some 28, .extract (.t 27) 0, none, [1]⟩,
   ⟨some 29, .extract (.t 27) 1, none, [1]⟩,
   ⟨none, .store 4 (.t 4) (.t 28), none, [2, 1, 0, 1, 2, 3]⟩,
   ⟨some 5, .mv (.t 29), none, [3, 4, 0, 1, 2, 3, 4]⟩])
  .ret))))⟩
def f255 : AFunc := ⟨11, [.cell 4 true 4, .t 5],
 (.seq (.ops [
   ⟨some 2, .box (.t 0), none, []⟩,
   ⟨some 3, .box (.t 1), none, []⟩,
   ⟨some 4, .alloc [(.pv (.int .u64 0)), (.pv (.int .u64 0)), (.pv (.int .u64 0)), (.pv (.int .u64 0))], none, []⟩,
   ⟨some 5, .mv (.c (.pv .nili)), none, []⟩])
  (.seq (.ops [
   ⟨some 6, .load true 4 (.t 2), none, []⟩,
   ⟨some 7, .load true 4 (.t 3), none, []⟩,
   ⟨some 8, .call 261 [(.t 6), (.t 7), (.f 256)], none, [0, 1]⟩,
   ⟨some 9, .extract (.t 8) 0, none, [2]⟩,
   ⟨some 10, .extract (.t 8) 1, none, [2]⟩,
   ⟨none, .store 4 (.t 4) (.t 9), none, [3, 2, 0, 1, 2, 3, 4]⟩,
   ⟨some 5, .mv (.t 10), none, [4, 5, 0, 1, 2, 3, 4, 5]⟩])
  .ret))⟩
def f258 : AFunc := ⟨11, [.cell 4 true 4, .t 5],
 (.seq (.ops [
   ⟨some 2, .box (.t 0), none, []⟩,
   ⟨some 3, .box (.t 1), none, []⟩,
   ⟨some 4, .alloc [(.pv (.int .u64 0)), (.pv (.int .u64 0)), (.pv (.int .u64 0)), (.pv (.int .u64 0))], none, []⟩,
   ⟨some 5, .mv (.c (.pv .nili)), none, []⟩])
  (.seq (.ops [
   ⟨some 6, .load true 4 (.t 2), none, []⟩,
   ⟨some 7, .load true 4 (.t 3), none, []⟩,
   ⟨some 8, .call 261 [(.t 6), (.t 7), (.f 259)], none, [0, 1]⟩,
   ⟨some 9, .extract (.t 8) 0, none, [2]⟩,
   ⟨some 10, .extract (.t 8) 1, none, [2]⟩,
   ⟨none, .store 4 (.t 4) (.t 9), none, [3, 2, 0, 1, 2, 3, 4]⟩,
   ⟨some 5, .mv (.t 10), none, [4, 5, 0, 1, 2, 3, 4, 5]⟩])
  .ret))⟩
def f259 : AFunc := ⟨12, [.t 4, .t 5],
 (.seq (.ops [
   ⟨some 4, .mv (.c (.pv (.int .u64 0))), none, []⟩,
   ⟨some 5, .mv (.c (.pv (.bool false))), none, [0]⟩])
  (.seq (.ops [
   ⟨some 6, .mv (.t 0), none, []⟩,
   ⟨some 7, .mv (.t 1), none, []⟩,
   ⟨some 8, .bin .sub none (.t 6) (.t 7), none, [0, 1]⟩,
   ⟨some 9, .mv (.t 0), none, []⟩,
   ⟨some 10, .mv (.t 1), none, []⟩,
   ⟨some 11, .bin .geq none (.t 9) (.t 10), none, [3, 4]⟩,
   ⟨some 4, .mv (.t 8), none, [2, 0, 1, 2]⟩,
   ⟨some 5, .mv (.t 11), none, [5, 6, 0, 1, 2, 3, 4, 5, 6]⟩])
  .ret))⟩
def f260l0 : ACode :=
 (.seq (.ops [
   ⟨some 12, .bin .lss none (.t 11) (.t 10), none, []⟩])
  (.seq (.cond (.t 12)
   .skip
   (.exit 0))
  (.seq (.block 1
   (.seq (.ops [
     ⟨some 13, .idxAddr 4 (.t 9) (.t 11), none, []⟩,
     ⟨some 14, .load true 4 (.t 13), none, [0]⟩,
     ⟨some 6, .alloc [(.pv (.int .u64 0)), (.pv (.int .u64 0)), (.pv (.int .u64 0)), (.pv (.int .u64 0))], none, []⟩,
     ⟨none, .store 4 (.t 6) (.t 14), none, [2, 1, 0, 1, 2]⟩])
    (.seq (.ops [
     ⟨some 16, .load true 4 (.t 4), none, []⟩,
     ⟨some 17, .load true 4 (.t 6), none, []⟩,
     ⟨some 18, .call 255 [(.t 16), (.t 17)], none, [0, 1]⟩,
     ⟨some 15, .mv (.t 18), none, [2]⟩,
     ⟨some 19, .extract (.t 15) 0, none, [3]⟩,
     ⟨some 20, .extract (.t 15) 1, none, [3]⟩,
     ⟨some 7, .alloc [(.pv (.int .u64 0)), (.pv (.int .u64 0)), (.pv (.int .u64 0)), (.pv (.int .u64 0))], none, []⟩,
     ⟨none, .store 4 (.t 7) (.t 19), none, [6, 4, 2, 0, 1, 2, 3, 4, 6]⟩,
     ⟨some 8, .mv (.t 20), none, [5, 7, 0, 1, 2, 3, 4, 5, 6, 7]⟩])
    (.seq (.seq (.ops [
     ⟨some 21, .mv (.t 8), none, []⟩,
     ⟨some 22, .bin .neq (some (.iface true)) (.t 21) (.c (.pv .nili)), none, [0]⟩])
    (.cond (.t 22)
     (.seq (.ops [
       ⟨some 23, .build [(.pv (.int .u64 0)), (.pv (.int .u64 0)), (.pv (.int .u64 0)), (.pv (.int .u64 0))] [], none, []⟩,
       ⟨some 24, .mv (.t 8), none, []⟩,
       ⟨none, .store 4 (.t 2) (.t 23), none, [0, 0]⟩,
       ⟨some 3, .mv (.t 24), none, [1, 2, 0, 1, 2]⟩])
      .ret)
     .skip))
    (.ops [
     ⟨some 25, .load true 4 (.t 7), none, []⟩,
     ⟨none, .store 4 (.t 4) (.t 25), none, [0, 0]⟩])))))
  (.ops [
   ⟨some 26, .bin .add none (.t 11) (.c (.pv (.int .i64 1))), none, []⟩,
   ⟨some 11, .mv (.t 26), none, [0]⟩]))))
def f260 : AFunc := ⟨28, [.cell 2 true 4, .t 3],
 (.seq (.ops [
   ⟨some 2, .alloc [(.pv (.int .u64 0)), (.pv (.int .u64 0)), (.pv (.int .u64 0)), (.pv (.int .u64 0))], none, []⟩,
   ⟨some 3, .mv (.c (.pv .nili)), none, []⟩])
  (.seq (.ops [
   ⟨some 4, .alloc [(.pv (.int .u64 0)), (.pv (.int .u64 0)), (.pv (.int .u64 0)), (.pv (.int .u64 0))], none, []⟩])
  (.seq (.seq (.ops [
   ⟨some 9, .mv (.t 0), none, []⟩,
   ⟨some 10, .len (.t 9), none, [0]⟩,
   ⟨some 11, .mv (.c (.pv (.int .i64 0))), none, []⟩])
  (.block 0
   (.loop f260l0)))
  (.seq (.ops [
   ⟨some 27, .load true 4 (.t 4), none, []⟩,
   ⟨none, .store 4 (.t 2) (.t 27), none, [0, 0]⟩,
   ⟨some 3, .mv (.c (.pv .nili)), none, [1, 0, 1]⟩])
  .ret))))⟩
def f261l0 : ACode :=
 (.seq (.ops [
   ⟨some 13, .bin .lss none (.t 12) (.c (.pv (.int .i64 4))), none, []⟩])
  (.seq (.cond (.t 13)
   .skip
   (.exit 0))
  (.seq (.block 1
   (.seq (.ops [
     ⟨some 14, .mv (.t 12), none, []⟩,
     ⟨some 9, .mv (.t 14), none, [0, 0]⟩])
    (.seq (.draw [
     ⟨some 16, .mv (.t 2), none, []⟩,
     ⟨some 17, .mv (.t 9), none, []⟩,
     ⟨some 18, .idxArr 4 1 (.t 3) (.t 17), none, [1]⟩,
     ⟨some 19, .load false 1 (.t 18), none, [2]⟩,
     ⟨some 20, .mv (.t 9), none, []⟩,
     ⟨some 21, .idxArr 4 1 (.t 4) (.t 20), none, [4]⟩,
     ⟨some 22, .load false 1 (.t 21), none, [5]⟩,
     ⟨some 23, .callv (.t 16) [(.t 19), (.t 22)], none, [0, 3, 6]⟩,
     ⟨some 15, .mv (.t 23), none, [7]⟩,
     ⟨some 24, .extract (.t 15) 0, none, [8]⟩,
     ⟨some 25, .extract (.t 15) 1, none, [8]⟩,
     ⟨some 10, .mv (.t 24), none, [9, 7, 0, 1, 2, 3, 4, 5, 6, 7, 8, 9]⟩,
     ⟨some 11, .mv (.t 25), none, [10, 11, 0, 1, 2, 3, 4, 5, 6, 7, 8, 9, 10, 11]⟩])
    (.seq (.seq (.ops [
     ⟨some 26, .mv (.t 11), none, []⟩,
     ⟨some 27, .not (.t 26), none, [0]⟩])
    (.cond (.t 27)
     (.seq (.ops [
       ⟨some 28, .build [(.pv (.int .u64 0)), (.pv (.int .u64 0)), (.pv (.int .u64 0)), (.pv (.int .u64 0))] [], none, []⟩,
       ⟨some 29, .mkI 0 (.c (.pv (.int .i64 8))), none, []⟩,
       ⟨none, .store 4 (.t 6) (.t 28), none, [0, 0]⟩,
       ⟨some 7, .mv (.t 29), none, [1, 2, 0, 1, 2]⟩])
      .ret)
     .skip))
    (.ops [
     ⟨some 30, .mv (.t 9), none, []⟩,
     ⟨some 31, .mv (.t 10), none, []⟩,
     ⟨some 32, .idxArr 4 1 (.t 8) (.t 30), none, [0, 0, 1]⟩,
     ⟨none, .store 1 (.t 32) (.t 31), none, [2, 1, 0, 1]⟩])))))
  (.ops [
   ⟨some 33, .bin .add none (.t 12) (.c (.pv (.int .i64 1))), none, []⟩,
   ⟨some 12, .mv (.t 33), none, [0]⟩]))))
def f261 : AFunc := ⟨35, [.cell 6 true 4, .t 7],
 (.seq (.ops [
   ⟨some 3, .box (.t 0), none, []⟩,
   ⟨some 4, .box (.t 1), none, []⟩,
   ⟨some 6, .alloc [(.pv (.int .u64 0)), (.pv (.int .u64 0)), (.pv (.int .u64 0)), (.pv (.int .u64 0))], none, []⟩,
   ⟨some 7, .mv (.c (.pv .nili)), none, []⟩])
  (.seq (.ops [
   ⟨some 8, .alloc [(.pv (.int .u64 0)), (.pv (.int .u64 0)), (.pv (.int .u64 0)), (.pv (.int .u64 0))], none, []⟩])
  (.seq (.seq (.ops [
   ⟨some 12, .mv (.c (.pv (.int .i64 0))), none, []⟩])
  (.block 0
   (.loop f261l0)))
  (.seq (.ops [
   ⟨some 34, .load true 4 (.t 8), none, []⟩,
   ⟨none, .store 4 (.t 6) (.t 34), none, [0, 0]⟩,
   ⟨some 7, .mv (.c (.pv .nili)), none, [1, 0, 1]⟩])
  .ret))))⟩
end Go.Proofs.YtjmggjlfamjdbaaGreatDoor.Ab
set_option linter.unusedVariables false
set_option linter.unusedSimpArgs false
namespace Go.Proofs.YtjmggjlfamjdbaaGreatDoor.Ab
open Go
def load0 : Load := ⟨0, false, 0, 0, 0⟩
def loadOf (id : Int) (l : List Load) : Option Load := l.find? (fun n => decide (n.id = id))
def loadR : Option Load → PV
  | some n => .tuple [.agg (loadC n), .bool true]
  | none => .tuple [.agg (loadC load0), .bool false]
theorem load_loop {T : Tab} (l : List Load) (id : Int) (hl : l.length ≤ 2 ^ 30) (Q : Exit → St → Prop) (o : Option Load)
    (hend : o = none → ∀ fr hp nx, look fr 4 = .ptr 1 0 0 → blkAt hp 1 = .var (pvs (loadC load0)) → Q (.exit 0) ⟨fr, hp, nx⟩)
    (hret : ∀ n, o = some n → ∀ fr hp nx, look fr 4 = .ptr 1 0 0 → look fr 5 = .pv (.bool true) → blkAt hp 1 = .var (pvs (loadC n)) → Q .ret ⟨fr, hp, nx⟩) :
    ∀ (rest : List Load) (i : Nat), l.drop i = rest → i ≤ l.length → loadOf id rest = o → ∀ (fr : List (Nat × AV)) (hp : Hl) (nx : Nat), 2 ≤ nx → look fr 4 = .ptr 1 0 0 → blkAt hp 1 = .var (pvs (loadC load0)) →
      look fr 1 = .pv (.int .i64 id) → look fr 9 = .pv (.slice (l.map loadC)) → look fr 10 = .pv (.int .i64 l.length) → look fr 11 = .pv (.int .i64 i) → Wp T false (.loop f81l0) ⟨fr, hp, nx⟩ Q := by
  intro rest
  induction rest with
  | nil =>
    intro i hd hi ho fr hp nx hn h4 b1 h1 h9 h10 h11
    have hlen := drop_nil hd hi
    rw [Wp_loop, Wp_eq f81l0.eq_1]
    simp only [runL, defL, binV, simprocAttr, List.drop, List.take, lenV, funV, h4, h1, h9, h10, h11, hlen, Int.lt_irrefl]
    refine hend ho.symm _ _ _ ?_ b1
    simp only [look_if, Nat.reduceEqDiff, if_false, h4]
  | cons n r ih =>
    intro i hd hi ho fr hp nx hn h4 b1 h1 h9 h10 h11
    obtain ⟨hget, hlt, hw, hd', hi', hb⟩ := drop_cons hd hl
    have n1 : ¬ nx = 1 := by omega
    have b1' := b1
    simp only [loadC, load0, pvs] at b1'
    rw [Wp_loop, Wp_eq f81l0.eq_1]
    by_cases hk : n.id = id
    · simp only [runL, defL, binV, simprocAttr, List.drop, List.take, lenV, funV, h4, b1', h1, h9, h10, h11, hlt, hget, loadC, n1, hk]
      refine hret n (by rw [← ho]; simp [loadOf, hk]) _ _ _ ?_ ?_ ?_
      all_goals simp only [look_if, blkAt_if, Nat.reduceEqDiff, if_true, if_false, h4, n1, loadC, pvs, hk]
    · simp only [runL, defL, binV, simprocAttr, List.drop, List.take, lenV, funV, h4, b1', h1, h9, h10, h11, hlt, hget, loadC, n1, hk, hw]
      refine ih (i + 1) hd' hi' (by rw [← ho]; simp [loadOf, hk]) _ _ _ (by omega) ?_ ?_ ?_ ?_ ?_ ?_
      all_goals simp only [look_if, blkAt_if, Nat.reduceEqDiff, if_true, if_false, h4, b1, n1, h1, h9, h10]
theorem load_ok {T : Tab} (h : Std T 81 f81) (s : Snap) (id : Int) (hl : s.loads.length ≤ 2 ^ 30) : Gives T 81 [snapP s, .int .i64 id] (loadR (loadOf id s.loads)) := by
  refine gives h rfl ?_
  simp only [f81, runL, defL, binV, simprocAttr, List.drop, List.take, lenV, funV, snapP]
  refine load_loop s.loads id hl _ (loadOf id s.loads) (fun ho fr hp nx h4 b1 => ?_) (fun n ho fr hp nx h4 h5 b1 => ?_) s.loads 0 rfl (Nat.zero_le _) rfl _ _ _ (Nat.le_refl _) rfl rfl rfl rfl rfl rfl
  · simp only [loadC, load0, pvs] at b1
    simp only [runL, defL, binV, simprocAttr, List.drop, List.take, lenV, funV, ho, loadR, h4, b1, loadC, load0]
  · simp only [loadC, pvs] at b1
    simp only [runL, defL, binV, simprocAttr, List.drop, List.take, lenV, funV, ho, loadR, h4, h5, b1, loadC]
def twoB (ls : List Load) (a b : Pod) : Bool := decide (a.load = b.load) && (decide (a.node = b.node) && (decide (a.node ≠ 0) && (match loadOf a.load ls with | some l => l.apart | none => false)))
theorem two_ok {T : Tab} (h69 : Std T 69 f69) (h81 : Std T 81 f81) (s : Snap) (hs : s.loads.length ≤ 2 ^ 30) (a b : Pod) : Gives T 69 [snapP s, .agg (podC a), .agg (podC b)] (.bool (twoB s.loads a b)) := by
  refine gives h69 rfl ?_
  have k := load_ok h81 s a.load hs
  unfold twoB
  cases hl : loadOf a.load s.loads with
  | none =>
    rw [hl] at k
    by_cases c1 : a.load = b.load
    · by_cases c2 : a.node = b.node
      · by_cases c3 : b.node = 0
        · simp only [f69, runL, defL, binV, simprocAttr, List.drop, List.take, lenV, funV, snapP, podC, k.call, loadR, loadC, load0, c1, c2, c3, Bool.and_false, Bool.false_and, Bool.true_and, Bool.and_true]
        · simp only [f69, runL, defL, binV, simprocAttr, List.drop, List.take, lenV, funV, snapP, podC, k.call, loadR, loadC, load0, c1, c2, c3, Bool.and_false, Bool.false_and, Bool.true_and, Bool.and_true]
      · simp only [f69, runL, defL, binV, simprocAttr, List.drop, List.take, lenV, funV, snapP, podC, k.call, loadR, loadC, load0, c1, c2, Bool.and_false, Bool.false_and, Bool.true_and, Bool.and_true]
    · simp only [f69, runL, defL, binV, simprocAttr, List.drop, List.take, lenV, funV, snapP, podC, k.call, loadR, loadC, load0, c1, Bool.and_false, Bool.false_and, Bool.true_and, Bool.and_true]
  | some l =>
    rw [hl] at k
    by_cases c1 : a.load = b.load
    · by_cases c2 : a.node = b.node
      · by_cases c3 : b.node = 0
        · simp only [f69, runL, defL, binV, simprocAttr, List.drop, List.take, lenV, funV, snapP, podC, k.call, loadR, loadC, load0, c1, c2, c3, Bool.and_false, Bool.false_and, Bool.true_and, Bool.and_true]
        · cases c4 : l.apart
          · simp only [f69, runL, defL, binV, simprocAttr, List.drop, List.take, lenV, funV, snapP, podC, k.call, loadR, loadC, load0, c1, c2, c3, c4, Bool.and_false, Bool.false_and, Bool.true_and, Bool.and_true]
          · simp only [f69, runL, defL, binV, simprocAttr, List.drop, List.take, lenV, funV, snapP, podC, k.call, loadR, loadC, load0, c1, c2, c3, c4, Bool.and_false, Bool.false_and, Bool.true_and, Bool.and_true]
      · simp only [f69, runL, defL, binV, simprocAttr, List.drop, List.take, lenV, funV, snapP, podC, k.call, loadR, loadC, load0, c1, c2, Bool.and_false, Bool.false_and, Bool.true_and, Bool.and_true]
    · simp only [f69, runL, defL, binV, simprocAttr, List.drop, List.take, lenV, funV, snapP, podC, k.call, loadR, loadC, load0, c1, Bool.and_false, Bool.false_and, Bool.true_and, Bool.and_true]
def apartFrom (ls : List Load) : List Pod → List Pod → Option (Int × Int)
  | _, [] => none
  | prev, p :: r => if prev.any (fun q => twoB ls p q) = true then some (10, prev.length) else apartFrom ls (prev ++ [p]) r
theorem apart_in {T : Tab} (h69 : Std T 69 f69) (h81 : Std T 81 f81) (s : Snap) (t : State) (hs : s.loads.length ≤ 2 ^ 30) (qs : List Pod) (hq : qs.length ≤ 2 ^ 30) (p : Pod) (i : Nat) (idp : Nat) (hidp : 2 ≤ idp) (Q : Exit → St → Prop) (b : Bool)
    (hend : b = false → ∀ fr hp nx, 2 ≤ nx → look fr 2 = .ptr 0 0 0 → look fr 3 = .ptr 1 0 0 → look fr 10 = .pv (.slice (t.pods.map podC)) → look fr 11 = .pv (.int .i64 t.pods.length) → look fr 12 = .pv (.int .i64 i) →
      blkAt hp 0 = .var [.pv (.slice (s.nodes.map nodeC)), .pv (.slice (s.loads.map loadC)), .pv (.slice (s.pods.map podC))] → blkAt hp 1 = .var [.pv (.slice (t.pods.map podC)), .pv (.int .i64 t.pre), .pv (.int .i64 t.shi)] → Q (.exit 2) ⟨fr, hp, nx⟩)
    (hret : b = true → ∀ fr hp nx id, look fr 4 = .iface 1 (.ptr id 0 0) → blkAt hp id = .var [.pv (.int .i64 i), .pv (.int .i64 10)] → Q .ret ⟨fr, hp, nx⟩) :
    ∀ (rest : List Pod) (k : Nat), qs.drop k = rest → k ≤ qs.length → rest.any (fun q => twoB s.loads p q) = b → ∀ (fr : List (Nat × AV)) (hp : Hl) (nx : Nat), idp < nx →
      look fr 2 = .ptr 0 0 0 → look fr 3 = .ptr 1 0 0 → look fr 10 = .pv (.slice (t.pods.map podC)) → look fr 11 = .pv (.int .i64 t.pods.length) → look fr 12 = .pv (.int .i64 i) →
      blkAt hp 0 = .var [.pv (.slice (s.nodes.map nodeC)), .pv (.slice (s.loads.map loadC)), .pv (.slice (s.pods.map podC))] → blkAt hp 1 = .var [.pv (.slice (t.pods.map podC)), .pv (.int .i64 t.pre), .pv (.int .i64 t.shi)] →
      look fr 5 = .pv (.int .i64 i) → look fr 6 = .ptr idp 0 0 → blkAt hp idp = .var (pvs (podC p)) → look fr 20 = .pv (.slice (qs.map podC)) → look fr 21 = .pv (.int .i64 qs.length) → look fr 22 = .pv (.int .i64 k) →
      Wp T false (.loop f68l0) ⟨fr, hp, nx⟩ Q := by
  intro rest
  induction rest with
  | nil =>
    intro k hd hi hb fr hp nx hn h2 h3 h10 h11 h12 b0 b1 h5 h6 bp h20 h21 h22
    have hlen := drop_nil hd hi
    rw [Wp_loop, Wp_eq f68l0.eq_1]
    simp only [runL, defL, binV, simprocAttr, List.drop, List.take, lenV, funV, h20, h21, h22, hlen, Int.lt_irrefl]
    refine hend (by rw [← hb]; rfl) _ _ _ (by omega) ?_ ?_ ?_ ?_ ?_ b0 b1
    all_goals simp only [look_if, Nat.reduceEqDiff, if_false, h2, h3, h10, h11, h12]
  | cons q r ih =>
    intro k hd hi hb fr hp nx hn h2 h3 h10 h11 h12 b0 b1 h5 h6 bp h20 h21 h22
    obtain ⟨hget, hlt, hw, hd', hi', hbb⟩ := drop_cons hd hq
    have n0 : ¬ nx = 0 := by omega
    have n1 : ¬ nx = 1 := by omega
    have np : ¬ nx = idp := by omega
    have kt := two_ok h69 h81 s hs p q
    have bp' := bp
    simp only [podC, pvs] at bp'
    simp only [podC] at kt
    rw [Wp_loop, Wp_eq f68l0.eq_1]
    cases ht : twoB s.loads p q
    · rw [ht] at kt
      simp only [runL, defL, binV, simprocAttr, List.drop, List.take, lenV, funV, h2, b0, h6, bp', h20, h21, h22, hlt, hget, podC, n0, n1, np, kt.call, snapP, hw]
      refine ih (k + 1) hd' hi' (by rw [← hb]; simp [ht]) _ _ _ (by omega) ?_ ?_ ?_ ?_ ?_ ?_ ?_ ?_ ?_ ?_ ?_ ?_ ?_
      all_goals simp only [look_if, blkAt_if, Nat.reduceEqDiff, if_true, if_false, h2, h3, h10, h11, h12, b0, b1, h5, h6, bp, h20, h21, n0, n1, np]
    · rw [ht] at kt
      simp only [runL, defL, binV, simprocAttr, List.drop, List.take, lenV, funV, h2, b0, h5, h6, bp', h20, h21, h22, hlt, hget, podC, n0, n1, np, kt.call, snapP]
      refine hret (by rw [← hb]; simp [ht]) _ _ _ (nx + 1) ?_ ?_
      · simp only [look_if, Nat.reduceEqDiff, if_true, if_false]
      · simp only [blkAt_if, if_true]
theorem apart_out {T : Tab} (h69 : Std T 69 f69) (h81 : Std T 81 f81) (s : Snap) (t : State) (hs : s.loads.length ≤ 2 ^ 30) (ht : t.pods.length ≤ 2 ^ 30) (Q : Exit → St → Prop) (o : Option (Int × Int))
    (hend : o = none → ∀ fr hp nx, Q (.exit 0) ⟨fr, hp, nx⟩)
    (hret : ∀ c i, o = some (c, i) → ∀ fr hp nx id, look fr 4 = .iface 1 (.ptr id 0 0) → blkAt hp id = .var [.pv (.int .i64 i), .pv (.int .i64 c)] → Q .ret ⟨fr, hp, nx⟩) :
    ∀ (rest : List Pod) (i : Nat), t.pods.drop i = rest → i ≤ t.pods.length → apartFrom s.loads (t.pods.take i) rest = o → ∀ (fr : List (Nat × AV)) (hp : Hl) (nx : Nat), 2 ≤ nx →
      look fr 2 = .ptr 0 0 0 → look fr 3 = .ptr 1 0 0 → look fr 10 = .pv (.slice (t.pods.map podC)) → look fr 11 = .pv (.int .i64 t.pods.length) → look fr 12 = .pv (.int .i64 i) →
      blkAt hp 0 = .var [.pv (.slice (s.nodes.map nodeC)), .pv (.slice (s.loads.map loadC)), .pv (.slice (s.pods.map podC))] → blkAt hp 1 = .var [.pv (.slice (t.pods.map podC)), .pv (.int .i64 t.pre), .pv (.int .i64 t.shi)] →
      Wp T false (.loop f68l1) ⟨fr, hp, nx⟩ Q := by
  intro rest
  induction rest with
  | nil =>
    intro i hd hi ho fr hp nx hn h2 h3 h10 h11 h12 b0 b1
    have hlen := drop_nil hd hi
    rw [Wp_loop, Wp_eq f68l1.eq_1]
    simp only [runL, defL, binV, simprocAttr, List.drop, List.take, lenV, funV, h10, h11, h12, hlen, Int.lt_irrefl]
    exact hend ho.symm _ _ _
  | cons p r ih =>
    intro i hd hi ho fr hp nx hn h2 h3 h10 h11 h12 b0 b1
    obtain ⟨hget, hlt, hw, hd', hi', hbb⟩ := drop_cons hd ht
    have n0 : ¬ nx = 0 := by omega
    have n1 : ¬ nx = 1 := by omega
    have hlt' : i ≤ t.pods.length := by omega
    have htk : (t.pods.take i).length = i := List.length_take_of_le hlt'
    simp only [apartFrom, htk] at ho
    rw [Wp_loop, Wp_eq f68l1.eq_1]
    simp only [runL, defL, binV, simprocAttr, List.drop, List.take, lenV, funV, h3, b1, h10, h11, h12, hlt, hget, podC, n0, n1, subV, bndO, Option.getD_some, Option.getD_none, allLen_pods, Nat.zero_le, hlt']
    simp only [Nat.sub_zero, ← List.map_take, List.length_map, htk]
    refine apart_in h69 h81 s t hs (t.pods.take i) (by omega) p i nx hn _ ((t.pods.take i).any (fun q => twoB s.loads p q)) ?_ ?_ (t.pods.take i) 0 rfl (Nat.zero_le _) rfl _ _ _ (Nat.lt_succ_self _) ?_ ?_ ?_ ?_ ?_ ?_ ?_ ?_ ?_ ?_ ?_ ?_ ?_
    · intro hb fr' hp' nx' g0 g2 g3 g10 g11 g12 gb0 gb1
      simp only [runL, defL, binV, simprocAttr, List.drop, List.take, lenV, funV, g12, hw]
      rw [if_neg (by rw [hb]; simp)] at ho
      refine ih (i + 1) hd' hi' ?_ _ _ _ g0 ?_ ?_ ?_ ?_ ?_ gb0 gb1
      · rw [← ho, List.take_add_one, hget]; rfl
      all_goals simp only [look_if, Nat.reduceEqDiff, if_true, if_false, g2, g3, g10, g11, g12]
    · intro hb fr' hp' nx' id g4 gb
      rw [if_pos hb] at ho
      simp only [runL, defL, binV, simprocAttr, List.drop, List.take, lenV, funV]
      exact hret 10 i ho.symm _ _ _ id g4 gb
    all_goals simp only [look_if, blkAt_if, Nat.reduceEqDiff, if_true, if_false, h2, h3, h10, h11, h12, b0, b1, n0, n1, podC, pvs, htk]
    all_goals rfl
theorem apart_ok {T : Tab} (h68 : Std T 68 f68) (h69 : Std T 69 f69) (h81 : Std T 81 f81) (s : Snap) (t : State) (hs : s.loads.length ≤ 2 ^ 30) (ht : t.pods.length ≤ 2 ^ 30) : Gives T 68 [snapP s, stateP t] (errO (apartFrom s.loads [] t.pods)) := by
  refine gives h68 rfl ?_
  simp only [f68, runL, defL, binV, simprocAttr, List.drop, List.take, lenV, funV, snapP, stateP]
  refine apart_out h69 h81 s t hs ht _ (apartFrom s.loads [] t.pods) (fun ho fr hp nx => ?_) (fun c i ho fr hp nx id h4 hb => ?_) t.pods 0 rfl (Nat.zero_le _) rfl _ _ _ (Nat.le_refl _) rfl rfl rfl rfl rfl rfl rfl
  · simp only [runL, defL, binV, simprocAttr, List.drop, List.take, lenV, funV, ho, errO]
  · simp only [runL, defL, binV, simprocAttr, List.drop, List.take, lenV, funV, ho, errO, h4, hb, spotE]
end Go.Proofs.YtjmggjlfamjdbaaGreatDoor.Ab
set_option linter.unusedVariables false
set_option linter.unusedSimpArgs false
namespace Go.Proofs.YtjmggjlfamjdbaaGreatDoor.Ab
open Go
def vecP (v : Vec) : PV := .agg (vecC v)
def vec0 : Vec := ⟨0, 0, 0, 0⟩
def eachV (o : Int → Int → Int) (ok : Int → Int → Bool) (a b : Vec) : Option Vec :=
  if ok a.a b.a = true then if ok a.b b.b = true then if ok a.c b.c = true then if ok a.d b.d = true then some ⟨o a.a b.a, o a.b b.b, o a.c b.c, o a.d b.d⟩ else none else none else none else none
def vecR : Option Vec → PV
  | some v => .tuple [vecP v, .nili]
  | none => .tuple [vecP vec0, codeE 8]
theorem sub1_ok {T : Tab} (h : Std T 259 f259) (x y : Int) : Gives T 259 [.int .u64 x, .int .u64 y] (.tuple [.int .u64 (IntKind.u64.wrap (x - y)), .bool (decide (y ≤ x))]) := by
  refine gives h rfl ?_
  simp only [f259, runL, defL, binV, Nat.reduceEqDiff, Nat.reduceAdd, reduceCtorEq, Int.reduceToNat, Nat.reduceMul, Nat.reduceLT, Int.reduceNeg, Int.reduceLE, Int.reduceLT, Int.reduceEq, Nat.reduceLeDiff, List.drop, List.take, lenV, funV]
set_option maxRecDepth 100000 in
set_option maxHeartbeats 4000000 in
theorem each_ok {T : Tab} (h : Std T 261 f261) {n : Nat} (o : Int → Int → Int) (ok : Int → Int → Bool) (a b : Vec) (ha : Gives T n [.int .u64 a.a, .int .u64 b.a] (.tuple [.int .u64 (o a.a b.a), .bool (ok a.a b.a)]))
    (hb : Gives T n [.int .u64 a.b, .int .u64 b.b] (.tuple [.int .u64 (o a.b b.b), .bool (ok a.b b.b)])) (hc : Gives T n [.int .u64 a.c, .int .u64 b.c] (.tuple [.int .u64 (o a.c b.c), .bool (ok a.c b.c)]))
    (hd : Gives T n [.int .u64 a.d, .int .u64 b.d] (.tuple [.int .u64 (o a.d b.d), .bool (ok a.d b.d)])) : Gives T 261 [vecP a, vecP b, .func n [] []] (vecR (eachV o ok a b)) := by
  refine gives h rfl ?_
  have w0 : IntKind.i64.wrap (0 + 1) = 1 := by decide
  have w1 : IntKind.i64.wrap (1 + 1) = 2 := by decide
  have w2 : IntKind.i64.wrap (2 + 1) = 3 := by decide
  have w3 : IntKind.i64.wrap (3 + 1) = 4 := by decide
  simp only [f261, runL, defL, binV, Nat.reduceEqDiff, Nat.reduceAdd, reduceCtorEq, Int.reduceToNat, Nat.reduceMul, Nat.reduceLT, Int.reduceNeg, Int.reduceLE, Int.reduceLT, Int.reduceEq, Nat.reduceLeDiff, List.drop, List.take, lenV, funV, vecP, vecC]
  rw [Wp_loop, Wp_eq f261l0.eq_1]
  simp only [runL, defL, binV, Nat.reduceEqDiff, Nat.reduceAdd, reduceCtorEq, Int.reduceToNat, Nat.reduceMul, Nat.reduceLT, Int.reduceNeg, Int.reduceLE, Int.reduceLT, Int.reduceEq, Nat.reduceLeDiff, List.drop, List.take, lenV, funV]
  refine (Wp_calm rfl).2 ?_
  cases e1 : ok a.a b.a
  · simp only [runL, defL, binV, Nat.reduceEqDiff, Nat.reduceAdd, reduceCtorEq, Int.reduceToNat, Nat.reduceMul, Nat.reduceLT, Int.reduceNeg, Int.reduceLE, Int.reduceLT, Int.reduceEq, Nat.reduceLeDiff, List.drop, List.take, lenV, funV, ha.callD, e1, eachV, vecR, vecP, vecC, vec0, codeE]
  · simp only [runL, defL, binV, Nat.reduceEqDiff, Nat.reduceAdd, reduceCtorEq, Int.reduceToNat, Nat.reduceMul, Nat.reduceLT, Int.reduceNeg, Int.reduceLE, Int.reduceLT, Int.reduceEq, Nat.reduceLeDiff, List.drop, List.take, lenV, funV, ha.callD, e1, w0]
    rw [Wp_loop, Wp_eq f261l0.eq_1]
    simp only [runL, defL, binV, Nat.reduceEqDiff, Nat.reduceAdd, reduceCtorEq, Int.reduceToNat, Nat.reduceMul, Nat.reduceLT, Int.reduceNeg, Int.reduceLE, Int.reduceLT, Int.reduceEq, Nat.reduceLeDiff, List.drop, List.take, lenV, funV]
    refine (Wp_calm rfl).2 ?_
    cases e2 : ok a.b b.b
    · simp only [runL, defL, binV, Nat.reduceEqDiff, Nat.reduceAdd, reduceCtorEq, Int.reduceToNat, Nat.reduceMul, Nat.reduceLT, Int.reduceNeg, Int.reduceLE, Int.reduceLT, Int.reduceEq, Nat.reduceLeDiff, List.drop, List.take, lenV, funV, hb.callD, e1, e2, eachV, vecR, vecP, vecC, vec0, codeE]
    · simp only [runL, defL, binV, Nat.reduceEqDiff, Nat.reduceAdd, reduceCtorEq, Int.reduceToNat, Nat.reduceMul, Nat.reduceLT, Int.reduceNeg, Int.reduceLE, Int.reduceLT, Int.reduceEq, Nat.reduceLeDiff, List.drop, List.take, lenV, funV, hb.callD, e2, w1]
      rw [Wp_loop, Wp_eq f261l0.eq_1]
      simp only [runL, defL, binV, Nat.reduceEqDiff, Nat.reduceAdd, reduceCtorEq, Int.reduceToNat, Nat.reduceMul, Nat.reduceLT, Int.reduceNeg, Int.reduceLE, Int.reduceLT, Int.reduceEq, Nat.reduceLeDiff, List.drop, List.take, lenV, funV]
      refine (Wp_calm rfl).2 ?_
      cases e3 : ok a.c b.c
      · simp only [runL, defL, binV, Nat.reduceEqDiff, Nat.reduceAdd, reduceCtorEq, Int.reduceToNat, Nat.reduceMul, Nat.reduceLT, Int.reduceNeg, Int.reduceLE, Int.reduceLT, Int.reduceEq, Nat.reduceLeDiff, List.drop, List.take, lenV, funV, hc.callD, e1, e2, e3, eachV, vecR, vecP, vecC, vec0, codeE]
      · simp only [runL, defL, binV, Nat.reduceEqDiff, Nat.reduceAdd, reduceCtorEq, Int.reduceToNat, Nat.reduceMul, Nat.reduceLT, Int.reduceNeg, Int.reduceLE, Int.reduceLT, Int.reduceEq, Nat.reduceLeDiff, List.drop, List.take, lenV, funV, hc.callD, e3, w2]
        rw [Wp_loop, Wp_eq f261l0.eq_1]
        simp only [runL, defL, binV, Nat.reduceEqDiff, Nat.reduceAdd, reduceCtorEq, Int.reduceToNat, Nat.reduceMul, Nat.reduceLT, Int.reduceNeg, Int.reduceLE, Int.reduceLT, Int.reduceEq, Nat.reduceLeDiff, List.drop, List.take, lenV, funV]
        refine (Wp_calm rfl).2 ?_
        cases e4 : ok a.d b.d
        · simp only [runL, defL, binV, Nat.reduceEqDiff, Nat.reduceAdd, reduceCtorEq, Int.reduceToNat, Nat.reduceMul, Nat.reduceLT, Int.reduceNeg, Int.reduceLE, Int.reduceLT, Int.reduceEq, Nat.reduceLeDiff, List.drop, List.take, lenV, funV, hd.callD, e1, e2, e3, e4, eachV, vecR, vecP, vecC, vec0, codeE]
        · simp only [runL, defL, binV, Nat.reduceEqDiff, Nat.reduceAdd, reduceCtorEq, Int.reduceToNat, Nat.reduceMul, Nat.reduceLT, Int.reduceNeg, Int.reduceLE, Int.reduceLT, Int.reduceEq, Nat.reduceLeDiff, List.drop, List.take, lenV, funV, hd.callD, e4, w3]
          rw [Wp_loop, Wp_eq f261l0.eq_1]
          simp only [runL, defL, binV, Nat.reduceEqDiff, Nat.reduceAdd, reduceCtorEq, Int.reduceToNat, Nat.reduceMul, Nat.reduceLT, Int.reduceNeg, Int.reduceLE, Int.reduceLT, Int.reduceEq, Nat.reduceLeDiff, List.drop, List.take, lenV, funV, e1, e2, e3, e4, eachV, vecR, vecP, vecC, vec0, codeE]
theorem wrapU {n : Int} (h1 : 0 ≤ n) (h2 : n < 18446744073709551616) : IntKind.u64.wrap n = n := by
  simp only [IntKind.wrap, IntKind.bits, IntKind.signed]
  simp
  omega
/-! ### The document's sums -/
def halfN (a : Int) (up : Bool) : Int := cond up (a / 4294967296) (a % 4294967296)
theorem half_ok {T : Tab} (h : Std T 144 f144) (a : Int) (up : Bool) (ha : inU a) : Gives T 144 [.int .u64 a, .bool up] (.int .u64 (halfN a up)) := by
  refine gives h rfl ?_
  obtain ⟨h1, h2⟩ := ha
  have e1 : a.tdiv (Int.ofNat 4294967296) = a / 4294967296 := Int.tdiv_eq_ediv_of_nonneg h1
  have e2 : a.tmod (Int.ofNat 4294967296) = a % 4294967296 := Int.tmod_eq_emod_of_nonneg h1
  have e3 : IntKind.u64.wrap (a / 4294967296) = a / 4294967296 := wrapU (by omega) (by omega)
  cases up
  · simp only [f144, runL, defL, binV, Nat.reduceEqDiff, Nat.reduceAdd, reduceCtorEq, Int.reduceToNat, Nat.reduceMul, Nat.reduceLT, Int.reduceNeg, Int.reduceLE, Int.reduceLT, Int.reduceEq, Nat.reduceLeDiff, List.drop, List.take, lenV, funV, e1, e2, e3, halfN]
  · simp only [f144, runL, defL, binV, Nat.reduceEqDiff, Nat.reduceAdd, reduceCtorEq, Int.reduceToNat, Nat.reduceMul, Nat.reduceLT, Int.reduceNeg, Int.reduceLE, Int.reduceLT, Int.reduceEq, Nat.reduceLeDiff, List.drop, List.take, lenV, funV, e1, e2, e3, halfN]
def sumOk (a b : Int) : Bool := decide (a + b < 18446744073709551616)
def sumN (a b : Int) : Int := cond (sumOk a b) (a + b) 0
theorem one_ok {T : Tab} (h145 : Std T 145 f145) (h144 : Std T 144 f144) (a b : Int) (ha : inU a) (hb : inU b) : Gives T 145 [.int .u64 a, .int .u64 b] (.tuple [.int .u64 (sumN a b), .bool (sumOk a b)]) := by
  refine gives h145 rfl ?_
  have k1 := half_ok h144 a false ha
  have k2 := half_ok h144 b false hb
  have k3 := half_ok h144 a true ha
  have k4 := half_ok h144 b true hb
  obtain ⟨a1, a2⟩ := ha
  obtain ⟨b1, b2⟩ := hb
  simp only [halfN, cond_true, cond_false] at k1 k2 k3 k4
  have e1 : IntKind.u64.wrap (a % 4294967296 + b % 4294967296) = a % 4294967296 + b % 4294967296 := wrapU (by omega) (by omega)
  have e2 : IntKind.u64.wrap (a / 4294967296 + b / 4294967296) = a / 4294967296 + b / 4294967296 := wrapU (by omega) (by omega)
  have e3 : (a % 4294967296 + b % 4294967296).tdiv (Int.ofNat 4294967296) = (a % 4294967296 + b % 4294967296) / 4294967296 := Int.tdiv_eq_ediv_of_nonneg (by omega)
  have e4 : IntKind.u64.wrap ((a % 4294967296 + b % 4294967296) / 4294967296) = (a % 4294967296 + b % 4294967296) / 4294967296 := wrapU (by omega) (by omega)
  have e5 : IntKind.u64.wrap (a / 4294967296 + b / 4294967296 + (a % 4294967296 + b % 4294967296) / 4294967296) = (a + b) / 4294967296 := by
    rw [wrapU (by omega) (by omega)]; omega
  have e6 : (a % 4294967296 + b % 4294967296).tmod (Int.ofNat 4294967296) = (a + b) % 4294967296 := by
    rw [Int.tmod_eq_emod_of_nonneg (by omega)]
    show (a % 4294967296 + b % 4294967296) % 4294967296 = _
    omega
  by_cases c : 4294967296 ≤ (a + b) / 4294967296
  · have hs : sumOk a b = false := by simp only [sumOk, decide_eq_false_iff_not]; omega
    simp only [f145, runL, defL, binV, Nat.reduceEqDiff, Nat.reduceAdd, reduceCtorEq, Int.reduceToNat, Nat.reduceMul, Nat.reduceLT, Int.reduceNeg, Int.reduceLE, Int.reduceLT, Int.reduceEq, Nat.reduceLeDiff, List.drop, List.take, lenV, funV, k1.call, k2.call, k3.call, k4.call, e1, e2, e3, e4, e5, c, sumN, hs]
  · have hs : sumOk a b = true := by simp only [sumOk, decide_eq_true_eq]; omega
    have e7 : IntKind.u64.wrap ((a + b) / 4294967296 * 4294967296) = (a + b) / 4294967296 * 4294967296 := wrapU (by omega) (by omega)
    have e8 : IntKind.u64.wrap ((a + b) / 4294967296 * 4294967296 + (a + b) % 4294967296) = a + b := by
      rw [wrapU (by omega) (by omega)]; omega
    simp only [f145, runL, defL, binV, Nat.reduceEqDiff, Nat.reduceAdd, reduceCtorEq, Int.reduceToNat, Nat.reduceMul, Nat.reduceLT, Int.reduceNeg, Int.reduceLE, Int.reduceLT, Int.reduceEq, Nat.reduceLeDiff, List.drop, List.take, lenV, funV, k1.call, k2.call, k3.call, k4.call, e1, e2, e3, e4, e5, e6, e7, e8, c, sumN, hs]
def addV (a b : Vec) : Option Vec := eachV sumN sumOk a b
def vecB : Option Vec → PV
  | some v => .tuple [vecP v, .bool true]
  | none => .tuple [vecP vec0, .bool false]
set_option maxRecDepth 100000 in
set_option maxHeartbeats 4000000 in
theorem add1r_ok {T : Tab} (h140 : Std T 140 f140) (h145 : Std T 145 f145) (h144 : Std T 144 f144) (a b : Vec) (ha : a.wf) (hb : b.wf) : Gives T 140 [vecP a, vecP b] (vecB (addV a b)) := by
  refine gives h140 rfl ?_
  obtain ⟨x1, x2, x3, x4⟩ := ha
  obtain ⟨y1, y2, y3, y4⟩ := hb
  have ka := one_ok h145 h144 a.a b.a x1 y1
  have kb := one_ok h145 h144 a.b b.b x2 y2
  have kc := one_ok h145 h144 a.c b.c x3 y3
  have kd := one_ok h145 h144 a.d b.d x4 y4
  have w0 : IntKind.i64.wrap (0 + 1) = 1 := by decide
  have w1 : IntKind.i64.wrap (1 + 1) = 2 := by decide
  have w2 : IntKind.i64.wrap (2 + 1) = 3 := by decide
  have w3 : IntKind.i64.wrap (3 + 1) = 4 := by decide
  simp only [f140, runL, defL, binV, Nat.reduceEqDiff, Nat.reduceAdd, reduceCtorEq, Int.reduceToNat, Nat.reduceMul, Nat.reduceLT, Int.reduceNeg, Int.reduceLE, Int.reduceLT, Int.reduceEq, Nat.reduceLeDiff, List.drop, List.take, lenV, funV, vecP, vecC]
  rw [Wp_loop, Wp_eq f140l0.eq_1]
  simp only [runL, defL, binV, Nat.reduceEqDiff, Nat.reduceAdd, reduceCtorEq, Int.reduceToNat, Nat.reduceMul, Nat.reduceLT, Int.reduceNeg, Int.reduceLE, Int.reduceLT, Int.reduceEq, Nat.reduceLeDiff, List.drop, List.take, lenV, funV]
  refine (Wp_calm rfl).2 ?_
  cases e1 : sumOk a.a b.a
  · simp only [runL, defL, binV, Nat.reduceEqDiff, Nat.reduceAdd, reduceCtorEq, Int.reduceToNat, Nat.reduceMul, Nat.reduceLT, Int.reduceNeg, Int.reduceLE, Int.reduceLT, Int.reduceEq, Nat.reduceLeDiff, List.drop, List.take, lenV, funV, ka.callD, e1, addV, eachV, vecB, vecP, vecC, vec0]
  · simp only [runL, defL, binV, Nat.reduceEqDiff, Nat.reduceAdd, reduceCtorEq, Int.reduceToNat, Nat.reduceMul, Nat.reduceLT, Int.reduceNeg, Int.reduceLE, Int.reduceLT, Int.reduceEq, Nat.reduceLeDiff, List.drop, List.take, lenV, funV, ka.callD, e1, w0]
    rw [Wp_loop, Wp_eq f140l0.eq_1]
    simp only [runL, defL, binV, Nat.reduceEqDiff, Nat.reduceAdd, reduceCtorEq, Int.reduceToNat, Nat.reduceMul, Nat.reduceLT, Int.reduceNeg, Int.reduceLE, Int.reduceLT, Int.reduceEq, Nat.reduceLeDiff, List.drop, List.take, lenV, funV]
    refine (Wp_calm rfl).2 ?_
    cases e2 : sumOk a.b b.b
    · simp only [runL, defL, binV, Nat.reduceEqDiff, Nat.reduceAdd, reduceCtorEq, Int.reduceToNat, Nat.reduceMul, Nat.reduceLT, Int.reduceNeg, Int.reduceLE, Int.reduceLT, Int.reduceEq, Nat.reduceLeDiff, List.drop, List.take, lenV, funV, kb.callD, e1, e2, addV, eachV, vecB, vecP, vecC, vec0]
    · simp only [runL, defL, binV, Nat.reduceEqDiff, Nat.reduceAdd, reduceCtorEq, Int.reduceToNat, Nat.reduceMul, Nat.reduceLT, Int.reduceNeg, Int.reduceLE, Int.reduceLT, Int.reduceEq, Nat.reduceLeDiff, List.drop, List.take, lenV, funV, kb.callD, e2, w1]
      rw [Wp_loop, Wp_eq f140l0.eq_1]
      simp only [runL, defL, binV, Nat.reduceEqDiff, Nat.reduceAdd, reduceCtorEq, Int.reduceToNat, Nat.reduceMul, Nat.reduceLT, Int.reduceNeg, Int.reduceLE, Int.reduceLT, Int.reduceEq, Nat.reduceLeDiff, List.drop, List.take, lenV, funV]
      refine (Wp_calm rfl).2 ?_
      cases e3 : sumOk a.c b.c
      · simp only [runL, defL, binV, Nat.reduceEqDiff, Nat.reduceAdd, reduceCtorEq, Int.reduceToNat, Nat.reduceMul, Nat.reduceLT, Int.reduceNeg, Int.reduceLE, Int.reduceLT, Int.reduceEq, Nat.reduceLeDiff, List.drop, List.take, lenV, funV, kc.callD, e1, e2, e3, addV, eachV, vecB, vecP, vecC, vec0]
      · simp only [runL, defL, binV, Nat.reduceEqDiff, Nat.reduceAdd, reduceCtorEq, Int.reduceToNat, Nat.reduceMul, Nat.reduceLT, Int.reduceNeg, Int.reduceLE, Int.reduceLT, Int.reduceEq, Nat.reduceLeDiff, List.drop, List.take, lenV, funV, kc.callD, e3, w2]
        rw [Wp_loop, Wp_eq f140l0.eq_1]
        simp only [runL, defL, binV, Nat.reduceEqDiff, Nat.reduceAdd, reduceCtorEq, Int.reduceToNat, Nat.reduceMul, Nat.reduceLT, Int.reduceNeg, Int.reduceLE, Int.reduceLT, Int.reduceEq, Nat.reduceLeDiff, List.drop, List.take, lenV, funV]
        refine (Wp_calm rfl).2 ?_
        cases e4 : sumOk a.d b.d
        · simp only [runL, defL, binV, Nat.reduceEqDiff, Nat.reduceAdd, reduceCtorEq, Int.reduceToNat, Nat.reduceMul, Nat.reduceLT, Int.reduceNeg, Int.reduceLE, Int.reduceLT, Int.reduceEq, Nat.reduceLeDiff, List.drop, List.take, lenV, funV, kd.callD, e1, e2, e3, e4, addV, eachV, vecB, vecP, vecC, vec0]
        · simp only [runL, defL, binV, Nat.reduceEqDiff, Nat.reduceAdd, reduceCtorEq, Int.reduceToNat, Nat.reduceMul, Nat.reduceLT, Int.reduceNeg, Int.reduceLE, Int.reduceLT, Int.reduceEq, Nat.reduceLeDiff, List.drop, List.take, lenV, funV, kd.callD, e4, w3]
          rw [Wp_loop, Wp_eq f140l0.eq_1]
          simp only [runL, defL, binV, Nat.reduceEqDiff, Nat.reduceAdd, reduceCtorEq, Int.reduceToNat, Nat.reduceMul, Nat.reduceLT, Int.reduceNeg, Int.reduceLE, Int.reduceLT, Int.reduceEq, Nat.reduceLeDiff, List.drop, List.take, lenV, funV, e1, e2, e3, e4, addV, eachV, vecB, vecP, vecC, vec0]
def fitsB (a b : Vec) : Bool := decide (a.a ≤ b.a) && (decide (a.b ≤ b.b) && (decide (a.c ≤ b.c) && decide (a.d ≤ b.d)))
theorem fits_ok {T : Tab} (h141 : Std T 141 f141) (a b : Vec) : Gives T 141 [vecP a, vecP b] (.bool (fitsB a b)) := by
  refine gives h141 rfl ?_
  unfold fitsB
  by_cases c1 : a.a ≤ b.a
  · by_cases c2 : a.b ≤ b.b
    · by_cases c3 : a.c ≤ b.c
      · by_cases c4 : a.d ≤ b.d
        · simp only [f141, runL, defL, binV, Nat.reduceEqDiff, Nat.reduceAdd, reduceCtorEq, Int.reduceToNat, Nat.reduceMul, Nat.reduceLT, Int.reduceNeg, Int.reduceLE, Int.reduceLT, Int.reduceEq, Nat.reduceLeDiff, List.drop, List.take, lenV, funV, vecP, vecC, c1, c2, c3, c4, Bool.and_true]
        · simp only [f141, runL, defL, binV, Nat.reduceEqDiff, Nat.reduceAdd, reduceCtorEq, Int.reduceToNat, Nat.reduceMul, Nat.reduceLT, Int.reduceNeg, Int.reduceLE, Int.reduceLT, Int.reduceEq, Nat.reduceLeDiff, List.drop, List.take, lenV, funV, vecP, vecC, c1, c2, c3, c4, Bool.and_true, Bool.and_false]
      · simp only [f141, runL, defL, binV, Nat.reduceEqDiff, Nat.reduceAdd, reduceCtorEq, Int.reduceToNat, Nat.reduceMul, Nat.reduceLT, Int.reduceNeg, Int.reduceLE, Int.reduceLT, Int.reduceEq, Nat.reduceLeDiff, List.drop, List.take, lenV, funV, vecP, vecC, c1, c2, c3, Bool.and_true, Bool.false_and, Bool.and_false]
    · simp only [f141, runL, defL, binV, Nat.reduceEqDiff, Nat.reduceAdd, reduceCtorEq, Int.reduceToNat, Nat.reduceMul, Nat.reduceLT, Int.reduceNeg, Int.reduceLE, Int.reduceLT, Int.reduceEq, Nat.reduceLeDiff, List.drop, List.take, lenV, funV, vecP, vecC, c1, c2, Bool.and_true, Bool.false_and, Bool.and_false]
  · simp only [f141, runL, defL, binV, Nat.reduceEqDiff, Nat.reduceAdd, reduceCtorEq, Int.reduceToNat, Nat.reduceMul, Nat.reduceLT, Int.reduceNeg, Int.reduceLE, Int.reduceLT, Int.reduceEq, Nat.reduceLeDiff, List.drop, List.take, lenV, funV, vecP, vecC, c1, Bool.false_and]
def diffN (x y : Int) : Int := IntKind.u64.wrap (x - y)
def leB (x y : Int) : Bool := decide (y ≤ x)
def subV' (a b : Vec) : Option Vec := eachV diffN leB a b
theorem subV_if (a b : Vec) : subV' a b = if fitsB b a = true then some ⟨diffN a.a b.a, diffN a.b b.b, diffN a.c b.c, diffN a.d b.d⟩ else none := by
  unfold subV' eachV leB fitsB
  by_cases c1 : b.a ≤ a.a <;> by_cases c2 : b.b ≤ a.b <;> by_cases c3 : b.c ≤ a.c <;> by_cases c4 : b.d ≤ a.d <;> simp [c1, c2, c3, c4]
theorem sub1r_ok {T : Tab} (h142 : Std T 142 f142) (h141 : Std T 141 f141) (a b : Vec) : Gives T 142 [vecP a, vecP b] (vecB (subV' a b)) := by
  refine gives h142 rfl ?_
  have k := fits_ok h141 b a
  simp only [vecP, vecC] at k
  rw [subV_if]
  cases hf : fitsB b a
  · rw [hf] at k
    simp only [f142, runL, defL, binV, Nat.reduceEqDiff, Nat.reduceAdd, reduceCtorEq, Int.reduceToNat, Nat.reduceMul, Nat.reduceLT, Int.reduceNeg, Int.reduceLE, Int.reduceLT, Int.reduceEq, Nat.reduceLeDiff, List.drop, List.take, lenV, funV, vecP, vecC, k.call, vecB, vec0]
  · rw [hf] at k
    simp only [f142, runL, defL, binV, Nat.reduceEqDiff, Nat.reduceAdd, reduceCtorEq, Int.reduceToNat, Nat.reduceMul, Nat.reduceLT, Int.reduceNeg, Int.reduceLE, Int.reduceLT, Int.reduceEq, Nat.reduceLeDiff, List.drop, List.take, lenV, funV, vecP, vecC, k.call, vecB, diffN]
/-! ### vec's own sums -/
theorem sub_ok {T : Tab} (h258 : Std T 258 f258) (h261 : Std T 261 f261) (h259 : Std T 259 f259) (a b : Vec) : Gives T 258 [vecP a, vecP b] (vecR (subV' a b)) := by
  refine gives h258 rfl ?_
  have k := each_ok h261 (n := 259) diffN leB a b (sub1_ok h259 _ _) (sub1_ok h259 _ _) (sub1_ok h259 _ _) (sub1_ok h259 _ _)
  simp only [vecP, vecC] at k
  have e : eachV diffN leB a b = subV' a b := rfl
  rw [e] at k
  cases ho : subV' a b with
  | none =>
    rw [ho] at k
    simp only [vecR, vecP, vecC, vec0, codeE] at k
    simp only [f258, runL, defL, binV, Nat.reduceEqDiff, Nat.reduceAdd, reduceCtorEq, Int.reduceToNat, Nat.reduceMul, Nat.reduceLT, Int.reduceNeg, Int.reduceLE, Int.reduceLT, Int.reduceEq, Nat.reduceLeDiff, List.drop, List.take, lenV, funV, vecP, vecC, k.call, vecR, vec0, codeE]
  | some v =>
    rw [ho] at k
    simp only [vecR, vecP, vecC] at k
    simp only [f258, runL, defL, binV, Nat.reduceEqDiff, Nat.reduceAdd, reduceCtorEq, Int.reduceToNat, Nat.reduceMul, Nat.reduceLT, Int.reduceNeg, Int.reduceLE, Int.reduceLT, Int.reduceEq, Nat.reduceLeDiff, List.drop, List.take, lenV, funV, vecP, vecC, k.call, vecR]
def add1P (args : List AV) (hp : Hl) (nx : Nat) : Option (AV × Hl × Nat) :=
  match args with
  | [.pv (.int .u64 x), .pv (.int .u64 y)] => if 0 ≤ x ∧ x ≤ 18446744073709551615 ∧ 0 ≤ y ∧ y ≤ 18446744073709551615 then some (.pv (.tuple [.int .u64 ((x + y) % 18446744073709551616), .bool (sumOk x y)]), hp, nx) else none
  | _ => none
theorem add1P_raw {E : Env} {n : Nat} (hent : Ent E n)
    (h1 : ∀ (x y : Nat) (w : World), Calls E.P (E.ρ n) #[.int .u64 (x : Int), .int .u64 (y : Int)] w fun e w' => e = .returned (.tuple #[.int .u64 (((x + y) % 18446744073709551616 : Nat) : Int), .bool (decide (((x + y) / 18446744073709551616 : Nat) = 0))]) ∧ w' = w)
    (args : List AV) (hp : Hl) (nx : Nat) (v : AV) (hp' : Hl) (nx' : Nat) (h : add1P args hp nx = some (v, hp', nx')) : RawC E n args hp nx v hp' nx' := by
  refine ⟨hent, fun X M F a w vs hX R hv => ?_⟩
  subst hX
  unfold add1P at h
  split at h
  · rename_i x y
    split at h
    · rename_i hc
      simp only [Option.some.injEq, Prod.mk.injEq] at h
      obtain ⟨rfl, rfl, rfl⟩ := h
      simp only [VAs, VA, VP] at hv
      obtain ⟨_, _, rfl, rfl, _, _, rfl, rfl, rfl⟩ := hv
      obtain ⟨m, rfl⟩ : ∃ m : Nat, x = m := ⟨x.toNat, by omega⟩
      obtain ⟨k, rfl⟩ : ∃ k : Nat, y = k := ⟨y.toNat, by omega⟩
      refine (h1 m k w).mono fun e w' hh => ?_
      obtain ⟨rfl, rfl⟩ := hh
      refine ⟨_, M, rfl, R, ?_⟩
      simp only [VA, VP, VPs]
      refine ⟨_, rfl, _, _, rfl, ?_, _, _, rfl, ?_, rfl⟩
      · rw [show (((m + k) % 18446744073709551616 : Nat) : Int) = ((m : Int) + (k : Int)) % 18446744073709551616 by omega]
      · have : (decide ((m + k) / 18446744073709551616 = 0)) = sumOk (m : Int) (k : Int) := by
          simp only [sumOk]
          rw [decide_eq_decide]
          omega
        rw [this]
    · simp at h
  · simp at h
theorem add1_ok {T : Tab} {n : Nat} (S : StdP T n add1P) (x y : Int) (hx : inU x) (hy : inU y) : Gives T n [.int .u64 x, .int .u64 y] (.tuple [.int .u64 ((x + y) % 18446744073709551616), .bool (sumOk x y)]) := by
  refine ⟨S.raw, S.own, none, ?_⟩
  have : add1P (pvs [.int .u64 x, .int .u64 y]) [] 0 = some (.pv (.tuple [.int .u64 ((x + y) % 18446744073709551616), .bool (sumOk x y)]), [], 0) := by
    simp only [pvs, add1P]
    rw [if_pos ⟨hx.1, hx.2, hy.1, hy.2⟩]
  unfold callP
  rw [D_prim S.prim this]
  simp only [snapV, snapR, ownSz]
def modN (x y : Int) : Int := (x + y) % 18446744073709551616
theorem addV_mod (a b : Vec) (ha : a.wf) (hb : b.wf) : eachV modN sumOk a b = addV a b := by
  obtain ⟨⟨p1, _⟩, ⟨p2, _⟩, ⟨p3, _⟩, ⟨p4, _⟩⟩ := ha
  obtain ⟨⟨q1, _⟩, ⟨q2, _⟩, ⟨q3, _⟩, ⟨q4, _⟩⟩ := hb
  have key : ∀ x y : Int, 0 ≤ x → 0 ≤ y → sumOk x y = true → modN x y = sumN x y := by
    intro x y h1 h2 h3
    simp only [sumN, h3, cond_true, modN]
    simp only [sumOk, decide_eq_true_eq] at h3
    omega
  unfold addV eachV
  cases c1 : sumOk a.a b.a
  · simp
  · cases c2 : sumOk a.b b.b
    · simp
    · cases c3 : sumOk a.c b.c
      · simp
      · cases c4 : sumOk a.d b.d
        · simp
        · simp only [if_true, key _ _ p1 q1 c1, key _ _ p2 q2 c2, key _ _ p3 q3 c3, key _ _ p4 q4 c4]
theorem add_ok {T : Tab} (h255 : Std T 255 f255) (h261 : Std T 261 f261) (S : StdP T 256 add1P) (a b : Vec) (ha : a.wf) (hb : b.wf) : Gives T 255 [vecP a, vecP b] (vecR (addV a b)) := by
  refine gives h255 rfl ?_
  have hA := ha
  have hB := hb
  obtain ⟨x1, x2, x3, x4⟩ := ha
  obtain ⟨y1, y2, y3, y4⟩ := hb
  have k := each_ok h261 (n := 256) modN sumOk a b (add1_ok S _ _ x1 y1) (add1_ok S _ _ x2 y2) (add1_ok S _ _ x3 y3) (add1_ok S _ _ x4 y4)
  simp only [vecP, vecC] at k
  rw [addV_mod a b hA hB] at k
  cases ho : addV a b with
  | none =>
    rw [ho] at k
    simp only [vecR, vecP, vecC, vec0, codeE] at k
    simp only [f255, runL, defL, binV, Nat.reduceEqDiff, Nat.reduceAdd, reduceCtorEq, Int.reduceToNat, Nat.reduceMul, Nat.reduceLT, Int.reduceNeg, Int.reduceLE, Int.reduceLT, Int.reduceEq, Nat.reduceLeDiff, List.drop, List.take, lenV, funV, vecP, vecC, k.call, vecR, vec0, codeE]
  | some v =>
    rw [ho] at k
    simp only [vecR, vecP, vecC] at k
    simp only [f255, runL, defL, binV, Nat.reduceEqDiff, Nat.reduceAdd, reduceCtorEq, Int.reduceToNat, Nat.reduceMul, Nat.reduceLT, Int.reduceNeg, Int.reduceLE, Int.reduceLT, Int.reduceEq, Nat.reduceLeDiff, List.drop, List.take, lenV, funV, vecP, vecC, k.call, vecR]
end Go.Proofs.YtjmggjlfamjdbaaGreatDoor.Ab
set_option linter.unusedVariables false
set_option linter.unusedSimpArgs false
namespace Go.Proofs.YtjmggjlfamjdbaaGreatDoor.Ab
open Go
theorem addV_wf {a b v : Vec} (ha : a.wf) (hb : b.wf) (h : addV a b = some v) : v.wf := by
  obtain ⟨⟨p1, _⟩, ⟨p2, _⟩, ⟨p3, _⟩, ⟨p4, _⟩⟩ := ha
  obtain ⟨⟨q1, _⟩, ⟨q2, _⟩, ⟨q3, _⟩, ⟨q4, _⟩⟩ := hb
  have key : ∀ x y : Int, 0 ≤ x → 0 ≤ y → inU (sumN x y) := by
    intro x y h1 h2
    unfold sumN
    cases hs : sumOk x y
    · exact ⟨by simp, by simp⟩
    · simp only [sumOk, decide_eq_true_eq] at hs
      simp only [cond_true]
      exact ⟨by omega, by omega⟩
  unfold addV eachV at h
  split at h
  · split at h
    · split at h
      · split at h
        · simp only [Option.some.injEq] at h
          subst h
          exact ⟨key _ _ p1 q1, key _ _ p2 q2, key _ _ p3 q3, key _ _ p4 q4⟩
        · simp at h
      · simp at h
    · simp at h
  · simp at h
def sumFrom (acc : Vec) : List Vec → Option Vec
  | [] => some acc
  | v :: r => match addV acc v with
    | some n => sumFrom n r
    | none => none
structure StdV (T : Tab) : Prop where
  h255 : Std T 255 f255
  h261 : Std T 261 f261
  h256 : StdP T 256 add1P
  h260 : Std T 260 f260
theorem sum_loop {T : Tab} (S : StdV T) (l : List Vec) (hl : l.length ≤ 2 ^ 30) (hwf : ∀ v ∈ l, v.wf) (Q : Exit → St → Prop) (o : Option Vec)
    (hend : ∀ v, o = some v → ∀ fr hp nx, look fr 2 = .ptr 0 0 0 → look fr 4 = .ptr 1 0 0 → blkAt hp 0 = .var (pvs (vecC vec0)) → blkAt hp 1 = .var (pvs (vecC v)) → Q (.exit 0) ⟨fr, hp, nx⟩)
    (hret : o = none → ∀ fr hp nx, look fr 2 = .ptr 0 0 0 → look fr 3 = .pv (codeE 8) → blkAt hp 0 = .var (pvs (vecC vec0)) → Q .ret ⟨fr, hp, nx⟩) :
    ∀ (rest : List Vec) (i : Nat) (acc : Vec), l.drop i = rest → i ≤ l.length → acc.wf → sumFrom acc rest = o → ∀ (fr : List (Nat × AV)) (hp : Hl) (nx : Nat), 2 ≤ nx → look fr 2 = .ptr 0 0 0 → look fr 4 = .ptr 1 0 0 →
      blkAt hp 0 = .var (pvs (vecC vec0)) → blkAt hp 1 = .var (pvs (vecC acc)) → look fr 9 = .pv (.slice (l.map vecC)) → look fr 10 = .pv (.int .i64 l.length) → look fr 11 = .pv (.int .i64 i) → Wp T false (.loop f260l0) ⟨fr, hp, nx⟩ Q := by
  intro rest
  induction rest with
  | nil =>
    intro i acc hd hi ha ho fr hp nx hn h2 h4 b0 b1 h9 h10 h11
    have hlen := drop_nil hd hi
    rw [Wp_loop, Wp_eq f260l0.eq_1]
    simp only [runL, defL, binV, simprocAttr, List.drop, List.take, lenV, funV, h9, h10, h11, hlen, Int.lt_irrefl]
    refine hend acc ho.symm _ _ _ ?_ ?_ b0 b1
    all_goals simp only [look_if, Nat.reduceEqDiff, if_false, h2, h4]
  | cons v r ih =>
    intro i acc hd hi ha ho fr hp nx hn h2 h4 b0 b1 h9 h10 h11
    obtain ⟨hget, hlt, hw, hd', hi', hb⟩ := drop_cons hd hl
    have n0 : ¬ nx = 0 := by omega
    have n1 : ¬ nx = 1 := by omega
    have hv : v.wf := hwf v (List.mem_iff_getElem?.2 ⟨i, hget⟩)
    have k := add_ok S.h255 S.h261 S.h256 acc v ha hv
    have b0' := b0
    have b1' := b1
    simp only [vecC, vec0, pvs] at b0' b1'
    simp only [vecP, vecC] at k
    simp only [sumFrom] at ho
    rw [Wp_loop, Wp_eq f260l0.eq_1]
    cases hs : addV acc v with
    | none =>
      rw [hs] at k ho
      simp only [vecR, vecP, vecC, vec0, codeE] at k
      simp only [runL, defL, binV, simprocAttr, List.drop, List.take, lenV, funV, h2, h4, b0', b1', h9, h10, h11, hlt, hget, vecC, n0, n1, k.call]
      refine hret ho.symm _ _ _ ?_ ?_ ?_
      all_goals simp only [look_if, blkAt_if, Nat.reduceEqDiff, if_true, if_false, h2, codeE, vecC, vec0, pvs]
    | some n =>
      rw [hs] at k ho
      simp only [vecR, vecP, vecC] at k
      simp only [runL, defL, binV, simprocAttr, List.drop, List.take, lenV, funV, h2, h4, b0', b1', h9, h10, h11, hlt, hget, vecC, n0, n1, k.call, hw]
      refine ih (i + 1) n hd' hi' (addV_wf ha hv hs) ho _ _ _ (by omega) ?_ ?_ ?_ ?_ ?_ ?_ ?_
      all_goals simp only [look_if, blkAt_if, Nat.reduceEqDiff, if_true, if_false, h2, h4, b0, n0, n1, h9, h10, vecC, pvs]
theorem vec0_wf : vec0.wf := by
  refine ⟨⟨?_, ?_⟩, ⟨?_, ?_⟩, ⟨?_, ?_⟩, ⟨?_, ?_⟩⟩ <;> decide
theorem sum_ok {T : Tab} (S : StdV T) (l : List Vec) (hl : l.length ≤ 2 ^ 30) (hwf : ∀ v ∈ l, v.wf) : Gives T 260 [.slice (l.map vecC)] (vecR (sumFrom vec0 l)) := by
  refine gives S.h260 rfl ?_
  simp only [f260, runL, defL, binV, simprocAttr, List.drop, List.take, lenV, funV]
  refine sum_loop S l hl hwf _ (sumFrom vec0 l) (fun v ho fr hp nx g2 g4 c0 c1 => ?_) (fun ho fr hp nx g2 g3 c0 => ?_) l 0 vec0 rfl (Nat.zero_le _) vec0_wf rfl _ _ _ (Nat.le_refl _) rfl rfl rfl rfl rfl rfl rfl
  · simp only [vecC, vec0, pvs] at c0 c1
    simp only [ho]
    simp only [runL, defL, binV, simprocAttr, List.drop, List.take, lenV, funV, vecR, g2, g4, c0, c1, vecP, vecC]
  · simp only [vecC, vec0, pvs] at c0
    simp only [ho]
    simp only [runL, defL, binV, simprocAttr, List.drop, List.take, lenV, funV, vecR, g2, g3, c0, vecP, vecC, vec0]
theorem sumr_loop {T : Tab} (h140 : Std T 140 f140) (h145 : Std T 145 f145) (h144 : Std T 144 f144) (l : List Vec) (hl : l.length ≤ 2 ^ 30) (hwf : ∀ v ∈ l, v.wf) (Q : Exit → St → Prop) (o : Option Vec)
    (hend : ∀ fr hp nx, look fr 2 = .ptr 0 0 0 → look fr 4 = .ptr 1 0 0 → look fr 5 = .pv (.bool o.isSome) → blkAt hp 0 = .var (pvs (vecC vec0)) → blkAt hp 1 = .var (pvs (vecC (o.getD vec0))) → Q (.exit 0) ⟨fr, hp, nx⟩) :
    ∀ (rest : List Vec) (i : Nat) (acc : Vec), l.drop i = rest → i ≤ l.length → acc.wf → sumFrom acc rest = o → ∀ (fr : List (Nat × AV)) (hp : Hl) (nx : Nat), look fr 0 = .pv (.slice (l.map vecC)) → look fr 2 = .ptr 0 0 0 → look fr 4 = .ptr 1 0 0 → look fr 5 = .pv (.bool true) →
      blkAt hp 0 = .var (pvs (vecC vec0)) → blkAt hp 1 = .var (pvs (vecC acc)) → look fr 6 = .pv (.int .i64 i) → Wp T false (.loop f143l0) ⟨fr, hp, nx⟩ Q := by
  intro rest
  induction rest with
  | nil =>
    intro i acc hd hi ha ho fr hp nx h0 h2 h4 h5 b0 b1 h6
    have hlen := drop_nil hd hi
    simp only [sumFrom] at ho
    subst ho
    rw [Wp_loop, Wp_eq f143l0.eq_1]
    simp only [runL, defL, binV, simprocAttr, List.drop, List.take, lenV, funV, h0, h5, h6, hlen, Int.lt_irrefl]
    refine hend _ _ _ ?_ ?_ ?_ b0 b1
    all_goals simp only [look_if, Nat.reduceEqDiff, if_false, h2, h4, h5, Option.isSome_some]
  | cons v r ih =>
    intro i acc hd hi ha ho fr hp nx h0 h2 h4 h5 b0 b1 h6
    obtain ⟨hget, hlt, hw, hd', hi', hb⟩ := drop_cons hd hl
    have hv : v.wf := hwf v (List.mem_iff_getElem?.2 ⟨i, hget⟩)
    have k := add1r_ok h140 h145 h144 acc v ha hv
    have b0' := b0
    have b1' := b1
    simp only [vecC, vec0, pvs] at b0' b1'
    simp only [vecP, vecC] at k
    simp only [sumFrom] at ho
    rw [Wp_loop, Wp_eq f143l0.eq_1]
    simp only [runL, defL, binV, simprocAttr, List.drop, List.take, lenV, funV, h0, h5, h6, hlt]
    refine (Wp_calm rfl).2 ?_
    cases hs : addV acc v with
    | none =>
      rw [hs] at k ho
      simp only [vecB, vecP, vecC, vec0] at k
      subst ho
      have hz : l.length = i + 1 ∨ ((i + 1 : Nat) : Int) < (l.length : Int) := by omega
      simp only [runL, defL, binV, simprocAttr, List.drop, List.take, lenV, funV, h0, h2, h4, h5, b0', b1', h6, hget, vecC, k.callD, hw]
      rw [Wp_loop, Wp_eq f143l0.eq_1]
      rcases hz with hz | hz
      · have hz' : ¬ ((i + 1 : Nat) : Int) < (l.length : Int) := by omega
        simp only [runL, defL, binV, simprocAttr, List.drop, List.take, lenV, funV, h0, hz']
        refine hend _ _ _ ?_ ?_ ?_ ?_ ?_
        all_goals simp only [look_if, blkAt_if, Nat.reduceEqDiff, if_true, if_false, h2, h4, b0, Option.isSome_none, Option.getD_none, vecC, vec0, pvs]
      · simp only [runL, defL, binV, simprocAttr, List.drop, List.take, lenV, funV, h0, hz]
        refine hend _ _ _ ?_ ?_ ?_ ?_ ?_
        all_goals simp only [look_if, blkAt_if, Nat.reduceEqDiff, if_true, if_false, h2, h4, b0, Option.isSome_none, Option.getD_none, vecC, vec0, pvs]
    | some n =>
      rw [hs] at k ho
      simp only [vecB, vecP, vecC] at k
      simp only [runL, defL, binV, simprocAttr, List.drop, List.take, lenV, funV, h0, h2, h4, h5, b0', b1', h6, hget, vecC, k.callD, hw]
      refine ih (i + 1) n hd' hi' (addV_wf ha hv hs) ho _ _ _ ?_ ?_ ?_ ?_ ?_ ?_ ?_
      all_goals simp only [look_if, blkAt_if, Nat.reduceEqDiff, if_true, if_false, h0, h2, h4, b0, vecC, pvs]
theorem sumr_ok {T : Tab} (h143 : Std T 143 f143) (h140 : Std T 140 f140) (h145 : Std T 145 f145) (h144 : Std T 144 f144) (l : List Vec) (hl : l.length ≤ 2 ^ 30) (hwf : ∀ v ∈ l, v.wf) : Gives T 143 [.slice (l.map vecC)] (vecB (sumFrom vec0 l)) := by
  refine gives h143 rfl ?_
  simp only [f143, runL, defL, binV, simprocAttr, List.drop, List.take, lenV, funV]
  refine sumr_loop h140 h145 h144 l hl hwf _ (sumFrom vec0 l) (fun fr hp nx g2 g4 g5 c0 c1 => ?_) l 0 vec0 rfl (Nat.zero_le _) vec0_wf rfl _ _ _ rfl rfl rfl rfl rfl rfl rfl
  cases ho : sumFrom vec0 l with
  | none =>
    rw [ho] at g5 c1
    simp only [vecC, vec0, pvs, Option.getD_none, Option.isSome_none] at c0 c1 g5
    simp only [runL, defL, binV, simprocAttr, List.drop, List.take, lenV, funV, vecB, g2, g4, g5, c0, c1, vecP, vecC, vec0]
  | some v =>
    rw [ho] at g5 c1
    simp only [vecC, vec0, pvs, Option.getD_some, Option.isSome_some] at c0 c1 g5
    simp only [runL, defL, binV, simprocAttr, List.drop, List.take, lenV, funV, vecB, g2, g4, g5, c0, c1, vecP, vecC]
end Go.Proofs.YtjmggjlfamjdbaaGreatDoor.Ab
set_option linter.unusedVariables false
set_option linter.unusedSimpArgs false
namespace Go.Proofs.YtjmggjlfamjdbaaGreatDoor.Ab
open Go
def asP (args : List AV) (hp : Hl) (nx : Nat) : Option (AV × Hl × Nat) :=
  match args with
  | [.pv .nili, .iface 3 (.ptr k 0 0)] => some (.pv (.bool false), hp, nx)
  | [.pv (.iface 0 (.int .i64 n)), .iface 3 (.ptr k 0 0)] => match blkAt hp k with
    | .var [.pv (.int .i64 _)] => some (.pv (.bool true), (k, .var [.pv (.int .i64 n)]) :: hp, nx)
    | _ => none
  | [.pv (.iface 1 (.cptr [.int .i64 _, .int .i64 n] 0)), .iface 3 (.ptr k 0 0)] => match blkAt hp k with
    | .var [.pv (.int .i64 _)] => some (.pv (.bool true), (k, .var [.pv (.int .i64 n)]) :: hp, nx)
    | _ => none
  | _ => none
theorem Rel.setVar {X : Ctx} {M : Nat → Nat} {F : Fr} {hp : Hl} {nx : Nat} {a : Act} {w : World} (R : Rel X M F (blkAt hp) (fun i => i < nx) a w) {k : Nat} {o n : Int} (hb : blkAt hp k = .var [.pv (.int .i64 o)]) :
    Rel X M F (blkAt ((k, .var [.pv (.int .i64 n)]) :: hp)) (fun i => i < nx) a (w.setCell ⟨M k, 0, none⟩ (.int .i64 n)) := by
  have hB := R.blk k
  rw [hb] at hB
  obtain ⟨c, t, h1, h2, h3⟩ := hB
  simp only [viewOf] at h1
  have hsz : c.size = 1 := by simpa using h2
  rw [setCell_eq h1]
  have e : blkAt ((k, .var [.pv (.int .i64 n)]) :: hp) = wr (blkAt hp) [(k, .var [.pv (.int .i64 n)])] := by
    funext i
    rw [← blkAt_wr]
    rfl
  rw [e]
  have hlt : M k < w.heap.size := (Array.getElem?_eq_some_iff.1 h1).1
  refine R.write _ _ k (by rw [hb]; simp) (by simp) (by rw [hb]; rfl) ?_ ?_
  · simp only [World.shape?]
    rw [setB_same _ hlt, h1]
    simp
  · refine ⟨_, t, setB_same _ hlt, by simp [hsz], ?_⟩
    simp only [ARun, and_true]
    refine ⟨.int .i64 n, ?_, by simp [Scalar], by simp only [VA, VP]⟩
    simp only [World.cell?, viewOf]
    rw [setB_same _ hlt]
    simp [hsz]
theorem asP_raw {E : Env} {n : Nat} {g : Nat × Value} (hent : Ent E n) (hg : g ∈ E.gl)
    (h1 : ∀ (t : Value) (w : World), Calls E.P (E.ρ n) #[.nilIface, t] w fun e w' => e = .returned (.bool false) ∧ w' = w)
    (h2 : ∀ (t : Addr) (old : Value) (w : World) (m : Int), w.cell? ⟨g.1, 0, none⟩ = some g.2 → w.cell? t = some old → w.frozen? t = false →
      Calls E.P (E.ρ n) #[.iface (E.τ 0) (.int .i64 m), .iface (E.τ 3) (.pointer (some t))] w fun e w' => e = .returned (.bool true) ∧ ∃ w1, Go.RowKit.Below w.heap.size w w1 ∧ w' = w1.setCell t (.int .i64 m))
    (h3 : ∀ (t : Addr) (old : Value) (w : World) (b o : Nat) (a m : Int), w.cell? ⟨b, o, none⟩ = some (.int .i64 a) → w.cell? ⟨b, o + 1, none⟩ = some (.int .i64 m) → w.cell? ⟨g.1, 0, none⟩ = some g.2 → w.cell? t = some old → w.frozen? t = false →
      Calls E.P (E.ρ n) #[.iface (E.τ 1) (.pointer (some ⟨b, o, none⟩)), .iface (E.τ 3) (.pointer (some t))] w fun e w' => e = .returned (.bool true) ∧ ∃ w1, Go.RowKit.Below w.heap.size w w1 ∧ w' = w1.setCell t (.int .i64 m))
    (args : List AV) (hp : Hl) (nx : Nat) (v : AV) (hp' : Hl) (nx' : Nat) (h : asP args hp nx = some (v, hp', nx')) : RawC E n args hp nx v hp' nx' := by
  refine ⟨hent, fun X M F a w vs hX R hv => ?_⟩
  subst hX
  have hc := (R.inv g hg).2
  have fin : ∀ {k : Nat} {o m : Int}, blkAt hp k = .var [.pv (.int .i64 o)] → v = .pv (.bool true) → hp' = (k, .var [.pv (.int .i64 m)]) :: hp → nx' = nx → ∀ {e : Ending} {w' : World}, (e = .returned (.bool true) ∧ ∃ w1, Go.RowKit.Below w.heap.size w w1 ∧ w' = w1.setCell ⟨M k, 0, none⟩ (.int .i64 m)) →
      ∃ u M', e = .returned u ∧ Rel X M' F (blkAt hp') (fun i => i < nx') a w' ∧ VA (viewOf X w' (fun i => i < nx') M' (blkAt hp')) v u := by
    rintro k o m hb rfl rfl rfl e w' ⟨rfl, w1, hbl, rfl⟩
    exact ⟨_, M, rfl, (R.grown (keeps_of hbl)).setVar hb, by simp only [VA, VP]⟩
  have tgt : ∀ {k : Nat} {o : Int} {u : Value}, blkAt hp k = .var [.pv (.int .i64 o)] → VA (viewOf X w (fun i => i < nx) M (blkAt hp)) (.ptr k 0 0) u →
      u = .pointer (some ⟨M k, 0, none⟩) ∧ (∃ old, w.cell? ⟨M k, 0, none⟩ = some old) ∧ w.frozen? ⟨M k, 0, none⟩ = false := by
    intro k o u hb hu
    simp only [VA, viewOf] at hu
    obtain ⟨_, _, hu⟩ := hu
    have e := hu (0, 0) (by rw [hb]; rfl)
    have hB := R.blk k
    rw [hb] at hB
    obtain ⟨c, t, q1, q2, q3⟩ := hB
    simp only [viewOf] at q1
    have hsz : c.size = 1 := by simpa using q2
    simp only [ARun, and_true] at q3
    obtain ⟨x, q4, _, _⟩ := q3
    refine ⟨by simpa using e, ⟨x, q4⟩, ?_⟩
    simp only [World.frozen?, q1]
    simp
  unfold asP at h
  split at h
  · rename_i k
    simp only [Option.some.injEq, Prod.mk.injEq] at h
    obtain ⟨rfl, rfl, rfl⟩ := h
    simp only [VAs, VA, VP] at hv
    obtain ⟨_, _, rfl, rfl, u, _, rfl, _, rfl⟩ := hv
    refine (h1 u w).mono fun e w' ⟨he, hw⟩ => ?_
    subst he hw
    exact ⟨_, M, rfl, R, by simp only [VA, VP]⟩
  · rename_i m k
    split at h
    · rename_i o hb
      simp only [Option.some.injEq, Prod.mk.injEq] at h
      obtain ⟨rfl, rfl, rfl⟩ := h
      simp only [VAs] at hv
      obtain ⟨u1, _, rfl, hu1, u2, _, rfl, hu2, rfl⟩ := hv
      simp only [VA, VP] at hu1
      obtain ⟨_, rfl, rfl⟩ := hu1
      rw [VA] at hu2
      obtain ⟨u3, rfl, hu3⟩ := hu2
      obtain ⟨rfl, ⟨old, c1⟩, c2⟩ := tgt hb hu3
      exact (h2 ⟨M k, 0, none⟩ old w m hc c1 c2).mono fun e w' hh => fin hb rfl rfl rfl hh
    · simp at h
  · rename_i a' m k
    split at h
    · rename_i o hb
      simp only [Option.some.injEq, Prod.mk.injEq] at h
      obtain ⟨rfl, rfl, rfl⟩ := h
      simp only [VAs] at hv
      obtain ⟨u1, _, rfl, hu1, u2, _, rfl, hu2, rfl⟩ := hv
      simp only [VA, VP, VRun] at hu1
      obtain ⟨_, rfl, b, o', rfl, _, ⟨_, d1, _, rfl⟩, ⟨_, d2, _, rfl⟩, _⟩ := hu1
      rw [VA] at hu2
      obtain ⟨u3, rfl, hu3⟩ := hu2
      obtain ⟨rfl, ⟨old, c1⟩, c2⟩ := tgt hb hu3
      exact (h3 ⟨M k, 0, none⟩ old w b o' a' m d1 d2 hc c1 c2).mono fun e w' hh => fin hb rfl rfl rfl hh
    · simp at h
  · simp at h
structure StdA (T : Tab) (n : Nat) : Prop where
  prim : ∃ P, T.prim n = some P ∧ ∀ args hp nx r, asP args hp nx = some r → P args hp nx = some r
  raw : T.raw n = true
theorem stdA {T : Tab} {n : Nat} (h1 : T.prim n = some asP) (h2 : T.raw n = true) : StdA T n := ⟨⟨_, h1, fun _ _ _ _ h => h⟩, h2⟩
theorem StdA.d {T : Tab} {n : Nat} (S : StdA T n) {args : List AV} {hp hp' : Hl} {nx nx' : Nat} {v : AV} (h : asP args hp nx = some (v, hp', nx')) : D T n args hp nx = some (v, hp', nx') := by
  obtain ⟨P, h1, h2⟩ := S.prim
  exact D_prim h1 (h2 _ _ _ _ h)
section
variable {T : Tab} {n : Nat} (S : StdA T n)
include S
theorem as_nilQ {k : Nat} {d : Option Nat} {l : List AOper} {st : St} {K : St → Prop} :
    callQ T n [.pv .nili, .iface 3 (.ptr k 0 0)] d l st K ↔ WpO T l ⟨putS st d (.pv (.bool false)), st.hp, st.nx⟩ K := by
  have h : asP [.pv .nili, .iface 3 (.ptr k 0 0)] st.hp st.nx = some (.pv (.bool false), st.hp, st.nx) := by simp only [asP]
  unfold callQ doCall
  simp only [S.raw, S.d h, Option.some.injEq]
  constructor
  · rintro ⟨st', rfl, h⟩; exact h
  · exact fun h => ⟨_, rfl, h⟩
theorem as_codeQ {k : Nat} {o m : Int} {d : Option Nat} {l : List AOper} {st : St} {K : St → Prop} (hb : blkAt st.hp k = .var [.pv (.int .i64 o)]) :
    callQ T n [.pv (.iface 0 (.int .i64 m)), .iface 3 (.ptr k 0 0)] d l st K ↔ WpO T l ⟨putS st d (.pv (.bool true)), (k, .var [.pv (.int .i64 m)]) :: st.hp, st.nx⟩ K := by
  have h : asP [.pv (.iface 0 (.int .i64 m)), .iface 3 (.ptr k 0 0)] st.hp st.nx = some (.pv (.bool true), (k, .var [.pv (.int .i64 m)]) :: st.hp, st.nx) := by simp only [asP, hb]
  unfold callQ doCall
  simp only [S.raw, S.d h, Option.some.injEq]
  constructor
  · rintro ⟨st', rfl, h⟩; exact h
  · exact fun h => ⟨_, rfl, h⟩
theorem as_spotQ {k : Nat} {o a m : Int} {d : Option Nat} {l : List AOper} {st : St} {K : St → Prop} (hb : blkAt st.hp k = .var [.pv (.int .i64 o)]) :
    callQ T n [.pv (.iface 1 (.cptr [.int .i64 a, .int .i64 m] 0)), .iface 3 (.ptr k 0 0)] d l st K ↔ WpO T l ⟨putS st d (.pv (.bool true)), (k, .var [.pv (.int .i64 m)]) :: st.hp, st.nx⟩ K := by
  have h : asP [.pv (.iface 1 (.cptr [.int .i64 a, .int .i64 m] 0)), .iface 3 (.ptr k 0 0)] st.hp st.nx = some (.pv (.bool true), (k, .var [.pv (.int .i64 m)]) :: st.hp, st.nx) := by simp only [asP, hb]
  unfold callQ doCall
  simp only [S.raw, S.d h, Option.some.injEq]
  constructor
  · rintro ⟨st', rfl, h⟩; exact h
  · exact fun h => ⟨_, rfl, h⟩
end
end Go.Proofs.YtjmggjlfamjdbaaGreatDoor.Ab
set_option linter.unusedVariables false
set_option linter.unusedSimpArgs false
namespace Go.Proofs.YtjmggjlfamjdbaaGreatDoor.Ab
open Go
section
variable {T : Tab}
/-! ### Code, of codes -/
theorem code_loop (c : Int) (Q : Exit → St → Prop) (hret : ∀ fr hp nx, look fr 2 = .pv (.int .i64 c) → Q .ret ⟨fr, hp, nx⟩) :
    ∀ (k : Nat) (i : Int), c = i + k → 1 ≤ i → c ≤ 17 → ∀ (fr : List (Nat × AV)) (hp : Hl) (nx : Nat), look fr 0 = .pv (.iface 0 (.int .i64 c)) → look fr 3 = .pv (.int .i64 i) → Wp T false (.loop f102l0) ⟨fr, hp, nx⟩ Q := by
  intro k
  induction k with
  | zero =>
    intro i hi h1 h2 fr hp nx g0 g3
    have hi' : i = c := by omega
    subst hi'
    rw [Wp_loop, Wp_eq f102l0.eq_1]
    simp only [runL, defL, binV, simprocAttr, List.drop, List.take, lenV, funV, g0, g3, h2]
    exact hret _ _ _ (by simp only [look_if, Nat.reduceEqDiff, if_true, if_false])
  | succ k ih =>
    intro i hi h1 h2 fr hp nx g0 g3
    have hne : ¬ c = i := by omega
    have hle : i ≤ 17 := by omega
    have hw : IntKind.i64.wrap (i + 1) = i + 1 := by rw [wrap6] <;> omega
    rw [Wp_loop, Wp_eq f102l0.eq_1]
    simp only [runL, defL, binV, simprocAttr, List.drop, List.take, lenV, funV, g0, g3, hle, hne, hw]
    refine ih (i + 1) (by omega) (by omega) h2 _ _ _ ?_ ?_
    all_goals simp only [look_if, Nat.reduceEqDiff, if_true, if_false, g0]
theorem code_code (h102 : Std T 102 f102) (c : Int) (h1 : 1 ≤ c) (h2 : c ≤ 17) : Gives T 102 [codeE c] (.int .i64 c) := by
  refine gives h102 rfl ?_
  simp only [f102, runL, defL, binV, simprocAttr, List.drop, List.take, lenV, funV, codeE]
  refine code_loop c _ (fun fr hp nx g => ?_) (c - 1).toNat 1 (by omega) (by omega) h2 _ _ _ rfl rfl
  simp only [runL, defL, binV, simprocAttr, List.drop, List.take, lenV, funV, g]
/-! ### The document's search for a node -/
def ixNode (id : Int) : Nat → List Node → Int
  | _, [] => -1
  | i, p :: r => if p.id = id then i else ixNode id (i + 1) r
theorem ixNode_cases (id : Int) : ∀ (l : List Node) (i : Nat), (nodeOf id l = none ∧ ixNode id i l = -1) ∨ ∃ j p, l[j]? = some p ∧ nodeOf id l = some p ∧ ixNode id i l = ((i + j : Nat) : Int)
  | [], i => .inl ⟨rfl, rfl⟩
  | p :: r, i => by
    by_cases hp : p.id = id
    · exact .inr ⟨0, p, rfl, by simp [nodeOf, hp], by simp [ixNode, hp]⟩
    · rcases ixNode_cases id r (i + 1) with ⟨h1, h2⟩ | ⟨j, q, h1, h2, h3⟩
      · exact .inl ⟨by simpa [nodeOf, hp] using h1, by simp [ixNode, hp, h2]⟩
      · refine .inr ⟨j + 1, q, by simpa using h1, by simpa [nodeOf, hp] using h2, ?_⟩
        simp only [ixNode, if_neg hp, h3]
        omega
theorem node3_loop (s : Snap) (id : Int) (hl : s.nodes.length ≤ 2 ^ 30) (Q : Exit → St → Prop) (o : Int)
    (hend : o = -1 → ∀ fr hp nx, Q (.exit 0) ⟨fr, hp, nx⟩) (hret : ∀ fr hp nx, look fr 4 = .pv (.int .i64 o) → Q .ret ⟨fr, hp, nx⟩) :
    ∀ (rest : List Node) (i : Nat), s.nodes.drop i = rest → i ≤ s.nodes.length → ixNode id i rest = o → ∀ (fr : List (Nat × AV)) (hp : Hl) (nx : Nat), look fr 5 = .pv (.int .i64 i) → look fr 1 = .pv (.int .i64 id) → look fr 2 = .ptr 0 0 0 →
      blkAt hp 0 = .var [.pv (.slice (s.nodes.map nodeC)), .pv (.slice (s.loads.map loadC)), .pv (.slice (s.pods.map podC))] → Wp T false (.loop f155l0) ⟨fr, hp, nx⟩ Q := by
  intro rest
  induction rest with
  | nil =>
    intro i hd hi ho fr hp nx h5 h1 h2 b0
    have hlen := drop_nil hd hi
    rw [Wp_loop, Wp_eq f155l0.eq_1]
    simp only [runL, defL, binV, simprocAttr, List.drop, List.take, lenV, funV, h5, h1, h2, b0, hlen, Int.lt_irrefl]
    exact hend ho.symm _ _ _
  | cons n r ih =>
    intro i hd hi ho fr hp nx h5 h1 h2 b0
    obtain ⟨hget, hlt, hw, hd', hi', hb⟩ := drop_cons hd hl
    simp only [ixNode] at ho
    rw [Wp_loop, Wp_eq f155l0.eq_1]
    by_cases hk : n.id = id
    · rw [if_pos hk] at ho
      simp only [runL, defL, binV, simprocAttr, List.drop, List.take, lenV, funV, h5, h1, h2, b0, hlt, hget, nodeC, hk]
      exact hret _ _ _ (by simp only [look_if, Nat.reduceEqDiff, if_true, if_false, ← ho])
    · rw [if_neg hk] at ho
      simp only [runL, defL, binV, simprocAttr, List.drop, List.take, lenV, funV, h5, h1, h2, b0, hlt, hget, nodeC, hk, hw]
      refine ih (i + 1) hd' hi' ho _ _ _ ?_ ?_ ?_ b0
      all_goals simp only [look_if, Nat.reduceEqDiff, if_true, if_false, h1, h2]
theorem node3_ok (h155 : Std T 155 f155) (s : Snap) (id : Int) (hl : s.nodes.length ≤ 2 ^ 30) : Gives T 155 [snapP s, .int .i64 id] (.int .i64 (ixNode id 0 s.nodes)) := by
  refine gives h155 rfl ?_
  simp only [f155, runL, defL, binV, simprocAttr, List.drop, List.take, lenV, funV, snapP]
  refine node3_loop s id hl _ (ixNode id 0 s.nodes) (fun ho fr hp nx => ?_) (fun fr hp nx h4 => ?_) s.nodes 0 rfl (Nat.zero_le _) rfl _ _ _ rfl rfl rfl rfl
  · simp only [runL, defL, binV, simprocAttr, List.drop, List.take, lenV, funV, ho]
  · simp only [runL, defL, binV, simprocAttr, List.drop, List.take, lenV, funV, h4]
/-! ### What is used -/
def reqs (node : Int) : List Pod → List Vec
  | [] => []
  | p :: r => if p.node = node then p.req :: reqs node r else reqs node r
theorem reqs_le (node : Int) : ∀ l, (reqs node l).length ≤ l.length
  | [] => Nat.le_refl _
  | p :: r => by
    have := reqs_le node r
    simp only [reqs, List.length_cons]
    split
    · simp only [List.length_cons]; omega
    · omega
theorem reqs_wf (node : Int) : ∀ l : List Pod, (∀ p ∈ l, p.wf) → ∀ v ∈ reqs node l, v.wf
  | [], _, v, hv => by simp [reqs] at hv
  | p :: r, h, v, hv => by
    have ih := reqs_wf node r (fun q hq => h q (List.mem_cons_of_mem _ hq)) v
    simp only [reqs] at hv
    split at hv
    · rcases List.mem_cons.1 hv with rfl | hv
      · exact (h p (List.mem_cons_self ..)).2.2.2.1
      · exact ih hv
    · exact ih hv
def useO (pods : List Pod) (node : Int) : Option Vec := sumFrom vec0 (reqs node pods)
def OwnR (v : AV) (hp : Hl) (sz : Nat) (es : List (List PV)) (lo nx : Nat) : Prop := (es = [] ∧ v = .nils) ∨ ∃ id, v = .ms id ∧ lo ≤ id ∧ id < nx ∧ blkAt hp id = .row sz es
theorem use_loop (pods : List Pod) (node : Int) (hl : pods.length ≤ 2 ^ 30) (Q : Exit → St → Prop) (tot : List Vec) (htot : tot.length ≤ 2 ^ 30)
    (hend : ∀ fr hp nx, look fr 4 = .ptr 1 0 0 → blkAt hp 1 = .var (pvs (vecC vec0)) → OwnR (look fr 6) hp 4 (tot.map vecC) 2 nx → Q (.exit 0) ⟨fr, hp, nx⟩) :
    ∀ (rest : List Pod) (i : Nat) (acc : List Vec), pods.drop i = rest → i ≤ pods.length → acc ++ reqs node rest = tot → ∀ (fr : List (Nat × AV)) (hp : Hl) (nx : Nat), 2 ≤ nx → look fr 4 = .ptr 1 0 0 → blkAt hp 1 = .var (pvs (vecC vec0)) →
      look fr 1 = .pv (.int .i64 node) → look fr 10 = .pv (.slice (pods.map podC)) → look fr 11 = .pv (.int .i64 pods.length) → look fr 12 = .pv (.int .i64 i) → OwnR (look fr 6) hp 4 (acc.map vecC) 2 nx → Wp T false (.loop f221l0) ⟨fr, hp, nx⟩ Q := by
  intro rest
  induction rest with
  | nil =>
    intro i acc hd hi ho fr hp nx hn h4 b1 h1 h10 h11 h12 h6
    have hlen := drop_nil hd hi
    simp only [reqs, List.append_nil] at ho
    subst ho
    rw [Wp_loop, Wp_eq f221l0.eq_1]
    simp only [runL, defL, binV, simprocAttr, List.drop, List.take, lenV, funV, h10, h11, h12, hlen, Int.lt_irrefl]
    refine hend _ _ _ ?_ b1 ?_
    all_goals simp only [look_if, Nat.reduceEqDiff, if_false, h4, h6]
  | cons p r ih =>
    intro i acc hd hi ho fr hp nx hn h4 b1 h1 h10 h11 h12 h6
    obtain ⟨hget, hlt, hw, hd', hi', hb⟩ := drop_cons hd hl
    have n1 : ¬ nx = 1 := by omega
    simp only [reqs] at ho
    rw [Wp_loop, Wp_eq f221l0.eq_1]
    by_cases hk : p.node = node
    · rw [if_pos hk] at ho
      have ho' : (acc ++ [p.req]) ++ reqs node r = tot := by rw [← ho]; simp
      have hlen : acc.length + 1 ≤ 2 ^ 30 := by
        have := congrArg List.length ho'
        simp at this
        omega
      rcases h6 with ⟨he, h6⟩ | ⟨id, h6, i1, i2, i3⟩
      · have hacc : acc = [] := by simpa using he
        have n0 : ¬ nx = 0 := by omega
        subst hacc
        simp only [runL, defL, binV, simprocAttr, List.drop, List.take, lenV, funV, h1, h10, h11, h12, hlt, hget, podC, n1, hk, h6, partsScal, srcV, chunk, appV, baseV, allLen, List.all_cons, List.all_nil, hw, Nat.one_le_two_pow]
        refine ih (i + 1) _ hd' hi' ho' _ _ _ ?_ ?_ ?_ ?_ ?_ ?_ ?_ (.inr ⟨nx + 2, ?_, ?_, ?_, ?_⟩)
        all_goals try simp only [look_if, blkAt_if, Nat.reduceEqDiff, if_true, if_false, h4, b1, n0, n1, h1, h10, h11, List.map_append, List.map_cons, List.map_nil, vecC, List.nil_append]
        all_goals first | omega | skip
      · have d1 : ¬ nx + 1 = id := by omega
        have d2 : ¬ nx = id := by omega
        have d3 : ¬ id = 1 := by omega
        have d4 : ¬ nx + 1 = 1 := by omega
        have d5 : ¬ nx + 1 + 1 = 1 := by omega
        have d6 : ¬ id = nx + 1 + 1 := by omega
        simp only [runL, defL, binV, simprocAttr, List.drop, List.take, lenV, funV, h1, h10, h11, h12, hlt, hget, podC, n1, hk, h6, i3, partsScal, srcV, chunk, appV, baseV, allLen, List.all_cons, List.all_nil, hw, d1, d2, hlen]
        refine ih (i + 1) _ hd' hi' ho' _ _ _ ?_ ?_ ?_ ?_ ?_ ?_ ?_ (.inr ⟨nx + 1 + 1, ?_, ?_, ?_, ?_⟩)
        all_goals try simp only [look_if, blkAt_if, Nat.reduceEqDiff, if_true, if_false, h4, b1, n1, d3, d4, d5, d6, h1, h10, h11, List.map_append, List.map_cons, List.map_nil, vecC]
        all_goals first | omega | skip
    · rw [if_neg hk] at ho
      simp only [runL, defL, binV, simprocAttr, List.drop, List.take, lenV, funV, h1, h10, h11, h12, hlt, hget, podC, n1, hk, hw]
      refine ih (i + 1) acc hd' hi' ho _ _ _ (by omega) ?_ ?_ ?_ ?_ ?_ ?_ ?_
      all_goals simp only [look_if, blkAt_if, Nat.reduceEqDiff, if_true, if_false, h4, b1, h1, h10, h11, n1]
      rcases h6 with ⟨he, h6⟩ | ⟨id, h6, i1, i2, i3⟩
      · exact .inl ⟨he, h6⟩
      · have : ¬ nx = id := by omega
        exact .inr ⟨id, h6, i1, by omega, by simp only [blkAt_if, this, if_false, i3]⟩
theorem flat_vecR (o : Option Vec) : flatP (vecR o) = true := by cases o <;> rfl
theorem flat_vecB (o : Option Vec) : flatP (vecB o) = true := by cases o <;> rfl
theorem use_ok (h221 : Std T 221 f221) (S : StdV T) (hf : T.flat 260 = true) (t : State) (node : Int) (hl : t.pods.length ≤ 2 ^ 30) (hw : ∀ p ∈ t.pods, p.wf) : Gives T 221 [stateP t, .int .i64 node] (vecR (useO t.pods node)) := by
  refine gives h221 rfl ?_
  have hr : (reqs node t.pods).length ≤ 2 ^ 30 := Nat.le_trans (reqs_le _ _) hl
  have k := sum_ok S (reqs node t.pods) hr (reqs_wf node t.pods hw)
  have e : sumFrom vec0 (reqs node t.pods) = useO t.pods node := rfl
  rw [e] at k
  have kf := k.callF hf (flat_vecR _)
  simp only [f221, runL, defL, binV, simprocAttr, List.drop, List.take, lenV, funV, stateP]
  refine use_loop t.pods node hl _ (reqs node t.pods) hr (fun fr hp nx h4 b1 h6 => ?_) t.pods 0 [] rfl (Nat.zero_le _) (List.nil_append _) _ _ _ (Nat.le_refl _) rfl rfl rfl rfl rfl rfl (.inl ⟨rfl, rfl⟩)
  simp only [vecC, vec0, pvs] at b1
  rcases h6 with ⟨he, h6⟩ | ⟨id, h6, i1, i2, i3⟩
  · rw [he] at k
    cases ho : useO t.pods node <;> rw [ho] at k <;> simp only [vecR, vecP, vecC, vec0, codeE] at k <;>
    simp only [runL, defL, binV, simprocAttr, List.drop, List.take, lenV, funV, h4, b1, h6, k.call, vecR, vecP, vecC, vec0, codeE]
  · cases ho : useO t.pods node <;> rw [ho] at kf <;> simp only [vecR, vecP, vecC, vec0, codeE] at kf <;>
    simp only [runL, defL, binV, simprocAttr, List.drop, List.take, lenV, funV, h4, b1, h6, i3, kf, vecR, vecP, vecC, vec0, codeE]
theorem use6_loop (t : State) (node : Int) (hl : t.pods.length ≤ 2 ^ 30) (Q : Exit → St → Prop) (tot : List Vec) (htot : tot.length ≤ 2 ^ 30)
    (hend : ∀ fr hp nx, look fr 4 = .ptr 1 0 0 → 2 ≤ nx → blkAt hp 1 = .var (pvs (vecC vec0)) → OwnR (look fr 6) hp 4 (tot.map vecC) 2 nx → Q (.exit 0) ⟨fr, hp, nx⟩) :
    ∀ (rest : List Pod) (i : Nat) (acc : List Vec), t.pods.drop i = rest → i ≤ t.pods.length → acc ++ reqs node rest = tot → ∀ (fr : List (Nat × AV)) (hp : Hl) (nx : Nat), 2 ≤ nx → look fr 4 = .ptr 1 0 0 → blkAt hp 1 = .var (pvs (vecC vec0)) →
      look fr 1 = .pv (.int .i64 node) → look fr 2 = .ptr 0 0 0 → blkAt hp 0 = .var [.pv (.slice (t.pods.map podC)), .pv (.int .i64 t.pre), .pv (.int .i64 t.shi)] → look fr 7 = .pv (.int .i64 i) → OwnR (look fr 6) hp 4 (acc.map vecC) 2 nx → Wp T false (.loop f171l0) ⟨fr, hp, nx⟩ Q := by
  intro rest
  induction rest with
  | nil =>
    intro i acc hd hi ho fr hp nx hn h4 b1 h1 h2 b0 h7 h6
    have hlen := drop_nil hd hi
    simp only [reqs, List.append_nil] at ho
    subst ho
    rw [Wp_loop, Wp_eq f171l0.eq_1]
    simp only [runL, defL, binV, simprocAttr, List.drop, List.take, lenV, funV, h2, b0, h7, hlen, Int.lt_irrefl]
    refine hend _ _ _ ?_ hn b1 ?_
    all_goals simp only [look_if, Nat.reduceEqDiff, if_false, h4, h6]
  | cons p r ih =>
    intro i acc hd hi ho fr hp nx hn h4 b1 h1 h2 b0 h7 h6
    obtain ⟨hget, hlt, hw, hd', hi', hb⟩ := drop_cons hd hl
    have n0 : ¬ nx = 0 := by omega
    have n1 : ¬ nx = 1 := by omega
    have m0 : ¬ nx + 1 = 0 := by omega
    have m1 : ¬ nx + 1 = 1 := by omega
    simp only [reqs] at ho
    rw [Wp_loop, Wp_eq f171l0.eq_1]
    by_cases hk : p.node = node
    · rw [if_pos hk] at ho
      have ho' : (acc ++ [p.req]) ++ reqs node r = tot := by rw [← ho]; simp
      have hlen : acc.length + 1 ≤ 2 ^ 30 := by
        have := congrArg List.length ho'
        simp at this
        omega
      rcases h6 with ⟨he, h6⟩ | ⟨id, h6, i1, i2, i3⟩
      · have hacc : acc = [] := by simpa using he
        subst hacc
        simp only [runL, defL, binV, simprocAttr, List.drop, List.take, lenV, funV, h1, h2, b0, h7, hlt, hget, podC, n0, n1, hk, h6, partsScal, srcV, chunk, appV, baseV, allLen, List.all_cons, List.all_nil, hw, Nat.one_le_two_pow]
        refine ih (i + 1) _ hd' hi' ho' _ _ _ ?_ ?_ ?_ ?_ ?_ ?_ ?_ (.inr ⟨nx + 1, ?_, ?_, ?_, ?_⟩)
        all_goals try simp only [look_if, blkAt_if, Nat.reduceEqDiff, if_true, if_false, h4, b1, n0, n1, m0, m1, h1, h2, b0, List.map_append, List.map_cons, List.map_nil, vecC, List.nil_append]
        all_goals first | omega | skip
      · have d2 : ¬ nx = id := by omega
        have d3 : ¬ id = 1 := by omega
        have d6 : ¬ id = nx + 1 := by omega
        have d7 : ¬ id = 0 := by omega
        simp only [runL, defL, binV, simprocAttr, List.drop, List.take, lenV, funV, h1, h2, b0, h7, hlt, hget, podC, n0, n1, hk, h6, i3, partsScal, srcV, chunk, appV, baseV, allLen, List.all_cons, List.all_nil, hw, d2, hlen]
        refine ih (i + 1) _ hd' hi' ho' _ _ _ ?_ ?_ ?_ ?_ ?_ ?_ ?_ (.inr ⟨nx + 1, ?_, ?_, ?_, ?_⟩)
        all_goals try simp only [look_if, blkAt_if, Nat.reduceEqDiff, if_true, if_false, h4, b1, b0, n0, n1, d3, m0, m1, d6, d7, h1, h2, List.map_append, List.map_cons, List.map_nil, vecC]
        all_goals first | omega | skip
    · rw [if_neg hk] at ho
      simp only [runL, defL, binV, simprocAttr, List.drop, List.take, lenV, funV, h1, h2, b0, h7, hlt, hget, podC, n1, hk, hw]
      refine ih (i + 1) acc hd' hi' ho _ _ _ hn ?_ b1 ?_ ?_ b0 ?_ ?_
      all_goals simp only [look_if, Nat.reduceEqDiff, if_true, if_false, h4, h1, h2, h6]
theorem use6_ok (h171 : Std T 171 f171) (h143 : Std T 143 f143) (h140 : Std T 140 f140) (h145 : Std T 145 f145) (h144 : Std T 144 f144) (hf : T.flat 143 = true) (t : State) (node : Int) (hl : t.pods.length ≤ 2 ^ 30) (hw : ∀ p ∈ t.pods, p.wf) : Gives T 171 [stateP t, .int .i64 node] (vecB (useO t.pods node)) := by
  refine gives h171 rfl ?_
  have hr : (reqs node t.pods).length ≤ 2 ^ 30 := Nat.le_trans (reqs_le _ _) hl
  have k := sumr_ok h143 h140 h145 h144 (reqs node t.pods) hr (reqs_wf node t.pods hw)
  have e : sumFrom vec0 (reqs node t.pods) = useO t.pods node := rfl
  rw [e] at k
  have kf := k.callF hf (flat_vecB _)
  simp only [f171, runL, defL, binV, simprocAttr, List.drop, List.take, lenV, funV, stateP]
  refine use6_loop t node hl _ (reqs node t.pods) hr (fun fr hp nx h4 hn b1 h6 => ?_) t.pods 0 [] rfl (Nat.zero_le _) (List.nil_append _) _ _ _ (Nat.le_refl _) rfl rfl rfl rfl rfl rfl (.inl ⟨rfl, rfl⟩)
  have n1 : ¬ nx = 1 := by omega
  simp only [vecC, vec0, pvs] at b1
  rcases h6 with ⟨he, h6⟩ | ⟨id, h6, i1, i2, i3⟩
  · rw [he] at k
    cases ho : useO t.pods node <;> rw [ho] at k <;> simp only [vecB, vecP, vecC, vec0] at k <;>
    simp only [runL, defL, binV, simprocAttr, List.drop, List.take, lenV, funV, h4, b1, h6, k.call, vecB, vecP, vecC, vec0, n1]
  · cases ho : useO t.pods node <;> rw [ho] at kf <;> simp only [vecB, vecP, vecC, vec0] at kf <;>
    simp only [runL, defL, binV, simprocAttr, List.drop, List.take, lenV, funV, h4, b1, h6, i3, kf, vecB, vecP, vecC, vec0, n1]
end
end Go.Proofs.YtjmggjlfamjdbaaGreatDoor.Ab
set_option linter.unusedVariables false
set_option linter.unusedSimpArgs false
namespace Go.Proofs.YtjmggjlfamjdbaaGreatDoor.Ab
open Go
section
variable {T : Tab}
def restC (s : Snap) (pods : List Pod) (id : Int) : Int × Vec := match nodeOf id s.nodes with
  | none => (4, vec0)
  | some n => match useO pods id with
    | none => (8, vec0)
    | some u => match subV' n.cap n.held with
      | none => (9, vec0)
      | some f => match subV' f u with
        | none => (9, vec0)
        | some r => (0, r)
def errC (c : Int) : PV := if c = 0 then .nili else codeE c
def restR (r : Int × Vec) : PV := .tuple [vecP r.2, errC r.1]
def restB (r : Int × Vec) : PV := .tuple [vecP r.2, .int .i64 r.1]
structure Std6 (T : Tab) : Prop where
  v : StdV T
  h82 : Std T 82 f82
  h221 : Std T 221 f221
  h258 : Std T 258 f258
  h259 : Std T 259 f259
  h220 : Std T 220 f220
  f260 : T.flat 260 = true
set_option maxRecDepth 100000 in
set_option maxHeartbeats 4000000 in
theorem rest_ok (S : Std6 T) (s : Snap) (t : State) (id : Int) (hn : s.nodes.length ≤ 2 ^ 30) (hl : t.pods.length ≤ 2 ^ 30) (hw : ∀ p ∈ t.pods, p.wf) : Gives T 220 [snapP s, stateP t, .int .i64 id] (restR (restC s t.pods id)) := by
  refine gives S.h220 rfl ?_
  have kn := node_ok S.h82 s id hn
  have ku := use_ok S.h221 S.v S.f260 t id hl hw
  unfold restC
  simp only [snapP] at kn
  simp only [stateP] at ku
  cases ho : nodeOf id s.nodes with
  | none =>
    rw [ho] at kn
    simp only [nodeR, nodeC, node0] at kn
    simp only [f220, runL, defL, binV, simprocAttr, List.drop, List.take, lenV, funV, snapP, stateP, kn.call, restR, errC, vecP, vecC, vec0, codeE]
  | some n =>
    rw [ho] at kn
    simp only [nodeR, nodeC] at kn
    cases hu : useO t.pods id with
    | none =>
      rw [hu] at ku
      simp only [vecR, vecP, vecC, vec0, codeE] at ku
      simp only [f220, runL, defL, binV, simprocAttr, List.drop, List.take, lenV, funV, snapP, stateP, kn.call, ku.call, restR, errC, vecP, vecC, vec0, codeE]
    | some u =>
      rw [hu] at ku
      simp only [vecR, vecP, vecC] at ku
      have k1 := sub_ok S.h258 S.v.h261 S.h259 n.cap n.held
      simp only [vecP, vecC] at k1
      cases h1 : subV' n.cap n.held with
      | none =>
        rw [h1] at k1
        simp only [vecR, vecP, vecC, vec0, codeE] at k1
        simp only [f220, runL, defL, binV, simprocAttr, List.drop, List.take, lenV, funV, snapP, stateP, kn.call, ku.call, k1.call, h1, restR, errC, vecP, vecC, vec0, codeE]
      | some f =>
        rw [h1] at k1
        simp only [vecR, vecP, vecC] at k1
        have k2 := sub_ok S.h258 S.v.h261 S.h259 f u
        simp only [vecP, vecC] at k2
        cases h2 : subV' f u with
        | none =>
          rw [h2] at k2
          simp only [vecR, vecP, vecC, vec0, codeE] at k2
          simp only [f220, runL, defL, binV, simprocAttr, List.drop, List.take, lenV, funV, snapP, stateP, kn.call, ku.call, k1.call, k2.call, h1, h2, restR, errC, vecP, vecC, vec0, codeE]
        | some r =>
          rw [h2] at k2
          simp only [vecR, vecP, vecC] at k2
          simp only [f220, runL, defL, binV, simprocAttr, List.drop, List.take, lenV, funV, snapP, stateP, kn.call, ku.call, k1.call, k2.call, h1, h2, restR, errC, vecP, vecC, vec0, codeE]
structure Std6r (T : Tab) : Prop where
  h155 : Std T 155 f155
  h171 : Std T 171 f171
  h143 : Std T 143 f143
  h140 : Std T 140 f140
  h145 : Std T 145 f145
  h144 : Std T 144 f144
  h142 : Std T 142 f142
  h141 : Std T 141 f141
  h170 : Std T 170 f170
  f143 : T.flat 143 = true
set_option maxRecDepth 100000 in
set_option maxHeartbeats 4000000 in
theorem rest6_ok (S : Std6r T) (s : Snap) (t : State) (id : Int) (hn : s.nodes.length ≤ 2 ^ 30) (hl : t.pods.length ≤ 2 ^ 30) (hw : ∀ p ∈ t.pods, p.wf) : Gives T 170 [snapP s, stateP t, .int .i64 id] (restB (restC s t.pods id)) := by
  refine gives S.h170 rfl ?_
  have kn := node3_ok S.h155 s id hn
  have ku := use6_ok S.h171 S.h143 S.h140 S.h145 S.h144 S.f143 t id hl hw
  unfold restC
  simp only [snapP] at kn
  simp only [stateP] at ku
  rcases ixNode_cases id s.nodes 0 with ⟨ho, hx⟩ | ⟨j, n, hj, ho, hx⟩
  · rw [hx] at kn
    simp only [f170, runL, defL, binV, simprocAttr, List.drop, List.take, lenV, funV, snapP, stateP, kn.call, ho, restB, vecP, vecC, vec0]
  · rw [hx, Nat.zero_add] at kn
    have hj0 : ¬ (j : Int) < 0 := by omega
    cases hu : useO t.pods id with
    | none =>
      rw [hu] at ku
      simp only [vecB, vecP, vecC, vec0] at ku
      simp only [f170, runL, defL, binV, simprocAttr, List.drop, List.take, lenV, funV, snapP, stateP, kn.call, ho, hj0, ku.call, restB, vecP, vecC, vec0]
    | some u =>
      rw [hu] at ku
      simp only [vecB, vecP, vecC] at ku
      have k1 := sub1r_ok S.h142 S.h141 n.cap n.held
      simp only [vecP, vecC] at k1
      simp only [f170, runL, defL, binV, simprocAttr, List.drop, List.take, lenV, funV, snapP, stateP, kn.call, ho, hj0, ku.call]
      refine Wp_draw.2 ?_
      cases h1 : subV' n.cap n.held with
      | none =>
        rw [h1] at k1
        simp only [vecB, vecP, vecC, vec0] at k1
        simp only [runL, defL, binV, simprocAttr, List.drop, List.take, lenV, funV, hj, nodeC, k1.callE, h1, restB, vecP, vecC, vec0]
        simp only [chkFrom, allLt, storeB', restOK, mem, indepB, En.reads, aTmps, aTmpsL, aTmpsP, aTmpsO, gTmps, AO.tmps, disj, keys, optL, rdEv, idOf, List.reverse_cons, List.reverse_nil, List.nil_append, List.cons_append, List.append_nil, runL, defL, binV, simprocAttr, List.drop, List.take, lenV, funV, Bool.and_true, Bool.true_and]; rfl
      | some f =>
        rw [h1] at k1
        simp only [vecB, vecP, vecC] at k1
        have k2 := sub1r_ok S.h142 S.h141 f u
        simp only [vecP, vecC] at k2
        cases h2 : subV' f u with
        | none =>
          rw [h2] at k2
          simp only [vecB, vecP, vecC, vec0] at k2
          simp only [runL, defL, binV, simprocAttr, List.drop, List.take, lenV, funV, hj, nodeC, k1.callE, k2.call, h1, h2, restB, vecP, vecC, vec0]
          simp only [chkFrom, allLt, storeB', restOK, mem, indepB, En.reads, aTmps, aTmpsL, aTmpsP, aTmpsO, gTmps, AO.tmps, disj, keys, optL, rdEv, idOf, List.reverse_cons, List.reverse_nil, List.nil_append, List.cons_append, List.append_nil, runL, defL, binV, simprocAttr, List.drop, List.take, lenV, funV, Bool.and_true, Bool.true_and]; rfl
        | some r =>
          rw [h2] at k2
          simp only [vecB, vecP, vecC] at k2
          simp only [runL, defL, binV, simprocAttr, List.drop, List.take, lenV, funV, hj, nodeC, k1.callE, k2.call, h1, h2, restB, vecP, vecC, vec0]
          simp only [chkFrom, allLt, storeB', restOK, mem, indepB, En.reads, aTmps, aTmpsL, aTmpsP, aTmpsO, gTmps, AO.tmps, disj, keys, optL, rdEv, idOf, List.reverse_cons, List.reverse_nil, List.nil_append, List.cons_append, List.append_nil, runL, defL, binV, simprocAttr, List.drop, List.take, lenV, funV, Bool.and_true, Bool.true_and]; rfl
theorem restC_range (s : Snap) (pods : List Pod) (id : Int) : (restC s pods id).1 = 0 ∨ ((restC s pods id).1 ≠ 0 ∧ 1 ≤ (restC s pods id).1 ∧ (restC s pods id).1 ≤ 17) := by
  unfold restC
  repeat' split
  all_goals simp
def roomFrom (s : Snap) (pods : List Pod) : Nat → List Node → Option (Int × Int)
  | _, [] => none
  | i, n :: r => if (restC s pods n.id).1 = 0 then roomFrom s pods (i + 1) r else some ((restC s pods n.id).1, i)
set_option maxRecDepth 100000 in
set_option maxHeartbeats 4000000 in
theorem room_loop (S : Std6 T) (h219 : Std T 219 f219) (h266 : StdA T 266) (s : Snap) (t : State) (hn : s.nodes.length ≤ 2 ^ 30) (hl : t.pods.length ≤ 2 ^ 30) (hw : ∀ p ∈ t.pods, p.wf) (Q : Exit → St → Prop) (o : Option (Int × Int))
    (hend : o = none → ∀ fr hp nx, Q (.exit 0) ⟨fr, hp, nx⟩)
    (hret : ∀ c i, o = some (c, i) → ∀ fr hp nx id, look fr 4 = .iface 1 (.ptr id 0 0) → blkAt hp id = .var [.pv (.int .i64 i), .pv (.int .i64 c)] → Q .ret ⟨fr, hp, nx⟩) :
    ∀ (rest : List Node) (i : Nat), s.nodes.drop i = rest → i ≤ s.nodes.length → roomFrom s t.pods i rest = o → ∀ (fr : List (Nat × AV)) (hp : Hl) (nx : Nat), 2 ≤ nx →
      look fr 2 = .ptr 0 0 0 → blkAt hp 0 = .var [.pv (.slice (s.nodes.map nodeC)), .pv (.slice (s.loads.map loadC)), .pv (.slice (s.pods.map podC))] →
      look fr 3 = .ptr 1 0 0 → blkAt hp 1 = .var [.pv (.slice (t.pods.map podC)), .pv (.int .i64 t.pre), .pv (.int .i64 t.shi)] →
      look fr 11 = .pv (.slice (s.nodes.map nodeC)) → look fr 12 = .pv (.int .i64 s.nodes.length) → look fr 13 = .pv (.int .i64 i) → Wp T false (.loop f219l0) ⟨fr, hp, nx⟩ Q := by
  intro rest
  induction rest with
  | nil =>
    intro i hd hi ho fr hp nx hnx h2 b0 h3 b1 h11 h12 h13
    have hlen := drop_nil hd hi
    rw [Wp_loop, Wp_eq f219l0.eq_1]
    simp only [runL, defL, binV, simprocAttr, List.drop, List.take, lenV, funV, h11, h12, h13, hlen, Int.lt_irrefl]
    exact hend ho.symm _ _ _
  | cons n r ih =>
    intro i hd hi ho fr hp nx hnx h2 b0 h3 b1 h11 h12 h13
    obtain ⟨hget, hlt, hwi, hd', hi', hb⟩ := drop_cons hd hn
    have n0 : ¬ nx = 0 := by omega
    have n1 : ¬ nx = 1 := by omega
    have m0 : ¬ nx + 1 = 0 := by omega
    have m1 : ¬ nx + 1 = 1 := by omega
    have k := rest_ok S s t n.id hn hl hw
    simp only [snapP, stateP, restR, vecP, vecC] at k
    simp only [roomFrom] at ho
    rw [Wp_loop, Wp_eq f219l0.eq_1]
    rcases restC_range s t.pods n.id with hc | ⟨hc, _, _⟩
    · rw [if_pos hc] at ho
      simp only [errC, hc, if_true] at k
      simp only [runL, defL, binV, simprocAttr, List.drop, List.take, lenV, funV, h2, b0, h3, b1, h11, h12, h13, hlt, hget, nodeC, n0, n1, k.call, as_nilQ h266, hwi]
      refine ih (i + 1) hd' hi' ho _ _ _ ?_ ?_ ?_ ?_ ?_ ?_ ?_ ?_
      all_goals try simp only [look_if, blkAt_if, Nat.reduceEqDiff, if_true, if_false, h2, b0, h3, b1, n0, n1, m0, m1, h11, h12]
      all_goals first | omega | skip
    · rw [if_neg hc] at ho
      simp only [errC, hc, if_false, codeE] at k
      simp only [runL, defL, binV, simprocAttr, List.drop, List.take, lenV, funV, h2, b0, h3, b1, h11, h12, h13, hlt, hget, nodeC, n0, n1, k.call]
      refine (as_codeQ h266 (o := 0) ?_).2 ?_
      · simp only [runL, defL, binV, simprocAttr, List.drop, List.take, lenV, funV]
      · simp only [runL, defL, binV, simprocAttr, List.drop, List.take, lenV, funV, h2, b0, h3, b1, h11, h12, h13]
        refine hret _ _ ho.symm _ _ _ (nx + 1 + 1 + 1) ?_ ?_
        all_goals simp only [look_if, blkAt_if, Nat.reduceEqDiff, if_true, if_false]
theorem room_ok (S : Std6 T) (h219 : Std T 219 f219) (h266 : StdA T 266) (s : Snap) (t : State) (hn : s.nodes.length ≤ 2 ^ 30) (hl : t.pods.length ≤ 2 ^ 30) (hw : ∀ p ∈ t.pods, p.wf) : Gives T 219 [snapP s, stateP t] (errO (roomFrom s t.pods 0 s.nodes)) := by
  refine gives h219 rfl ?_
  simp only [f219, runL, defL, binV, simprocAttr, List.drop, List.take, lenV, funV, snapP, stateP]
  refine room_loop S h219 h266 s t hn hl hw _ (roomFrom s t.pods 0 s.nodes) (fun ho fr hp nx => ?_) (fun c i ho fr hp nx id h4 hb => ?_) s.nodes 0 rfl (Nat.zero_le _) rfl _ _ _ (Nat.le_refl _) rfl rfl rfl rfl rfl rfl rfl
  · simp only [runL, defL, binV, simprocAttr, List.drop, List.take, lenV, funV, ho, errO]
  · simp only [runL, defL, binV, simprocAttr, List.drop, List.take, lenV, funV, ho, errO, h4, hb, spotE]
set_option maxRecDepth 100000 in
set_option maxHeartbeats 4000000 in
theorem room6_loop (S : Std6r T) (s : Snap) (t : State) (hn : s.nodes.length ≤ 2 ^ 30) (hl : t.pods.length ≤ 2 ^ 30) (hw : ∀ p ∈ t.pods, p.wf) (Q : Exit → St → Prop) (o : Option (Int × Int))
    (hend : o = none → ∀ fr hp nx, Q (.exit 0) ⟨fr, hp, nx⟩)
    (hret : ∀ c i, o = some (c, i) → ∀ fr hp nx, look fr 4 = .pv (.int .i64 c) → look fr 5 = .pv (.int .i64 i) → Q .ret ⟨fr, hp, nx⟩) :
    ∀ (rest : List Node) (i : Nat), s.nodes.drop i = rest → i ≤ s.nodes.length → roomFrom s t.pods i rest = o → ∀ (fr : List (Nat × AV)) (hp : Hl) (nx : Nat), 2 ≤ nx →
      look fr 2 = .ptr 0 0 0 → blkAt hp 0 = .var [.pv (.slice (s.nodes.map nodeC)), .pv (.slice (s.loads.map loadC)), .pv (.slice (s.pods.map podC))] →
      look fr 3 = .ptr 1 0 0 → blkAt hp 1 = .var [.pv (.slice (t.pods.map podC)), .pv (.int .i64 t.pre), .pv (.int .i64 t.shi)] →
      look fr 6 = .pv (.int .i64 i) → Wp T false (.loop f169l0) ⟨fr, hp, nx⟩ Q := by
  intro rest
  induction rest with
  | nil =>
    intro i hd hi ho fr hp nx hnx h2 b0 h3 b1 h6
    have hlen := drop_nil hd hi
    rw [Wp_loop, Wp_eq f169l0.eq_1]
    simp only [runL, defL, binV, simprocAttr, List.drop, List.take, lenV, funV, h2, b0, h6, hlen, Int.lt_irrefl]
    exact hend ho.symm _ _ _
  | cons n r ih =>
    intro i hd hi ho fr hp nx hnx h2 b0 h3 b1 h6
    obtain ⟨hget, hlt, hwi, hd', hi', hb⟩ := drop_cons hd hn
    have n0 : ¬ nx = 0 := by omega
    have n1 : ¬ nx = 1 := by omega
    have k := rest6_ok S s t n.id hn hl hw
    simp only [snapP, stateP, restB, vecP, vecC] at k
    simp only [roomFrom] at ho
    rw [Wp_loop, Wp_eq f169l0.eq_1]
    simp only [runL, defL, binV, simprocAttr, List.drop, List.take, lenV, funV, h2, b0, h6, hlt]
    refine Wp_draw.2 ?_
    rcases restC_range s t.pods n.id with hc | ⟨hc, _, _⟩
    · rw [if_pos hc] at ho
      simp only [hc] at k
      simp only [runL, defL, binV, simprocAttr, List.drop, List.take, lenV, funV, h2, b0, h3, b1, h6, hget, nodeC, k.callE, hwi]
      refine ⟨?_, ih (i + 1) hd' hi' ho _ _ _ ?_ ?_ ?_ ?_ ?_ ?_⟩
      · simp only [chkFrom, allLt, storeB', restOK, mem, indepB, En.reads, aTmps, aTmpsL, aTmpsP, aTmpsO, gTmps, AO.tmps, disj, keys, optL, rdEv, idOf, List.reverse_cons, List.reverse_nil, List.nil_append, List.cons_append, List.append_nil, runL, defL, binV, simprocAttr, List.drop, List.take, lenV, funV, Bool.and_true, Bool.true_and, h2, h3, n0, n1, ne_comm]; rfl
      all_goals try simp only [look_if, blkAt_if, Nat.reduceEqDiff, if_true, if_false, h2, b0, h3, b1, n0, n1]
      all_goals first | omega | skip
    · rw [if_neg hc] at ho
      simp only [runL, defL, binV, simprocAttr, List.drop, List.take, lenV, funV, h2, b0, h3, b1, h6, hget, nodeC, k.callE, hc]
      refine ⟨?_, hret _ _ ho.symm _ _ _ ?_ ?_⟩
      · simp only [chkFrom, allLt, storeB', restOK, mem, indepB, En.reads, aTmps, aTmpsL, aTmpsP, aTmpsO, gTmps, AO.tmps, disj, keys, optL, rdEv, idOf, List.reverse_cons, List.reverse_nil, List.nil_append, List.cons_append, List.append_nil, runL, defL, binV, simprocAttr, List.drop, List.take, lenV, funV, Bool.and_true, Bool.true_and, h2, h3, n0, n1, ne_comm]; rfl
      all_goals simp only [look_if, blkAt_if, Nat.reduceEqDiff, if_true, if_false]
theorem room6_ok (S : Std6r T) (h169 : Std T 169 f169) (s : Snap) (t : State) (hn : s.nodes.length ≤ 2 ^ 30) (hl : t.pods.length ≤ 2 ^ 30) (hw : ∀ p ∈ t.pods, p.wf) : Gives T 169 [snapP s, stateP t] (badO (roomFrom s t.pods 0 s.nodes)) := by
  refine gives h169 rfl ?_
  simp only [f169, runL, defL, binV, simprocAttr, List.drop, List.take, lenV, funV, snapP, stateP]
  refine room6_loop S s t hn hl hw _ (roomFrom s t.pods 0 s.nodes) (fun ho fr hp nx => ?_) (fun c i ho fr hp nx h4 h5 => ?_) s.nodes 0 rfl (Nat.zero_le _) rfl _ _ _ (Nat.le_refl _) rfl rfl rfl rfl rfl
  · simp only [runL, defL, binV, simprocAttr, List.drop, List.take, lenV, funV, ho, badO]
  · simp only [runL, defL, binV, simprocAttr, List.drop, List.take, lenV, funV, ho, badO, h4, h5]
end
end Go.Proofs.YtjmggjlfamjdbaaGreatDoor.Ab
set_option linter.unusedVariables false
namespace Go.Proofs.YtjmggjlfamjdbaaGreatDoor.Ab
open Go
def f223l0 : ACode :=
 (.seq (.ops [
   ⟨some 15, .bin .lss none (.t 14) (.c (.pv (.int .i64 5))), none, []⟩])
  (.seq (.cond (.t 15)
   .skip
   (.exit 0))
  (.seq (.block 1
   (.seq (.ops [
     ⟨some 16, .idxV false 5 1 (.t 13) (.t 14), none, []⟩,
     ⟨some 8, .mv (.t 16), none, [0, 0]⟩])
    (.seq (.ops [
     ⟨some 17, .mv (.t 8), none, []⟩,
     ⟨some 18, .callv (.t 17) [], none, [0]⟩,
     ⟨some 9, .mv (.t 18), none, [1, 1, 0, 1]⟩])
    (.seq (.ops [
     ⟨some 19, .mv (.t 9), none, []⟩,
     ⟨some 20, .bin .neq (some (.iface true)) (.t 19) (.c (.pv .nili)), none, [0]⟩])
    (.cond (.t 20)
     (.seq (.ops [
       ⟨some 21, .mv (.t 9), none, []⟩,
       ⟨some 6, .mv (.t 21), none, [0, 0]⟩])
      .ret)
     .skip)))))
  (.ops [
   ⟨some 22, .bin .add none (.t 14) (.c (.pv (.int .i64 1))), none, []⟩,
   ⟨some 14, .mv (.t 22), none, [0]⟩]))))
def f223 : AFunc := ⟨23, [.t 6],
 (.seq (.ops [
   ⟨some 3, .box (.t 0), none, []⟩,
   ⟨some 4, .box (.t 1), none, []⟩,
   ⟨some 5, .box (.t 2), none, []⟩,
   ⟨some 6, .mv (.c (.pv .nili)), none, []⟩])
  (.seq (.seq (.ops [
   ⟨some 10, .load true 3 (.t 3), none, []⟩,
   ⟨some 11, .load true 3 (.t 4), none, []⟩,
   ⟨some 12, .load true 3 (.t 5), none, []⟩,
   ⟨some 13, .call 224 [(.t 10), (.t 11), (.t 12)], none, [0, 1, 2]⟩,
   ⟨some 14, .mv (.c (.pv (.int .i64 0))), none, []⟩])
  (.block 0
   (.loop f223l0)))
  (.seq (.ops [
   ⟨some 6, .mv (.c (.pv .nili)), none, []⟩])
  .ret)))⟩
def f224 : AFunc := ⟨13, [.cell 6 true 5],
 (.seq (.ops [
   ⟨some 3, .box (.t 0), none, []⟩,
   ⟨some 4, .box (.t 1), none, []⟩,
   ⟨some 5, .box (.t 2), none, []⟩,
   ⟨some 6, .alloc [(.pv .nilf), (.pv .nilf), (.pv .nilf), (.pv .nilf), (.pv .nilf)], none, []⟩])
  (.seq (.ops [
   ⟨some 7, .mkF 225 [] [(.t 3), (.t 5)], none, []⟩,
   ⟨some 8, .mkF 226 [] [(.t 3), (.t 5)], none, []⟩,
   ⟨some 9, .mkF 227 [] [(.t 3), (.t 5)], none, []⟩,
   ⟨some 10, .mkF 228 [] [(.t 3), (.t 5)], none, []⟩,
   ⟨some 11, .mkF 229 [] [(.t 4), (.t 5)], none, []⟩,
   ⟨some 12, .build [(.pv .nilf), (.pv .nilf), (.pv .nilf), (.pv .nilf), (.pv .nilf)] [(0, 1, (.t 7)), (1, 1, (.t 8)), (2, 1, (.t 9)), (3, 1, (.t 10)), (4, 1, (.t 11))], none, [0, 1, 2, 3, 4]⟩,
   ⟨none, .store 5 (.t 6) (.t 12), none, [5, 0, 1, 2, 3, 4, 5]⟩])
  .ret))⟩
def f225 : AFunc := ⟨6, [.t 2],
 (.seq (.ops [
   ⟨some 2, .mv (.c (.pv .nili)), none, []⟩])
  (.seq (.ops [
   ⟨some 3, .load true 3 (.t 0), none, []⟩,
   ⟨some 4, .load true 3 (.t 1), none, []⟩,
   ⟨some 5, .call 219 [(.t 3), (.t 4)], none, [0, 1]⟩,
   ⟨some 2, .mv (.t 5), none, [2, 2, 0, 1, 2]⟩])
  .ret))⟩
def f226 : AFunc := ⟨6, [.t 2],
 (.seq (.ops [
   ⟨some 2, .mv (.c (.pv .nili)), none, []⟩])
  (.seq (.ops [
   ⟨some 3, .load true 3 (.t 0), none, []⟩,
   ⟨some 4, .load true 3 (.t 1), none, []⟩,
   ⟨some 5, .call 68 [(.t 3), (.t 4)], none, [0, 1]⟩,
   ⟨some 2, .mv (.t 5), none, [2, 2, 0, 1, 2]⟩])
  .ret))⟩
def f227 : AFunc := ⟨6, [.t 2],
 (.seq (.ops [
   ⟨some 2, .mv (.c (.pv .nili)), none, []⟩])
  (.seq (.ops [
   ⟨some 3, .load true 3 (.t 0), none, []⟩,
   ⟨some 4, .load true 3 (.t 1), none, []⟩,
   ⟨some 5, .call 234 [(.t 3), (.t 4)], none, [0, 1]⟩,
   ⟨some 2, .mv (.t 5), none, [2, 2, 0, 1, 2]⟩])
  .ret))⟩
def f228 : AFunc := ⟨6, [.t 2],
 (.seq (.ops [
   ⟨some 2, .mv (.c (.pv .nili)), none, []⟩])
  (.seq (.ops [
   ⟨some 3, .load true 3 (.t 0), none, []⟩,
   ⟨some 4, .load true 3 (.t 1), none, []⟩,
   ⟨some 5, .call 70 [(.t 3), (.t 4)], none, [0, 1]⟩,
   ⟨some 2, .mv (.t 5), none, [2, 2, 0, 1, 2]⟩])
  .ret))⟩
def f229 : AFunc := ⟨6, [.t 2],
 (.seq (.ops [
   ⟨some 2, .mv (.c (.pv .nili)), none, []⟩])
  (.seq (.ops [
   ⟨some 3, .load true 3 (.t 0), none, []⟩,
   ⟨some 4, .load true 3 (.t 1), none, []⟩,
   ⟨some 5, .call 72 [(.t 3), (.t 4)], none, [0, 1]⟩,
   ⟨some 2, .mv (.t 5), none, [2, 2, 0, 1, 2]⟩])
  .ret))⟩
end Go.Proofs.YtjmggjlfamjdbaaGreatDoor.Ab
set_option linter.unusedVariables false
set_option linter.unusedSimpArgs false
namespace Go.Proofs.YtjmggjlfamjdbaaGreatDoor.Ab
open Go
/-! ### The spread's Check -/
def spreadFrom (s : Snap) (pods : List Pod) : Nat → List Load → Option (Int × Int)
  | _, [] => none
  | i, l :: r => if 0 < l.skew ∧ l.skew < skewZ s l.id pods then some (11, i) else spreadFrom s pods (i + 1) r
section
variable {T : Tab}
theorem spread_loop (S : Std8 T) (s : Snap) (t : State) (hn : s.nodes.length ≤ 2 ^ 29) (hl : t.pods.length ≤ 2 ^ 29) (hll : s.loads.length ≤ 2 ^ 29) (Q : Exit → St → Prop) (o : Option (Int × Int))
    (hend : o = none → ∀ fr hp nx, Q (.exit 0) ⟨fr, hp, nx⟩)
    (hret : ∀ c i, o = some (c, i) → ∀ fr hp nx id, look fr 4 = .iface 1 (.ptr id 0 0) → blkAt hp id = .var [.pv (.int .i64 i), .pv (.int .i64 c)] → Q .ret ⟨fr, hp, nx⟩) :
    ∀ (rest : List Load) (i : Nat), s.loads.drop i = rest → i ≤ s.loads.length → spreadFrom s t.pods i rest = o → ∀ (fr : List (Nat × AV)) (hp : Hl) (nx : Nat), 2 ≤ nx →
      look fr 2 = .ptr 0 0 0 → look fr 3 = .ptr 1 0 0 → blkAt hp 0 = .var [.pv (.slice (s.nodes.map nodeC)), .pv (.slice (s.loads.map loadC)), .pv (.slice (s.pods.map podC))] →
      blkAt hp 1 = .var [.pv (.slice (t.pods.map podC)), .pv (.int .i64 t.pre), .pv (.int .i64 t.shi)] →
      look fr 8 = .pv (.slice (s.loads.map loadC)) → look fr 9 = .pv (.int .i64 s.loads.length) → look fr 10 = .pv (.int .i64 i) → Wp T false (.loop f234l0) ⟨fr, hp, nx⟩ Q := by
  intro rest
  induction rest with
  | nil =>
    intro i hd hi ho fr hp nx hnx h2 h3 b0 b1 h8 h9 h10
    have hlen := drop_nil hd hi
    rw [Wp_loop, Wp_eq f234l0.eq_1]
    simp only [runL, defL, binV, simprocAttr, List.drop, List.take, h8, h9, h10, hlen, Int.lt_irrefl]
    exact hend ho.symm _ _ _
  | cons l r ih =>
    intro i hd hi ho fr hp nx hnx h2 h3 b0 b1 h8 h9 h10
    obtain ⟨hget, hlt, hw, hd', hi', hb⟩ := drop_cons hd (by omega)
    have n0 : ¬ nx = 0 := by omega
    have n1 : ¬ nx = 1 := by omega
    have k := skew8_ok S s t l.id hn hl
    simp only [snapP, stateP] at k
    simp only [spreadFrom] at ho
    rw [Wp_loop, Wp_eq f234l0.eq_1]
    simp only [runL, defL, binV, simprocAttr, List.drop, List.take, h2, h3, b0, b1, h8, h9, h10, hlt, hget, loadC, n0, n1]
    refine (Wp_calm rfl).2 ?_
    by_cases c1 : 0 < l.skew
    · by_cases c2 : l.skew < skewZ s l.id t.pods
      · rw [if_pos ⟨c1, c2⟩] at ho
        simp only [runL, defL, binV, simprocAttr, List.drop, List.take, h2, h3, b0, b1, h8, h9, h10, n0, n1, k.callD, c1, c2]
        refine hret 11 i ho.symm _ _ _ (nx + 1) ?_ ?_
        all_goals try simp only [look_if, blkAt_if, Nat.reduceEqDiff, if_true, if_false, ]
      · rw [if_neg fun h => c2 h.2] at ho
        simp only [runL, defL, binV, simprocAttr, List.drop, List.take, h2, h3, b0, b1, h8, h9, h10, n0, n1, k.callD, c1, c2, hw]
        refine ih (i + 1) hd' hi' ho _ _ _ (by omega) ?_ ?_ ?_ ?_ ?_ ?_ ?_
        all_goals try simp only [look_if, blkAt_if, Nat.reduceEqDiff, if_true, if_false, h2, h3, b0, b1, h8, h9, n0, n1]
    · rw [if_neg fun h => c1 h.1] at ho
      simp only [runL, defL, binV, simprocAttr, List.drop, List.take, h2, h3, b0, b1, h8, h9, h10, n0, n1, k.callD, c1, hw]
      refine ih (i + 1) hd' hi' ho _ _ _ (by omega) ?_ ?_ ?_ ?_ ?_ ?_ ?_
      all_goals try simp only [look_if, blkAt_if, Nat.reduceEqDiff, if_true, if_false, h2, h3, b0, b1, h8, h9, n0, n1]
theorem spread_ok (S : Std8 T) (h234 : Std T 234 f234) (s : Snap) (t : State) (hn : s.nodes.length ≤ 2 ^ 29) (hl : t.pods.length ≤ 2 ^ 29) (hll : s.loads.length ≤ 2 ^ 29) : Gives T 234 [snapP s, stateP t] (errO (spreadFrom s t.pods 0 s.loads)) := by
  refine gives h234 rfl ?_
  simp only [f234, runL, defL, binV, simprocAttr, List.drop, List.take, snapP, stateP]
  refine spread_loop S s t hn hl hll _ (spreadFrom s t.pods 0 s.loads) (fun ho fr hp nx => ?_) (fun c i ho fr hp nx id h4 hb => ?_) s.loads 0 rfl (Nat.zero_le _) rfl _ _ _ (Nat.le_refl _) rfl rfl rfl rfl rfl rfl rfl
  · simp only [runL, defL, binV, simprocAttr, List.drop, List.take, ho, errO]
  · simp only [runL, defL, binV, simprocAttr, List.drop, List.take, ho, errO, h4, hb, spotE]
/-! ### The five -/
def csP (s : Snap) : PV := .cptr [.slice (s.nodes.map nodeC), .slice (s.loads.map loadC), .slice (s.pods.map podC)] 0
def cxP (x : Spec) : PV := .cptr [.slice (x.wants.map wantC), .int .i64 x.pre, .int .i64 x.shi] 0
def ctP (t : State) : PV := .cptr [.slice (t.pods.map podC), .int .i64 t.pre, .int .i64 t.shi] 0
def fiveP (s : Snap) (x : Spec) (t : State) : List PV := [.func 225 [] [csP s, ctP t], .func 226 [] [csP s, ctP t], .func 227 [] [csP s, ctP t], .func 228 [] [csP s, ctP t], .func 229 [] [cxP x, ctP t]]
structure Std11 (T : Tab) : Prop where
  s6 : Std6 T
  s8 : Std8 T
  h219 : Std T 219 f219
  h266 : StdA T 266
  h68 : Std T 68 f68
  h69 : Std T 69 f69
  h81 : Std T 81 f81
  h234 : Std T 234 f234
  h70 : Std T 70 f70
  h71 : Std T 71 f71
  h72 : Std T 72 f72
  h223 : Std T 223 f223
  h224 : Std T 224 f224
  h225 : Std T 225 f225
  h226 : Std T 226 f226
  h227 : Std T 227 f227
  h228 : Std T 228 f228
  h229 : Std T 229 f229
theorem five_ok (S : Std11 T) (s : Snap) (x : Spec) (t : State) : Gives T 224 [snapP s, specP x, stateP t] (.agg (fiveP s x t)) := by
  refine gives S.h224 rfl ?_
  simp only [f224, runL, defL, binV, simprocAttr, List.drop, List.take, snapP, specP, stateP, mkFun, allPVs, fiveP, csP, cxP, ctP]
theorem c225_ok (S : Std11 T) (s : Snap) (t : State) (hn : s.nodes.length ≤ 2 ^ 29) (hl : t.pods.length ≤ 2 ^ 29) (hw : ∀ p ∈ t.pods, p.wf) : Gives T 225 [csP s, ctP t] (errO (roomFrom s t.pods 0 s.nodes)) := by
  have k := room_ok S.s6 S.h219 S.h266 s t (by omega) (by omega) hw
  simp only [snapP, stateP] at k
  refine gives S.h225 rfl ?_
  simp only [f225, runL, defL, binV, simprocAttr, List.drop, List.take, csP, ctP, k.call]
theorem c226_ok (S : Std11 T) (s : Snap) (t : State) (hn : s.loads.length ≤ 2 ^ 29) (hl : t.pods.length ≤ 2 ^ 29) : Gives T 226 [csP s, ctP t] (errO (apartFrom s.loads [] t.pods)) := by
  have k := apart_ok S.h68 S.h69 S.h81 s t (by omega) (by omega)
  simp only [snapP, stateP] at k
  refine gives S.h226 rfl ?_
  simp only [f226, runL, defL, binV, simprocAttr, List.drop, List.take, csP, ctP, k.call]
theorem c227_ok (S : Std11 T) (s : Snap) (t : State) (hn : s.nodes.length ≤ 2 ^ 29) (hl : t.pods.length ≤ 2 ^ 29) (hll : s.loads.length ≤ 2 ^ 29) : Gives T 227 [csP s, ctP t] (errO (spreadFrom s t.pods 0 s.loads)) := by
  have k := spread_ok S.s8 S.h234 s t hn hl hll
  simp only [snapP, stateP] at k
  refine gives S.h227 rfl ?_
  simp only [f227, runL, defL, binV, simprocAttr, List.drop, List.take, csP, ctP, k.call]
theorem c228_ok (S : Std11 T) (s : Snap) (t : State) (hl : t.pods.length ≤ 2 ^ 29) (hll : s.loads.length ≤ 2 ^ 29) : Gives T 228 [csP s, ctP t] (errO (badLoad t.pods 0 s.loads)) := by
  have k := check9_ok S.h70 S.h71 s t (by omega) (by omega)
  simp only [snapP, stateP] at k
  refine gives S.h228 rfl ?_
  simp only [f228, runL, defL, binV, simprocAttr, List.drop, List.take, csP, ctP, k.call]
theorem c229_ok (S : Std11 T) (x : Spec) (t : State) : Gives T 229 [cxP x, ctP t] (cond (usedB x t) (codeE 15) .nili) := by
  have k := used9_ok S.h72 x t
  simp only [specP, stateP] at k
  refine gives S.h229 rfl ?_
  simp only [f229, runL, defL, binV, simprocAttr, List.drop, List.take, cxP, ctP, k.call]
/-! ### Why, Is -/
def ErrV (r : PV) : Prop := r = .nili ∨ (∃ a n, r = spotE a n) ∨ ∃ n, r = codeE n
theorem errV_O (o : Option (Int × Int)) : ErrV (errO o) := by
  cases o with
  | none => exact .inl rfl
  | some q => exact .inr (.inl ⟨_, _, rfl⟩)
theorem errV_used (x : Spec) (t : State) : ErrV (cond (usedB x t) (codeE 15) .nili) := by
  cases usedB x t
  · exact .inl rfl
  · exact .inr (.inr ⟨_, rfl⟩)
def firstE : List PV → PV
  | [] => .nili
  | .nili :: r => firstE r
  | e :: _ => e
def isNilP : PV → Bool
  | .nili => true
  | _ => false
def errsL (s : Snap) (x : Spec) (t : State) : List PV := [errO (roomFrom s t.pods 0 s.nodes), errO (apartFrom s.loads [] t.pods), errO (spreadFrom s t.pods 0 s.loads), errO (badLoad t.pods 0 s.loads), cond (usedB x t) (codeE 15) .nili]
def whyP (s : Snap) (x : Spec) (t : State) : PV := firstE (errsL s x t)
theorem firstE_V : ∀ (l : List PV), (∀ e ∈ l, ErrV e) → ErrV (firstE l)
  | [], _ => .inl rfl
  | e :: r, h => by
    have h1 := h e (List.mem_cons_self ..)
    have h2 := firstE_V r fun e he => h e (List.mem_cons_of_mem _ he)
    rcases h1 with rfl | ⟨a, n, rfl⟩ | ⟨n, rfl⟩
    · exact h2
    · exact .inr (.inl ⟨_, _, rfl⟩)
    · exact .inr (.inr ⟨_, rfl⟩)
theorem errs_V (s : Snap) (x : Spec) (t : State) : ∀ e ∈ errsL s x t, ErrV e := by
  intro e he
  simp only [errsL, List.mem_cons, List.not_mem_nil, or_false] at he
  rcases he with rfl | rfl | rfl | rfl | rfl
  · exact errV_O _
  · exact errV_O _
  · exact errV_O _
  · exact errV_O _
  · exact errV_used _ _
theorem why_step {fs : List PV} {i n : Nat} {a b r : PV} (hi : i < 5) (hf : fs[i]? = some (.func n [] [a, b])) (k : Gives T n [a, b] r) (hr : ErrV r) (Q : Exit → St → Prop) (fr : List (Nat × AV)) (hp : Hl) (nx : Nat)
    (h13 : look fr 13 = .pv (.agg fs)) (h14 : look fr 14 = .pv (.int .i64 i))
    (hn : r = .nili → ∀ fr', look fr' 13 = .pv (.agg fs) → look fr' 14 = .pv (.int .i64 ((i + 1 : Nat) : Int)) → Wp T false (.loop f223l0) ⟨fr', hp, nx⟩ Q)
    (hs : r ≠ .nili → ∀ fr', look fr' 6 = .pv r → Q .ret ⟨fr', hp, nx⟩) : Wp T false (.loop f223l0) ⟨fr, hp, nx⟩ Q := by
  have hlt : (i : Int) < 5 := by omega
  have hw : IntKind.i64.wrap ((i : Int) + 1) = ((i + 1 : Nat) : Int) := by rw [wrap6] <;> omega
  have hld : loadV false 1 (List.drop (i * 1) (pvs fs)) = some (.pv (.func n [] [a, b])) := by
    have hlen : i < fs.length := (List.getElem?_eq_some_iff.1 hf).1
    have hl2 : i < (pvs fs).length := by rw [pvs_length]; exact hlen
    have hg : (pvs fs)[i]? = some (.pv (.func n [] [a, b])) := by rw [pvs_get, hf]; rfl
    have hg2 : (pvs fs)[i] = .pv (.func n [] [a, b]) := by
      rw [List.getElem?_eq_getElem hl2] at hg
      simpa using hg
    rw [Nat.mul_one, List.drop_eq_getElem_cons hl2, hg2]
    rfl
  rw [Wp_loop, Wp_eq f223l0.eq_1]
  rcases hr with rfl | ⟨c, m, rfl⟩ | ⟨m, rfl⟩
  · simp only [runL, defL, binV, simprocAttr, List.drop, List.take, funQ_some, aggV, h13, h14, hlt, hi, hld, k.call, hw]
    refine hn rfl _ ?_ ?_
    all_goals try simp only [look_if, blkAt_if, Nat.reduceEqDiff, if_true, if_false, h13, h14]
  · simp only [spotE] at k
    simp only [runL, defL, binV, simprocAttr, List.drop, List.take, funQ_some, aggV, h13, h14, hlt, hi, hld, k.call, hw]
    refine hs (by simp [spotE]) _ ?_
    all_goals try simp only [look_if, blkAt_if, Nat.reduceEqDiff, if_true, if_false, spotE]
  · simp only [codeE] at k
    simp only [runL, defL, binV, simprocAttr, List.drop, List.take, funQ_some, aggV, h13, h14, hlt, hi, hld, k.call, hw]
    refine hs (by simp [codeE]) _ ?_
    all_goals try simp only [look_if, blkAt_if, Nat.reduceEqDiff, if_true, if_false, codeE]
theorem firstE_ne {e : PV} {r : List PV} (h : e ≠ .nili) : firstE (e :: r) = e := by
  cases e <;> first | rfl | exact absurd rfl h
theorem why_ok (S : Std11 T) (s : Snap) (x : Spec) (t : State) (hn : s.nodes.length ≤ 2 ^ 29) (hl : t.pods.length ≤ 2 ^ 29) (hll : s.loads.length ≤ 2 ^ 29) (hw : ∀ p ∈ t.pods, p.wf) : Gives T 223 [snapP s, specP x, stateP t] (whyP s x t) := by
  have k0 := five_ok S s x t
  have k1 := c225_ok S s t hn hl hw
  have k2 := c226_ok S s t hll hl
  have k3 := c227_ok S s t hn hl hll
  have k4 := c228_ok S s t hl hll
  have k5 := c229_ok S x t
  simp only [snapP, specP, stateP] at k0
  refine gives S.h223 rfl ?_
  simp only [f223, runL, defL, binV, simprocAttr, List.drop, List.take, snapP, specP, stateP, k0.call]
  unfold whyP errsL
  refine why_step (i := 0) (by omega) rfl k1 (errV_O _) _ _ _ _ rfl rfl (fun e1 fr h13 h14 => ?_) (fun e1 fr h6 => ?_)
  · rw [e1, firstE]
    refine why_step (i := 1) (by omega) rfl k2 (errV_O _) _ _ _ _ h13 h14 (fun e1 fr h13 h14 => ?_) (fun e1 fr h6 => ?_)
    · rw [e1, firstE]
      refine why_step (i := 2) (by omega) rfl k3 (errV_O _) _ _ _ _ h13 h14 (fun e1 fr h13 h14 => ?_) (fun e1 fr h6 => ?_)
      · rw [e1, firstE]
        refine why_step (i := 3) (by omega) rfl k4 (errV_O _) _ _ _ _ h13 h14 (fun e1 fr h13 h14 => ?_) (fun e1 fr h6 => ?_)
        · rw [e1, firstE]
          refine why_step (i := 4) (by omega) rfl k5 (errV_used _ _) _ _ _ _ h13 h14 (fun e1 fr h13 h14 => ?_) (fun e1 fr h6 => ?_)
          · rw [e1, firstE]
            have h14' : look fr 14 = .pv (.int .i64 5) := h14
            rw [Wp_loop, Wp_eq f223l0.eq_1]
            simp only [runL, defL, binV, simprocAttr, List.drop, List.take, h13, h14', Int.lt_irrefl, firstE]
          · rw [firstE_ne e1]
            simp only [runL, defL, binV, simprocAttr, List.drop, List.take, h6]
        · rw [firstE_ne e1]
          simp only [runL, defL, binV, simprocAttr, List.drop, List.take, h6]
      · rw [firstE_ne e1]
        simp only [runL, defL, binV, simprocAttr, List.drop, List.take, h6]
    · rw [firstE_ne e1]
      simp only [runL, defL, binV, simprocAttr, List.drop, List.take, h6]
  · rw [firstE_ne e1]
    simp only [runL, defL, binV, simprocAttr, List.drop, List.take, h6]
end
end Go.Proofs.YtjmggjlfamjdbaaGreatDoor.Ab
set_option linter.unusedVariables false
set_option linter.unusedSimpArgs false
namespace Go.Proofs.YtjmggjlfamjdbaaGreatDoor.Ab
open Go
def as2P (args : List AV) (hp : Hl) (nx : Nat) : Option (AV × Hl × Nat) :=
  match args with
  | [.pv .nili, .iface 2 (.ptr k 0 0)] => some (.pv (.bool false), hp, nx)
  | [.pv (.iface 0 (.int .i64 n)), .iface 2 (.ptr k 0 0)] => match blkAt hp k with
    | .var [.pv .nilp] => some (.pv (.bool false), hp, nx)
    | _ => none
  | [.pv (.iface 1 (.cptr [.int .i64 a, .int .i64 n] 0)), .iface 2 (.ptr k 0 0)] => match blkAt hp k with
    | .var [.pv .nilp] => some (.pv (.bool true), (k, .var [.pv (.cptr [.int .i64 a, .int .i64 n] 0)]) :: hp, nx)
    | _ => none
  | _ => asP args hp nx
theorem Rel.tgt {X : Ctx} {M : Nat → Nat} {F : Fr} {hp : Hl} {nx : Nat} {a : Act} {w : World} (R : Rel X M F (blkAt hp) (fun i => i < nx) a w) {k : Nat} {p0 : PV} {u : Value} (hb : blkAt hp k = .var [.pv p0]) (hu : VA (viewOf X w (fun i => i < nx) M (blkAt hp)) (.ptr k 0 0) u) :
    u = .pointer (some ⟨M k, 0, none⟩) ∧ (∃ old, w.cell? ⟨M k, 0, none⟩ = some old) ∧ w.frozen? ⟨M k, 0, none⟩ = false := by
  simp only [VA, viewOf] at hu
  obtain ⟨_, _, hu⟩ := hu
  have e := hu (0, 0) (by rw [hb]; rfl)
  have hB := R.blk k
  rw [hb] at hB
  obtain ⟨c, t, q1, q2, q3⟩ := hB
  simp only [viewOf] at q1
  have hsz : c.size = 1 := by simpa using q2
  simp only [ARun, and_true] at q3
  obtain ⟨x, q4, _, _⟩ := q3
  refine ⟨by simpa using e, ⟨x, q4⟩, ?_⟩
  simp only [World.frozen?, q1]
  simp
theorem as2P_asP {args : List AV} {hp : Hl} {nx : Nat} {r : AV × Hl × Nat} (h : asP args hp nx = some r) : as2P args hp nx = some r := by
  unfold as2P
  split
  · simp [asP] at h
  · simp [asP] at h
  · simp [asP] at h
  · exact h
structure StdA2 (T : Tab) (n : Nat) : Prop where
  prim : T.prim n = some as2P
  raw : T.raw n = true
theorem StdA2.a {T : Tab} {n : Nat} (S : StdA2 T n) : StdA T n := ⟨⟨_, S.prim, fun _ _ _ _ h => as2P_asP h⟩, S.raw⟩
section
variable {T : Tab} {n : Nat} (S : StdA2 T n)
include S
end
end Go.Proofs.YtjmggjlfamjdbaaGreatDoor.Ab
set_option linter.unusedVariables false
set_option linter.unusedSimpArgs false
namespace Go.Proofs.YtjmggjlfamjdbaaGreatDoor.Ab
open Go
/-! ### Of -/
def codesOf : PV → List Int
  | .iface 0 (.int _ n) => [n]
  | .iface 1 (.cptr [_, .int _ n] _) => [n]
  | _ => []
def codeNo (r : PV) : Int := (codesOf r).headD 0
section
variable {T : Tab}
/-! ### All -/
end
/-! ### The plain law -/
/-! ### The walk -/
end Go.Proofs.YtjmggjlfamjdbaaGreatDoor.Ab
