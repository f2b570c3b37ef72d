/- The layer, part 3: Co08, Sp8, Sp3z, Sp3y, Sp3x. -/
import Derived.Test.YtimkghkokfhfcaaDoorA2
set_option linter.unusedVariables false
namespace Go.Proofs.YtimkghkokfhfcaaDoor.Ab
open Go
def f62 : AFunc := ⟨33, [.t 2],
 (.seq (.ops [
   ⟨some 2, .mv (.c (.pv (.int .u64 0))), none, []⟩])
  (.seq (.draw [
   ⟨some 3, .mv (.t 0), none, []⟩,
   ⟨some 4, .nilchk (.t 3), none, [0]⟩,
   ⟨some 5, .load false 1 (.t 4), none, [1]⟩,
   ⟨some 6, .mv (.t 0), none, []⟩,
   ⟨some 7, .nilchk (.t 6), none, [3]⟩,
   ⟨some 8, .load false 1 (.t 7), none, [4]⟩,
   ⟨some 9, .bin .shl none (.t 8) (.c (.pv (.int .u64 13))), none, [5]⟩,
   ⟨some 10, .bin .xor none (.t 5) (.t 9), none, [2, 6]⟩,
   ⟨some 11, .nilchk (.t 3), none, [0, 0, 1, 2, 3, 4, 5, 6, 7]⟩,
   ⟨none, .store 1 (.t 11) (.t 10), none, [8, 7, 0, 1, 2, 3, 4, 5, 6, 7]⟩])
  (.seq (.draw [
   ⟨some 12, .mv (.t 0), none, []⟩,
   ⟨some 13, .nilchk (.t 12), none, [0]⟩,
   ⟨some 14, .load false 1 (.t 13), none, [1]⟩,
   ⟨some 15, .mv (.t 0), none, []⟩,
   ⟨some 16, .nilchk (.t 15), none, [3]⟩,
   ⟨some 17, .load false 1 (.t 16), none, [4]⟩,
   ⟨some 18, .bin .shr none (.t 17) (.c (.pv (.int .u64 7))), none, [5]⟩,
   ⟨some 19, .bin .xor none (.t 14) (.t 18), none, [2, 6]⟩,
   ⟨some 20, .nilchk (.t 12), none, [0, 0, 1, 2, 3, 4, 5, 6, 7]⟩,
   ⟨none, .store 1 (.t 20) (.t 19), none, [8, 7, 0, 1, 2, 3, 4, 5, 6, 7]⟩])
  (.seq (.draw [
   ⟨some 21, .mv (.t 0), none, []⟩,
   ⟨some 22, .nilchk (.t 21), none, [0]⟩,
   ⟨some 23, .load false 1 (.t 22), none, [1]⟩,
   ⟨some 24, .mv (.t 0), none, []⟩,
   ⟨some 25, .nilchk (.t 24), none, [3]⟩,
   ⟨some 26, .load false 1 (.t 25), none, [4]⟩,
   ⟨some 27, .bin .shl none (.t 26) (.c (.pv (.int .u64 17))), none, [5]⟩,
   ⟨some 28, .bin .xor none (.t 23) (.t 27), none, [2, 6]⟩,
   ⟨some 29, .nilchk (.t 21), none, [0, 0, 1, 2, 3, 4, 5, 6, 7]⟩,
   ⟨none, .store 1 (.t 29) (.t 28), none, [8, 7, 0, 1, 2, 3, 4, 5, 6, 7]⟩])
  (.seq (.ops [
   ⟨some 30, .mv (.t 0), none, []⟩,
   ⟨some 31, .nilchk (.t 30), none, [0]⟩,
   ⟨some 32, .load false 1 (.t 31), none, [1]⟩,
   ⟨some 2, .mv (.t 32), none, [2, 0, 1, 2]⟩])
  .ret)))))⟩
def f84l0 : ACode :=
 (.seq (.ops [
   ⟨some 10, .bin .lss none (.t 9) (.t 8), none, []⟩])
  (.seq (.cond (.t 10)
   .skip
   (.exit 0))
  (.seq (.block 1
   (.seq (.ops [
     ⟨some 11, .idxAddr 10 (.t 7) (.t 9), none, []⟩,
     ⟨some 12, .load true 10 (.t 11), none, [0]⟩,
     ⟨some 5, .alloc [(.pv (.int .i64 0)), (.pv (.int .i64 0)), (.pv (.int .u64 0)), (.pv (.int .u64 0)), (.pv (.int .u64 0)), (.pv (.int .u64 0)), (.pv (.int .u64 0)), (.pv (.int .u64 0)), (.pv (.int .u64 0)), (.pv (.int .u64 0))], none, []⟩,
     ⟨none, .store 10 (.t 5) (.t 12), none, [2, 1, 0, 1, 2]⟩])
    (.ops [
     ⟨some 13, .mv (.t 3), none, []⟩,
     ⟨some 14, .fieldAddr 1 (.t 5), none, []⟩,
     ⟨some 15, .load false 1 (.t 14), none, [1]⟩,
     ⟨some 16, .bslice 1 1 [(.pv (.int .i64 0))] [(0, 1, (.t 15))], none, [2]⟩,
     ⟨some 17, .append 1 8 (.t 13) (.t 16), none, [0, 3]⟩,
     ⟨some 3, .mv (.t 17), none, [4, 4, 0, 1, 2, 3, 4]⟩])))
  (.ops [
   ⟨some 18, .bin .add none (.t 9) (.c (.pv (.int .i64 1))), none, []⟩,
   ⟨some 9, .mv (.t 18), none, [0]⟩]))))
def f84 : AFunc := ⟨23, [.t 2],
 (.seq (.ops [
   ⟨some 1, .box (.t 0), none, []⟩,
   ⟨some 2, .mv (.c .nils), none, []⟩])
  (.seq (.ops [
   ⟨some 3, .mv (.c .nils), none, []⟩])
  (.seq (.seq (.ops [
   ⟨some 6, .fieldAddr 0 (.t 1), none, []⟩,
   ⟨some 7, .load false 1 (.t 6), none, [0]⟩,
   ⟨some 8, .len (.t 7), none, [1]⟩,
   ⟨some 9, .mv (.c (.pv (.int .i64 0))), none, []⟩])
  (.block 0
   (.loop f84l0)))
  (.seq (.ops [
   ⟨some 19, .mv (.t 3), none, []⟩,
   ⟨some 20, .call 293 [(.t 19)], none, [0]⟩])
  (.seq (.ops [
   ⟨some 21, .mv (.t 3), none, []⟩,
   ⟨some 22, .call 281 [(.t 21)], none, [0]⟩,
   ⟨some 2, .mv (.t 22), none, [1, 1, 0, 1]⟩])
  .ret)))))⟩
def f157l0 : ACode :=
 (.seq (.seq (.ops [
   ⟨some 6, .mv (.t 5), none, []⟩,
   ⟨some 7, .fieldAddr 0 (.t 2), none, []⟩,
   ⟨some 8, .load false 1 (.t 7), none, [1]⟩,
   ⟨some 9, .len (.t 8), none, [2]⟩,
   ⟨some 10, .bin .lss none (.t 6) (.t 9), none, [0, 3]⟩])
  (.cond (.t 10)
   .skip
   (.exit 0)))
  (.seq (.block 1
   (.seq (.ops [
     ⟨some 13, .fieldAddr 0 (.t 2), none, []⟩,
     ⟨some 14, .load false 1 (.t 13), none, [0]⟩,
     ⟨some 15, .mv (.t 5), none, []⟩,
     ⟨some 16, .idxAddr 6 (.t 14) (.t 15), none, [1, 2]⟩,
     ⟨some 17, .fieldAddr 0 (.t 16), none, [3]⟩,
     ⟨some 18, .load false 1 (.t 17), none, [4]⟩,
     ⟨some 19, .mv (.t 1), none, []⟩,
     ⟨some 20, .bin .eql none (.t 18) (.t 19), none, [5, 6]⟩])
    (.cond (.t 20)
     (.seq (.ops [
       ⟨some 21, .mv (.t 5), none, []⟩,
       ⟨some 4, .mv (.t 21), none, [0, 0]⟩])
      .ret)
     .skip)))
  (.ops [
   ⟨some 11, .mv (.t 5), none, []⟩,
   ⟨some 12, .bin .add none (.t 11) (.c (.pv (.int .i64 1))), none, [0]⟩,
   ⟨some 5, .mv (.t 12), none, [1, 0, 1]⟩])))
def f157 : AFunc := ⟨22, [.t 4],
 (.seq (.ops [
   ⟨some 2, .box (.t 0), none, []⟩,
   ⟨some 4, .mv (.c (.pv (.int .i64 0))), none, []⟩])
  (.seq (.seq (.ops [
   ⟨some 5, .mv (.c (.pv (.int .i64 0))), none, []⟩])
  (.block 0
   (.loop f157l0)))
  (.seq (.ops [
   ⟨some 4, .mv (.c (.pv (.int .i64 (-1)))), none, []⟩])
  .ret)))⟩
def f158l0 : ACode :=
 (.seq (.seq (.draw [
   ⟨some 14, .mv (.t 5), none, []⟩,
   ⟨some 15, .mv (.t 3), none, []⟩,
   ⟨some 16, .len (.t 15), none, [1]⟩,
   ⟨some 17, .bin .lss none (.t 14) (.t 16), none, [0, 2]⟩,
   ⟨some 18, .mv (.t 17), none, [3]⟩,
   ⟨some 19, .mv (.t 3), some (18, true), [4]⟩,
   ⟨some 20, .mv (.t 5), some (18, true), [4]⟩,
   ⟨some 21, .idxAddr 1 (.t 19) (.t 20), some (18, true), [5, 6, 4]⟩,
   ⟨some 22, .load false 1 (.t 21), some (18, true), [7, 4]⟩,
   ⟨some 23, .fieldAddr 0 (.t 1), some (18, true), [4]⟩,
   ⟨some 24, .load false 1 (.t 23), some (18, true), [9, 4]⟩,
   ⟨some 25, .mv (.t 4), some (18, true), [4]⟩,
   ⟨some 26, .idxAddr 10 (.t 24) (.t 25), some (18, true), [10, 11, 4]⟩,
   ⟨some 27, .fieldAddr 1 (.t 26), some (18, true), [12, 4]⟩,
   ⟨some 28, .load false 1 (.t 27), some (18, true), [13, 4]⟩,
   ⟨some 29, .bin .lss none (.t 22) (.t 28), some (18, true), [8, 14, 4]⟩,
   ⟨some 30, .pick (.t 18) (.t 29) (.c (.pv (.bool false))), none, [4, 15]⟩])
  (.cond (.t 30)
   .skip
   (.exit 2)))
  (.block 3
   (.ops [
     ⟨some 31, .mv (.t 5), none, []⟩,
     ⟨some 32, .bin .add none (.t 31) (.c (.pv (.int .i64 1))), none, [0]⟩,
     ⟨some 5, .mv (.t 32), none, [1, 0, 1]⟩])))
def f158l1 : ACode :=
 (.seq (.seq (.ops [
   ⟨some 7, .mv (.t 4), none, []⟩,
   ⟨some 8, .fieldAddr 0 (.t 1), none, []⟩,
   ⟨some 9, .load false 1 (.t 8), none, [1]⟩,
   ⟨some 10, .len (.t 9), none, [2]⟩,
   ⟨some 11, .bin .lss none (.t 7) (.t 10), none, [0, 3]⟩])
  (.cond (.t 11)
   .skip
   (.exit 0)))
  (.seq (.block 1
   (.seq (.ops [
     ⟨some 5, .mv (.c (.pv (.int .i64 0))), none, []⟩])
    (.seq (.block 2
     (.loop f158l0))
    (.seq (.seq (.draw [
     ⟨some 33, .mv (.t 5), none, []⟩,
     ⟨some 34, .mv (.t 3), none, []⟩,
     ⟨some 35, .len (.t 34), none, [1]⟩,
     ⟨some 36, .bin .lss none (.t 33) (.t 35), none, [0, 2]⟩,
     ⟨some 37, .mv (.t 36), none, [3]⟩,
     ⟨some 38, .mv (.t 3), some (37, true), [4]⟩,
     ⟨some 39, .mv (.t 5), some (37, true), [4]⟩,
     ⟨some 40, .idxAddr 1 (.t 38) (.t 39), some (37, true), [5, 6, 4]⟩,
     ⟨some 41, .load false 1 (.t 40), some (37, true), [7, 4]⟩,
     ⟨some 42, .fieldAddr 0 (.t 1), some (37, true), [4]⟩,
     ⟨some 43, .load false 1 (.t 42), some (37, true), [9, 4]⟩,
     ⟨some 44, .mv (.t 4), some (37, true), [4]⟩,
     ⟨some 45, .idxAddr 10 (.t 43) (.t 44), some (37, true), [10, 11, 4]⟩,
     ⟨some 46, .fieldAddr 1 (.t 45), some (37, true), [12, 4]⟩,
     ⟨some 47, .load false 1 (.t 46), some (37, true), [13, 4]⟩,
     ⟨some 48, .bin .eql none (.t 41) (.t 47), some (37, true), [8, 14, 4]⟩,
     ⟨some 49, .pick (.t 37) (.t 48) (.c (.pv (.bool false))), none, [4, 15]⟩])
    (.cond (.t 49)
     (.exit 1)
     .skip))
    (.seq (.ops [
     ⟨some 50, .bslice 1 0 [] [], none, []⟩,
     ⟨some 51, .mv (.t 3), none, []⟩,
     ⟨some 52, .mv (.t 5), none, []⟩,
     ⟨some 53, .slice 1 (.t 51) none (some (.t 52)), none, [1, 2]⟩,
     ⟨some 54, .append 1 8 (.t 50) (.t 53), none, [0, 3]⟩,
     ⟨some 6, .mv (.t 54), none, [4, 4, 0, 1, 2, 3, 4]⟩])
    (.seq (.ops [
     ⟨some 55, .mv (.t 6), none, []⟩,
     ⟨some 56, .fieldAddr 0 (.t 1), none, []⟩,
     ⟨some 57, .load false 1 (.t 56), none, [1]⟩,
     ⟨some 58, .mv (.t 4), none, []⟩,
     ⟨some 59, .idxAddr 10 (.t 57) (.t 58), none, [2, 3]⟩,
     ⟨some 60, .fieldAddr 1 (.t 59), none, [4]⟩,
     ⟨some 61, .load false 1 (.t 60), none, [5]⟩,
     ⟨some 62, .bslice 1 1 [(.pv (.int .i64 0))] [(0, 1, (.t 61))], none, [6]⟩,
     ⟨some 63, .append 1 8 (.t 55) (.t 62), none, [0, 7]⟩,
     ⟨some 6, .mv (.t 63), none, [8, 8, 0, 1, 2, 3, 4, 5, 6, 7, 8]⟩])
    (.ops [
     ⟨some 64, .mv (.t 6), none, []⟩,
     ⟨some 65, .mv (.t 3), none, []⟩,
     ⟨some 66, .mv (.t 5), none, []⟩,
     ⟨some 67, .slice 1 (.t 65) (some (.t 66)) none, none, [1, 2]⟩,
     ⟨some 68, .append 1 8 (.t 64) (.t 67), none, [0, 3]⟩,
     ⟨some 3, .mv (.t 68), none, [4, 4, 0, 1, 2, 3, 4]⟩])))))))
  (.ops [
   ⟨some 12, .mv (.t 4), none, []⟩,
   ⟨some 13, .bin .add none (.t 12) (.c (.pv (.int .i64 1))), none, [0]⟩,
   ⟨some 4, .mv (.t 13), none, [1, 0, 1]⟩])))
def f158 : AFunc := ⟨70, [.t 2],
 (.seq (.ops [
   ⟨some 1, .box (.t 0), none, []⟩,
   ⟨some 2, .mv (.c .nils), none, []⟩])
  (.seq (.ops [
   ⟨some 3, .mv (.c .nils), none, []⟩])
  (.seq (.seq (.ops [
   ⟨some 4, .mv (.c (.pv (.int .i64 0))), none, []⟩])
  (.block 0
   (.loop f158l1)))
  (.seq (.ops [
   ⟨some 69, .mv (.t 3), none, []⟩,
   ⟨some 2, .mv (.t 69), none, [0, 0]⟩])
  .ret))))⟩
def f235l0 : ACode :=
 (.seq (.ops [
   ⟨some 18, .bin .lss none (.t 17) (.t 16), none, []⟩])
  (.seq (.cond (.t 18)
   .skip
   (.exit 0))
  (.seq (.block 1
   (.seq (.ops [
     ⟨some 19, .idxAddr 8 (.t 15) (.t 17), none, []⟩,
     ⟨some 20, .load true 8 (.t 19), none, [0]⟩,
     ⟨some 11, .alloc [(.pv (.int .i64 0)), (.pv (.int .i64 0)), (.pv (.int .i64 0)), (.pv (.int .u64 0)), (.pv (.int .u64 0)), (.pv (.int .u64 0)), (.pv (.int .u64 0)), (.pv (.int .i64 0))], none, []⟩,
     ⟨none, .store 8 (.t 11) (.t 20), none, [2, 1, 0, 1, 2]⟩])
    (.seq (.ops [
     ⟨some 22, .load true 3 (.t 4), none, []⟩,
     ⟨some 23, .fieldAddr 7 (.t 11), none, []⟩,
     ⟨some 24, .load false 1 (.t 23), none, [1]⟩,
     ⟨some 25, .call 82 [(.t 22), (.t 24)], none, [0, 2]⟩,
     ⟨some 21, .mv (.t 25), none, [3]⟩,
     ⟨some 26, .extract (.t 21) 0, none, [4]⟩,
     ⟨some 27, .extract (.t 21) 1, none, [4]⟩,
     ⟨some 12, .alloc [(.pv (.int .i64 0)), (.pv (.int .i64 0)), (.pv (.int .u64 0)), (.pv (.int .u64 0)), (.pv (.int .u64 0)), (.pv (.int .u64 0)), (.pv (.int .u64 0)), (.pv (.int .u64 0)), (.pv (.int .u64 0)), (.pv (.int .u64 0))], none, []⟩,
     ⟨none, .store 10 (.t 12) (.t 26), none, [7, 5, 3, 0, 1, 2, 3, 4, 5, 7]⟩,
     ⟨some 13, .mv (.t 27), none, [6, 8, 0, 1, 2, 3, 4, 5, 6, 7, 8]⟩])
    (.seq (.ops [
     ⟨some 28, .fieldAddr 1 (.t 11), none, []⟩,
     ⟨some 29, .load false 1 (.t 28), none, [0]⟩,
     ⟨some 30, .mv (.t 2), none, []⟩,
     ⟨some 31, .bin .eql none (.t 29) (.t 30), none, [1, 2]⟩,
     ⟨some 32, .mv (.t 31), none, [3]⟩,
     ⟨some 33, .fieldAddr 7 (.t 11), some (32, true), [4]⟩,
     ⟨some 34, .load false 1 (.t 33), some (32, true), [5, 4]⟩,
     ⟨some 35, .bin .neq none (.t 34) (.c (.pv (.int .i64 0))), some (32, true), [6, 4]⟩,
     ⟨some 36, .pick (.t 32) (.t 35) (.c (.pv (.bool false))), none, [4, 7]⟩,
     ⟨some 37, .mv (.t 36), none, [8, 4]⟩,
     ⟨some 38, .mv (.t 13), some (37, true), [9]⟩,
     ⟨some 39, .pick (.t 37) (.t 38) (.c (.pv (.bool false))), none, [9, 10]⟩,
     ⟨some 40, .mv (.t 39), none, [11, 9]⟩,
     ⟨some 41, .fieldAddr 1 (.t 12), some (40, true), [12]⟩,
     ⟨some 42, .load false 1 (.t 41), some (40, true), [13, 12]⟩,
     ⟨some 43, .mv (.t 3), some (40, true), [12]⟩,
     ⟨some 44, .bin .eql none (.t 42) (.t 43), some (40, true), [14, 15, 12]⟩,
     ⟨some 45, .pick (.t 40) (.t 44) (.c (.pv (.bool false))), none, [12, 16]⟩])
    (.cond (.t 45)
     (.ops [
       ⟨some 46, .mv (.t 9), none, []⟩,
       ⟨some 47, .bin .add none (.t 46) (.c (.pv (.int .i64 1))), none, [0]⟩,
       ⟨some 9, .mv (.t 47), none, [1, 0, 1]⟩])
     .skip)))))
  (.ops [
   ⟨some 48, .bin .add none (.t 17) (.c (.pv (.int .i64 1))), none, []⟩,
   ⟨some 17, .mv (.t 48), none, [0]⟩]))))
def f235 : AFunc := ⟨50, [.t 8],
 (.seq (.ops [
   ⟨some 4, .box (.t 0), none, []⟩,
   ⟨some 5, .box (.t 1), none, []⟩,
   ⟨some 8, .mv (.c (.pv (.int .i64 0))), none, []⟩])
  (.seq (.ops [
   ⟨some 9, .mv (.c (.pv (.int .i64 0))), none, []⟩])
  (.seq (.seq (.ops [
   ⟨some 14, .fieldAddr 0 (.t 5), none, []⟩,
   ⟨some 15, .load false 1 (.t 14), none, [0]⟩,
   ⟨some 16, .len (.t 15), none, [1]⟩,
   ⟨some 17, .mv (.c (.pv (.int .i64 0))), none, []⟩])
  (.block 0
   (.loop f235l0)))
  (.seq (.ops [
   ⟨some 49, .mv (.t 9), none, []⟩,
   ⟨some 8, .mv (.t 49), none, [0, 0]⟩])
  .ret))))⟩
def f236l0 : ACode :=
 (.seq (.ops [
   ⟨some 14, .bin .lss none (.t 13) (.t 12), none, []⟩])
  (.seq (.cond (.t 14)
   .skip
   (.exit 0))
  (.seq (.block 1
   (.seq (.ops [
     ⟨some 15, .idxAddr 1 (.t 11) (.t 13), none, []⟩,
     ⟨some 16, .load false 1 (.t 15), none, [0]⟩,
     ⟨some 9, .mv (.t 16), none, [1, 0, 1]⟩])
    (.ops [
     ⟨some 17, .mv (.t 7), none, []⟩,
     ⟨some 18, .load true 3 (.t 3), none, []⟩,
     ⟨some 19, .load true 3 (.t 4), none, []⟩,
     ⟨some 20, .mv (.t 2), none, []⟩,
     ⟨some 21, .mv (.t 9), none, []⟩,
     ⟨some 22, .call 235 [(.t 18), (.t 19), (.t 20), (.t 21)], none, [1, 2, 3, 4]⟩,
     ⟨some 23, .bslice 1 1 [(.pv (.int .i64 0))] [(0, 1, (.t 22))], none, [5]⟩,
     ⟨some 24, .append 1 8 (.t 17) (.t 23), none, [0, 6, 5]⟩,
     ⟨some 7, .mv (.t 24), none, [7, 7, 0, 1, 2, 3, 4, 5, 6, 7]⟩])))
  (.ops [
   ⟨some 25, .bin .add none (.t 13) (.c (.pv (.int .i64 1))), none, []⟩,
   ⟨some 13, .mv (.t 25), none, [0]⟩]))))
def f236 : AFunc := ⟨34, [.t 6],
 (.seq (.ops [
   ⟨some 3, .box (.t 0), none, []⟩,
   ⟨some 4, .box (.t 1), none, []⟩,
   ⟨some 6, .mv (.c (.pv (.int .i64 0))), none, []⟩])
  (.seq (.ops [
   ⟨some 7, .mv (.c .nils), none, []⟩])
  (.seq (.seq (.ops [
   ⟨some 10, .load true 3 (.t 3), none, []⟩,
   ⟨some 11, .call 84 [(.t 10)], none, [0]⟩,
   ⟨some 12, .len (.t 11), none, [1]⟩,
   ⟨some 13, .mv (.c (.pv (.int .i64 0))), none, []⟩])
  (.block 0
   (.loop f236l0)))
  (.seq (.seq (.ops [
   ⟨some 26, .mv (.t 7), none, []⟩,
   ⟨some 27, .len (.t 26), none, [0]⟩,
   ⟨some 28, .bin .eql none (.t 27) (.c (.pv (.int .i64 0))), none, [1]⟩])
  (.cond (.t 28)
   (.seq (.ops [
     ⟨some 6, .mv (.c (.pv (.int .i64 0))), none, []⟩])
    .ret)
   .skip))
  (.seq (.ops [
   ⟨some 29, .mv (.t 7), none, []⟩,
   ⟨some 30, .call 290 [(.t 29)], none, [0]⟩,
   ⟨some 31, .mv (.t 7), none, []⟩,
   ⟨some 32, .call 291 [(.t 31)], none, [2, 1]⟩,
   ⟨some 33, .bin .sub none (.t 30) (.t 32), none, [1, 3]⟩,
   ⟨some 6, .mv (.t 33), none, [4, 3, 0, 1, 2, 3, 4]⟩])
  .ret)))))⟩
def f355l0 : ACode :=
 (.seq (.seq (.ops [
   ⟨some 146, .mv (.t 20), none, []⟩,
   ⟨some 147, .mv (.t 18), none, []⟩,
   ⟨some 148, .len (.t 147), none, [1]⟩,
   ⟨some 149, .bin .lss none (.t 146) (.t 148), none, [0, 2]⟩])
  (.cond (.t 149)
   .skip
   (.exit 0)))
  (.seq (.block 1
   (.seq (.draw [
     ⟨some 152, .mv (.t 18), none, []⟩,
     ⟨some 153, .mv (.t 20), none, []⟩,
     ⟨some 154, .idxAddr 1 (.t 152) (.t 153), none, [0, 1]⟩,
     ⟨some 155, .load false 1 (.t 154), none, [2]⟩,
     ⟨some 156, .mv (.t 19), none, []⟩,
     ⟨some 157, .mv (.t 20), none, []⟩,
     ⟨some 158, .idxAddr 1 (.t 156) (.t 157), none, [4, 5]⟩,
     ⟨some 159, .load false 1 (.t 158), none, [6]⟩,
     ⟨some 160, .bin .neq none (.t 155) (.t 159), none, [3, 7]⟩])
    (.cond (.t 160)
     (.seq (.ops [
       ⟨some 6, .mv (.c (.pv (.bool false))), none, []⟩])
      .ret)
     .skip)))
  (.ops [
   ⟨some 150, .mv (.t 20), none, []⟩,
   ⟨some 151, .bin .add none (.t 150) (.c (.pv (.int .i64 1))), none, [0]⟩,
   ⟨some 20, .mv (.t 151), none, [1, 0, 1]⟩])))
def f355 : AFunc := ⟨162, [.t 6],
 (.seq (.ops [
   ⟨some 3, .box (.t 0), none, []⟩,
   ⟨some 4, .box (.t 1), none, []⟩,
   ⟨some 6, .mv (.c (.pv (.bool false))), none, []⟩])
  (.seq (.ops [
   ⟨some 21, .call 341 [], none, []⟩,
   ⟨some 7, .mv (.t 21), none, [0, 0, 0]⟩])
  (.seq (.ops [
   ⟨some 22, .load true 3 (.t 3), none, []⟩,
   ⟨some 23, .call 153 [(.t 22)], none, [0]⟩,
   ⟨some 8, .mv (.t 23), none, [1, 1, 0, 1]⟩])
  (.seq (.seq (.ops [
   ⟨some 24, .mv (.t 8), none, []⟩,
   ⟨some 25, .not (.t 24), none, [0]⟩,
   ⟨some 26, .mv (.t 25), none, [1]⟩,
   ⟨some 27, .fieldAddr 0 (.t 4), some (26, false), [2]⟩,
   ⟨some 28, .load false 1 (.t 27), some (26, false), [3, 2]⟩,
   ⟨some 29, .len (.t 28), some (26, false), [4, 2]⟩,
   ⟨some 30, .bin .gtr none (.t 29) (.c (.pv (.int .i64 40))), some (26, false), [5, 2]⟩,
   ⟨some 31, .pick (.t 26) (.c (.pv (.bool true))) (.t 30), none, [2, 6]⟩])
  (.cond (.t 31)
   (.seq (.ops [
     ⟨some 32, .mv (.t 7), none, []⟩,
     ⟨some 6, .mv (.t 32), none, [0, 0]⟩])
    .ret)
   .skip))
  (.seq (.ops [
   ⟨some 34, .load true 3 (.t 3), none, []⟩,
   ⟨some 35, .mv (.t 2), none, []⟩,
   ⟨some 36, .call 82 [(.t 34), (.t 35)], none, [0, 1]⟩,
   ⟨some 33, .mv (.t 36), none, [2]⟩,
   ⟨some 37, .extract (.t 33) 0, none, [3]⟩,
   ⟨some 38, .extract (.t 33) 1, none, [3]⟩,
   ⟨some 9, .alloc [(.pv (.int .i64 0)), (.pv (.int .i64 0)), (.pv (.int .u64 0)), (.pv (.int .u64 0)), (.pv (.int .u64 0)), (.pv (.int .u64 0)), (.pv (.int .u64 0)), (.pv (.int .u64 0)), (.pv (.int .u64 0)), (.pv (.int .u64 0))], none, []⟩,
   ⟨none, .store 10 (.t 9) (.t 37), none, [6, 4, 2, 0, 1, 2, 3, 4, 6]⟩,
   ⟨some 10, .mv (.t 38), none, [5, 7, 0, 1, 2, 3, 4, 5, 6, 7]⟩])
  (.seq (.ops [
   ⟨some 40, .load true 3 (.t 3), none, []⟩,
   ⟨some 41, .mv (.t 2), none, []⟩,
   ⟨some 42, .call 81 [(.t 40), (.t 41)], none, [0, 1]⟩,
   ⟨some 39, .mv (.t 42), none, [2]⟩,
   ⟨some 43, .extract (.t 39) 0, none, [3]⟩,
   ⟨some 44, .extract (.t 39) 1, none, [3]⟩,
   ⟨some 11, .alloc [(.pv (.int .i64 0)), (.pv (.bool false)), (.pv (.int .i64 0)), (.pv (.int .i64 0)), (.pv (.int .i64 0))], none, []⟩,
   ⟨none, .store 5 (.t 11) (.t 43), none, [6, 4, 2, 0, 1, 2, 3, 4, 6]⟩,
   ⟨some 12, .mv (.t 44), none, [5, 7, 0, 1, 2, 3, 4, 5, 6, 7]⟩])
  (.seq (.ops [
   ⟨some 46, .load true 3 (.t 4), none, []⟩,
   ⟨some 47, .mv (.t 2), none, []⟩,
   ⟨some 48, .call 83 [(.t 46), (.t 47)], none, [0, 1]⟩,
   ⟨some 45, .mv (.t 48), none, [2]⟩,
   ⟨some 49, .extract (.t 45) 0, none, [3]⟩,
   ⟨some 50, .extract (.t 45) 1, none, [3]⟩,
   ⟨some 13, .alloc [(.pv (.int .i64 0)), (.pv (.int .u64 0)), (.pv (.int .u64 0)), (.pv (.int .u64 0)), (.pv (.int .u64 0)), (.pv (.bool false))], none, []⟩,
   ⟨none, .store 6 (.t 13) (.t 49), none, [6, 4, 2, 0, 1, 2, 3, 4, 6]⟩,
   ⟨some 14, .mv (.t 50), none, [5, 7, 0, 1, 2, 3, 4, 5, 6, 7]⟩])
  (.seq (.ops [
   ⟨some 51, .load true 3 (.t 3), none, []⟩,
   ⟨some 52, .mv (.t 2), none, []⟩,
   ⟨some 53, .call 155 [(.t 51), (.t 52)], none, [0, 1]⟩,
   ⟨some 15, .mv (.t 53), none, [2, 2, 0, 1, 2]⟩])
  (.seq (.ops [
   ⟨some 54, .load true 3 (.t 3), none, []⟩,
   ⟨some 55, .mv (.t 2), none, []⟩,
   ⟨some 56, .call 154 [(.t 54), (.t 55)], none, [0, 1]⟩,
   ⟨some 16, .mv (.t 56), none, [2, 2, 0, 1, 2]⟩])
  (.seq (.ops [
   ⟨some 57, .load true 3 (.t 4), none, []⟩,
   ⟨some 58, .mv (.t 2), none, []⟩,
   ⟨some 59, .call 157 [(.t 57), (.t 58)], none, [0, 1]⟩,
   ⟨some 17, .mv (.t 59), none, [2, 2, 0, 1, 2]⟩])
  (.seq (.seq (.ops [
   ⟨some 60, .mv (.t 10), none, []⟩,
   ⟨some 61, .mv (.t 15), none, []⟩,
   ⟨some 62, .bin .geq none (.t 61) (.c (.pv (.int .i64 0))), none, [1]⟩,
   ⟨some 63, .bin .neq (some .bool) (.t 60) (.t 62), none, [0, 2]⟩,
   ⟨some 64, .mv (.t 63), none, [3]⟩,
   ⟨some 65, .mv (.t 12), some (64, false), [4]⟩,
   ⟨some 66, .mv (.t 16), some (64, false), [4]⟩,
   ⟨some 67, .bin .geq none (.t 66) (.c (.pv (.int .i64 0))), some (64, false), [6, 4]⟩,
   ⟨some 68, .bin .neq (some .bool) (.t 65) (.t 67), some (64, false), [5, 7, 4]⟩,
   ⟨some 69, .pick (.t 64) (.c (.pv (.bool true))) (.t 68), none, [4, 8]⟩,
   ⟨some 70, .mv (.t 69), none, [9, 4]⟩,
   ⟨some 71, .mv (.t 14), some (70, false), [10]⟩,
   ⟨some 72, .mv (.t 17), some (70, false), [10]⟩,
   ⟨some 73, .bin .geq none (.t 72) (.c (.pv (.int .i64 0))), some (70, false), [12, 10]⟩,
   ⟨some 74, .bin .neq (some .bool) (.t 71) (.t 73), some (70, false), [11, 13, 10]⟩,
   ⟨some 75, .pick (.t 70) (.c (.pv (.bool true))) (.t 74), none, [10, 14]⟩])
  (.cond (.t 75)
   (.seq (.ops [
     ⟨some 6, .mv (.c (.pv (.bool false))), none, []⟩])
    .ret)
   .skip))
  (.seq (.seq (.draw [
   ⟨some 76, .mv (.t 10), none, []⟩,
   ⟨some 77, .mv (.t 76), none, [0]⟩,
   ⟨some 78, .load true 10 (.t 9), some (77, true), [1]⟩,
   ⟨some 79, .fieldAddr 0 (.t 3), some (77, true), [1]⟩,
   ⟨some 80, .load false 1 (.t 79), some (77, true), [3, 1]⟩,
   ⟨some 81, .mv (.t 15), some (77, true), [1]⟩,
   ⟨some 82, .idxAddr 10 (.t 80) (.t 81), some (77, true), [4, 5, 1]⟩,
   ⟨some 83, .load true 10 (.t 82), some (77, true), [6, 1]⟩,
   ⟨some 84, .bin .neq (some (.plain [false, false, false, false, false, false, false, false, false, false])) (.t 78) (.t 83), some (77, true), [2, 7, 1]⟩,
   ⟨some 85, .pick (.t 77) (.t 84) (.c (.pv (.bool false))), none, [1, 8]⟩,
   ⟨some 86, .mv (.t 85), none, [9, 1]⟩,
   ⟨some 87, .mv (.t 12), some (86, false), [10]⟩,
   ⟨some 88, .mv (.t 87), some (86, false), [11, 10, 10]⟩,
   ⟨some 89, .load true 5 (.t 11), some (88, true), [12]⟩,
   ⟨some 90, .fieldAddr 1 (.t 3), some (88, true), [12]⟩,
   ⟨some 91, .load false 1 (.t 90), some (88, true), [14, 12]⟩,
   ⟨some 92, .mv (.t 16), some (88, true), [12]⟩,
   ⟨some 93, .idxAddr 5 (.t 91) (.t 92), some (88, true), [15, 16, 12]⟩,
   ⟨some 94, .load true 5 (.t 93), some (88, true), [17, 12]⟩,
   ⟨some 95, .bin .neq (some (.plain [false, true, false, false, false])) (.t 89) (.t 94), some (88, true), [13, 18, 12]⟩,
   ⟨some 96, .pick (.t 88) (.t 95) (.c (.pv (.bool false))), some (86, false), [12, 19, 10]⟩,
   ⟨some 97, .pick (.t 86) (.c (.pv (.bool true))) (.t 96), none, [10, 20]⟩,
   ⟨some 98, .mv (.t 97), none, [21, 12]⟩,
   ⟨some 99, .mv (.t 14), some (98, false), [22]⟩,
   ⟨some 100, .mv (.t 99), some (98, false), [23, 22, 22]⟩,
   ⟨some 101, .load true 6 (.t 13), some (100, true), [24]⟩,
   ⟨some 102, .fieldAddr 0 (.t 4), some (100, true), [24]⟩,
   ⟨some 103, .load false 1 (.t 102), some (100, true), [26, 24]⟩,
   ⟨some 104, .mv (.t 17), some (100, true), [24]⟩,
   ⟨some 105, .idxAddr 6 (.t 103) (.t 104), some (100, true), [27, 28, 24]⟩,
   ⟨some 106, .load true 6 (.t 105), some (100, true), [29, 24]⟩,
   ⟨some 107, .bin .neq (some (.plain [false, false, false, false, false, true])) (.t 101) (.t 106), some (100, true), [25, 30, 24]⟩,
   ⟨some 108, .pick (.t 100) (.t 107) (.c (.pv (.bool false))), some (98, false), [24, 31, 22]⟩,
   ⟨some 109, .pick (.t 98) (.c (.pv (.bool true))) (.t 108), none, [22, 32]⟩,
   ⟨some 110, .mv (.t 109), none, [33, 24]⟩,
   ⟨some 111, .mv (.t 10), some (110, false), [34]⟩,
   ⟨some 112, .not (.t 111), some (110, false), [35, 34]⟩,
   ⟨some 113, .mv (.t 112), some (110, false), [36, 34, 34]⟩,
   ⟨some 114, .load true 10 (.t 9), some (113, true), [37]⟩,
   ⟨some 115, .build [(.pv (.int .i64 0)), (.pv (.int .i64 0)), (.pv (.int .u64 0)), (.pv (.int .u64 0)), (.pv (.int .u64 0)), (.pv (.int .u64 0)), (.pv (.int .u64 0)), (.pv (.int .u64 0)), (.pv (.int .u64 0)), (.pv (.int .u64 0))] [], some (113, true), [37]⟩,
   ⟨some 116, .bin .neq (some (.plain [false, false, false, false, false, false, false, false, false, false])) (.t 114) (.t 115), some (113, true), [38, 39, 37]⟩,
   ⟨some 117, .pick (.t 113) (.t 116) (.c (.pv (.bool false))), some (110, false), [37, 40, 34]⟩,
   ⟨some 118, .pick (.t 110) (.c (.pv (.bool true))) (.t 117), none, [34, 41]⟩,
   ⟨some 119, .mv (.t 118), none, [42, 37]⟩,
   ⟨some 120, .mv (.t 12), some (119, false), [43]⟩,
   ⟨some 121, .not (.t 120), some (119, false), [44, 43]⟩,
   ⟨some 122, .mv (.t 121), some (119, false), [45, 43, 43]⟩,
   ⟨some 123, .load true 5 (.t 11), some (122, true), [46]⟩,
   ⟨some 124, .build [(.pv (.int .i64 0)), (.pv (.bool false)), (.pv (.int .i64 0)), (.pv (.int .i64 0)), (.pv (.int .i64 0))] [], some (122, true), [46]⟩,
   ⟨some 125, .bin .neq (some (.plain [false, true, false, false, false])) (.t 123) (.t 124), some (122, true), [47, 48, 46]⟩,
   ⟨some 126, .pick (.t 122) (.t 125) (.c (.pv (.bool false))), some (119, false), [46, 49, 43]⟩,
   ⟨some 127, .pick (.t 119) (.c (.pv (.bool true))) (.t 126), none, [43, 50]⟩,
   ⟨some 128, .mv (.t 127), none, [51, 46]⟩,
   ⟨some 129, .mv (.t 14), some (128, false), [52]⟩,
   ⟨some 130, .not (.t 129), some (128, false), [53, 52]⟩,
   ⟨some 131, .mv (.t 130), some (128, false), [54, 52, 52]⟩,
   ⟨some 132, .load true 6 (.t 13), some (131, true), [55]⟩,
   ⟨some 133, .build [(.pv (.int .i64 0)), (.pv (.int .u64 0)), (.pv (.int .u64 0)), (.pv (.int .u64 0)), (.pv (.int .u64 0)), (.pv (.bool false))] [], some (131, true), [55]⟩,
   ⟨some 134, .bin .neq (some (.plain [false, false, false, false, false, true])) (.t 132) (.t 133), some (131, true), [56, 57, 55]⟩,
   ⟨some 135, .pick (.t 131) (.t 134) (.c (.pv (.bool false))), some (128, false), [55, 58, 52]⟩,
   ⟨some 136, .pick (.t 128) (.c (.pv (.bool true))) (.t 135), none, [52, 59]⟩])
  (.cond (.t 136)
   (.seq (.ops [
     ⟨some 6, .mv (.c (.pv (.bool false))), none, []⟩])
    .ret)
   .skip))
  (.seq (.ops [
   ⟨some 137, .load true 3 (.t 3), none, []⟩,
   ⟨some 138, .call 84 [(.t 137)], none, [0]⟩,
   ⟨some 18, .mv (.t 138), none, [1, 1, 0, 1]⟩])
  (.seq (.ops [
   ⟨some 139, .load true 3 (.t 3), none, []⟩,
   ⟨some 140, .call 158 [(.t 139)], none, [0]⟩,
   ⟨some 19, .mv (.t 140), none, [1, 1, 0, 1]⟩])
  (.seq (.seq (.ops [
   ⟨some 141, .mv (.t 18), none, []⟩,
   ⟨some 142, .len (.t 141), none, [0]⟩,
   ⟨some 143, .mv (.t 19), none, []⟩,
   ⟨some 144, .len (.t 143), none, [2]⟩,
   ⟨some 145, .bin .neq none (.t 142) (.t 144), none, [1, 3]⟩])
  (.cond (.t 145)
   (.seq (.ops [
     ⟨some 6, .mv (.c (.pv (.bool false))), none, []⟩])
    .ret)
   .skip))
  (.seq (.seq (.ops [
   ⟨some 20, .mv (.c (.pv (.int .i64 0))), none, []⟩])
  (.block 0
   (.loop f355l0)))
  (.seq (.ops [
   ⟨some 161, .mv (.t 7), none, []⟩,
   ⟨some 6, .mv (.t 161), none, [0, 0]⟩])
  .ret)))))))))))))))))⟩
end Go.Proofs.YtimkghkokfhfcaaDoor.Ab
set_option linter.unusedVariables false
set_option linter.unusedSimpArgs false
namespace Go.Proofs.YtimkghkokfhfcaaDoor.Ab
open Go
def zonesL (s : Snap) : List Int := risesL (s.nodes.map Node.zone)
structure StdZ (T : Tab) : Prop where
  p293 : T.prim 293 = some sortP
  r293 : T.raw 293 = true
  p281 : T.prim 281 = some compP
  r281 : T.raw 281 = true
  h84 : Std T 84 f84
section
variable {T : Tab}
theorem zones_loop (s : Snap) (hl : s.nodes.length ≤ 2 ^ 29) (Q : Exit → St → Prop)
    (hend : ∀ fr hp nx, Own (look fr 3) hp 1 ((s.nodes.map Node.zone).map i64C) 1 nx → Q (.exit 0) ⟨fr, hp, nx⟩) :
    ∀ (rest : List Node) (i : Nat) (acc : List Int), s.nodes.drop i = rest → i ≤ s.nodes.length → acc ++ rest.map Node.zone = s.nodes.map Node.zone → ∀ (fr : List (Nat × AV)) (hp : Hl) (nx : Nat), 1 ≤ nx → look fr 7 = .pv (.slice (s.nodes.map nodeC)) → look fr 8 = .pv (.int .i64 s.nodes.length) → look fr 9 = .pv (.int .i64 i) →
      Own (look fr 3) hp 1 (acc.map i64C) 1 nx → Wp T false (.loop f84l0) ⟨fr, hp, nx⟩ Q := by
  intro rest
  induction rest with
  | nil =>
    intro i acc hd hi ho fr hp nx hnx h7 h8 h9 h3
    have hlen := drop_nil hd hi
    simp only [List.map_nil, List.append_nil] at ho
    subst ho
    rw [Wp_loop, Wp_eq f84l0.eq_1]
    simp only [runL, opQ, evOp, evO, evOs, guardV, argsA, pvs, putS, cellsOf, scals, scal, Nat.reduceEqDiff, Nat.reduceAdd, reduceCtorEq, fieldA, nonNil, cellsAt, mkAgg, allPV, storeB, patchL, Int.reduceToNat, Nat.reduceMul, Nat.reduceLT, stepA, Int.reduceNeg, Int.reduceLE, Int.reduceLT, Int.reduceEq, extractV, mkAgg, Nat.reduceLeDiff, fillA, pureVs, pureV, eqV, eqB, lenV.eq_1, lenV.eq_2, lenV.eq_3, lenV.eq_4, binV, intBin, intV, idxA, List.drop, List.take, RetP, retP, resV, resOne, snapV, snapVs, snapR, snapRs, ownSz, pickV, AO.isC, opE, opD, funV.eq_1, funV.eq_2, h7, h8, h9, hlen, Int.lt_irrefl]
    exact hend _ _ _ (by simp only [look_if, blkAt_if, Nat.reduceEqDiff, if_true, if_false]; exact h3)
  | cons n r ih =>
    intro i acc hd hi ho fr hp nx hnx h7 h8 h9 h3
    obtain ⟨hget, hlt, hw, hd', hi', hb⟩ := drop_cons hd (by omega)
    have hlen : acc.length + 1 ≤ 2 ^ 30 := by
      have := congrArg List.length ho
      simp at this
      omega
    have hp1 := ((h3.over (i := nx) (b := .var [.pv (.int .i64 0), .pv (.int .i64 0), .pv (.int .u64 0), .pv (.int .u64 0), .pv (.int .u64 0), .pv (.int .u64 0), .pv (.int .u64 0), .pv (.int .u64 0), .pv (.int .u64 0), .pv (.int .u64 0)]) (.inr (Nat.le_refl _))).over (i := nx) (b := .var (pvs (nodeC n))) (.inr (Nat.le_refl _))).up (Nat.le_succ nx)
    obtain ⟨v', W, k, a1, a2, a3⟩ := hp1.app1 (by omega) (i64C n.zone) (by rw [List.length_map]; omega)
    simp only [i64C, nodeC, pvs] at a1 a3
    rw [Wp_loop, Wp_eq f84l0.eq_1]
    simp only [runL, opQ, evOp, evO, evOs, guardV, argsA, pvs, putS, cellsOf, scals, scal, Nat.reduceEqDiff, Nat.reduceAdd, reduceCtorEq, fieldA, nonNil, cellsAt, mkAgg, allPV, storeB, patchL, Int.reduceToNat, Nat.reduceMul, Nat.reduceLT, stepA, Int.reduceNeg, Int.reduceLE, Int.reduceLT, Int.reduceEq, extractV, mkAgg, Nat.reduceLeDiff, fillA, pureVs, pureV, eqV, eqB, lenV.eq_1, lenV.eq_2, lenV.eq_3, lenV.eq_4, binV, intBin, intV, idxA, List.drop, List.take, RetP, retP, resV, resOne, snapV, snapVs, snapR, snapRs, ownSz, pickV, AO.isC, opE, opD, funV.eq_1, funV.eq_2, h7, h8, h9, hlt, hget, nodeC, partsScal, srcV, chunk, allLen, List.all_cons, List.all_nil, a1, hw]
    refine ih (i + 1) (acc ++ [n.zone]) hd' hi' (by rw [← ho]; simp) _ _ _ (by omega) ?_ ?_ ?_ ?_
    all_goals try simp only [look_if, blkAt_if, Nat.reduceEqDiff, if_true, if_false, h7, h8]
    simpa only [List.map_append, List.map_cons, List.map_nil, i64C] using a3
theorem zones_ok (S : StdZ T) (s : Snap) (hl : s.nodes.length ≤ 2 ^ 29) : Gives T 84 [snapP s] (.slice ((zonesL s).map i64C)) := by
  refine gives S.h84 rfl ?_
  simp only [f84, runL, opQ, evOp, evO, evOs, guardV, argsA, pvs, putS, cellsOf, scals, scal, Nat.reduceEqDiff, Nat.reduceAdd, reduceCtorEq, fieldA, nonNil, cellsAt, mkAgg, allPV, storeB, patchL, Int.reduceToNat, Nat.reduceMul, Nat.reduceLT, stepA, Int.reduceNeg, Int.reduceLE, Int.reduceLT, Int.reduceEq, extractV, mkAgg, Nat.reduceLeDiff, fillA, pureVs, pureV, eqV, eqB, lenV.eq_1, lenV.eq_2, lenV.eq_3, lenV.eq_4, binV, intBin, intV, idxA, List.drop, List.take, RetP, retP, resV, resOne, snapV, snapVs, snapR, snapRs, ownSz, pickV, AO.isC, opE, opD, funV.eq_1, funV.eq_2, snapP]
  refine zones_loop s hl _ (fun fr hp nx h3 => ?_) s.nodes 0 [] rfl (Nat.zero_le _) rfl _ _ _ (Nat.le_refl _) rfl rfl rfl Own.nil
  rcases h3 with ⟨he, h3⟩ | ⟨id, h3, i1, i2, i3⟩
  · have hz : s.nodes.map Node.zone = [] := by simpa using he
    simp only [runL, opQ, evOp, evO, evOs, guardV, argsA, pvs, putS, cellsOf, scals, scal, Nat.reduceEqDiff, Nat.reduceAdd, reduceCtorEq, fieldA, nonNil, cellsAt, mkAgg, allPV, storeB, patchL, Int.reduceToNat, Nat.reduceMul, Nat.reduceLT, stepA, Int.reduceNeg, Int.reduceLE, Int.reduceLT, Int.reduceEq, extractV, mkAgg, Nat.reduceLeDiff, fillA, pureVs, pureV, eqV, eqB, lenV.eq_1, lenV.eq_2, lenV.eq_3, lenV.eq_4, binV, intBin, intV, idxA, List.drop, List.take, RetP, retP, resV, resOne, snapV, snapVs, snapR, snapRs, ownSz, pickV, AO.isC, opE, opD, funV.eq_1, funV.eq_2, h3]
    rw [callQ_raw S.r293 (D_prim S.p293 (show sortP [.nils] hp nx = some (.pv (.tuple []), hp, nx) from rfl))]
    simp only [runL, opQ, evOp, evO, evOs, guardV, argsA, pvs, putS, cellsOf, scals, scal, Nat.reduceEqDiff, Nat.reduceAdd, reduceCtorEq, fieldA, nonNil, cellsAt, mkAgg, allPV, storeB, patchL, Int.reduceToNat, Nat.reduceMul, Nat.reduceLT, stepA, Int.reduceNeg, Int.reduceLE, Int.reduceLT, Int.reduceEq, extractV, mkAgg, Nat.reduceLeDiff, fillA, pureVs, pureV, eqV, eqB, lenV.eq_1, lenV.eq_2, lenV.eq_3, lenV.eq_4, binV, intBin, intV, idxA, List.drop, List.take, RetP, retP, resV, resOne, snapV, snapVs, snapR, snapRs, ownSz, pickV, AO.isC, opE, opD, funV.eq_1, funV.eq_2, h3]
    rw [callQ_raw S.r281 (D_prim S.p281 (show compP [.nils] hp nx = some (.nils, hp, nx) from rfl))]
    have hn : risesL [] = [] := List.eq_nil_of_length_eq_zero (by have := risesL_le []; simpa using this)
    simp only [runL, opQ, evOp, evO, evOs, guardV, argsA, pvs, putS, cellsOf, scals, scal, Nat.reduceEqDiff, Nat.reduceAdd, reduceCtorEq, fieldA, nonNil, cellsAt, mkAgg, allPV, storeB, patchL, Int.reduceToNat, Nat.reduceMul, Nat.reduceLT, stepA, Int.reduceNeg, Int.reduceLE, Int.reduceLT, Int.reduceEq, extractV, mkAgg, Nat.reduceLeDiff, fillA, pureVs, pureV, eqV, eqB, lenV.eq_1, lenV.eq_2, lenV.eq_3, lenV.eq_4, binV, intBin, intV, idxA, List.drop, List.take, RetP, retP, resV, resOne, snapV, snapVs, snapR, snapRs, ownSz, pickV, AO.isC, opE, opD, funV.eq_1, funV.eq_2, zonesL, hz, hn, List.map_nil]
  · have hlen : (s.nodes.map Node.zone).length ≤ 2 ^ 30 := by rw [List.length_map]; omega
    have e1 : sortP [.ms id] hp nx = some (.pv (.tuple []), (id, .row 1 ((sortL (s.nodes.map Node.zone)).map i64C)) :: hp, nx) := by
      simp only [sortP, i3, intsV_map, hlen, if_true]
    simp only [runL, opQ, evOp, evO, evOs, guardV, argsA, pvs, putS, cellsOf, scals, scal, Nat.reduceEqDiff, Nat.reduceAdd, reduceCtorEq, fieldA, nonNil, cellsAt, mkAgg, allPV, storeB, patchL, Int.reduceToNat, Nat.reduceMul, Nat.reduceLT, stepA, Int.reduceNeg, Int.reduceLE, Int.reduceLT, Int.reduceEq, extractV, mkAgg, Nat.reduceLeDiff, fillA, pureVs, pureV, eqV, eqB, lenV.eq_1, lenV.eq_2, lenV.eq_3, lenV.eq_4, binV, intBin, intV, idxA, List.drop, List.take, RetP, retP, resV, resOne, snapV, snapVs, snapR, snapRs, ownSz, pickV, AO.isC, opE, opD, funV.eq_1, funV.eq_2, h3]
    rw [callQ_raw S.r293 (D_prim S.p293 e1)]
    simp only [runL, opQ, evOp, evO, evOs, guardV, argsA, pvs, putS, cellsOf, scals, scal, Nat.reduceEqDiff, Nat.reduceAdd, reduceCtorEq, fieldA, nonNil, cellsAt, mkAgg, allPV, storeB, patchL, Int.reduceToNat, Nat.reduceMul, Nat.reduceLT, stepA, Int.reduceNeg, Int.reduceLE, Int.reduceLT, Int.reduceEq, extractV, mkAgg, Nat.reduceLeDiff, fillA, pureVs, pureV, eqV, eqB, lenV.eq_1, lenV.eq_2, lenV.eq_3, lenV.eq_4, binV, intBin, intV, idxA, List.drop, List.take, RetP, retP, resV, resOne, snapV, snapVs, snapR, snapRs, ownSz, pickV, AO.isC, opE, opD, funV.eq_1, funV.eq_2, h3]
    have hlen2 : (sortL (s.nodes.map Node.zone)).length ≤ 2 ^ 30 := by rw [sortL_length]; exact hlen
    have e2 : compP [.ms id] ((id, .row 1 ((sortL (s.nodes.map Node.zone)).map i64C)) :: hp) nx = some (.msub id 0 (zonesL s).length, (id, .row 1 (((zonesL s) ++ List.replicate ((sortL (s.nodes.map Node.zone)).length - (zonesL s).length) 0).map i64C)) :: (id, .row 1 ((sortL (s.nodes.map Node.zone)).map i64C)) :: hp, nx) := by
      simp only [compP, blkAt_if, if_true, intsV_map, hlen2]
      rfl
    rw [callQ_raw S.r281 (D_prim S.p281 e2)]
    have hle : (zonesL s).length ≤ (zonesL s).length + (List.replicate ((sortL (s.nodes.map Node.zone)).length - (zonesL s).length) (0 : Int)).length := Nat.le_add_right _ _
    simp only [runL, opQ, evOp, evO, evOs, guardV, argsA, pvs, putS, cellsOf, scals, scal, Nat.reduceEqDiff, Nat.reduceAdd, reduceCtorEq, fieldA, nonNil, cellsAt, mkAgg, allPV, storeB, patchL, Int.reduceToNat, Nat.reduceMul, Nat.reduceLT, stepA, Int.reduceNeg, Int.reduceLE, Int.reduceLT, Int.reduceEq, extractV, mkAgg, Nat.reduceLeDiff, fillA, pureVs, pureV, eqV, eqB, lenV.eq_1, lenV.eq_2, lenV.eq_3, lenV.eq_4, binV, intBin, intV, idxA, List.drop, List.take, RetP, retP, resV, resOne, snapV, snapVs, snapR, snapRs, ownSz, pickV, AO.isC, opE, opD, funV.eq_1, funV.eq_2, List.map_append, List.length_append, hle, List.take_append_of_le_length, List.length_map, Nat.le_refl, List.take_length]
    rw [List.take_of_length_le (by rw [List.length_map]; exact Nat.le_refl _)]
/-! ### Counts -/
structure Std8 (T : Tab) : Prop where
  z : StdZ T
  h82 : Std T 82 f82
  h235 : Std T 235 f235
  h236 : Std T 236 f236
  m290 : StdP T 290 (foldP mostL)
  m291 : StdP T 291 (foldP leastL)
  fl290 : T.flat 290 = true
  fl291 : T.flat 291 = true
/-! ### Skews -/
end
end Go.Proofs.YtimkghkokfhfcaaDoor.Ab
set_option linter.unusedVariables false
set_option linter.unusedSimpArgs false
namespace Go.Proofs.YtimkghkokfhfcaaDoor.Ab
open Go
/-! ### Plain: Ids rise where all may be -/
theorem eqNode {p q : Node} : eqCells [false, false, false, false, false, false, false, false, false, false] (nodeC p) (nodeC q) = some (decide (p = q)) := by
  obtain ⟨a, b, ⟨c, d, e, f⟩, ⟨g, h, i, j⟩⟩ := p
  obtain ⟨a', b', ⟨c', d', e', f'⟩, ⟨g', h', i', j'⟩⟩ := q
  simp only [nodeC, eqCells, if_true, Option.some.injEq]
  rw [Bool.eq_iff_iff]
  simp [and_assoc]
theorem eqLoad {p q : Load} : eqCells [false, true, false, false, false] (loadC p) (loadC q) = some (decide (p = q)) := by
  obtain ⟨a, b, c, d, e⟩ := p
  obtain ⟨a', b', c', d', e'⟩ := q
  simp only [loadC, eqCells, if_true, Option.some.injEq]
  rw [Bool.eq_iff_iff]
  cases b <;> cases b' <;> simp [and_assoc]
def p03f : List (Nat × Prm) := [(103, isP), (266, asP), (281, compP), (293, sortP)]
section
variable {T : Tab}
end
end Go.Proofs.YtimkghkokfhfcaaDoor.Ab
set_option linter.unusedVariables false
set_option linter.unusedSimpArgs false
namespace Go.Proofs.YtimkghkokfhfcaaDoor.Ab
open Go
def atI (z : Int) : List Int → Nat
  | [] => 0
  | y :: r => if y < z then atI z r + 1 else 0
def insU (z : Int) (l : List Int) : List Int := if l[atI z l]? = some z then l else l.take (atI z l) ++ z :: l.drop (atI z l)
theorem atI_le (z : Int) : ∀ l, atI z l ≤ l.length
  | [] => Nat.le_refl _
  | y :: r => by
    have := atI_le z r
    simp only [atI, List.length_cons]
    split <;> omega
theorem atI_lt (z : Int) : ∀ (l : List Int) (j : Nat), j < atI z l → ∃ y, l[j]? = some y ∧ y < z
  | [], j, h => by simp [atI] at h
  | y :: r, j, h => by
    simp only [atI] at h
    split at h
    · rename_i hy
      cases j with
      | zero => exact ⟨y, rfl, hy⟩
      | succ j =>
        obtain ⟨x, h1, h2⟩ := atI_lt z r j (by omega)
        exact ⟨x, by simpa using h1, h2⟩
    · omega
theorem atI_ge (z : Int) : ∀ (l : List Int), atI z l = l.length ∨ ∃ y, l[atI z l]? = some y ∧ z ≤ y
  | [] => .inl rfl
  | y :: r => by
    simp only [atI]
    split
    · rcases atI_ge z r with h | ⟨x, h1, h2⟩
      · left; simp [h]
      · right; exact ⟨x, by simpa using h1, h2⟩
    · rename_i hy
      right
      exact ⟨y, rfl, by omega⟩
theorem insU_cons (z y : Int) (r : List Int) : insU z (y :: r) = if y < z then y :: insU z r else if y = z then y :: r else z :: y :: r := by
  unfold insU
  simp only [atI]
  by_cases h : y < z
  · simp only [h, if_true, List.getElem?_cons_succ, List.take_succ_cons, List.drop_succ_cons]
    split <;> simp
  · simp only [h, if_false, List.getElem?_cons_zero, Option.some.injEq, List.take_zero, List.drop_zero, List.nil_append]
theorem insU_mem (z x : Int) : ∀ l, x ∈ insU z l ↔ x = z ∨ x ∈ l
  | [] => by simp [insU, atI]
  | y :: r => by
    rw [insU_cons]
    split
    · rw [List.mem_cons, insU_mem z x r, List.mem_cons]
      grind
    · split
      · rename_i h; subst h; simp
      · simp
theorem insU_lt (z : Int) : ∀ l : List Int, l.Pairwise (fun a b => a < b) → (insU z l).Pairwise (fun a b => a < b)
  | [], _ => by simp [insU, atI]
  | y :: r, h => by
    have h' := List.pairwise_cons.1 h
    rw [insU_cons]
    split
    · rename_i hy
      refine List.pairwise_cons.2 ⟨fun x hx => ?_, insU_lt z r h'.2⟩
      rcases (insU_mem z x r).1 hx with rfl | hx
      · exact hy
      · exact h'.1 x hx
    · split
      · exact h
      · refine List.pairwise_cons.2 ⟨fun x hx => ?_, h⟩
        rcases List.mem_cons.1 hx with rfl | hx
        · omega
        · have := h'.1 x hx; omega
def zonesR (out : List Int) : List Node → List Int
  | [] => out
  | n :: r => zonesR (insU n.zone out) r
theorem zonesR_ok : ∀ (l : List Node) (out : List Int), out.Pairwise (fun a b => a < b) → (zonesR out l).Pairwise (fun a b => a < b) ∧ ∀ x, x ∈ zonesR out l ↔ x ∈ out ∨ x ∈ l.map Node.zone
  | [], out, h => ⟨h, fun x => by simp [zonesR]⟩
  | n :: r, out, h => by
    obtain ⟨h1, h2⟩ := zonesR_ok r (insU n.zone out) (insU_lt _ _ h)
    refine ⟨h1, fun x => ?_⟩
    rw [zonesR, h2, insU_mem, List.map_cons, List.mem_cons]
    grind
theorem zonesR_eq (s : Snap) : zonesR [] s.nodes = zonesL s := by
  obtain ⟨h1, h2⟩ := zonesR_ok s.nodes [] List.Pairwise.nil
  refine rising_eq h1 (risesL_lt _) fun x => ?_
  rw [h2, show zonesL s = risesL (s.nodes.map Node.zone) from rfl, risesL_mem]
  simp
theorem insU_length (z : Int) (l : List Int) : (insU z l).length ≤ l.length + 1 := by
  have := atI_le z l
  unfold insU
  split
  · omega
  · simp; omega
section
variable {T : Tab}
theorem zr_inner (s : Snap) (hl : s.nodes.length ≤ 2 ^ 29) (n : Node) (i : Nat) (hget : s.nodes[i]? = some n) (out : List Int) (hol : out.length ≤ 2 ^ 29) (hp : Hl) (nx : Nat) (v : AV) (hO : Own v hp 1 (out.map i64C) 1 nx)
    (b0 : blkAt hp 0 = .var [.pv (.slice (s.nodes.map nodeC)), .pv (.slice (s.loads.map loadC)), .pv (.slice (s.pods.map podC))]) (Q : Exit → St → Prop)
    (hend : ∀ fr, look fr 1 = .ptr 0 0 0 → look fr 3 = v → look fr 4 = .pv (.int .i64 i) → look fr 5 = .pv (.int .i64 (atI n.zone out : Nat)) → Q (.exit 2) ⟨fr, hp, nx⟩) :
    ∀ (k j : Nat), atI n.zone out = j + k → ∀ (fr : List (Nat × AV)), look fr 1 = .ptr 0 0 0 → look fr 3 = v → look fr 4 = .pv (.int .i64 i) → look fr 5 = .pv (.int .i64 (j : Int)) → Wp T false (.loop f158l0) ⟨fr, hp, nx⟩ Q := by
  intro k
  have hlt : i < s.nodes.length := (List.getElem?_eq_some_iff.1 hget).1
  have h0 : (0 : Int) ≤ (i : Int) := by omega
  have hle := atI_le n.zone out
  induction k with
  | zero =>
    intro j hk fr g1 g3 g4 g5
    rw [Nat.add_zero] at hk
    rcases hO with ⟨he, rfl⟩ | ⟨id, rfl, i1, i2, i3⟩
    · have ho : out = [] := by simpa using he
      subst ho
      have hj : ¬ (j : Int) < ((0 : Nat) : Int) := by omega
      have z0 : ((0 : Nat) : Int) = 0 := rfl
      rw [z0] at hj
      rw [Wp_loop, Wp_eq f158l0.eq_1]
      refine Wp_seq.2 (Wp_seq.2 ((Wp_calmS rfl).2 ?_))
      simp only [runL, opQ, evOp, evO, evOs, guardV, argsA, pvs, putS, cellsOf, scals, scal, Nat.reduceEqDiff, Nat.reduceAdd, reduceCtorEq, fieldA, nonNil, cellsAt, mkAgg, allPV, storeB, patchL, Int.reduceToNat, Nat.reduceMul, Nat.reduceLT, stepA, Int.reduceNeg, Int.reduceLE, Int.reduceLT, Int.reduceEq, extractV, mkAgg, Nat.reduceLeDiff, fillA, pureVs, pureV, eqV, eqB, lenV.eq_1, lenV.eq_2, lenV.eq_3, lenV.eq_4, binV, intBin, intV, idxA, List.drop, List.take, RetP, retP, resV, resOne, snapV, snapVs, snapR, snapRs, ownSz, pickV, AO.isC, opE, opD, funV.eq_1, funV.eq_2, g1, g3, g4, g5, b0, hj, z0]
      refine hend _ ?_ ?_ ?_ ?_
      all_goals try simp only [look_if, blkAt_if, Nat.reduceEqDiff, if_true, if_false, g1, g3, g4, g5, hk]
    · rcases atI_ge n.zone out with h | ⟨y, h1, h2⟩
      · have hj : ¬ (j : Int) < (out.length : Int) := by omega
        rw [Wp_loop, Wp_eq f158l0.eq_1]
        refine Wp_seq.2 (Wp_seq.2 ((Wp_calmS rfl).2 ?_))
        simp only [runL, opQ, evOp, evO, evOs, guardV, argsA, pvs, putS, cellsOf, scals, scal, Nat.reduceEqDiff, Nat.reduceAdd, reduceCtorEq, fieldA, nonNil, cellsAt, mkAgg, allPV, storeB, patchL, Int.reduceToNat, Nat.reduceMul, Nat.reduceLT, stepA, Int.reduceNeg, Int.reduceLE, Int.reduceLT, Int.reduceEq, extractV, mkAgg, Nat.reduceLeDiff, fillA, pureVs, pureV, eqV, eqB, lenV.eq_1, lenV.eq_2, lenV.eq_3, lenV.eq_4, binV, intBin, intV, idxA, List.drop, List.take, RetP, retP, resV, resOne, snapV, snapVs, snapR, snapRs, ownSz, pickV, AO.isC, opE, opD, funV.eq_1, funV.eq_2, g1, g3, g4, g5, b0, i3, hj]
        refine hend _ ?_ ?_ ?_ ?_
        all_goals try simp only [look_if, blkAt_if, Nat.reduceEqDiff, if_true, if_false, g1, g3, g4, g5, hk]
      · have hjl : j < out.length := by rw [hk] at h1; exact (List.getElem?_eq_some_iff.1 h1).1
        have hj : (j : Int) < (out.length : Int) := by omega
        rw [hk] at h1
        have hy : ¬ y < n.zone := by omega
        rw [Wp_loop, Wp_eq f158l0.eq_1]
        refine Wp_seq.2 (Wp_seq.2 ((Wp_calmS rfl).2 ?_))
        simp only [runL, opQ, evOp, evO, evOs, guardV, argsA, pvs, putS, cellsOf, scals, scal, Nat.reduceEqDiff, Nat.reduceAdd, reduceCtorEq, fieldA, nonNil, cellsAt, mkAgg, allPV, storeB, patchL, Int.reduceToNat, Nat.reduceMul, Nat.reduceLT, stepA, Int.reduceNeg, Int.reduceLE, Int.reduceLT, Int.reduceEq, extractV, mkAgg, Nat.reduceLeDiff, fillA, pureVs, pureV, eqV, eqB, lenV.eq_1, lenV.eq_2, lenV.eq_3, lenV.eq_4, binV, intBin, intV, idxA, List.drop, List.take, RetP, retP, resV, resOne, snapV, snapVs, snapR, snapRs, ownSz, pickV, AO.isC, opE, opD, funV.eq_1, funV.eq_2, g1, g3, g4, g5, b0, i3, hj, hjl, h1, i64C, hget, nodeC, hy]
        refine hend _ ?_ ?_ ?_ ?_
        all_goals try simp only [look_if, blkAt_if, Nat.reduceEqDiff, if_true, if_false, g1, g3, g4, g5, hk]
  | succ k ih =>
    intro j hk fr g1 g3 g4 g5
    obtain ⟨y, h1, h2⟩ := atI_lt n.zone out j (by omega)
    have hjl : j < out.length := (List.getElem?_eq_some_iff.1 h1).1
    have hj : (j : Int) < (out.length : Int) := by omega
    have hw : IntKind.i64.wrap ((j : Int) + 1) = ((j + 1 : Nat) : Int) := by rw [wrap6] <;> omega
    have hO' := hO
    rcases hO with ⟨he, rfl⟩ | ⟨id, rfl, i1, i2, i3⟩
    · have ho : out = [] := by simpa using he
      subst ho
      simp at hjl
    · rw [Wp_loop, Wp_eq f158l0.eq_1]
      refine Wp_seq.2 (Wp_seq.2 ((Wp_calmS rfl).2 ?_))
      simp only [runL, opQ, evOp, evO, evOs, guardV, argsA, pvs, putS, cellsOf, scals, scal, Nat.reduceEqDiff, Nat.reduceAdd, reduceCtorEq, fieldA, nonNil, cellsAt, mkAgg, allPV, storeB, patchL, Int.reduceToNat, Nat.reduceMul, Nat.reduceLT, stepA, Int.reduceNeg, Int.reduceLE, Int.reduceLT, Int.reduceEq, extractV, mkAgg, Nat.reduceLeDiff, fillA, pureVs, pureV, eqV, eqB, lenV.eq_1, lenV.eq_2, lenV.eq_3, lenV.eq_4, binV, intBin, intV, idxA, List.drop, List.take, RetP, retP, resV, resOne, snapV, snapVs, snapR, snapRs, ownSz, pickV, AO.isC, opE, opD, funV.eq_1, funV.eq_2, g1, g3, g4, g5, b0, i3, hj, hjl, h1, i64C, hget, nodeC, h2, hw]
      refine ih (j + 1) (by omega) _ ?_ ?_ ?_ ?_
      all_goals try simp only [look_if, blkAt_if, Nat.reduceEqDiff, if_true, if_false, g1, g3, g4]
theorem zr_loop (s : Snap) (hl : s.nodes.length ≤ 2 ^ 28) (Q : Exit → St → Prop)
    (hend : ∀ fr hp nx, Own (look fr 3) hp 1 ((zonesR [] s.nodes).map i64C) 1 nx → Q (.exit 0) ⟨fr, hp, nx⟩) :
    ∀ (rest : List Node) (i : Nat) (out : List Int), s.nodes.drop i = rest → i ≤ s.nodes.length → out.length ≤ i → zonesR out rest = zonesR [] s.nodes → ∀ (fr : List (Nat × AV)) (hp : Hl) (nx : Nat), 1 ≤ nx → look fr 1 = .ptr 0 0 0 → look fr 4 = .pv (.int .i64 i) →
      blkAt hp 0 = .var [.pv (.slice (s.nodes.map nodeC)), .pv (.slice (s.loads.map loadC)), .pv (.slice (s.pods.map podC))] → Own (look fr 3) hp 1 (out.map i64C) 1 nx → Wp T false (.loop f158l1) ⟨fr, hp, nx⟩ Q := by
  intro rest
  induction rest with
  | nil =>
    intro i out hd hi hol ho fr hp nx hnx g1 g4 b0 h3
    have hlen := drop_nil hd hi
    simp only [zonesR] at ho
    rw [Wp_loop, Wp_eq f158l1.eq_1]
    simp only [runL, opQ, evOp, evO, evOs, guardV, argsA, pvs, putS, cellsOf, scals, scal, Nat.reduceEqDiff, Nat.reduceAdd, reduceCtorEq, fieldA, nonNil, cellsAt, mkAgg, allPV, storeB, patchL, Int.reduceToNat, Nat.reduceMul, Nat.reduceLT, stepA, Int.reduceNeg, Int.reduceLE, Int.reduceLT, Int.reduceEq, extractV, mkAgg, Nat.reduceLeDiff, fillA, pureVs, pureV, eqV, eqB, lenV.eq_1, lenV.eq_2, lenV.eq_3, lenV.eq_4, binV, intBin, intV, idxA, List.drop, List.take, RetP, retP, resV, resOne, snapV, snapVs, snapR, snapRs, ownSz, pickV, AO.isC, opE, opD, funV.eq_1, funV.eq_2, g1, b0, g4, hlen, Int.lt_irrefl]
    exact hend _ _ _ (by simp only [look_if, blkAt_if, Nat.reduceEqDiff, if_true, if_false]; rw [← ho]; exact h3)
  | cons n r ih =>
    intro i out hd hi hol ho fr hp nx hnx g1 g4 b0 h3
    obtain ⟨hget, hlt, hw, hd', hi', hb⟩ := drop_cons hd (by omega)
    have hle := atI_le n.zone out
    generalize hv : look fr 3 = v at h3
    rw [Wp_loop, Wp_eq f158l1.eq_1]
    simp only [runL, opQ, evOp, evO, evOs, guardV, argsA, pvs, putS, cellsOf, scals, scal, Nat.reduceEqDiff, Nat.reduceAdd, reduceCtorEq, fieldA, nonNil, cellsAt, mkAgg, allPV, storeB, patchL, Int.reduceToNat, Nat.reduceMul, Nat.reduceLT, stepA, Int.reduceNeg, Int.reduceLE, Int.reduceLT, Int.reduceEq, extractV, mkAgg, Nat.reduceLeDiff, fillA, pureVs, pureV, eqV, eqB, lenV.eq_1, lenV.eq_2, lenV.eq_3, lenV.eq_4, binV, intBin, intV, idxA, List.drop, List.take, RetP, retP, resV, resOne, snapV, snapVs, snapR, snapRs, ownSz, pickV, AO.isC, opE, opD, funV.eq_1, funV.eq_2, g1, b0, g4, hlt]
    refine zr_inner s (by omega) n i hget out (by omega) hp nx v h3 b0 _ (fun fr' q1 q3 q4 q5 => ?_) (atI n.zone out) 0 (Nat.zero_add _).symm _ ?_ ?_ ?_ ?_
    · simp only [runL, opQ, evOp, evO, evOs, guardV, argsA, pvs, putS, cellsOf, scals, scal, Nat.reduceEqDiff, Nat.reduceAdd, reduceCtorEq, fieldA, nonNil, cellsAt, mkAgg, allPV, storeB, patchL, Int.reduceToNat, Nat.reduceMul, Nat.reduceLT, stepA, Int.reduceNeg, Int.reduceLE, Int.reduceLT, Int.reduceEq, extractV, mkAgg, Nat.reduceLeDiff, fillA, pureVs, pureV, eqV, eqB, lenV.eq_1, lenV.eq_2, lenV.eq_3, lenV.eq_4, binV, intBin, intV, idxA, List.drop, List.take, RetP, retP, resV, resOne, snapV, snapVs, snapR, snapRs, ownSz, pickV, AO.isC, opE, opD, funV.eq_1, funV.eq_2]
      refine (Wp_calmS rfl).2 ?_
      have go : ∀ out', zonesR out' r = zonesR [] s.nodes → out'.length ≤ i + 1 → ∀ fr' hp' nx', 1 ≤ nx' → look fr' 1 = .ptr 0 0 0 → blkAt hp' 0 = blkAt hp 0 → look fr' 4 = .pv (.int .i64 ((i + 1 : Nat) : Int)) → Own (look fr' 3) hp' 1 (out'.map i64C) 1 nx' → Wp T false (.loop f158l1) ⟨fr', hp', nx'⟩ Q := by
        intro out' h1 h2 fr' hp' nx' z1 z2 z3 z4 z5
        exact ih (i + 1) out' hd' hi' h2 h1 _ _ _ z1 z2 z4 (z3.trans b0) z5
      have big : (out[atI n.zone out]? ≠ some n.zone) → ∀ (es : List (List PV)), srcV (blkAt hp) v = some es → True := fun _ _ _ => trivial
      simp only [zonesR] at ho
      rcases h3 with ⟨he, rfl⟩ | ⟨id, rfl, i1, i2, i3⟩
      · have hoe : out = [] := by simpa using he
        subst hoe
        have z0 : ((0 : Nat) : Int) = 0 := rfl
        have ez : atI n.zone [] = 0 := rfl
        rw [ez, z0] at q5
        have e1 : ¬ nx = 0 := by omega
        have e2 : ¬ nx + 1 = 0 := by omega
        have e3 : ¬ nx + 1 + 1 = 0 := by omega
        have p1 : (1 : Nat) ≤ 2 ^ 30 := by decide
        have p0 : (0 : Nat) ≤ 2 ^ 30 := by decide
        have ei : insU n.zone [] = [n.zone] := rfl
        simp only [runL, opQ, evOp, evO, evOs, guardV, argsA, pvs, putS, cellsOf, scals, scal, Nat.reduceEqDiff, Nat.reduceAdd, reduceCtorEq, fieldA, nonNil, cellsAt, mkAgg, allPV, storeB, patchL, Int.reduceToNat, Nat.reduceMul, Nat.reduceLT, stepA, Int.reduceNeg, Int.reduceLE, Int.reduceLT, Int.reduceEq, extractV, mkAgg, Nat.reduceLeDiff, fillA, pureVs, pureV, eqV, eqB, lenV.eq_1, lenV.eq_2, lenV.eq_3, lenV.eq_4, binV, intBin, intV, idxA, List.drop, List.take, RetP, retP, resV, resOne, snapV, snapVs, snapR, snapRs, ownSz, pickV, AO.isC, opE, opD, funV.eq_1, funV.eq_2, q1, q3, q4, q5, b0, z0, Int.lt_irrefl, bndO, subV, fillA, Option.getD_none, Option.getD_some, partsScal, srcV, chunk, allLen, List.all_cons, List.all_nil, appV, baseV, hget, nodeC, e1, e2, e3, hw, p0, p1, Nat.zero_add]
        refine go [n.zone] (by rw [← ei]; exact ho) (by simp) _ _ _ (by omega) ?_ ?_ ?_ ?_
        all_goals try simp only [look_if, blkAt_if, Nat.reduceEqDiff, if_true, if_false, q1, e1, e2, e3]
        refine .inr ⟨_, rfl, by omega, by omega, ?_⟩
        have e5 : ¬ nx = nx + 1 := by omega
        simp only [look_if, blkAt_if, Nat.reduceEqDiff, if_true, if_false, List.map_cons, List.map_nil, i64C, e5]
      · have e1 : ¬ nx = 0 := by omega
        have e2 : ¬ nx + 1 = 0 := by omega
        have e3 : ¬ nx + 1 + 1 = 0 := by omega
        have e4 : ¬ nx + 1 + 1 + 1 = 0 := by omega
        have d1 : ¬ nx = id := by omega
        have d2 : ¬ nx + 1 = id := by omega
        have d3 : ¬ nx + 1 + 1 = id := by omega
        have d4 : ¬ nx + 1 + 1 + 1 = id := by omega
        by_cases heq : out[atI n.zone out]? = some n.zone
        · have hjl : atI n.zone out < out.length := (List.getElem?_eq_some_iff.1 heq).1
          have hj : ((atI n.zone out : Nat) : Int) < (out.length : Int) := by omega
          have ei : insU n.zone out = out := by unfold insU; rw [if_pos heq]
          have dz : decide (n.zone = n.zone) = true := decide_eq_true rfl
          simp only [runL, opQ, evOp, evO, evOs, guardV, argsA, pvs, putS, cellsOf, scals, scal, Nat.reduceEqDiff, Nat.reduceAdd, reduceCtorEq, fieldA, nonNil, cellsAt, mkAgg, allPV, storeB, patchL, Int.reduceToNat, Nat.reduceMul, Nat.reduceLT, stepA, Int.reduceNeg, Int.reduceLE, Int.reduceLT, Int.reduceEq, extractV, mkAgg, Nat.reduceLeDiff, fillA, pureVs, pureV, eqV, eqB, lenV.eq_1, lenV.eq_2, lenV.eq_3, lenV.eq_4, binV, intBin, intV, idxA, List.drop, List.take, RetP, retP, resV, resOne, snapV, snapVs, snapR, snapRs, ownSz, pickV, AO.isC, opE, opD, funV.eq_1, funV.eq_2, q1, q3, q4, q5, b0, i3, hj, hjl, heq, i64C, hget, nodeC, dz, hw]
          refine go out (by rw [ei] at ho; exact ho) (by omega) _ _ _ hnx ?_ rfl ?_ ?_
          all_goals try simp only [look_if, blkAt_if, Nat.reduceEqDiff, if_true, if_false, q1, q3]
          exact .inr ⟨id, rfl, i1, i2, i3⟩
        · have ei : insU n.zone out = out.take (atI n.zone out) ++ n.zone :: out.drop (atI n.zone out) := by unfold insU; rw [if_neg heq]
          have a1 : (out.map i64C).take (atI n.zone out) = (out.take (atI n.zone out)).map i64C := (List.map_take ..).symm
          have a2 : ((out.map i64C).drop (atI n.zone out)).take (out.length - atI n.zone out) = (out.drop (atI n.zone out)).map i64C := by
            rw [List.take_of_length_le (by simp), ← List.map_drop]
          have l1 : ∀ l : List Int, allLen 1 (l.map i64C) = true := fun l => by simp [allLen, i64C]
          have l2 : allLen 1 [[PV.int .i64 n.zone]] = true := rfl
          have t1 : (out.take (atI n.zone out)).length = atI n.zone out := by rw [List.length_take]; omega
          have t2 : (out.drop (atI n.zone out)).length = out.length - atI n.zone out := List.length_drop ..
          have p0 : atI n.zone out ≤ 2 ^ 30 := by omega
          have p1 : atI n.zone out + 1 ≤ 2 ^ 30 := by omega
          have p2 : atI n.zone out + 1 + (out.length - atI n.zone out) ≤ 2 ^ 30 := by omega
          have p3 : atI n.zone out + (out.length - atI n.zone out) ≤ out.length := by omega
          have fin : ∀ (K : Prop), (¬ ((atI n.zone out : Nat) : Int) < (out.length : Int) → K) → (∀ y, ((atI n.zone out : Nat) : Int) < (out.length : Int) → atI n.zone out < out.length → out[atI n.zone out]? = some y → ¬ y = n.zone → K) → K := by
            intro K h1 h2
            rcases atI_ge n.zone out with h | ⟨y, g1, g2⟩
            · exact h1 (by omega)
            · have hjl : atI n.zone out < out.length := (List.getElem?_eq_some_iff.1 g1).1
              exact h2 y (by omega) hjl g1 (fun h => heq (by rw [g1, h]))
          have done : ∀ fr'' : List (Nat × AV), look fr'' 1 = .ptr 0 0 0 → look fr'' 4 = .pv (.int .i64 ((i + 1 : Nat) : Int)) → look fr'' 3 = .ms (nx + 4) → ∀ hp'', blkAt hp'' 0 = blkAt hp 0 → blkAt hp'' (nx + 4) = .row 1 (List.map i64C (List.take (atI n.zone out) out) ++ [[.int .i64 n.zone]] ++ List.map i64C (List.drop (atI n.zone out) out)) → Wp T false (.loop f158l1) ⟨fr'', hp'', nx + 5⟩ Q := by
            intro fr'' z1 z2 z3 hp'' z4 z5
            have z6 : blkAt hp'' (nx + 4) = .row 1 ((insU n.zone out).map i64C) := by
              rw [z5, ei, List.map_append, List.map_cons, List.append_assoc]
              rfl
            exact go (insU n.zone out) ho (by have := insU_length n.zone out; omega) _ _ _ (by omega) z1 z4 z2 (by rw [z3]; exact .inr ⟨_, rfl, by omega, by omega, z6⟩)
          have f1 : ¬ nx + 2 + 1 = 0 := by omega
          have f2 : ¬ nx + 4 = 0 := by omega
          have f3 : ¬ nx + 2 = 0 := by omega
          have f4 : ¬ nx + 2 + 1 = nx + 4 := by omega
          have f5 : ¬ nx + 2 = nx + 1 := by omega
          refine fin _ (fun hj => ?_) (fun y hj hjl hy hne => ?_)
          · simp only [runL, opQ, evOp, evO, evOs, guardV, argsA, pvs, putS, cellsOf, scals, scal, Nat.reduceEqDiff, Nat.reduceAdd, reduceCtorEq, fieldA, nonNil, cellsAt, mkAgg, allPV, storeB, patchL, Int.reduceToNat, Nat.reduceMul, Nat.reduceLT, stepA, Int.reduceNeg, Int.reduceLE, Int.reduceLT, Int.reduceEq, extractV, mkAgg, Nat.reduceLeDiff, fillA, pureVs, pureV, eqV, eqB, lenV.eq_1, lenV.eq_2, lenV.eq_3, lenV.eq_4, binV, intBin, intV, idxA, List.drop, List.take, RetP, retP, resV, resOne, snapV, snapVs, snapR, snapRs, ownSz, pickV, AO.isC, opE, opD, funV.eq_1, funV.eq_2, q1, q3, q4, q5, b0, i3, hj, bndO, subV, fillA, Option.getD_none, Option.getD_some, partsScal, srcV, chunk, appV, baseV, hget, nodeC, e1, e2, e3, e4, d1, d2, d3, d4, hw, a1, a2, l1, l2, t1, t2, p0, p1, p2, p3, hle, Nat.zero_le, Nat.sub_zero, List.length_append, i64C]
            refine done _ ?_ ?_ ?_ _ ?_ ?_
            all_goals try simp only [look_if, blkAt_if, Nat.reduceEqDiff, if_true, if_false, q1, e1, e2, f1, f2, f3, f4]
          · simp only [runL, opQ, evOp, evO, evOs, guardV, argsA, pvs, putS, cellsOf, scals, scal, Nat.reduceEqDiff, Nat.reduceAdd, reduceCtorEq, fieldA, nonNil, cellsAt, mkAgg, allPV, storeB, patchL, Int.reduceToNat, Nat.reduceMul, Nat.reduceLT, stepA, Int.reduceNeg, Int.reduceLE, Int.reduceLT, Int.reduceEq, extractV, mkAgg, Nat.reduceLeDiff, fillA, pureVs, pureV, eqV, eqB, lenV.eq_1, lenV.eq_2, lenV.eq_3, lenV.eq_4, binV, intBin, intV, idxA, List.drop, List.take, RetP, retP, resV, resOne, snapV, snapVs, snapR, snapRs, ownSz, pickV, AO.isC, opE, opD, funV.eq_1, funV.eq_2, q1, q3, q4, q5, b0, i3, hj, hjl, hy, hne, bndO, subV, fillA, Option.getD_none, Option.getD_some, partsScal, srcV, chunk, appV, baseV, hget, nodeC, e1, e2, e3, e4, d1, d2, d3, d4, hw, a1, a2, l1, l2, t1, t2, p0, p1, p2, p3, hle, Nat.zero_le, Nat.sub_zero, List.length_append, i64C]
            refine done _ ?_ ?_ ?_ _ ?_ ?_
            all_goals try simp only [look_if, blkAt_if, Nat.reduceEqDiff, if_true, if_false, q1, e1, e2, f1, f2, f3, f4]
    all_goals try simp only [look_if, blkAt_if, Nat.reduceEqDiff, if_true, if_false, g1, g4, hv]
    rfl
theorem zonesr_ok (h158 : Std T 158 f158) (s : Snap) (hl : s.nodes.length ≤ 2 ^ 28) : Gives T 158 [snapP s] (.slice ((zonesL s).map i64C)) := by
  refine gives h158 rfl ?_
  rw [← zonesR_eq]
  simp only [f158, runL, opQ, evOp, evO, evOs, guardV, argsA, pvs, putS, cellsOf, scals, scal, Nat.reduceEqDiff, Nat.reduceAdd, reduceCtorEq, fieldA, nonNil, cellsAt, mkAgg, allPV, storeB, patchL, Int.reduceToNat, Nat.reduceMul, Nat.reduceLT, stepA, Int.reduceNeg, Int.reduceLE, Int.reduceLT, Int.reduceEq, extractV, mkAgg, Nat.reduceLeDiff, fillA, pureVs, pureV, eqV, eqB, lenV.eq_1, lenV.eq_2, lenV.eq_3, lenV.eq_4, binV, intBin, intV, idxA, List.drop, List.take, RetP, retP, resV, resOne, snapV, snapVs, snapR, snapRs, ownSz, pickV, AO.isC, opE, opD, funV.eq_1, funV.eq_2, snapP]
  refine zr_loop s hl _ (fun fr hp nx h3 => ?_) s.nodes 0 [] rfl (Nat.zero_le _) (Nat.le_refl _) rfl _ _ _ (Nat.le_refl _) rfl rfl rfl Own.nil
  simp only [runL, opQ, evOp, evO, evOs, guardV, argsA, pvs, putS, cellsOf, scals, scal, Nat.reduceEqDiff, Nat.reduceAdd, reduceCtorEq, fieldA, nonNil, cellsAt, mkAgg, allPV, storeB, patchL, Int.reduceToNat, Nat.reduceMul, Nat.reduceLT, stepA, Int.reduceNeg, Int.reduceLE, Int.reduceLT, Int.reduceEq, extractV, mkAgg, Nat.reduceLeDiff, fillA, pureVs, pureV, eqV, eqB, lenV.eq_1, lenV.eq_2, lenV.eq_3, lenV.eq_4, binV, intBin, intV, idxA, List.drop, List.take, RetP, retP, resV, resOne, snapV, snapVs, snapR, snapRs, ownSz, pickV, AO.isC, opE, opD, funV.eq_1, funV.eq_2, h3.snap]
def ixWant (id : Int) : Nat → List Want → Int
  | _, [] => -1
  | i, p :: r => if p.pod = id then i else ixWant id (i + 1) r
theorem ixWant_cases (id : Int) : ∀ (l : List Want) (i : Nat), (wantOf id l = none ∧ ixWant id i l = -1) ∨ ∃ j p, l[j]? = some p ∧ wantOf id l = some p ∧ ixWant id i l = ((i + j : Nat) : Int)
  | [], i => .inl ⟨rfl, rfl⟩
  | p :: r, i => by
    by_cases hp : p.pod = id
    · exact .inr ⟨0, p, rfl, by simp [wantOf, hp], by simp [ixWant, hp]⟩
    · rcases ixWant_cases id r (i + 1) with ⟨h1, h2⟩ | ⟨j, q, h1, h2, h3⟩
      · exact .inl ⟨by simpa [wantOf, hp] using h1, by simp [ixWant, hp, h2]⟩
      · refine .inr ⟨j + 1, q, by simpa using h1, by simpa [wantOf, hp] using h2, ?_⟩
        simp only [ixWant, if_neg hp, h3]
        omega
theorem ixLoad_cases (id : Int) : ∀ (l : List Load) (i : Nat), (loadOf id l = none ∧ ixLoad id i l = -1) ∨ ∃ j p, l[j]? = some p ∧ loadOf id l = some p ∧ ixLoad id i l = ((i + j : Nat) : Int)
  | [], i => .inl ⟨rfl, rfl⟩
  | p :: r, i => by
    by_cases hp : p.id = id
    · exact .inr ⟨0, p, rfl, by simp [loadOf, hp], by simp [ixLoad, hp]⟩
    · rcases ixLoad_cases id r (i + 1) with ⟨h1, h2⟩ | ⟨j, q, h1, h2, h3⟩
      · exact .inl ⟨by simpa [loadOf, hp] using h1, by simp [ixLoad, hp, h2]⟩
      · refine .inr ⟨j + 1, q, by simpa using h1, by simpa [loadOf, hp] using h2, ?_⟩
        simp only [ixLoad, if_neg hp, h3]
        omega
theorem want3r_loop (x : Spec) (id : Int) (hl : x.wants.length ≤ 2 ^ 30) (Q : Exit → St → Prop) (o : Int)
    (hend : o = -1 → ∀ fr hp nx, Q (.exit 0) ⟨fr, hp, nx⟩) (hret : ∀ fr hp nx, look fr 4 = .pv (.int .i64 o) → Q .ret ⟨fr, hp, nx⟩) :
    ∀ (rest : List Want) (i : Nat), x.wants.drop i = rest → i ≤ x.wants.length → ixWant id i rest = o → ∀ (fr : List (Nat × AV)) (hp : Hl) (nx : Nat), look fr 5 = .pv (.int .i64 i) → look fr 1 = .pv (.int .i64 id) → look fr 2 = .ptr 0 0 0 →
      blkAt hp 0 = .var [.pv (.slice (x.wants.map wantC)), .pv (.int .i64 x.pre), .pv (.int .i64 x.shi)] → Wp T false (.loop f157l0) ⟨fr, hp, nx⟩ Q := by
  intro rest
  induction rest with
  | nil =>
    intro i hd hi ho fr hp nx h5 h1 h2 b0
    have hlen := drop_nil hd hi
    rw [Wp_loop, Wp_eq f157l0.eq_1]
    simp only [runL, opQ, evOp, evO, evOs, guardV, argsA, pvs, putS, cellsOf, scals, scal, Nat.reduceEqDiff, Nat.reduceAdd, reduceCtorEq, fieldA, nonNil, cellsAt, mkAgg, allPV, storeB, patchL, Int.reduceToNat, Nat.reduceMul, Nat.reduceLT, stepA, Int.reduceNeg, Int.reduceLE, Int.reduceLT, Int.reduceEq, extractV, mkAgg, Nat.reduceLeDiff, fillA, pureVs, pureV, eqV, eqB, lenV.eq_1, lenV.eq_2, lenV.eq_3, lenV.eq_4, binV, intBin, intV, idxA, List.drop, List.take, RetP, retP, resV, resOne, snapV, snapVs, snapR, snapRs, ownSz, pickV, AO.isC, opE, opD, funV.eq_1, funV.eq_2, h5, h1, h2, b0, hlen, Int.lt_irrefl]
    exact hend ho.symm _ _ _
  | cons n r ih =>
    intro i hd hi ho fr hp nx h5 h1 h2 b0
    obtain ⟨hget, hlt, hw, hd', hi', hb⟩ := drop_cons hd hl
    simp only [ixWant] at ho
    rw [Wp_loop, Wp_eq f157l0.eq_1]
    by_cases hk : n.pod = id
    · rw [if_pos hk] at ho
      simp only [runL, opQ, evOp, evO, evOs, guardV, argsA, pvs, putS, cellsOf, scals, scal, Nat.reduceEqDiff, Nat.reduceAdd, reduceCtorEq, fieldA, nonNil, cellsAt, mkAgg, allPV, storeB, patchL, Int.reduceToNat, Nat.reduceMul, Nat.reduceLT, stepA, Int.reduceNeg, Int.reduceLE, Int.reduceLT, Int.reduceEq, extractV, mkAgg, Nat.reduceLeDiff, fillA, pureVs, pureV, eqV, eqB, lenV.eq_1, lenV.eq_2, lenV.eq_3, lenV.eq_4, binV, intBin, intV, idxA, List.drop, List.take, RetP, retP, resV, resOne, snapV, snapVs, snapR, snapRs, ownSz, pickV, AO.isC, opE, opD, funV.eq_1, funV.eq_2, h5, h1, h2, b0, hlt, hget, wantC, hk]
      exact hret _ _ _ (by simp only [look_if, Nat.reduceEqDiff, if_true, if_false, ← ho])
    · rw [if_neg hk] at ho
      simp only [runL, opQ, evOp, evO, evOs, guardV, argsA, pvs, putS, cellsOf, scals, scal, Nat.reduceEqDiff, Nat.reduceAdd, reduceCtorEq, fieldA, nonNil, cellsAt, mkAgg, allPV, storeB, patchL, Int.reduceToNat, Nat.reduceMul, Nat.reduceLT, stepA, Int.reduceNeg, Int.reduceLE, Int.reduceLT, Int.reduceEq, extractV, mkAgg, Nat.reduceLeDiff, fillA, pureVs, pureV, eqV, eqB, lenV.eq_1, lenV.eq_2, lenV.eq_3, lenV.eq_4, binV, intBin, intV, idxA, List.drop, List.take, RetP, retP, resV, resOne, snapV, snapVs, snapR, snapRs, ownSz, pickV, AO.isC, opE, opD, funV.eq_1, funV.eq_2, h5, h1, h2, b0, hlt, hget, wantC, hk, hw]
      refine ih (i + 1) hd' hi' ho _ _ _ ?_ ?_ ?_ b0
      all_goals try simp only [look_if, blkAt_if, Nat.reduceEqDiff, if_true, if_false, h1, h2]
theorem want3r_ok (h157 : Std T 157 f157) (x : Spec) (id : Int) (hl : x.wants.length ≤ 2 ^ 30) : Gives T 157 [specP x, .int .i64 id] (.int .i64 (ixWant id 0 x.wants)) := by
  refine gives h157 rfl ?_
  simp only [f157, runL, opQ, evOp, evO, evOs, guardV, argsA, pvs, putS, cellsOf, scals, scal, Nat.reduceEqDiff, Nat.reduceAdd, reduceCtorEq, fieldA, nonNil, cellsAt, mkAgg, allPV, storeB, patchL, Int.reduceToNat, Nat.reduceMul, Nat.reduceLT, stepA, Int.reduceNeg, Int.reduceLE, Int.reduceLT, Int.reduceEq, extractV, mkAgg, Nat.reduceLeDiff, fillA, pureVs, pureV, eqV, eqB, lenV.eq_1, lenV.eq_2, lenV.eq_3, lenV.eq_4, binV, intBin, intV, idxA, List.drop, List.take, RetP, retP, resV, resOne, snapV, snapVs, snapR, snapRs, ownSz, pickV, AO.isC, opE, opD, funV.eq_1, funV.eq_2, specP]
  refine want3r_loop x id hl _ (ixWant id 0 x.wants) (fun ho fr hp nx => ?_) (fun fr hp nx h4 => ?_) x.wants 0 rfl (Nat.zero_le _) rfl _ _ _ rfl rfl rfl rfl
  · simp only [runL, opQ, evOp, evO, evOs, guardV, argsA, pvs, putS, cellsOf, scals, scal, Nat.reduceEqDiff, Nat.reduceAdd, reduceCtorEq, fieldA, nonNil, cellsAt, mkAgg, allPV, storeB, patchL, Int.reduceToNat, Nat.reduceMul, Nat.reduceLT, stepA, Int.reduceNeg, Int.reduceLE, Int.reduceLT, Int.reduceEq, extractV, mkAgg, Nat.reduceLeDiff, fillA, pureVs, pureV, eqV, eqB, lenV.eq_1, lenV.eq_2, lenV.eq_3, lenV.eq_4, binV, intBin, intV, idxA, List.drop, List.take, RetP, retP, resV, resOne, snapV, snapVs, snapR, snapRs, ownSz, pickV, AO.isC, opE, opD, funV.eq_1, funV.eq_2, ho]
  · simp only [runL, opQ, evOp, evO, evOs, guardV, argsA, pvs, putS, cellsOf, scals, scal, Nat.reduceEqDiff, Nat.reduceAdd, reduceCtorEq, fieldA, nonNil, cellsAt, mkAgg, allPV, storeB, patchL, Int.reduceToNat, Nat.reduceMul, Nat.reduceLT, stepA, Int.reduceNeg, Int.reduceLE, Int.reduceLT, Int.reduceEq, extractV, mkAgg, Nat.reduceLeDiff, fillA, pureVs, pureV, eqV, eqB, lenV.eq_1, lenV.eq_2, lenV.eq_3, lenV.eq_4, binV, intBin, intV, idxA, List.drop, List.take, RetP, retP, resV, resOne, snapV, snapVs, snapR, snapRs, ownSz, pickV, AO.isC, opE, opD, funV.eq_1, funV.eq_2, h4]
end
end Go.Proofs.YtimkghkokfhfcaaDoor.Ab
set_option linter.unusedVariables false
set_option linter.unusedSimpArgs false
namespace Go.Proofs.YtimkghkokfhfcaaDoor.Ab
open Go
theorem eqWant {p q : Want} : eqCells [false, false, false, false, false, true] (wantC p) (wantC q) = some (decide (p = q)) := by
  obtain ⟨a, ⟨c, d, e, f⟩, b⟩ := p
  obtain ⟨a', ⟨c', d', e', f'⟩, b'⟩ := q
  simp only [wantC, eqCells, if_true, Option.some.injEq]
  rw [Bool.eq_iff_iff]
  cases b <;> cases b' <;> simp [and_assoc]
def l03g : List (Nat × AFunc) := [(16, f16), (76, f76), (77, f77), (78, f78), (79, f79), (81, f81), (82, f82), (83, f83), (84, f84), (85, f85), (86, f86), (87, f87), (88, f88), (89, f89), (257, f257), (258, f258), (259, f259), (261, f261), (153, f153), (154, f154), (155, f155), (157, f157), (158, f158), (341, f341), (355, f355)]
def T03g : Tab := tabOf l03g [16, 77, 78, 79, 266, 281, 293] [] [] [341] p03f
theorem up03g : Gives T03g 341 [] (.bool true) := ⟨rfl, rfl, none, callP_true (k := 60) (by decide +kernel)⟩
theorem Z3g : StdZ T03g := ⟨rfl, rfl, rfl, rfl, ⟨rfl, rfl, rfl, rfl, rfl⟩⟩
theorem finds_loop {T : Tab} (z : List Int) (hl : z.length ≤ 2 ^ 29) (Q : Exit → St → Prop) (hp : Hl) (nx : Nat)
    (hend : ∀ fr, look fr 7 = .pv (.bool true) → Q (.exit 0) ⟨fr, hp, nx⟩) :
    ∀ (rest : List Int) (i : Nat), z.drop i = rest → i ≤ z.length → ∀ (fr : List (Nat × AV)), look fr 7 = .pv (.bool true) → look fr 18 = .pv (.slice (z.map i64C)) → look fr 19 = .pv (.slice (z.map i64C)) → look fr 20 = .pv (.int .i64 i) → Wp T false (.loop f355l0) ⟨fr, hp, nx⟩ Q := by
  intro rest
  induction rest with
  | nil =>
    intro i hd hi fr g7 g18 g19 g20
    have hlen := drop_nil hd hi
    rw [Wp_loop, Wp_eq f355l0.eq_1]
    simp only [runL, opQ, evOp, evO, evOs, guardV, argsA, pvs, putS, cellsOf, scals, scal, Nat.reduceEqDiff, Nat.reduceAdd, reduceCtorEq, fieldA, nonNil, cellsAt, mkAgg, allPV, storeB, patchL, Int.reduceToNat, Nat.reduceMul, Nat.reduceLT, stepA, Int.reduceNeg, Int.reduceLE, Int.reduceLT, Int.reduceEq, extractV, mkAgg, Nat.reduceLeDiff, fillA, pureVs, pureV, eqV, eqB, lenV.eq_1, lenV.eq_2, lenV.eq_3, lenV.eq_4, binV, intBin, intV, idxA, List.drop, List.take, RetP, retP, resV, resOne, snapV, snapVs, snapR, snapRs, ownSz, pickV, AO.isC, opE, opD, funV.eq_1, funV.eq_2, g18, g20, hlen, Int.lt_irrefl]
    exact hend _ (by simp only [look_if, blkAt_if, Nat.reduceEqDiff, if_true, if_false, g7])
  | cons x r ih =>
    intro i hd hi fr g7 g18 g19 g20
    obtain ⟨hget, hlt, hw, hd', hi', hb⟩ := drop_cons hd (by omega)
    have dx : decide (x = x) = true := decide_eq_true rfl
    rw [Wp_loop, Wp_eq f355l0.eq_1]
    simp only [runL, opQ, evOp, evO, evOs, guardV, argsA, pvs, putS, cellsOf, scals, scal, Nat.reduceEqDiff, Nat.reduceAdd, reduceCtorEq, fieldA, nonNil, cellsAt, mkAgg, allPV, storeB, patchL, Int.reduceToNat, Nat.reduceMul, Nat.reduceLT, stepA, Int.reduceNeg, Int.reduceLE, Int.reduceLT, Int.reduceEq, extractV, mkAgg, Nat.reduceLeDiff, fillA, pureVs, pureV, eqV, eqB, lenV.eq_1, lenV.eq_2, lenV.eq_3, lenV.eq_4, binV, intBin, intV, idxA, List.drop, List.take, RetP, retP, resV, resOne, snapV, snapVs, snapR, snapRs, ownSz, pickV, AO.isC, opE, opD, funV.eq_1, funV.eq_2, g18, g20, hlt]
    refine (Wp_calmS rfl).2 ?_
    simp only [runL, opQ, evOp, evO, evOs, guardV, argsA, pvs, putS, cellsOf, scals, scal, Nat.reduceEqDiff, Nat.reduceAdd, reduceCtorEq, fieldA, nonNil, cellsAt, mkAgg, allPV, storeB, patchL, Int.reduceToNat, Nat.reduceMul, Nat.reduceLT, stepA, Int.reduceNeg, Int.reduceLE, Int.reduceLT, Int.reduceEq, extractV, mkAgg, Nat.reduceLeDiff, fillA, pureVs, pureV, eqV, eqB, lenV.eq_1, lenV.eq_2, lenV.eq_3, lenV.eq_4, binV, intBin, intV, idxA, List.drop, List.take, RetP, retP, resV, resOne, snapV, snapVs, snapR, snapRs, ownSz, pickV, AO.isC, opE, opD, funV.eq_1, funV.eq_2, g18, g19, g20, hget, i64C, dx, hw]
    refine ih (i + 1) hd' hi' _ ?_ ?_ ?_ ?_
    all_goals try simp only [look_if, blkAt_if, Nat.reduceEqDiff, if_true, if_false, g7, g18, g19, i64C]
set_option maxRecDepth 100000 in
set_option maxHeartbeats 8000000 in
theorem law03d (s : Snap) (x : Spec) (id : Int) (_ : s.wf) (_ : x.wf) (_ : inI id) : Gives T03g 355 [snapP s, specP x, .int .i64 id] (.bool true) := by
  refine gives (f := f355) ⟨rfl, rfl, rfl, rfl, rfl⟩ rfl ?_
  have kf := few3_ok (T := T03g) ⟨rfl, rfl, rfl, rfl, rfl⟩ s
  simp only [snapP] at kf
  cases hf : few3 s
  · rw [hf] at kf
    simp only [f355, runL, opQ, evOp, evO, evOs, guardV, argsA, pvs, putS, cellsOf, scals, scal, Nat.reduceEqDiff, Nat.reduceAdd, reduceCtorEq, fieldA, nonNil, cellsAt, mkAgg, allPV, storeB, patchL, Int.reduceToNat, Nat.reduceMul, Nat.reduceLT, stepA, Int.reduceNeg, Int.reduceLE, Int.reduceLT, Int.reduceEq, extractV, mkAgg, Nat.reduceLeDiff, fillA, pureVs, pureV, eqV, eqB, lenV.eq_1, lenV.eq_2, lenV.eq_3, lenV.eq_4, binV, intBin, intV, idxA, List.drop, List.take, RetP, retP, resV, resOne, snapV, snapVs, snapR, snapRs, ownSz, pickV, AO.isC, opE, opD, funV.eq_1, funV.eq_2, up03g.call, snapP, specP, kf.call]
  · have hf' := hf
    simp only [few3, Bool.and_eq_true, decide_eq_true_eq] at hf'
    obtain ⟨l1, l2, l3⟩ := hf'
    rw [hf] at kf
    by_cases hx : (40 : Int) < (x.wants.length : Int)
    · simp only [f355, runL, opQ, evOp, evO, evOs, guardV, argsA, pvs, putS, cellsOf, scals, scal, Nat.reduceEqDiff, Nat.reduceAdd, reduceCtorEq, fieldA, nonNil, cellsAt, mkAgg, allPV, storeB, patchL, Int.reduceToNat, Nat.reduceMul, Nat.reduceLT, stepA, Int.reduceNeg, Int.reduceLE, Int.reduceLT, Int.reduceEq, extractV, mkAgg, Nat.reduceLeDiff, fillA, pureVs, pureV, eqV, eqB, lenV.eq_1, lenV.eq_2, lenV.eq_3, lenV.eq_4, binV, intBin, intV, idxA, List.drop, List.take, RetP, retP, resV, resOne, snapV, snapVs, snapR, snapRs, ownSz, pickV, AO.isC, opE, opD, funV.eq_1, funV.eq_2, up03g.call, snapP, specP, kf.call, hx]
    · have k1 := node_ok (T := T03g) ⟨rfl, rfl, rfl, rfl, rfl⟩ s id (by omega)
      have k2 := load_ok (T := T03g) ⟨rfl, rfl, rfl, rfl, rfl⟩ s id (by omega)
      have k3 := want_ok (T := T03g) ⟨rfl, rfl, rfl, rfl, rfl⟩ x id (by omega)
      have k4 := node3_ok (T := T03g) ⟨rfl, rfl, rfl, rfl, rfl⟩ s id (by omega)
      have k5 := load3_ok (T := T03g) ⟨rfl, rfl, rfl, rfl, rfl⟩ s id (by omega)
      have k6 := want3r_ok (T := T03g) ⟨rfl, rfl, rfl, rfl, rfl⟩ x id (by omega)
      have kz := zones_ok Z3g s (by omega)
      have kr := zonesr_ok (T := T03g) ⟨rfl, rfl, rfl, rfl, rfl⟩ s (by omega)
      have hzl := risesL_le (s.nodes.map Node.zone)
      rw [List.length_map] at hzl
      have hzl' : (zonesL s).length ≤ s.nodes.length := hzl
      simp only [snapP, specP] at k1 k2 k3 k4 k5 k6 kz kr
      have en0 := eqNode (p := node0) (q := node0)
      have el0 := eqLoad (p := load0) (q := load0)
      have ew0 := eqWant (p := want0) (q := want0)
      rw [decide_eq_true rfl] at en0 el0 ew0
      simp only [nodeC, node0, loadC, load0, wantC, want0] at en0 el0 ew0
      have neg : ¬ (0 : Int) ≤ -1 := by decide
      have dz : decide ((((zonesL s).length : Nat) : Int) = ((zonesL s).length : Nat)) = true := decide_eq_true rfl
      have tail : ∀ (fr : List (Nat × AV)) {hp' : Hl} {nx : Nat}, look fr 7 = .pv (.bool true) → look fr 18 = .pv (.slice ((zonesL s).map i64C)) → look fr 19 = .pv (.slice ((zonesL s).map i64C)) → look fr 20 = .pv (.int .i64 0) →
          Wp T03g false (.loop f355l0) ⟨fr, hp', nx⟩ (blkQ 0 (seqQ T03g false (.seq (.ops [⟨some 161, .mv (.t 7), none, []⟩, ⟨some 6, .mv (.t 161), none, [0, 0]⟩]) .ret) (RetP [.t 6] (.bool true)))) := by
        intro fr hp' nx g7 g18 g19 g20
        refine finds_loop (zonesL s) (by omega) _ hp' nx (fun fr' h7 => ?_) (zonesL s) 0 rfl (Nat.zero_le _) fr g7 g18 g19 g20
        simp only [runL, opQ, evOp, evO, evOs, guardV, argsA, pvs, putS, cellsOf, scals, scal, Nat.reduceEqDiff, Nat.reduceAdd, reduceCtorEq, fieldA, nonNil, cellsAt, mkAgg, allPV, storeB, patchL, Int.reduceToNat, Nat.reduceMul, Nat.reduceLT, stepA, Int.reduceNeg, Int.reduceLE, Int.reduceLT, Int.reduceEq, extractV, mkAgg, Nat.reduceLeDiff, fillA, pureVs, pureV, eqV, eqB, lenV.eq_1, lenV.eq_2, lenV.eq_3, lenV.eq_4, binV, intBin, intV, idxA, List.drop, List.take, RetP, retP, resV, resOne, snapV, snapVs, snapR, snapRs, ownSz, pickV, AO.isC, opE, opD, funV.eq_1, funV.eq_2, h7]
      rcases ixNode_cases id s.nodes 0 with ⟨a1, a2⟩ | ⟨i, n, a1, a2, a3⟩
      · rw [a1] at k1
        rw [a2] at k4
        simp only [nodeR, nodeC, node0] at k1
        rcases ixLoad_cases id s.loads 0 with ⟨b1, b2⟩ | ⟨j, l, b1, b2, b3⟩
        · rw [b1] at k2
          rw [b2] at k5
          simp only [loadR, loadC, load0] at k2
          rcases ixWant_cases id x.wants 0 with ⟨c1, c2⟩ | ⟨k, w, c1, c2, c3⟩
          · rw [c1] at k3
            rw [c2] at k6
            simp only [wantR, wantC, want0] at k3
            simp only [f355, runL, opQ, evOp, evO, evOs, guardV, argsA, pvs, putS, cellsOf, scals, scal, Nat.reduceEqDiff, Nat.reduceAdd, reduceCtorEq, fieldA, nonNil, cellsAt, mkAgg, allPV, storeB, patchL, Int.reduceToNat, Nat.reduceMul, Nat.reduceLT, stepA, Int.reduceNeg, Int.reduceLE, Int.reduceLT, Int.reduceEq, extractV, mkAgg, Nat.reduceLeDiff, fillA, pureVs, pureV, eqV, eqB, lenV.eq_1, lenV.eq_2, lenV.eq_3, lenV.eq_4, binV, intBin, intV, idxA, List.drop, List.take, RetP, retP, resV, resOne, snapV, snapVs, snapR, snapRs, ownSz, pickV, AO.isC, opE, opD, funV.eq_1, funV.eq_2, up03g.call, snapP, specP, kf.call, hx, k1.call, k2.call, k3.call, k4.call, k5.call, k6.call, neg]
            refine (Wp_calmS rfl).2 ?_
            simp only [runL, opQ, evOp, evO, evOs, guardV, argsA, pvs, putS, cellsOf, scals, scal, Nat.reduceEqDiff, Nat.reduceAdd, reduceCtorEq, fieldA, nonNil, cellsAt, mkAgg, allPV, storeB, patchL, Int.reduceToNat, Nat.reduceMul, Nat.reduceLT, stepA, Int.reduceNeg, Int.reduceLE, Int.reduceLT, Int.reduceEq, extractV, mkAgg, Nat.reduceLeDiff, fillA, pureVs, pureV, eqV, eqB, lenV.eq_1, lenV.eq_2, lenV.eq_3, lenV.eq_4, binV, intBin, intV, idxA, List.drop, List.take, RetP, retP, resV, resOne, snapV, snapVs, snapR, snapRs, ownSz, pickV, AO.isC, opE, opD, funV.eq_1, funV.eq_2, fillA, en0, el0, ew0, nodeC, loadC, wantC]
            simp only [runL, opQ, evOp, evO, evOs, guardV, argsA, pvs, putS, cellsOf, scals, scal, Nat.reduceEqDiff, Nat.reduceAdd, reduceCtorEq, fieldA, nonNil, cellsAt, mkAgg, allPV, storeB, patchL, Int.reduceToNat, Nat.reduceMul, Nat.reduceLT, stepA, Int.reduceNeg, Int.reduceLE, Int.reduceLT, Int.reduceEq, extractV, mkAgg, Nat.reduceLeDiff, fillA, pureVs, pureV, eqV, eqB, lenV.eq_1, lenV.eq_2, lenV.eq_3, lenV.eq_4, binV, intBin, intV, idxA, List.drop, List.take, RetP, retP, resV, resOne, snapV, snapVs, snapR, snapRs, ownSz, pickV, AO.isC, opE, opD, funV.eq_1, funV.eq_2, kz.call, kr.call, dz]
            exact tail _ rfl rfl rfl rfl
          · rw [c2] at k3
            rw [c3, Nat.zero_add] at k6
            simp only [wantR, wantC] at k3
            have ew := eqWant (p := w) (q := w)
            rw [decide_eq_true rfl] at ew
            simp only [wantC] at ew
            simp only [f355, runL, opQ, evOp, evO, evOs, guardV, argsA, pvs, putS, cellsOf, scals, scal, Nat.reduceEqDiff, Nat.reduceAdd, reduceCtorEq, fieldA, nonNil, cellsAt, mkAgg, allPV, storeB, patchL, Int.reduceToNat, Nat.reduceMul, Nat.reduceLT, stepA, Int.reduceNeg, Int.reduceLE, Int.reduceLT, Int.reduceEq, extractV, mkAgg, Nat.reduceLeDiff, fillA, pureVs, pureV, eqV, eqB, lenV.eq_1, lenV.eq_2, lenV.eq_3, lenV.eq_4, binV, intBin, intV, idxA, List.drop, List.take, RetP, retP, resV, resOne, snapV, snapVs, snapR, snapRs, ownSz, pickV, AO.isC, opE, opD, funV.eq_1, funV.eq_2, up03g.call, snapP, specP, kf.call, hx, k1.call, k2.call, k3.call, k4.call, k5.call, k6.call, neg]
            refine (Wp_calmS rfl).2 ?_
            simp only [runL, opQ, evOp, evO, evOs, guardV, argsA, pvs, putS, cellsOf, scals, scal, Nat.reduceEqDiff, Nat.reduceAdd, reduceCtorEq, fieldA, nonNil, cellsAt, mkAgg, allPV, storeB, patchL, Int.reduceToNat, Nat.reduceMul, Nat.reduceLT, stepA, Int.reduceNeg, Int.reduceLE, Int.reduceLT, Int.reduceEq, extractV, mkAgg, Nat.reduceLeDiff, fillA, pureVs, pureV, eqV, eqB, lenV.eq_1, lenV.eq_2, lenV.eq_3, lenV.eq_4, binV, intBin, intV, idxA, List.drop, List.take, RetP, retP, resV, resOne, snapV, snapVs, snapR, snapRs, ownSz, pickV, AO.isC, opE, opD, funV.eq_1, funV.eq_2, fillA, en0, el0, c1, ew, nodeC, loadC, wantC]
            simp only [runL, opQ, evOp, evO, evOs, guardV, argsA, pvs, putS, cellsOf, scals, scal, Nat.reduceEqDiff, Nat.reduceAdd, reduceCtorEq, fieldA, nonNil, cellsAt, mkAgg, allPV, storeB, patchL, Int.reduceToNat, Nat.reduceMul, Nat.reduceLT, stepA, Int.reduceNeg, Int.reduceLE, Int.reduceLT, Int.reduceEq, extractV, mkAgg, Nat.reduceLeDiff, fillA, pureVs, pureV, eqV, eqB, lenV.eq_1, lenV.eq_2, lenV.eq_3, lenV.eq_4, binV, intBin, intV, idxA, List.drop, List.take, RetP, retP, resV, resOne, snapV, snapVs, snapR, snapRs, ownSz, pickV, AO.isC, opE, opD, funV.eq_1, funV.eq_2, kz.call, kr.call, dz]
            exact tail _ rfl rfl rfl rfl
        · rw [b2] at k2
          rw [b3, Nat.zero_add] at k5
          simp only [loadR, loadC] at k2
          have el := eqLoad (p := l) (q := l)
          rw [decide_eq_true rfl] at el
          simp only [loadC] at el
          rcases ixWant_cases id x.wants 0 with ⟨c1, c2⟩ | ⟨k, w, c1, c2, c3⟩
          · rw [c1] at k3
            rw [c2] at k6
            simp only [wantR, wantC, want0] at k3
            simp only [f355, runL, opQ, evOp, evO, evOs, guardV, argsA, pvs, putS, cellsOf, scals, scal, Nat.reduceEqDiff, Nat.reduceAdd, reduceCtorEq, fieldA, nonNil, cellsAt, mkAgg, allPV, storeB, patchL, Int.reduceToNat, Nat.reduceMul, Nat.reduceLT, stepA, Int.reduceNeg, Int.reduceLE, Int.reduceLT, Int.reduceEq, extractV, mkAgg, Nat.reduceLeDiff, fillA, pureVs, pureV, eqV, eqB, lenV.eq_1, lenV.eq_2, lenV.eq_3, lenV.eq_4, binV, intBin, intV, idxA, List.drop, List.take, RetP, retP, resV, resOne, snapV, snapVs, snapR, snapRs, ownSz, pickV, AO.isC, opE, opD, funV.eq_1, funV.eq_2, up03g.call, snapP, specP, kf.call, hx, k1.call, k2.call, k3.call, k4.call, k5.call, k6.call, neg]
            refine (Wp_calmS rfl).2 ?_
            simp only [runL, opQ, evOp, evO, evOs, guardV, argsA, pvs, putS, cellsOf, scals, scal, Nat.reduceEqDiff, Nat.reduceAdd, reduceCtorEq, fieldA, nonNil, cellsAt, mkAgg, allPV, storeB, patchL, Int.reduceToNat, Nat.reduceMul, Nat.reduceLT, stepA, Int.reduceNeg, Int.reduceLE, Int.reduceLT, Int.reduceEq, extractV, mkAgg, Nat.reduceLeDiff, fillA, pureVs, pureV, eqV, eqB, lenV.eq_1, lenV.eq_2, lenV.eq_3, lenV.eq_4, binV, intBin, intV, idxA, List.drop, List.take, RetP, retP, resV, resOne, snapV, snapVs, snapR, snapRs, ownSz, pickV, AO.isC, opE, opD, funV.eq_1, funV.eq_2, fillA, en0, b1, el, ew0, nodeC, loadC, wantC]
            simp only [runL, opQ, evOp, evO, evOs, guardV, argsA, pvs, putS, cellsOf, scals, scal, Nat.reduceEqDiff, Nat.reduceAdd, reduceCtorEq, fieldA, nonNil, cellsAt, mkAgg, allPV, storeB, patchL, Int.reduceToNat, Nat.reduceMul, Nat.reduceLT, stepA, Int.reduceNeg, Int.reduceLE, Int.reduceLT, Int.reduceEq, extractV, mkAgg, Nat.reduceLeDiff, fillA, pureVs, pureV, eqV, eqB, lenV.eq_1, lenV.eq_2, lenV.eq_3, lenV.eq_4, binV, intBin, intV, idxA, List.drop, List.take, RetP, retP, resV, resOne, snapV, snapVs, snapR, snapRs, ownSz, pickV, AO.isC, opE, opD, funV.eq_1, funV.eq_2, kz.call, kr.call, dz]
            exact tail _ rfl rfl rfl rfl
          · rw [c2] at k3
            rw [c3, Nat.zero_add] at k6
            simp only [wantR, wantC] at k3
            have ew := eqWant (p := w) (q := w)
            rw [decide_eq_true rfl] at ew
            simp only [wantC] at ew
            simp only [f355, runL, opQ, evOp, evO, evOs, guardV, argsA, pvs, putS, cellsOf, scals, scal, Nat.reduceEqDiff, Nat.reduceAdd, reduceCtorEq, fieldA, nonNil, cellsAt, mkAgg, allPV, storeB, patchL, Int.reduceToNat, Nat.reduceMul, Nat.reduceLT, stepA, Int.reduceNeg, Int.reduceLE, Int.reduceLT, Int.reduceEq, extractV, mkAgg, Nat.reduceLeDiff, fillA, pureVs, pureV, eqV, eqB, lenV.eq_1, lenV.eq_2, lenV.eq_3, lenV.eq_4, binV, intBin, intV, idxA, List.drop, List.take, RetP, retP, resV, resOne, snapV, snapVs, snapR, snapRs, ownSz, pickV, AO.isC, opE, opD, funV.eq_1, funV.eq_2, up03g.call, snapP, specP, kf.call, hx, k1.call, k2.call, k3.call, k4.call, k5.call, k6.call, neg]
            refine (Wp_calmS rfl).2 ?_
            simp only [runL, opQ, evOp, evO, evOs, guardV, argsA, pvs, putS, cellsOf, scals, scal, Nat.reduceEqDiff, Nat.reduceAdd, reduceCtorEq, fieldA, nonNil, cellsAt, mkAgg, allPV, storeB, patchL, Int.reduceToNat, Nat.reduceMul, Nat.reduceLT, stepA, Int.reduceNeg, Int.reduceLE, Int.reduceLT, Int.reduceEq, extractV, mkAgg, Nat.reduceLeDiff, fillA, pureVs, pureV, eqV, eqB, lenV.eq_1, lenV.eq_2, lenV.eq_3, lenV.eq_4, binV, intBin, intV, idxA, List.drop, List.take, RetP, retP, resV, resOne, snapV, snapVs, snapR, snapRs, ownSz, pickV, AO.isC, opE, opD, funV.eq_1, funV.eq_2, fillA, en0, b1, el, c1, ew, nodeC, loadC, wantC]
            simp only [runL, opQ, evOp, evO, evOs, guardV, argsA, pvs, putS, cellsOf, scals, scal, Nat.reduceEqDiff, Nat.reduceAdd, reduceCtorEq, fieldA, nonNil, cellsAt, mkAgg, allPV, storeB, patchL, Int.reduceToNat, Nat.reduceMul, Nat.reduceLT, stepA, Int.reduceNeg, Int.reduceLE, Int.reduceLT, Int.reduceEq, extractV, mkAgg, Nat.reduceLeDiff, fillA, pureVs, pureV, eqV, eqB, lenV.eq_1, lenV.eq_2, lenV.eq_3, lenV.eq_4, binV, intBin, intV, idxA, List.drop, List.take, RetP, retP, resV, resOne, snapV, snapVs, snapR, snapRs, ownSz, pickV, AO.isC, opE, opD, funV.eq_1, funV.eq_2, kz.call, kr.call, dz]
            exact tail _ rfl rfl rfl rfl
      · rw [a2] at k1
        rw [a3, Nat.zero_add] at k4
        simp only [nodeR, nodeC] at k1
        have en := eqNode (p := n) (q := n)
        rw [decide_eq_true rfl] at en
        simp only [nodeC] at en
        rcases ixLoad_cases id s.loads 0 with ⟨b1, b2⟩ | ⟨j, l, b1, b2, b3⟩
        · rw [b1] at k2
          rw [b2] at k5
          simp only [loadR, loadC, load0] at k2
          rcases ixWant_cases id x.wants 0 with ⟨c1, c2⟩ | ⟨k, w, c1, c2, c3⟩
          · rw [c1] at k3
            rw [c2] at k6
            simp only [wantR, wantC, want0] at k3
            simp only [f355, runL, opQ, evOp, evO, evOs, guardV, argsA, pvs, putS, cellsOf, scals, scal, Nat.reduceEqDiff, Nat.reduceAdd, reduceCtorEq, fieldA, nonNil, cellsAt, mkAgg, allPV, storeB, patchL, Int.reduceToNat, Nat.reduceMul, Nat.reduceLT, stepA, Int.reduceNeg, Int.reduceLE, Int.reduceLT, Int.reduceEq, extractV, mkAgg, Nat.reduceLeDiff, fillA, pureVs, pureV, eqV, eqB, lenV.eq_1, lenV.eq_2, lenV.eq_3, lenV.eq_4, binV, intBin, intV, idxA, List.drop, List.take, RetP, retP, resV, resOne, snapV, snapVs, snapR, snapRs, ownSz, pickV, AO.isC, opE, opD, funV.eq_1, funV.eq_2, up03g.call, snapP, specP, kf.call, hx, k1.call, k2.call, k3.call, k4.call, k5.call, k6.call, neg]
            refine (Wp_calmS rfl).2 ?_
            simp only [runL, opQ, evOp, evO, evOs, guardV, argsA, pvs, putS, cellsOf, scals, scal, Nat.reduceEqDiff, Nat.reduceAdd, reduceCtorEq, fieldA, nonNil, cellsAt, mkAgg, allPV, storeB, patchL, Int.reduceToNat, Nat.reduceMul, Nat.reduceLT, stepA, Int.reduceNeg, Int.reduceLE, Int.reduceLT, Int.reduceEq, extractV, mkAgg, Nat.reduceLeDiff, fillA, pureVs, pureV, eqV, eqB, lenV.eq_1, lenV.eq_2, lenV.eq_3, lenV.eq_4, binV, intBin, intV, idxA, List.drop, List.take, RetP, retP, resV, resOne, snapV, snapVs, snapR, snapRs, ownSz, pickV, AO.isC, opE, opD, funV.eq_1, funV.eq_2, fillA, a1, en, el0, ew0, nodeC, loadC, wantC]
            simp only [runL, opQ, evOp, evO, evOs, guardV, argsA, pvs, putS, cellsOf, scals, scal, Nat.reduceEqDiff, Nat.reduceAdd, reduceCtorEq, fieldA, nonNil, cellsAt, mkAgg, allPV, storeB, patchL, Int.reduceToNat, Nat.reduceMul, Nat.reduceLT, stepA, Int.reduceNeg, Int.reduceLE, Int.reduceLT, Int.reduceEq, extractV, mkAgg, Nat.reduceLeDiff, fillA, pureVs, pureV, eqV, eqB, lenV.eq_1, lenV.eq_2, lenV.eq_3, lenV.eq_4, binV, intBin, intV, idxA, List.drop, List.take, RetP, retP, resV, resOne, snapV, snapVs, snapR, snapRs, ownSz, pickV, AO.isC, opE, opD, funV.eq_1, funV.eq_2, kz.call, kr.call, dz]
            exact tail _ rfl rfl rfl rfl
          · rw [c2] at k3
            rw [c3, Nat.zero_add] at k6
            simp only [wantR, wantC] at k3
            have ew := eqWant (p := w) (q := w)
            rw [decide_eq_true rfl] at ew
            simp only [wantC] at ew
            simp only [f355, runL, opQ, evOp, evO, evOs, guardV, argsA, pvs, putS, cellsOf, scals, scal, Nat.reduceEqDiff, Nat.reduceAdd, reduceCtorEq, fieldA, nonNil, cellsAt, mkAgg, allPV, storeB, patchL, Int.reduceToNat, Nat.reduceMul, Nat.reduceLT, stepA, Int.reduceNeg, Int.reduceLE, Int.reduceLT, Int.reduceEq, extractV, mkAgg, Nat.reduceLeDiff, fillA, pureVs, pureV, eqV, eqB, lenV.eq_1, lenV.eq_2, lenV.eq_3, lenV.eq_4, binV, intBin, intV, idxA, List.drop, List.take, RetP, retP, resV, resOne, snapV, snapVs, snapR, snapRs, ownSz, pickV, AO.isC, opE, opD, funV.eq_1, funV.eq_2, up03g.call, snapP, specP, kf.call, hx, k1.call, k2.call, k3.call, k4.call, k5.call, k6.call, neg]
            refine (Wp_calmS rfl).2 ?_
            simp only [runL, opQ, evOp, evO, evOs, guardV, argsA, pvs, putS, cellsOf, scals, scal, Nat.reduceEqDiff, Nat.reduceAdd, reduceCtorEq, fieldA, nonNil, cellsAt, mkAgg, allPV, storeB, patchL, Int.reduceToNat, Nat.reduceMul, Nat.reduceLT, stepA, Int.reduceNeg, Int.reduceLE, Int.reduceLT, Int.reduceEq, extractV, mkAgg, Nat.reduceLeDiff, fillA, pureVs, pureV, eqV, eqB, lenV.eq_1, lenV.eq_2, lenV.eq_3, lenV.eq_4, binV, intBin, intV, idxA, List.drop, List.take, RetP, retP, resV, resOne, snapV, snapVs, snapR, snapRs, ownSz, pickV, AO.isC, opE, opD, funV.eq_1, funV.eq_2, fillA, a1, en, el0, c1, ew, nodeC, loadC, wantC]
            simp only [runL, opQ, evOp, evO, evOs, guardV, argsA, pvs, putS, cellsOf, scals, scal, Nat.reduceEqDiff, Nat.reduceAdd, reduceCtorEq, fieldA, nonNil, cellsAt, mkAgg, allPV, storeB, patchL, Int.reduceToNat, Nat.reduceMul, Nat.reduceLT, stepA, Int.reduceNeg, Int.reduceLE, Int.reduceLT, Int.reduceEq, extractV, mkAgg, Nat.reduceLeDiff, fillA, pureVs, pureV, eqV, eqB, lenV.eq_1, lenV.eq_2, lenV.eq_3, lenV.eq_4, binV, intBin, intV, idxA, List.drop, List.take, RetP, retP, resV, resOne, snapV, snapVs, snapR, snapRs, ownSz, pickV, AO.isC, opE, opD, funV.eq_1, funV.eq_2, kz.call, kr.call, dz]
            exact tail _ rfl rfl rfl rfl
        · rw [b2] at k2
          rw [b3, Nat.zero_add] at k5
          simp only [loadR, loadC] at k2
          have el := eqLoad (p := l) (q := l)
          rw [decide_eq_true rfl] at el
          simp only [loadC] at el
          rcases ixWant_cases id x.wants 0 with ⟨c1, c2⟩ | ⟨k, w, c1, c2, c3⟩
          · rw [c1] at k3
            rw [c2] at k6
            simp only [wantR, wantC, want0] at k3
            simp only [f355, runL, opQ, evOp, evO, evOs, guardV, argsA, pvs, putS, cellsOf, scals, scal, Nat.reduceEqDiff, Nat.reduceAdd, reduceCtorEq, fieldA, nonNil, cellsAt, mkAgg, allPV, storeB, patchL, Int.reduceToNat, Nat.reduceMul, Nat.reduceLT, stepA, Int.reduceNeg, Int.reduceLE, Int.reduceLT, Int.reduceEq, extractV, mkAgg, Nat.reduceLeDiff, fillA, pureVs, pureV, eqV, eqB, lenV.eq_1, lenV.eq_2, lenV.eq_3, lenV.eq_4, binV, intBin, intV, idxA, List.drop, List.take, RetP, retP, resV, resOne, snapV, snapVs, snapR, snapRs, ownSz, pickV, AO.isC, opE, opD, funV.eq_1, funV.eq_2, up03g.call, snapP, specP, kf.call, hx, k1.call, k2.call, k3.call, k4.call, k5.call, k6.call, neg]
            refine (Wp_calmS rfl).2 ?_
            simp only [runL, opQ, evOp, evO, evOs, guardV, argsA, pvs, putS, cellsOf, scals, scal, Nat.reduceEqDiff, Nat.reduceAdd, reduceCtorEq, fieldA, nonNil, cellsAt, mkAgg, allPV, storeB, patchL, Int.reduceToNat, Nat.reduceMul, Nat.reduceLT, stepA, Int.reduceNeg, Int.reduceLE, Int.reduceLT, Int.reduceEq, extractV, mkAgg, Nat.reduceLeDiff, fillA, pureVs, pureV, eqV, eqB, lenV.eq_1, lenV.eq_2, lenV.eq_3, lenV.eq_4, binV, intBin, intV, idxA, List.drop, List.take, RetP, retP, resV, resOne, snapV, snapVs, snapR, snapRs, ownSz, pickV, AO.isC, opE, opD, funV.eq_1, funV.eq_2, fillA, a1, en, b1, el, ew0, nodeC, loadC, wantC]
            simp only [runL, opQ, evOp, evO, evOs, guardV, argsA, pvs, putS, cellsOf, scals, scal, Nat.reduceEqDiff, Nat.reduceAdd, reduceCtorEq, fieldA, nonNil, cellsAt, mkAgg, allPV, storeB, patchL, Int.reduceToNat, Nat.reduceMul, Nat.reduceLT, stepA, Int.reduceNeg, Int.reduceLE, Int.reduceLT, Int.reduceEq, extractV, mkAgg, Nat.reduceLeDiff, fillA, pureVs, pureV, eqV, eqB, lenV.eq_1, lenV.eq_2, lenV.eq_3, lenV.eq_4, binV, intBin, intV, idxA, List.drop, List.take, RetP, retP, resV, resOne, snapV, snapVs, snapR, snapRs, ownSz, pickV, AO.isC, opE, opD, funV.eq_1, funV.eq_2, kz.call, kr.call, dz]
            exact tail _ rfl rfl rfl rfl
          · rw [c2] at k3
            rw [c3, Nat.zero_add] at k6
            simp only [wantR, wantC] at k3
            have ew := eqWant (p := w) (q := w)
            rw [decide_eq_true rfl] at ew
            simp only [wantC] at ew
            simp only [f355, runL, opQ, evOp, evO, evOs, guardV, argsA, pvs, putS, cellsOf, scals, scal, Nat.reduceEqDiff, Nat.reduceAdd, reduceCtorEq, fieldA, nonNil, cellsAt, mkAgg, allPV, storeB, patchL, Int.reduceToNat, Nat.reduceMul, Nat.reduceLT, stepA, Int.reduceNeg, Int.reduceLE, Int.reduceLT, Int.reduceEq, extractV, mkAgg, Nat.reduceLeDiff, fillA, pureVs, pureV, eqV, eqB, lenV.eq_1, lenV.eq_2, lenV.eq_3, lenV.eq_4, binV, intBin, intV, idxA, List.drop, List.take, RetP, retP, resV, resOne, snapV, snapVs, snapR, snapRs, ownSz, pickV, AO.isC, opE, opD, funV.eq_1, funV.eq_2, up03g.call, snapP, specP, kf.call, hx, k1.call, k2.call, k3.call, k4.call, k5.call, k6.call, neg]
            refine (Wp_calmS rfl).2 ?_
            simp only [runL, opQ, evOp, evO, evOs, guardV, argsA, pvs, putS, cellsOf, scals, scal, Nat.reduceEqDiff, Nat.reduceAdd, reduceCtorEq, fieldA, nonNil, cellsAt, mkAgg, allPV, storeB, patchL, Int.reduceToNat, Nat.reduceMul, Nat.reduceLT, stepA, Int.reduceNeg, Int.reduceLE, Int.reduceLT, Int.reduceEq, extractV, mkAgg, Nat.reduceLeDiff, fillA, pureVs, pureV, eqV, eqB, lenV.eq_1, lenV.eq_2, lenV.eq_3, lenV.eq_4, binV, intBin, intV, idxA, List.drop, List.take, RetP, retP, resV, resOne, snapV, snapVs, snapR, snapRs, ownSz, pickV, AO.isC, opE, opD, funV.eq_1, funV.eq_2, fillA, a1, en, b1, el, c1, ew, nodeC, loadC, wantC]
            simp only [runL, opQ, evOp, evO, evOs, guardV, argsA, pvs, putS, cellsOf, scals, scal, Nat.reduceEqDiff, Nat.reduceAdd, reduceCtorEq, fieldA, nonNil, cellsAt, mkAgg, allPV, storeB, patchL, Int.reduceToNat, Nat.reduceMul, Nat.reduceLT, stepA, Int.reduceNeg, Int.reduceLE, Int.reduceLT, Int.reduceEq, extractV, mkAgg, Nat.reduceLeDiff, fillA, pureVs, pureV, eqV, eqB, lenV.eq_1, lenV.eq_2, lenV.eq_3, lenV.eq_4, binV, intBin, intV, idxA, List.drop, List.take, RetP, retP, resV, resOne, snapV, snapVs, snapR, snapRs, ownSz, pickV, AO.isC, opE, opD, funV.eq_1, funV.eq_2, kz.call, kr.call, dz]
            exact tail _ rfl rfl rfl rfl
end Go.Proofs.YtimkghkokfhfcaaDoor.Ab
