/- The layer, part 4: Co03, Sp3, Sp3b, Sp3c, Sp3d, Sp4o, Sp4p, Sp4g, Sp4n, Sp4k, Sp4l, Sp4q, Sp5f, Sp3e, Sp3r, Sp3s, Sp4m, Sp4r, Sp4s. -/
import Derived.Test.YtjmggjlfamjdbaaDoorA3
set_option linter.unusedVariables false
namespace Go.Proofs.YtjmggjlfamjdbaaDoor.Ab
open Go
def f16 : AFunc := ⟨49, [],
 (.seq (.seq (.ops [
   ⟨some 8, .mv (.t 0), none, []⟩,
   ⟨some 9, .nilchk (.t 8), none, [0]⟩,
   ⟨some 10, .fieldAddr 2 (.t 9), none, [1]⟩,
   ⟨some 11, .load false 1 (.t 10), none, [2]⟩,
   ⟨some 12, .bin .eql (some (.iface true)) (.t 11) (.c (.pv .nili)), none, [3]⟩])
  (.cond (.t 12)
   (.seq (.ops [
     ⟨some 13, .mv (.t 1), none, []⟩,
     ⟨some 14, .mv (.t 0), none, []⟩,
     ⟨some 15, .nilchk (.t 14), none, [1]⟩,
     ⟨some 16, .fieldAddr 1 (.t 15), none, [2]⟩,
     ⟨some 17, .load false 1 (.t 16), none, [3]⟩,
     ⟨some 18, .call 86 [(.t 13), (.t 17)], none, [0, 4]⟩,
     ⟨some 6, .mv (.t 18), none, [5, 5, 0, 1, 2, 3, 4, 5]⟩])
    (.seq (.seq (.ops [
     ⟨some 19, .mv (.t 6), none, []⟩,
     ⟨some 20, .bin .eql (some (.iface true)) (.t 19) (.c (.pv .nili)), none, [0]⟩])
    (.cond (.t 20)
     (.ops [
       ⟨some 21, .mv (.t 2), none, []⟩,
       ⟨some 22, .callv (.t 21) [], none, [0]⟩,
       ⟨some 6, .mv (.t 22), none, [1, 1, 0, 1]⟩])
     .skip))
    (.seq (.ops [
     ⟨some 7, .alloc [(.pv (.int .i64 0))], none, []⟩])
    (.seq (.ops [
     ⟨some 23, .mv (.t 6), none, []⟩,
     ⟨some 24, .mkI 3 (.t 7), none, []⟩,
     ⟨some 25, .call 266 [(.t 23), (.t 24)], none, [0, 1]⟩])
    (.cond (.t 25)
     (.draw [
       ⟨some 26, .mv (.t 0), none, []⟩,
       ⟨some 27, .mv (.t 0), none, []⟩,
       ⟨some 28, .nilchk (.t 27), none, [1]⟩,
       ⟨some 29, .fieldAddr 0 (.t 28), none, [2]⟩,
       ⟨some 30, .load false 1 (.t 29), none, [3]⟩,
       ⟨some 31, .load false 1 (.t 7), none, []⟩,
       ⟨some 32, .build [(.pv (.int .i64 0)), (.pv (.int .i64 0))] [(0, 1, (.t 30)), (1, 1, (.t 31))], none, [4, 5]⟩,
       ⟨some 33, .box (.t 32), none, [6]⟩,
       ⟨some 34, .mkI 1 (.t 33), none, [7]⟩,
       ⟨some 35, .nilchk (.t 26), none, [0, 0, 1, 2, 3, 4, 5, 6, 7, 8]⟩,
       ⟨some 36, .fieldAddr 2 (.t 35), none, [9, 0, 1, 2, 3, 4, 5, 6, 7, 8]⟩,
       ⟨none, .store 1 (.t 36) (.t 34), none, [10, 8, 0, 1, 2, 3, 4, 5, 6, 7, 8]⟩])
     .skip)))))
   .skip))
  (.ops [
   ⟨some 37, .mv (.t 0), none, []⟩,
   ⟨some 38, .mv (.t 0), none, []⟩,
   ⟨some 39, .mv (.t 0), none, []⟩,
   ⟨some 40, .nilchk (.t 39), none, [2]⟩,
   ⟨some 41, .fieldAddr 0 (.t 40), none, [3]⟩,
   ⟨some 42, .load false 1 (.t 41), none, [4]⟩,
   ⟨some 43, .bin .add none (.t 42) (.c (.pv (.int .i64 1))), none, [5]⟩,
   ⟨some 44, .mv (.t 1), none, []⟩,
   ⟨some 45, .nilchk (.t 37), none, [0, 0, 2, 3, 4, 5, 6]⟩,
   ⟨some 46, .fieldAddr 0 (.t 45), none, [8, 0, 2, 3, 4, 5, 6]⟩,
   ⟨none, .store 1 (.t 46) (.t 43), none, [9, 6, 0, 2, 3, 4, 5, 6]⟩,
   ⟨some 47, .nilchk (.t 38), none, [1, 0, 1, 2, 3, 4, 5, 6, 7, 8, 9, 10]⟩,
   ⟨some 48, .fieldAddr 1 (.t 47), none, [11, 0, 1, 2, 3, 4, 5, 6, 7, 8, 9, 10]⟩,
   ⟨none, .store 1 (.t 48) (.t 44), none, [12, 7, 10, 0, 1, 2, 3, 4, 5, 6, 7, 8, 9, 10]⟩]))⟩
def f76l0 : ACode :=
 (.seq (.ops [
   ⟨some 39, .bin .lss none (.t 38) (.t 37), none, []⟩])
  (.seq (.cond (.t 39)
   .skip
   (.exit 0))
  (.seq (.block 1
   (.seq (.ops [
     ⟨some 40, .idxAddr 10 (.t 36) (.t 38), none, []⟩,
     ⟨some 41, .load true 10 (.t 40), none, [0]⟩,
     ⟨some 5, .alloc [(.pv (.int .i64 0)), (.pv (.int .i64 0)), (.pv (.int .u64 0)), (.pv (.int .u64 0)), (.pv (.int .u64 0)), (.pv (.int .u64 0)), (.pv (.int .u64 0)), (.pv (.int .u64 0)), (.pv (.int .u64 0)), (.pv (.int .u64 0))], none, []⟩,
     ⟨none, .store 10 (.t 5) (.t 41), none, [2, 1, 0, 1, 2]⟩])
    (.ops [
     ⟨some 42, .mv (.t 3), none, []⟩,
     ⟨some 43, .fieldAddr 0 (.t 5), none, []⟩,
     ⟨some 44, .load false 1 (.t 43), none, [1]⟩,
     ⟨some 45, .mkF 77 [] [(.t 5)], none, []⟩,
     ⟨some 46, .call 16 [(.t 42), (.t 44), (.t 45)], none, [0, 2, 3]⟩])))
  (.ops [
   ⟨some 47, .bin .add none (.t 38) (.c (.pv (.int .i64 1))), none, []⟩,
   ⟨some 38, .mv (.t 47), none, [0]⟩]))))
def f76l1 : ACode :=
 (.seq (.ops [
   ⟨some 55, .bin .lss none (.t 54) (.t 53), none, []⟩])
  (.seq (.cond (.t 55)
   .skip
   (.exit 2))
  (.seq (.block 3
   (.seq (.ops [
     ⟨some 56, .idxAddr 5 (.t 52) (.t 54), none, []⟩,
     ⟨some 57, .load true 5 (.t 56), none, [0]⟩,
     ⟨some 7, .alloc [(.pv (.int .i64 0)), (.pv (.bool false)), (.pv (.int .i64 0)), (.pv (.int .i64 0)), (.pv (.int .i64 0))], none, []⟩,
     ⟨none, .store 5 (.t 7) (.t 57), none, [2, 1, 0, 1, 2]⟩])
    (.ops [
     ⟨some 58, .mv (.t 3), none, []⟩,
     ⟨some 59, .fieldAddr 0 (.t 7), none, []⟩,
     ⟨some 60, .load false 1 (.t 59), none, [1]⟩,
     ⟨some 61, .mkF 78 [] [(.t 7)], none, []⟩,
     ⟨some 62, .call 16 [(.t 58), (.t 60), (.t 61)], none, [0, 2, 3]⟩])))
  (.ops [
   ⟨some 63, .bin .add none (.t 54) (.c (.pv (.int .i64 1))), none, []⟩,
   ⟨some 54, .mv (.t 63), none, [0]⟩]))))
def f76l2 : ACode :=
 (.seq (.ops [
   ⟨some 71, .bin .lss none (.t 70) (.t 69), none, []⟩])
  (.seq (.cond (.t 71)
   .skip
   (.exit 4))
  (.seq (.block 5
   (.seq (.ops [
     ⟨some 72, .idxAddr 8 (.t 68) (.t 70), none, []⟩,
     ⟨some 73, .load true 8 (.t 72), none, [0]⟩,
     ⟨some 9, .alloc [(.pv (.int .i64 0)), (.pv (.int .i64 0)), (.pv (.int .i64 0)), (.pv (.int .u64 0)), (.pv (.int .u64 0)), (.pv (.int .u64 0)), (.pv (.int .u64 0)), (.pv (.int .i64 0))], none, []⟩,
     ⟨none, .store 8 (.t 9) (.t 73), none, [2, 1, 0, 1, 2]⟩])
    (.ops [
     ⟨some 74, .mv (.t 3), none, []⟩,
     ⟨some 75, .fieldAddr 0 (.t 9), none, []⟩,
     ⟨some 76, .load false 1 (.t 75), none, [1]⟩,
     ⟨some 77, .mkF 79 [] [(.t 1), (.t 9)], none, []⟩,
     ⟨some 78, .call 16 [(.t 74), (.t 76), (.t 77)], none, [0, 2, 3]⟩])))
  (.ops [
   ⟨some 79, .bin .add none (.t 70) (.c (.pv (.int .i64 1))), none, []⟩,
   ⟨some 70, .mv (.t 79), none, [0]⟩]))))
def f76 : AFunc := ⟨84, [.t 2],
 (.seq (.ops [
   ⟨some 1, .box (.t 0), none, []⟩,
   ⟨some 2, .mv (.c (.pv .nili)), none, []⟩])
  (.seq (.seq (.ops [
   ⟨some 10, .fieldAddr 0 (.t 1), none, []⟩,
   ⟨some 11, .load false 1 (.t 10), none, [0]⟩,
   ⟨some 12, .len (.t 11), none, [1]⟩,
   ⟨some 13, .bin .lss none (.t 12) (.c (.pv (.int .i64 1))), none, [2]⟩,
   ⟨some 14, .mv (.t 13), none, [3]⟩,
   ⟨some 15, .fieldAddr 0 (.t 1), some (14, false), [4]⟩,
   ⟨some 16, .load false 1 (.t 15), some (14, false), [5, 4]⟩,
   ⟨some 17, .len (.t 16), some (14, false), [6, 4]⟩,
   ⟨some 18, .bin .gtr none (.t 17) (.c (.pv (.int .i64 8))), some (14, false), [7, 4]⟩,
   ⟨some 19, .pick (.t 14) (.c (.pv (.bool true))) (.t 18), none, [4, 8]⟩,
   ⟨some 20, .mv (.t 19), none, [9, 4]⟩,
   ⟨some 21, .fieldAddr 1 (.t 1), some (20, false), [10]⟩,
   ⟨some 22, .load false 1 (.t 21), some (20, false), [11, 10]⟩,
   ⟨some 23, .len (.t 22), some (20, false), [12, 10]⟩,
   ⟨some 24, .bin .gtr none (.t 23) (.c (.pv (.int .i64 8))), some (20, false), [13, 10]⟩,
   ⟨some 25, .pick (.t 20) (.c (.pv (.bool true))) (.t 24), none, [10, 14]⟩,
   ⟨some 26, .mv (.t 25), none, [15, 10]⟩,
   ⟨some 27, .fieldAddr 2 (.t 1), some (26, false), [16]⟩,
   ⟨some 28, .load false 1 (.t 27), some (26, false), [17, 16]⟩,
   ⟨some 29, .len (.t 28), some (26, false), [18, 16]⟩,
   ⟨some 30, .bin .gtr none (.t 29) (.c (.pv (.int .i64 12))), some (26, false), [19, 16]⟩,
   ⟨some 31, .pick (.t 26) (.c (.pv (.bool true))) (.t 30), none, [16, 20]⟩])
  (.cond (.t 31)
   (.seq (.ops [
     ⟨some 32, .mkI 0 (.c (.pv (.int .i64 3))), none, []⟩,
     ⟨some 2, .mv (.t 32), none, [0, 0]⟩])
    .ret)
   .skip))
  (.seq (.ops [
   ⟨some 33, .build [(.pv (.int .i64 0)), (.pv (.int .i64 0)), (.pv .nili)] [], none, []⟩,
   ⟨some 34, .box (.t 33), none, [0]⟩,
   ⟨some 3, .mv (.t 34), none, [1, 0, 1]⟩])
  (.seq (.seq (.ops [
   ⟨some 35, .fieldAddr 0 (.t 1), none, []⟩,
   ⟨some 36, .load false 1 (.t 35), none, [0]⟩,
   ⟨some 37, .len (.t 36), none, [1]⟩,
   ⟨some 38, .mv (.c (.pv (.int .i64 0))), none, []⟩])
  (.block 0
   (.loop f76l0)))
  (.seq (.ops [
   ⟨some 48, .mv (.t 3), none, []⟩,
   ⟨some 49, .nilchk (.t 48), none, [0, 0]⟩,
   ⟨some 50, .fieldAddr 1 (.t 49), none, [1, 0]⟩,
   ⟨none, .store 1 (.t 50) (.c (.pv (.int .i64 0))), none, [2, 0]⟩])
  (.seq (.seq (.ops [
   ⟨some 51, .fieldAddr 1 (.t 1), none, []⟩,
   ⟨some 52, .load false 1 (.t 51), none, [0]⟩,
   ⟨some 53, .len (.t 52), none, [1]⟩,
   ⟨some 54, .mv (.c (.pv (.int .i64 0))), none, []⟩])
  (.block 2
   (.loop f76l1)))
  (.seq (.ops [
   ⟨some 64, .mv (.t 3), none, []⟩,
   ⟨some 65, .nilchk (.t 64), none, [0, 0]⟩,
   ⟨some 66, .fieldAddr 1 (.t 65), none, [1, 0]⟩,
   ⟨none, .store 1 (.t 66) (.c (.pv (.int .i64 0))), none, [2, 0]⟩])
  (.seq (.seq (.ops [
   ⟨some 67, .fieldAddr 2 (.t 1), none, []⟩,
   ⟨some 68, .load false 1 (.t 67), none, [0]⟩,
   ⟨some 69, .len (.t 68), none, [1]⟩,
   ⟨some 70, .mv (.c (.pv (.int .i64 0))), none, []⟩])
  (.block 4
   (.loop f76l2)))
  (.seq (.ops [
   ⟨some 80, .mv (.t 3), none, []⟩,
   ⟨some 81, .nilchk (.t 80), none, [0]⟩,
   ⟨some 82, .fieldAddr 2 (.t 81), none, [1]⟩,
   ⟨some 83, .load false 1 (.t 82), none, [2]⟩,
   ⟨some 2, .mv (.t 83), none, [3, 0, 1, 2, 3]⟩])
  .ret)))))))))⟩
def f77 : AFunc := ⟨4, [.t 1],
 (.seq (.ops [
   ⟨some 1, .mv (.c (.pv .nili)), none, []⟩])
  (.seq (.ops [
   ⟨some 2, .load true 10 (.t 0), none, []⟩,
   ⟨some 3, .call 88 [(.t 2)], none, [0]⟩,
   ⟨some 1, .mv (.t 3), none, [1, 1, 0, 1]⟩])
  .ret))⟩
def f78 : AFunc := ⟨4, [.t 1],
 (.seq (.ops [
   ⟨some 1, .mv (.c (.pv .nili)), none, []⟩])
  (.seq (.ops [
   ⟨some 2, .load true 5 (.t 0), none, []⟩,
   ⟨some 3, .call 87 [(.t 2)], none, [0]⟩,
   ⟨some 1, .mv (.t 3), none, [1, 1, 0, 1]⟩])
  .ret))⟩
def f79 : AFunc := ⟨6, [.t 2],
 (.seq (.ops [
   ⟨some 2, .mv (.c (.pv .nili)), none, []⟩])
  (.seq (.ops [
   ⟨some 3, .load true 3 (.t 0), none, []⟩,
   ⟨some 4, .load true 8 (.t 1), none, []⟩,
   ⟨some 5, .call 89 [(.t 3), (.t 4)], none, [0, 1]⟩,
   ⟨some 2, .mv (.t 5), none, [2, 2, 0, 1, 2]⟩])
  .ret))⟩
def f80l0 : ACode :=
 (.seq (.ops [
   ⟨some 36, .bin .lss none (.t 35) (.t 34), none, []⟩])
  (.seq (.cond (.t 36)
   .skip
   (.exit 0))
  (.seq (.block 1
   (.seq (.ops [
     ⟨some 37, .mv (.t 35), none, []⟩,
     ⟨some 6, .mv (.t 37), none, [0, 0]⟩])
    (.seq (.ops [
     ⟨some 7, .alloc [(.pv (.int .i64 0))], none, []⟩])
    (.seq (.ops [
     ⟨some 38, .load true 3 (.t 2), none, []⟩,
     ⟨some 39, .fieldAddr 0 (.t 3), none, []⟩,
     ⟨some 40, .load false 1 (.t 39), none, [1]⟩,
     ⟨some 41, .mv (.t 6), none, []⟩,
     ⟨some 42, .call 90 [(.t 38), (.t 40), (.t 41)], none, [0, 2, 3]⟩,
     ⟨some 43, .mkI 3 (.t 7), none, []⟩,
     ⟨some 44, .call 266 [(.t 42), (.t 43)], none, [4, 5, 4]⟩])
    (.cond (.t 44)
     (.seq (.ops [
       ⟨some 45, .mv (.t 6), none, []⟩,
       ⟨some 46, .load false 1 (.t 7), none, []⟩,
       ⟨some 47, .build [(.pv (.int .i64 0)), (.pv (.int .i64 0))] [(0, 1, (.t 45)), (1, 1, (.t 46))], none, [0, 1]⟩,
       ⟨some 48, .box (.t 47), none, [2]⟩,
       ⟨some 49, .mkI 1 (.t 48), none, [3]⟩,
       ⟨some 4, .mv (.t 49), none, [4, 0, 1, 2, 3, 4]⟩])
      .ret)
     .skip)))))
  (.ops [
   ⟨some 50, .bin .add none (.t 35) (.c (.pv (.int .i64 1))), none, []⟩,
   ⟨some 35, .mv (.t 50), none, [0]⟩]))))
def f80 : AFunc := ⟨51, [.t 4],
 (.seq (.ops [
   ⟨some 2, .box (.t 0), none, []⟩,
   ⟨some 3, .box (.t 1), none, []⟩,
   ⟨some 4, .mv (.c (.pv .nili)), none, []⟩])
  (.seq (.seq (.ops [
   ⟨some 8, .load true 3 (.t 2), none, []⟩,
   ⟨some 9, .call 76 [(.t 8)], none, [0]⟩,
   ⟨some 5, .mv (.t 9), none, [1, 1, 0, 1]⟩])
  (.seq (.ops [
   ⟨some 10, .mv (.t 5), none, []⟩,
   ⟨some 11, .bin .neq (some (.iface true)) (.t 10) (.c (.pv .nili)), none, [0]⟩])
  (.cond (.t 11)
   (.seq (.ops [
     ⟨some 12, .mv (.t 5), none, []⟩,
     ⟨some 4, .mv (.t 12), none, [0, 0]⟩])
    .ret)
   .skip)))
  (.seq (.seq (.ops [
   ⟨some 13, .fieldAddr 1 (.t 3), none, []⟩,
   ⟨some 14, .load false 1 (.t 13), none, [0]⟩,
   ⟨some 15, .bin .lss none (.t 14) (.c (.pv (.int .i64 0))), none, [1]⟩,
   ⟨some 16, .mv (.t 15), none, [2]⟩,
   ⟨some 17, .fieldAddr 1 (.t 3), some (16, false), [3]⟩,
   ⟨some 18, .load false 1 (.t 17), some (16, false), [4, 3]⟩,
   ⟨some 19, .bin .gtr none (.t 18) (.c (.pv (.int .i64 40))), some (16, false), [5, 3]⟩,
   ⟨some 20, .pick (.t 16) (.c (.pv (.bool true))) (.t 19), none, [3, 6]⟩,
   ⟨some 21, .mv (.t 20), none, [7, 3]⟩,
   ⟨some 22, .fieldAddr 2 (.t 3), some (21, false), [8]⟩,
   ⟨some 23, .load false 1 (.t 22), some (21, false), [9, 8]⟩,
   ⟨some 24, .bin .lss none (.t 23) (.c (.pv (.int .i64 0))), some (21, false), [10, 8]⟩,
   ⟨some 25, .pick (.t 21) (.c (.pv (.bool true))) (.t 24), none, [8, 11]⟩,
   ⟨some 26, .mv (.t 25), none, [12, 8]⟩,
   ⟨some 27, .fieldAddr 2 (.t 3), some (26, false), [13]⟩,
   ⟨some 28, .load false 1 (.t 27), some (26, false), [14, 13]⟩,
   ⟨some 29, .bin .gtr none (.t 28) (.c (.pv (.int .i64 40))), some (26, false), [15, 13]⟩,
   ⟨some 30, .pick (.t 26) (.c (.pv (.bool true))) (.t 29), none, [13, 16]⟩])
  (.cond (.t 30)
   (.seq (.ops [
     ⟨some 31, .mkI 0 (.c (.pv (.int .i64 3))), none, []⟩,
     ⟨some 4, .mv (.t 31), none, [0, 0]⟩])
    .ret)
   .skip))
  (.seq (.seq (.ops [
   ⟨some 32, .fieldAddr 0 (.t 3), none, []⟩,
   ⟨some 33, .load false 1 (.t 32), none, [0]⟩,
   ⟨some 34, .len (.t 33), none, [1]⟩,
   ⟨some 35, .mv (.c (.pv (.int .i64 0))), none, []⟩])
  (.block 0
   (.loop f80l0)))
  (.seq (.ops [
   ⟨some 4, .mv (.c (.pv .nili)), none, []⟩])
  .ret)))))⟩
def f85 : AFunc := ⟨9, [.t 2],
 (.seq (.ops [
   ⟨some 2, .mv (.c (.pv (.bool false))), none, []⟩])
  (.seq (.ops [
   ⟨some 3, .mv (.t 0), none, []⟩,
   ⟨some 4, .bin .geq none (.t 3) (.c (.pv (.int .i64 0))), none, [0]⟩,
   ⟨some 5, .mv (.t 4), none, [1]⟩,
   ⟨some 6, .mv (.t 0), some (5, true), [2]⟩,
   ⟨some 7, .bin .leq none (.t 6) (.c (.pv (.int .i64 100))), some (5, true), [3, 2]⟩,
   ⟨some 8, .pick (.t 5) (.t 7) (.c (.pv (.bool false))), none, [2, 4]⟩,
   ⟨some 2, .mv (.t 8), none, [5, 2, 0, 1, 2, 3, 4, 5]⟩])
  .ret))⟩
def f86 : AFunc := ⟨27, [.t 4],
 (.seq (.ops [
   ⟨some 4, .mv (.c (.pv .nili)), none, []⟩])
  (.seq (.block 0
   (.seq (.ops [
     ⟨some 6, .mv (.t 0), none, []⟩,
     ⟨some 7, .mv (.t 1), none, []⟩,
     ⟨some 8, .bin .eql none (.t 6) (.t 7), none, [0, 1]⟩,
     ⟨some 9, .mv (.t 8), none, [2]⟩,
     ⟨some 10, .mv (.t 0), some (9, true), [3]⟩,
     ⟨some 11, .bin .geq none (.t 10) (.c (.pv (.int .i64 1))), some (9, true), [4, 3]⟩,
     ⟨some 12, .pick (.t 9) (.t 11) (.c (.pv (.bool false))), none, [3, 5]⟩,
     ⟨some 5, .mv (.t 12), none, [6, 3]⟩])
    (.cond (.t 5)
     (.seq (.ops [
       ⟨some 13, .mkI 0 (.c (.pv (.int .i64 5))), none, []⟩,
       ⟨some 4, .mv (.t 13), none, [0, 0]⟩])
      .ret)
     (.seq (.ops [
       ⟨some 15, .mv (.t 0), none, []⟩,
       ⟨some 16, .bin .lss none (.t 15) (.c (.pv (.int .i64 1))), none, [0]⟩,
       ⟨some 17, .mv (.t 16), none, [1]⟩,
       ⟨some 18, .mv (.t 0), some (17, false), [2]⟩,
       ⟨some 19, .bin .gtr none (.t 18) (.c (.pv (.int .i64 2147483647))), some (17, false), [3, 2]⟩,
       ⟨some 20, .pick (.t 17) (.c (.pv (.bool true))) (.t 19), none, [2, 4]⟩,
       ⟨some 21, .mv (.t 20), none, [5, 2]⟩,
       ⟨some 22, .mv (.t 0), some (21, false), [6]⟩,
       ⟨some 23, .mv (.t 1), some (21, false), [6]⟩,
       ⟨some 24, .bin .lss none (.t 22) (.t 23), some (21, false), [7, 8, 6]⟩,
       ⟨some 25, .pick (.t 21) (.c (.pv (.bool true))) (.t 24), none, [6, 9]⟩,
       ⟨some 14, .mv (.t 25), none, [10, 6]⟩])
      (.cond (.t 14)
       (.seq (.ops [
         ⟨some 26, .mkI 0 (.c (.pv (.int .i64 1))), none, []⟩,
         ⟨some 4, .mv (.t 26), none, [0, 0]⟩])
        .ret)
       .skip)))))
  (.seq (.ops [
   ⟨some 4, .mv (.c (.pv .nili)), none, []⟩])
  .ret)))⟩
def f87 : AFunc := ⟨27, [.t 2],
 (.seq (.ops [
   ⟨some 1, .box (.t 0), none, []⟩,
   ⟨some 2, .mv (.c (.pv .nili)), none, []⟩])
  (.seq (.seq (.ops [
   ⟨some 3, .fieldAddr 2 (.t 1), none, []⟩,
   ⟨some 4, .load false 1 (.t 3), none, [0]⟩,
   ⟨some 5, .call 85 [(.t 4)], none, [1]⟩,
   ⟨some 6, .not (.t 5), none, [2]⟩,
   ⟨some 7, .mv (.t 6), none, [3, 2]⟩,
   ⟨some 8, .fieldAddr 3 (.t 1), some (7, false), [4]⟩,
   ⟨some 9, .load false 1 (.t 8), some (7, false), [5, 4]⟩,
   ⟨some 10, .call 85 [(.t 9)], some (7, false), [6, 4, 4]⟩,
   ⟨some 11, .not (.t 10), some (7, false), [7, 4]⟩,
   ⟨some 12, .pick (.t 7) (.c (.pv (.bool true))) (.t 11), none, [4, 8]⟩,
   ⟨some 13, .mv (.t 12), none, [9, 7]⟩,
   ⟨some 14, .fieldAddr 4 (.t 1), some (13, false), [10]⟩,
   ⟨some 15, .load false 1 (.t 14), some (13, false), [11, 10]⟩,
   ⟨some 16, .call 85 [(.t 15)], some (13, false), [12, 10, 10]⟩,
   ⟨some 17, .not (.t 16), some (13, false), [13, 10]⟩,
   ⟨some 18, .pick (.t 13) (.c (.pv (.bool true))) (.t 17), none, [10, 14]⟩,
   ⟨some 19, .mv (.t 18), none, [15, 13]⟩,
   ⟨some 20, .fieldAddr 3 (.t 1), some (19, false), [16]⟩,
   ⟨some 21, .load false 1 (.t 20), some (19, false), [17, 16]⟩,
   ⟨some 22, .fieldAddr 4 (.t 1), some (19, false), [16]⟩,
   ⟨some 23, .load false 1 (.t 22), some (19, false), [19, 16]⟩,
   ⟨some 24, .bin .gtr none (.t 21) (.t 23), some (19, false), [18, 20, 16]⟩,
   ⟨some 25, .pick (.t 19) (.c (.pv (.bool true))) (.t 24), none, [16, 21]⟩])
  (.cond (.t 25)
   (.seq (.ops [
     ⟨some 26, .mkI 0 (.c (.pv (.int .i64 1))), none, []⟩,
     ⟨some 2, .mv (.t 26), none, [0, 0]⟩])
    .ret)
   .skip))
  (.seq (.ops [
   ⟨some 2, .mv (.c (.pv .nili)), none, []⟩])
  .ret)))⟩
def f88 : AFunc := ⟨20, [.t 2],
 (.seq (.ops [
   ⟨some 1, .box (.t 0), none, []⟩,
   ⟨some 2, .mv (.c (.pv .nili)), none, []⟩])
  (.seq (.seq (.ops [
   ⟨some 3, .fieldAddr 1 (.t 1), none, []⟩,
   ⟨some 4, .load false 1 (.t 3), none, [0]⟩,
   ⟨some 5, .bin .lss none (.t 4) (.c (.pv (.int .i64 1))), none, [1]⟩,
   ⟨some 6, .mv (.t 5), none, [2]⟩,
   ⟨some 7, .fieldAddr 1 (.t 1), some (6, false), [3]⟩,
   ⟨some 8, .load false 1 (.t 7), some (6, false), [4, 3]⟩,
   ⟨some 9, .bin .gtr none (.t 8) (.c (.pv (.int .i64 8))), some (6, false), [5, 3]⟩,
   ⟨some 10, .pick (.t 6) (.c (.pv (.bool true))) (.t 9), none, [3, 6]⟩,
   ⟨some 11, .mv (.t 10), none, [7, 3]⟩,
   ⟨some 12, .fieldAddr 6 (.t 1), some (11, false), [8]⟩,
   ⟨some 13, .load true 4 (.t 12), some (11, false), [9, 8]⟩,
   ⟨some 14, .fieldAddr 2 (.t 1), some (11, false), [8]⟩,
   ⟨some 15, .load true 4 (.t 14), some (11, false), [11, 8]⟩,
   ⟨some 16, .call 257 [(.t 13), (.t 15)], some (11, false), [10, 12, 8, 8]⟩,
   ⟨some 17, .not (.t 16), some (11, false), [13, 8]⟩,
   ⟨some 18, .pick (.t 11) (.c (.pv (.bool true))) (.t 17), none, [8, 14]⟩])
  (.cond (.t 18)
   (.seq (.ops [
     ⟨some 19, .mkI 0 (.c (.pv (.int .i64 1))), none, []⟩,
     ⟨some 2, .mv (.t 19), none, [0, 0]⟩])
    .ret)
   .skip))
  (.seq (.ops [
   ⟨some 2, .mv (.c (.pv .nili)), none, []⟩])
  .ret)))⟩
def f89 : AFunc := ⟨40, [.t 4],
 (.seq (.ops [
   ⟨some 2, .box (.t 0), none, []⟩,
   ⟨some 3, .box (.t 1), none, []⟩,
   ⟨some 4, .mv (.c (.pv .nili)), none, []⟩])
  (.seq (.seq (.ops [
   ⟨some 9, .fieldAddr 2 (.t 3), none, []⟩,
   ⟨some 10, .load false 1 (.t 9), none, [0]⟩,
   ⟨some 11, .call 85 [(.t 10)], none, [1]⟩,
   ⟨some 12, .not (.t 11), none, [2]⟩])
  (.cond (.t 12)
   (.seq (.ops [
     ⟨some 13, .mkI 0 (.c (.pv (.int .i64 1))), none, []⟩,
     ⟨some 4, .mv (.t 13), none, [0, 0]⟩])
    .ret)
   .skip))
  (.seq (.ops [
   ⟨some 15, .load true 3 (.t 2), none, []⟩,
   ⟨some 16, .fieldAddr 1 (.t 3), none, []⟩,
   ⟨some 17, .load false 1 (.t 16), none, [1]⟩,
   ⟨some 18, .call 81 [(.t 15), (.t 17)], none, [0, 2]⟩,
   ⟨some 14, .mv (.t 18), none, [3]⟩,
   ⟨some 19, .extract (.t 14) 0, none, [4]⟩,
   ⟨some 20, .extract (.t 14) 1, none, [4]⟩,
   ⟨some 5, .alloc [(.pv (.int .i64 0)), (.pv (.bool false)), (.pv (.int .i64 0)), (.pv (.int .i64 0)), (.pv (.int .i64 0))], none, []⟩,
   ⟨none, .store 5 (.t 5) (.t 19), none, [7, 5, 3, 0, 1, 2, 3, 4, 5, 7]⟩,
   ⟨some 6, .mv (.t 20), none, [6, 8, 0, 1, 2, 3, 4, 5, 6, 7, 8]⟩])
  (.seq (.ops [
   ⟨some 22, .load true 3 (.t 2), none, []⟩,
   ⟨some 23, .fieldAddr 7 (.t 3), none, []⟩,
   ⟨some 24, .load false 1 (.t 23), none, [1]⟩,
   ⟨some 25, .call 82 [(.t 22), (.t 24)], none, [0, 2]⟩,
   ⟨some 21, .mv (.t 25), none, [3]⟩,
   ⟨some 26, .extract (.t 21) 0, none, [4]⟩,
   ⟨some 27, .extract (.t 21) 1, none, [4]⟩,
   ⟨some 7, .alloc [(.pv (.int .i64 0)), (.pv (.int .i64 0)), (.pv (.int .u64 0)), (.pv (.int .u64 0)), (.pv (.int .u64 0)), (.pv (.int .u64 0)), (.pv (.int .u64 0)), (.pv (.int .u64 0)), (.pv (.int .u64 0)), (.pv (.int .u64 0))], none, []⟩,
   ⟨none, .store 10 (.t 7) (.t 26), none, [7, 5, 3, 0, 1, 2, 3, 4, 5, 7]⟩,
   ⟨some 8, .mv (.t 27), none, [6, 8, 0, 1, 2, 3, 4, 5, 6, 7, 8]⟩])
  (.seq (.seq (.ops [
   ⟨some 28, .mv (.t 6), none, []⟩,
   ⟨some 29, .not (.t 28), none, [0]⟩,
   ⟨some 30, .mv (.t 29), none, [1]⟩,
   ⟨some 31, .fieldAddr 7 (.t 3), some (30, false), [2]⟩,
   ⟨some 32, .load false 1 (.t 31), some (30, false), [3, 2]⟩,
   ⟨some 33, .bin .neq none (.t 32) (.c (.pv (.int .i64 0))), some (30, false), [4, 2]⟩,
   ⟨some 34, .mv (.t 33), some (30, false), [5, 2, 2]⟩,
   ⟨some 35, .mv (.t 8), some (34, true), [6]⟩,
   ⟨some 36, .not (.t 35), some (34, true), [7, 6]⟩,
   ⟨some 37, .pick (.t 34) (.t 36) (.c (.pv (.bool false))), some (30, false), [6, 8, 2]⟩,
   ⟨some 38, .pick (.t 30) (.c (.pv (.bool true))) (.t 37), none, [2, 9]⟩])
  (.cond (.t 38)
   (.seq (.ops [
     ⟨some 39, .mkI 0 (.c (.pv (.int .i64 4))), none, []⟩,
     ⟨some 4, .mv (.t 39), none, [0, 0]⟩])
    .ret)
   .skip))
  (.seq (.ops [
   ⟨some 4, .mv (.c (.pv .nili)), none, []⟩])
  .ret))))))⟩
def f90 : AFunc := ⟨60, [.t 6],
 (.seq (.ops [
   ⟨some 3, .box (.t 0), none, []⟩,
   ⟨some 6, .mv (.c (.pv .nili)), none, []⟩])
  (.seq (.ops [
   ⟨some 8, .mv (.t 1), none, []⟩,
   ⟨some 9, .mv (.t 2), none, []⟩,
   ⟨some 10, .idxAddr 6 (.t 8) (.t 9), none, [0, 1]⟩,
   ⟨some 11, .load true 6 (.t 10), none, [2]⟩,
   ⟨some 7, .alloc [(.pv (.int .i64 0)), (.pv (.int .u64 0)), (.pv (.int .u64 0)), (.pv (.int .u64 0)), (.pv (.int .u64 0)), (.pv (.bool false))], none, []⟩,
   ⟨none, .store 6 (.t 7) (.t 11), none, [4, 3, 0, 1, 2, 3, 4]⟩])
  (.seq (.block 0
   (.seq (.draw [
     ⟨some 13, .mv (.t 2), none, []⟩,
     ⟨some 14, .bin .gtr none (.t 13) (.c (.pv (.int .i64 0))), none, [0]⟩,
     ⟨some 15, .mv (.t 14), none, [1]⟩,
     ⟨some 16, .fieldAddr 0 (.t 7), some (15, true), [2]⟩,
     ⟨some 17, .load false 1 (.t 16), some (15, true), [3, 2]⟩,
     ⟨some 18, .mv (.t 1), some (15, true), [2]⟩,
     ⟨some 19, .mv (.t 2), some (15, true), [2]⟩,
     ⟨some 20, .bin .sub none (.t 19) (.c (.pv (.int .i64 1))), some (15, true), [6, 2]⟩,
     ⟨some 21, .idxAddr 6 (.t 18) (.t 20), some (15, true), [5, 7, 2]⟩,
     ⟨some 22, .fieldAddr 0 (.t 21), some (15, true), [8, 2]⟩,
     ⟨some 23, .load false 1 (.t 22), some (15, true), [9, 2]⟩,
     ⟨some 24, .bin .eql none (.t 17) (.t 23), some (15, true), [4, 10, 2]⟩,
     ⟨some 25, .pick (.t 15) (.t 24) (.c (.pv (.bool false))), none, [2, 11]⟩,
     ⟨some 12, .mv (.t 25), none, [12, 2]⟩])
    (.cond (.t 12)
     (.seq (.ops [
       ⟨some 26, .mkI 0 (.c (.pv (.int .i64 5))), none, []⟩,
       ⟨some 6, .mv (.t 26), none, [0, 0]⟩])
      .ret)
     (.seq (.draw [
       ⟨some 28, .mv (.t 2), none, []⟩,
       ⟨some 29, .bin .gtr none (.t 28) (.c (.pv (.int .i64 0))), none, [0]⟩,
       ⟨some 30, .mv (.t 29), none, [1]⟩,
       ⟨some 31, .fieldAddr 0 (.t 7), some (30, true), [2]⟩,
       ⟨some 32, .load false 1 (.t 31), some (30, true), [3, 2]⟩,
       ⟨some 33, .mv (.t 1), some (30, true), [2]⟩,
       ⟨some 34, .mv (.t 2), some (30, true), [2]⟩,
       ⟨some 35, .bin .sub none (.t 34) (.c (.pv (.int .i64 1))), some (30, true), [6, 2]⟩,
       ⟨some 36, .idxAddr 6 (.t 33) (.t 35), some (30, true), [5, 7, 2]⟩,
       ⟨some 37, .fieldAddr 0 (.t 36), some (30, true), [8, 2]⟩,
       ⟨some 38, .load false 1 (.t 37), some (30, true), [9, 2]⟩,
       ⟨some 39, .bin .lss none (.t 32) (.t 38), some (30, true), [4, 10, 2]⟩,
       ⟨some 40, .pick (.t 30) (.t 39) (.c (.pv (.bool false))), none, [2, 11]⟩,
       ⟨some 27, .mv (.t 40), none, [12, 2]⟩])
      (.cond (.t 27)
       (.seq (.ops [
         ⟨some 41, .mkI 0 (.c (.pv (.int .i64 1))), none, []⟩,
         ⟨some 6, .mv (.t 41), none, [0, 0]⟩])
        .ret)
       (.seq (.ops [
         ⟨some 43, .fieldAddr 2 (.t 3), none, []⟩,
         ⟨some 44, .load false 1 (.t 43), none, [0]⟩,
         ⟨some 45, .mkF 91 [] [(.t 7)], none, []⟩,
         ⟨some 46, .call 282 [(.t 44), (.t 45)], none, [1, 2]⟩,
         ⟨some 47, .not (.t 46), none, [3]⟩,
         ⟨some 42, .mv (.t 47), none, [4, 3]⟩])
        (.cond (.t 42)
         (.seq (.ops [
           ⟨some 48, .mkI 0 (.c (.pv (.int .i64 4))), none, []⟩,
           ⟨some 6, .mv (.t 48), none, [0, 0]⟩])
          .ret)
         (.seq (.ops [
           ⟨some 50, .fieldAddr 5 (.t 7), none, []⟩,
           ⟨some 51, .load false 1 (.t 50), none, [0]⟩,
           ⟨some 52, .not (.t 51), none, [1]⟩,
           ⟨some 53, .mv (.t 52), none, [2]⟩,
           ⟨some 54, .fieldAddr 1 (.t 7), some (53, true), [3]⟩,
           ⟨some 55, .load true 4 (.t 54), some (53, true), [4, 3]⟩,
           ⟨some 56, .build [(.pv (.int .u64 0)), (.pv (.int .u64 0)), (.pv (.int .u64 0)), (.pv (.int .u64 0))] [], some (53, true), [3]⟩,
           ⟨some 57, .bin .neq (some (.plain [false, false, false, false])) (.t 55) (.t 56), some (53, true), [5, 6, 3]⟩,
           ⟨some 58, .pick (.t 53) (.t 57) (.c (.pv (.bool false))), none, [3, 7]⟩,
           ⟨some 49, .mv (.t 58), none, [8, 3]⟩])
          (.cond (.t 49)
           (.seq (.ops [
             ⟨some 59, .mkI 0 (.c (.pv (.int .i64 1))), none, []⟩,
             ⟨some 6, .mv (.t 59), none, [0, 0]⟩])
            .ret)
           .skip)))))))))
  (.seq (.ops [
   ⟨some 6, .mv (.c (.pv .nili)), none, []⟩])
  .ret))))⟩
def f91 : AFunc := ⟨9, [.t 3],
 (.seq (.ops [
   ⟨some 2, .box (.t 0), none, []⟩,
   ⟨some 3, .mv (.c (.pv (.bool false))), none, []⟩])
  (.seq (.ops [
   ⟨some 4, .fieldAddr 0 (.t 2), none, []⟩,
   ⟨some 5, .load false 1 (.t 4), none, [0]⟩,
   ⟨some 6, .fieldAddr 0 (.t 1), none, []⟩,
   ⟨some 7, .load false 1 (.t 6), none, [2]⟩,
   ⟨some 8, .bin .eql none (.t 5) (.t 7), none, [1, 3]⟩,
   ⟨some 3, .mv (.t 8), none, [4, 0, 1, 2, 3, 4]⟩])
  .ret))⟩
def f257 : AFunc := ⟨15, [.t 4],
 (.seq (.ops [
   ⟨some 2, .box (.t 0), none, []⟩,
   ⟨some 3, .box (.t 1), none, []⟩,
   ⟨some 4, .mv (.c (.pv (.bool false))), none, []⟩])
  (.seq (.ops [
   ⟨some 8, .load true 4 (.t 3), none, []⟩,
   ⟨some 9, .load true 4 (.t 2), none, []⟩,
   ⟨some 10, .call 258 [(.t 8), (.t 9)], none, [0, 1]⟩,
   ⟨some 7, .mv (.t 10), none, [2]⟩,
   ⟨some 11, .extract (.t 7) 0, none, [3]⟩,
   ⟨some 12, .extract (.t 7) 1, none, [3]⟩,
   ⟨some 5, .alloc [(.pv (.int .u64 0)), (.pv (.int .u64 0)), (.pv (.int .u64 0)), (.pv (.int .u64 0))], none, []⟩,
   ⟨none, .store 4 (.t 5) (.t 11), none, [6, 4, 2, 0, 1, 2, 3, 4, 6]⟩,
   ⟨some 6, .mv (.t 12), none, [5, 7, 0, 1, 2, 3, 4, 5, 6, 7]⟩])
  (.seq (.ops [
   ⟨some 13, .mv (.t 6), none, []⟩,
   ⟨some 14, .bin .eql (some (.iface true)) (.t 13) (.c (.pv .nili)), none, [0]⟩,
   ⟨some 4, .mv (.t 14), none, [1, 0, 1]⟩])
  .ret)))⟩
def f282 : AFunc := ⟨9, [.t 4],
 (.seq (.ops [
   ⟨some 4, .mv (.c (.pv (.bool false))), none, []⟩])
  (.seq (.ops [
   ⟨some 5, .mv (.t 0), none, []⟩,
   ⟨some 6, .mv (.t 1), none, []⟩,
   ⟨some 7, .call 287 [(.t 5), (.t 6)], none, [0, 1]⟩,
   ⟨some 8, .bin .geq none (.t 7) (.c (.pv (.int .i64 0))), none, [2]⟩,
   ⟨some 4, .mv (.t 8), none, [3, 2, 0, 1, 2, 3]⟩])
  .ret))⟩
end Go.Proofs.YtjmggjlfamjdbaaDoor.Ab
set_option linter.unusedVariables false
set_option linter.unusedSimpArgs false
namespace Go.Proofs.YtjmggjlfamjdbaaDoor.Ab
open Go
def countB (n : Int) : Bool := decide (0 ≤ n) && decide (n ≤ 100)
def idP (n last : Int) : Int := if n = last ∧ 1 ≤ n then 5 else if n < 1 ∨ 2147483647 < n ∨ n < last then 1 else 0
def loadBad (l : Load) : Int := if countB l.skew = true ∧ countB l.min = true ∧ countB l.max = true ∧ l.min ≤ l.max then 0 else 1
def nodeBad (n : Node) : Int := if 1 ≤ n.zone ∧ n.zone ≤ 8 ∧ fitsB n.held n.cap = true then 0 else 1
def podBad (s : Snap) (p : Pod) : Int := if countB p.prio = false then 1 else if loadOf p.load s.loads = none ∨ (p.node ≠ 0 ∧ nodeOf p.node s.nodes = none) then 4 else 0
theorem errC0 : errC 0 = .nili := rfl
theorem errC1 : errC 1 = .iface 0 (.int .i64 1) := rfl
theorem errC4 : errC 4 = .iface 0 (.int .i64 4) := rfl
theorem errC5 : errC 5 = .iface 0 (.int .i64 5) := rfl
section
variable {T : Tab}
theorem count_ok (h85 : Std T 85 f85) (n : Int) : Gives T 85 [.int .i64 n] (.bool (countB n)) := by
  refine gives h85 rfl ?_
  unfold countB
  by_cases h1 : 0 ≤ n
  · simp only [f85, runL, defL, binV, Nat.reduceEqDiff, Nat.reduceAdd, reduceCtorEq, Int.reduceToNat, Nat.reduceMul, Nat.reduceLT, Int.reduceNeg, Int.reduceLE, Int.reduceLT, Int.reduceEq, Nat.reduceLeDiff, List.drop, List.take, h1, Bool.true_and]
  · simp only [f85, runL, defL, binV, Nat.reduceEqDiff, Nat.reduceAdd, reduceCtorEq, Int.reduceToNat, Nat.reduceMul, Nat.reduceLT, Int.reduceNeg, Int.reduceLE, Int.reduceLT, Int.reduceEq, Nat.reduceLeDiff, List.drop, List.take, h1, Bool.false_and]
theorem id_ok (h86 : Std T 86 f86) (n last : Int) : Gives T 86 [.int .i64 n, .int .i64 last] (errC (idP n last)) := by
  refine gives h86 rfl ?_
  unfold idP
  have D : ∀ p : Prop, [Decidable p] → p → decide p = true := fun p _ h => decide_eq_true h
  by_cases h1 : n = last
  · have d1 := D _ h1
    by_cases h2 : 1 ≤ n
    · rw [if_pos ⟨h1, h2⟩]
      simp only [f86, runL, defL, binV, Nat.reduceEqDiff, Nat.reduceAdd, reduceCtorEq, Int.reduceToNat, Nat.reduceMul, Nat.reduceLT, Int.reduceNeg, Int.reduceLE, Int.reduceLT, Int.reduceEq, Nat.reduceLeDiff, List.drop, List.take, d1, h2, errC5]
    · rw [if_neg (fun h => h2 h.2), if_pos (.inl (by omega))]
      have h3 : n < 1 := by omega
      simp only [f86, runL, defL, binV, Nat.reduceEqDiff, Nat.reduceAdd, reduceCtorEq, Int.reduceToNat, Nat.reduceMul, Nat.reduceLT, Int.reduceNeg, Int.reduceLE, Int.reduceLT, Int.reduceEq, Nat.reduceLeDiff, List.drop, List.take, d1, h2, h3, errC1]
  · rw [if_neg (fun h => h1 h.1)]
    by_cases h3 : n < 1
    · rw [if_pos (.inl h3)]
      simp only [f86, runL, defL, binV, Nat.reduceEqDiff, Nat.reduceAdd, reduceCtorEq, Int.reduceToNat, Nat.reduceMul, Nat.reduceLT, Int.reduceNeg, Int.reduceLE, Int.reduceLT, Int.reduceEq, Nat.reduceLeDiff, List.drop, List.take, h1, h3, errC1]
    · by_cases h4 : 2147483647 < n
      · rw [if_pos (.inr (.inl h4))]
        simp only [f86, runL, defL, binV, Nat.reduceEqDiff, Nat.reduceAdd, reduceCtorEq, Int.reduceToNat, Nat.reduceMul, Nat.reduceLT, Int.reduceNeg, Int.reduceLE, Int.reduceLT, Int.reduceEq, Nat.reduceLeDiff, List.drop, List.take, h1, h3, h4, errC1]
      · by_cases h5 : n < last
        · rw [if_pos (.inr (.inr h5))]
          simp only [f86, runL, defL, binV, Nat.reduceEqDiff, Nat.reduceAdd, reduceCtorEq, Int.reduceToNat, Nat.reduceMul, Nat.reduceLT, Int.reduceNeg, Int.reduceLE, Int.reduceLT, Int.reduceEq, Nat.reduceLeDiff, List.drop, List.take, h1, h3, h4, h5, errC1]
        · rw [if_neg (by omega)]
          simp only [f86, runL, defL, binV, Nat.reduceEqDiff, Nat.reduceAdd, reduceCtorEq, Int.reduceToNat, Nat.reduceMul, Nat.reduceLT, Int.reduceNeg, Int.reduceLE, Int.reduceLT, Int.reduceEq, Nat.reduceLeDiff, List.drop, List.take, h1, h3, h4, h5, errC0]
theorem cload_ok (h87 : Std T 87 f87) (h85 : Std T 85 f85) (l : Load) : Gives T 87 [.agg (loadC l)] (errC (loadBad l)) := by
  refine gives h87 rfl ?_
  have k1 := count_ok h85 l.skew
  have k2 := count_ok h85 l.min
  have k3 := count_ok h85 l.max
  unfold loadBad
  cases c1 : countB l.skew
  · rw [if_neg (by simp)]
    simp only [f87, runL, defL, binV, Nat.reduceEqDiff, Nat.reduceAdd, reduceCtorEq, Int.reduceToNat, Nat.reduceMul, Nat.reduceLT, Int.reduceNeg, Int.reduceLE, Int.reduceLT, Int.reduceEq, Nat.reduceLeDiff, List.drop, List.take, errC0, errC1, errC4, loadC, k1.call, c1]
  · cases c2 : countB l.min
    · rw [if_neg (by simp)]
      simp only [f87, runL, defL, binV, Nat.reduceEqDiff, Nat.reduceAdd, reduceCtorEq, Int.reduceToNat, Nat.reduceMul, Nat.reduceLT, Int.reduceNeg, Int.reduceLE, Int.reduceLT, Int.reduceEq, Nat.reduceLeDiff, List.drop, List.take, errC0, errC1, errC4, loadC, k1.call, k2.call, c1, c2]
    · cases c3 : countB l.max
      · rw [if_neg (by simp)]
        simp only [f87, runL, defL, binV, Nat.reduceEqDiff, Nat.reduceAdd, reduceCtorEq, Int.reduceToNat, Nat.reduceMul, Nat.reduceLT, Int.reduceNeg, Int.reduceLE, Int.reduceLT, Int.reduceEq, Nat.reduceLeDiff, List.drop, List.take, errC0, errC1, errC4, loadC, k1.call, k2.call, k3.call, c1, c2, c3]
      · by_cases c4 : l.max < l.min
        · rw [if_neg (by omega)]
          simp only [f87, runL, defL, binV, Nat.reduceEqDiff, Nat.reduceAdd, reduceCtorEq, Int.reduceToNat, Nat.reduceMul, Nat.reduceLT, Int.reduceNeg, Int.reduceLE, Int.reduceLT, Int.reduceEq, Nat.reduceLeDiff, List.drop, List.take, errC0, errC1, errC4, loadC, k1.call, k2.call, k3.call, c1, c2, c3, c4]
        · rw [if_pos ⟨rfl, rfl, rfl, by omega⟩]
          simp only [f87, runL, defL, binV, Nat.reduceEqDiff, Nat.reduceAdd, reduceCtorEq, Int.reduceToNat, Nat.reduceMul, Nat.reduceLT, Int.reduceNeg, Int.reduceLE, Int.reduceLT, Int.reduceEq, Nat.reduceLeDiff, List.drop, List.take, errC0, errC1, errC4, loadC, k1.call, k2.call, k3.call, c1, c2, c3, c4]
structure StdF (T : Tab) : Prop where
  h257 : Std T 257 f257
  h258 : Std T 258 f258
  h261 : Std T 261 f261
  h259 : Std T 259 f259
theorem vfits_ok (S : StdF T) (a b : Vec) : Gives T 257 [vecP a, vecP b] (.bool (fitsB a b)) := by
  refine gives S.h257 rfl ?_
  have k := sub_ok S.h258 S.h261 S.h259 b a
  rw [subV_if] at k
  simp only [vecP, vecC] at k
  cases hf : fitsB a b
  · rw [hf, if_neg (by simp)] at k
    simp only [vecR, vecP, vecC, vec0, codeE] at k
    simp only [f257, runL, defL, binV, Nat.reduceEqDiff, Nat.reduceAdd, reduceCtorEq, Int.reduceToNat, Nat.reduceMul, Nat.reduceLT, Int.reduceNeg, Int.reduceLE, Int.reduceLT, Int.reduceEq, Nat.reduceLeDiff, List.drop, List.take, vecP, vecC, k.call, fillA]
  · rw [hf] at k
    simp only [vecR, vecP, vecC] at k
    simp only [f257, runL, defL, binV, Nat.reduceEqDiff, Nat.reduceAdd, reduceCtorEq, Int.reduceToNat, Nat.reduceMul, Nat.reduceLT, Int.reduceNeg, Int.reduceLE, Int.reduceLT, Int.reduceEq, Nat.reduceLeDiff, List.drop, List.take, vecP, vecC, k.call, fillA]
theorem cnode_ok (h88 : Std T 88 f88) (S : StdF T) (n : Node) : Gives T 88 [.agg (nodeC n)] (errC (nodeBad n)) := by
  refine gives h88 rfl ?_
  have k := vfits_ok S n.held n.cap
  simp only [vecP, vecC] at k
  unfold nodeBad
  by_cases c1 : n.zone < 1
  · rw [if_neg (by omega)]
    simp only [f88, runL, defL, binV, Nat.reduceEqDiff, Nat.reduceAdd, reduceCtorEq, Int.reduceToNat, Nat.reduceMul, Nat.reduceLT, Int.reduceNeg, Int.reduceLE, Int.reduceLT, Int.reduceEq, Nat.reduceLeDiff, List.drop, List.take, errC0, errC1, errC4, nodeC, c1]
  · by_cases c2 : 8 < n.zone
    · rw [if_neg (by omega)]
      simp only [f88, runL, defL, binV, Nat.reduceEqDiff, Nat.reduceAdd, reduceCtorEq, Int.reduceToNat, Nat.reduceMul, Nat.reduceLT, Int.reduceNeg, Int.reduceLE, Int.reduceLT, Int.reduceEq, Nat.reduceLeDiff, List.drop, List.take, errC0, errC1, errC4, nodeC, c1, c2]
    · cases hf : fitsB n.held n.cap
      · rw [if_neg (by simp)]
        rw [hf] at k
        simp only [f88, runL, defL, binV, Nat.reduceEqDiff, Nat.reduceAdd, reduceCtorEq, Int.reduceToNat, Nat.reduceMul, Nat.reduceLT, Int.reduceNeg, Int.reduceLE, Int.reduceLT, Int.reduceEq, Nat.reduceLeDiff, List.drop, List.take, errC0, errC1, errC4, nodeC, c1, c2, k.call]
      · rw [if_pos ⟨by omega, by omega, rfl⟩]
        rw [hf] at k
        simp only [f88, runL, defL, binV, Nat.reduceEqDiff, Nat.reduceAdd, reduceCtorEq, Int.reduceToNat, Nat.reduceMul, Nat.reduceLT, Int.reduceNeg, Int.reduceLE, Int.reduceLT, Int.reduceEq, Nat.reduceLeDiff, List.drop, List.take, errC0, errC1, errC4, nodeC, c1, c2, k.call]
theorem cpod_ok (h89 : Std T 89 f89) (h85 : Std T 85 f85) (h81 : Std T 81 f81) (h82 : Std T 82 f82) (s : Snap) (p : Pod) (hl : s.loads.length ≤ 2 ^ 30) (hn : s.nodes.length ≤ 2 ^ 30) : Gives T 89 [snapP s, .agg (podC p)] (errC (podBad s p)) := by
  refine gives h89 rfl ?_
  have k1 := count_ok h85 p.prio
  have k2 := load_ok h81 s p.load hl
  have k3 := node_ok h82 s p.node hn
  simp only [snapP] at k2 k3
  unfold podBad
  cases c1 : countB p.prio
  · rw [if_pos rfl]
    simp only [f89, runL, defL, binV, Nat.reduceEqDiff, Nat.reduceAdd, reduceCtorEq, Int.reduceToNat, Nat.reduceMul, Nat.reduceLT, Int.reduceNeg, Int.reduceLE, Int.reduceLT, Int.reduceEq, Nat.reduceLeDiff, List.drop, List.take, errC0, errC1, errC4, snapP, podC, k1.call, c1]
  · rw [if_neg (by simp)]
    cases hlo : loadOf p.load s.loads with
    | none =>
      rw [hlo] at k2
      simp only [loadR, loadC, load0] at k2
      rw [if_pos (.inl rfl)]
      cases hno : nodeOf p.node s.nodes with
      | none =>
        rw [hno] at k3
        simp only [nodeR, nodeC, node0] at k3
        simp only [f89, runL, defL, binV, Nat.reduceEqDiff, Nat.reduceAdd, reduceCtorEq, Int.reduceToNat, Nat.reduceMul, Nat.reduceLT, Int.reduceNeg, Int.reduceLE, Int.reduceLT, Int.reduceEq, Nat.reduceLeDiff, List.drop, List.take, errC0, errC1, errC4, snapP, podC, k1.call, c1, k2.call, k3.call]
      | some n =>
        rw [hno] at k3
        simp only [nodeR, nodeC] at k3
        simp only [f89, runL, defL, binV, Nat.reduceEqDiff, Nat.reduceAdd, reduceCtorEq, Int.reduceToNat, Nat.reduceMul, Nat.reduceLT, Int.reduceNeg, Int.reduceLE, Int.reduceLT, Int.reduceEq, Nat.reduceLeDiff, List.drop, List.take, errC0, errC1, errC4, snapP, podC, k1.call, c1, k2.call, k3.call]
    | some l =>
      rw [hlo] at k2
      simp only [loadR, loadC] at k2
      cases hno : nodeOf p.node s.nodes with
      | none =>
        rw [hno] at k3
        simp only [nodeR, nodeC, node0] at k3
        by_cases c2 : p.node = 0
        · have d2 : decide (p.node = 0) = true := decide_eq_true c2
          rw [if_neg (by simp [c2])]
          simp only [f89, runL, defL, binV, Nat.reduceEqDiff, Nat.reduceAdd, reduceCtorEq, Int.reduceToNat, Nat.reduceMul, Nat.reduceLT, Int.reduceNeg, Int.reduceLE, Int.reduceLT, Int.reduceEq, Nat.reduceLeDiff, List.drop, List.take, errC0, errC1, errC4, snapP, podC, k1.call, c1, k2.call, k3.call, d2]
        · rw [if_pos (.inr ⟨c2, rfl⟩)]
          simp only [f89, runL, defL, binV, Nat.reduceEqDiff, Nat.reduceAdd, reduceCtorEq, Int.reduceToNat, Nat.reduceMul, Nat.reduceLT, Int.reduceNeg, Int.reduceLE, Int.reduceLT, Int.reduceEq, Nat.reduceLeDiff, List.drop, List.take, errC0, errC1, errC4, snapP, podC, k1.call, c1, k2.call, k3.call, c2]
      | some n =>
        rw [hno] at k3
        simp only [nodeR, nodeC] at k3
        rw [if_neg (by simp)]
        by_cases c2 : p.node = 0
        · have d2 : decide (p.node = 0) = true := decide_eq_true c2
          simp only [f89, runL, defL, binV, Nat.reduceEqDiff, Nat.reduceAdd, reduceCtorEq, Int.reduceToNat, Nat.reduceMul, Nat.reduceLT, Int.reduceNeg, Int.reduceLE, Int.reduceLT, Int.reduceEq, Nat.reduceLeDiff, List.drop, List.take, errC0, errC1, errC4, snapP, podC, k1.call, c1, k2.call, k3.call, d2]
        · simp only [f89, runL, defL, binV, Nat.reduceEqDiff, Nat.reduceAdd, reduceCtorEq, Int.reduceToNat, Nat.reduceMul, Nat.reduceLT, Int.reduceNeg, Int.reduceLE, Int.reduceLT, Int.reduceEq, Nat.reduceLeDiff, List.drop, List.take, errC0, errC1, errC4, snapP, podC, k1.call, c1, k2.call, k3.call, c2]
end
end Go.Proofs.YtjmggjlfamjdbaaDoor.Ab
set_option linter.unusedVariables false
set_option linter.unusedSimpArgs false
namespace Go.Proofs.YtjmggjlfamjdbaaDoor.Ab
open Go
def lookC (n last c : Int) : Int := if idP n last ≠ 0 then idP n last else c
def lookB (a n last c : Int) : Option (Int × Int) := if lookC n last c ≠ 0 then some (lookC n last c, a) else none
def ErrA (err : AV) (hp : Hl) (o : Option (Int × Int)) (kid nx : Nat) : Prop := match o with
  | none => err = .pv .nili
  | some (c, a) => ∃ b, err = .iface 1 (.ptr b 0 0) ∧ b < nx ∧ b ≠ kid ∧ blkAt hp b = .var [.pv (.int .i64 a), .pv (.int .i64 c)]
theorem ErrA.mono {err : AV} {hp hp' : Hl} {o : Option (Int × Int)} {kid nx nx' : Nat} (h : ErrA err hp o kid nx) (h1 : ∀ j, j < nx → j ≠ kid → blkAt hp' j = blkAt hp j) (h2 : nx ≤ nx') : ErrA err hp' o kid nx' := by
  cases o with
  | none => exact h
  | some q =>
    obtain ⟨c, a⟩ := q
    obtain ⟨b, e1, e2, e3, e4⟩ := h
    exact ⟨b, e1, by omega, e3, by rw [h1 b e2 e3, e4]⟩
def Looks (T : Tab) (g : Nat) (cs : List AV) (p : PV) (hp : Hl) (nx : Nat) : Prop := T.raw g = true ∧ ∀ hp' nx', nx ≤ nx' → (∀ k, k < nx → blkAt hp' k = blkAt hp k) → D T g cs hp' nx' = some (.pv p, hp', nx')
section
variable {T : Tab}
set_option maxRecDepth 100000 in
set_option maxHeartbeats 4000000 in
theorem look_ok (S16 : StdR T 16 f16) (h86 : Std T 86 f86) (hA : StdA T 266) (kid : Nat) (a n last c : Int) (err fv : AV) (g : Nat) (cs : List AV) (hp : Hl) (nx : Nat) (o : Option (Int × Int)) (hf : funV fv = some (g, [], cs)) (hk : kid < nx)
    (hb : blkAt hp kid = .var [.pv (.int .i64 a), .pv (.int .i64 last), err]) (ho : Looks T g cs (errC c) hp nx) (hE : ErrA err hp o kid nx) (h0 : 0 ≤ a) (h1 : a ≤ 2 ^ 30) :
    ∃ v hp' nx', D T 16 [.ptr kid 0 0, .pv (.int .i64 n), fv] hp nx = some (v, hp', nx') ∧ ∃ err', nx ≤ nx' ∧ blkAt hp' kid = .var [.pv (.int .i64 (a + 1)), .pv (.int .i64 n), err'] ∧ ErrA err' hp' (o.or (lookB a n last c)) kid nx' ∧ ∀ j, j < nx → j ≠ kid → blkAt hp' j = blkAt hp j := by
  refine D_wp S16 rfl ?_
  have ki := id_ok h86 n last
  have hw : IntKind.i64.wrap (a + 1) = a + 1 := by rw [wrap6] <;> omega
  have e1 : ¬ nx = kid := by omega
  have e2 : ¬ nx + 1 = kid := by omega
  have f1 : ¬ kid = nx := by omega
  have f2 : ¬ kid = nx + 1 := by omega
  cases o with
  | some q =>
    obtain ⟨c0, a0⟩ := q
    obtain ⟨b, rfl, b1, b2, b3⟩ := hE
    simp only [f16, runL, defL, binV, Nat.reduceEqDiff, Nat.reduceAdd, reduceCtorEq, Int.reduceToNat, Nat.reduceMul, Nat.reduceLT, Int.reduceNeg, Int.reduceLE, Int.reduceLT, Int.reduceEq, Nat.reduceLeDiff, List.drop, List.take, hb, hw]
    simp only [RawQ, rawq, runL, defL, binV, Nat.reduceEqDiff, Nat.reduceAdd, reduceCtorEq, Int.reduceToNat, Nat.reduceMul, Nat.reduceLT, Int.reduceNeg, Int.reduceLE, Int.reduceLT, Int.reduceEq, Nat.reduceLeDiff, List.drop, List.take]
    refine ⟨.iface 1 (.ptr b 0 0), rfl, ⟨b, rfl, b1, b2, ?_⟩, fun j hj hne => ?_⟩
    · have : ¬ kid = b := fun h => b2 h.symm
      simp only [look_if, blkAt_if, Nat.reduceEqDiff, if_true, if_false, this, b3]
    · have : ¬ kid = j := fun h => hne h.symm
      simp only [this, if_false]
  | none =>
    have hE' : err = .pv .nili := hE
    subst hE'
    have fin : ∀ cc, lookC n last c = cc → cc ≠ 0 → (none : Option (Int × Int)).or (lookB a n last c) = some (cc, a) := fun cc h1 h2 => by
      unfold lookB
      rw [h1, if_pos h2]
      rfl
    by_cases hi : idP n last = 0
    · have hl : lookC n last c = c := by unfold lookC; rw [if_neg (by simpa using hi)]
      rw [hi, errC0] at ki
      simp only [f16, runL, defL, binV, Nat.reduceEqDiff, Nat.reduceAdd, reduceCtorEq, Int.reduceToNat, Nat.reduceMul, Nat.reduceLT, Int.reduceNeg, Int.reduceLE, Int.reduceLT, Int.reduceEq, Nat.reduceLeDiff, List.drop, List.take, hb, ki.call, hf, funQ]
      rw [callQ_raw ho.1 (by simpa only [List.append_nil] using ho.2 hp nx (Nat.le_refl _) (fun _ _ => rfl))]
      by_cases hc : c = 0
      · have hn : (none : Option (Int × Int)).or (lookB a n last c) = none := by
          unfold lookB
          rw [hl, if_neg (by simpa using hc)]
          rfl
        rw [hc, errC0]
        simp only [runL, defL, binV, Nat.reduceEqDiff, Nat.reduceAdd, reduceCtorEq, Int.reduceToNat, Nat.reduceMul, Nat.reduceLT, Int.reduceNeg, Int.reduceLE, Int.reduceLT, Int.reduceEq, Nat.reduceLeDiff, List.drop, List.take, as_nilQ hA, hb, e1, hw]
        simp only [RawQ, rawq, runL, defL, binV, Nat.reduceEqDiff, Nat.reduceAdd, reduceCtorEq, Int.reduceToNat, Nat.reduceMul, Nat.reduceLT, Int.reduceNeg, Int.reduceLE, Int.reduceLT, Int.reduceEq, Nat.reduceLeDiff, List.drop, List.take, e1, f1]
        rw [← hc, hn]
        refine ⟨.pv .nili, by omega, rfl, rfl, fun j hj hne => ?_⟩
        have g1 : ¬ nx = j := by omega
        have g2 : ¬ kid = j := fun h => hne h.symm
        simp only [g1, g2, if_false]
      · have hc' : errC c = .iface 0 (.int .i64 c) := if_neg hc
        rw [hc']
        simp only [runL, defL, binV, Nat.reduceEqDiff, Nat.reduceAdd, reduceCtorEq, Int.reduceToNat, Nat.reduceMul, Nat.reduceLT, Int.reduceNeg, Int.reduceLE, Int.reduceLT, Int.reduceEq, Nat.reduceLeDiff, List.drop, List.take]
        refine (as_codeQ hA (o := 0) ?_).2 ?_
        · simp only [runL, defL, binV, Nat.reduceEqDiff, Nat.reduceAdd, reduceCtorEq, Int.reduceToNat, Nat.reduceMul, Nat.reduceLT, Int.reduceNeg, Int.reduceLE, Int.reduceLT, Int.reduceEq, Nat.reduceLeDiff, List.drop, List.take]
        · simp only [runL, defL, binV, Nat.reduceEqDiff, Nat.reduceAdd, reduceCtorEq, Int.reduceToNat, Nat.reduceMul, Nat.reduceLT, Int.reduceNeg, Int.reduceLE, Int.reduceLT, Int.reduceEq, Nat.reduceLeDiff, List.drop, List.take, hb, e1]
          refine (Wp_calmS rfl).2 ?_
          simp only [runL, defL, binV, Nat.reduceEqDiff, Nat.reduceAdd, reduceCtorEq, Int.reduceToNat, Nat.reduceMul, Nat.reduceLT, Int.reduceNeg, Int.reduceLE, Int.reduceLT, Int.reduceEq, Nat.reduceLeDiff, List.drop, List.take, hb, e1, e2, f1, f2, hw]
          simp only [RawQ, rawq, runL, defL, binV, Nat.reduceEqDiff, Nat.reduceAdd, reduceCtorEq, Int.reduceToNat, Nat.reduceMul, Nat.reduceLT, Int.reduceNeg, Int.reduceLE, Int.reduceLT, Int.reduceEq, Nat.reduceLeDiff, List.drop, List.take, e1, e2, f1, f2]
          rw [fin c hl hc]
          refine ⟨.iface 1 (.ptr (nx + 1) 0 0), by omega, rfl, ⟨nx + 1, rfl, by omega, by omega, ?_⟩, fun j hj hne => ?_⟩
          · simp only [look_if, blkAt_if, Nat.reduceEqDiff, if_true, if_false, f2]
          · have g1 : ¬ nx = j := by omega
            have g3 : ¬ nx + 1 = j := by omega
            have g2 : ¬ kid = j := fun h => hne h.symm
            simp only [g1, g2, g3, if_false]
    · have hl : lookC n last c = idP n last := by unfold lookC; rw [if_pos hi]
      have hc' : errC (idP n last) = .iface 0 (.int .i64 (idP n last)) := if_neg hi
      rw [hc'] at ki
      simp only [f16, runL, defL, binV, Nat.reduceEqDiff, Nat.reduceAdd, reduceCtorEq, Int.reduceToNat, Nat.reduceMul, Nat.reduceLT, Int.reduceNeg, Int.reduceLE, Int.reduceLT, Int.reduceEq, Nat.reduceLeDiff, List.drop, List.take, hb, ki.call]
      refine (as_codeQ hA (o := 0) ?_).2 ?_
      · simp only [runL, defL, binV, Nat.reduceEqDiff, Nat.reduceAdd, reduceCtorEq, Int.reduceToNat, Nat.reduceMul, Nat.reduceLT, Int.reduceNeg, Int.reduceLE, Int.reduceLT, Int.reduceEq, Nat.reduceLeDiff, List.drop, List.take]
      · simp only [runL, defL, binV, Nat.reduceEqDiff, Nat.reduceAdd, reduceCtorEq, Int.reduceToNat, Nat.reduceMul, Nat.reduceLT, Int.reduceNeg, Int.reduceLE, Int.reduceLT, Int.reduceEq, Nat.reduceLeDiff, List.drop, List.take, hb, e1]
        refine (Wp_calmS rfl).2 ?_
        simp only [runL, defL, binV, Nat.reduceEqDiff, Nat.reduceAdd, reduceCtorEq, Int.reduceToNat, Nat.reduceMul, Nat.reduceLT, Int.reduceNeg, Int.reduceLE, Int.reduceLT, Int.reduceEq, Nat.reduceLeDiff, List.drop, List.take, hb, e1, e2, f1, f2, hw]
        simp only [RawQ, rawq, runL, defL, binV, Nat.reduceEqDiff, Nat.reduceAdd, reduceCtorEq, Int.reduceToNat, Nat.reduceMul, Nat.reduceLT, Int.reduceNeg, Int.reduceLE, Int.reduceLT, Int.reduceEq, Nat.reduceLeDiff, List.drop, List.take, e1, e2, f1, f2]
        rw [fin _ hl hi]
        refine ⟨.iface 1 (.ptr (nx + 1) 0 0), by omega, rfl, ⟨nx + 1, rfl, by omega, by omega, ?_⟩, fun j hj hne => ?_⟩
        · simp only [look_if, blkAt_if, Nat.reduceEqDiff, if_true, if_false, f2]
        · have g1 : ¬ nx = j := by omega
          have g3 : ¬ nx + 1 = j := by omega
          have g2 : ¬ kid = j := fun h => hne h.symm
          simp only [g1, g2, g3, if_false]
end
end Go.Proofs.YtjmggjlfamjdbaaDoor.Ab
set_option linter.unusedVariables false
set_option linter.unusedSimpArgs false
namespace Go.Proofs.YtjmggjlfamjdbaaDoor.Ab
open Go
def fstB {α : Type} (idOf own : α → Int) : Int → Int → List α → Option (Int × Int)
  | _, _, [] => none
  | last, a, x :: r => (lookB a (idOf x) last (own x)).or (fstB idOf own (idOf x) (a + 1) r)
def errG : Option (Int × Int) → PV
  | none => .nili
  | some (c, a) => if a < 0 then codeE c else spotE a c
def sizesOK (s : Snap) : Bool := decide (1 ≤ s.nodes.length) && (decide (s.nodes.length ≤ 8) && (decide (s.loads.length ≤ 8) && decide (s.pods.length ≤ 12)))
def checkB (s : Snap) : Option (Int × Int) := if sizesOK s = true then ((fstB Node.id nodeBad 0 0 s.nodes).or (fstB Load.id loadBad 0 s.nodes.length s.loads)).or (fstB Pod.id (podBad s) 0 ((s.nodes.length : Int) + s.loads.length) s.pods) else some (3, -1)
structure Std3 (T : Tab) : Prop where
  h16 : StdR T 16 f16
  h86 : Std T 86 f86
  hA : StdA T 266
  h77 : StdR T 77 f77
  h78 : StdR T 78 f78
  h79 : StdR T 79 f79
  h85 : Std T 85 f85
  h87 : Std T 87 f87
  h88 : Std T 88 f88
  h89 : Std T 89 f89
  h81 : Std T 81 f81
  h82 : Std T 82 f82
  hF : StdF T
  h76 : Std T 76 f76
section
variable {T : Tab}
theorem D_eq {n : Nat} {f : AFunc} {args : List AV} {hp hp' : Hl} {nx nx' : Nat} {v : AV} (S : StdR T n f) (hN : Nat.ble args.length f.N = true) (h : Wp T false f.body ⟨argsA 0 args, hp, nx⟩ (RawQ f.res (fun v1 h1 n1 => v1 = v ∧ h1 = hp' ∧ n1 = nx'))) : D T n args hp nx = some (v, hp', nx') := by
  obtain ⟨v1, h1, n1, e, rfl, rfl, rfl⟩ := D_wp S hN h
  exact e
theorem lk77 (S : Std3 T) (n : Node) (hp : Hl) (nx x : Nat) (hx : x < nx) (hb : blkAt hp x = .var (pvs (nodeC n))) : Looks T 77 [.ptr x 0 0] (errC (nodeBad n)) hp nx := by
  refine ⟨S.h77.raw, fun hp' nx' h1 h2 => D_eq S.h77 rfl ?_⟩
  have k := cnode_ok S.h88 S.hF n
  have hb' := (h2 x hx).trans hb
  simp only [nodeC, pvs] at hb' k
  simp only [f77, runL, defL, binV, Nat.reduceEqDiff, Nat.reduceAdd, reduceCtorEq, Int.reduceToNat, Nat.reduceMul, Nat.reduceLT, Int.reduceNeg, Int.reduceLE, Int.reduceLT, Int.reduceEq, Nat.reduceLeDiff, List.drop, List.take, hb', k.call]
  simp only [RawQ, rawq, runL, defL, binV, Nat.reduceEqDiff, Nat.reduceAdd, reduceCtorEq, Int.reduceToNat, Nat.reduceMul, Nat.reduceLT, Int.reduceNeg, Int.reduceLE, Int.reduceLT, Int.reduceEq, Nat.reduceLeDiff, List.drop, List.take]
theorem lk78 (S : Std3 T) (n : Load) (hp : Hl) (nx x : Nat) (hx : x < nx) (hb : blkAt hp x = .var (pvs (loadC n))) : Looks T 78 [.ptr x 0 0] (errC (loadBad n)) hp nx := by
  refine ⟨S.h78.raw, fun hp' nx' h1 h2 => D_eq S.h78 rfl ?_⟩
  have k := cload_ok S.h87 S.h85 n
  have hb' := (h2 x hx).trans hb
  simp only [loadC, pvs] at hb' k
  simp only [f78, runL, defL, binV, Nat.reduceEqDiff, Nat.reduceAdd, reduceCtorEq, Int.reduceToNat, Nat.reduceMul, Nat.reduceLT, Int.reduceNeg, Int.reduceLE, Int.reduceLT, Int.reduceEq, Nat.reduceLeDiff, List.drop, List.take, hb', k.call]
  simp only [RawQ, rawq, runL, defL, binV, Nat.reduceEqDiff, Nat.reduceAdd, reduceCtorEq, Int.reduceToNat, Nat.reduceMul, Nat.reduceLT, Int.reduceNeg, Int.reduceLE, Int.reduceLT, Int.reduceEq, Nat.reduceLeDiff, List.drop, List.take]
theorem lk79 (S : Std3 T) (s : Snap) (hl : s.loads.length ≤ 2 ^ 30) (hn : s.nodes.length ≤ 2 ^ 30) (p : Pod) (hp : Hl) (nx x : Nat) (h0 : 0 < nx) (hx : x < nx) (hs : blkAt hp 0 = .var [.pv (.slice (s.nodes.map nodeC)), .pv (.slice (s.loads.map loadC)), .pv (.slice (s.pods.map podC))])
    (hb : blkAt hp x = .var (pvs (podC p))) : Looks T 79 [.ptr 0 0 0, .ptr x 0 0] (errC (podBad s p)) hp nx := by
  refine ⟨S.h79.raw, fun hp' nx' h1 h2 => D_eq S.h79 rfl ?_⟩
  have k := cpod_ok S.h89 S.h85 S.h81 S.h82 s p hl hn
  have hb' := (h2 x hx).trans hb
  have hs' := (h2 0 h0).trans hs
  simp only [podC, pvs, snapP] at hb' k
  simp only [f79, runL, defL, binV, Nat.reduceEqDiff, Nat.reduceAdd, reduceCtorEq, Int.reduceToNat, Nat.reduceMul, Nat.reduceLT, Int.reduceNeg, Int.reduceLE, Int.reduceLT, Int.reduceEq, Nat.reduceLeDiff, List.drop, List.take, hb', hs', k.call]
  simp only [RawQ, rawq, runL, defL, binV, Nat.reduceEqDiff, Nat.reduceAdd, reduceCtorEq, Int.reduceToNat, Nat.reduceMul, Nat.reduceLT, Int.reduceNeg, Int.reduceLE, Int.reduceLT, Int.reduceEq, Nat.reduceLeDiff, List.drop, List.take]
theorem check_0 (S : Std3 T) (s : Snap) (hn : s.nodes.length ≤ 2 ^ 28) (hl : s.loads.length ≤ 2 ^ 28) (hpl : s.pods.length ≤ 2 ^ 28) (a0 : Int) (ha0 : 0 ≤ a0) (ha1 : a0 ≤ 2 ^ 29) (Q : Exit → St → Prop) (tot : Option (Int × Int))
    (hend : ∀ fr hp nx last err, 2 ≤ nx → look fr 1 = .ptr 0 0 0 → look fr 3 = .ptr 1 0 0 → blkAt hp 0 = .var [.pv (.slice (s.nodes.map nodeC)), .pv (.slice (s.loads.map loadC)), .pv (.slice (s.pods.map podC))] →
      blkAt hp 1 = .var [.pv (.int .i64 (a0 + (s.nodes.length : Int))), .pv (.int .i64 last), err] → ErrA err hp tot 1 nx → Q (.exit 0) ⟨fr, hp, nx⟩) :
    ∀ (rest : List Node) (i : Nat) (last : Int) (o : Option (Int × Int)) (err : AV), s.nodes.drop i = rest → i ≤ s.nodes.length → o.or (fstB Node.id nodeBad last (a0 + i) rest) = tot → ∀ (fr : List (Nat × AV)) (hp : Hl) (nx : Nat), 2 ≤ nx → look fr 1 = .ptr 0 0 0 → look fr 3 = .ptr 1 0 0 →
      blkAt hp 0 = .var [.pv (.slice (s.nodes.map nodeC)), .pv (.slice (s.loads.map loadC)), .pv (.slice (s.pods.map podC))] → blkAt hp 1 = .var [.pv (.int .i64 (a0 + i)), .pv (.int .i64 last), err] → ErrA err hp o 1 nx →
      look fr 36 = .pv (.slice (s.nodes.map nodeC)) → look fr 37 = .pv (.int .i64 s.nodes.length) → look fr 38 = .pv (.int .i64 i) → Wp T false (.loop f76l0) ⟨fr, hp, nx⟩ Q := by
  intro rest
  induction rest with
  | nil =>
    intro i last o err hd hi ho fr hp nx hnx g1 g3 b0 b1 hE hA hB hI
    have hlen := drop_nil hd hi
    simp only [fstB, Option.or_none] at ho
    subst ho
    rw [Wp_loop, Wp_eq f76l0.eq_1]
    simp only [runL, defL, binV, Nat.reduceEqDiff, Nat.reduceAdd, reduceCtorEq, Int.reduceToNat, Nat.reduceMul, Nat.reduceLT, Int.reduceNeg, Int.reduceLE, Int.reduceLT, Int.reduceEq, Nat.reduceLeDiff, List.drop, List.take, hA, hB, hI, hlen, Int.lt_irrefl]
    refine hend _ _ _ last err hnx ?_ ?_ b0 ?_ hE
    all_goals try simp only [look_if, blkAt_if, Nat.reduceEqDiff, if_true, if_false, g1, g3]
    rw [b1, hlen]
  | cons x r ih =>
    intro i last o err hd hi ho fr hp nx hnx g1 g3 b0 b1 hE hA hB hI
    obtain ⟨hget, hlt, hw, hd', hi', hbb⟩ := drop_cons hd (by omega)
    have n0 : ¬ nx = 0 := by omega
    have n1 : ¬ nx = 1 := by omega
    have ho' : (o.or (lookB (a0 + i) x.id last (nodeBad x))).or (fstB Node.id nodeBad x.id (a0 + ((i + 1 : Nat) : Int)) r) = tot := by
      rw [← ho, Option.or_assoc, fstB, show a0 + ((i + 1 : Nat) : Int) = a0 + i + 1 by omega]
    rw [Wp_loop, Wp_eq f76l0.eq_1]
    simp only [runL, defL, binV, Nat.reduceEqDiff, Nat.reduceAdd, reduceCtorEq, Int.reduceToNat, Nat.reduceMul, Nat.reduceLT, Int.reduceNeg, Int.reduceLE, Int.reduceLT, Int.reduceEq, Nat.reduceLeDiff, List.drop, List.take, g1, g3, hA, hB, hI, hlt, hget, nodeC, n0, n1, mkFun, allPVs]
    obtain ⟨v, hp', nx', e, err', q1, q2, q3, q4⟩ := look_ok S.h16 S.h86 S.hA 1 (a0 + i) x.id last (nodeBad x) err (.func 77 [] [.ptr nx 0 0]) 77 [.ptr nx 0 0] ((nx, .var (pvs (nodeC x))) :: (nx, .var [.pv (.int .i64 0), .pv (.int .i64 0), .pv (.int .u64 0), .pv (.int .u64 0), .pv (.int .u64 0), .pv (.int .u64 0), .pv (.int .u64 0), .pv (.int .u64 0), .pv (.int .u64 0), .pv (.int .u64 0)]) :: hp) (nx + 1) o rfl (by omega) (by simp only [look_if, blkAt_if, Nat.reduceEqDiff, if_true, if_false, n1, b1]) (lk77 S x _ _ nx (by omega) (by simp only [look_if, blkAt_if, Nat.reduceEqDiff, if_true, if_false])) (hE.mono (fun j hj hne => by simp only [look_if, blkAt_if, Nat.reduceEqDiff, if_true, if_false, show ¬ nx = j by omega]) (by omega)) (by omega) (by omega)
    rw [callQ_raw S.h16.raw e]
    simp only [runL, defL, binV, Nat.reduceEqDiff, Nat.reduceAdd, reduceCtorEq, Int.reduceToNat, Nat.reduceMul, Nat.reduceLT, Int.reduceNeg, Int.reduceLE, Int.reduceLT, Int.reduceEq, Nat.reduceLeDiff, List.drop, List.take, hI, hw]
    refine ih (i + 1) x.id _ err' hd' hi' ho' _ _ _ (by omega) ?_ ?_ ?_ ?_ q3 ?_ ?_ ?_
    all_goals try simp only [look_if, blkAt_if, Nat.reduceEqDiff, if_true, if_false, g1, g3, hA, hB]
    · rw [q4 0 (by omega) (by omega)]; simp only [look_if, blkAt_if, Nat.reduceEqDiff, if_true, if_false, n0, b0]
    · rw [q2, show a0 + ((i + 1 : Nat) : Int) = a0 + i + 1 by omega]
theorem check_1 (S : Std3 T) (s : Snap) (hn : s.nodes.length ≤ 2 ^ 28) (hl : s.loads.length ≤ 2 ^ 28) (hpl : s.pods.length ≤ 2 ^ 28) (a0 : Int) (ha0 : 0 ≤ a0) (ha1 : a0 ≤ 2 ^ 29) (Q : Exit → St → Prop) (tot : Option (Int × Int))
    (hend : ∀ fr hp nx last err, 2 ≤ nx → look fr 1 = .ptr 0 0 0 → look fr 3 = .ptr 1 0 0 → blkAt hp 0 = .var [.pv (.slice (s.nodes.map nodeC)), .pv (.slice (s.loads.map loadC)), .pv (.slice (s.pods.map podC))] →
      blkAt hp 1 = .var [.pv (.int .i64 (a0 + (s.loads.length : Int))), .pv (.int .i64 last), err] → ErrA err hp tot 1 nx → Q (.exit 2) ⟨fr, hp, nx⟩) :
    ∀ (rest : List Load) (i : Nat) (last : Int) (o : Option (Int × Int)) (err : AV), s.loads.drop i = rest → i ≤ s.loads.length → o.or (fstB Load.id loadBad last (a0 + i) rest) = tot → ∀ (fr : List (Nat × AV)) (hp : Hl) (nx : Nat), 2 ≤ nx → look fr 1 = .ptr 0 0 0 → look fr 3 = .ptr 1 0 0 →
      blkAt hp 0 = .var [.pv (.slice (s.nodes.map nodeC)), .pv (.slice (s.loads.map loadC)), .pv (.slice (s.pods.map podC))] → blkAt hp 1 = .var [.pv (.int .i64 (a0 + i)), .pv (.int .i64 last), err] → ErrA err hp o 1 nx →
      look fr 52 = .pv (.slice (s.loads.map loadC)) → look fr 53 = .pv (.int .i64 s.loads.length) → look fr 54 = .pv (.int .i64 i) → Wp T false (.loop f76l1) ⟨fr, hp, nx⟩ Q := by
  intro rest
  induction rest with
  | nil =>
    intro i last o err hd hi ho fr hp nx hnx g1 g3 b0 b1 hE hA hB hI
    have hlen := drop_nil hd hi
    simp only [fstB, Option.or_none] at ho
    subst ho
    rw [Wp_loop, Wp_eq f76l1.eq_1]
    simp only [runL, defL, binV, Nat.reduceEqDiff, Nat.reduceAdd, reduceCtorEq, Int.reduceToNat, Nat.reduceMul, Nat.reduceLT, Int.reduceNeg, Int.reduceLE, Int.reduceLT, Int.reduceEq, Nat.reduceLeDiff, List.drop, List.take, hA, hB, hI, hlen, Int.lt_irrefl]
    refine hend _ _ _ last err hnx ?_ ?_ b0 ?_ hE
    all_goals try simp only [look_if, blkAt_if, Nat.reduceEqDiff, if_true, if_false, g1, g3]
    rw [b1, hlen]
  | cons x r ih =>
    intro i last o err hd hi ho fr hp nx hnx g1 g3 b0 b1 hE hA hB hI
    obtain ⟨hget, hlt, hw, hd', hi', hbb⟩ := drop_cons hd (by omega)
    have n0 : ¬ nx = 0 := by omega
    have n1 : ¬ nx = 1 := by omega
    have ho' : (o.or (lookB (a0 + i) x.id last (loadBad x))).or (fstB Load.id loadBad x.id (a0 + ((i + 1 : Nat) : Int)) r) = tot := by
      rw [← ho, Option.or_assoc, fstB, show a0 + ((i + 1 : Nat) : Int) = a0 + i + 1 by omega]
    rw [Wp_loop, Wp_eq f76l1.eq_1]
    simp only [runL, defL, binV, Nat.reduceEqDiff, Nat.reduceAdd, reduceCtorEq, Int.reduceToNat, Nat.reduceMul, Nat.reduceLT, Int.reduceNeg, Int.reduceLE, Int.reduceLT, Int.reduceEq, Nat.reduceLeDiff, List.drop, List.take, g1, g3, hA, hB, hI, hlt, hget, loadC, n0, n1, mkFun, allPVs]
    obtain ⟨v, hp', nx', e, err', q1, q2, q3, q4⟩ := look_ok S.h16 S.h86 S.hA 1 (a0 + i) x.id last (loadBad x) err (.func 78 [] [.ptr nx 0 0]) 78 [.ptr nx 0 0] ((nx, .var (pvs (loadC x))) :: (nx, .var [.pv (.int .i64 0), .pv (.bool false), .pv (.int .i64 0), .pv (.int .i64 0), .pv (.int .i64 0)]) :: hp) (nx + 1) o rfl (by omega) (by simp only [look_if, blkAt_if, Nat.reduceEqDiff, if_true, if_false, n1, b1]) (lk78 S x _ _ nx (by omega) (by simp only [look_if, blkAt_if, Nat.reduceEqDiff, if_true, if_false])) (hE.mono (fun j hj hne => by simp only [look_if, blkAt_if, Nat.reduceEqDiff, if_true, if_false, show ¬ nx = j by omega]) (by omega)) (by omega) (by omega)
    rw [callQ_raw S.h16.raw e]
    simp only [runL, defL, binV, Nat.reduceEqDiff, Nat.reduceAdd, reduceCtorEq, Int.reduceToNat, Nat.reduceMul, Nat.reduceLT, Int.reduceNeg, Int.reduceLE, Int.reduceLT, Int.reduceEq, Nat.reduceLeDiff, List.drop, List.take, hI, hw]
    refine ih (i + 1) x.id _ err' hd' hi' ho' _ _ _ (by omega) ?_ ?_ ?_ ?_ q3 ?_ ?_ ?_
    all_goals try simp only [look_if, blkAt_if, Nat.reduceEqDiff, if_true, if_false, g1, g3, hA, hB]
    · rw [q4 0 (by omega) (by omega)]; simp only [look_if, blkAt_if, Nat.reduceEqDiff, if_true, if_false, n0, b0]
    · rw [q2, show a0 + ((i + 1 : Nat) : Int) = a0 + i + 1 by omega]
theorem check_2 (S : Std3 T) (s : Snap) (hn : s.nodes.length ≤ 2 ^ 28) (hl : s.loads.length ≤ 2 ^ 28) (hpl : s.pods.length ≤ 2 ^ 28) (a0 : Int) (ha0 : 0 ≤ a0) (ha1 : a0 ≤ 2 ^ 29) (Q : Exit → St → Prop) (tot : Option (Int × Int))
    (hend : ∀ fr hp nx last err, 2 ≤ nx → look fr 1 = .ptr 0 0 0 → look fr 3 = .ptr 1 0 0 → blkAt hp 0 = .var [.pv (.slice (s.nodes.map nodeC)), .pv (.slice (s.loads.map loadC)), .pv (.slice (s.pods.map podC))] →
      blkAt hp 1 = .var [.pv (.int .i64 (a0 + (s.pods.length : Int))), .pv (.int .i64 last), err] → ErrA err hp tot 1 nx → Q (.exit 4) ⟨fr, hp, nx⟩) :
    ∀ (rest : List Pod) (i : Nat) (last : Int) (o : Option (Int × Int)) (err : AV), s.pods.drop i = rest → i ≤ s.pods.length → o.or (fstB Pod.id (podBad s) last (a0 + i) rest) = tot → ∀ (fr : List (Nat × AV)) (hp : Hl) (nx : Nat), 2 ≤ nx → look fr 1 = .ptr 0 0 0 → look fr 3 = .ptr 1 0 0 →
      blkAt hp 0 = .var [.pv (.slice (s.nodes.map nodeC)), .pv (.slice (s.loads.map loadC)), .pv (.slice (s.pods.map podC))] → blkAt hp 1 = .var [.pv (.int .i64 (a0 + i)), .pv (.int .i64 last), err] → ErrA err hp o 1 nx →
      look fr 68 = .pv (.slice (s.pods.map podC)) → look fr 69 = .pv (.int .i64 s.pods.length) → look fr 70 = .pv (.int .i64 i) → Wp T false (.loop f76l2) ⟨fr, hp, nx⟩ Q := by
  intro rest
  induction rest with
  | nil =>
    intro i last o err hd hi ho fr hp nx hnx g1 g3 b0 b1 hE hA hB hI
    have hlen := drop_nil hd hi
    simp only [fstB, Option.or_none] at ho
    subst ho
    rw [Wp_loop, Wp_eq f76l2.eq_1]
    simp only [runL, defL, binV, Nat.reduceEqDiff, Nat.reduceAdd, reduceCtorEq, Int.reduceToNat, Nat.reduceMul, Nat.reduceLT, Int.reduceNeg, Int.reduceLE, Int.reduceLT, Int.reduceEq, Nat.reduceLeDiff, List.drop, List.take, hA, hB, hI, hlen, Int.lt_irrefl]
    refine hend _ _ _ last err hnx ?_ ?_ b0 ?_ hE
    all_goals try simp only [look_if, blkAt_if, Nat.reduceEqDiff, if_true, if_false, g1, g3]
    rw [b1, hlen]
  | cons x r ih =>
    intro i last o err hd hi ho fr hp nx hnx g1 g3 b0 b1 hE hA hB hI
    obtain ⟨hget, hlt, hw, hd', hi', hbb⟩ := drop_cons hd (by omega)
    have n0 : ¬ nx = 0 := by omega
    have n1 : ¬ nx = 1 := by omega
    have ho' : (o.or (lookB (a0 + i) x.id last ((podBad s) x))).or (fstB Pod.id (podBad s) x.id (a0 + ((i + 1 : Nat) : Int)) r) = tot := by
      rw [← ho, Option.or_assoc, fstB, show a0 + ((i + 1 : Nat) : Int) = a0 + i + 1 by omega]
    rw [Wp_loop, Wp_eq f76l2.eq_1]
    simp only [runL, defL, binV, Nat.reduceEqDiff, Nat.reduceAdd, reduceCtorEq, Int.reduceToNat, Nat.reduceMul, Nat.reduceLT, Int.reduceNeg, Int.reduceLE, Int.reduceLT, Int.reduceEq, Nat.reduceLeDiff, List.drop, List.take, g1, g3, hA, hB, hI, hlt, hget, podC, n0, n1, mkFun, allPVs]
    obtain ⟨v, hp', nx', e, err', q1, q2, q3, q4⟩ := look_ok S.h16 S.h86 S.hA 1 (a0 + i) x.id last ((podBad s) x) err (.func 79 [] [.ptr 0 0 0, .ptr nx 0 0]) 79 [.ptr 0 0 0, .ptr nx 0 0] ((nx, .var (pvs (podC x))) :: (nx, .var [.pv (.int .i64 0), .pv (.int .i64 0), .pv (.int .i64 0), .pv (.int .u64 0), .pv (.int .u64 0), .pv (.int .u64 0), .pv (.int .u64 0), .pv (.int .i64 0)]) :: hp) (nx + 1) o rfl (by omega) (by simp only [look_if, blkAt_if, Nat.reduceEqDiff, if_true, if_false, n1, b1]) (lk79 S s (by omega) (by omega) x _ _ nx (by omega) (by omega) (by simp only [look_if, blkAt_if, Nat.reduceEqDiff, if_true, if_false, n0, b0]) (by simp only [look_if, blkAt_if, Nat.reduceEqDiff, if_true, if_false])) (hE.mono (fun j hj hne => by simp only [look_if, blkAt_if, Nat.reduceEqDiff, if_true, if_false, show ¬ nx = j by omega]) (by omega)) (by omega) (by omega)
    rw [callQ_raw S.h16.raw e]
    simp only [runL, defL, binV, Nat.reduceEqDiff, Nat.reduceAdd, reduceCtorEq, Int.reduceToNat, Nat.reduceMul, Nat.reduceLT, Int.reduceNeg, Int.reduceLE, Int.reduceLT, Int.reduceEq, Nat.reduceLeDiff, List.drop, List.take, hI, hw]
    refine ih (i + 1) x.id _ err' hd' hi' ho' _ _ _ (by omega) ?_ ?_ ?_ ?_ q3 ?_ ?_ ?_
    all_goals try simp only [look_if, blkAt_if, Nat.reduceEqDiff, if_true, if_false, g1, g3, hA, hB]
    · rw [q4 0 (by omega) (by omega)]; simp only [look_if, blkAt_if, Nat.reduceEqDiff, if_true, if_false, n0, b0]
    · rw [q2, show a0 + ((i + 1 : Nat) : Int) = a0 + i + 1 by omega]
end
end Go.Proofs.YtjmggjlfamjdbaaDoor.Ab
set_option linter.unusedVariables false
set_option linter.unusedSimpArgs false
namespace Go.Proofs.YtjmggjlfamjdbaaDoor.Ab
open Go
theorem lookB_some {a n last c k b : Int} (h : lookB a n last c = some (k, b)) (hc : c = 0 ∨ 1 ≤ c ∧ c ≤ 17) : b = a ∧ 1 ≤ k ∧ k ≤ 17 := by
  unfold lookB at h
  split at h
  · rename_i h0
    simp only [Option.some.injEq, Prod.mk.injEq] at h
    obtain ⟨rfl, rfl⟩ := h
    refine ⟨rfl, ?_⟩
    have hi : idP n last = 0 ∨ 1 ≤ idP n last ∧ idP n last ≤ 5 := by
      unfold idP
      split
      · omega
      · split <;> omega
    unfold lookC at h0 ⊢
    split
    · omega
    · rename_i h1
      rw [if_neg h1] at h0
      omega
  · simp at h
theorem fstB_range {α : Type} {idOf own : α → Int} (hc : ∀ x, own x = 0 ∨ 1 ≤ own x ∧ own x ≤ 17) : ∀ (l : List α) (last a : Int) c b, fstB idOf own last a l = some (c, b) → a ≤ b ∧ 1 ≤ c ∧ c ≤ 17
  | [], last, a, c, b, h => by simp [fstB] at h
  | x :: r, last, a, c, b, h => by
    simp only [fstB] at h
    cases hl : lookB a (idOf x) last (own x) with
    | some q =>
      obtain ⟨k, b'⟩ := q
      rw [hl] at h
      simp only [Option.some_or, Option.some.injEq, Prod.mk.injEq] at h
      obtain ⟨rfl, rfl⟩ := h
      obtain ⟨rfl, h1⟩ := lookB_some hl (hc x)
      exact ⟨Int.le_refl _, h1⟩
    | none =>
      rw [hl, Option.none_or] at h
      obtain ⟨h1, h2⟩ := fstB_range hc r _ _ c b h
      exact ⟨by omega, h2⟩
theorem nodeBad_c (n : Node) : nodeBad n = 0 ∨ 1 ≤ nodeBad n ∧ nodeBad n ≤ 17 := by unfold nodeBad; split <;> omega
theorem loadBad_c (n : Load) : loadBad n = 0 ∨ 1 ≤ loadBad n ∧ loadBad n ≤ 17 := by unfold loadBad; split <;> omega
theorem podBad_c (s : Snap) (p : Pod) : podBad s p = 0 ∨ 1 ≤ podBad s p ∧ podBad s p ≤ 17 := by
  unfold podBad
  split
  · omega
  · split <;> omega
theorem errA_snap {err : AV} {hp : Hl} {o : Option (Int × Int)} {kid nx : Nat} (h : ErrA err hp o kid nx) (hpos : ∀ c a, o = some (c, a) → 0 ≤ a) : snapV (blkAt hp) err = some (errG o) := by
  cases o with
  | none =>
    have h' : err = .pv .nili := h
    subst h'
    rfl
  | some q =>
    obtain ⟨c, a⟩ := q
    obtain ⟨b, rfl, h1, h2, h3⟩ := h
    have := hpos c a rfl
    have hn : ¬ a < 0 := by omega
    simp only [snapV, h3, snapRs, snapR, errG, hn, if_false, spotE]
section
variable {T : Tab}
set_option maxRecDepth 100000 in
set_option maxHeartbeats 4000000 in
theorem check3_ok (S : Std3 T) (s : Snap) : Gives T 76 [snapP s] (errG (checkB s)) := by
  refine gives S.h76 rfl ?_
  by_cases hz : sizesOK s = true
  · have hz' := hz
    simp only [sizesOK, Bool.and_eq_true, decide_eq_true_eq] at hz'
    obtain ⟨z1, z2, z3, z4⟩ := hz'
    have y1 : ¬ (s.nodes.length : Int) < 1 := by omega
    have y2 : ¬ (8 : Int) < (s.nodes.length : Int) := by omega
    have y3 : ¬ (8 : Int) < (s.loads.length : Int) := by omega
    have y4 : ¬ (12 : Int) < (s.pods.length : Int) := by omega
    have hpos : ∀ c a, checkB s = some (c, a) → 0 ≤ a := by
      intro c a h
      unfold checkB at h
      rw [if_pos hz] at h
      cases h1 : fstB Node.id nodeBad 0 0 s.nodes with
      | some q =>
        rw [h1] at h
        simp only [Option.some_or, Option.some.injEq] at h
        subst h
        have := fstB_range nodeBad_c _ _ _ _ _ h1
        omega
      | none =>
        rw [h1, Option.none_or] at h
        cases h2 : fstB Load.id loadBad 0 s.nodes.length s.loads with
        | some q =>
          rw [h2] at h
          simp only [Option.some_or, Option.some.injEq] at h
          subst h
          have := fstB_range loadBad_c _ _ _ _ _ h2
          omega
        | none =>
          rw [h2, Option.none_or] at h
          have := fstB_range (podBad_c s) _ _ _ _ _ h
          omega
    simp only [f76, runL, defL, binV, Nat.reduceEqDiff, Nat.reduceAdd, reduceCtorEq, Int.reduceToNat, Nat.reduceMul, Nat.reduceLT, Int.reduceNeg, Int.reduceLE, Int.reduceLT, Int.reduceEq, Nat.reduceLeDiff, List.drop, List.take, snapP, y1, y2, y3, y4]
    refine check_0 S s (by omega) (by omega) (by omega) 0 (Int.le_refl _) (by omega) _ (fstB Node.id nodeBad 0 0 s.nodes) (fun fr hp nx last err hnx g1 g3 b0 b1 hE => ?_) s.nodes 0 0 none (.pv .nili) rfl (Nat.zero_le _) rfl _ _ _ (Nat.le_refl _) rfl rfl rfl rfl rfl rfl rfl rfl
    simp only [runL, defL, binV, Nat.reduceEqDiff, Nat.reduceAdd, reduceCtorEq, Int.reduceToNat, Nat.reduceMul, Nat.reduceLT, Int.reduceNeg, Int.reduceLE, Int.reduceLT, Int.reduceEq, Nat.reduceLeDiff, List.drop, List.take, g1, g3, b0, b1]
    refine check_1 S s (by omega) (by omega) (by omega) s.nodes.length (by omega) (by omega) _ ((fstB Node.id nodeBad 0 0 s.nodes).or (fstB Load.id loadBad 0 s.nodes.length s.loads)) (fun fr hp nx last err hnx g1 g3 b0 b1 hE => ?_) s.loads 0 0 (fstB Node.id nodeBad 0 0 s.nodes) err rfl (Nat.zero_le _) (by rw [show ((s.nodes.length : Int) + ((0 : Nat) : Int)) = s.nodes.length by omega]) _ _ _ hnx ?_ ?_ ?_ ?_ ?_ ?_ ?_ ?_
    · simp only [runL, defL, binV, Nat.reduceEqDiff, Nat.reduceAdd, reduceCtorEq, Int.reduceToNat, Nat.reduceMul, Nat.reduceLT, Int.reduceNeg, Int.reduceLE, Int.reduceLT, Int.reduceEq, Nat.reduceLeDiff, List.drop, List.take, g1, g3, b0, b1]
      refine check_2 S s (by omega) (by omega) (by omega) (s.nodes.length + s.loads.length) (by omega) (by omega) _ (checkB s) (fun fr hp nx last err hnx g1 g3 b0 b1 hE => ?_) s.pods 0 0 ((fstB Node.id nodeBad 0 0 s.nodes).or (fstB Load.id loadBad 0 s.nodes.length s.loads)) err rfl (Nat.zero_le _) ?_ _ _ _ hnx ?_ ?_ ?_ ?_ ?_ ?_ ?_ ?_
      · have hs := errA_snap hE hpos
        simp only [runL, defL, binV, Nat.reduceEqDiff, Nat.reduceAdd, reduceCtorEq, Int.reduceToNat, Nat.reduceMul, Nat.reduceLT, Int.reduceNeg, Int.reduceLE, Int.reduceLT, Int.reduceEq, Nat.reduceLeDiff, List.drop, List.take, g1, g3, b0, b1, hs]
      · rw [checkB, if_pos hz, show ((s.nodes.length : Int) + s.loads.length + ((0 : Nat) : Int)) = (s.nodes.length : Int) + s.loads.length by omega]
      all_goals try simp only [look_if, blkAt_if, Nat.reduceEqDiff, if_true, if_false, g1, g3, b0]
      · rw [show ((s.nodes.length : Int) + s.loads.length + ((0 : Nat) : Int)) = (s.nodes.length : Int) + s.loads.length by omega]
      · exact hE.mono (fun j hj hne => by simp only [look_if, blkAt_if, Nat.reduceEqDiff, if_true, if_false, show ¬ 1 = j from fun h => hne h.symm]) (Nat.le_refl _)
      · rfl
    all_goals try simp only [look_if, blkAt_if, Nat.reduceEqDiff, if_true, if_false, g1, g3, b0]
    · rw [show ((s.nodes.length : Int) + ((0 : Nat) : Int)) = 0 + (s.nodes.length : Int) by omega]
    · exact hE.mono (fun j hj hne => by simp only [look_if, blkAt_if, Nat.reduceEqDiff, if_true, if_false, show ¬ 1 = j from fun h => hne h.symm]) (Nat.le_refl _)
    · rfl
  · have hc : errG (checkB s) = .iface 0 (.int .i64 3) := by rw [checkB, if_neg hz]; rfl
    rw [hc]
    have hz' := hz
    simp only [sizesOK, Bool.and_eq_true, decide_eq_true_eq, not_and] at hz'
    by_cases c1 : (s.nodes.length : Int) < 1
    · simp only [f76, runL, defL, binV, Nat.reduceEqDiff, Nat.reduceAdd, reduceCtorEq, Int.reduceToNat, Nat.reduceMul, Nat.reduceLT, Int.reduceNeg, Int.reduceLE, Int.reduceLT, Int.reduceEq, Nat.reduceLeDiff, List.drop, List.take, snapP, c1]
    · by_cases c2 : (8 : Int) < (s.nodes.length : Int)
      · simp only [f76, runL, defL, binV, Nat.reduceEqDiff, Nat.reduceAdd, reduceCtorEq, Int.reduceToNat, Nat.reduceMul, Nat.reduceLT, Int.reduceNeg, Int.reduceLE, Int.reduceLT, Int.reduceEq, Nat.reduceLeDiff, List.drop, List.take, snapP, c1, c2]
      · by_cases c3 : (8 : Int) < (s.loads.length : Int)
        · simp only [f76, runL, defL, binV, Nat.reduceEqDiff, Nat.reduceAdd, reduceCtorEq, Int.reduceToNat, Nat.reduceMul, Nat.reduceLT, Int.reduceNeg, Int.reduceLE, Int.reduceLT, Int.reduceEq, Nat.reduceLeDiff, List.drop, List.take, snapP, c1, c2, c3]
        · have c4 : (12 : Int) < (s.pods.length : Int) := by have := hz' (by omega) (by omega) (by omega); omega
          simp only [f76, runL, defL, binV, Nat.reduceEqDiff, Nat.reduceAdd, reduceCtorEq, Int.reduceToNat, Nat.reduceMul, Nat.reduceLT, Int.reduceNeg, Int.reduceLE, Int.reduceLT, Int.reduceEq, Nat.reduceLeDiff, List.drop, List.take, snapP, c1, c2, c3, c4]
/-! ### Wants -/
structure StdC (T : Tab) : Prop where
  h282 : Std T 282 f282
  flat282 : T.flat 282 = true
  h287 : Std T 287 f287
  h91 : Std T 91 f91
end
end Go.Proofs.YtjmggjlfamjdbaaDoor.Ab
set_option linter.unusedVariables false
set_option linter.unusedSimpArgs false
namespace Go.Proofs.YtjmggjlfamjdbaaDoor.Ab
open Go
def nodeRd (r : Rd) : Node × Rd := (⟨(intR r).1, (intR (intR r).2).1, (vecR4 (intR (intR r).2).2).1, (vecR4 (vecR4 (intR (intR r).2).2).2).1⟩, (vecR4 (vecR4 (intR (intR r).2).2).2).2)
def loadRd (r : Rd) : Load × Rd := (⟨(intR r).1, (truR (intR r).2).1, (intR (truR (intR r).2).2).1, (intR (intR (truR (intR r).2).2).2).1, (intR (intR (intR (truR (intR r).2).2).2).2).1⟩, (intR (intR (intR (truR (intR r).2).2).2).2).2)
def podRd (r : Rd) : Pod × Rd := (⟨(intR r).1, (intR (intR r).2).1, (intR (intR (intR r).2).2).1, (vecR4 (intR (intR (intR r).2).2).2).1, (intR (vecR4 (intR (intR (intR r).2).2).2).2).1⟩, (intR (vecR4 (intR (intR (intR r).2).2).2).2).2)
structure Fx4 (T : Tab) : Prop where
  i : Fx T 18 fun r => (.int .i64 ((intR r).1 : Nat), (intR r).2)
  v : Fx T 21 fun r => (.agg (vecC (vecR4 r).1), (vecR4 r).2)
  t : Fx T 20 fun r => (.bool (truR r).1, (truR r).2)
  f : Fx T 17 fun r => (.bool (fineR r), r)
theorem fx4 {T : Tab} (S : Std4r T) : Fx4 T := ⟨int_fx S.h18 (next_fx S.h19), vec_fx S.h21 (next_fx S.h19), tru_fx S.h20 (next_fx S.h19), fine_fx S.h17⟩
section
variable {T : Tab}
set_option maxRecDepth 100000 in
set_option maxHeartbeats 4000000 in
theorem snapR_l0 (F : Fx4 T) (N rid sid oid lo : Nat) (u1 u2 : AV) (hN : N ≤ 1000) (hrid : rid < lo) (hsid : sid < lo) (hrs : rid ≠ sid) (hp0 : Hl) (tot : List Node) (fin : Rd) (Q : Exit → St → Prop)
    (hend : ∀ fr hp nx v, lo ≤ nx → look fr 2 = .ptr 0 0 0 → look fr 4 = .ptr rid 0 0 → look fr 5 = .ms oid → look fr 7 = .ptr sid 0 0 → (∀ k, k < lo → k ≠ rid → k ≠ sid → blkAt hp k = blkAt hp0 k) → blkAt hp rid = .var (rdC fin) → blkAt hp sid = .var [v, u1, u2] → Own v hp 10 (tot.map nodeC) lo nx → Q (.exit 0) ⟨fr, hp, nx⟩) :
    ∀ (k i : Nat) (acc : List Node) (r : Rd) (v : AV), i + k = N → acc.length = i → acc ++ (manyRd nodeRd k r).1 = tot → (manyRd nodeRd k r).2 = fin → ∀ (fr : List (Nat × AV)) (hp : Hl) (nx : Nat), lo ≤ nx → look fr 2 = .ptr 0 0 0 → look fr 4 = .ptr rid 0 0 → look fr 5 = .ms oid → look fr 7 = .ptr sid 0 0 → look fr 25 = .pv (.int .i64 N) → look fr 26 = .pv (.int .i64 i) →
      (∀ k, k < lo → k ≠ rid → k ≠ sid → blkAt hp k = blkAt hp0 k) → blkAt hp rid = .var (rdC r) → blkAt hp sid = .var [v, u1, u2] → Own v hp 10 (acc.map nodeC) lo nx → Wp T false (.loop f94l0) ⟨fr, hp, nx⟩ Q := by
  intro k
  induction k with
  | zero =>
    intro i acc r v hi ha ht hf fr hp nx hnx g2 g4 g5 g7 g25 g26 hF hb bs hO
    simp only [manyRd, List.append_nil] at ht hf
    subst ht hf
    have c : ¬ (i : Int) < (N : Int) := by omega
    rw [Wp_loop, Wp_eq f94l0.eq_1]
    simp only [runL, defL, binV, Nat.reduceEqDiff, Nat.reduceAdd, reduceCtorEq, Int.reduceToNat, Nat.reduceMul, Nat.reduceLT, Int.reduceNeg, Int.reduceLE, Int.reduceLT, Int.reduceEq, Nat.reduceLeDiff, List.drop, List.take, g4, g7, g25, g26, c]
    refine hend _ _ _ v hnx ?_ ?_ ?_ ?_ hF hb bs hO
    all_goals try simp only [look_if, blkAt_if, Nat.reduceEqDiff, if_true, if_false, g2, g4, g5, g7]
  | succ k ih =>
    intro i acc r v hi ha ht hf fr hp nx hnx g2 g4 g5 g7 g25 g26 hF hb bs hO
    have c : (i : Int) < (N : Int) := by omega
    have hw : IntKind.i64.wrap ((i : Int) + 1) = ((i + 1 : Nat) : Int) := by rw [wrap6] <;> omega
    simp only [manyRd] at ht hf
    rw [Wp_loop, Wp_eq f94l0.eq_1]
    simp only [runL, defL, binV, Nat.reduceEqDiff, Nat.reduceAdd, reduceCtorEq, Int.reduceToNat, Nat.reduceMul, Nat.reduceLT, Int.reduceNeg, Int.reduceLE, Int.reduceLT, Int.reduceEq, Nat.reduceLeDiff, List.drop, List.take, g4, g7, g25, g26, c]
    refine F.i.call (r := r) (by first | omega | (dsimp only; omega)) hb (fun hp1 nx1 p1 p2 p3 => ?_)
    dsimp only at p1 p2 p3
    simp only [runL, defL, binV, Nat.reduceEqDiff, Nat.reduceAdd, reduceCtorEq, Int.reduceToNat, Nat.reduceMul, Nat.reduceLT, Int.reduceNeg, Int.reduceLE, Int.reduceLT, Int.reduceEq, Nat.reduceLeDiff, List.drop, List.take, g4, g7]
    refine F.i.call (r := (intR r).2) (by first | omega | (dsimp only; omega)) p2 (fun hp2 nx2 q1 q2 q3 => ?_)
    dsimp only at q1 q2 q3
    have e1 : ¬ nx2 = rid := by omega
    simp only [runL, defL, binV, Nat.reduceEqDiff, Nat.reduceAdd, reduceCtorEq, Int.reduceToNat, Nat.reduceMul, Nat.reduceLT, Int.reduceNeg, Int.reduceLE, Int.reduceLT, Int.reduceEq, Nat.reduceLeDiff, List.drop, List.take, g4, g7]
    refine F.v.call (r := (intR (intR r).2).2) (by first | omega | (dsimp only; omega)) (by simp only [look_if, blkAt_if, Nat.reduceEqDiff, if_true, if_false, e1, q2]) (fun hp3 nx3 s1 s2 s3 => ?_)
    dsimp only at s1 s2 s3
    have x1 := s3 nx2 (by omega) (by omega)
    simp only [look_if, blkAt_if, Nat.reduceEqDiff, if_true, if_false] at x1
    simp only [runL, defL, binV, Nat.reduceEqDiff, Nat.reduceAdd, reduceCtorEq, Int.reduceToNat, Nat.reduceMul, Nat.reduceLT, Int.reduceNeg, Int.reduceLE, Int.reduceLT, Int.reduceEq, Nat.reduceLeDiff, List.drop, List.take, g4, g7, x1, vecC]
    refine F.v.call (r := (vecR4 (intR (intR r).2).2).2) (by first | omega | (dsimp only; omega)) (by simp only [look_if, blkAt_if, Nat.reduceEqDiff, if_true, if_false, e1, s2]) (fun hp4 nx4 t1 t2 t3 => ?_)
    dsimp only at t1 t2 t3
    have y1 := t3 nx2 (by omega) (by omega)
    simp only [look_if, blkAt_if, Nat.reduceEqDiff, if_true, if_false] at y1
    have f1 : ¬ nx2 = sid := by omega
    have FF : ∀ j, j < nx → j ≠ rid → blkAt hp4 j = blkAt hp j := fun j j1 j2 => by
      have j3 : ¬ nx2 = j := by omega
      have a1 := t3 j (by omega) j2
      have a2 := s3 j (by omega) j2
      have a3 := q3 j (by omega) j2
      have a4 := p3 j (by omega) j2
      simp only [look_if, blkAt_if, Nat.reduceEqDiff, if_true, if_false, j3] at a1 a2 a3 a4
      rw [a1, a2, a3, a4]
    have ysid := FF sid (by omega) (by omega)
    rw [bs] at ysid
    have hO4 : Own v ((nx2, .var (pvs (nodeC (nodeRd r).1))) :: hp4) 10 (acc.map nodeC) lo nx4 := hO.mono (fun j j1 j2 => by
      have j3 : ¬ nx2 = j := by omega
      simp only [look_if, blkAt_if, Nat.reduceEqDiff, if_true, if_false, j3]
      exact FF j j2 (by omega)) (by omega)
    obtain ⟨v', W, n, a1, a2, a3⟩ := hO4.app1 (by omega) (nodeC (nodeRd r).1) (by rw [List.length_map]; omega)
    obtain ⟨vid, rfl, _⟩ := a3.id (by simp)
    have a1' := a1
    simp only [nodeC, nodeRd, pvs] at a1'
    have e4 : ¬ nx4 = nx2 := by omega
    have e6 : ¬ nx4 = sid := by omega
    have a2s := a2 sid hsid
    simp only [nodeC, nodeRd, pvs, look_if, blkAt_if, Nat.reduceEqDiff, if_true, if_false, f1, ysid] at a2s
    have m1 : ¬ sid = rid := by omega
    have a2r := a2 rid hrid
    simp only [nodeC, nodeRd, pvs, look_if, blkAt_if, Nat.reduceEqDiff, if_true, if_false, e1, t2] at a2r
    simp only [runL, defL, binV, Nat.reduceEqDiff, Nat.reduceAdd, reduceCtorEq, Int.reduceToNat, Nat.reduceMul, Nat.reduceLT, Int.reduceNeg, Int.reduceLE, Int.reduceLT, Int.reduceEq, Nat.reduceLeDiff, List.drop, List.take, g4, g7, g26, y1, ysid, f1, e4, e6, vecC, partsScal, srcV, chunk, allLen, List.all_cons, List.all_nil, a1', a2s, hw]
    refine ih (i + 1) (acc ++ [(nodeRd r).1]) (nodeRd r).2 (.ms vid) (by omega) (by simp [ha]) (by rw [← ht]; simp [List.append_assoc]) hf _ _ _ (by omega) ?_ ?_ ?_ ?_ ?_ ?_ (fun j j1 j2 j3 => ?_) ?_ ?_ ?_
    all_goals try simp only [look_if, blkAt_if, Nat.reduceEqDiff, if_true, if_false, g2, g4, g5, g7, g25, m1, a2r]
    · have h1 : ¬ sid = j := fun h => j3 h.symm
      have h2 : ¬ nx2 = j := by omega
      have := a2 j j1
      simp only [nodeC, nodeRd, pvs, look_if, blkAt_if, Nat.reduceEqDiff, if_true, if_false, h2] at this
      simp only [look_if, blkAt_if, Nat.reduceEqDiff, if_true, if_false, h1]
      rw [this, FF j (by omega) j2]
      exact hF j j1 j2 j3
    · rfl
    · rw [List.map_append]
      exact a3.low (i := sid) hsid (.var [.ms vid, u1, u2])
set_option maxRecDepth 100000 in
set_option maxHeartbeats 4000000 in
theorem snapR_l1 (F : Fx4 T) (N rid sid oid lo : Nat) (u0 u2 : AV) (hN : N ≤ 1000) (hrid : rid < lo) (hsid : sid < lo) (hrs : rid ≠ sid) (hp0 : Hl) (tot : List Load) (fin : Rd) (Q : Exit → St → Prop)
    (hend : ∀ fr hp nx v, lo ≤ nx → look fr 2 = .ptr 0 0 0 → look fr 4 = .ptr rid 0 0 → look fr 5 = .ms oid → look fr 7 = .ptr sid 0 0 → (∀ k, k < lo → k ≠ rid → k ≠ sid → blkAt hp k = blkAt hp0 k) → blkAt hp rid = .var (rdC fin) → blkAt hp sid = .var [u0, v, u2] → Own v hp 5 (tot.map loadC) lo nx → Q (.exit 2) ⟨fr, hp, nx⟩) :
    ∀ (k i : Nat) (acc : List Load) (r : Rd) (v : AV), i + k = N → acc.length = i → acc ++ (manyRd loadRd k r).1 = tot → (manyRd loadRd k r).2 = fin → ∀ (fr : List (Nat × AV)) (hp : Hl) (nx : Nat), lo ≤ nx → look fr 2 = .ptr 0 0 0 → look fr 4 = .ptr rid 0 0 → look fr 5 = .ms oid → look fr 7 = .ptr sid 0 0 → look fr 48 = .pv (.int .i64 N) → look fr 49 = .pv (.int .i64 i) →
      (∀ k, k < lo → k ≠ rid → k ≠ sid → blkAt hp k = blkAt hp0 k) → blkAt hp rid = .var (rdC r) → blkAt hp sid = .var [u0, v, u2] → Own v hp 5 (acc.map loadC) lo nx → Wp T false (.loop f94l1) ⟨fr, hp, nx⟩ Q := by
  intro k
  induction k with
  | zero =>
    intro i acc r v hi ha ht hf fr hp nx hnx g2 g4 g5 g7 g25 g26 hF hb bs hO
    simp only [manyRd, List.append_nil] at ht hf
    subst ht hf
    have c : ¬ (i : Int) < (N : Int) := by omega
    rw [Wp_loop, Wp_eq f94l1.eq_1]
    simp only [runL, defL, binV, Nat.reduceEqDiff, Nat.reduceAdd, reduceCtorEq, Int.reduceToNat, Nat.reduceMul, Nat.reduceLT, Int.reduceNeg, Int.reduceLE, Int.reduceLT, Int.reduceEq, Nat.reduceLeDiff, List.drop, List.take, g4, g7, g25, g26, c]
    refine hend _ _ _ v hnx ?_ ?_ ?_ ?_ hF hb bs hO
    all_goals try simp only [look_if, blkAt_if, Nat.reduceEqDiff, if_true, if_false, g2, g4, g5, g7]
  | succ k ih =>
    intro i acc r v hi ha ht hf fr hp nx hnx g2 g4 g5 g7 g25 g26 hF hb bs hO
    have c : (i : Int) < (N : Int) := by omega
    have hw : IntKind.i64.wrap ((i : Int) + 1) = ((i + 1 : Nat) : Int) := by rw [wrap6] <;> omega
    simp only [manyRd] at ht hf
    rw [Wp_loop, Wp_eq f94l1.eq_1]
    simp only [runL, defL, binV, Nat.reduceEqDiff, Nat.reduceAdd, reduceCtorEq, Int.reduceToNat, Nat.reduceMul, Nat.reduceLT, Int.reduceNeg, Int.reduceLE, Int.reduceLT, Int.reduceEq, Nat.reduceLeDiff, List.drop, List.take, g4, g7, g25, g26, c]
    refine F.i.call (r := r) (by first | omega | (dsimp only; omega)) hb (fun hp1 nx1 p1 p2 p3 => ?_)
    dsimp only at p1 p2 p3
    simp only [runL, defL, binV, Nat.reduceEqDiff, Nat.reduceAdd, reduceCtorEq, Int.reduceToNat, Nat.reduceMul, Nat.reduceLT, Int.reduceNeg, Int.reduceLE, Int.reduceLT, Int.reduceEq, Nat.reduceLeDiff, List.drop, List.take, g4, g7]
    refine F.t.call (r := (intR r).2) (by first | omega | (dsimp only; omega)) p2 (fun hp2 nx2 q1 q2 q3 => ?_)
    dsimp only at q1 q2 q3
    have e1 : ¬ nx2 = rid := by omega
    simp only [runL, defL, binV, Nat.reduceEqDiff, Nat.reduceAdd, reduceCtorEq, Int.reduceToNat, Nat.reduceMul, Nat.reduceLT, Int.reduceNeg, Int.reduceLE, Int.reduceLT, Int.reduceEq, Nat.reduceLeDiff, List.drop, List.take, g4, g7]
    refine F.i.call (r := (truR (intR r).2).2) (by first | omega | (dsimp only; omega)) (by simp only [look_if, blkAt_if, Nat.reduceEqDiff, if_true, if_false, e1, q2]) (fun hp3 nx3 s1 s2 s3 => ?_)
    dsimp only at s1 s2 s3
    have x1 := s3 nx2 (by omega) (by omega)
    simp only [look_if, blkAt_if, Nat.reduceEqDiff, if_true, if_false] at x1
    simp only [runL, defL, binV, Nat.reduceEqDiff, Nat.reduceAdd, reduceCtorEq, Int.reduceToNat, Nat.reduceMul, Nat.reduceLT, Int.reduceNeg, Int.reduceLE, Int.reduceLT, Int.reduceEq, Nat.reduceLeDiff, List.drop, List.take, g4, g7, x1]
    refine F.i.call (r := (intR (truR (intR r).2).2).2) (by first | omega | (dsimp only; omega)) (by simp only [look_if, blkAt_if, Nat.reduceEqDiff, if_true, if_false, e1, s2]) (fun hp4 nx4 t1 t2 t3 => ?_)
    dsimp only at t1 t2 t3
    have y1 := t3 nx2 (by omega) (by omega)
    simp only [look_if, blkAt_if, Nat.reduceEqDiff, if_true, if_false] at y1
    simp only [runL, defL, binV, Nat.reduceEqDiff, Nat.reduceAdd, reduceCtorEq, Int.reduceToNat, Nat.reduceMul, Nat.reduceLT, Int.reduceNeg, Int.reduceLE, Int.reduceLT, Int.reduceEq, Nat.reduceLeDiff, List.drop, List.take, g4, g7, y1]
    refine F.i.call (r := (intR (intR (truR (intR r).2).2).2).2) (by first | omega | (dsimp only; omega)) (by simp only [look_if, blkAt_if, Nat.reduceEqDiff, if_true, if_false, e1, t2]) (fun hp5 nx5 w1 w2 w3 => ?_)
    dsimp only at w1 w2 w3
    have z1 := w3 nx2 (by omega) (by omega)
    simp only [look_if, blkAt_if, Nat.reduceEqDiff, if_true, if_false] at z1
    have f1 : ¬ nx2 = sid := by omega
    have FF : ∀ j, j < nx → j ≠ rid → blkAt hp5 j = blkAt hp j := fun j j1 j2 => by
      have j3 : ¬ nx2 = j := by omega
      have a0 := w3 j (by omega) j2
      have a1 := t3 j (by omega) j2
      have a2 := s3 j (by omega) j2
      have a3 := q3 j (by omega) j2
      have a4 := p3 j (by omega) j2
      simp only [look_if, blkAt_if, Nat.reduceEqDiff, if_true, if_false, j3] at a0 a1 a2 a3 a4
      rw [a0, a1, a2, a3, a4]
    have ysid := FF sid (by omega) (by omega)
    rw [bs] at ysid
    have hO4 : Own v ((nx2, .var (pvs (loadC (loadRd r).1))) :: hp5) 5 (acc.map loadC) lo nx5 := hO.mono (fun j j1 j2 => by
      have j3 : ¬ nx2 = j := by omega
      simp only [look_if, blkAt_if, Nat.reduceEqDiff, if_true, if_false, j3]
      exact FF j j2 (by omega)) (by omega)
    obtain ⟨v', W, n, a1, a2, a3⟩ := hO4.app1 (by omega) (loadC (loadRd r).1) (by rw [List.length_map]; omega)
    obtain ⟨vid, rfl, _⟩ := a3.id (by simp)
    have a1' := a1
    simp only [loadC, loadRd, pvs] at a1'
    have e4 : ¬ nx5 = nx2 := by omega
    have e6 : ¬ nx5 = sid := by omega
    have a2s := a2 sid hsid
    simp only [loadC, loadRd, pvs, look_if, blkAt_if, Nat.reduceEqDiff, if_true, if_false, f1, ysid] at a2s
    have m1 : ¬ sid = rid := by omega
    have a2r := a2 rid hrid
    simp only [loadC, loadRd, pvs, look_if, blkAt_if, Nat.reduceEqDiff, if_true, if_false, e1, w2] at a2r
    simp only [runL, defL, binV, Nat.reduceEqDiff, Nat.reduceAdd, reduceCtorEq, Int.reduceToNat, Nat.reduceMul, Nat.reduceLT, Int.reduceNeg, Int.reduceLE, Int.reduceLT, Int.reduceEq, Nat.reduceLeDiff, List.drop, List.take, g4, g7, g26, z1, ysid, f1, e4, e6, partsScal, srcV, chunk, allLen, List.all_cons, List.all_nil, a1', a2s, hw]
    refine ih (i + 1) (acc ++ [(loadRd r).1]) (loadRd r).2 (.ms vid) (by omega) (by simp [ha]) (by rw [← ht]; simp [List.append_assoc]) hf _ _ _ (by omega) ?_ ?_ ?_ ?_ ?_ ?_ (fun j j1 j2 j3 => ?_) ?_ ?_ ?_
    all_goals try simp only [look_if, blkAt_if, Nat.reduceEqDiff, if_true, if_false, g2, g4, g5, g7, g25, m1, a2r]
    · have h1 : ¬ sid = j := fun h => j3 h.symm
      have h2 : ¬ nx2 = j := by omega
      have := a2 j j1
      simp only [loadC, loadRd, pvs, look_if, blkAt_if, Nat.reduceEqDiff, if_true, if_false, h2] at this
      simp only [look_if, blkAt_if, Nat.reduceEqDiff, if_true, if_false, h1]
      rw [this, FF j (by omega) j2]
      exact hF j j1 j2 j3
    · rfl
    · rw [List.map_append]
      exact a3.low (i := sid) hsid (.var [u0, .ms vid, u2])
set_option maxRecDepth 100000 in
set_option maxHeartbeats 4000000 in
theorem snapR_l2 (F : Fx4 T) (N rid sid oid lo : Nat) (u0 u1 : AV) (hN : N ≤ 1000) (hrid : rid < lo) (hsid : sid < lo) (hrs : rid ≠ sid) (hp0 : Hl) (tot : List Pod) (fin : Rd) (Q : Exit → St → Prop)
    (hend : ∀ fr hp nx v, lo ≤ nx → look fr 2 = .ptr 0 0 0 → look fr 4 = .ptr rid 0 0 → look fr 5 = .ms oid → look fr 7 = .ptr sid 0 0 → (∀ k, k < lo → k ≠ rid → k ≠ sid → blkAt hp k = blkAt hp0 k) → blkAt hp rid = .var (rdC fin) → blkAt hp sid = .var [u0, u1, v] → Own v hp 8 (tot.map podC) lo nx → Q (.exit 4) ⟨fr, hp, nx⟩) :
    ∀ (k i : Nat) (acc : List Pod) (r : Rd) (v : AV), i + k = N → acc.length = i → acc ++ (manyRd podRd k r).1 = tot → (manyRd podRd k r).2 = fin → ∀ (fr : List (Nat × AV)) (hp : Hl) (nx : Nat), lo ≤ nx → look fr 2 = .ptr 0 0 0 → look fr 4 = .ptr rid 0 0 → look fr 5 = .ms oid → look fr 7 = .ptr sid 0 0 → look fr 74 = .pv (.int .i64 N) → look fr 75 = .pv (.int .i64 i) →
      (∀ k, k < lo → k ≠ rid → k ≠ sid → blkAt hp k = blkAt hp0 k) → blkAt hp rid = .var (rdC r) → blkAt hp sid = .var [u0, u1, v] → Own v hp 8 (acc.map podC) lo nx → Wp T false (.loop f94l2) ⟨fr, hp, nx⟩ Q := by
  intro k
  induction k with
  | zero =>
    intro i acc r v hi ha ht hf fr hp nx hnx g2 g4 g5 g7 g25 g26 hF hb bs hO
    simp only [manyRd, List.append_nil] at ht hf
    subst ht hf
    have c : ¬ (i : Int) < (N : Int) := by omega
    rw [Wp_loop, Wp_eq f94l2.eq_1]
    simp only [runL, defL, binV, Nat.reduceEqDiff, Nat.reduceAdd, reduceCtorEq, Int.reduceToNat, Nat.reduceMul, Nat.reduceLT, Int.reduceNeg, Int.reduceLE, Int.reduceLT, Int.reduceEq, Nat.reduceLeDiff, List.drop, List.take, g4, g7, g25, g26, c]
    refine hend _ _ _ v hnx ?_ ?_ ?_ ?_ hF hb bs hO
    all_goals try simp only [look_if, blkAt_if, Nat.reduceEqDiff, if_true, if_false, g2, g4, g5, g7]
  | succ k ih =>
    intro i acc r v hi ha ht hf fr hp nx hnx g2 g4 g5 g7 g25 g26 hF hb bs hO
    have c : (i : Int) < (N : Int) := by omega
    have hw : IntKind.i64.wrap ((i : Int) + 1) = ((i + 1 : Nat) : Int) := by rw [wrap6] <;> omega
    simp only [manyRd] at ht hf
    rw [Wp_loop, Wp_eq f94l2.eq_1]
    simp only [runL, defL, binV, Nat.reduceEqDiff, Nat.reduceAdd, reduceCtorEq, Int.reduceToNat, Nat.reduceMul, Nat.reduceLT, Int.reduceNeg, Int.reduceLE, Int.reduceLT, Int.reduceEq, Nat.reduceLeDiff, List.drop, List.take, g4, g7, g25, g26, c]
    refine F.i.call (r := r) (by first | omega | (dsimp only; omega)) hb (fun hp1 nx1 p1 p2 p3 => ?_)
    dsimp only at p1 p2 p3
    simp only [runL, defL, binV, Nat.reduceEqDiff, Nat.reduceAdd, reduceCtorEq, Int.reduceToNat, Nat.reduceMul, Nat.reduceLT, Int.reduceNeg, Int.reduceLE, Int.reduceLT, Int.reduceEq, Nat.reduceLeDiff, List.drop, List.take, g4, g7]
    refine F.i.call (r := (intR r).2) (by first | omega | (dsimp only; omega)) p2 (fun hp9 nx9 o1 o2 o3 => ?_)
    dsimp only at o1 o2 o3
    simp only [runL, defL, binV, Nat.reduceEqDiff, Nat.reduceAdd, reduceCtorEq, Int.reduceToNat, Nat.reduceMul, Nat.reduceLT, Int.reduceNeg, Int.reduceLE, Int.reduceLT, Int.reduceEq, Nat.reduceLeDiff, List.drop, List.take, g4, g7]
    refine F.i.call (r := (intR (intR r).2).2) (by first | omega | (dsimp only; omega)) o2 (fun hp2 nx2 q1 q2 q3 => ?_)
    dsimp only at q1 q2 q3
    have e1 : ¬ nx2 = rid := by omega
    simp only [runL, defL, binV, Nat.reduceEqDiff, Nat.reduceAdd, reduceCtorEq, Int.reduceToNat, Nat.reduceMul, Nat.reduceLT, Int.reduceNeg, Int.reduceLE, Int.reduceLT, Int.reduceEq, Nat.reduceLeDiff, List.drop, List.take, g4, g7]
    refine F.v.call (r := (intR (intR (intR r).2).2).2) (by first | omega | (dsimp only; omega)) (by simp only [look_if, blkAt_if, Nat.reduceEqDiff, if_true, if_false, e1, q2]) (fun hp3 nx3 s1 s2 s3 => ?_)
    dsimp only at s1 s2 s3
    have x1 := s3 nx2 (by omega) (by omega)
    simp only [look_if, blkAt_if, Nat.reduceEqDiff, if_true, if_false] at x1
    simp only [runL, defL, binV, Nat.reduceEqDiff, Nat.reduceAdd, reduceCtorEq, Int.reduceToNat, Nat.reduceMul, Nat.reduceLT, Int.reduceNeg, Int.reduceLE, Int.reduceLT, Int.reduceEq, Nat.reduceLeDiff, List.drop, List.take, g4, g7, x1, vecC]
    refine F.i.call (r := (vecR4 (intR (intR (intR r).2).2).2).2) (by first | omega | (dsimp only; omega)) (by simp only [look_if, blkAt_if, Nat.reduceEqDiff, if_true, if_false, e1, s2]) (fun hp4 nx4 t1 t2 t3 => ?_)
    dsimp only at t1 t2 t3
    have y1 := t3 nx2 (by omega) (by omega)
    simp only [look_if, blkAt_if, Nat.reduceEqDiff, if_true, if_false] at y1
    have f1 : ¬ nx2 = sid := by omega
    have FF : ∀ j, j < nx → j ≠ rid → blkAt hp4 j = blkAt hp j := fun j j1 j2 => by
      have j3 : ¬ nx2 = j := by omega
      have a1 := t3 j (by omega) j2
      have a2 := s3 j (by omega) j2
      have a3 := q3 j (by omega) j2
      have a5 := o3 j (by omega) j2
      have a4 := p3 j (by omega) j2
      simp only [look_if, blkAt_if, Nat.reduceEqDiff, if_true, if_false, j3] at a1 a2 a3 a4 a5
      rw [a1, a2, a3, a5, a4]
    have ysid := FF sid (by omega) (by omega)
    rw [bs] at ysid
    have hO4 : Own v ((nx2, .var (pvs (podC (podRd r).1))) :: hp4) 8 (acc.map podC) lo nx4 := hO.mono (fun j j1 j2 => by
      have j3 : ¬ nx2 = j := by omega
      simp only [look_if, blkAt_if, Nat.reduceEqDiff, if_true, if_false, j3]
      exact FF j j2 (by omega)) (by omega)
    obtain ⟨v', W, n, a1, a2, a3⟩ := hO4.app1 (by omega) (podC (podRd r).1) (by rw [List.length_map]; omega)
    obtain ⟨vid, rfl, _⟩ := a3.id (by simp)
    have a1' := a1
    simp only [podC, podRd, pvs] at a1'
    have e4 : ¬ nx4 = nx2 := by omega
    have e6 : ¬ nx4 = sid := by omega
    have a2s := a2 sid hsid
    simp only [podC, podRd, pvs, look_if, blkAt_if, Nat.reduceEqDiff, if_true, if_false, f1, ysid] at a2s
    have m1 : ¬ sid = rid := by omega
    have a2r := a2 rid hrid
    simp only [podC, podRd, pvs, look_if, blkAt_if, Nat.reduceEqDiff, if_true, if_false, e1, t2] at a2r
    simp only [runL, defL, binV, Nat.reduceEqDiff, Nat.reduceAdd, reduceCtorEq, Int.reduceToNat, Nat.reduceMul, Nat.reduceLT, Int.reduceNeg, Int.reduceLE, Int.reduceLT, Int.reduceEq, Nat.reduceLeDiff, List.drop, List.take, g4, g7, g26, y1, ysid, f1, e4, e6, partsScal, srcV, chunk, allLen, List.all_cons, List.all_nil, a1', a2s, hw]
    refine ih (i + 1) (acc ++ [(podRd r).1]) (podRd r).2 (.ms vid) (by omega) (by simp [ha]) (by rw [← ht]; simp [List.append_assoc]) hf _ _ _ (by omega) ?_ ?_ ?_ ?_ ?_ ?_ (fun j j1 j2 j3 => ?_) ?_ ?_ ?_
    all_goals try simp only [look_if, blkAt_if, Nat.reduceEqDiff, if_true, if_false, g2, g4, g5, g7, g25, m1, a2r]
    · have h1 : ¬ sid = j := fun h => j3 h.symm
      have h2 : ¬ nx2 = j := by omega
      have := a2 j j1
      simp only [podC, podRd, pvs, look_if, blkAt_if, Nat.reduceEqDiff, if_true, if_false, h2] at this
      simp only [look_if, blkAt_if, Nat.reduceEqDiff, if_true, if_false, h1]
      rw [this, FF j (by omega) j2]
      exact hF j j1 j2 j3
    · rfl
    · rw [List.map_append]
      exact a3.low (i := sid) hsid (.var [u0, u1, .ms vid])
end
end Go.Proofs.YtjmggjlfamjdbaaDoor.Ab
set_option linter.unusedVariables false
set_option linter.unusedSimpArgs false
namespace Go.Proofs.YtjmggjlfamjdbaaDoor.Ab
open Go
def snapsRd (n m k : Nat) (r : Rd) : Snap × Rd := (⟨(manyRd nodeRd n r).1, (manyRd loadRd m (manyRd nodeRd n r).2).1, (manyRd podRd k (manyRd loadRd m (manyRd nodeRd n r).2).2).1⟩, (manyRd podRd k (manyRd loadRd m (manyRd nodeRd n r).2).2).2)
def snapRd (b : List Nat) : PV ⊕ Snap := match begN b 0 [8, 8, 12] with
  | .inr (n :: m :: k :: _, rst) => if fineR (snapsRd n m k (rst, false)).2 = true then (match checkB (snapsRd n m k (rst, false)).1 with | some q => .inl (errG (some q)) | none => .inr (snapsRd n m k (rst, false)).1) else .inl (codeE 2)
  | .inl e => .inl e
  | .inr _ => .inl (codeE 2)
def rdNP : PV ⊕ Snap → PV
  | .inl e => .tuple [snapP ⟨[], [], []⟩, e]
  | .inr s => .tuple [snapP s, .nili]
theorem Own.cases {v : AV} {hp : Hl} {sz lo nx : Nat} {es : List (List PV)} (h : Own v hp sz es lo nx) : (v = .nils ∧ es = []) ∨ ∃ id, v = .ms id ∧ lo ≤ id ∧ id < nx ∧ blkAt hp id = .row sz es := by
  rcases h with ⟨a, b⟩ | h
  · exact .inl ⟨b, a⟩
  · exact .inr h
section
variable {T : Tab}
set_option maxRecDepth 100000 in
set_option maxHeartbeats 16000000 in
theorem readSnap_ok (S : Std4r T) (S3 : Std3 T) (f76 : T.flat 76 = false) (h94 : Std T 94 f94) (b : List Nat) (hb : U8 b) (hbl : b.length ≤ 1000000) : Gives T 94 [bytesP b] (rdNP (snapRd b)) := by
  refine gives h94 rfl ?_
  have F := fx4 S
  simp only [f94, runL, defL, binV, Nat.reduceEqDiff, Nat.reduceAdd, reduceCtorEq, Int.reduceToNat, Nat.reduceMul, Nat.reduceLT, Int.reduceNeg, Int.reduceLE, Int.reduceLT, Int.reduceEq, Nat.reduceLeDiff, List.drop, List.take, partsScal, chunk]
  refine begin_call S (bes := 0) (most := [8, 8, 12]) hb hbl (by omega) (by simp) (by simp) (by simp) (by dsimp only; omega) rfl (fun e he hp' nx' h1 h2 => ?_) (fun out rst he hp' nx' rid oid r1 r2 r3 r4 r5 r6 r7 r8 => ?_)
  · unfold snapRd
    rw [he]
    obtain ⟨t, x, rfl⟩ := begN_err he
    have b0 := h2 0 (by dsimp only; omega)
    simp only [runL, defL, binV, Nat.reduceEqDiff, Nat.reduceAdd, reduceCtorEq, Int.reduceToNat, Nat.reduceMul, Nat.reduceLT, Int.reduceNeg, Int.reduceLE, Int.reduceLT, Int.reduceEq, Nat.reduceLeDiff, List.drop, List.take] at b0
    simp only [runL, defL, binV, Nat.reduceEqDiff, Nat.reduceAdd, reduceCtorEq, Int.reduceToNat, Nat.reduceMul, Nat.reduceLT, Int.reduceNeg, Int.reduceLE, Int.reduceLT, Int.reduceEq, Nat.reduceLeDiff, List.drop, List.take, b0, rdNP, snapP, List.map_nil]
  · obtain ⟨l, e1, e2, e3, rfl, rfl⟩ := begN_out he
    obtain ⟨n, m, k, l', rfl⟩ : ∃ n m k l', l = n :: m :: k :: l' := by
      match l with
      | n :: m :: k :: l' => exact ⟨n, m, k, l', rfl⟩
      | [] | [_] | [_, _] => simp at e2
    have hR : snapRd b = if fineR (snapsRd n m k (l', false)).2 = true then (match checkB (snapsRd n m k (l', false)).1 with | some q => .inl (errG (some q)) | none => .inr (snapsRd n m k (l', false)).1) else .inl (codeE 2) := by
      unfold snapRd
      rw [he]
      rfl
    rw [hR]
    simp only [List.length_cons, List.length_nil, List.take_succ_cons, List.take_zero, Nat.zero_add, List.map_cons, List.map_nil, i64n] at r7
    have hn : n ≤ 8 ∧ m ≤ 8 ∧ k ≤ 12 := by simpa [boundB, and_assoc] using e3
    have b0 := r8 0 (by dsimp only; omega)
    simp only [runL, defL, binV, Nat.reduceEqDiff, Nat.reduceAdd, reduceCtorEq, Int.reduceToNat, Nat.reduceMul, Nat.reduceLT, Int.reduceNeg, Int.reduceLE, Int.reduceLT, Int.reduceEq, Nat.reduceLeDiff, List.drop, List.take] at b0
    dsimp only at r1 r3
    have c1 : ¬ nx' = oid := by omega
    have c2 : ¬ nx' = rid := by omega
    have c3 : ¬ nx' = 0 := by omega
    simp only [runL, defL, binV, Nat.reduceEqDiff, Nat.reduceAdd, reduceCtorEq, Int.reduceToNat, Nat.reduceMul, Nat.reduceLT, Int.reduceNeg, Int.reduceLE, Int.reduceLT, Int.reduceEq, Nat.reduceLeDiff, List.drop, List.take, r7, c1]
    obtain ⟨H0, hH0⟩ : ∃ H0 : Hl, H0 = (nx', Blk.var [AV.nils, AV.nils, AV.nils]) :: hp' := ⟨_, rfl⟩
    have H00 : blkAt H0 0 = .var [.nils, .nils, .nils] := by rw [hH0]; simp only [look_if, blkAt_if, Nat.reduceEqDiff, if_true, if_false, c3, b0]
    have H0o : blkAt H0 oid = .row 1 [[.int .i64 n], [.int .i64 m], [.int .i64 k]] := by rw [hH0]; simp only [look_if, blkAt_if, Nat.reduceEqDiff, if_true, if_false, c1, r7]
    refine snapR_l0 F n rid nx' oid (nx' + 1) .nils .nils (by omega) (by omega) (by omega) (by omega) H0 (snapsRd n m k (l', false)).1.nodes (manyRd nodeRd n (l', false)).2 _ (fun fr hp nx v0 hnx g2 g4 g5 g7 hF hb' bs hO0 => ?_) n 0 [] (l', false) .nils (by omega) rfl rfl rfl _ _ _ (Nat.le_refl _) rfl rfl rfl rfl rfl rfl (fun j j1 j2 j3 => by rw [hH0]) ?_ ?_ Own.nil
    · have ho := hF oid (by omega) (by omega) (by omega)
      rw [H0o] at ho
      simp only [runL, defL, binV, Nat.reduceEqDiff, Nat.reduceAdd, reduceCtorEq, Int.reduceToNat, Nat.reduceMul, Nat.reduceLT, Int.reduceNeg, Int.reduceLE, Int.reduceLT, Int.reduceEq, Nat.reduceLeDiff, List.drop, List.take, g5, ho]
      refine snapR_l1 F m rid nx' oid nx v0 .nils (by omega) (by omega) (by omega) (by omega) hp (snapsRd n m k (l', false)).1.loads (manyRd loadRd m (manyRd nodeRd n (l', false)).2).2 _ (fun fr hp1 nx1 v1 hnx1 g2 g4 g5 g7 hF1 hb1 bs1 hO1 => ?_) m 0 [] _ .nils (by omega) rfl rfl rfl _ _ _ (Nat.le_refl _) ?_ ?_ ?_ ?_ ?_ ?_ (fun j _ _ _ => rfl) hb' bs Own.nil
      · have ho1 := hF1 oid (by omega) (by omega) (by omega)
        rw [ho] at ho1
        simp only [runL, defL, binV, Nat.reduceEqDiff, Nat.reduceAdd, reduceCtorEq, Int.reduceToNat, Nat.reduceMul, Nat.reduceLT, Int.reduceNeg, Int.reduceLE, Int.reduceLT, Int.reduceEq, Nat.reduceLeDiff, List.drop, List.take, g5, ho1]
        refine snapR_l2 F k rid nx' oid nx1 v0 v1 (by omega) (by omega) (by omega) (by omega) hp1 (snapsRd n m k (l', false)).1.pods (snapsRd n m k (l', false)).2 _ (fun fr hp2 nx2 v2 hnx2 g2 g4 g5 g7 hF2 hb2 bs2 hO2 => ?_) k 0 [] _ .nils (by omega) rfl rfl rfl _ _ _ (Nat.le_refl _) ?_ ?_ ?_ ?_ ?_ ?_ (fun j _ _ _ => rfl) hb1 bs1 Own.nil
        · have b02 := hF2 0 (by omega) (by omega) (by omega)
          rw [hF1 0 (by omega) (by omega) (by omega), hF 0 (by omega) (by omega) (by omega), H00] at b02
          simp only [runL, defL, binV, Nat.reduceEqDiff, Nat.reduceAdd, reduceCtorEq, Int.reduceToNat, Nat.reduceMul, Nat.reduceLT, Int.reduceNeg, Int.reduceLE, Int.reduceLT, Int.reduceEq, Nat.reduceLeDiff, List.drop, List.take, g4]
          refine F.f.call (by first | omega | (dsimp only; omega)) hb2 (fun hp3 nx3 p1 p2 p3 => ?_)
          dsimp only at p1 p2 p3
          have b03 := p3 0 (by omega) (by omega)
          rw [b02] at b03
          have bs3 := p3 nx' (by omega) (by omega)
          rw [bs2] at bs3
          have hO0' : Own v0 hp3 10 ((snapsRd n m k (l', false)).1.nodes.map nodeC) (nx' + 1) nx := hO0.mono (fun j j1 j2 => by rw [p3 j (by omega) (by omega), hF2 j (by omega) (by omega) (by omega), hF1 j (by omega) (by omega) (by omega)]) (Nat.le_refl _)
          have hO1' : Own v1 hp3 5 ((snapsRd n m k (l', false)).1.loads.map loadC) nx nx1 := hO1.mono (fun j j1 j2 => by rw [p3 j (by omega) (by omega), hF2 j (by omega) (by omega) (by omega)]) (Nat.le_refl _)
          have hO2' : Own v2 hp3 8 ((snapsRd n m k (l', false)).1.pods.map podC) nx1 nx2 := hO2.mono (fun j j1 j2 => p3 j (by omega) (by omega)) (Nat.le_refl _)
          generalize snapsRd n m k (l', false) = R at *
          obtain ⟨s, r⟩ := R
          dsimp only at hO0' hO1' hO2' ⊢
          have kc := check3_ok S3 s
          simp only [snapP] at kc
          rcases Bool.eq_false_or_eq_true (fineR r) with hf | hf
          · rw [if_pos hf]
            have hcase : ∃ e out, Gives T 76 [.agg [.slice (s.nodes.map nodeC), .slice (s.loads.map loadC), .slice (s.pods.map podC)]] e ∧ rdNP (match checkB s with | some q => .inl (errG (some q)) | none => .inr s) = out ∧ ((e = .nili ∧ out = .tuple [.agg [.slice (s.nodes.map nodeC), .slice (s.loads.map loadC), .slice (s.pods.map podC)], .nili]) ∨ ∃ t x, e = .iface t x ∧ out = .tuple [.agg [.slice [], .slice [], .slice []], .iface t x]) := by
              refine ⟨_, _, kc, rfl, ?_⟩
              cases hq : checkB s with
              | none => exact .inl ⟨rfl, rfl⟩
              | some q =>
                obtain ⟨c, a⟩ := q
                refine .inr ?_
                by_cases ha : a < 0
                · simp only [errG, if_pos ha]; exact ⟨_, _, rfl, rfl⟩
                · simp only [errG, if_neg ha]; exact ⟨_, _, rfl, rfl⟩
            obtain ⟨e, out, kc, hout, hcase⟩ := hcase
            rw [hout]
            have y0 : ¬ 0 = nx' := by omega
            rcases hO0'.cases with ⟨rfl, z0⟩ | ⟨i0, rfl, w0, x0, d0⟩ <;> rcases hO1'.cases with ⟨rfl, z1⟩ | ⟨i1, rfl, w1, x1, d1⟩ <;> rcases hO2'.cases with ⟨rfl, z2⟩ | ⟨i2, rfl, w2, x2, d2⟩
            · rw [z0, z1, z2] at kc hcase
              rcases hcase with ⟨rfl, rfl⟩ | ⟨t, x, rfl, rfl⟩ <;> simp only [runL, defL, binV, Nat.reduceEqDiff, Nat.reduceAdd, reduceCtorEq, Int.reduceToNat, Nat.reduceMul, Nat.reduceLT, Int.reduceNeg, Int.reduceLE, Int.reduceLT, Int.reduceEq, Nat.reduceLeDiff, List.drop, List.take, g2, g7, bs3, b03, hf, kc.call, y0]
            · rw [z0, z1] at kc hcase
              have p2 : ¬ nx' = i2 := by omega
              have q2 : ¬ i2 = nx' := by omega
              have o2 : ¬ i2 = 0 := by omega
              have u2 : ¬ 0 = i2 := by omega
              simp only [runL, defL, binV, Nat.reduceEqDiff, Nat.reduceAdd, reduceCtorEq, Int.reduceToNat, Nat.reduceMul, Nat.reduceLT, Int.reduceNeg, Int.reduceLE, Int.reduceLT, Int.reduceEq, Nat.reduceLeDiff, List.drop, List.take, g2, g7, bs3, hf]
              refine kc.callY f76 ?_ ?_ ?_
              · simp only [runL, defL, binV, Nat.reduceEqDiff, Nat.reduceAdd, reduceCtorEq, Int.reduceToNat, Nat.reduceMul, Nat.reduceLT, Int.reduceNeg, Int.reduceLE, Int.reduceLT, Int.reduceEq, Nat.reduceLeDiff, List.drop, List.take]
              · simp only [frzAll, rowKeys, frzSs, frzS, frzF, frzH, frzB, frzV, frzVs, mkFun, blkAt, cond_true, cond_false, beq_self, runL, defL, binV, Nat.reduceEqDiff, Nat.reduceAdd, reduceCtorEq, Int.reduceToNat, Nat.reduceMul, Nat.reduceLT, Int.reduceNeg, Int.reduceLE, Int.reduceLT, Int.reduceEq, Nat.reduceLeDiff, List.drop, List.take, rowIdsL, rowIds, frzA, look_frz, blkAt_frz, p2, q2, o2, u2, d2]
              · rcases hcase with ⟨rfl, rfl⟩ | ⟨t, x, rfl, rfl⟩ <;> simp only [frzAll, rowKeys, frzSs, frzS, frzF, frzH, frzB, frzV, frzVs, mkFun, blkAt, cond_true, cond_false, beq_self, runL, defL, binV, Nat.reduceEqDiff, Nat.reduceAdd, reduceCtorEq, Int.reduceToNat, Nat.reduceMul, Nat.reduceLT, Int.reduceNeg, Int.reduceLE, Int.reduceLT, Int.reduceEq, Nat.reduceLeDiff, List.drop, List.take, rowIdsL, rowIds, frzA, look_frz, blkAt_frz, g2, g7, bs3, b03, y0, p2, q2, o2, u2, d2]
            · rw [z0, z2] at kc hcase
              have p1 : ¬ nx' = i1 := by omega
              have q1 : ¬ i1 = nx' := by omega
              have o1 : ¬ i1 = 0 := by omega
              have u1 : ¬ 0 = i1 := by omega
              simp only [runL, defL, binV, Nat.reduceEqDiff, Nat.reduceAdd, reduceCtorEq, Int.reduceToNat, Nat.reduceMul, Nat.reduceLT, Int.reduceNeg, Int.reduceLE, Int.reduceLT, Int.reduceEq, Nat.reduceLeDiff, List.drop, List.take, g2, g7, bs3, hf]
              refine kc.callY f76 ?_ ?_ ?_
              · simp only [runL, defL, binV, Nat.reduceEqDiff, Nat.reduceAdd, reduceCtorEq, Int.reduceToNat, Nat.reduceMul, Nat.reduceLT, Int.reduceNeg, Int.reduceLE, Int.reduceLT, Int.reduceEq, Nat.reduceLeDiff, List.drop, List.take]
              · simp only [frzAll, rowKeys, frzSs, frzS, frzF, frzH, frzB, frzV, frzVs, mkFun, blkAt, cond_true, cond_false, beq_self, runL, defL, binV, Nat.reduceEqDiff, Nat.reduceAdd, reduceCtorEq, Int.reduceToNat, Nat.reduceMul, Nat.reduceLT, Int.reduceNeg, Int.reduceLE, Int.reduceLT, Int.reduceEq, Nat.reduceLeDiff, List.drop, List.take, rowIdsL, rowIds, frzA, look_frz, blkAt_frz, p1, q1, o1, u1, d1]
              · rcases hcase with ⟨rfl, rfl⟩ | ⟨t, x, rfl, rfl⟩ <;> simp only [frzAll, rowKeys, frzSs, frzS, frzF, frzH, frzB, frzV, frzVs, mkFun, blkAt, cond_true, cond_false, beq_self, runL, defL, binV, Nat.reduceEqDiff, Nat.reduceAdd, reduceCtorEq, Int.reduceToNat, Nat.reduceMul, Nat.reduceLT, Int.reduceNeg, Int.reduceLE, Int.reduceLT, Int.reduceEq, Nat.reduceLeDiff, List.drop, List.take, rowIdsL, rowIds, frzA, look_frz, blkAt_frz, g2, g7, bs3, b03, y0, p1, q1, o1, u1, d1]
            · rw [z0] at kc hcase
              have p1 : ¬ nx' = i1 := by omega
              have q1 : ¬ i1 = nx' := by omega
              have o1 : ¬ i1 = 0 := by omega
              have u1 : ¬ 0 = i1 := by omega
              have n12 : ¬ i1 = i2 := by omega
              have p2 : ¬ nx' = i2 := by omega
              have q2 : ¬ i2 = nx' := by omega
              have o2 : ¬ i2 = 0 := by omega
              have u2 : ¬ 0 = i2 := by omega
              have n21 : ¬ i2 = i1 := by omega
              simp only [runL, defL, binV, Nat.reduceEqDiff, Nat.reduceAdd, reduceCtorEq, Int.reduceToNat, Nat.reduceMul, Nat.reduceLT, Int.reduceNeg, Int.reduceLE, Int.reduceLT, Int.reduceEq, Nat.reduceLeDiff, List.drop, List.take, g2, g7, bs3, hf]
              refine kc.callY f76 ?_ ?_ ?_
              · simp only [runL, defL, binV, Nat.reduceEqDiff, Nat.reduceAdd, reduceCtorEq, Int.reduceToNat, Nat.reduceMul, Nat.reduceLT, Int.reduceNeg, Int.reduceLE, Int.reduceLT, Int.reduceEq, Nat.reduceLeDiff, List.drop, List.take]
              · simp only [frzAll, rowKeys, frzSs, frzS, frzF, frzH, frzB, frzV, frzVs, mkFun, blkAt, cond_true, cond_false, beq_self, runL, defL, binV, Nat.reduceEqDiff, Nat.reduceAdd, reduceCtorEq, Int.reduceToNat, Nat.reduceMul, Nat.reduceLT, Int.reduceNeg, Int.reduceLE, Int.reduceLT, Int.reduceEq, Nat.reduceLeDiff, List.drop, List.take, rowIdsL, rowIds, frzA, look_frz, blkAt_frz, p1, q1, o1, u1, d1, n12, p2, q2, o2, u2, d2, n21]
              · rcases hcase with ⟨rfl, rfl⟩ | ⟨t, x, rfl, rfl⟩ <;> simp only [frzAll, rowKeys, frzSs, frzS, frzF, frzH, frzB, frzV, frzVs, mkFun, blkAt, cond_true, cond_false, beq_self, runL, defL, binV, Nat.reduceEqDiff, Nat.reduceAdd, reduceCtorEq, Int.reduceToNat, Nat.reduceMul, Nat.reduceLT, Int.reduceNeg, Int.reduceLE, Int.reduceLT, Int.reduceEq, Nat.reduceLeDiff, List.drop, List.take, rowIdsL, rowIds, frzA, look_frz, blkAt_frz, g2, g7, bs3, b03, y0, p1, q1, o1, u1, d1, n12, p2, q2, o2, u2, d2, n21]
            · rw [z1, z2] at kc hcase
              have p0 : ¬ nx' = i0 := by omega
              have q0 : ¬ i0 = nx' := by omega
              have o0 : ¬ i0 = 0 := by omega
              have u0 : ¬ 0 = i0 := by omega
              simp only [runL, defL, binV, Nat.reduceEqDiff, Nat.reduceAdd, reduceCtorEq, Int.reduceToNat, Nat.reduceMul, Nat.reduceLT, Int.reduceNeg, Int.reduceLE, Int.reduceLT, Int.reduceEq, Nat.reduceLeDiff, List.drop, List.take, g2, g7, bs3, hf]
              refine kc.callY f76 ?_ ?_ ?_
              · simp only [runL, defL, binV, Nat.reduceEqDiff, Nat.reduceAdd, reduceCtorEq, Int.reduceToNat, Nat.reduceMul, Nat.reduceLT, Int.reduceNeg, Int.reduceLE, Int.reduceLT, Int.reduceEq, Nat.reduceLeDiff, List.drop, List.take]
              · simp only [frzAll, rowKeys, frzSs, frzS, frzF, frzH, frzB, frzV, frzVs, mkFun, blkAt, cond_true, cond_false, beq_self, runL, defL, binV, Nat.reduceEqDiff, Nat.reduceAdd, reduceCtorEq, Int.reduceToNat, Nat.reduceMul, Nat.reduceLT, Int.reduceNeg, Int.reduceLE, Int.reduceLT, Int.reduceEq, Nat.reduceLeDiff, List.drop, List.take, rowIdsL, rowIds, frzA, look_frz, blkAt_frz, p0, q0, o0, u0, d0]
              · rcases hcase with ⟨rfl, rfl⟩ | ⟨t, x, rfl, rfl⟩ <;> simp only [frzAll, rowKeys, frzSs, frzS, frzF, frzH, frzB, frzV, frzVs, mkFun, blkAt, cond_true, cond_false, beq_self, runL, defL, binV, Nat.reduceEqDiff, Nat.reduceAdd, reduceCtorEq, Int.reduceToNat, Nat.reduceMul, Nat.reduceLT, Int.reduceNeg, Int.reduceLE, Int.reduceLT, Int.reduceEq, Nat.reduceLeDiff, List.drop, List.take, rowIdsL, rowIds, frzA, look_frz, blkAt_frz, g2, g7, bs3, b03, y0, p0, q0, o0, u0, d0]
            · rw [z1] at kc hcase
              have p0 : ¬ nx' = i0 := by omega
              have q0 : ¬ i0 = nx' := by omega
              have o0 : ¬ i0 = 0 := by omega
              have u0 : ¬ 0 = i0 := by omega
              have n02 : ¬ i0 = i2 := by omega
              have p2 : ¬ nx' = i2 := by omega
              have q2 : ¬ i2 = nx' := by omega
              have o2 : ¬ i2 = 0 := by omega
              have u2 : ¬ 0 = i2 := by omega
              have n20 : ¬ i2 = i0 := by omega
              simp only [runL, defL, binV, Nat.reduceEqDiff, Nat.reduceAdd, reduceCtorEq, Int.reduceToNat, Nat.reduceMul, Nat.reduceLT, Int.reduceNeg, Int.reduceLE, Int.reduceLT, Int.reduceEq, Nat.reduceLeDiff, List.drop, List.take, g2, g7, bs3, hf]
              refine kc.callY f76 ?_ ?_ ?_
              · simp only [runL, defL, binV, Nat.reduceEqDiff, Nat.reduceAdd, reduceCtorEq, Int.reduceToNat, Nat.reduceMul, Nat.reduceLT, Int.reduceNeg, Int.reduceLE, Int.reduceLT, Int.reduceEq, Nat.reduceLeDiff, List.drop, List.take]
              · simp only [frzAll, rowKeys, frzSs, frzS, frzF, frzH, frzB, frzV, frzVs, mkFun, blkAt, cond_true, cond_false, beq_self, runL, defL, binV, Nat.reduceEqDiff, Nat.reduceAdd, reduceCtorEq, Int.reduceToNat, Nat.reduceMul, Nat.reduceLT, Int.reduceNeg, Int.reduceLE, Int.reduceLT, Int.reduceEq, Nat.reduceLeDiff, List.drop, List.take, rowIdsL, rowIds, frzA, look_frz, blkAt_frz, p0, q0, o0, u0, d0, n02, p2, q2, o2, u2, d2, n20]
              · rcases hcase with ⟨rfl, rfl⟩ | ⟨t, x, rfl, rfl⟩ <;> simp only [frzAll, rowKeys, frzSs, frzS, frzF, frzH, frzB, frzV, frzVs, mkFun, blkAt, cond_true, cond_false, beq_self, runL, defL, binV, Nat.reduceEqDiff, Nat.reduceAdd, reduceCtorEq, Int.reduceToNat, Nat.reduceMul, Nat.reduceLT, Int.reduceNeg, Int.reduceLE, Int.reduceLT, Int.reduceEq, Nat.reduceLeDiff, List.drop, List.take, rowIdsL, rowIds, frzA, look_frz, blkAt_frz, g2, g7, bs3, b03, y0, p0, q0, o0, u0, d0, n02, p2, q2, o2, u2, d2, n20]
            · rw [z2] at kc hcase
              have p0 : ¬ nx' = i0 := by omega
              have q0 : ¬ i0 = nx' := by omega
              have o0 : ¬ i0 = 0 := by omega
              have u0 : ¬ 0 = i0 := by omega
              have n01 : ¬ i0 = i1 := by omega
              have p1 : ¬ nx' = i1 := by omega
              have q1 : ¬ i1 = nx' := by omega
              have o1 : ¬ i1 = 0 := by omega
              have u1 : ¬ 0 = i1 := by omega
              have n10 : ¬ i1 = i0 := by omega
              simp only [runL, defL, binV, Nat.reduceEqDiff, Nat.reduceAdd, reduceCtorEq, Int.reduceToNat, Nat.reduceMul, Nat.reduceLT, Int.reduceNeg, Int.reduceLE, Int.reduceLT, Int.reduceEq, Nat.reduceLeDiff, List.drop, List.take, g2, g7, bs3, hf]
              refine kc.callY f76 ?_ ?_ ?_
              · simp only [runL, defL, binV, Nat.reduceEqDiff, Nat.reduceAdd, reduceCtorEq, Int.reduceToNat, Nat.reduceMul, Nat.reduceLT, Int.reduceNeg, Int.reduceLE, Int.reduceLT, Int.reduceEq, Nat.reduceLeDiff, List.drop, List.take]
              · simp only [frzAll, rowKeys, frzSs, frzS, frzF, frzH, frzB, frzV, frzVs, mkFun, blkAt, cond_true, cond_false, beq_self, runL, defL, binV, Nat.reduceEqDiff, Nat.reduceAdd, reduceCtorEq, Int.reduceToNat, Nat.reduceMul, Nat.reduceLT, Int.reduceNeg, Int.reduceLE, Int.reduceLT, Int.reduceEq, Nat.reduceLeDiff, List.drop, List.take, rowIdsL, rowIds, frzA, look_frz, blkAt_frz, p0, q0, o0, u0, d0, n01, p1, q1, o1, u1, d1, n10]
              · rcases hcase with ⟨rfl, rfl⟩ | ⟨t, x, rfl, rfl⟩ <;> simp only [frzAll, rowKeys, frzSs, frzS, frzF, frzH, frzB, frzV, frzVs, mkFun, blkAt, cond_true, cond_false, beq_self, runL, defL, binV, Nat.reduceEqDiff, Nat.reduceAdd, reduceCtorEq, Int.reduceToNat, Nat.reduceMul, Nat.reduceLT, Int.reduceNeg, Int.reduceLE, Int.reduceLT, Int.reduceEq, Nat.reduceLeDiff, List.drop, List.take, rowIdsL, rowIds, frzA, look_frz, blkAt_frz, g2, g7, bs3, b03, y0, p0, q0, o0, u0, d0, n01, p1, q1, o1, u1, d1, n10]
            · skip
              have p0 : ¬ nx' = i0 := by omega
              have q0 : ¬ i0 = nx' := by omega
              have o0 : ¬ i0 = 0 := by omega
              have u0 : ¬ 0 = i0 := by omega
              have n01 : ¬ i0 = i1 := by omega
              have n02 : ¬ i0 = i2 := by omega
              have p1 : ¬ nx' = i1 := by omega
              have q1 : ¬ i1 = nx' := by omega
              have o1 : ¬ i1 = 0 := by omega
              have u1 : ¬ 0 = i1 := by omega
              have n10 : ¬ i1 = i0 := by omega
              have n12 : ¬ i1 = i2 := by omega
              have p2 : ¬ nx' = i2 := by omega
              have q2 : ¬ i2 = nx' := by omega
              have o2 : ¬ i2 = 0 := by omega
              have u2 : ¬ 0 = i2 := by omega
              have n20 : ¬ i2 = i0 := by omega
              have n21 : ¬ i2 = i1 := by omega
              simp only [runL, defL, binV, Nat.reduceEqDiff, Nat.reduceAdd, reduceCtorEq, Int.reduceToNat, Nat.reduceMul, Nat.reduceLT, Int.reduceNeg, Int.reduceLE, Int.reduceLT, Int.reduceEq, Nat.reduceLeDiff, List.drop, List.take, g2, g7, bs3, hf]
              refine kc.callY f76 ?_ ?_ ?_
              · simp only [runL, defL, binV, Nat.reduceEqDiff, Nat.reduceAdd, reduceCtorEq, Int.reduceToNat, Nat.reduceMul, Nat.reduceLT, Int.reduceNeg, Int.reduceLE, Int.reduceLT, Int.reduceEq, Nat.reduceLeDiff, List.drop, List.take]
              · simp only [frzAll, rowKeys, frzSs, frzS, frzF, frzH, frzB, frzV, frzVs, mkFun, blkAt, cond_true, cond_false, beq_self, runL, defL, binV, Nat.reduceEqDiff, Nat.reduceAdd, reduceCtorEq, Int.reduceToNat, Nat.reduceMul, Nat.reduceLT, Int.reduceNeg, Int.reduceLE, Int.reduceLT, Int.reduceEq, Nat.reduceLeDiff, List.drop, List.take, rowIdsL, rowIds, frzA, look_frz, blkAt_frz, p0, q0, o0, u0, d0, n01, n02, p1, q1, o1, u1, d1, n10, n12, p2, q2, o2, u2, d2, n20, n21]
              · rcases hcase with ⟨rfl, rfl⟩ | ⟨t, x, rfl, rfl⟩ <;> simp only [frzAll, rowKeys, frzSs, frzS, frzF, frzH, frzB, frzV, frzVs, mkFun, blkAt, cond_true, cond_false, beq_self, runL, defL, binV, Nat.reduceEqDiff, Nat.reduceAdd, reduceCtorEq, Int.reduceToNat, Nat.reduceMul, Nat.reduceLT, Int.reduceNeg, Int.reduceLE, Int.reduceLT, Int.reduceEq, Nat.reduceLeDiff, List.drop, List.take, rowIdsL, rowIds, frzA, look_frz, blkAt_frz, g2, g7, bs3, b03, y0, p0, q0, o0, u0, d0, n01, n02, p1, q1, o1, u1, d1, n10, n12, p2, q2, o2, u2, d2, n20, n21]
          · rw [if_neg (by rw [hf]; decide)]
            simp only [runL, defL, binV, Nat.reduceEqDiff, Nat.reduceAdd, reduceCtorEq, Int.reduceToNat, Nat.reduceMul, Nat.reduceLT, Int.reduceNeg, Int.reduceLE, Int.reduceLT, Int.reduceEq, Nat.reduceLeDiff, List.drop, List.take, g2, b03, rdNP, snapP, codeE, List.map_nil, hf]
        all_goals try simp only [look_if, blkAt_if, Nat.reduceEqDiff, if_true, if_false, g2, g4, g5, g7]
        all_goals rfl
      all_goals try simp only [look_if, blkAt_if, Nat.reduceEqDiff, if_true, if_false, g2, g4, g5, g7]
      all_goals rfl
    · simp only [look_if, blkAt_if, Nat.reduceEqDiff, if_true, if_false, c2, r6]
      rfl
    · simp only [look_if, blkAt_if, Nat.reduceEqDiff, if_true, if_false]
end
end Go.Proofs.YtjmggjlfamjdbaaDoor.Ab
set_option linter.unusedVariables false
set_option linter.unusedSimpArgs false
namespace Go.Proofs.YtjmggjlfamjdbaaDoor.Ab
open Go
def wantN (w : Want) : List Nat := [toU w.pod] ++ vecL w.req ++ [toU (truI w.stay)]
def wantsF (acc : List Nat) : List Want → Option (List Nat)
  | [] => some acc
  | w :: r => if smallI w.pod = true then wantsF (acc ++ wantN w) r else none
def specN (x : Spec) : Option (List Nat) := if 12 < x.wants.length then none else if (smallI x.pre && smallI x.shi) = true then wantsF [toU x.wants.length, toU x.pre, toU x.shi] x.wants else none
theorem wantsF_len : ∀ (l : List Want) (acc tot : List Nat), wantsF acc l = some tot → tot.length = acc.length + 6 * l.length
  | [], acc, tot, h => by simp only [wantsF, Option.some.injEq] at h; subst h; rfl
  | m :: r, acc, tot, h => by
    unfold wantsF at h
    split at h
    · rw [wantsF_len r _ _ h]
      simp [wantN, vecL]
      omega
    · simp at h
theorem U64_vecL (v : Vec) : U64 (vecL v) := fun n hn => by
  simp only [vecL, List.mem_cons, List.not_mem_nil, or_false] at hn
  rcases hn with rfl | rfl | rfl | rfl <;> exact toU_lt _
theorem U64_1 (n : Int) : U64 [toU n] := fun m hm => by
  simp only [List.mem_singleton] at hm
  subst hm
  exact toU_lt _
theorem wantsF_u64 : ∀ (l : List Want) (acc tot : List Nat), U64 acc → wantsF acc l = some tot → U64 tot
  | [], acc, tot, ha, h => by simp only [wantsF, Option.some.injEq] at h; subst h; exact ha
  | m :: r, acc, tot, ha, h => by
    unfold wantsF at h
    split at h
    · exact wantsF_u64 r _ _ (U64_app ha (U64_app (U64_app (U64_1 _) (U64_vecL _)) (U64_1 _))) h
    · simp at h
section
variable {T : Tab}
set_option maxRecDepth 100000 in
set_option maxHeartbeats 4000000 in
theorem specW_loop (S : Std4w T) (l : List Want) (hwf : ∀ w ∈ l, w.wf) (hl : l.length ≤ 12) (Q : Exit → St → Prop) (o : Option (List Nat))
    (hend : ∀ tot, o = some tot → ∀ fr hp nx v, look fr 4 = .ptr 2 0 0 → blkAt hp 2 = .var [v] → Own v hp 1 (tot.map u64C) 3 nx → Q (.exit 0) ⟨fr, hp, nx⟩)
    (hret : o = none → ∀ fr hp nx, look fr 2 = .nils → look fr 3 = .pv (codeE 1) → Q .ret ⟨fr, hp, nx⟩) :
    ∀ (rest : List Want) (i : Nat) (acc : List Nat) (v : AV), l.drop i = rest → i ≤ l.length → acc.length ≤ 3 + 6 * i → wantsF acc rest = o → ∀ (fr : List (Nat × AV)) (hp : Hl) (nx : Nat), 3 ≤ nx → look fr 4 = .ptr 2 0 0 → look fr 34 = .pv (.slice (l.map wantC)) → look fr 35 = .pv (.int .i64 l.length) → look fr 36 = .pv (.int .i64 i) →
      blkAt hp 2 = .var [v] → Own v hp 1 (acc.map u64C) 3 nx → Wp T false (.loop f97l0) ⟨fr, hp, nx⟩ Q := by
  intro rest
  induction rest with
  | nil =>
    intro i acc v hd hi ha ho fr hp nx hnx g4 g18 g19 g20 b0 hO
    have hlen := drop_nil hd hi
    simp only [wantsF] at ho
    rw [Wp_loop, Wp_eq f97l0.eq_1]
    simp only [runL, defL, binV, Nat.reduceEqDiff, Nat.reduceAdd, reduceCtorEq, Int.reduceToNat, Nat.reduceMul, Nat.reduceLT, Int.reduceNeg, Int.reduceLE, Int.reduceLT, Int.reduceEq, Nat.reduceLeDiff, List.drop, List.take, g4, g18, g19, g20, hlen, Int.lt_irrefl]
    refine hend acc ho.symm _ _ _ v ?_ b0 hO
    all_goals try simp only [look_if, blkAt_if, Nat.reduceEqDiff, if_true, if_false, g4]
  | cons w r ih =>
    intro i acc v hd hi ha ho fr hp nx hnx g4 g18 g19 g20 b0 hO
    obtain ⟨hget, hlt, hw, hd', hi', hb⟩ := drop_cons hd (by omega)
    have hww := hwf w (List.mem_of_getElem? hget)
    have ks := small_ok S.h99 [w.pod] (by simp)
    simp only [List.map_cons, List.map_nil, i64c] at ks
    have kt := truth_ok S.h100 w.stay
    have n0 : ¬ nx = 2 := by omega
    unfold wantsF at ho
    rw [Wp_loop, Wp_eq f97l0.eq_1]
    cases hm : smallI w.pod with
    | false =>
      have hm' : [w.pod].all smallI = false := by simp only [List.all_cons, List.all_nil, hm, Bool.false_and]
      rw [hm] at ho
      rw [hm'] at ks
      simp only [runL, defL, binV, Nat.reduceEqDiff, Nat.reduceAdd, reduceCtorEq, Int.reduceToNat, Nat.reduceMul, Nat.reduceLT, Int.reduceNeg, Int.reduceLE, Int.reduceLT, Int.reduceEq, Nat.reduceLeDiff, List.drop, List.take, g4, g18, g19, g20, hlt, hget, wantC, n0, partsScal, chunk, ks.callF S.f99 rfl]
      refine hret (by simpa using ho.symm) _ _ _ ?_ ?_
      all_goals try simp only [look_if, blkAt_if, Nat.reduceEqDiff, if_true, if_false, codeE]
    | true =>
      have hm' : [w.pod].all smallI = true := by simp only [List.all_cons, List.all_nil, hm, Bool.and_true]
      rw [hm] at ho
      rw [hm'] at ks
      simp only [if_true] at ho
      simp only [runL, defL, binV, Nat.reduceEqDiff, Nat.reduceAdd, reduceCtorEq, Int.reduceToNat, Nat.reduceMul, Nat.reduceLT, Int.reduceNeg, Int.reduceLE, Int.reduceLT, Int.reduceEq, Nat.reduceLeDiff, List.drop, List.take, g4, g18, g19, g20, hlt, hget, wantC, n0, partsScal, chunk, ks.callF S.f99 rfl]
      refine ints_call S.h22 (lo := 3) (m := nx) (v := v) (acc := acc) (l := [w.pod]) (by omega) (by omega) (by omega) (by first | omega | (dsimp only; omega)) ?_ ?_ ?_ (by simp) (by simp) (by omega) (fun v1 hp1 nx1 p1 p2 p3 p4 => ?_)
      · simp only [look_if, blkAt_if, Nat.reduceEqDiff, if_true, if_false, n0, b0, (show ¬ nx + 1 = 2 by omega), (show ¬ nx + 1 + 1 = 2 by omega)]
      · exact (((hO.over (.inr (by omega))).over (.inr (by omega))).over (.inr (by omega))).over (.inr (by omega))
      · simp only [look_if, blkAt_if, Nat.reduceEqDiff, if_true, if_false, List.map_cons, List.map_nil, i64c]
      · dsimp only at p1 p3 p4
        have x1 := p4 nx (by omega) (by omega) (.inr (Nat.le_refl _))
        simp only [runL, defL, binV, Nat.reduceEqDiff, Nat.reduceAdd, reduceCtorEq, Int.reduceToNat, Nat.reduceMul, Nat.reduceLT, Int.reduceNeg, Int.reduceLE, Int.reduceLT, Int.reduceEq, Nat.reduceLeDiff, List.drop, List.take, (show ¬ nx + 1 = nx by omega), (show ¬ nx + 1 + 1 = nx by omega)] at x1
        simp only [runL, defL, binV, Nat.reduceEqDiff, Nat.reduceAdd, reduceCtorEq, Int.reduceToNat, Nat.reduceMul, Nat.reduceLT, Int.reduceNeg, Int.reduceLE, Int.reduceLT, Int.reduceEq, Nat.reduceLeDiff, List.drop, List.take, g4, x1]
        refine vec_call S.h23 hww.2 (lo := nx + 1) (m := nx1) (v := v1) (acc := acc ++ [w.pod].map toU) (by omega) (by omega) (by first | omega | (dsimp only; omega)) p2 (p3.wide (by omega)) (by simp; omega) (fun v2 hp2 nx2 q1 q2 q3 q4 => ?_)
        dsimp only at q1 q3 q4
        have x2 := q4 nx (by omega) (by omega) (.inl (by omega))
        rw [x1] at x2
        simp only [runL, defL, binV, Nat.reduceEqDiff, Nat.reduceAdd, reduceCtorEq, Int.reduceToNat, Nat.reduceMul, Nat.reduceLT, Int.reduceNeg, Int.reduceLE, Int.reduceLT, Int.reduceEq, Nat.reduceLeDiff, List.drop, List.take, g4, x2, kt.call, partsScal, chunk]
        refine ints_call S.h22 (lo := nx + 1) (m := nx2) (v := v2) (acc := acc ++ [w.pod].map toU ++ vecL w.req) (l := [truI w.stay]) (by omega) (by omega) (by first | omega | (dsimp only; omega)) (by first | omega | (dsimp only; omega)) ?_ ?_ ?_ (by simp) (by simp) (by simp [vecL]; omega) (fun v3 hp3 nx3 s1 s2 s3 s4 => ?_)
        · simp only [look_if, blkAt_if, Nat.reduceEqDiff, if_true, if_false, q2, (show ¬ nx2 = 2 by omega)]
        · exact (q3.wide (by omega)).over (.inr (by omega))
        · simp only [look_if, blkAt_if, Nat.reduceEqDiff, if_true, if_false, List.map_cons, List.map_nil, i64c]
        · dsimp only at s1 s3 s4
          simp only [runL, defL, binV, Nat.reduceEqDiff, Nat.reduceAdd, reduceCtorEq, Int.reduceToNat, Nat.reduceMul, Nat.reduceLT, Int.reduceNeg, Int.reduceLE, Int.reduceLT, Int.reduceEq, Nat.reduceLeDiff, List.drop, List.take, g20, hw]
          refine ih (i + 1) _ v3 hd' hi' ?_ ho _ _ _ (by omega) ?_ ?_ ?_ ?_ s2 ?_
          · simp [wantN, vecL]; omega
          all_goals try simp only [look_if, blkAt_if, Nat.reduceEqDiff, if_true, if_false, g4, g18, g19]
          · have := s3.wide (lo' := 3) (by omega)
            simpa only [wantN, List.map_cons, List.map_nil, List.append_assoc] using this
set_option maxRecDepth 100000 in
set_option maxHeartbeats 4000000 in
theorem specW_ok (S : Std4w T) (h97 : Std T 97 f97) (x : Spec) (hx : x.wf) (hl : x.wants.length ≤ 1000) : Gives T 97 [specP x] (wrP (specN x)) := by
  refine gives h97 rfl ?_
  unfold specN
  have ks := small_ok S.h99 [x.pre, x.shi] (by simp)
  simp only [List.map_cons, List.map_nil, i64c] at ks
  by_cases c1 : 12 < x.wants.length
  · have c1' : (12 : Int) < (x.wants.length : Int) := by omega
    rw [if_pos c1]
    simp only [f97, runL, defL, binV, Nat.reduceEqDiff, Nat.reduceAdd, reduceCtorEq, Int.reduceToNat, Nat.reduceMul, Nat.reduceLT, Int.reduceNeg, Int.reduceLE, Int.reduceLT, Int.reduceEq, Nat.reduceLeDiff, List.drop, List.take, specP, c1', wrP, codeE]
  · have c1' : ¬ (12 : Int) < (x.wants.length : Int) := by omega
    rw [if_neg c1]
    rcases Bool.eq_false_or_eq_true (smallI x.pre && smallI x.shi) with hm | hm
    · have hm' : [x.pre, x.shi].all smallI = true := by simpa only [List.all_cons, List.all_nil, Bool.and_true] using hm
      rw [if_pos hm]
      rw [hm'] at ks
      simp only [f97, runL, defL, binV, Nat.reduceEqDiff, Nat.reduceAdd, reduceCtorEq, Int.reduceToNat, Nat.reduceMul, Nat.reduceLT, Int.reduceNeg, Int.reduceLE, Int.reduceLT, Int.reduceEq, Nat.reduceLeDiff, List.drop, List.take, specP, c1', partsScal, chunk, ks.callF S.f99 rfl]
      refine ints_call S.h22 (lo := 3) (m := 3) (v := .nils) (acc := []) (l := [(x.wants.length : Int), x.pre, x.shi]) (by omega) (by omega) (by omega) (by first | omega | (dsimp only; omega)) rfl Own.nil rfl (by simp) (by simp) (by simp) (fun v' hp' nx' h1 h2 h3 h4 => ?_)
      dsimp only at h1 h3 h4
      have hb0 := h4 0 (by omega) (by omega) (.inl (by omega))
      simp only [runL, defL, binV, Nat.reduceEqDiff, Nat.reduceAdd, reduceCtorEq, Int.reduceToNat, Nat.reduceMul, Nat.reduceLT, Int.reduceNeg, Int.reduceLE, Int.reduceLT, Int.reduceEq, Nat.reduceLeDiff, List.drop, List.take] at hb0
      simp only [runL, defL, binV, Nat.reduceEqDiff, Nat.reduceAdd, reduceCtorEq, Int.reduceToNat, Nat.reduceMul, Nat.reduceLT, Int.reduceNeg, Int.reduceLE, Int.reduceLT, Int.reduceEq, Nat.reduceLeDiff, List.drop, List.take, hb0]
      refine specW_loop S x.wants hx.1 (by omega) _ (wantsF [toU x.wants.length, toU x.pre, toU x.shi] x.wants) (fun tot ho fr hp nx v g4 b0 hO => ?_) (fun ho fr hp nx g2 g3 => ?_) x.wants 0 _ v' rfl (Nat.zero_le _) (by simp) rfl _ _ _ (by omega) rfl rfl rfl rfl h2 (h3.wide (by omega))
      · have hlen := wantsF_len _ _ _ ho
        have hu := wantsF_u64 _ _ _ (fun n hn => by
          simp only [List.mem_cons, List.not_mem_nil, or_false] at hn
          rcases hn with rfl | rfl | rfl <;> exact toU_lt _) ho
        simp only [List.length_nil, List.length_cons] at hlen
        obtain ⟨id, rfl, i1, i2, i3⟩ := hO.id (fun h => by
          have h' : tot = [] := by simpa using h
          rw [h'] at hlen
          simp only [List.length_nil, List.length_cons] at hlen
          omega)
        have kp := put_ok S.h264 tot hu (by omega)
        simp only [u64s] at kp
        simp only [runL, defL, binV, Nat.reduceEqDiff, Nat.reduceAdd, reduceCtorEq, Int.reduceToNat, Nat.reduceMul, Nat.reduceLT, Int.reduceNeg, Int.reduceLE, Int.reduceLT, Int.reduceEq, Nat.reduceLeDiff, List.drop, List.take, g4, b0]
        refine kp.callY S.f264 rfl ?_ ?_
        · simp only [frzAll, rowKeys, frzSs, frzS, frzF, frzH, frzB, frzV, frzVs, mkFun, blkAt, cond_true, cond_false, beq_self, runL, defL, binV, Nat.reduceEqDiff, Nat.reduceAdd, reduceCtorEq, Int.reduceToNat, Nat.reduceMul, Nat.reduceLT, Int.reduceNeg, Int.reduceLE, Int.reduceLT, Int.reduceEq, Nat.reduceLeDiff, List.drop, List.take, rowIdsL, rowIds, frzA, i3]
        · simp only [frzAll, rowKeys, frzSs, frzS, frzF, frzH, frzB, frzV, frzVs, mkFun, blkAt, cond_true, cond_false, beq_self, runL, defL, binV, Nat.reduceEqDiff, Nat.reduceAdd, reduceCtorEq, Int.reduceToNat, Nat.reduceMul, Nat.reduceLT, Int.reduceNeg, Int.reduceLE, Int.reduceLT, Int.reduceEq, Nat.reduceLeDiff, List.drop, List.take, rowIdsL, rowIds, frzA, ho, wrP, bytesP]
      · simp only [runL, defL, binV, Nat.reduceEqDiff, Nat.reduceAdd, reduceCtorEq, Int.reduceToNat, Nat.reduceMul, Nat.reduceLT, Int.reduceNeg, Int.reduceLE, Int.reduceLT, Int.reduceEq, Nat.reduceLeDiff, List.drop, List.take, g2, g3, ho, wrP, codeE]
    · have hm' : [x.pre, x.shi].all smallI = false := by simpa only [List.all_cons, List.all_nil, Bool.and_true] using hm
      rw [if_neg (by rw [hm]; decide)]
      rw [hm'] at ks
      simp only [f97, runL, defL, binV, Nat.reduceEqDiff, Nat.reduceAdd, reduceCtorEq, Int.reduceToNat, Nat.reduceMul, Nat.reduceLT, Int.reduceNeg, Int.reduceLE, Int.reduceLT, Int.reduceEq, Nat.reduceLeDiff, List.drop, List.take, specP, c1', partsScal, chunk, ks.callF S.f99 rfl, wrP, codeE]
end
end Go.Proofs.YtjmggjlfamjdbaaDoor.Ab
set_option linter.unusedVariables false
set_option linter.unusedSimpArgs false
namespace Go.Proofs.YtjmggjlfamjdbaaDoor.Ab
open Go
def nodeN (n : Node) : List Nat := [n.id, n.zone].map toU ++ vecL n.cap ++ vecL n.held
def loadN (l : Load) : List Nat := [l.id, truI l.apart, l.skew, l.min, l.max].map toU
def podN (p : Pod) : List Nat := [p.id, p.load, p.prio].map toU ++ vecL p.req ++ [p.node].map toU
def snapN (s : Snap) : List Nat := ((([(s.nodes.length : Int), (s.loads.length : Int), (s.pods.length : Int)].map toU) ++ s.nodes.flatMap nodeN) ++ s.loads.flatMap loadN) ++ s.pods.flatMap podN
def snapW (s : Snap) : PV := match checkB s with
  | some q => .tuple [.slice [], errG (some q)]
  | none => wrP (some (snapN s))
def snapB (s : Snap) : Blk := .var [.pv (.slice (s.nodes.map nodeC)), .pv (.slice (s.loads.map loadC)), .pv (.slice (s.pods.map podC))]
theorem nodeN_len (n : Node) : (nodeN n).length = 10 := rfl
theorem loadN_len (n : Load) : (loadN n).length = 5 := rfl
theorem podN_len (n : Pod) : (podN n).length = 8 := rfl
theorem flat_len {α : Type} {f : α → List Nat} {k : Nat} (hf : ∀ a, (f a).length = k) : ∀ l : List α, (l.flatMap f).length = k * l.length
  | [] => rfl
  | a :: r => by
    rw [List.flatMap_cons, List.length_append, hf, flat_len hf r, List.length_cons, Nat.mul_succ]
    omega
theorem nodeN_u (n : Node) : U64 (nodeN n) := U64_app (U64_app (U64_toU _) (U64_vecL _)) (U64_vecL _)
theorem loadN_u (n : Load) : U64 (loadN n) := U64_toU _
theorem podN_u (n : Pod) : U64 (podN n) := U64_app (U64_app (U64_toU _) (U64_vecL _)) (U64_toU _)
theorem flat_u {α : Type} {f : α → List Nat} (hf : ∀ a, U64 (f a)) : ∀ l : List α, U64 (l.flatMap f)
  | [] => fun n hn => by simp at hn
  | a :: r => by
    rw [List.flatMap_cons]
    exact U64_app (hf a) (flat_u hf r)
theorem snapN_u (s : Snap) : U64 (snapN s) := U64_app (U64_app (U64_app (U64_toU _) (flat_u nodeN_u _)) (flat_u loadN_u _)) (flat_u podN_u _)
theorem snapN_len (s : Snap) : (snapN s).length = 3 + 10 * s.nodes.length + 5 * s.loads.length + 8 * s.pods.length := by
  simp only [snapN, List.length_append, flat_len nodeN_len, flat_len loadN_len, flat_len podN_len, List.length_map, List.length_cons, List.length_nil]
section
variable {T : Tab}
set_option maxRecDepth 100000 in
set_option maxHeartbeats 4000000 in
theorem snapW_l0 (S : Std4w T) (s : Snap) (hs : s.wf) (hl : s.nodes.length ≤ 1000) (tot : List Nat) (htot : tot.length ≤ 100000) (Q : Exit → St → Prop)
    (hend : ∀ fr hp nx v, 2 ≤ nx → look fr 1 = .ptr 0 0 0 → look fr 5 = .ptr 1 0 0 → blkAt hp 0 = snapB s → blkAt hp 1 = .var [v] → Own v hp 1 (tot.map u64C) 2 nx → Q (.exit 0) ⟨fr, hp, nx⟩) :
    ∀ (rest : List Node) (i : Nat) (acc : List Nat) (v : AV), s.nodes.drop i = rest → i ≤ s.nodes.length → acc ++ rest.flatMap nodeN = tot → ∀ (fr : List (Nat × AV)) (hp : Hl) (nx : Nat), 2 ≤ nx → look fr 1 = .ptr 0 0 0 → look fr 5 = .ptr 1 0 0 → look fr 32 = .pv (.slice (s.nodes.map nodeC)) → look fr 33 = .pv (.int .i64 s.nodes.length) → look fr 34 = .pv (.int .i64 i) →
      blkAt hp 0 = snapB s → blkAt hp 1 = .var [v] → Own v hp 1 (acc.map u64C) 2 nx → Wp T false (.loop f96l0) ⟨fr, hp, nx⟩ Q := by
  intro rest
  induction rest with
  | nil =>
    intro i acc v hd hi ho fr hp nx hnx g1 g5 g32 g33 g34 b0 b1 hO
    have hlen := drop_nil hd hi
    simp only [List.flatMap_nil, List.append_nil] at ho
    subst ho
    rw [Wp_loop, Wp_eq f96l0.eq_1]
    simp only [runL, defL, binV, Nat.reduceEqDiff, Nat.reduceAdd, reduceCtorEq, Int.reduceToNat, Nat.reduceMul, Nat.reduceLT, Int.reduceNeg, Int.reduceLE, Int.reduceLT, Int.reduceEq, Nat.reduceLeDiff, List.drop, List.take, g1, g5, g32, g33, g34, hlen, Int.lt_irrefl]
    refine hend _ _ _ v hnx ?_ ?_ b0 b1 hO
    all_goals try simp only [look_if, blkAt_if, Nat.reduceEqDiff, if_true, if_false, g1, g5]
  | cons n r ih =>
    intro i acc v hd hi ho fr hp nx hnx g1 g5 g32 g33 g34 b0 b1 hO
    obtain ⟨hget, hlt, hw, hd', hi', hb⟩ := drop_cons hd (by omega)
    have hn := hs.1 n (List.mem_of_getElem? hget)
    rw [List.flatMap_cons] at ho
    have hla : acc.length + 10 ≤ 100000 := by
      have := congrArg List.length ho
      simp only [List.length_append, nodeN_len] at this
      omega
    have n0 : ¬ nx = 0 := by omega
    have n1 : ¬ nx = 1 := by omega
    have m0 : ¬ nx + 1 = 0 := by omega
    have m1 : ¬ nx + 1 = 1 := by omega
    have mm : ¬ nx + 1 = nx := by omega
    rw [Wp_loop, Wp_eq f96l0.eq_1]
    simp only [runL, defL, binV, Nat.reduceEqDiff, Nat.reduceAdd, reduceCtorEq, Int.reduceToNat, Nat.reduceMul, Nat.reduceLT, Int.reduceNeg, Int.reduceLE, Int.reduceLT, Int.reduceEq, Nat.reduceLeDiff, List.drop, List.take, g1, g5, g32, g33, g34, hlt, hget, nodeC, partsScal, chunk]
    refine ints_call S.h22 (lo := 2) (m := nx) (v := v) (acc := acc) (l := [n.id, n.zone]) (by omega) hnx (by omega) (by first | omega | (dsimp only; omega)) ?_ ?_ ?_ (by simp) (by simp) (by omega) (fun v1 hp1 nx1 p1 p2 p3 p4 => ?_)
    · simp only [look_if, blkAt_if, Nat.reduceEqDiff, if_true, if_false, n1, m1, b1]
    · exact ((hO.over (.inr (Nat.le_refl _))).over (.inr (Nat.le_refl _))).over (.inr (by omega))
    · simp only [look_if, blkAt_if, Nat.reduceEqDiff, if_true, if_false, List.map_cons, List.map_nil, i64c]
    dsimp only at p1 p3 p4
    have x1 := p4 nx (by omega) (by omega) (.inr (Nat.le_refl _))
    have y1 := p4 0 (by omega) (by omega) (.inl (by omega))
    simp only [look_if, blkAt_if, Nat.reduceEqDiff, if_true, if_false, mm, n0, m0, b0] at x1 y1
    simp only [runL, defL, binV, Nat.reduceEqDiff, Nat.reduceAdd, reduceCtorEq, Int.reduceToNat, Nat.reduceMul, Nat.reduceLT, Int.reduceNeg, Int.reduceLE, Int.reduceLT, Int.reduceEq, Nat.reduceLeDiff, List.drop, List.take, g5, x1]
    refine vec_call S.h23 hn.2.2.1 (lo := nx + 1) (m := nx1) (v := v1) (acc := acc ++ [n.id, n.zone].map toU) (by omega) (by omega) (by first | omega | (dsimp only; omega)) p2 (p3.wide (by omega)) (by simp; omega) (fun v2 hp2 nx2 q1 q2 q3 q4 => ?_)
    dsimp only at q1 q3 q4
    have x2 := q4 nx (by omega) (by omega) (.inl (by omega))
    have y2 := q4 0 (by omega) (by omega) (.inl (by omega))
    rw [x1] at x2
    rw [y1] at y2
    simp only [runL, defL, binV, Nat.reduceEqDiff, Nat.reduceAdd, reduceCtorEq, Int.reduceToNat, Nat.reduceMul, Nat.reduceLT, Int.reduceNeg, Int.reduceLE, Int.reduceLT, Int.reduceEq, Nat.reduceLeDiff, List.drop, List.take, g5, x2]
    refine vec_call S.h23 hn.2.2.2 (lo := nx + 1) (m := nx2) (v := v2) (acc := acc ++ [n.id, n.zone].map toU ++ vecL n.cap) (by omega) (by omega) (by first | omega | (dsimp only; omega)) q2 (q3.wide (by omega)) (by simp [vecL]; omega) (fun v3 hp3 nx3 s1 s2 s3 s4 => ?_)
    dsimp only at s1 s3 s4
    have y3 := s4 0 (by omega) (by omega) (.inl (by omega))
    rw [y2] at y3
    simp only [runL, defL, binV, Nat.reduceEqDiff, Nat.reduceAdd, reduceCtorEq, Int.reduceToNat, Nat.reduceMul, Nat.reduceLT, Int.reduceNeg, Int.reduceLE, Int.reduceLT, Int.reduceEq, Nat.reduceLeDiff, List.drop, List.take, g34, hw]
    refine ih (i + 1) (acc ++ nodeN n) v3 hd' hi' (by rw [← ho, List.append_assoc]) _ _ _ (by omega) ?_ ?_ ?_ ?_ ?_ y3 s2 ?_
    all_goals try simp only [look_if, blkAt_if, Nat.reduceEqDiff, if_true, if_false, g1, g5, g32, g33]
    have := s3.wide (lo' := 2) (by omega)
    simpa only [nodeN, List.append_assoc] using this
set_option maxRecDepth 100000 in
set_option maxHeartbeats 4000000 in
theorem snapW_l1 (S : Std4w T) (s : Snap) (hl : s.loads.length ≤ 1000) (tot : List Nat) (htot : tot.length ≤ 100000) (Q : Exit → St → Prop)
    (hend : ∀ fr hp nx v, 2 ≤ nx → look fr 1 = .ptr 0 0 0 → look fr 5 = .ptr 1 0 0 → blkAt hp 0 = snapB s → blkAt hp 1 = .var [v] → Own v hp 1 (tot.map u64C) 2 nx → Q (.exit 2) ⟨fr, hp, nx⟩) :
    ∀ (rest : List Load) (i : Nat) (acc : List Nat) (v : AV), s.loads.drop i = rest → i ≤ s.loads.length → acc ++ rest.flatMap loadN = tot → ∀ (fr : List (Nat × AV)) (hp : Hl) (nx : Nat), 2 ≤ nx → look fr 1 = .ptr 0 0 0 → look fr 5 = .ptr 1 0 0 → look fr 55 = .pv (.slice (s.loads.map loadC)) → look fr 56 = .pv (.int .i64 s.loads.length) → look fr 57 = .pv (.int .i64 i) →
      blkAt hp 0 = snapB s → blkAt hp 1 = .var [v] → Own v hp 1 (acc.map u64C) 2 nx → Wp T false (.loop f96l1) ⟨fr, hp, nx⟩ Q := by
  intro rest
  induction rest with
  | nil =>
    intro i acc v hd hi ho fr hp nx hnx g1 g5 g32 g33 g34 b0 b1 hO
    have hlen := drop_nil hd hi
    simp only [List.flatMap_nil, List.append_nil] at ho
    subst ho
    rw [Wp_loop, Wp_eq f96l1.eq_1]
    simp only [runL, defL, binV, Nat.reduceEqDiff, Nat.reduceAdd, reduceCtorEq, Int.reduceToNat, Nat.reduceMul, Nat.reduceLT, Int.reduceNeg, Int.reduceLE, Int.reduceLT, Int.reduceEq, Nat.reduceLeDiff, List.drop, List.take, g1, g5, g32, g33, g34, hlen, Int.lt_irrefl]
    refine hend _ _ _ v hnx ?_ ?_ b0 b1 hO
    all_goals try simp only [look_if, blkAt_if, Nat.reduceEqDiff, if_true, if_false, g1, g5]
  | cons n r ih =>
    intro i acc v hd hi ho fr hp nx hnx g1 g5 g32 g33 g34 b0 b1 hO
    obtain ⟨hget, hlt, hw, hd', hi', hb⟩ := drop_cons hd (by omega)
    rw [List.flatMap_cons] at ho
    have hla : acc.length + 5 ≤ 100000 := by
      have := congrArg List.length ho
      simp only [List.length_append, loadN_len] at this
      omega
    have n0 : ¬ nx = 0 := by omega
    have n1 : ¬ nx = 1 := by omega
    have m0 : ¬ nx + 1 = 0 := by omega
    have m1 : ¬ nx + 1 = 1 := by omega
    have kt := truth_ok S.h100 n.apart
    rw [Wp_loop, Wp_eq f96l1.eq_1]
    simp only [runL, defL, binV, Nat.reduceEqDiff, Nat.reduceAdd, reduceCtorEq, Int.reduceToNat, Nat.reduceMul, Nat.reduceLT, Int.reduceNeg, Int.reduceLE, Int.reduceLT, Int.reduceEq, Nat.reduceLeDiff, List.drop, List.take, g1, g5, g32, g33, g34, hlt, hget, loadC]
    refine Wp_drawT rfl ?_
    refine (Wp_calmS rfl).2 ?_
    simp only [runL, defL, binV, Nat.reduceEqDiff, Nat.reduceAdd, reduceCtorEq, Int.reduceToNat, Nat.reduceMul, Nat.reduceLT, Int.reduceNeg, Int.reduceLE, Int.reduceLT, Int.reduceEq, Nat.reduceLeDiff, List.drop, List.take, g5, kt.callD, partsScal, chunk]
    refine ints_call S.h22 (lo := 2) (m := nx) (v := v) (acc := acc) (l := [n.id, truI n.apart, n.skew, n.min, n.max]) (by omega) hnx (by omega) (by first | omega | (dsimp only; omega)) ?_ ?_ ?_ (by simp) (by simp) (by omega) (fun v1 hp1 nx1 p1 p2 p3 p4 => ?_)
    · simp only [look_if, blkAt_if, Nat.reduceEqDiff, if_true, if_false, n1, m1, b1]
    · exact ((hO.over (.inr (Nat.le_refl _))).over (.inr (Nat.le_refl _))).over (.inr (by omega))
    · simp only [look_if, blkAt_if, Nat.reduceEqDiff, if_true, if_false, List.map_cons, List.map_nil, i64c]
    dsimp only at p1 p3 p4
    have y1 := p4 0 (by omega) (by omega) (.inl (by omega))
    simp only [look_if, blkAt_if, Nat.reduceEqDiff, if_true, if_false, n0, m0, b0] at y1
    simp only [runL, defL, binV, Nat.reduceEqDiff, Nat.reduceAdd, reduceCtorEq, Int.reduceToNat, Nat.reduceMul, Nat.reduceLT, Int.reduceNeg, Int.reduceLE, Int.reduceLT, Int.reduceEq, Nat.reduceLeDiff, List.drop, List.take, g34, hw]
    refine ih (i + 1) (acc ++ loadN n) v1 hd' hi' (by rw [← ho, List.append_assoc]) _ _ _ (by omega) ?_ ?_ ?_ ?_ ?_ y1 p2 (p3.wide (by omega))
    all_goals try simp only [look_if, blkAt_if, Nat.reduceEqDiff, if_true, if_false, g1, g5, g32, g33]
set_option maxRecDepth 100000 in
set_option maxHeartbeats 4000000 in
theorem snapW_l2 (S : Std4w T) (s : Snap) (hs : s.wf) (hl : s.pods.length ≤ 1000) (tot : List Nat) (htot : tot.length ≤ 100000) (Q : Exit → St → Prop)
    (hend : ∀ fr hp nx v, 2 ≤ nx → look fr 5 = .ptr 1 0 0 → blkAt hp 1 = .var [v] → Own v hp 1 (tot.map u64C) 2 nx → Q (.exit 4) ⟨fr, hp, nx⟩) :
    ∀ (rest : List Pod) (i : Nat) (acc : List Nat) (v : AV), s.pods.drop i = rest → i ≤ s.pods.length → acc ++ rest.flatMap podN = tot → ∀ (fr : List (Nat × AV)) (hp : Hl) (nx : Nat), 2 ≤ nx → look fr 5 = .ptr 1 0 0 → look fr 77 = .pv (.slice (s.pods.map podC)) → look fr 78 = .pv (.int .i64 s.pods.length) → look fr 79 = .pv (.int .i64 i) →
      blkAt hp 1 = .var [v] → Own v hp 1 (acc.map u64C) 2 nx → Wp T false (.loop f96l2) ⟨fr, hp, nx⟩ Q := by
  intro rest
  induction rest with
  | nil =>
    intro i acc v hd hi ho fr hp nx hnx g5 g32 g33 g34 b1 hO
    have hlen := drop_nil hd hi
    simp only [List.flatMap_nil, List.append_nil] at ho
    subst ho
    rw [Wp_loop, Wp_eq f96l2.eq_1]
    simp only [runL, defL, binV, Nat.reduceEqDiff, Nat.reduceAdd, reduceCtorEq, Int.reduceToNat, Nat.reduceMul, Nat.reduceLT, Int.reduceNeg, Int.reduceLE, Int.reduceLT, Int.reduceEq, Nat.reduceLeDiff, List.drop, List.take, g5, g32, g33, g34, hlen, Int.lt_irrefl]
    refine hend _ _ _ v hnx ?_ b1 hO
    all_goals try simp only [look_if, blkAt_if, Nat.reduceEqDiff, if_true, if_false, g5]
  | cons n r ih =>
    intro i acc v hd hi ho fr hp nx hnx g5 g32 g33 g34 b1 hO
    obtain ⟨hget, hlt, hw, hd', hi', hb⟩ := drop_cons hd (by omega)
    have hn := hs.2.2 n (List.mem_of_getElem? hget)
    rw [List.flatMap_cons] at ho
    have hla : acc.length + 8 ≤ 100000 := by
      have := congrArg List.length ho
      simp only [List.length_append, podN_len] at this
      omega
    have n1 : ¬ nx = 1 := by omega
    have m1 : ¬ nx + 1 = 1 := by omega
    have mm : ¬ nx + 1 = nx := by omega
    rw [Wp_loop, Wp_eq f96l2.eq_1]
    simp only [runL, defL, binV, Nat.reduceEqDiff, Nat.reduceAdd, reduceCtorEq, Int.reduceToNat, Nat.reduceMul, Nat.reduceLT, Int.reduceNeg, Int.reduceLE, Int.reduceLT, Int.reduceEq, Nat.reduceLeDiff, List.drop, List.take, g5, g32, g33, g34, hlt, hget, podC, partsScal, chunk]
    refine ints_call S.h22 (lo := 2) (m := nx) (v := v) (acc := acc) (l := [n.id, n.load, n.prio]) (by omega) hnx (by omega) (by first | omega | (dsimp only; omega)) ?_ ?_ ?_ (by simp) (by simp) (by omega) (fun v1 hp1 nx1 p1 p2 p3 p4 => ?_)
    · simp only [look_if, blkAt_if, Nat.reduceEqDiff, if_true, if_false, n1, m1, b1]
    · exact ((hO.over (.inr (Nat.le_refl _))).over (.inr (Nat.le_refl _))).over (.inr (by omega))
    · simp only [look_if, blkAt_if, Nat.reduceEqDiff, if_true, if_false, List.map_cons, List.map_nil, i64c]
    dsimp only at p1 p3 p4
    have x1 := p4 nx (by omega) (by omega) (.inr (Nat.le_refl _))
    simp only [look_if, blkAt_if, Nat.reduceEqDiff, if_true, if_false, mm] at x1
    simp only [runL, defL, binV, Nat.reduceEqDiff, Nat.reduceAdd, reduceCtorEq, Int.reduceToNat, Nat.reduceMul, Nat.reduceLT, Int.reduceNeg, Int.reduceLE, Int.reduceLT, Int.reduceEq, Nat.reduceLeDiff, List.drop, List.take, g5, x1]
    refine vec_call S.h23 hn.2.2.2.1 (lo := nx + 1) (m := nx1) (v := v1) (acc := acc ++ [n.id, n.load, n.prio].map toU) (by omega) (by omega) (by first | omega | (dsimp only; omega)) p2 (p3.wide (by omega)) (by simp; omega) (fun v2 hp2 nx2 q1 q2 q3 q4 => ?_)
    dsimp only at q1 q3 q4
    have x2 := q4 nx (by omega) (by omega) (.inl (by omega))
    rw [x1] at x2
    have e2 : ¬ nx2 = 1 := by omega
    simp only [runL, defL, binV, Nat.reduceEqDiff, Nat.reduceAdd, reduceCtorEq, Int.reduceToNat, Nat.reduceMul, Nat.reduceLT, Int.reduceNeg, Int.reduceLE, Int.reduceLT, Int.reduceEq, Nat.reduceLeDiff, List.drop, List.take, g5, x2, partsScal, chunk]
    refine ints_call S.h22 (lo := nx + 1) (m := nx2) (v := v2) (acc := acc ++ [n.id, n.load, n.prio].map toU ++ vecL n.req) (l := [n.node]) (by omega) (by omega) (by first | omega | (dsimp only; omega)) (by first | omega | (dsimp only; omega)) ?_ ?_ ?_ (by simp) (by simp) (by simp [vecL]; omega) (fun v3 hp3 nx3 s1 s2 s3 s4 => ?_)
    · simp only [look_if, blkAt_if, Nat.reduceEqDiff, if_true, if_false, q2, e2]
    · exact (q3.wide (by omega)).over (.inr (by omega))
    · simp only [look_if, blkAt_if, Nat.reduceEqDiff, if_true, if_false, List.map_cons, List.map_nil, i64c]
    dsimp only at s1 s3 s4
    simp only [runL, defL, binV, Nat.reduceEqDiff, Nat.reduceAdd, reduceCtorEq, Int.reduceToNat, Nat.reduceMul, Nat.reduceLT, Int.reduceNeg, Int.reduceLE, Int.reduceLT, Int.reduceEq, Nat.reduceLeDiff, List.drop, List.take, g34, hw]
    refine ih (i + 1) (acc ++ podN n) v3 hd' hi' (by rw [← ho, List.append_assoc]) _ _ _ (by omega) ?_ ?_ ?_ ?_ s2 ?_
    all_goals try simp only [look_if, blkAt_if, Nat.reduceEqDiff, if_true, if_false, g5, g32, g33]
    have := s3.wide (lo' := 2) (by omega)
    simpa only [podN, List.append_assoc] using this
set_option maxRecDepth 100000 in
set_option maxHeartbeats 4000000 in
theorem snapW_ok (S : Std4w T) (S3 : Std3 T) (h96 : Std T 96 f96) (s : Snap) (hs : s.wf) (hl : s.nodes.length ≤ 1000 ∧ s.loads.length ≤ 1000 ∧ s.pods.length ≤ 1000) : Gives T 96 [snapP s] (snapW s) := by
  refine gives h96 rfl ?_
  have kc := check3_ok S3 s
  simp only [snapP] at kc
  unfold snapW
  cases hq : checkB s with
  | some q =>
    obtain ⟨c, a⟩ := q
    rw [hq] at kc
    by_cases ha : a < 0
    · simp only [errG, if_pos ha, codeE] at kc ⊢
      simp only [f96, runL, defL, binV, Nat.reduceEqDiff, Nat.reduceAdd, reduceCtorEq, Int.reduceToNat, Nat.reduceMul, Nat.reduceLT, Int.reduceNeg, Int.reduceLE, Int.reduceLT, Int.reduceEq, Nat.reduceLeDiff, List.drop, List.take, snapP, kc.call]
    · simp only [errG, if_neg ha, spotE] at kc ⊢
      simp only [f96, runL, defL, binV, Nat.reduceEqDiff, Nat.reduceAdd, reduceCtorEq, Int.reduceToNat, Nat.reduceMul, Nat.reduceLT, Int.reduceNeg, Int.reduceLE, Int.reduceLT, Int.reduceEq, Nat.reduceLeDiff, List.drop, List.take, snapP, kc.call]
  | none =>
    rw [hq] at kc
    simp only [errG] at kc
    have hlen := snapN_len s
    have ht : (snapN s).length ≤ 100000 := by omega
    simp only [f96, runL, defL, binV, Nat.reduceEqDiff, Nat.reduceAdd, reduceCtorEq, Int.reduceToNat, Nat.reduceMul, Nat.reduceLT, Int.reduceNeg, Int.reduceLE, Int.reduceLT, Int.reduceEq, Nat.reduceLeDiff, List.drop, List.take, snapP, kc.call, partsScal, chunk]
    refine ints_call S.h22 (lo := 2) (m := 2) (v := .nils) (acc := []) (l := [(s.nodes.length : Int), (s.loads.length : Int), (s.pods.length : Int)]) (by omega) (by omega) (by omega) (by first | omega | (dsimp only; omega)) rfl Own.nil rfl (by simp) (by simp) (by simp) (fun v' hp' nx' h1 h2 h3 h4 => ?_)
    dsimp only at h1 h3 h4
    have hb0 := h4 0 (by omega) (by omega) (.inl (by omega))
    simp only [runL, defL, binV, Nat.reduceEqDiff, Nat.reduceAdd, reduceCtorEq, Int.reduceToNat, Nat.reduceMul, Nat.reduceLT, Int.reduceNeg, Int.reduceLE, Int.reduceLT, Int.reduceEq, Nat.reduceLeDiff, List.drop, List.take] at hb0
    simp only [runL, defL, binV, Nat.reduceEqDiff, Nat.reduceAdd, reduceCtorEq, Int.reduceToNat, Nat.reduceMul, Nat.reduceLT, Int.reduceNeg, Int.reduceLE, Int.reduceLT, Int.reduceEq, Nat.reduceLeDiff, List.drop, List.take, hb0]
    refine snapW_l0 S s hs (by omega) (([(s.nodes.length : Int), (s.loads.length : Int), (s.pods.length : Int)].map toU) ++ s.nodes.flatMap nodeN) (by
      simp only [snapN, List.length_append] at ht ⊢
      omega) _ (fun fr hp nx v hnx g1 g5 b0 b1 hO => ?_) s.nodes 0 _ v' rfl (Nat.zero_le _) rfl _ _ _ (by omega) rfl rfl rfl rfl rfl hb0 h2 (h3.wide (by omega))
    have b0' := b0
    simp only [snapB] at b0'
    simp only [runL, defL, binV, Nat.reduceEqDiff, Nat.reduceAdd, reduceCtorEq, Int.reduceToNat, Nat.reduceMul, Nat.reduceLT, Int.reduceNeg, Int.reduceLE, Int.reduceLT, Int.reduceEq, Nat.reduceLeDiff, List.drop, List.take, g1, b0']
    refine snapW_l1 S s (by omega) ((([(s.nodes.length : Int), (s.loads.length : Int), (s.pods.length : Int)].map toU) ++ s.nodes.flatMap nodeN) ++ s.loads.flatMap loadN) (by
      simp only [snapN, List.length_append] at ht ⊢
      omega) _ (fun fr hp nx v hnx g1 g5 b0 b1 hO => ?_) s.loads 0 _ v rfl (Nat.zero_le _) rfl _ _ _ hnx ?_ ?_ ?_ ?_ ?_ b0 b1 hO
    · have b0' := b0
      simp only [snapB] at b0'
      simp only [runL, defL, binV, Nat.reduceEqDiff, Nat.reduceAdd, reduceCtorEq, Int.reduceToNat, Nat.reduceMul, Nat.reduceLT, Int.reduceNeg, Int.reduceLE, Int.reduceLT, Int.reduceEq, Nat.reduceLeDiff, List.drop, List.take, g1, b0']
      refine snapW_l2 S s hs (by omega) (snapN s) ht _ (fun fr hp nx v hnx g5 b1 hO => ?_) s.pods 0 _ v rfl (Nat.zero_le _) rfl _ _ _ hnx ?_ ?_ ?_ ?_ b1 hO
      · obtain ⟨id, rfl, i1, i2, i3⟩ := hO.id (fun h => by
          have h' : snapN s = [] := by simpa using h
          rw [h'] at hlen
          simp only [List.length_nil] at hlen
          omega)
        have kp := put_ok S.h264 (snapN s) (snapN_u s) (by omega)
        simp only [u64s] at kp
        simp only [runL, defL, binV, Nat.reduceEqDiff, Nat.reduceAdd, reduceCtorEq, Int.reduceToNat, Nat.reduceMul, Nat.reduceLT, Int.reduceNeg, Int.reduceLE, Int.reduceLT, Int.reduceEq, Nat.reduceLeDiff, List.drop, List.take, g5, b1]
        refine kp.callY S.f264 rfl ?_ ?_
        · simp only [frzAll, rowKeys, frzSs, frzS, frzF, frzH, frzB, frzV, frzVs, mkFun, blkAt, cond_true, cond_false, beq_self, runL, defL, binV, Nat.reduceEqDiff, Nat.reduceAdd, reduceCtorEq, Int.reduceToNat, Nat.reduceMul, Nat.reduceLT, Int.reduceNeg, Int.reduceLE, Int.reduceLT, Int.reduceEq, Nat.reduceLeDiff, List.drop, List.take, rowIdsL, rowIds, frzA, i3]
        · simp only [frzAll, rowKeys, frzSs, frzS, frzF, frzH, frzB, frzV, frzVs, mkFun, blkAt, cond_true, cond_false, beq_self, runL, defL, binV, Nat.reduceEqDiff, Nat.reduceAdd, reduceCtorEq, Int.reduceToNat, Nat.reduceMul, Nat.reduceLT, Int.reduceNeg, Int.reduceLE, Int.reduceLT, Int.reduceEq, Nat.reduceLeDiff, List.drop, List.take, rowIdsL, rowIds, frzA, wrP, bytesP]
      all_goals try simp only [look_if, blkAt_if, Nat.reduceEqDiff, if_true, if_false, g5]
      all_goals rfl
    all_goals try simp only [look_if, blkAt_if, Nat.reduceEqDiff, if_true, if_false, g1, g5]
    all_goals rfl
end
end Go.Proofs.YtjmggjlfamjdbaaDoor.Ab
set_option linter.unusedVariables false
set_option linter.unusedSimpArgs false
namespace Go.Proofs.YtjmggjlfamjdbaaDoor.Ab
open Go
theorem eqWant4 {p q : Want} : eqCells [false, false, false, false, false, true] (wantC p) (wantC q) = some (decide (p = q)) := by
  obtain ⟨a, ⟨c, d, e, f⟩, b⟩ := p
  obtain ⟨a', ⟨c', d', e', f'⟩, b'⟩ := q
  simp only [wantC, eqCells, if_true, Option.some.injEq]
  rw [Bool.eq_iff_iff]
  cases b <;> cases b' <;> simp [and_assoc]
section
variable {T : Tab}
set_option maxHeartbeats 4000000 in
theorem sameSpec_ok (S : Std T 346 f346) (x y : Spec) (ha : x.wants.length ≤ 2 ^ 29) : Gives T 346 [specP x, specP y] (.bool (decide (x.wants = y.wants) && decide (x.pre = y.pre) && decide (x.shi = y.shi))) := by
  refine gives S rfl ?_
  have loop : ∀ (ra rb : List Want) (i : Nat), x.wants.length = y.wants.length → x.wants.drop i = ra → y.wants.drop i = rb → i ≤ x.wants.length → ∀ (fr : List (Nat × AV)) (hp : Hl) (nx : Nat), look fr 5 = .pv (.int .i64 i) → look fr 2 = .ptr 0 0 0 → look fr 3 = .ptr 1 0 0 →
      blkAt hp 0 = .var [.pv (.slice (x.wants.map wantC)), .pv (.int .i64 x.pre), .pv (.int .i64 x.shi)] → blkAt hp 1 = .var [.pv (.slice (y.wants.map wantC)), .pv (.int .i64 y.pre), .pv (.int .i64 y.shi)] →
      Wp T false (.loop f346l0) ⟨fr, hp, nx⟩ (blkQ 0 (seqQ T false (.seq (.ops [⟨some 4, .mv (.c (.pv (.bool true))), none, []⟩]) .ret) (RetP [.t 4] (.bool (decide (ra = rb)))))) := by
    intro ra
    induction ra with
    | nil =>
      intro rb i hl hda hdb hi fr hp nx h5 h2 h3 b0 b1
      have hlen := drop_nil hda hi
      obtain rfl : rb = [] := by
        rw [← hdb]
        exact List.drop_eq_nil_of_le (by omega)
      rw [Wp_loop, Wp_eq f346l0.eq_1]
      simp only [runL, defL, binV, Nat.reduceEqDiff, Nat.reduceAdd, reduceCtorEq, Int.reduceToNat, Nat.reduceMul, Nat.reduceLT, Int.reduceNeg, Int.reduceLE, Int.reduceLT, Int.reduceEq, Nat.reduceLeDiff, List.drop, List.take, h5, h2, h3, b0, b1, hlen, Int.lt_irrefl]
    | cons p r ih =>
      intro rb i hl hda hdb hi fr hp nx h5 h2 h3 b0 b1
      obtain ⟨hget, hlt, hw, hd', hi', hb⟩ := drop_cons hda (by omega)
      cases rb with
      | nil =>
        have := congrArg List.length hdb
        simp at this
        omega
      | cons q rb =>
        obtain ⟨hgetb, _, _, hdb', _, _⟩ := drop_cons hdb (by omega)
        rw [Wp_loop, Wp_eq f346l0.eq_1]
        simp only [runL, defL, binV, Nat.reduceEqDiff, Nat.reduceAdd, reduceCtorEq, Int.reduceToNat, Nat.reduceMul, Nat.reduceLT, Int.reduceNeg, Int.reduceLE, Int.reduceLT, Int.reduceEq, Nat.reduceLeDiff, List.drop, List.take, h5, h2, h3, b0, b1, hlt]
        refine (Wp_calmS rfl).2 ?_
        by_cases hpq : p = q
        · subst hpq
          simp only [runL, defL, binV, Nat.reduceEqDiff, Nat.reduceAdd, reduceCtorEq, Int.reduceToNat, Nat.reduceMul, Nat.reduceLT, Int.reduceNeg, Int.reduceLE, Int.reduceLT, Int.reduceEq, Nat.reduceLeDiff, List.drop, List.take, h5, h2, h3, b0, b1, hget, hgetb, wantC_length, eqWant4, hw, List.cons.injEq]
          refine ih rb (i + 1) hl hd' hdb' hi' _ _ _ ?_ ?_ ?_ b0 b1
          all_goals try simp only [look_if, blkAt_if, Nat.reduceEqDiff, if_true, if_false, h2, h3]
        · simp only [runL, defL, binV, Nat.reduceEqDiff, Nat.reduceAdd, reduceCtorEq, Int.reduceToNat, Nat.reduceMul, Nat.reduceLT, Int.reduceNeg, Int.reduceLE, Int.reduceLT, Int.reduceEq, Nat.reduceLeDiff, List.drop, List.take, h5, h2, h3, b0, b1, hget, hgetb, wantC_length, eqWant4, hpq, hw, List.cons.injEq, false_and]
  by_cases hl : x.wants.length = y.wants.length
  · by_cases hp : x.pre = y.pre
    · by_cases hs : x.shi = y.shi
      · simp only [f346, runL, defL, binV, Nat.reduceEqDiff, Nat.reduceAdd, reduceCtorEq, Int.reduceToNat, Nat.reduceMul, Nat.reduceLT, Int.reduceNeg, Int.reduceLE, Int.reduceLT, Int.reduceEq, Nat.reduceLeDiff, List.drop, List.take, specP, hl, hp, hs, Bool.and_true]
        have := loop x.wants y.wants 0 hl rfl rfl (Nat.zero_le _)
        simp only [hp, hs] at this
        exact this _ _ _ rfl rfl rfl rfl rfl
      · simp only [f346, runL, defL, binV, Nat.reduceEqDiff, Nat.reduceAdd, reduceCtorEq, Int.reduceToNat, Nat.reduceMul, Nat.reduceLT, Int.reduceNeg, Int.reduceLE, Int.reduceLT, Int.reduceEq, Nat.reduceLeDiff, List.drop, List.take, specP, hl, hp, hs, Bool.and_false]
    · simp only [f346, runL, defL, binV, Nat.reduceEqDiff, Nat.reduceAdd, reduceCtorEq, Int.reduceToNat, Nat.reduceMul, Nat.reduceLT, Int.reduceNeg, Int.reduceLE, Int.reduceLT, Int.reduceEq, Nat.reduceLeDiff, List.drop, List.take, specP, hl, hp, Bool.and_false, Bool.false_and]
  · have hl' : ¬ x.wants = y.wants := fun h => hl (by rw [h])
    simp only [f346, runL, defL, binV, Nat.reduceEqDiff, Nat.reduceAdd, reduceCtorEq, Int.reduceToNat, Nat.reduceMul, Nat.reduceLT, Int.reduceNeg, Int.reduceLE, Int.reduceLT, Int.reduceEq, Nat.reduceLeDiff, List.drop, List.take, specP, hl, hl', Bool.false_and]
end
end Go.Proofs.YtjmggjlfamjdbaaDoor.Ab
set_option linter.unusedVariables false
set_option linter.unusedSimpArgs false
namespace Go.Proofs.YtjmggjlfamjdbaaDoor.Ab
open Go
theorem nextR_bad (r : Rd) (h : r.2 = true) : (nextR r).2.2 = true := by
  obtain ⟨l, b⟩ := r
  simp only at h
  subst h
  cases l <;> rfl
theorem vecR4_bad (r : Rd) (h : r.2 = true) : (vecR4 r).2.2 = true := nextR_bad _ (nextR_bad _ (nextR_bad _ (nextR_bad _ h)))
theorem truR_bad (r : Rd) (h : r.2 = true) : (truR r).2.2 = true := by
  unfold truR
  dsimp only
  rw [nextR_bad r h]
  rfl
theorem wantRd_bad (r : Rd) (h : r.2 = true) : (wantRd r).2.2 = true := truR_bad _ (vecR4_bad _ (intR_bad _ h))
theorem intR_eq (n : Nat) (l : List Nat) (b : Bool) : intR (n :: l, b) = (numV n, (l, b || !numB n)) := by
  unfold intR nextR numV numB
  dsimp only
  by_cases c : 2147483647 < n
  · rw [if_pos c, if_pos c, decide_eq_true c]; simp
  · rw [if_neg c, if_neg c, decide_eq_false c]; simp
/-! ### The walk -/
section
variable {T : Tab}
end
end Go.Proofs.YtjmggjlfamjdbaaDoor.Ab
set_option linter.unusedVariables false
set_option linter.unusedSimpArgs false
namespace Go.Proofs.YtjmggjlfamjdbaaDoor.Ab
open Go
/-! ### What was read -/
theorem nextR_inv {l : List Nat} {b : Bool} (h : (nextR (l, b)).2.2 = false) : b = false ∧ ∃ n r, l = n :: r ∧ nextR (l, b) = (n, (r, false)) := by
  cases l with
  | nil => simp [nextR] at h
  | cons n r =>
    simp only [nextR] at h
    subst h
    exact ⟨rfl, n, r, rfl, rfl⟩
theorem intR_inv {l : List Nat} {b : Bool} (h : (intR (l, b)).2.2 = false) : b = false ∧ ∃ n r, l = n :: r ∧ n ≤ 2147483647 ∧ intR (l, b) = (n, (r, false)) := by
  cases l with
  | nil => simp [intR, nextR] at h
  | cons n r =>
    rw [intR_eq] at h
    simp only [Bool.or_eq_false_iff, Bool.not_eq_false'] at h
    obtain ⟨rfl, h2⟩ := h
    have hn : n ≤ 2147483647 := by
      unfold numB at h2
      simpa using h2
    exact ⟨rfl, n, r, rfl, hn, intR_cons n r hn⟩
theorem truR_inv {l : List Nat} {b : Bool} (h : (truR (l, b)).2.2 = false) : b = false ∧ ∃ n r, l = n :: r ∧ n ≤ 1 ∧ truR (l, b) = (decide (n = 1), (r, false)) := by
  unfold truR at h
  simp only [Bool.or_eq_false_iff, decide_eq_false_iff_not] at h
  obtain ⟨rfl, n, r, rfl, e⟩ := nextR_inv h.1
  rw [e] at h
  refine ⟨rfl, n, r, rfl, by omega, ?_⟩
  unfold truR
  rw [e]
  simp only [Bool.false_or, Prod.mk.injEq, true_and]
  exact decide_eq_false h.2
theorem vecR4_inv {l : List Nat} {b : Bool} (h : (vecR4 (l, b)).2.2 = false) : b = false ∧ ∃ a c d e r, l = a :: c :: d :: e :: r ∧ vecR4 (l, b) = (⟨a, c, d, e⟩, (r, false)) := by
  unfold vecR4 at h ⊢
  dsimp only at h ⊢
  have h3 := nextR_inv (l := (nextR (nextR (nextR (l, b)).2).2).2.1) (b := (nextR (nextR (nextR (l, b)).2).2).2.2) h
  have h2 := nextR_inv (l := (nextR (nextR (l, b)).2).2.1) (b := (nextR (nextR (l, b)).2).2.2) h3.1
  have h1 := nextR_inv (l := (nextR (l, b)).2.1) (b := (nextR (l, b)).2.2) h2.1
  obtain ⟨rfl, a, r, rfl, e⟩ := nextR_inv h1.1
  rw [e] at h1 h2 h3 ⊢
  obtain ⟨_, c, r1, e1, e2⟩ := h1
  dsimp only at e1 e2
  subst e1
  rw [e2] at h2 h3 ⊢
  obtain ⟨_, d, r2, e3, e4⟩ := h2
  dsimp only at e3 e4
  subst e3
  rw [e4] at h3 ⊢
  obtain ⟨_, f, r3, e5, e6⟩ := h3
  dsimp only at e5 e6
  subst e5
  rw [e6]
  exact ⟨rfl, a, c, d, f, r3, rfl, rfl⟩
theorem toU_n {n : Nat} (h : n ≤ 2147483647) : toU (n : Int) = n := toU_nat n (by omega)
theorem small_n {n : Nat} (h : n ≤ 2147483647) : smallI (n : Int) = true := by
  unfold smallI
  rw [decide_eq_true (by omega), decide_eq_true (by omega)]
  rfl
theorem truI_n {n : Nat} (h : n ≤ 1) : toU (truI (decide (n = 1))) = n := by
  obtain rfl | rfl : n = 0 ∨ n = 1 := by omega
  · decide
  · decide
def Undo {α : Type} (f : Rd → α × Rd) (g : α → List Nat) (P : α → Prop) : Prop := ∀ (l : List Nat) (b : Bool), U64 l → (f (l, b)).2.2 = false → b = false ∧ P (f (l, b)).1 ∧ l = g (f (l, b)).1 ++ (f (l, b)).2.1
theorem U64_tail {n : Nat} {l : List Nat} (h : U64 (n :: l)) : U64 l := fun m hm => h m (List.mem_cons_of_mem _ hm)
theorem vecL_n {a b c d : Nat} {r : List Nat} (h : U64 (a :: b :: c :: d :: r)) : vecL ⟨a, b, c, d⟩ = [a, b, c, d] := by
  simp only [vecL]
  rw [toU_nat a (h a (by simp)), toU_nat b (h b (by simp)), toU_nat c (h c (by simp)), toU_nat d (h d (by simp))]
theorem inI_n {n : Nat} (h : n ≤ 2147483647) : inI (n : Int) := by unfold inI; omega
theorem inU_n {n : Nat} {l : List Nat} (h : U64 l) (hm : n ∈ l) : inU (n : Int) := by
  have := h n hm
  unfold inU
  omega
theorem vecW_n {a b c d : Nat} {r : List Nat} (h : U64 (a :: b :: c :: d :: r)) : Vec.wf ⟨a, b, c, d⟩ := ⟨inU_n h (by simp), inU_n h (by simp), inU_n h (by simp), inU_n h (by simp)⟩
theorem node_undo : Undo nodeRd nodeN Node.wf := by
  intro l b hu h
  unfold nodeRd at h ⊢
  dsimp only at h ⊢
  have h3 := vecR4_inv (l := (vecR4 (intR (intR (l, b)).2).2).2.1) (b := (vecR4 (intR (intR (l, b)).2).2).2.2) h
  have h2 := vecR4_inv (l := (intR (intR (l, b)).2).2.1) (b := (intR (intR (l, b)).2).2.2) h3.1
  have h1 := intR_inv (l := (intR (l, b)).2.1) (b := (intR (l, b)).2.2) h2.1
  obtain ⟨rfl, n, r, rfl, hn, e⟩ := intR_inv h1.1
  rw [e] at h1 h2 h3 ⊢
  obtain ⟨_, m, r1, e1, hm, e2⟩ := h1
  dsimp only at e1 e2
  subst e1
  rw [e2] at h2 h3 ⊢
  obtain ⟨_, a, b, c, d, r2, e3, e4⟩ := h2
  dsimp only at e3 e4
  subst e3
  rw [e4] at h3 ⊢
  obtain ⟨_, a', b', c', d', r3, e5, e6⟩ := h3
  dsimp only at e5 e6
  subst e5
  rw [e6]
  refine ⟨rfl, ⟨inI_n hn, inI_n hm, vecW_n (U64_tail (U64_tail hu)), vecW_n (U64_tail (U64_tail (U64_tail (U64_tail (U64_tail (U64_tail hu))))))⟩, ?_⟩
  simp only [nodeN, List.map_cons, List.map_nil, toU_n hn, toU_n hm]
  rw [vecL_n (U64_tail (U64_tail hu)), vecL_n (U64_tail (U64_tail (U64_tail (U64_tail (U64_tail (U64_tail hu))))))]
  rfl
theorem load_undo : Undo loadRd loadN Load.wf := by
  intro l b hu h
  unfold loadRd at h ⊢
  dsimp only at h ⊢
  have h4 := intR_inv (l := (intR (intR (truR (intR (l, b)).2).2).2).2.1) (b := (intR (intR (truR (intR (l, b)).2).2).2).2.2) h
  have h3 := intR_inv (l := (intR (truR (intR (l, b)).2).2).2.1) (b := (intR (truR (intR (l, b)).2).2).2.2) h4.1
  have h2 := intR_inv (l := (truR (intR (l, b)).2).2.1) (b := (truR (intR (l, b)).2).2.2) h3.1
  have h1 := truR_inv (l := (intR (l, b)).2.1) (b := (intR (l, b)).2.2) h2.1
  obtain ⟨rfl, n, r, rfl, hn, e⟩ := intR_inv h1.1
  rw [e] at h1 h2 h3 h4 ⊢
  obtain ⟨_, m, r1, e1, hm, e2⟩ := h1
  dsimp only at e1 e2
  subst e1
  rw [e2] at h2 h3 h4 ⊢
  obtain ⟨_, a, r2, e3, ha, e4⟩ := h2
  dsimp only at e3 e4
  subst e3
  rw [e4] at h3 h4 ⊢
  obtain ⟨_, c, r3, e5, hc, e6⟩ := h3
  dsimp only at e5 e6
  subst e5
  rw [e6] at h4 ⊢
  obtain ⟨_, d, r4, e7, hd, e8⟩ := h4
  dsimp only at e7 e8
  subst e7
  rw [e8]
  refine ⟨rfl, ⟨inI_n hn, inI_n ha, inI_n hc, inI_n hd⟩, ?_⟩
  simp only [loadN, List.map_cons, List.map_nil, toU_n hn, truI_n hm, toU_n ha, toU_n hc, toU_n hd]
  rfl
theorem pod_undo : Undo podRd podN Pod.wf := by
  intro l b hu h
  unfold podRd at h ⊢
  dsimp only at h ⊢
  have h4 := intR_inv (l := (vecR4 (intR (intR (intR (l, b)).2).2).2).2.1) (b := (vecR4 (intR (intR (intR (l, b)).2).2).2).2.2) h
  have h3 := vecR4_inv (l := (intR (intR (intR (l, b)).2).2).2.1) (b := (intR (intR (intR (l, b)).2).2).2.2) h4.1
  have h2 := intR_inv (l := (intR (intR (l, b)).2).2.1) (b := (intR (intR (l, b)).2).2.2) h3.1
  have h1 := intR_inv (l := (intR (l, b)).2.1) (b := (intR (l, b)).2.2) h2.1
  obtain ⟨rfl, n, r, rfl, hn, e⟩ := intR_inv h1.1
  rw [e] at h1 h2 h3 h4 ⊢
  obtain ⟨_, m, r1, e1, hm, e2⟩ := h1
  dsimp only at e1 e2
  subst e1
  rw [e2] at h2 h3 h4 ⊢
  obtain ⟨_, a, r2, e3, ha, e4⟩ := h2
  dsimp only at e3 e4
  subst e3
  rw [e4] at h3 h4 ⊢
  obtain ⟨_, a', b', c', d', r3, e5, e6⟩ := h3
  dsimp only at e5 e6
  subst e5
  rw [e6] at h4 ⊢
  obtain ⟨_, d, r4, e7, hd, e8⟩ := h4
  dsimp only at e7 e8
  subst e7
  rw [e8]
  refine ⟨rfl, ⟨inI_n hn, inI_n hm, inI_n ha, vecW_n (U64_tail (U64_tail (U64_tail hu))), inI_n hd⟩, ?_⟩
  simp only [podN, List.map_cons, List.map_nil, toU_n hn, toU_n hm, toU_n ha, toU_n hd]
  rw [vecL_n (U64_tail (U64_tail (U64_tail hu)))]
  rfl
theorem want_undo : Undo wantRd wantN (fun w => smallI w.pod = true ∧ w.wf) := by
  intro l b hu h
  unfold wantRd at h ⊢
  dsimp only at h ⊢
  have h2 := truR_inv (l := (vecR4 (intR (l, b)).2).2.1) (b := (vecR4 (intR (l, b)).2).2.2) h
  have h1 := vecR4_inv (l := (intR (l, b)).2.1) (b := (intR (l, b)).2.2) h2.1
  obtain ⟨rfl, n, r, rfl, hn, e⟩ := intR_inv h1.1
  rw [e] at h1 h2 ⊢
  obtain ⟨_, a', b', c', d', r3, e5, e6⟩ := h1
  dsimp only at e5 e6
  subst e5
  rw [e6] at h2 ⊢
  obtain ⟨_, d, r4, e7, hd, e8⟩ := h2
  dsimp only at e7 e8
  subst e7
  rw [e8]
  refine ⟨rfl, ⟨small_n hn, inI_n hn, vecW_n (U64_tail hu)⟩, ?_⟩
  simp only [wantN, toU_n hn, truI_n hd]
  rw [vecL_n (U64_tail hu)]
  rfl
theorem move_undo : Undo moveRd moveN (fun m => moveOK m = true) := by
  intro l b hu h
  unfold moveRd at h ⊢
  dsimp only at h ⊢
  have h4 := intR_inv (l := (intR (intR (intR (l, b)).2).2).2.1) (b := (intR (intR (intR (l, b)).2).2).2.2) h
  have h3 := intR_inv (l := (intR (intR (l, b)).2).2.1) (b := (intR (intR (l, b)).2).2.2) h4.1
  have h2 := intR_inv (l := (intR (l, b)).2.1) (b := (intR (l, b)).2.2) h3.1
  obtain ⟨rfl, n, r, rfl, hn, e⟩ := intR_inv h2.1
  rw [e] at h2 h3 h4 ⊢
  obtain ⟨_, m, r1, e1, hm, e2⟩ := h2
  dsimp only at e1 e2
  subst e1
  rw [e2] at h3 h4 ⊢
  obtain ⟨_, a, r2, e3, ha, e4⟩ := h3
  dsimp only at e3 e4
  subst e3
  rw [e4] at h4 ⊢
  obtain ⟨_, d, r4, e7, hd, e8⟩ := h4
  dsimp only at e7 e8
  subst e7
  rw [e8]
  refine ⟨rfl, by simp only [moveOK, List.all_cons, List.all_nil, small_n hn, small_n hm, small_n ha, small_n hd, Bool.and_true], ?_⟩
  simp only [moveN, List.map_cons, List.map_nil, toU_n hn, toU_n hm, toU_n ha, toU_n hd]
  rfl
theorem U64_of_app {a b : List Nat} (h : U64 (a ++ b)) : U64 b := fun m hm => h m (List.mem_append_right _ hm)
theorem many_undo {α : Type} {f : Rd → α × Rd} {g : α → List Nat} {P : α → Prop} (hs : ∀ r : Rd, r.2 = true → (f r).2.2 = true) (hf : Undo f g P) : ∀ n : Nat, Undo (manyRd f n) (fun l => l.flatMap g) (fun l => ∀ x ∈ l, P x)
  | 0, l, b, hu, h => ⟨h, fun x hx => by simp [manyRd] at hx, rfl⟩
  | n + 1, l, b, hu, h => by
    simp only [manyRd] at h ⊢
    have h1 : (f (l, b)).2.2 = false := by
      cases hb : (f (l, b)).2.2 with
      | false => rfl
      | true =>
        rw [manyRd_bad hs n _ hb] at h
        simp at h
    obtain ⟨rfl, hp, e⟩ := hf l b hu h1
    have hu2 : U64 (f (l, false)).2.1 := by rw [e] at hu; exact U64_of_app hu
    obtain ⟨_, hp2, e2⟩ := many_undo hs hf n (f (l, false)).2.1 (f (l, false)).2.2 hu2 h
    refine ⟨rfl, fun x hx => ?_, ?_⟩
    · rcases List.mem_cons.1 hx with rfl | hx
      · exact hp
      · exact hp2 x hx
    · rw [List.flatMap_cons, List.append_assoc]
      exact e.trans (congrArg _ e2)
theorem nodeRd_bad (r : Rd) (h : r.2 = true) : (nodeRd r).2.2 = true := vecR4_bad _ (vecR4_bad _ (intR_bad _ (intR_bad _ h)))
theorem loadRd_bad (r : Rd) (h : r.2 = true) : (loadRd r).2.2 = true := intR_bad _ (intR_bad _ (intR_bad _ (truR_bad _ (intR_bad _ h))))
theorem podRd_bad (r : Rd) (h : r.2 = true) : (podRd r).2.2 = true := intR_bad _ (vecR4_bad _ (intR_bad _ (intR_bad _ (intR_bad _ h))))
theorem fine_inv {r : Rd} (h : fineR r = true) : r.2 = false ∧ r.1 = [] := by
  obtain ⟨l, b⟩ := r
  simp only [fineR, Bool.and_eq_true, Bool.not_eq_true', decide_eq_true_eq] at h
  exact ⟨h.1, List.eq_nil_of_length_eq_zero h.2⟩
theorem snap_once {b : List Nat} (hb : U8 b) {s : Snap} (h : snapRd b = .inr s) : checkB s = none ∧ putL (snapN s) = b ∧ s.wf := by
  cases hB : begN b 0 [8, 8, 12] with
  | inl e => unfold snapRd at h; rw [hB] at h; simp at h
  | inr q =>
    obtain ⟨out, rst⟩ := q
    obtain ⟨l, hl, e2, e3, rfl, rfl⟩ := begN_out hB
    obtain ⟨n, m, k, l', rfl⟩ : ∃ n m k l', l = n :: m :: k :: l' := by
      match l with
      | n :: m :: k :: l' => exact ⟨n, m, k, l', rfl⟩
      | [] | [_] | [_, _] => simp at e2
    obtain ⟨hput, hu⟩ := allN_back b.length b _ (Nat.le_refl _) hb hl
    have hR : snapRd b = if fineR (snapsRd n m k (l', false)).2 = true then (match checkB (snapsRd n m k (l', false)).1 with | some q => .inl (errG (some q)) | none => .inr (snapsRd n m k (l', false)).1) else .inl (codeE 2) := by
      unfold snapRd
      rw [hB]
      rfl
    rw [hR] at h
    have hu' : U64 l' := U64_tail (U64_tail (U64_tail hu))
    have hbd : n ≤ 8 ∧ m ≤ 8 ∧ k ≤ 12 := by simpa [boundB, and_assoc] using e3
    split at h
    · rename_i hf
      obtain ⟨f1, f2⟩ := fine_inv hf
      split at h
      · simp at h
      · rename_i hc
        simp only [Sum.inr.injEq] at h
        rw [h] at hc
        have sp : ∀ (n : Nat) (l : List Nat) (b : Bool), (manyRd podRd n (l, b)).2.2 = false → b = false := fun n l b h => by
          cases b with
          | false => rfl
          | true => rw [manyRd_bad podRd_bad n _ rfl] at h; simp at h
        have sl : ∀ (n : Nat) (l : List Nat) (b : Bool), (manyRd loadRd n (l, b)).2.2 = false → b = false := fun n l b h => by
          cases b with
          | false => rfl
          | true => rw [manyRd_bad loadRd_bad n _ rfl] at h; simp at h
        unfold snapsRd at f1 f2 h
        dsimp only at f1 f2 h
        have g2 := sp k (manyRd loadRd m (manyRd nodeRd n (l', false)).2).2.1 (manyRd loadRd m (manyRd nodeRd n (l', false)).2).2.2 f1
        have g1 := sl m (manyRd nodeRd n (l', false)).2.1 (manyRd nodeRd n (l', false)).2.2 g2
        obtain ⟨_, w1, a1⟩ := many_undo nodeRd_bad node_undo n l' false hu' g1
        have u1 : U64 (manyRd nodeRd n (l', false)).2.1 := by rw [a1] at hu'; exact U64_of_app hu'
        obtain ⟨_, w2, a2⟩ := many_undo loadRd_bad load_undo m (manyRd nodeRd n (l', false)).2.1 (manyRd nodeRd n (l', false)).2.2 u1 g2
        have u2 : U64 (manyRd loadRd m (manyRd nodeRd n (l', false)).2).2.1 := by rw [a2] at u1; exact U64_of_app u1
        obtain ⟨_, w3, a3⟩ := many_undo podRd_bad pod_undo k (manyRd loadRd m (manyRd nodeRd n (l', false)).2).2.1 (manyRd loadRd m (manyRd nodeRd n (l', false)).2).2.2 u2 f1
        have q1 := manyRd_len nodeRd n (l', false)
        have q2 := manyRd_len loadRd m (manyRd nodeRd n (l', false)).2
        have q3 := manyRd_len podRd k (manyRd loadRd m (manyRd nodeRd n (l', false)).2).2
        subst h
        refine ⟨hc, ?_, w1, w2, w3⟩
        rw [← hput]
        congr 1
        simp only [snapN, q1, q2, q3, List.map_cons, List.map_nil, toU_n (show n ≤ 2147483647 by omega), toU_n (show m ≤ 2147483647 by omega), toU_n (show k ≤ 2147483647 by omega), List.cons_append, List.nil_append, List.append_assoc]
        have e : l' = List.flatMap nodeN (manyRd nodeRd n (l', false)).1 ++ (List.flatMap loadN (manyRd loadRd m (manyRd nodeRd n (l', false)).2).1 ++ List.flatMap podN (manyRd podRd k (manyRd loadRd m (manyRd nodeRd n (l', false)).2).2).1) := by
          rw [f2, List.append_nil] at a3
          exact a1.trans (congrArg _ (a2.trans (congrArg _ a3)))
        rw [← e]
    · simp at h
theorem wantsF_eq : ∀ (l : List Want) (acc : List Nat), (∀ w ∈ l, smallI w.pod = true) → wantsF acc l = some (acc ++ l.flatMap wantN)
  | [], acc, h => by simp [wantsF]
  | w :: r, acc, h => by
    unfold wantsF
    rw [if_pos (h w (List.mem_cons_self ..)), wantsF_eq r _ (fun v hv => h v (List.mem_cons_of_mem _ hv)), List.flatMap_cons, List.append_assoc]
theorem movesF_eq : ∀ (l : List Move) (acc : List Nat), (∀ w ∈ l, moveOK w = true) → movesF acc l = some (acc ++ l.flatMap moveN)
  | [], acc, h => by simp [movesF]
  | w :: r, acc, h => by
    unfold movesF
    rw [if_pos (h w (List.mem_cons_self ..)), movesF_eq r _ (fun v hv => h v (List.mem_cons_of_mem _ hv)), List.flatMap_cons, List.append_assoc]
theorem spec_once {b : List Nat} (hb : U8 b) {x : Spec} (h : specRd b = .inr x) : (∃ l, specN x = some l ∧ putL l = b) ∧ x.wf := by
  cases hB : begN b 2 [12] with
  | inl e => unfold specRd at h; rw [hB] at h; simp at h
  | inr q =>
    obtain ⟨out, rst⟩ := q
    obtain ⟨l, hl, e2, e3, rfl, rfl⟩ := begN_out hB
    obtain ⟨n, p, q, r, rfl⟩ : ∃ n p q r, l = n :: p :: q :: r := by
      match l with
      | n :: p :: q :: r => exact ⟨n, p, q, r, rfl⟩
      | [] | [_] | [_, _] => simp at e2
    obtain ⟨hput, hu⟩ := allN_back b.length b _ (Nat.le_refl _) hb hl
    have hbd : n ≤ 12 := by simpa [boundB] using e3
    have hS : specRd b = if fineR (manyRd wantRd n (r, (!numB p) || !numB q)).2 = true then .inr ⟨(manyRd wantRd n (r, (!numB p) || !numB q)).1, (numV p : Nat), (numV q : Nat)⟩ else .inl (codeE 2) := by
      unfold specRd
      rw [hB]
      simp only [List.length_cons, List.length_nil, List.take_succ_cons, List.take_zero, List.headD_cons, Nat.zero_add, List.drop_succ_cons, List.drop_zero, intR_eq, Bool.false_or]
    rw [hS] at h
    have hu' : U64 r := U64_tail (U64_tail (U64_tail hu))
    split at h
    · rename_i hf
      obtain ⟨f1, f2⟩ := fine_inv hf
      simp only [Sum.inr.injEq] at h
      obtain ⟨hb0, hP, a1⟩ := many_undo wantRd_bad want_undo n r _ hu' f1
      simp only [Bool.or_eq_false_iff, Bool.not_eq_false'] at hb0
      have hp : p ≤ 2147483647 := by have := hb0.1; unfold numB at this; simpa using this
      have hq : q ≤ 2147483647 := by have := hb0.2; unfold numB at this; simpa using this
      have vp : numV p = p := by unfold numV; rw [if_neg (by omega)]
      have vq : numV q = q := by unfold numV; rw [if_neg (by omega)]
      rw [vp, vq] at h
      subst h
      have q1 := manyRd_len wantRd n (r, (!numB p) || !numB q)
      refine ⟨⟨n :: p :: q :: r, ?_, hput⟩, fun w hw => (hP w hw).2, inI_n hp, inI_n hq⟩
      unfold specN
      dsimp only
      rw [q1, if_neg (by omega), if_pos (by rw [small_n hp, small_n hq]; rfl), wantsF_eq _ _ (fun w hw => (hP w hw).1), toU_n (show n ≤ 2147483647 by omega), toU_n hp, toU_n hq]
      rw [f2, List.append_nil] at a1
      exact congrArg (fun t => some (n :: p :: q :: t)) a1.symm
    · simp at h
theorem moves_once {b : List Nat} (hb : U8 b) {x : List Move} (h : movesRd b = .inr x) : ∃ l, movesN x = some l ∧ putL l = b := by
  cases hB : begN b 0 [40] with
  | inl e => unfold movesRd at h; rw [hB] at h; simp at h
  | inr q =>
    obtain ⟨out, rst⟩ := q
    obtain ⟨l, hl, e2, e3, rfl, rfl⟩ := begN_out hB
    obtain ⟨n, r, rfl⟩ : ∃ n r, l = n :: r := by
      match l with
      | n :: r => exact ⟨n, r, rfl⟩
      | [] => simp at e2
    obtain ⟨hput, hu⟩ := allN_back b.length b _ (Nat.le_refl _) hb hl
    have hbd : n ≤ 40 := by simpa [boundB] using e3
    have hS : movesRd b = if fineR (manyRd moveRd n (r, false)).2 = true then .inr (manyRd moveRd n (r, false)).1 else .inl (codeE 2) := by
      unfold movesRd
      rw [hB]
      rfl
    rw [hS] at h
    split at h
    · rename_i hf
      obtain ⟨f1, f2⟩ := fine_inv hf
      simp only [Sum.inr.injEq] at h
      obtain ⟨hb0, hP, a1⟩ := many_undo moveRd_bad move_undo n r _ (U64_tail hu) f1
      subst h
      have q1 := manyRd_len moveRd n (r, false)
      refine ⟨n :: r, ?_, hput⟩
      unfold movesN
      rw [q1, if_neg (by omega), movesF_eq _ _ hP, toU_n (show n ≤ 2147483647 by omega)]
      rw [f2, List.append_nil] at a1
      exact congrArg (fun t => some (n :: t)) a1.symm
    · simp at h
end Go.Proofs.YtjmggjlfamjdbaaDoor.Ab
set_option linter.unusedVariables false
set_option linter.unusedSimpArgs false
namespace Go.Proofs.YtjmggjlfamjdbaaDoor.Ab
open Go
def movesP (l : List Move) : PV := .slice (l.map moveC)
theorem fits_moves {p : PV} (h : Fits (.sl moveS) p) : ∃ l : List Move, p = movesP l ∧ ∀ m ∈ l, m.wf := by
  simp only [Fits] at h
  obtain ⟨l, rfl, h⟩ := h
  obtain ⟨x, rfl, k⟩ := rows_map (enc := moveC) (W := Move.wf) (fun e he => fits_move (h e he))
  exact ⟨x, rfl, k⟩
end Go.Proofs.YtjmggjlfamjdbaaDoor.Ab
set_option linter.unusedVariables false
set_option linter.unusedSimpArgs false
namespace Go.Proofs.YtjmggjlfamjdbaaDoor.Ab
open Go
structure Std3f (T : Tab) : Prop where
  b : Std3 T
  h80 : Std T 80 f80
  h90 : Std T 90 f90
  c : StdC T
section
variable {T : Tab}
end
end Go.Proofs.YtjmggjlfamjdbaaDoor.Ab
set_option linter.unusedVariables false
set_option linter.unusedSimpArgs false
namespace Go.Proofs.YtjmggjlfamjdbaaDoor.Ab
open Go
section
variable {T : Tab}
end
end Go.Proofs.YtjmggjlfamjdbaaDoor.Ab
set_option linter.unusedVariables false
set_option linter.unusedSimpArgs false
namespace Go.Proofs.YtjmggjlfamjdbaaDoor.Ab
open Go
section
variable {T : Tab}
end
end Go.Proofs.YtjmggjlfamjdbaaDoor.Ab
set_option linter.unusedVariables false
set_option linter.unusedSimpArgs false
namespace Go.Proofs.YtjmggjlfamjdbaaDoor.Ab
open Go
def l04 : List (Nat × AFunc) := [(16, f16), (17, f17), (18, f18), (19, f19), (20, f20), (21, f21), (22, f22), (23, f23), (76, f76), (77, f77), (78, f78), (79, f79), (81, f81), (82, f82), (85, f85), (86, f86), (87, f87), (88, f88), (89, f89), (92, f92), (93, f93), (94, f94), (98, f98), (99, f99), (100, f100), (102, f102), (105, f105),
  (146, f146), (148, f148), (149, f149), (150, f150), (161, f161), (162, f162), (257, f257), (258, f258), (259, f259), (261, f261), (262, f262), (264, f264), (265, f265), (334, f334), (342, f342), (343, f343), (344, f344), (351, f351)]
def p04 : List (Nat × Prm) := [(103, isP), (266, asP)]
def T04 : Tab := tabOf l04 [16, 17, 18, 19, 20, 21, 22, 23, 77, 78, 79, 98, 266] [99, 282] [] [342] p04
theorem W4 : Std4w T04 := ⟨⟨rfl, rfl, rfl, rfl⟩, ⟨rfl, rfl, rfl, rfl⟩, ⟨rfl, rfl, rfl, rfl, rfl⟩, rfl, ⟨rfl, rfl, rfl, rfl, rfl⟩, ⟨rfl, rfl, rfl, rfl, rfl⟩, rfl⟩
end Go.Proofs.YtjmggjlfamjdbaaDoor.Ab
set_option linter.unusedVariables false
set_option linter.unusedSimpArgs false
namespace Go.Proofs.YtjmggjlfamjdbaaDoor.Ab
open Go
/-! ### What was written -/
theorem small_U {n : Int} (h : smallI n = true) : toU n ≤ 2147483647 ∧ ((toU n : Nat) : Int) = n := by
  simp only [smallI, Bool.and_eq_true, decide_eq_true_eq] at h
  have : ((toU n : Nat) : Int) = n := by rw [toU_cast, wrapU'] <;> omega
  exact ⟨by omega, this⟩
theorem int_fwd {n : Int} (h : smallI n = true) (r : List Nat) : intR (toU n :: r, false) = (toU n, (r, false)) := intR_cons _ _ (small_U h).1
theorem vec_fwd {v : Vec} (h : v.wf) (r : List Nat) : vecR4 (vecL v ++ r, false) = (v, (r, false)) := by
  obtain ⟨a, b, c, d⟩ := v
  simp only [vecL, vecR4, nextR, List.cons_append, List.nil_append, toU_u h.1, toU_u h.2.1, toU_u h.2.2.1, toU_u h.2.2.2]
theorem tru_fwd (b : Bool) (r : List Nat) : truR (toU (truI b) :: r, false) = (b, (r, false)) := by
  cases b <;> rfl
def Fwd {α : Type} (f : Rd → α × Rd) (g : α → List Nat) (P : α → Prop) : Prop := ∀ (x : α) (r : List Nat), P x → f (g x ++ r, false) = (x, (r, false))
theorem many_fwd {α : Type} {f : Rd → α × Rd} {g : α → List Nat} {P : α → Prop} (hf : Fwd f g P) : ∀ (l : List α) (r : List Nat), (∀ x ∈ l, P x) → manyRd f l.length (l.flatMap g ++ r, false) = (l, (r, false))
  | [], r, h => rfl
  | x :: l, r, h => by
    simp only [List.length_cons, manyRd, List.flatMap_cons, List.append_assoc]
    rw [hf x _ (h x (List.mem_cons_self ..)), many_fwd hf l r fun y hy => h y (List.mem_cons_of_mem _ hy)]
theorem node_fwd : Fwd nodeRd nodeN fun n => n.wf ∧ smallI n.id = true ∧ smallI n.zone = true := by
  rintro ⟨id, zone, cap, held⟩ r ⟨hw, h1, h2⟩
  have e : nodeN ⟨id, zone, cap, held⟩ ++ r = toU id :: toU zone :: (vecL cap ++ (vecL held ++ r)) := by simp [nodeN]
  unfold nodeRd
  rw [e, int_fwd h1, int_fwd h2, vec_fwd hw.2.2.1, vec_fwd hw.2.2.2]
  simp only [(small_U h1).2, (small_U h2).2]
theorem load_fwd : Fwd loadRd loadN fun n => smallI n.id = true ∧ smallI n.skew = true ∧ smallI n.min = true ∧ smallI n.max = true := by
  rintro ⟨id, ap, skew, mn, mx⟩ r ⟨h1, h2, h3, h4⟩
  have e : loadN ⟨id, ap, skew, mn, mx⟩ ++ r = toU id :: toU (truI ap) :: toU skew :: toU mn :: toU mx :: r := by simp [loadN]
  unfold loadRd
  rw [e, int_fwd h1, tru_fwd, int_fwd h2, int_fwd h3, int_fwd h4]
  simp only [(small_U h1).2, (small_U h2).2, (small_U h3).2, (small_U h4).2]
theorem pod_fwd : Fwd podRd podN fun n => n.wf ∧ smallI n.id = true ∧ smallI n.load = true ∧ smallI n.prio = true ∧ smallI n.node = true := by
  rintro ⟨id, load, prio, req, node⟩ r ⟨hw, h1, h2, h3, h4⟩
  have e : podN ⟨id, load, prio, req, node⟩ ++ r = toU id :: toU load :: toU prio :: (vecL req ++ (toU node :: r)) := by simp [podN]
  unfold podRd
  rw [e, int_fwd h1, int_fwd h2, int_fwd h3, vec_fwd hw.2.2.2.1, int_fwd h4]
  simp only [(small_U h1).2, (small_U h2).2, (small_U h3).2, (small_U h4).2]
theorem want_fwd : Fwd wantRd wantN fun w => w.wf ∧ smallI w.pod = true := by
  rintro ⟨pod, req, stay⟩ r ⟨hw, h1⟩
  have e : wantN ⟨pod, req, stay⟩ ++ r = toU pod :: (vecL req ++ (toU (truI stay) :: r)) := by simp [wantN]
  unfold wantRd
  rw [e, int_fwd h1, vec_fwd hw.2, tru_fwd]
  simp only [(small_U h1).2]
theorem move_fwd : Fwd moveRd moveN fun m => moveOK m = true := by
  rintro ⟨kind, pod, node, over⟩ r h
  simp only [moveOK, List.all_cons, List.all_nil, Bool.and_true, Bool.and_eq_true] at h
  obtain ⟨h1, h2, h3, h4⟩ := h
  have e : moveN ⟨kind, pod, node, over⟩ ++ r = toU kind :: toU pod :: toU node :: toU over :: r := by simp [moveN]
  unfold moveRd
  rw [e, int_fwd h1, int_fwd h2, int_fwd h3, int_fwd h4]
  simp only [(small_U h1).2, (small_U h2).2, (small_U h3).2, (small_U h4).2]
theorem fstB_small {α : Type} {idOf own : α → Int} : ∀ (l : List α) (last a : Int), fstB idOf own last a l = none → ∀ x ∈ l, smallI (idOf x) = true ∧ own x = 0
  | [], last, a, _ => fun x hx => by simp at hx
  | x :: r, last, a, h => by
    simp only [fstB] at h
    cases hl : lookB a (idOf x) last (own x) with
    | some q => rw [hl, Option.some_or] at h; simp at h
    | none =>
      rw [hl, Option.none_or] at h
      have hc : lookC (idOf x) last (own x) = 0 := by
        unfold lookB at hl
        split at hl
        · simp at hl
        · rename_i h0; simpa using h0
      have hi : idP (idOf x) last = 0 := by
        unfold lookC at hc
        split at hc
        · exact hc
        · rename_i h0; simpa using h0
      have ho : own x = 0 := by
        unfold lookC at hc
        rw [if_neg (by simpa using hi)] at hc
        exact hc
      have hs : 1 ≤ idOf x ∧ idOf x ≤ 2147483647 := by
        unfold idP at hi
        split at hi
        · omega
        · split at hi <;> omega
      intro y hy
      rcases List.mem_cons.1 hy with rfl | hy
      · refine ⟨?_, ho⟩
        unfold smallI
        rw [decide_eq_true (by omega), decide_eq_true (by omega)]
        rfl
      · exact fstB_small r _ _ h y hy
theorem countB_small {n : Int} (h : countB n = true) : smallI n = true := by
  simp only [countB, Bool.and_eq_true, decide_eq_true_eq] at h
  unfold smallI
  rw [decide_eq_true (by omega), decide_eq_true (by omega)]
  rfl
theorem checkB_small {s : Snap} (h : checkB s = none) : sizesOK s = true ∧ (∀ n ∈ s.nodes, smallI n.id = true ∧ smallI n.zone = true) ∧ (∀ n ∈ s.loads, smallI n.id = true ∧ smallI n.skew = true ∧ smallI n.min = true ∧ smallI n.max = true) ∧ ∀ n ∈ s.pods, smallI n.id = true ∧ smallI n.load = true ∧ smallI n.prio = true ∧ smallI n.node = true := by
  unfold checkB at h
  split at h
  · rename_i hz
    cases h1 : fstB Node.id nodeBad 0 0 s.nodes with
    | some q => rw [h1, Option.some_or, Option.some_or] at h; simp at h
    | none =>
      cases h2 : fstB Load.id loadBad 0 s.nodes.length s.loads with
      | some q => rw [h1, h2, Option.none_or, Option.some_or] at h; simp at h
      | none =>
        rw [h1, h2, Option.none_or, Option.none_or] at h
        have hN : ∀ n ∈ s.nodes, smallI n.id = true ∧ smallI n.zone = true := fun n hn => by
          obtain ⟨a, b⟩ := fstB_small _ _ _ h1 n hn
          refine ⟨a, ?_⟩
          unfold nodeBad at b
          split at b
          · rename_i hh
            unfold smallI
            rw [decide_eq_true (by omega), decide_eq_true (by omega)]
            rfl
          · simp at b
        have hL : ∀ n ∈ s.loads, smallI n.id = true ∧ smallI n.skew = true ∧ smallI n.min = true ∧ smallI n.max = true := fun n hn => by
          obtain ⟨a, b⟩ := fstB_small _ _ _ h2 n hn
          unfold loadBad at b
          split at b
          · rename_i hh
            exact ⟨a, countB_small hh.1, countB_small hh.2.1, countB_small hh.2.2.1⟩
          · simp at b
        refine ⟨hz, hN, hL, fun p hp => ?_⟩
        obtain ⟨a, b⟩ := fstB_small _ _ _ h p hp
        unfold podBad at b
        split at b
        · simp at b
        · rename_i hp1
          split at b
          · simp at b
          · rename_i hh
            have hprio : countB p.prio = true := by simpa using hp1
            refine ⟨a, ?_, countB_small hprio, ?_⟩
            · cases hl : loadOf p.load s.loads with
              | none => exact absurd (.inl hl) hh
              | some q =>
                unfold loadOf at hl
                have e : q.id = p.load := by simpa using List.find?_some hl
                rw [← e]
                exact (hL q (List.mem_of_find?_eq_some hl)).1
            · by_cases h0 : p.node = 0
              · rw [h0]; rfl
              · cases hl : nodeOf p.node s.nodes with
                | none => exact absurd (.inr ⟨h0, hl⟩) hh
                | some q =>
                  unfold nodeOf at hl
                  have e : q.id = p.node := by simpa using List.find?_some hl
                  rw [← e]
                  exact (hN q (List.mem_of_find?_eq_some hl)).1
  · simp at h
theorem snap_back {s : Snap} (hs : s.wf) (h : checkB s = none) : snapRd (putL (snapN s)) = .inr s := by
  obtain ⟨hz, hN, hL, hP⟩ := checkB_small h
  simp only [sizesOK, Bool.and_eq_true, decide_eq_true_eq] at hz
  have hA := allN_put (snapN s) (snapN_u s)
  have e1 : toU (s.nodes.length : Int) = s.nodes.length := toU_nat _ (by omega)
  have e2 : toU (s.loads.length : Int) = s.loads.length := toU_nat _ (by omega)
  have e3 : toU (s.pods.length : Int) = s.pods.length := toU_nat _ (by omega)
  have hS : snapN s = s.nodes.length :: s.loads.length :: s.pods.length :: (s.nodes.flatMap nodeN ++ (s.loads.flatMap loadN ++ (s.pods.flatMap podN ++ []))) := by
    simp [snapN, e1, e2, e3]
  have hB : begN (putL (snapN s)) 0 [8, 8, 12] = .inr ([s.nodes.length, s.loads.length, s.pods.length], s.nodes.flatMap nodeN ++ (s.loads.flatMap loadN ++ (s.pods.flatMap podN ++ []))) := by
    unfold begN
    rw [hA]
    dsimp only
    rw [hS, if_neg (by simp), if_pos (by simp [boundB]; omega)]
    rfl
  have hR : snapsRd s.nodes.length s.loads.length s.pods.length (s.nodes.flatMap nodeN ++ (s.loads.flatMap loadN ++ (s.pods.flatMap podN ++ [])), false) = (s, ([], false)) := by
    unfold snapsRd
    rw [many_fwd node_fwd s.nodes _ (fun n hn => ⟨hs.1 n hn, hN n hn⟩)]
    dsimp only
    rw [many_fwd load_fwd s.loads _ hL]
    dsimp only
    rw [many_fwd pod_fwd s.pods _ (fun n hn => ⟨hs.2.2 n hn, hP n hn⟩)]
  unfold snapRd
  rw [hB]
  dsimp only
  rw [hR]
  dsimp only
  rw [if_pos (by rfl), h]
theorem wantsF_some : ∀ (l : List Want) (acc tot : List Nat), wantsF acc l = some tot → (∀ w ∈ l, smallI w.pod = true) ∧ tot = acc ++ l.flatMap wantN
  | [], acc, tot, h => by simp only [wantsF, Option.some.injEq] at h; subst h; simp
  | w :: r, acc, tot, h => by
    unfold wantsF at h
    split at h
    · rename_i hw
      obtain ⟨h1, h2⟩ := wantsF_some r _ _ h
      refine ⟨fun v hv => ?_, by rw [h2, List.flatMap_cons, List.append_assoc]⟩
      rcases List.mem_cons.1 hv with rfl | hv
      · exact hw
      · exact h1 v hv
    · simp at h
theorem movesF_some : ∀ (l : List Move) (acc tot : List Nat), movesF acc l = some tot → (∀ w ∈ l, moveOK w = true) ∧ tot = acc ++ l.flatMap moveN
  | [], acc, tot, h => by simp only [movesF, Option.some.injEq] at h; subst h; simp
  | w :: r, acc, tot, h => by
    unfold movesF at h
    split at h
    · rename_i hw
      obtain ⟨h1, h2⟩ := movesF_some r _ _ h
      refine ⟨fun v hv => ?_, by rw [h2, List.flatMap_cons, List.append_assoc]⟩
      rcases List.mem_cons.1 hv with rfl | hv
      · exact hw
      · exact h1 v hv
    · simp at h
theorem specN_u {x : Spec} {tot : List Nat} (hN : specN x = some tot) : U64 tot ∧ tot.length ≤ 1000 := by
  unfold specN at hN
  split at hN
  · simp at hN
  · split at hN
    · refine ⟨wantsF_u64 _ _ _ (fun n hn => ?_) hN, ?_⟩
      · simp only [List.mem_cons, List.not_mem_nil, or_false] at hn
        rcases hn with rfl | rfl | rfl <;> exact toU_lt _
      · have := wantsF_len _ _ _ hN
        simp only [List.length_cons, List.length_nil] at this
        omega
    · simp at hN
theorem movesN_u {l : List Move} {tot : List Nat} (hN : movesN l = some tot) : U64 tot ∧ tot.length ≤ 1000 := by
  unfold movesN at hN
  split at hN
  · simp at hN
  · refine ⟨movesF_u64 _ _ _ (U64_1 _) hN, ?_⟩
    have := movesF_len _ _ _ hN
    simp only [List.length_cons, List.length_nil] at this
    omega
theorem spec_back {x : Spec} (hx : x.wf) {tot : List Nat} (h : specN x = some tot) : specRd (putL tot) = .inr x := by
  have hu := (specN_u h).1
  unfold specN at h
  split at h
  · simp at h
  · rename_i hlen
    split at h
    · rename_i hps
      simp only [Bool.and_eq_true] at hps
      obtain ⟨hsm, rfl⟩ := wantsF_some _ _ _ h
      have hA := allN_put _ hu
      have e1 : toU (x.wants.length : Int) = x.wants.length := toU_nat _ (by omega)
      have hB : begN (putL ([toU x.wants.length, toU x.pre, toU x.shi] ++ x.wants.flatMap wantN)) 2 [12] = .inr ([x.wants.length], toU x.pre :: toU x.shi :: (x.wants.flatMap wantN ++ [])) := by
        unfold begN
        rw [hA]
        dsimp only
        rw [if_neg (by simp), if_pos (by simp [boundB, e1]; omega)]
        simp [e1]
      have hM := many_fwd want_fwd x.wants [] (fun w hw => ⟨hx.1 w hw, hsm w hw⟩)
      have hf : fineR ([], false) = true := rfl
      unfold specRd
      rw [hB]
      simp only [List.headD_cons, int_fwd hps.1, int_fwd hps.2, hM, hf, if_true, (small_U hps.1).2, (small_U hps.2).2]
    · simp at h
theorem moves_back {l : List Move} {tot : List Nat} (h : movesN l = some tot) : movesRd (putL tot) = .inr l := by
  have hu := (movesN_u h).1
  unfold movesN at h
  split at h
  · simp at h
  · rename_i hlen
    obtain ⟨hsm, rfl⟩ := movesF_some _ _ _ h
    have hA := allN_put _ hu
    have e1 : toU (l.length : Int) = l.length := toU_nat _ (by omega)
    have hB : begN (putL ([toU l.length] ++ l.flatMap moveN)) 0 [40] = .inr ([l.length], l.flatMap moveN ++ []) := by
      unfold begN
      rw [hA]
      dsimp only
      rw [if_neg (by simp), if_pos (by simp [boundB, e1]; omega)]
      simp [e1]
    have hM := many_fwd move_fwd l [] hsm
    have hf : fineR ([], false) = true := rfl
    unfold movesRd
    rw [hB]
    simp only [List.headD_cons, hM, hf, if_true]
end Go.Proofs.YtjmggjlfamjdbaaDoor.Ab
set_option linter.unusedVariables false
set_option linter.unusedSimpArgs false
namespace Go.Proofs.YtjmggjlfamjdbaaDoor.Ab
open Go
def l04c : List (Nat × AFunc) := [(16, f16), (17, f17), (18, f18), (19, f19), (20, f20), (21, f21), (22, f22), (23, f23), (76, f76), (77, f77), (78, f78), (79, f79), (81, f81), (82, f82), (85, f85), (86, f86), (87, f87), (88, f88), (89, f89), (92, f92), (93, f93), (94, f94), (95, f95), (96, f96), (97, f97), (98, f98), (99, f99), (100, f100),
  (257, f257), (258, f258), (259, f259), (261, f261), (262, f262), (264, f264), (265, f265), (336, f336), (342, f342)]
def p04c : List (Nat × Prm) := [(266, asP)]
def T04c : Tab := tabOf l04c [16, 17, 18, 19, 20, 21, 22, 23, 77, 78, 79, 98, 266] [99, 282] [] [342] p04c
theorem up04c : Gives T04c 342 [] (.bool true) := ⟨rfl, rfl, none, callP_true (k := 60) (by decide +kernel)⟩
def l04d : List (Nat × AFunc) := [(16, f16), (17, f17), (18, f18), (19, f19), (20, f20), (21, f21), (22, f22), (23, f23), (76, f76), (77, f77), (78, f78), (79, f79), (81, f81), (82, f82), (85, f85), (86, f86), (87, f87), (88, f88), (89, f89), (92, f92), (93, f93), (94, f94), (95, f95), (96, f96), (97, f97), (98, f98), (99, f99), (100, f100), (153, f153),
  (257, f257), (258, f258), (259, f259), (261, f261), (262, f262), (264, f264), (265, f265), (335, f335), (342, f342), (344, f344), (345, f345), (346, f346)]
def T04d : Tab := tabOf l04d [16, 17, 18, 19, 20, 21, 22, 23, 77, 78, 79, 98, 266] [99, 282] [] [342] p04c
theorem up04d : Gives T04d 342 [] (.bool true) := ⟨rfl, rfl, none, callP_true (k := 60) (by decide +kernel)⟩
theorem W4c : Std4w T04c := ⟨⟨rfl, rfl, rfl, rfl⟩, ⟨rfl, rfl, rfl, rfl⟩, ⟨rfl, rfl, rfl, rfl, rfl⟩, rfl, ⟨rfl, rfl, rfl, rfl, rfl⟩, ⟨rfl, rfl, rfl, rfl, rfl⟩, rfl⟩
theorem R4c : Std4r T04c := ⟨⟨rfl, rfl, rfl, rfl⟩, ⟨rfl, rfl, rfl, rfl⟩, ⟨rfl, rfl, rfl, rfl⟩, ⟨rfl, rfl, rfl, rfl⟩, ⟨rfl, rfl, rfl, rfl⟩, ⟨rfl, rfl, rfl, rfl⟩, ⟨rfl, rfl, rfl, rfl, rfl⟩, ⟨rfl, rfl, rfl, rfl, rfl⟩⟩
theorem C4c : Std3 T04c := ⟨⟨rfl, rfl, rfl, rfl⟩, ⟨rfl, rfl, rfl, rfl, rfl⟩, stdA rfl rfl, ⟨rfl, rfl, rfl, rfl⟩, ⟨rfl, rfl, rfl, rfl⟩, ⟨rfl, rfl, rfl, rfl⟩, ⟨rfl, rfl, rfl, rfl, rfl⟩, ⟨rfl, rfl, rfl, rfl, rfl⟩, ⟨rfl, rfl, rfl, rfl, rfl⟩, ⟨rfl, rfl, rfl, rfl, rfl⟩, ⟨rfl, rfl, rfl, rfl, rfl⟩, ⟨rfl, rfl, rfl, rfl, rfl⟩, ⟨⟨rfl, rfl, rfl, rfl, rfl⟩, ⟨rfl, rfl, rfl, rfl, rfl⟩, ⟨rfl, rfl, rfl, rfl, rfl⟩, ⟨rfl, rfl, rfl, rfl, rfl⟩⟩, ⟨rfl, rfl, rfl, rfl, rfl⟩⟩
theorem W4d : Std4w T04d := ⟨⟨rfl, rfl, rfl, rfl⟩, ⟨rfl, rfl, rfl, rfl⟩, ⟨rfl, rfl, rfl, rfl, rfl⟩, rfl, ⟨rfl, rfl, rfl, rfl, rfl⟩, ⟨rfl, rfl, rfl, rfl, rfl⟩, rfl⟩
theorem R4d : Std4r T04d := ⟨⟨rfl, rfl, rfl, rfl⟩, ⟨rfl, rfl, rfl, rfl⟩, ⟨rfl, rfl, rfl, rfl⟩, ⟨rfl, rfl, rfl, rfl⟩, ⟨rfl, rfl, rfl, rfl⟩, ⟨rfl, rfl, rfl, rfl⟩, ⟨rfl, rfl, rfl, rfl, rfl⟩, ⟨rfl, rfl, rfl, rfl, rfl⟩⟩
theorem C4d : Std3 T04d := ⟨⟨rfl, rfl, rfl, rfl⟩, ⟨rfl, rfl, rfl, rfl, rfl⟩, stdA rfl rfl, ⟨rfl, rfl, rfl, rfl⟩, ⟨rfl, rfl, rfl, rfl⟩, ⟨rfl, rfl, rfl, rfl⟩, ⟨rfl, rfl, rfl, rfl, rfl⟩, ⟨rfl, rfl, rfl, rfl, rfl⟩, ⟨rfl, rfl, rfl, rfl, rfl⟩, ⟨rfl, rfl, rfl, rfl, rfl⟩, ⟨rfl, rfl, rfl, rfl, rfl⟩, ⟨rfl, rfl, rfl, rfl, rfl⟩, ⟨⟨rfl, rfl, rfl, rfl, rfl⟩, ⟨rfl, rfl, rfl, rfl, rfl⟩, ⟨rfl, rfl, rfl, rfl, rfl⟩, ⟨rfl, rfl, rfl, rfl, rfl⟩⟩, ⟨rfl, rfl, rfl, rfl, rfl⟩⟩
theorem snapRd_err {b : List Nat} {e : PV} (h : snapRd b = .inl e) : ∃ t x, e = .iface t x := by
  unfold snapRd at h
  split at h
  · split at h
    · split at h
      · rename_i q hq
        obtain ⟨c, a⟩ := q
        simp only [Sum.inl.injEq] at h
        subst h
        by_cases ha : a < 0
        · simp only [errG, if_pos ha]; exact ⟨_, _, rfl⟩
        · simp only [errG, if_neg ha]; exact ⟨_, _, rfl⟩
      · simp at h
    · simp only [Sum.inl.injEq] at h; exact ⟨_, _, h.symm⟩
  · rename_i hB
    simp only [Sum.inl.injEq] at h
    subst h
    exact begN_err hB
  · simp only [Sum.inl.injEq] at h; exact ⟨_, _, h.symm⟩
theorem specRd_err {b : List Nat} {e : PV} (h : specRd b = .inl e) : ∃ t x, e = .iface t x := by
  unfold specRd at h
  split at h
  · rename_i hB
    simp only [Sum.inl.injEq] at h
    subst h
    exact begN_err hB
  · split at h
    · simp at h
    · simp only [Sum.inl.injEq] at h; exact ⟨_, _, h.symm⟩
theorem movesRd_err {b : List Nat} {e : PV} (h : movesRd b = .inl e) : ∃ t x, e = .iface t x := by
  unfold movesRd at h
  split at h
  · rename_i hB
    simp only [Sum.inl.injEq] at h
    subst h
    exact begN_err hB
  · split at h
    · simp at h
    · simp only [Sum.inl.injEq] at h; exact ⟨_, _, h.symm⟩
theorem specN_le {x : Spec} {l : List Nat} (h : specN x = some l) : x.wants.length ≤ 12 := by
  unfold specN at h
  split at h
  · simp at h
  · omega
theorem movesN_le {x : List Move} {l : List Nat} (h : movesN x = some l) : x.length ≤ 40 := by
  unfold movesN at h
  split at h
  · simp at h
  · omega
set_option maxRecDepth 100000 in
set_option maxHeartbeats 8000000 in
theorem law04c (b : List Nat) (hb : U8 b) : Gives T04c 336 [bytesP b] (.bool true) := by
  refine gives (f := f336) ⟨rfl, rfl, rfl, rfl, rfl⟩ rfl ?_
  by_cases c2 : (5000 : Int) < (b.length : Int)
  · simp only [f336, runL, defL, binV, Nat.reduceEqDiff, Nat.reduceAdd, reduceCtorEq, Int.reduceToNat, Nat.reduceMul, Nat.reduceLT, Int.reduceNeg, Int.reduceLE, Int.reduceLT, Int.reduceEq, Nat.reduceLeDiff, List.drop, List.take, up04c.call, bytesP, c2]
  · have A : ∃ (s : Snap) (e : PV) (p : List Nat) (f : PV), Gives T04c 94 [bytesP b] (.tuple [snapP s, e]) ∧ Gives T04c 96 [snapP s] (.tuple [bytesP p, f]) ∧ ((∃ t x, e = .iface t x) ∨ (e = .nili ∧ p = b ∧ f = .nili)) := by
      have k1 := readSnap_ok R4c C4c rfl ⟨rfl, rfl, rfl, rfl, rfl⟩ b hb (by omega)
      cases h : snapRd b with
      | inl e =>
        rw [h] at k1
        have k2 := snapW_ok W4c C4c ⟨rfl, rfl, rfl, rfl, rfl⟩ ⟨[], [], []⟩ ⟨fun n hn => by simp at hn, fun n hn => by simp at hn, fun n hn => by simp at hn⟩ (by simp)
        exact ⟨_, _, [], _, k1, k2, .inl (snapRd_err h)⟩
      | inr s =>
        rw [h] at k1
        obtain ⟨h1, h2, h3⟩ := snap_once hb h
        have hz := (checkB_small h1).1
        simp only [sizesOK, Bool.and_eq_true, decide_eq_true_eq] at hz
        have k2 := snapW_ok W4c C4c ⟨rfl, rfl, rfl, rfl, rfl⟩ s h3 (by omega)
        unfold snapW at k2
        rw [h1] at k2
        simp only [wrP] at k2
        rw [h2] at k2
        exact ⟨_, _, b, _, k1, k2, .inr ⟨rfl, rfl, rfl⟩⟩
    have B : ∃ (s : Spec) (e : PV) (p : List Nat) (f : PV), Gives T04c 95 [bytesP b] (.tuple [specP s, e]) ∧ Gives T04c 97 [specP s] (.tuple [bytesP p, f]) ∧ ((∃ t x, e = .iface t x) ∨ (e = .nili ∧ p = b ∧ f = .nili)) := by
      have k1 := readSpec_ok R4c ⟨rfl, rfl, rfl, rfl, rfl⟩ b hb (by omega)
      cases h : specRd b with
      | inl e =>
        rw [h] at k1
        have k2 := specW_ok W4c ⟨rfl, rfl, rfl, rfl, rfl⟩ ⟨[], 0, 0⟩ ⟨fun n hn => by simp at hn, by unfold inI; decide, by unfold inI; decide⟩ (by simp)
        exact ⟨_, _, _, _, k1, k2, .inl (specRd_err h)⟩
      | inr s =>
        rw [h] at k1
        obtain ⟨⟨l, h1, h2⟩, h3⟩ := spec_once hb h
        have k2 := specW_ok W4c ⟨rfl, rfl, rfl, rfl, rfl⟩ s h3 (by have := specN_le h1; omega)
        rw [h1] at k2
        simp only [wrP] at k2
        rw [h2] at k2
        exact ⟨_, _, b, _, k1, k2, .inr ⟨rfl, rfl, rfl⟩⟩
    have C : ∃ (s : List Move) (e : PV) (p : List Nat) (f : PV), Gives T04c 93 [bytesP b] (.tuple [.slice (s.map moveC), e]) ∧ Gives T04c 92 [.slice (s.map moveC)] (.tuple [bytesP p, f]) ∧ ((∃ t x, e = .iface t x) ∨ (e = .nili ∧ p = b ∧ f = .nili)) := by
      have k1 := readMoves_ok R4c ⟨rfl, rfl, rfl, rfl, rfl⟩ b hb (by omega)
      cases h : movesRd b with
      | inl e =>
        rw [h] at k1
        have k2 := movesW_ok W4c ⟨rfl, rfl, rfl, rfl, rfl⟩ [] (by simp)
        exact ⟨[], _, _, _, k1, k2, .inl (movesRd_err h)⟩
      | inr s =>
        rw [h] at k1
        obtain ⟨l, h1, h2⟩ := moves_once hb h
        have k2 := movesW_ok W4c ⟨rfl, rfl, rfl, rfl, rfl⟩ s (by have := movesN_le h1; omega)
        rw [h1] at k2
        simp only [wrP] at k2
        rw [h2] at k2
        exact ⟨_, _, b, _, k1, k2, .inr ⟨rfl, rfl, rfl⟩⟩
    obtain ⟨s, e, p, f, k1, k2, hA⟩ := A
    obtain ⟨x, e', p', f', k3, k4, hB⟩ := B
    obtain ⟨m, e'', p'', f'', k5, k6, hC⟩ := C
    simp only [bytesP, snapP, specP] at k1 k2 k3 k4 k5 k6
    rcases hA with ⟨t, x1, rfl⟩ | ⟨rfl, rfl, rfl⟩ <;> rcases hB with ⟨t', x2, rfl⟩ | ⟨rfl, hp', rfl⟩ <;> rcases hC with ⟨t'', x3, rfl⟩ | ⟨rfl, hp'', rfl⟩
    all_goals try rw [hp'] at k4
    all_goals try rw [hp''] at k6
    all_goals simp only [f336, runL, defL, binV, Nat.reduceEqDiff, Nat.reduceAdd, reduceCtorEq, Int.reduceToNat, Nat.reduceMul, Nat.reduceLT, Int.reduceNeg, Int.reduceLE, Int.reduceLT, Int.reduceEq, Nat.reduceLeDiff, List.drop, List.take, up04c.call, bytesP, c2, k1.call, k2.call, k3.call, k4.call, k5.call, k6.call, srcV, bytesV_u8]
/-! ### The same -/
theorem eqNode4 {p : Node} : eqCells [false, false, false, false, false, false, false, false, false, false] (nodeC p) (nodeC p) = some true := by
  simp only [nodeC, eqCells, if_true, Option.some.injEq]
  simp
theorem eqLoad4 {p : Load} : eqCells [false, true, false, false, false] (loadC p) (loadC p) = some true := by
  obtain ⟨a, b, c, d, e⟩ := p
  simp only [loadC, eqCells, if_true, Option.some.injEq]
  cases b <;> simp
theorem eqPod4 {p : Pod} : eqCells [false, false, false, false, false, false, false, false] (podC p) (podC p) = some true := by
  simp only [podC, eqCells, if_true, Option.some.injEq]
  simp
section
variable {T : Tab}
set_option maxHeartbeats 4000000 in
theorem same_l0 (s : Snap) (hl : s.nodes.length ≤ 2 ^ 29) (Q : Exit → St → Prop) (hp : Hl) (nx : Nat) (b0 : blkAt hp 0 = snapB s) (b1 : blkAt hp 1 = snapB s)
    (hend : ∀ fr, look fr 2 = .ptr 0 0 0 → look fr 3 = .ptr 1 0 0 → Q (.exit 0) ⟨fr, hp, nx⟩) :
    ∀ (r : List Node) (i : Nat), s.nodes.drop i = r → i ≤ s.nodes.length → ∀ fr, look fr 2 = .ptr 0 0 0 → look fr 3 = .ptr 1 0 0 → look fr 5 = .pv (.int .i64 i) → Wp T false (.loop f345l0) ⟨fr, hp, nx⟩ Q := by
  simp only [snapB] at b0 b1
  intro r
  induction r with
  | nil =>
    intro i hd hi fr g2 g3 g5
    have hlen := drop_nil hd hi
    rw [Wp_loop, Wp_eq f345l0.eq_1]
    simp only [runL, defL, binV, Nat.reduceEqDiff, Nat.reduceAdd, reduceCtorEq, Int.reduceToNat, Nat.reduceMul, Nat.reduceLT, Int.reduceNeg, Int.reduceLE, Int.reduceLT, Int.reduceEq, Nat.reduceLeDiff, List.drop, List.take, g2, g3, g5, b0, b1, hlen, Int.lt_irrefl]
    refine hend _ ?_ ?_
    all_goals try simp only [look_if, blkAt_if, Nat.reduceEqDiff, if_true, if_false, g2, g3]
  | cons n r ih =>
    intro i hd hi fr g2 g3 g5
    obtain ⟨hget, hlt, hw, hd', hi', hb⟩ := drop_cons hd (by omega)
    rw [Wp_loop, Wp_eq f345l0.eq_1]
    simp only [runL, defL, binV, Nat.reduceEqDiff, Nat.reduceAdd, reduceCtorEq, Int.reduceToNat, Nat.reduceMul, Nat.reduceLT, Int.reduceNeg, Int.reduceLE, Int.reduceLT, Int.reduceEq, Nat.reduceLeDiff, List.drop, List.take, g2, g3, g5, b0, b1, hlt]
    refine (Wp_calmS rfl).2 ?_
    simp only [runL, defL, binV, Nat.reduceEqDiff, Nat.reduceAdd, reduceCtorEq, Int.reduceToNat, Nat.reduceMul, Nat.reduceLT, Int.reduceNeg, Int.reduceLE, Int.reduceLT, Int.reduceEq, Nat.reduceLeDiff, List.drop, List.take, g2, g3, g5, b0, b1, hget, nodeC_length, eqNode4, hw]
    refine ih (i + 1) hd' hi' _ ?_ ?_ ?_
    all_goals try simp only [look_if, blkAt_if, Nat.reduceEqDiff, if_true, if_false, g2, g3]
set_option maxHeartbeats 4000000 in
theorem same_l1 (s : Snap) (hl : s.loads.length ≤ 2 ^ 29) (Q : Exit → St → Prop) (hp : Hl) (nx : Nat) (b0 : blkAt hp 0 = snapB s) (b1 : blkAt hp 1 = snapB s)
    (hend : ∀ fr, look fr 2 = .ptr 0 0 0 → look fr 3 = .ptr 1 0 0 → Q (.exit 2) ⟨fr, hp, nx⟩) :
    ∀ (r : List Load) (i : Nat), s.loads.drop i = r → i ≤ s.loads.length → ∀ fr, look fr 2 = .ptr 0 0 0 → look fr 3 = .ptr 1 0 0 → look fr 6 = .pv (.int .i64 i) → Wp T false (.loop f345l1) ⟨fr, hp, nx⟩ Q := by
  simp only [snapB] at b0 b1
  intro r
  induction r with
  | nil =>
    intro i hd hi fr g2 g3 g5
    have hlen := drop_nil hd hi
    rw [Wp_loop, Wp_eq f345l1.eq_1]
    simp only [runL, defL, binV, Nat.reduceEqDiff, Nat.reduceAdd, reduceCtorEq, Int.reduceToNat, Nat.reduceMul, Nat.reduceLT, Int.reduceNeg, Int.reduceLE, Int.reduceLT, Int.reduceEq, Nat.reduceLeDiff, List.drop, List.take, g2, g3, g5, b0, b1, hlen, Int.lt_irrefl]
    refine hend _ ?_ ?_
    all_goals try simp only [look_if, blkAt_if, Nat.reduceEqDiff, if_true, if_false, g2, g3]
  | cons n r ih =>
    intro i hd hi fr g2 g3 g5
    obtain ⟨hget, hlt, hw, hd', hi', hb⟩ := drop_cons hd (by omega)
    rw [Wp_loop, Wp_eq f345l1.eq_1]
    simp only [runL, defL, binV, Nat.reduceEqDiff, Nat.reduceAdd, reduceCtorEq, Int.reduceToNat, Nat.reduceMul, Nat.reduceLT, Int.reduceNeg, Int.reduceLE, Int.reduceLT, Int.reduceEq, Nat.reduceLeDiff, List.drop, List.take, g2, g3, g5, b0, b1, hlt]
    refine (Wp_calmS rfl).2 ?_
    simp only [runL, defL, binV, Nat.reduceEqDiff, Nat.reduceAdd, reduceCtorEq, Int.reduceToNat, Nat.reduceMul, Nat.reduceLT, Int.reduceNeg, Int.reduceLE, Int.reduceLT, Int.reduceEq, Nat.reduceLeDiff, List.drop, List.take, g2, g3, g5, b0, b1, hget, loadC_length, eqLoad4, hw]
    refine ih (i + 1) hd' hi' _ ?_ ?_ ?_
    all_goals try simp only [look_if, blkAt_if, Nat.reduceEqDiff, if_true, if_false, g2, g3]
set_option maxHeartbeats 4000000 in
theorem same_l2 (s : Snap) (hl : s.pods.length ≤ 2 ^ 29) (Q : Exit → St → Prop) (hp : Hl) (nx : Nat) (b0 : blkAt hp 0 = snapB s) (b1 : blkAt hp 1 = snapB s)
    (hend : ∀ fr, Q (.exit 4) ⟨fr, hp, nx⟩) :
    ∀ (r : List Pod) (i : Nat), s.pods.drop i = r → i ≤ s.pods.length → ∀ fr, look fr 2 = .ptr 0 0 0 → look fr 3 = .ptr 1 0 0 → look fr 7 = .pv (.int .i64 i) → Wp T false (.loop f345l2) ⟨fr, hp, nx⟩ Q := by
  simp only [snapB] at b0 b1
  intro r
  induction r with
  | nil =>
    intro i hd hi fr g2 g3 g5
    have hlen := drop_nil hd hi
    rw [Wp_loop, Wp_eq f345l2.eq_1]
    simp only [runL, defL, binV, Nat.reduceEqDiff, Nat.reduceAdd, reduceCtorEq, Int.reduceToNat, Nat.reduceMul, Nat.reduceLT, Int.reduceNeg, Int.reduceLE, Int.reduceLT, Int.reduceEq, Nat.reduceLeDiff, List.drop, List.take, g2, g3, g5, b0, b1, hlen, Int.lt_irrefl]
    exact hend _
  | cons n r ih =>
    intro i hd hi fr g2 g3 g5
    obtain ⟨hget, hlt, hw, hd', hi', hb⟩ := drop_cons hd (by omega)
    rw [Wp_loop, Wp_eq f345l2.eq_1]
    simp only [runL, defL, binV, Nat.reduceEqDiff, Nat.reduceAdd, reduceCtorEq, Int.reduceToNat, Nat.reduceMul, Nat.reduceLT, Int.reduceNeg, Int.reduceLE, Int.reduceLT, Int.reduceEq, Nat.reduceLeDiff, List.drop, List.take, g2, g3, g5, b0, b1, hlt]
    refine (Wp_calmS rfl).2 ?_
    simp only [runL, defL, binV, Nat.reduceEqDiff, Nat.reduceAdd, reduceCtorEq, Int.reduceToNat, Nat.reduceMul, Nat.reduceLT, Int.reduceNeg, Int.reduceLE, Int.reduceLT, Int.reduceEq, Nat.reduceLeDiff, List.drop, List.take, g2, g3, g5, b0, b1, hget, podC_length, eqPod4, hw]
    refine ih (i + 1) hd' hi' _ ?_ ?_ ?_
    all_goals try simp only [look_if, blkAt_if, Nat.reduceEqDiff, if_true, if_false, g2, g3]
theorem sameS_ok (h : Std T 345 f345) (s : Snap) (hl : s.nodes.length ≤ 2 ^ 29 ∧ s.loads.length ≤ 2 ^ 29 ∧ s.pods.length ≤ 2 ^ 29) : Gives T 345 [snapP s, snapP s] (.bool true) := by
  refine gives h rfl ?_
  have z0 : ((0 : Nat) : Int) = 0 := rfl
  simp only [f345, runL, defL, binV, Nat.reduceEqDiff, Nat.reduceAdd, reduceCtorEq, Int.reduceToNat, Nat.reduceMul, Nat.reduceLT, Int.reduceNeg, Int.reduceLE, Int.reduceLT, Int.reduceEq, Nat.reduceLeDiff, List.drop, List.take, snapP]
  refine same_l0 s hl.1 _ _ _ rfl rfl (fun fr g2 g3 => ?_) s.nodes 0 rfl (Nat.zero_le _) _ rfl rfl rfl
  simp only [runL, defL, binV, Nat.reduceEqDiff, Nat.reduceAdd, reduceCtorEq, Int.reduceToNat, Nat.reduceMul, Nat.reduceLT, Int.reduceNeg, Int.reduceLE, Int.reduceLT, Int.reduceEq, Nat.reduceLeDiff, List.drop, List.take]
  refine same_l1 s hl.2.1 _ _ _ rfl rfl (fun fr g2 g3 => ?_) s.loads 0 rfl (Nat.zero_le _) _ ?_ ?_ rfl
  · simp only [runL, defL, binV, Nat.reduceEqDiff, Nat.reduceAdd, reduceCtorEq, Int.reduceToNat, Nat.reduceMul, Nat.reduceLT, Int.reduceNeg, Int.reduceLE, Int.reduceLT, Int.reduceEq, Nat.reduceLeDiff, List.drop, List.take]
    refine same_l2 s hl.2.2 _ _ _ rfl rfl (fun fr => ?_) s.pods 0 rfl (Nat.zero_le _) _ ?_ ?_ rfl
    · simp only [runL, defL, binV, Nat.reduceEqDiff, Nat.reduceAdd, reduceCtorEq, Int.reduceToNat, Nat.reduceMul, Nat.reduceLT, Int.reduceNeg, Int.reduceLE, Int.reduceLT, Int.reduceEq, Nat.reduceLeDiff, List.drop, List.take]
    all_goals try simp only [look_if, blkAt_if, Nat.reduceEqDiff, if_true, if_false, g2, g3]
  all_goals try simp only [look_if, blkAt_if, Nat.reduceEqDiff, if_true, if_false, g2, g3]
end
set_option maxRecDepth 100000 in
set_option maxHeartbeats 8000000 in
theorem law04d (s : Snap) (x : Spec) (m : List Move) (hs : s.wf) (hx : x.wf) (_ : ∀ w ∈ m, w.wf) : Gives T04d 335 [snapP s, specP x, movesP m] (.bool true) := by
  refine gives (f := f335) ⟨rfl, rfl, rfl, rfl, rfl⟩ rfl ?_
  have kf := few3_ok (T := T04d) ⟨rfl, rfl, rfl, rfl, rfl⟩ s
  simp only [snapP] at kf
  cases hf : few3 s
  · rw [hf] at kf
    simp only [f335, runL, defL, binV, Nat.reduceEqDiff, Nat.reduceAdd, reduceCtorEq, Int.reduceToNat, Nat.reduceMul, Nat.reduceLT, Int.reduceNeg, Int.reduceLE, Int.reduceLT, Int.reduceEq, Nat.reduceLeDiff, List.drop, List.take, up04d.call, snapP, specP, movesP, kf.call]
  · have hf' := hf
    simp only [few3, Bool.and_eq_true, decide_eq_true_eq] at hf'
    obtain ⟨l1, l2, l3⟩ := hf'
    rw [hf] at kf
    by_cases c1 : (40 : Int) < (x.wants.length : Int)
    · simp only [f335, runL, defL, binV, Nat.reduceEqDiff, Nat.reduceAdd, reduceCtorEq, Int.reduceToNat, Nat.reduceMul, Nat.reduceLT, Int.reduceNeg, Int.reduceLE, Int.reduceLT, Int.reduceEq, Nat.reduceLeDiff, List.drop, List.take, up04d.call, snapP, specP, movesP, kf.call, c1]
    · by_cases c2 : (100 : Int) < (m.length : Int)
      · simp only [f335, runL, defL, binV, Nat.reduceEqDiff, Nat.reduceAdd, reduceCtorEq, Int.reduceToNat, Nat.reduceMul, Nat.reduceLT, Int.reduceNeg, Int.reduceLE, Int.reduceLT, Int.reduceEq, Nat.reduceLeDiff, List.drop, List.take, up04d.call, snapP, specP, movesP, kf.call, c1, c2]
      · have ks := sameS_ok (T := T04d) ⟨rfl, rfl, rfl, rfl, rfl⟩ s (by omega)
        have kx := sameSpec_ok (T := T04d) ⟨rfl, rfl, rfl, rfl, rfl⟩ x x (by omega)
        have km := sameMoves_ok (T := T04d) ⟨rfl, rfl, rfl, rfl, rfl⟩ m m (by omega)
        have A : ∃ p e, Gives T04d 96 [snapP s] (.tuple [p, e]) ∧ ((∃ t y, e = .iface t y) ∨ (e = .nili ∧ Gives T04d 94 [p] (.tuple [snapP s, .nili]))) := by
          have k1 := snapW_ok W4d C4d ⟨rfl, rfl, rfl, rfl, rfl⟩ s hs (by omega)
          unfold snapW at k1
          cases hq : checkB s with
          | some q =>
            rw [hq] at k1
            refine ⟨_, _, k1, .inl ?_⟩
            obtain ⟨c, a⟩ := q
            by_cases ha : a < 0
            · simp only [errG, if_pos ha]; exact ⟨_, _, rfl⟩
            · simp only [errG, if_neg ha]; exact ⟨_, _, rfl⟩
          | none =>
            rw [hq] at k1
            have hlen := snapN_len s
            have k2 := readSnap_ok R4d C4d rfl ⟨rfl, rfl, rfl, rfl, rfl⟩ (putL (snapN s)) (putL_u8 _) (by have := putL_length _ (snapN_u s); omega)
            rw [snap_back hs hq] at k2
            exact ⟨_, _, k1, .inr ⟨rfl, k2⟩⟩
        have B : ∃ p e, Gives T04d 97 [specP x] (.tuple [p, e]) ∧ ((∃ t y, e = .iface t y) ∨ (e = .nili ∧ Gives T04d 95 [p] (.tuple [specP x, .nili]))) := by
          have k1 := specW_ok W4d ⟨rfl, rfl, rfl, rfl, rfl⟩ x hx (by omega)
          cases hq : specN x with
          | none =>
            rw [hq] at k1
            exact ⟨_, _, k1, .inl ⟨_, _, rfl⟩⟩
          | some l =>
            rw [hq] at k1
            obtain ⟨u1, u2⟩ := specN_u hq
            have k2 := readSpec_ok R4d ⟨rfl, rfl, rfl, rfl, rfl⟩ (putL l) (putL_u8 _) (by have := putL_length _ u1; omega)
            rw [spec_back hx hq] at k2
            exact ⟨_, _, k1, .inr ⟨rfl, k2⟩⟩
        have C : ∃ p e, Gives T04d 92 [.slice (m.map moveC)] (.tuple [p, e]) ∧ ((∃ t y, e = .iface t y) ∨ (e = .nili ∧ Gives T04d 93 [p] (.tuple [.slice (m.map moveC), .nili]))) := by
          have k1 := movesW_ok W4d ⟨rfl, rfl, rfl, rfl, rfl⟩ m (by omega)
          cases hq : movesN m with
          | none =>
            rw [hq] at k1
            exact ⟨_, _, k1, .inl ⟨_, _, rfl⟩⟩
          | some l =>
            rw [hq] at k1
            obtain ⟨u1, u2⟩ := movesN_u hq
            have k2 := readMoves_ok R4d ⟨rfl, rfl, rfl, rfl, rfl⟩ (putL l) (putL_u8 _) (by have := putL_length _ u1; omega)
            rw [moves_back hq] at k2
            exact ⟨_, _, k1, .inr ⟨rfl, k2⟩⟩
        obtain ⟨p, e, k1, hA⟩ := A
        obtain ⟨p', e', k3, hB⟩ := B
        obtain ⟨p'', e'', k5, hC⟩ := C
        simp only [snapP, specP, decide_true, Bool.and_true] at k1 k3 k5 ks kx km hA hB hC
        rcases hA with ⟨t, x1, rfl⟩ | ⟨rfl, k2⟩ <;> rcases hB with ⟨t', x2, rfl⟩ | ⟨rfl, k4⟩ <;> rcases hC with ⟨t'', x3, rfl⟩ | ⟨rfl, k6⟩
        · simp only [f335, runL, defL, binV, Nat.reduceEqDiff, Nat.reduceAdd, reduceCtorEq, Int.reduceToNat, Nat.reduceMul, Nat.reduceLT, Int.reduceNeg, Int.reduceLE, Int.reduceLT, Int.reduceEq, Nat.reduceLeDiff, List.drop, List.take, up04d.call, snapP, specP, movesP, kf.call, c1, c2, k1.call, k3.call, k5.call, ks.call, kx.call, km.call]
        · simp only [f335, runL, defL, binV, Nat.reduceEqDiff, Nat.reduceAdd, reduceCtorEq, Int.reduceToNat, Nat.reduceMul, Nat.reduceLT, Int.reduceNeg, Int.reduceLE, Int.reduceLT, Int.reduceEq, Nat.reduceLeDiff, List.drop, List.take, up04d.call, snapP, specP, movesP, kf.call, c1, c2, k1.call, k3.call, k5.call, k6.call, ks.call, kx.call, km.call]
        · simp only [f335, runL, defL, binV, Nat.reduceEqDiff, Nat.reduceAdd, reduceCtorEq, Int.reduceToNat, Nat.reduceMul, Nat.reduceLT, Int.reduceNeg, Int.reduceLE, Int.reduceLT, Int.reduceEq, Nat.reduceLeDiff, List.drop, List.take, up04d.call, snapP, specP, movesP, kf.call, c1, c2, k1.call, k3.call, k4.call, k5.call, ks.call, kx.call, km.call]
        · simp only [f335, runL, defL, binV, Nat.reduceEqDiff, Nat.reduceAdd, reduceCtorEq, Int.reduceToNat, Nat.reduceMul, Nat.reduceLT, Int.reduceNeg, Int.reduceLE, Int.reduceLT, Int.reduceEq, Nat.reduceLeDiff, List.drop, List.take, up04d.call, snapP, specP, movesP, kf.call, c1, c2, k1.call, k3.call, k4.call, k5.call, k6.call, ks.call, kx.call, km.call]
        · simp only [f335, runL, defL, binV, Nat.reduceEqDiff, Nat.reduceAdd, reduceCtorEq, Int.reduceToNat, Nat.reduceMul, Nat.reduceLT, Int.reduceNeg, Int.reduceLE, Int.reduceLT, Int.reduceEq, Nat.reduceLeDiff, List.drop, List.take, up04d.call, snapP, specP, movesP, kf.call, c1, c2, k1.call, k2.call, k3.call, k5.call, ks.call, kx.call, km.call]
        · simp only [f335, runL, defL, binV, Nat.reduceEqDiff, Nat.reduceAdd, reduceCtorEq, Int.reduceToNat, Nat.reduceMul, Nat.reduceLT, Int.reduceNeg, Int.reduceLE, Int.reduceLT, Int.reduceEq, Nat.reduceLeDiff, List.drop, List.take, up04d.call, snapP, specP, movesP, kf.call, c1, c2, k1.call, k2.call, k3.call, k5.call, k6.call, ks.call, kx.call, km.call]
        · simp only [f335, runL, defL, binV, Nat.reduceEqDiff, Nat.reduceAdd, reduceCtorEq, Int.reduceToNat, Nat.reduceMul, Nat.reduceLT, Int.reduceNeg, Int.reduceLE, Int.reduceLT, Int.reduceEq, Nat.reduceLeDiff, List.drop, List.take, up04d.call, snapP, specP, movesP, kf.call, c1, c2, k1.call, k2.call, k3.call, k4.call, k5.call, ks.call, kx.call, km.call]
        · simp only [f335, runL, defL, binV, Nat.reduceEqDiff, Nat.reduceAdd, reduceCtorEq, Int.reduceToNat, Nat.reduceMul, Nat.reduceLT, Int.reduceNeg, Int.reduceLE, Int.reduceLT, Int.reduceEq, Nat.reduceLeDiff, List.drop, List.take, up04d.call, snapP, specP, movesP, kf.call, c1, c2, k1.call, k2.call, k3.call, k4.call, k5.call, k6.call, ks.call, kx.call, km.call]
end Go.Proofs.YtjmggjlfamjdbaaDoor.Ab
