/- The layer, part 4: Co03, Sp3, Sp3b, Sp3c, Sp16d, Sp8b, Co11, Sp11, Ab59, Sp11f, Sp3d, Sp3e, Sp5e, Sp8p, Co12, Sp12, Sp16e, Sp16f, Sp16g. -/
import Derived.Test.YtggjhmbbbebfeaaGreatDoorA3
set_option linter.unusedVariables false
namespace Go.Proofs.YtggjhmbbbebfeaaGreatDoor.Ab
open Go
def f16 : AFunc := ⟨49, [],
 (.seq (.seq (.ops [
   ⟨some 8, .mv (.t 0), none, []⟩,
   ⟨some 9, .nilchk (.t 8), none, [0]⟩,
   ⟨some 10, .fieldAddr 2 (.t 9), none, [1]⟩,
   ⟨some 11, .load false 1 (.t 10), none, [2]⟩,
   ⟨some 12, .bin .eql (some (.iface true)) (.t 11) (.c (.pv .nili)), none, [3]⟩])
  (.cond (.t 12)
   (.seq (.ops [
     ⟨some 13, .mv (.t 1), none, []⟩,
     ⟨some 14, .mv (.t 0), none, []⟩,
     ⟨some 15, .nilchk (.t 14), none, [1]⟩,
     ⟨some 16, .fieldAddr 1 (.t 15), none, [2]⟩,
     ⟨some 17, .load false 1 (.t 16), none, [3]⟩,
     ⟨some 18, .call 86 [(.t 13), (.t 17)], none, [0, 4]⟩,
     ⟨some 6, .mv (.t 18), none, [5, 5, 0, 1, 2, 3, 4, 5]⟩])
    (.seq (.seq (.ops [
     ⟨some 19, .mv (.t 6), none, []⟩,
     ⟨some 20, .bin .eql (some (.iface true)) (.t 19) (.c (.pv .nili)), none, [0]⟩])
    (.cond (.t 20)
     (.ops [
       ⟨some 21, .mv (.t 2), none, []⟩,
       ⟨some 22, .callv (.t 21) [], none, [0]⟩,
       ⟨some 6, .mv (.t 22), none, [1, 1, 0, 1]⟩])
     .skip))
    (.seq (.ops [
     ⟨some 7, .alloc [(.pv (.int .i64 0))], none, []⟩])
    (.seq (.ops [
     ⟨some 23, .mv (.t 6), none, []⟩,
     ⟨some 24, .mkI 3 (.t 7), none, []⟩,
     ⟨some 25, .call 266 [(.t 23), (.t 24)], none, [0, 1]⟩])
    (.cond (.t 25)
     (.draw [
       ⟨some 26, .mv (.t 0), none, []⟩,
       ⟨some 27, .mv (.t 0), none, []⟩,
       ⟨some 28, .nilchk (.t 27), none, [1]⟩,
       ⟨some 29, .fieldAddr 0 (.t 28), none, [2]⟩,
       ⟨some 30, .load false 1 (.t 29), none, [3]⟩,
       ⟨some 31, .load false 1 (.t 7), none, []⟩,
       ⟨some 32, .build [(.pv (.int .i64 0)), (.pv (.int .i64 0))] [(0, 1, (.t 30)), (1, 1, (.t 31))], none, [4, 5]⟩,
       ⟨some 33, .box (.t 32), none, [6]⟩,
       ⟨some 34, .mkI 1 (.t 33), none, [7]⟩,
       ⟨some 35, .nilchk (.t 26), none, [0, 0, 1, 2, 3, 4, 5, 6, 7, 8]⟩,
       ⟨some 36, .fieldAddr 2 (.t 35), none, [9, 0, 1, 2, 3, 4, 5, 6, 7, 8]⟩,
       ⟨none, .store 1 (.t 36) (.t 34), none, [10, 8, 0, 1, 2, 3, 4, 5, 6, 7, 8]⟩])
     .skip)))))
   .skip))
  (.ops [
   ⟨some 37, .mv (.t 0), none, []⟩,
   ⟨some 38, .mv (.t 0), none, []⟩,
   ⟨some 39, .mv (.t 0), none, []⟩,
   ⟨some 40, .nilchk (.t 39), none, [2]⟩,
   ⟨some 41, .fieldAddr 0 (.t 40), none, [3]⟩,
   ⟨some 42, .load false 1 (.t 41), none, [4]⟩,
   ⟨some 43, .bin .add none (.t 42) (.c (.pv (.int .i64 1))), none, [5]⟩,
   ⟨some 44, .mv (.t 1), none, []⟩,
   ⟨some 45, .nilchk (.t 37), none, [0, 0, 2, 3, 4, 5, 6]⟩,
   ⟨some 46, .fieldAddr 0 (.t 45), none, [8, 0, 2, 3, 4, 5, 6]⟩,
   ⟨none, .store 1 (.t 46) (.t 43), none, [9, 6, 0, 2, 3, 4, 5, 6]⟩,
   ⟨some 47, .nilchk (.t 38), none, [1, 0, 1, 2, 3, 4, 5, 6, 7, 8, 9, 10]⟩,
   ⟨some 48, .fieldAddr 1 (.t 47), none, [11, 0, 1, 2, 3, 4, 5, 6, 7, 8, 9, 10]⟩,
   ⟨none, .store 1 (.t 48) (.t 44), none, [12, 7, 10, 0, 1, 2, 3, 4, 5, 6, 7, 8, 9, 10]⟩]))⟩
def f76l0 : ACode :=
 (.seq (.ops [
   ⟨some 39, .bin .lss none (.t 38) (.t 37), none, []⟩])
  (.seq (.cond (.t 39)
   .skip
   (.exit 0))
  (.seq (.block 1
   (.seq (.ops [
     ⟨some 40, .idxAddr 10 (.t 36) (.t 38), none, []⟩,
     ⟨some 41, .load true 10 (.t 40), none, [0]⟩,
     ⟨some 5, .alloc [(.pv (.int .i64 0)), (.pv (.int .i64 0)), (.pv (.int .u64 0)), (.pv (.int .u64 0)), (.pv (.int .u64 0)), (.pv (.int .u64 0)), (.pv (.int .u64 0)), (.pv (.int .u64 0)), (.pv (.int .u64 0)), (.pv (.int .u64 0))], none, []⟩,
     ⟨none, .store 10 (.t 5) (.t 41), none, [2, 1, 0, 1, 2]⟩])
    (.ops [
     ⟨some 42, .mv (.t 3), none, []⟩,
     ⟨some 43, .fieldAddr 0 (.t 5), none, []⟩,
     ⟨some 44, .load false 1 (.t 43), none, [1]⟩,
     ⟨some 45, .mkF 77 [] [(.t 5)], none, []⟩,
     ⟨some 46, .call 16 [(.t 42), (.t 44), (.t 45)], none, [0, 2, 3]⟩])))
  (.ops [
   ⟨some 47, .bin .add none (.t 38) (.c (.pv (.int .i64 1))), none, []⟩,
   ⟨some 38, .mv (.t 47), none, [0]⟩]))))
def f76l1 : ACode :=
 (.seq (.ops [
   ⟨some 55, .bin .lss none (.t 54) (.t 53), none, []⟩])
  (.seq (.cond (.t 55)
   .skip
   (.exit 2))
  (.seq (.block 3
   (.seq (.ops [
     ⟨some 56, .idxAddr 5 (.t 52) (.t 54), none, []⟩,
     ⟨some 57, .load true 5 (.t 56), none, [0]⟩,
     ⟨some 7, .alloc [(.pv (.int .i64 0)), (.pv (.bool false)), (.pv (.int .i64 0)), (.pv (.int .i64 0)), (.pv (.int .i64 0))], none, []⟩,
     ⟨none, .store 5 (.t 7) (.t 57), none, [2, 1, 0, 1, 2]⟩])
    (.ops [
     ⟨some 58, .mv (.t 3), none, []⟩,
     ⟨some 59, .fieldAddr 0 (.t 7), none, []⟩,
     ⟨some 60, .load false 1 (.t 59), none, [1]⟩,
     ⟨some 61, .mkF 78 [] [(.t 7)], none, []⟩,
     ⟨some 62, .call 16 [(.t 58), (.t 60), (.t 61)], none, [0, 2, 3]⟩])))
  (.ops [
   ⟨some 63, .bin .add none (.t 54) (.c (.pv (.int .i64 1))), none, []⟩,
   ⟨some 54, .mv (.t 63), none, [0]⟩]))))
def f76l2 : ACode :=
 (.seq (.ops [
   ⟨some 71, .bin .lss none (.t 70) (.t 69), none, []⟩])
  (.seq (.cond (.t 71)
   .skip
   (.exit 4))
  (.seq (.block 5
   (.seq (.ops [
     ⟨some 72, .idxAddr 8 (.t 68) (.t 70), none, []⟩,
     ⟨some 73, .load true 8 (.t 72), none, [0]⟩,
     ⟨some 9, .alloc [(.pv (.int .i64 0)), (.pv (.int .i64 0)), (.pv (.int .i64 0)), (.pv (.int .u64 0)), (.pv (.int .u64 0)), (.pv (.int .u64 0)), (.pv (.int .u64 0)), (.pv (.int .i64 0))], none, []⟩,
     ⟨none, .store 8 (.t 9) (.t 73), none, [2, 1, 0, 1, 2]⟩])
    (.ops [
     ⟨some 74, .mv (.t 3), none, []⟩,
     ⟨some 75, .fieldAddr 0 (.t 9), none, []⟩,
     ⟨some 76, .load false 1 (.t 75), none, [1]⟩,
     ⟨some 77, .mkF 79 [] [(.t 1), (.t 9)], none, []⟩,
     ⟨some 78, .call 16 [(.t 74), (.t 76), (.t 77)], none, [0, 2, 3]⟩])))
  (.ops [
   ⟨some 79, .bin .add none (.t 70) (.c (.pv (.int .i64 1))), none, []⟩,
   ⟨some 70, .mv (.t 79), none, [0]⟩]))))
def f76 : AFunc := ⟨84, [.t 2],
 (.seq (.ops [
   ⟨some 1, .box (.t 0), none, []⟩,
   ⟨some 2, .mv (.c (.pv .nili)), none, []⟩])
  (.seq (.seq (.ops [
   ⟨some 10, .fieldAddr 0 (.t 1), none, []⟩,
   ⟨some 11, .load false 1 (.t 10), none, [0]⟩,
   ⟨some 12, .len (.t 11), none, [1]⟩,
   ⟨some 13, .bin .lss none (.t 12) (.c (.pv (.int .i64 1))), none, [2]⟩,
   ⟨some 14, .mv (.t 13), none, [3]⟩,
   ⟨some 15, .fieldAddr 0 (.t 1), some (14, false), [4]⟩,
   ⟨some 16, .load false 1 (.t 15), some (14, false), [5, 4]⟩,
   ⟨some 17, .len (.t 16), some (14, false), [6, 4]⟩,
   ⟨some 18, .bin .gtr none (.t 17) (.c (.pv (.int .i64 8))), some (14, false), [7, 4]⟩,
   ⟨some 19, .pick (.t 14) (.c (.pv (.bool true))) (.t 18), none, [4, 8]⟩,
   ⟨some 20, .mv (.t 19), none, [9, 4]⟩,
   ⟨some 21, .fieldAddr 1 (.t 1), some (20, false), [10]⟩,
   ⟨some 22, .load false 1 (.t 21), some (20, false), [11, 10]⟩,
   ⟨some 23, .len (.t 22), some (20, false), [12, 10]⟩,
   ⟨some 24, .bin .gtr none (.t 23) (.c (.pv (.int .i64 8))), some (20, false), [13, 10]⟩,
   ⟨some 25, .pick (.t 20) (.c (.pv (.bool true))) (.t 24), none, [10, 14]⟩,
   ⟨some 26, .mv (.t 25), none, [15, 10]⟩,
   ⟨some 27, .fieldAddr 2 (.t 1), some (26, false), [16]⟩,
   ⟨some 28, .load false 1 (.t 27), some (26, false), [17, 16]⟩,
   ⟨some 29, .len (.t 28), some (26, false), [18, 16]⟩,
   ⟨some 30, .bin .gtr none (.t 29) (.c (.pv (.int .i64 12))), some (26, false), [19, 16]⟩,
   ⟨some 31, .pick (.t 26) (.c (.pv (.bool true))) (.t 30), none, [16, 20]⟩])
  (.cond (.t 31)
   (.seq (.ops [
     ⟨some 32, .mkI 0 (.c (.pv (.int .i64 3))), none, []⟩,
     ⟨some 2, .mv (.t 32), none, [0, 0]⟩])
    .ret)
   .skip))
  (.seq (.ops [
   ⟨some 33, .build [(.pv (.int .i64 0)), (.pv (.int .i64 0)), (.pv .nili)] [], none, []⟩,
   ⟨some 34, .box (.t 33), none, [0]⟩,
   ⟨some 3, .mv (.t 34), none, [1, 0, 1]⟩])
  (.seq (.seq (.ops [
   ⟨some 35, .fieldAddr 0 (.t 1), none, []⟩,
   ⟨some 36, .load false 1 (.t 35), none, [0]⟩,
   ⟨some 37, .len (.t 36), none, [1]⟩,
   ⟨some 38, .mv (.c (.pv (.int .i64 0))), none, []⟩])
  (.block 0
   (.loop f76l0)))
  (.seq (.ops [
   ⟨some 48, .mv (.t 3), none, []⟩,
   ⟨some 49, .nilchk (.t 48), none, [0, 0]⟩,
   ⟨some 50, .fieldAddr 1 (.t 49), none, [1, 0]⟩,
   ⟨none, .store 1 (.t 50) (.c (.pv (.int .i64 0))), none, [2, 0]⟩])
  (.seq (.seq (.ops [
   ⟨some 51, .fieldAddr 1 (.t 1), none, []⟩,
   ⟨some 52, .load false 1 (.t 51), none, [0]⟩,
   ⟨some 53, .len (.t 52), none, [1]⟩,
   ⟨some 54, .mv (.c (.pv (.int .i64 0))), none, []⟩])
  (.block 2
   (.loop f76l1)))
  (.seq (.ops [
   ⟨some 64, .mv (.t 3), none, []⟩,
   ⟨some 65, .nilchk (.t 64), none, [0, 0]⟩,
   ⟨some 66, .fieldAddr 1 (.t 65), none, [1, 0]⟩,
   ⟨none, .store 1 (.t 66) (.c (.pv (.int .i64 0))), none, [2, 0]⟩])
  (.seq (.seq (.ops [
   ⟨some 67, .fieldAddr 2 (.t 1), none, []⟩,
   ⟨some 68, .load false 1 (.t 67), none, [0]⟩,
   ⟨some 69, .len (.t 68), none, [1]⟩,
   ⟨some 70, .mv (.c (.pv (.int .i64 0))), none, []⟩])
  (.block 4
   (.loop f76l2)))
  (.seq (.ops [
   ⟨some 80, .mv (.t 3), none, []⟩,
   ⟨some 81, .nilchk (.t 80), none, [0]⟩,
   ⟨some 82, .fieldAddr 2 (.t 81), none, [1]⟩,
   ⟨some 83, .load false 1 (.t 82), none, [2]⟩,
   ⟨some 2, .mv (.t 83), none, [3, 0, 1, 2, 3]⟩])
  .ret)))))))))⟩
def f77 : AFunc := ⟨4, [.t 1],
 (.seq (.ops [
   ⟨some 1, .mv (.c (.pv .nili)), none, []⟩])
  (.seq (.ops [
   ⟨some 2, .load true 10 (.t 0), none, []⟩,
   ⟨some 3, .call 88 [(.t 2)], none, [0]⟩,
   ⟨some 1, .mv (.t 3), none, [1, 1, 0, 1]⟩])
  .ret))⟩
def f78 : AFunc := ⟨4, [.t 1],
 (.seq (.ops [
   ⟨some 1, .mv (.c (.pv .nili)), none, []⟩])
  (.seq (.ops [
   ⟨some 2, .load true 5 (.t 0), none, []⟩,
   ⟨some 3, .call 87 [(.t 2)], none, [0]⟩,
   ⟨some 1, .mv (.t 3), none, [1, 1, 0, 1]⟩])
  .ret))⟩
def f79 : AFunc := ⟨6, [.t 2],
 (.seq (.ops [
   ⟨some 2, .mv (.c (.pv .nili)), none, []⟩])
  (.seq (.ops [
   ⟨some 3, .load true 3 (.t 0), none, []⟩,
   ⟨some 4, .load true 8 (.t 1), none, []⟩,
   ⟨some 5, .call 89 [(.t 3), (.t 4)], none, [0, 1]⟩,
   ⟨some 2, .mv (.t 5), none, [2, 2, 0, 1, 2]⟩])
  .ret))⟩
def f80l0 : ACode :=
 (.seq (.ops [
   ⟨some 36, .bin .lss none (.t 35) (.t 34), none, []⟩])
  (.seq (.cond (.t 36)
   .skip
   (.exit 0))
  (.seq (.block 1
   (.seq (.ops [
     ⟨some 37, .mv (.t 35), none, []⟩,
     ⟨some 6, .mv (.t 37), none, [0, 0]⟩])
    (.seq (.ops [
     ⟨some 7, .alloc [(.pv (.int .i64 0))], none, []⟩])
    (.seq (.ops [
     ⟨some 38, .load true 3 (.t 2), none, []⟩,
     ⟨some 39, .fieldAddr 0 (.t 3), none, []⟩,
     ⟨some 40, .load false 1 (.t 39), none, [1]⟩,
     ⟨some 41, .mv (.t 6), none, []⟩,
     ⟨some 42, .call 90 [(.t 38), (.t 40), (.t 41)], none, [0, 2, 3]⟩,
     ⟨some 43, .mkI 3 (.t 7), none, []⟩,
     ⟨some 44, .call 266 [(.t 42), (.t 43)], none, [4, 5, 4]⟩])
    (.cond (.t 44)
     (.seq (.ops [
       ⟨some 45, .mv (.t 6), none, []⟩,
       ⟨some 46, .load false 1 (.t 7), none, []⟩,
       ⟨some 47, .build [(.pv (.int .i64 0)), (.pv (.int .i64 0))] [(0, 1, (.t 45)), (1, 1, (.t 46))], none, [0, 1]⟩,
       ⟨some 48, .box (.t 47), none, [2]⟩,
       ⟨some 49, .mkI 1 (.t 48), none, [3]⟩,
       ⟨some 4, .mv (.t 49), none, [4, 0, 1, 2, 3, 4]⟩])
      .ret)
     .skip)))))
  (.ops [
   ⟨some 50, .bin .add none (.t 35) (.c (.pv (.int .i64 1))), none, []⟩,
   ⟨some 35, .mv (.t 50), none, [0]⟩]))))
def f80 : AFunc := ⟨51, [.t 4],
 (.seq (.ops [
   ⟨some 2, .box (.t 0), none, []⟩,
   ⟨some 3, .box (.t 1), none, []⟩,
   ⟨some 4, .mv (.c (.pv .nili)), none, []⟩])
  (.seq (.seq (.ops [
   ⟨some 8, .load true 3 (.t 2), none, []⟩,
   ⟨some 9, .call 76 [(.t 8)], none, [0]⟩,
   ⟨some 5, .mv (.t 9), none, [1, 1, 0, 1]⟩])
  (.seq (.ops [
   ⟨some 10, .mv (.t 5), none, []⟩,
   ⟨some 11, .bin .neq (some (.iface true)) (.t 10) (.c (.pv .nili)), none, [0]⟩])
  (.cond (.t 11)
   (.seq (.ops [
     ⟨some 12, .mv (.t 5), none, []⟩,
     ⟨some 4, .mv (.t 12), none, [0, 0]⟩])
    .ret)
   .skip)))
  (.seq (.seq (.ops [
   ⟨some 13, .fieldAddr 1 (.t 3), none, []⟩,
   ⟨some 14, .load false 1 (.t 13), none, [0]⟩,
   ⟨some 15, .bin .lss none (.t 14) (.c (.pv (.int .i64 0))), none, [1]⟩,
   ⟨some 16, .mv (.t 15), none, [2]⟩,
   ⟨some 17, .fieldAddr 1 (.t 3), some (16, false), [3]⟩,
   ⟨some 18, .load false 1 (.t 17), some (16, false), [4, 3]⟩,
   ⟨some 19, .bin .gtr none (.t 18) (.c (.pv (.int .i64 40))), some (16, false), [5, 3]⟩,
   ⟨some 20, .pick (.t 16) (.c (.pv (.bool true))) (.t 19), none, [3, 6]⟩,
   ⟨some 21, .mv (.t 20), none, [7, 3]⟩,
   ⟨some 22, .fieldAddr 2 (.t 3), some (21, false), [8]⟩,
   ⟨some 23, .load false 1 (.t 22), some (21, false), [9, 8]⟩,
   ⟨some 24, .bin .lss none (.t 23) (.c (.pv (.int .i64 0))), some (21, false), [10, 8]⟩,
   ⟨some 25, .pick (.t 21) (.c (.pv (.bool true))) (.t 24), none, [8, 11]⟩,
   ⟨some 26, .mv (.t 25), none, [12, 8]⟩,
   ⟨some 27, .fieldAddr 2 (.t 3), some (26, false), [13]⟩,
   ⟨some 28, .load false 1 (.t 27), some (26, false), [14, 13]⟩,
   ⟨some 29, .bin .gtr none (.t 28) (.c (.pv (.int .i64 40))), some (26, false), [15, 13]⟩,
   ⟨some 30, .pick (.t 26) (.c (.pv (.bool true))) (.t 29), none, [13, 16]⟩])
  (.cond (.t 30)
   (.seq (.ops [
     ⟨some 31, .mkI 0 (.c (.pv (.int .i64 3))), none, []⟩,
     ⟨some 4, .mv (.t 31), none, [0, 0]⟩])
    .ret)
   .skip))
  (.seq (.seq (.ops [
   ⟨some 32, .fieldAddr 0 (.t 3), none, []⟩,
   ⟨some 33, .load false 1 (.t 32), none, [0]⟩,
   ⟨some 34, .len (.t 33), none, [1]⟩,
   ⟨some 35, .mv (.c (.pv (.int .i64 0))), none, []⟩])
  (.block 0
   (.loop f80l0)))
  (.seq (.ops [
   ⟨some 4, .mv (.c (.pv .nili)), none, []⟩])
  .ret)))))⟩
def f85 : AFunc := ⟨9, [.t 2],
 (.seq (.ops [
   ⟨some 2, .mv (.c (.pv (.bool false))), none, []⟩])
  (.seq (.ops [
   ⟨some 3, .mv (.t 0), none, []⟩,
   ⟨some 4, .bin .geq none (.t 3) (.c (.pv (.int .i64 0))), none, [0]⟩,
   ⟨some 5, .mv (.t 4), none, [1]⟩,
   ⟨some 6, .mv (.t 0), some (5, true), [2]⟩,
   ⟨some 7, .bin .leq none (.t 6) (.c (.pv (.int .i64 100))), some (5, true), [3, 2]⟩,
   ⟨some 8, .pick (.t 5) (.t 7) (.c (.pv (.bool false))), none, [2, 4]⟩,
   ⟨some 2, .mv (.t 8), none, [5, 2, 0, 1, 2, 3, 4, 5]⟩])
  .ret))⟩
def f86 : AFunc := ⟨27, [.t 4],
 (.seq (.ops [
   ⟨some 4, .mv (.c (.pv .nili)), none, []⟩])
  (.seq (.block 0
   (.seq (.ops [
     ⟨some 6, .mv (.t 0), none, []⟩,
     ⟨some 7, .mv (.t 1), none, []⟩,
     ⟨some 8, .bin .eql none (.t 6) (.t 7), none, [0, 1]⟩,
     ⟨some 9, .mv (.t 8), none, [2]⟩,
     ⟨some 10, .mv (.t 0), some (9, true), [3]⟩,
     ⟨some 11, .bin .geq none (.t 10) (.c (.pv (.int .i64 1))), some (9, true), [4, 3]⟩,
     ⟨some 12, .pick (.t 9) (.t 11) (.c (.pv (.bool false))), none, [3, 5]⟩,
     ⟨some 5, .mv (.t 12), none, [6, 3]⟩])
    (.cond (.t 5)
     (.seq (.ops [
       ⟨some 13, .mkI 0 (.c (.pv (.int .i64 5))), none, []⟩,
       ⟨some 4, .mv (.t 13), none, [0, 0]⟩])
      .ret)
     (.seq (.ops [
       ⟨some 15, .mv (.t 0), none, []⟩,
       ⟨some 16, .bin .lss none (.t 15) (.c (.pv (.int .i64 1))), none, [0]⟩,
       ⟨some 17, .mv (.t 16), none, [1]⟩,
       ⟨some 18, .mv (.t 0), some (17, false), [2]⟩,
       ⟨some 19, .bin .gtr none (.t 18) (.c (.pv (.int .i64 2147483647))), some (17, false), [3, 2]⟩,
       ⟨some 20, .pick (.t 17) (.c (.pv (.bool true))) (.t 19), none, [2, 4]⟩,
       ⟨some 21, .mv (.t 20), none, [5, 2]⟩,
       ⟨some 22, .mv (.t 0), some (21, false), [6]⟩,
       ⟨some 23, .mv (.t 1), some (21, false), [6]⟩,
       ⟨some 24, .bin .lss none (.t 22) (.t 23), some (21, false), [7, 8, 6]⟩,
       ⟨some 25, .pick (.t 21) (.c (.pv (.bool true))) (.t 24), none, [6, 9]⟩,
       ⟨some 14, .mv (.t 25), none, [10, 6]⟩])
      (.cond (.t 14)
       (.seq (.ops [
         ⟨some 26, .mkI 0 (.c (.pv (.int .i64 1))), none, []⟩,
         ⟨some 4, .mv (.t 26), none, [0, 0]⟩])
        .ret)
       .skip)))))
  (.seq (.ops [
   ⟨some 4, .mv (.c (.pv .nili)), none, []⟩])
  .ret)))⟩
def f87 : AFunc := ⟨27, [.t 2],
 (.seq (.ops [
   ⟨some 1, .box (.t 0), none, []⟩,
   ⟨some 2, .mv (.c (.pv .nili)), none, []⟩])
  (.seq (.seq (.ops [
   ⟨some 3, .fieldAddr 2 (.t 1), none, []⟩,
   ⟨some 4, .load false 1 (.t 3), none, [0]⟩,
   ⟨some 5, .call 85 [(.t 4)], none, [1]⟩,
   ⟨some 6, .not (.t 5), none, [2]⟩,
   ⟨some 7, .mv (.t 6), none, [3, 2]⟩,
   ⟨some 8, .fieldAddr 3 (.t 1), some (7, false), [4]⟩,
   ⟨some 9, .load false 1 (.t 8), some (7, false), [5, 4]⟩,
   ⟨some 10, .call 85 [(.t 9)], some (7, false), [6, 4, 4]⟩,
   ⟨some 11, .not (.t 10), some (7, false), [7, 4]⟩,
   ⟨some 12, .pick (.t 7) (.c (.pv (.bool true))) (.t 11), none, [4, 8]⟩,
   ⟨some 13, .mv (.t 12), none, [9, 7]⟩,
   ⟨some 14, .fieldAddr 4 (.t 1), some (13, false), [10]⟩,
   ⟨some 15, .load false 1 (.t 14), some (13, false), [11, 10]⟩,
   ⟨some 16, .call 85 [(.t 15)], some (13, false), [12, 10, 10]⟩,
   ⟨some 17, .not (.t 16), some (13, false), [13, 10]⟩,
   ⟨some 18, .pick (.t 13) (.c (.pv (.bool true))) (.t 17), none, [10, 14]⟩,
   ⟨some 19, .mv (.t 18), none, [15, 13]⟩,
   ⟨some 20, .fieldAddr 3 (.t 1), some (19, false), [16]⟩,
   ⟨some 21, .load false 1 (.t 20), some (19, false), [17, 16]⟩,
   ⟨some 22, .fieldAddr 4 (.t 1), some (19, false), [16]⟩,
   ⟨some 23, .load false 1 (.t 22), some (19, false), [19, 16]⟩,
   ⟨some 24, .bin .gtr none (.t 21) (.t 23), some (19, false), [18, 20, 16]⟩,
   ⟨some 25, .pick (.t 19) (.c (.pv (.bool true))) (.t 24), none, [16, 21]⟩])
  (.cond (.t 25)
   (.seq (.ops [
     ⟨some 26, .mkI 0 (.c (.pv (.int .i64 1))), none, []⟩,
     ⟨some 2, .mv (.t 26), none, [0, 0]⟩])
    .ret)
   .skip))
  (.seq (.ops [
   ⟨some 2, .mv (.c (.pv .nili)), none, []⟩])
  .ret)))⟩
def f88 : AFunc := ⟨20, [.t 2],
 (.seq (.ops [
   ⟨some 1, .box (.t 0), none, []⟩,
   ⟨some 2, .mv (.c (.pv .nili)), none, []⟩])
  (.seq (.seq (.ops [
   ⟨some 3, .fieldAddr 1 (.t 1), none, []⟩,
   ⟨some 4, .load false 1 (.t 3), none, [0]⟩,
   ⟨some 5, .bin .lss none (.t 4) (.c (.pv (.int .i64 1))), none, [1]⟩,
   ⟨some 6, .mv (.t 5), none, [2]⟩,
   ⟨some 7, .fieldAddr 1 (.t 1), some (6, false), [3]⟩,
   ⟨some 8, .load false 1 (.t 7), some (6, false), [4, 3]⟩,
   ⟨some 9, .bin .gtr none (.t 8) (.c (.pv (.int .i64 8))), some (6, false), [5, 3]⟩,
   ⟨some 10, .pick (.t 6) (.c (.pv (.bool true))) (.t 9), none, [3, 6]⟩,
   ⟨some 11, .mv (.t 10), none, [7, 3]⟩,
   ⟨some 12, .fieldAddr 6 (.t 1), some (11, false), [8]⟩,
   ⟨some 13, .load true 4 (.t 12), some (11, false), [9, 8]⟩,
   ⟨some 14, .fieldAddr 2 (.t 1), some (11, false), [8]⟩,
   ⟨some 15, .load true 4 (.t 14), some (11, false), [11, 8]⟩,
   ⟨some 16, .call 257 [(.t 13), (.t 15)], some (11, false), [10, 12, 8, 8]⟩,
   ⟨some 17, .not (.t 16), some (11, false), [13, 8]⟩,
   ⟨some 18, .pick (.t 11) (.c (.pv (.bool true))) (.t 17), none, [8, 14]⟩])
  (.cond (.t 18)
   (.seq (.ops [
     ⟨some 19, .mkI 0 (.c (.pv (.int .i64 1))), none, []⟩,
     ⟨some 2, .mv (.t 19), none, [0, 0]⟩])
    .ret)
   .skip))
  (.seq (.ops [
   ⟨some 2, .mv (.c (.pv .nili)), none, []⟩])
  .ret)))⟩
def f89 : AFunc := ⟨40, [.t 4],
 (.seq (.ops [
   ⟨some 2, .box (.t 0), none, []⟩,
   ⟨some 3, .box (.t 1), none, []⟩,
   ⟨some 4, .mv (.c (.pv .nili)), none, []⟩])
  (.seq (.seq (.ops [
   ⟨some 9, .fieldAddr 2 (.t 3), none, []⟩,
   ⟨some 10, .load false 1 (.t 9), none, [0]⟩,
   ⟨some 11, .call 85 [(.t 10)], none, [1]⟩,
   ⟨some 12, .not (.t 11), none, [2]⟩])
  (.cond (.t 12)
   (.seq (.ops [
     ⟨some 13, .mkI 0 (.c (.pv (.int .i64 1))), none, []⟩,
     ⟨some 4, .mv (.t 13), none, [0, 0]⟩])
    .ret)
   .skip))
  (.seq (.ops [
   ⟨some 15, .load true 3 (.t 2), none, []⟩,
   ⟨some 16, .fieldAddr 1 (.t 3), none, []⟩,
   ⟨some 17, .load false 1 (.t 16), none, [1]⟩,
   ⟨some 18, .call 81 [(.t 15), (.t 17)], none, [0, 2]⟩,
   ⟨some 14, .mv (.t 18), none, [3]⟩,
   ⟨some 19, .extract (.t 14) 0, none, [4]⟩,
   ⟨some 20, .extract (.t 14) 1, none, [4]⟩,
   ⟨some 5, .alloc [(.pv (.int .i64 0)), (.pv (.bool false)), (.pv (.int .i64 0)), (.pv (.int .i64 0)), (.pv (.int .i64 0))], none, []⟩,
   ⟨none, .store 5 (.t 5) (.t 19), none, [7, 5, 3, 0, 1, 2, 3, 4, 5, 7]⟩,
   ⟨some 6, .mv (.t 20), none, [6, 8, 0, 1, 2, 3, 4, 5, 6, 7, 8]⟩])
  (.seq (.ops [
   ⟨some 22, .load true 3 (.t 2), none, []⟩,
   ⟨some 23, .fieldAddr 7 (.t 3), none, []⟩,
   ⟨some 24, .load false 1 (.t 23), none, [1]⟩,
   ⟨some 25, .call 82 [(.t 22), (.t 24)], none, [0, 2]⟩,
   ⟨some 21, .mv (.t 25), none, [3]⟩,
   ⟨some 26, .extract (.t 21) 0, none, [4]⟩,
   ⟨some 27, .extract (.t 21) 1, none, [4]⟩,
   ⟨some 7, .alloc [(.pv (.int .i64 0)), (.pv (.int .i64 0)), (.pv (.int .u64 0)), (.pv (.int .u64 0)), (.pv (.int .u64 0)), (.pv (.int .u64 0)), (.pv (.int .u64 0)), (.pv (.int .u64 0)), (.pv (.int .u64 0)), (.pv (.int .u64 0))], none, []⟩,
   ⟨none, .store 10 (.t 7) (.t 26), none, [7, 5, 3, 0, 1, 2, 3, 4, 5, 7]⟩,
   ⟨some 8, .mv (.t 27), none, [6, 8, 0, 1, 2, 3, 4, 5, 6, 7, 8]⟩])
  (.seq (.seq (.ops [
   ⟨some 28, .mv (.t 6), none, []⟩,
   ⟨some 29, .not (.t 28), none, [0]⟩,
   ⟨some 30, .mv (.t 29), none, [1]⟩,
   ⟨some 31, .fieldAddr 7 (.t 3), some (30, false), [2]⟩,
   ⟨some 32, .load false 1 (.t 31), some (30, false), [3, 2]⟩,
   ⟨some 33, .bin .neq none (.t 32) (.c (.pv (.int .i64 0))), some (30, false), [4, 2]⟩,
   ⟨some 34, .mv (.t 33), some (30, false), [5, 2, 2]⟩,
   ⟨some 35, .mv (.t 8), some (34, true), [6]⟩,
   ⟨some 36, .not (.t 35), some (34, true), [7, 6]⟩,
   ⟨some 37, .pick (.t 34) (.t 36) (.c (.pv (.bool false))), some (30, false), [6, 8, 2]⟩,
   ⟨some 38, .pick (.t 30) (.c (.pv (.bool true))) (.t 37), none, [2, 9]⟩])
  (.cond (.t 38)
   (.seq (.ops [
     ⟨some 39, .mkI 0 (.c (.pv (.int .i64 4))), none, []⟩,
     ⟨some 4, .mv (.t 39), none, [0, 0]⟩])
    .ret)
   .skip))
  (.seq (.ops [
   ⟨some 4, .mv (.c (.pv .nili)), none, []⟩])
  .ret))))))⟩
def f90 : AFunc := ⟨60, [.t 6],
 (.seq (.ops [
   ⟨some 3, .box (.t 0), none, []⟩,
   ⟨some 6, .mv (.c (.pv .nili)), none, []⟩])
  (.seq (.ops [
   ⟨some 8, .mv (.t 1), none, []⟩,
   ⟨some 9, .mv (.t 2), none, []⟩,
   ⟨some 10, .idxAddr 6 (.t 8) (.t 9), none, [0, 1]⟩,
   ⟨some 11, .load true 6 (.t 10), none, [2]⟩,
   ⟨some 7, .alloc [(.pv (.int .i64 0)), (.pv (.int .u64 0)), (.pv (.int .u64 0)), (.pv (.int .u64 0)), (.pv (.int .u64 0)), (.pv (.bool false))], none, []⟩,
   ⟨none, .store 6 (.t 7) (.t 11), none, [4, 3, 0, 1, 2, 3, 4]⟩])
  (.seq (.block 0
   (.seq (.draw [
     ⟨some 13, .mv (.t 2), none, []⟩,
     ⟨some 14, .bin .gtr none (.t 13) (.c (.pv (.int .i64 0))), none, [0]⟩,
     ⟨some 15, .mv (.t 14), none, [1]⟩,
     ⟨some 16, .fieldAddr 0 (.t 7), some (15, true), [2]⟩,
     ⟨some 17, .load false 1 (.t 16), some (15, true), [3, 2]⟩,
     ⟨some 18, .mv (.t 1), some (15, true), [2]⟩,
     ⟨some 19, .mv (.t 2), some (15, true), [2]⟩,
     ⟨some 20, .bin .sub none (.t 19) (.c (.pv (.int .i64 1))), some (15, true), [6, 2]⟩,
     ⟨some 21, .idxAddr 6 (.t 18) (.t 20), some (15, true), [5, 7, 2]⟩,
     ⟨some 22, .fieldAddr 0 (.t 21), some (15, true), [8, 2]⟩,
     ⟨some 23, .load false 1 (.t 22), some (15, true), [9, 2]⟩,
     ⟨some 24, .bin .eql none (.t 17) (.t 23), some (15, true), [4, 10, 2]⟩,
     ⟨some 25, .pick (.t 15) (.t 24) (.c (.pv (.bool false))), none, [2, 11]⟩,
     ⟨some 12, .mv (.t 25), none, [12, 2]⟩])
    (.cond (.t 12)
     (.seq (.ops [
       ⟨some 26, .mkI 0 (.c (.pv (.int .i64 5))), none, []⟩,
       ⟨some 6, .mv (.t 26), none, [0, 0]⟩])
      .ret)
     (.seq (.draw [
       ⟨some 28, .mv (.t 2), none, []⟩,
       ⟨some 29, .bin .gtr none (.t 28) (.c (.pv (.int .i64 0))), none, [0]⟩,
       ⟨some 30, .mv (.t 29), none, [1]⟩,
       ⟨some 31, .fieldAddr 0 (.t 7), some (30, true), [2]⟩,
       ⟨some 32, .load false 1 (.t 31), some (30, true), [3, 2]⟩,
       ⟨some 33, .mv (.t 1), some (30, true), [2]⟩,
       ⟨some 34, .mv (.t 2), some (30, true), [2]⟩,
       ⟨some 35, .bin .sub none (.t 34) (.c (.pv (.int .i64 1))), some (30, true), [6, 2]⟩,
       ⟨some 36, .idxAddr 6 (.t 33) (.t 35), some (30, true), [5, 7, 2]⟩,
       ⟨some 37, .fieldAddr 0 (.t 36), some (30, true), [8, 2]⟩,
       ⟨some 38, .load false 1 (.t 37), some (30, true), [9, 2]⟩,
       ⟨some 39, .bin .lss none (.t 32) (.t 38), some (30, true), [4, 10, 2]⟩,
       ⟨some 40, .pick (.t 30) (.t 39) (.c (.pv (.bool false))), none, [2, 11]⟩,
       ⟨some 27, .mv (.t 40), none, [12, 2]⟩])
      (.cond (.t 27)
       (.seq (.ops [
         ⟨some 41, .mkI 0 (.c (.pv (.int .i64 1))), none, []⟩,
         ⟨some 6, .mv (.t 41), none, [0, 0]⟩])
        .ret)
       (.seq (.ops [
         ⟨some 43, .fieldAddr 2 (.t 3), none, []⟩,
         ⟨some 44, .load false 1 (.t 43), none, [0]⟩,
         ⟨some 45, .mkF 91 [] [(.t 7)], none, []⟩,
         ⟨some 46, .call 282 [(.t 44), (.t 45)], none, [1, 2]⟩,
         ⟨some 47, .not (.t 46), none, [3]⟩,
         ⟨some 42, .mv (.t 47), none, [4, 3]⟩])
        (.cond (.t 42)
         (.seq (.ops [
           ⟨some 48, .mkI 0 (.c (.pv (.int .i64 4))), none, []⟩,
           ⟨some 6, .mv (.t 48), none, [0, 0]⟩])
          .ret)
         (.seq (.ops [
           ⟨some 50, .fieldAddr 5 (.t 7), none, []⟩,
           ⟨some 51, .load false 1 (.t 50), none, [0]⟩,
           ⟨some 52, .not (.t 51), none, [1]⟩,
           ⟨some 53, .mv (.t 52), none, [2]⟩,
           ⟨some 54, .fieldAddr 1 (.t 7), some (53, true), [3]⟩,
           ⟨some 55, .load true 4 (.t 54), some (53, true), [4, 3]⟩,
           ⟨some 56, .build [(.pv (.int .u64 0)), (.pv (.int .u64 0)), (.pv (.int .u64 0)), (.pv (.int .u64 0))] [], some (53, true), [3]⟩,
           ⟨some 57, .bin .neq (some (.plain [false, false, false, false])) (.t 55) (.t 56), some (53, true), [5, 6, 3]⟩,
           ⟨some 58, .pick (.t 53) (.t 57) (.c (.pv (.bool false))), none, [3, 7]⟩,
           ⟨some 49, .mv (.t 58), none, [8, 3]⟩])
          (.cond (.t 49)
           (.seq (.ops [
             ⟨some 59, .mkI 0 (.c (.pv (.int .i64 1))), none, []⟩,
             ⟨some 6, .mv (.t 59), none, [0, 0]⟩])
            .ret)
           .skip)))))))))
  (.seq (.ops [
   ⟨some 6, .mv (.c (.pv .nili)), none, []⟩])
  .ret))))⟩
def f91 : AFunc := ⟨9, [.t 3],
 (.seq (.ops [
   ⟨some 2, .box (.t 0), none, []⟩,
   ⟨some 3, .mv (.c (.pv (.bool false))), none, []⟩])
  (.seq (.ops [
   ⟨some 4, .fieldAddr 0 (.t 2), none, []⟩,
   ⟨some 5, .load false 1 (.t 4), none, [0]⟩,
   ⟨some 6, .fieldAddr 0 (.t 1), none, []⟩,
   ⟨some 7, .load false 1 (.t 6), none, [2]⟩,
   ⟨some 8, .bin .eql none (.t 5) (.t 7), none, [1, 3]⟩,
   ⟨some 3, .mv (.t 8), none, [4, 0, 1, 2, 3, 4]⟩])
  .ret))⟩
def f151l0 : ACode :=
 (.seq (.seq (.ops [
   ⟨some 42, .mv (.t 6), none, []⟩,
   ⟨some 43, .fieldAddr 0 (.t 1), none, []⟩,
   ⟨some 44, .load false 1 (.t 43), none, [1]⟩,
   ⟨some 45, .len (.t 44), none, [2]⟩,
   ⟨some 46, .bin .lss none (.t 42) (.t 45), none, [0, 3]⟩])
  (.cond (.t 46)
   .skip
   (.exit 0)))
  (.seq (.block 1
   (.seq (.ops [
     ⟨some 49, .fieldAddr 0 (.t 1), none, []⟩,
     ⟨some 50, .load false 1 (.t 49), none, [0]⟩,
     ⟨some 51, .mv (.t 6), none, []⟩,
     ⟨some 52, .idxAddr 10 (.t 50) (.t 51), none, [1, 2]⟩,
     ⟨some 53, .load true 10 (.t 52), none, [3]⟩,
     ⟨some 7, .alloc [(.pv (.int .i64 0)), (.pv (.int .i64 0)), (.pv (.int .u64 0)), (.pv (.int .u64 0)), (.pv (.int .u64 0)), (.pv (.int .u64 0)), (.pv (.int .u64 0)), (.pv (.int .u64 0)), (.pv (.int .u64 0)), (.pv (.int .u64 0))], none, []⟩,
     ⟨none, .store 10 (.t 7) (.t 53), none, [5, 4, 0, 1, 2, 3, 4, 5]⟩])
    (.seq (.ops [
     ⟨some 54, .fieldAddr 0 (.t 7), none, []⟩,
     ⟨some 55, .load false 1 (.t 54), none, [0]⟩,
     ⟨some 56, .mv (.t 4), none, []⟩,
     ⟨some 57, .call 160 [(.t 55), (.t 56)], none, [1, 2]⟩,
     ⟨some 8, .mv (.t 57), none, [3, 3, 0, 1, 2, 3]⟩])
    (.seq (.ops [
     ⟨some 58, .fieldAddr 6 (.t 7), none, []⟩,
     ⟨some 59, .load true 4 (.t 58), none, [0]⟩,
     ⟨some 60, .fieldAddr 2 (.t 7), none, []⟩,
     ⟨some 61, .load true 4 (.t 60), none, [2]⟩,
     ⟨some 62, .call 141 [(.t 59), (.t 61)], none, [1, 3]⟩,
     ⟨some 9, .mv (.t 62), none, [4, 4, 0, 1, 2, 3, 4]⟩])
    (.seq (.seq (.ops [
     ⟨some 63, .mv (.t 8), none, []⟩,
     ⟨some 64, .bin .eql none (.t 63) (.c (.pv (.int .i64 0))), none, [0]⟩,
     ⟨some 65, .mv (.t 64), none, [1]⟩,
     ⟨some 66, .fieldAddr 1 (.t 7), some (65, true), [2]⟩,
     ⟨some 67, .load false 1 (.t 66), some (65, true), [3, 2]⟩,
     ⟨some 68, .bin .lss none (.t 67) (.c (.pv (.int .i64 1))), some (65, true), [4, 2]⟩,
     ⟨some 69, .mv (.t 68), some (65, true), [5, 2, 2]⟩,
     ⟨some 70, .fieldAddr 1 (.t 7), some (69, false), [6]⟩,
     ⟨some 71, .load false 1 (.t 70), some (69, false), [7, 6]⟩,
     ⟨some 72, .bin .gtr none (.t 71) (.c (.pv (.int .i64 8))), some (69, false), [8, 6]⟩,
     ⟨some 73, .pick (.t 69) (.c (.pv (.bool true))) (.t 72), some (65, true), [6, 9, 2]⟩,
     ⟨some 74, .mv (.t 73), some (65, true), [10, 6, 2]⟩,
     ⟨some 75, .mv (.t 9), some (74, false), [11]⟩,
     ⟨some 76, .not (.t 75), some (74, false), [12, 11]⟩,
     ⟨some 77, .pick (.t 74) (.c (.pv (.bool true))) (.t 76), some (65, true), [11, 13, 2]⟩,
     ⟨some 78, .pick (.t 65) (.t 77) (.c (.pv (.bool false))), none, [2, 14]⟩])
    (.cond (.t 78)
     (.ops [
       ⟨some 8, .mv (.c (.pv (.int .i64 1))), none, []⟩])
     .skip))
    (.seq (.seq (.ops [
     ⟨some 79, .mv (.t 8), none, []⟩,
     ⟨some 80, .bin .neq none (.t 79) (.c (.pv (.int .i64 0))), none, [0]⟩])
    (.cond (.t 80)
     (.seq (.ops [
       ⟨some 81, .mv (.t 8), none, []⟩,
       ⟨some 82, .mv (.t 5), none, []⟩,
       ⟨some 2, .mv (.t 81), none, [0, 0]⟩,
       ⟨some 3, .mv (.t 82), none, [1, 2, 0, 1, 2]⟩])
      .ret)
     .skip))
    (.seq (.ops [
     ⟨some 83, .fieldAddr 0 (.t 7), none, []⟩,
     ⟨some 84, .load false 1 (.t 83), none, [0]⟩,
     ⟨some 4, .mv (.t 84), none, [1, 0, 1]⟩])
    (.ops [
     ⟨some 85, .mv (.t 5), none, []⟩,
     ⟨some 86, .bin .add none (.t 85) (.c (.pv (.int .i64 1))), none, [0]⟩,
     ⟨some 5, .mv (.t 86), none, [1, 0, 1]⟩]))))))))
  (.ops [
   ⟨some 47, .mv (.t 6), none, []⟩,
   ⟨some 48, .bin .add none (.t 47) (.c (.pv (.int .i64 1))), none, [0]⟩,
   ⟨some 6, .mv (.t 48), none, [1, 0, 1]⟩])))
def f151l1 : ACode :=
 (.seq (.seq (.ops [
   ⟨some 87, .mv (.t 10), none, []⟩,
   ⟨some 88, .fieldAddr 1 (.t 1), none, []⟩,
   ⟨some 89, .load false 1 (.t 88), none, [1]⟩,
   ⟨some 90, .len (.t 89), none, [2]⟩,
   ⟨some 91, .bin .lss none (.t 87) (.t 90), none, [0, 3]⟩])
  (.cond (.t 91)
   .skip
   (.exit 2)))
  (.seq (.block 3
   (.seq (.ops [
     ⟨some 94, .fieldAddr 1 (.t 1), none, []⟩,
     ⟨some 95, .load false 1 (.t 94), none, [0]⟩,
     ⟨some 96, .mv (.t 10), none, []⟩,
     ⟨some 97, .idxAddr 5 (.t 95) (.t 96), none, [1, 2]⟩,
     ⟨some 98, .load true 5 (.t 97), none, [3]⟩,
     ⟨some 11, .alloc [(.pv (.int .i64 0)), (.pv (.bool false)), (.pv (.int .i64 0)), (.pv (.int .i64 0)), (.pv (.int .i64 0))], none, []⟩,
     ⟨none, .store 5 (.t 11) (.t 98), none, [5, 4, 0, 1, 2, 3, 4, 5]⟩])
    (.seq (.ops [
     ⟨some 99, .fieldAddr 0 (.t 11), none, []⟩,
     ⟨some 100, .load false 1 (.t 99), none, [0]⟩,
     ⟨some 101, .mv (.t 4), none, []⟩,
     ⟨some 102, .call 160 [(.t 100), (.t 101)], none, [1, 2]⟩,
     ⟨some 12, .mv (.t 102), none, [3, 3, 0, 1, 2, 3]⟩])
    (.seq (.ops [
     ⟨some 103, .fieldAddr 2 (.t 11), none, []⟩,
     ⟨some 104, .load false 1 (.t 103), none, [0]⟩,
     ⟨some 105, .call 159 [(.t 104)], none, [1]⟩,
     ⟨some 13, .mv (.t 105), none, [2, 2, 0, 1, 2]⟩])
    (.seq (.ops [
     ⟨some 106, .fieldAddr 3 (.t 11), none, []⟩,
     ⟨some 107, .load false 1 (.t 106), none, [0]⟩,
     ⟨some 108, .call 159 [(.t 107)], none, [1]⟩,
     ⟨some 14, .mv (.t 108), none, [2, 2, 0, 1, 2]⟩])
    (.seq (.ops [
     ⟨some 109, .fieldAddr 4 (.t 11), none, []⟩,
     ⟨some 110, .load false 1 (.t 109), none, [0]⟩,
     ⟨some 111, .call 159 [(.t 110)], none, [1]⟩,
     ⟨some 15, .mv (.t 111), none, [2, 2, 0, 1, 2]⟩])
    (.seq (.seq (.ops [
     ⟨some 112, .mv (.t 12), none, []⟩,
     ⟨some 113, .bin .eql none (.t 112) (.c (.pv (.int .i64 0))), none, [0]⟩,
     ⟨some 114, .mv (.t 113), none, [1]⟩,
     ⟨some 115, .mv (.t 13), some (114, true), [2]⟩,
     ⟨some 116, .not (.t 115), some (114, true), [3, 2]⟩,
     ⟨some 117, .mv (.t 116), some (114, true), [4, 2, 2]⟩,
     ⟨some 118, .mv (.t 14), some (117, false), [5]⟩,
     ⟨some 119, .not (.t 118), some (117, false), [6, 5]⟩,
     ⟨some 120, .pick (.t 117) (.c (.pv (.bool true))) (.t 119), some (114, true), [5, 7, 2]⟩,
     ⟨some 121, .mv (.t 120), some (114, true), [8, 5, 2]⟩,
     ⟨some 122, .mv (.t 15), some (121, false), [9]⟩,
     ⟨some 123, .not (.t 122), some (121, false), [10, 9]⟩,
     ⟨some 124, .pick (.t 121) (.c (.pv (.bool true))) (.t 123), some (114, true), [9, 11, 2]⟩,
     ⟨some 125, .mv (.t 124), some (114, true), [12, 9, 2]⟩,
     ⟨some 126, .fieldAddr 3 (.t 11), some (125, false), [13]⟩,
     ⟨some 127, .load false 1 (.t 126), some (125, false), [14, 13]⟩,
     ⟨some 128, .fieldAddr 4 (.t 11), some (125, false), [13]⟩,
     ⟨some 129, .load false 1 (.t 128), some (125, false), [16, 13]⟩,
     ⟨some 130, .bin .gtr none (.t 127) (.t 129), some (125, false), [15, 17, 13]⟩,
     ⟨some 131, .pick (.t 125) (.c (.pv (.bool true))) (.t 130), some (114, true), [13, 18, 2]⟩,
     ⟨some 132, .pick (.t 114) (.t 131) (.c (.pv (.bool false))), none, [2, 19]⟩])
    (.cond (.t 132)
     (.ops [
       ⟨some 12, .mv (.c (.pv (.int .i64 1))), none, []⟩])
     .skip))
    (.seq (.seq (.ops [
     ⟨some 133, .mv (.t 12), none, []⟩,
     ⟨some 134, .bin .neq none (.t 133) (.c (.pv (.int .i64 0))), none, [0]⟩])
    (.cond (.t 134)
     (.seq (.ops [
       ⟨some 135, .mv (.t 12), none, []⟩,
       ⟨some 136, .mv (.t 5), none, []⟩,
       ⟨some 2, .mv (.t 135), none, [0, 0]⟩,
       ⟨some 3, .mv (.t 136), none, [1, 2, 0, 1, 2]⟩])
      .ret)
     .skip))
    (.seq (.ops [
     ⟨some 137, .fieldAddr 0 (.t 11), none, []⟩,
     ⟨some 138, .load false 1 (.t 137), none, [0]⟩,
     ⟨some 4, .mv (.t 138), none, [1, 0, 1]⟩])
    (.ops [
     ⟨some 139, .mv (.t 5), none, []⟩,
     ⟨some 140, .bin .add none (.t 139) (.c (.pv (.int .i64 1))), none, [0]⟩,
     ⟨some 5, .mv (.t 140), none, [1, 0, 1]⟩]))))))))))
  (.ops [
   ⟨some 92, .mv (.t 10), none, []⟩,
   ⟨some 93, .bin .add none (.t 92) (.c (.pv (.int .i64 1))), none, [0]⟩,
   ⟨some 10, .mv (.t 93), none, [1, 0, 1]⟩])))
def f151l2 : ACode :=
 (.seq (.seq (.ops [
   ⟨some 141, .mv (.t 16), none, []⟩,
   ⟨some 142, .fieldAddr 2 (.t 1), none, []⟩,
   ⟨some 143, .load false 1 (.t 142), none, [1]⟩,
   ⟨some 144, .len (.t 143), none, [2]⟩,
   ⟨some 145, .bin .lss none (.t 141) (.t 144), none, [0, 3]⟩])
  (.cond (.t 145)
   .skip
   (.exit 4)))
  (.seq (.block 5
   (.seq (.ops [
     ⟨some 148, .fieldAddr 2 (.t 1), none, []⟩,
     ⟨some 149, .load false 1 (.t 148), none, [0]⟩,
     ⟨some 150, .mv (.t 16), none, []⟩,
     ⟨some 151, .idxAddr 8 (.t 149) (.t 150), none, [1, 2]⟩,
     ⟨some 152, .load true 8 (.t 151), none, [3]⟩,
     ⟨some 17, .alloc [(.pv (.int .i64 0)), (.pv (.int .i64 0)), (.pv (.int .i64 0)), (.pv (.int .u64 0)), (.pv (.int .u64 0)), (.pv (.int .u64 0)), (.pv (.int .u64 0)), (.pv (.int .i64 0))], none, []⟩,
     ⟨none, .store 8 (.t 17) (.t 152), none, [5, 4, 0, 1, 2, 3, 4, 5]⟩])
    (.seq (.ops [
     ⟨some 153, .fieldAddr 0 (.t 17), none, []⟩,
     ⟨some 154, .load false 1 (.t 153), none, [0]⟩,
     ⟨some 155, .mv (.t 4), none, []⟩,
     ⟨some 156, .call 160 [(.t 154), (.t 155)], none, [1, 2]⟩,
     ⟨some 18, .mv (.t 156), none, [3, 3, 0, 1, 2, 3]⟩])
    (.seq (.ops [
     ⟨some 157, .fieldAddr 2 (.t 17), none, []⟩,
     ⟨some 158, .load false 1 (.t 157), none, [0]⟩,
     ⟨some 159, .call 159 [(.t 158)], none, [1]⟩,
     ⟨some 19, .mv (.t 159), none, [2, 2, 0, 1, 2]⟩])
    (.seq (.seq (.ops [
     ⟨some 160, .mv (.t 18), none, []⟩,
     ⟨some 161, .bin .eql none (.t 160) (.c (.pv (.int .i64 0))), none, [0]⟩,
     ⟨some 162, .mv (.t 161), none, [1]⟩,
     ⟨some 163, .mv (.t 19), some (162, true), [2]⟩,
     ⟨some 164, .not (.t 163), some (162, true), [3, 2]⟩,
     ⟨some 165, .pick (.t 162) (.t 164) (.c (.pv (.bool false))), none, [2, 4]⟩])
    (.cond (.t 165)
     (.ops [
       ⟨some 18, .mv (.c (.pv (.int .i64 1))), none, []⟩])
     .skip))
    (.seq (.seq (.ops [
     ⟨some 166, .mv (.t 18), none, []⟩,
     ⟨some 167, .bin .eql none (.t 166) (.c (.pv (.int .i64 0))), none, [0]⟩,
     ⟨some 168, .mv (.t 167), none, [1]⟩,
     ⟨some 169, .load true 3 (.t 1), some (168, true), [2]⟩,
     ⟨some 170, .fieldAddr 1 (.t 17), some (168, true), [2]⟩,
     ⟨some 171, .load false 1 (.t 170), some (168, true), [4, 2]⟩,
     ⟨some 172, .call 154 [(.t 169), (.t 171)], some (168, true), [3, 5, 2, 2]⟩,
     ⟨some 173, .bin .lss none (.t 172) (.c (.pv (.int .i64 0))), some (168, true), [6, 2]⟩,
     ⟨some 174, .mv (.t 173), some (168, true), [7, 6, 2]⟩,
     ⟨some 175, .fieldAddr 7 (.t 17), some (174, false), [8]⟩,
     ⟨some 176, .load false 1 (.t 175), some (174, false), [9, 8]⟩,
     ⟨some 177, .bin .neq none (.t 176) (.c (.pv (.int .i64 0))), some (174, false), [10, 8]⟩,
     ⟨some 178, .mv (.t 177), some (174, false), [11, 8, 8]⟩,
     ⟨some 179, .load true 3 (.t 1), some (178, true), [12]⟩,
     ⟨some 180, .fieldAddr 7 (.t 17), some (178, true), [12]⟩,
     ⟨some 181, .load false 1 (.t 180), some (178, true), [14, 12]⟩,
     ⟨some 182, .call 155 [(.t 179), (.t 181)], some (178, true), [13, 15, 12, 12]⟩,
     ⟨some 183, .bin .lss none (.t 182) (.c (.pv (.int .i64 0))), some (178, true), [16, 12]⟩,
     ⟨some 184, .pick (.t 178) (.t 183) (.c (.pv (.bool false))), some (174, false), [12, 17, 8]⟩,
     ⟨some 185, .pick (.t 174) (.c (.pv (.bool true))) (.t 184), some (168, true), [8, 18, 2]⟩,
     ⟨some 186, .pick (.t 168) (.t 185) (.c (.pv (.bool false))), none, [2, 19]⟩])
    (.cond (.t 186)
     (.ops [
       ⟨some 18, .mv (.c (.pv (.int .i64 4))), none, []⟩])
     .skip))
    (.seq (.seq (.ops [
     ⟨some 187, .mv (.t 18), none, []⟩,
     ⟨some 188, .bin .neq none (.t 187) (.c (.pv (.int .i64 0))), none, [0]⟩])
    (.cond (.t 188)
     (.seq (.ops [
       ⟨some 189, .mv (.t 18), none, []⟩,
       ⟨some 190, .mv (.t 5), none, []⟩,
       ⟨some 2, .mv (.t 189), none, [0, 0]⟩,
       ⟨some 3, .mv (.t 190), none, [1, 2, 0, 1, 2]⟩])
      .ret)
     .skip))
    (.seq (.ops [
     ⟨some 191, .fieldAddr 0 (.t 17), none, []⟩,
     ⟨some 192, .load false 1 (.t 191), none, [0]⟩,
     ⟨some 4, .mv (.t 192), none, [1, 0, 1]⟩])
    (.ops [
     ⟨some 193, .mv (.t 5), none, []⟩,
     ⟨some 194, .bin .add none (.t 193) (.c (.pv (.int .i64 1))), none, [0]⟩,
     ⟨some 5, .mv (.t 194), none, [1, 0, 1]⟩])))))))))
  (.ops [
   ⟨some 146, .mv (.t 16), none, []⟩,
   ⟨some 147, .bin .add none (.t 146) (.c (.pv (.int .i64 1))), none, [0]⟩,
   ⟨some 16, .mv (.t 147), none, [1, 0, 1]⟩])))
def f151 : AFunc := ⟨195, [.t 2, .t 3],
 (.seq (.ops [
   ⟨some 1, .box (.t 0), none, []⟩,
   ⟨some 2, .mv (.c (.pv (.int .i64 0))), none, []⟩,
   ⟨some 3, .mv (.c (.pv (.int .i64 0))), none, [1]⟩])
  (.seq (.seq (.ops [
   ⟨some 20, .fieldAddr 0 (.t 1), none, []⟩,
   ⟨some 21, .load false 1 (.t 20), none, [0]⟩,
   ⟨some 22, .len (.t 21), none, [1]⟩,
   ⟨some 23, .bin .eql none (.t 22) (.c (.pv (.int .i64 0))), none, [2]⟩,
   ⟨some 24, .mv (.t 23), none, [3]⟩,
   ⟨some 25, .fieldAddr 0 (.t 1), some (24, false), [4]⟩,
   ⟨some 26, .load false 1 (.t 25), some (24, false), [5, 4]⟩,
   ⟨some 27, .len (.t 26), some (24, false), [6, 4]⟩,
   ⟨some 28, .bin .gtr none (.t 27) (.c (.pv (.int .i64 8))), some (24, false), [7, 4]⟩,
   ⟨some 29, .pick (.t 24) (.c (.pv (.bool true))) (.t 28), none, [4, 8]⟩,
   ⟨some 30, .mv (.t 29), none, [9, 4]⟩,
   ⟨some 31, .fieldAddr 1 (.t 1), some (30, false), [10]⟩,
   ⟨some 32, .load false 1 (.t 31), some (30, false), [11, 10]⟩,
   ⟨some 33, .len (.t 32), some (30, false), [12, 10]⟩,
   ⟨some 34, .bin .gtr none (.t 33) (.c (.pv (.int .i64 8))), some (30, false), [13, 10]⟩,
   ⟨some 35, .pick (.t 30) (.c (.pv (.bool true))) (.t 34), none, [10, 14]⟩,
   ⟨some 36, .mv (.t 35), none, [15, 10]⟩,
   ⟨some 37, .fieldAddr 2 (.t 1), some (36, false), [16]⟩,
   ⟨some 38, .load false 1 (.t 37), some (36, false), [17, 16]⟩,
   ⟨some 39, .len (.t 38), some (36, false), [18, 16]⟩,
   ⟨some 40, .bin .gtr none (.t 39) (.c (.pv (.int .i64 12))), some (36, false), [19, 16]⟩,
   ⟨some 41, .pick (.t 36) (.c (.pv (.bool true))) (.t 40), none, [16, 20]⟩])
  (.cond (.t 41)
   (.seq (.ops [
     ⟨some 2, .mv (.c (.pv (.int .i64 3))), none, []⟩,
     ⟨some 3, .mv (.c (.pv (.int .i64 (-1)))), none, [0, 0]⟩])
    .ret)
   .skip))
  (.seq (.ops [
   ⟨some 4, .mv (.c (.pv (.int .i64 0))), none, []⟩])
  (.seq (.ops [
   ⟨some 5, .mv (.c (.pv (.int .i64 0))), none, []⟩])
  (.seq (.seq (.ops [
   ⟨some 6, .mv (.c (.pv (.int .i64 0))), none, []⟩])
  (.block 0
   (.loop f151l0)))
  (.seq (.ops [
   ⟨some 4, .mv (.c (.pv (.int .i64 0))), none, []⟩])
  (.seq (.seq (.ops [
   ⟨some 10, .mv (.c (.pv (.int .i64 0))), none, []⟩])
  (.block 2
   (.loop f151l1)))
  (.seq (.ops [
   ⟨some 4, .mv (.c (.pv (.int .i64 0))), none, []⟩])
  (.seq (.seq (.ops [
   ⟨some 16, .mv (.c (.pv (.int .i64 0))), none, []⟩])
  (.block 4
   (.loop f151l2)))
  (.seq (.ops [
   ⟨some 2, .mv (.c (.pv (.int .i64 0))), none, []⟩,
   ⟨some 3, .mv (.c (.pv (.int .i64 (-1)))), none, [0, 0]⟩])
  .ret))))))))))⟩
def f152l0 : ACode :=
 (.seq (.seq (.ops [
   ⟨some 37, .mv (.t 8), none, []⟩,
   ⟨some 38, .fieldAddr 0 (.t 3), none, []⟩,
   ⟨some 39, .load false 1 (.t 38), none, [1]⟩,
   ⟨some 40, .len (.t 39), none, [2]⟩,
   ⟨some 41, .bin .lss none (.t 37) (.t 40), none, [0, 3]⟩])
  (.cond (.t 41)
   .skip
   (.exit 0)))
  (.seq (.block 1
   (.seq (.ops [
     ⟨some 44, .fieldAddr 0 (.t 3), none, []⟩,
     ⟨some 45, .load false 1 (.t 44), none, [0]⟩,
     ⟨some 46, .mv (.t 8), none, []⟩,
     ⟨some 47, .idxAddr 6 (.t 45) (.t 46), none, [1, 2]⟩,
     ⟨some 48, .load true 6 (.t 47), none, [3]⟩,
     ⟨some 9, .alloc [(.pv (.int .i64 0)), (.pv (.int .u64 0)), (.pv (.int .u64 0)), (.pv (.int .u64 0)), (.pv (.int .u64 0)), (.pv (.bool false))], none, []⟩,
     ⟨none, .store 6 (.t 9) (.t 48), none, [5, 4, 0, 1, 2, 3, 4, 5]⟩])
    (.seq (.seq (.draw [
     ⟨some 49, .mv (.t 8), none, []⟩,
     ⟨some 50, .bin .gtr none (.t 49) (.c (.pv (.int .i64 0))), none, [0]⟩,
     ⟨some 51, .mv (.t 50), none, [1]⟩,
     ⟨some 52, .fieldAddr 0 (.t 9), some (51, true), [2]⟩,
     ⟨some 53, .load false 1 (.t 52), some (51, true), [3, 2]⟩,
     ⟨some 54, .fieldAddr 0 (.t 3), some (51, true), [2]⟩,
     ⟨some 55, .load false 1 (.t 54), some (51, true), [5, 2]⟩,
     ⟨some 56, .mv (.t 8), some (51, true), [2]⟩,
     ⟨some 57, .bin .sub none (.t 56) (.c (.pv (.int .i64 1))), some (51, true), [7, 2]⟩,
     ⟨some 58, .idxAddr 6 (.t 55) (.t 57), some (51, true), [6, 8, 2]⟩,
     ⟨some 59, .fieldAddr 0 (.t 58), some (51, true), [9, 2]⟩,
     ⟨some 60, .load false 1 (.t 59), some (51, true), [10, 2]⟩,
     ⟨some 61, .bin .eql none (.t 53) (.t 60), some (51, true), [4, 11, 2]⟩,
     ⟨some 62, .pick (.t 51) (.t 61) (.c (.pv (.bool false))), none, [2, 12]⟩])
    (.cond (.t 62)
     (.seq (.ops [
       ⟨some 63, .mv (.t 8), none, []⟩,
       ⟨some 4, .mv (.c (.pv (.int .i64 5))), none, []⟩,
       ⟨some 5, .mv (.t 63), none, [0, 1, 0, 1]⟩])
      .ret)
     .skip))
    (.seq (.seq (.draw [
     ⟨some 64, .mv (.t 8), none, []⟩,
     ⟨some 65, .bin .gtr none (.t 64) (.c (.pv (.int .i64 0))), none, [0]⟩,
     ⟨some 66, .mv (.t 65), none, [1]⟩,
     ⟨some 67, .fieldAddr 0 (.t 9), some (66, true), [2]⟩,
     ⟨some 68, .load false 1 (.t 67), some (66, true), [3, 2]⟩,
     ⟨some 69, .fieldAddr 0 (.t 3), some (66, true), [2]⟩,
     ⟨some 70, .load false 1 (.t 69), some (66, true), [5, 2]⟩,
     ⟨some 71, .mv (.t 8), some (66, true), [2]⟩,
     ⟨some 72, .bin .sub none (.t 71) (.c (.pv (.int .i64 1))), some (66, true), [7, 2]⟩,
     ⟨some 73, .idxAddr 6 (.t 70) (.t 72), some (66, true), [6, 8, 2]⟩,
     ⟨some 74, .fieldAddr 0 (.t 73), some (66, true), [9, 2]⟩,
     ⟨some 75, .load false 1 (.t 74), some (66, true), [10, 2]⟩,
     ⟨some 76, .bin .lss none (.t 68) (.t 75), some (66, true), [4, 11, 2]⟩,
     ⟨some 77, .pick (.t 66) (.t 76) (.c (.pv (.bool false))), none, [2, 12]⟩])
    (.cond (.t 77)
     (.seq (.ops [
       ⟨some 78, .mv (.t 8), none, []⟩,
       ⟨some 4, .mv (.c (.pv (.int .i64 1))), none, []⟩,
       ⟨some 5, .mv (.t 78), none, [0, 1, 0, 1]⟩])
      .ret)
     .skip))
    (.seq (.seq (.ops [
     ⟨some 79, .load true 3 (.t 2), none, []⟩,
     ⟨some 80, .fieldAddr 0 (.t 9), none, []⟩,
     ⟨some 81, .load false 1 (.t 80), none, [1]⟩,
     ⟨some 82, .call 156 [(.t 79), (.t 81)], none, [0, 2]⟩,
     ⟨some 83, .bin .lss none (.t 82) (.c (.pv (.int .i64 0))), none, [3]⟩])
    (.cond (.t 83)
     (.seq (.ops [
       ⟨some 84, .mv (.t 8), none, []⟩,
       ⟨some 4, .mv (.c (.pv (.int .i64 4))), none, []⟩,
       ⟨some 5, .mv (.t 84), none, [0, 1, 0, 1]⟩])
      .ret)
     .skip))
    (.seq (.ops [
     ⟨some 85, .fieldAddr 5 (.t 9), none, []⟩,
     ⟨some 86, .load false 1 (.t 85), none, [0]⟩,
     ⟨some 87, .not (.t 86), none, [1]⟩,
     ⟨some 88, .mv (.t 87), none, [2]⟩,
     ⟨some 89, .fieldAddr 1 (.t 9), some (88, true), [3]⟩,
     ⟨some 90, .load true 4 (.t 89), some (88, true), [4, 3]⟩,
     ⟨some 91, .build [(.pv (.int .u64 0)), (.pv (.int .u64 0)), (.pv (.int .u64 0)), (.pv (.int .u64 0))] [], some (88, true), [3]⟩,
     ⟨some 92, .bin .neq (some (.plain [false, false, false, false])) (.t 90) (.t 91), some (88, true), [5, 6, 3]⟩,
     ⟨some 93, .pick (.t 88) (.t 92) (.c (.pv (.bool false))), none, [3, 7]⟩])
    (.cond (.t 93)
     (.seq (.ops [
       ⟨some 94, .mv (.t 8), none, []⟩,
       ⟨some 4, .mv (.c (.pv (.int .i64 1))), none, []⟩,
       ⟨some 5, .mv (.t 94), none, [0, 1, 0, 1]⟩])
      .ret)
     .skip)))))))
  (.ops [
   ⟨some 42, .mv (.t 8), none, []⟩,
   ⟨some 43, .bin .add none (.t 42) (.c (.pv (.int .i64 1))), none, [0]⟩,
   ⟨some 8, .mv (.t 43), none, [1, 0, 1]⟩])))
def f152 : AFunc := ⟨95, [.t 4, .t 5],
 (.seq (.ops [
   ⟨some 2, .box (.t 0), none, []⟩,
   ⟨some 3, .box (.t 1), none, []⟩,
   ⟨some 4, .mv (.c (.pv (.int .i64 0))), none, []⟩,
   ⟨some 5, .mv (.c (.pv (.int .i64 0))), none, [2]⟩])
  (.seq (.ops [
   ⟨some 11, .load true 3 (.t 2), none, []⟩,
   ⟨some 12, .call 151 [(.t 11)], none, [0]⟩,
   ⟨some 10, .mv (.t 12), none, [1]⟩,
   ⟨some 13, .extract (.t 10) 0, none, [2]⟩,
   ⟨some 14, .extract (.t 10) 1, none, [2]⟩,
   ⟨some 6, .mv (.t 13), none, [3, 1, 0, 1, 2, 3]⟩,
   ⟨some 7, .mv (.t 14), none, [4, 5, 0, 1, 2, 3, 4, 5]⟩])
  (.seq (.seq (.ops [
   ⟨some 15, .mv (.t 6), none, []⟩,
   ⟨some 16, .bin .neq none (.t 15) (.c (.pv (.int .i64 0))), none, [0]⟩])
  (.cond (.t 16)
   (.seq (.ops [
     ⟨some 17, .mv (.t 6), none, []⟩,
     ⟨some 18, .mv (.t 7), none, []⟩,
     ⟨some 4, .mv (.t 17), none, [0, 0]⟩,
     ⟨some 5, .mv (.t 18), none, [1, 2, 0, 1, 2]⟩])
    .ret)
   .skip))
  (.seq (.seq (.ops [
   ⟨some 19, .fieldAddr 1 (.t 3), none, []⟩,
   ⟨some 20, .load false 1 (.t 19), none, [0]⟩,
   ⟨some 21, .bin .lss none (.t 20) (.c (.pv (.int .i64 0))), none, [1]⟩,
   ⟨some 22, .mv (.t 21), none, [2]⟩,
   ⟨some 23, .fieldAddr 1 (.t 3), some (22, false), [3]⟩,
   ⟨some 24, .load false 1 (.t 23), some (22, false), [4, 3]⟩,
   ⟨some 25, .bin .gtr none (.t 24) (.c (.pv (.int .i64 40))), some (22, false), [5, 3]⟩,
   ⟨some 26, .pick (.t 22) (.c (.pv (.bool true))) (.t 25), none, [3, 6]⟩,
   ⟨some 27, .mv (.t 26), none, [7, 3]⟩,
   ⟨some 28, .fieldAddr 2 (.t 3), some (27, false), [8]⟩,
   ⟨some 29, .load false 1 (.t 28), some (27, false), [9, 8]⟩,
   ⟨some 30, .bin .lss none (.t 29) (.c (.pv (.int .i64 0))), some (27, false), [10, 8]⟩,
   ⟨some 31, .pick (.t 27) (.c (.pv (.bool true))) (.t 30), none, [8, 11]⟩,
   ⟨some 32, .mv (.t 31), none, [12, 8]⟩,
   ⟨some 33, .fieldAddr 2 (.t 3), some (32, false), [13]⟩,
   ⟨some 34, .load false 1 (.t 33), some (32, false), [14, 13]⟩,
   ⟨some 35, .bin .gtr none (.t 34) (.c (.pv (.int .i64 40))), some (32, false), [15, 13]⟩,
   ⟨some 36, .pick (.t 32) (.c (.pv (.bool true))) (.t 35), none, [13, 16]⟩])
  (.cond (.t 36)
   (.seq (.ops [
     ⟨some 4, .mv (.c (.pv (.int .i64 3))), none, []⟩,
     ⟨some 5, .mv (.c (.pv (.int .i64 (-1)))), none, [0, 0]⟩])
    .ret)
   .skip))
  (.seq (.seq (.ops [
   ⟨some 8, .mv (.c (.pv (.int .i64 0))), none, []⟩])
  (.block 0
   (.loop f152l0)))
  (.seq (.ops [
   ⟨some 4, .mv (.c (.pv (.int .i64 0))), none, []⟩,
   ⟨some 5, .mv (.c (.pv (.int .i64 (-1)))), none, [0, 0]⟩])
  .ret))))))⟩
def f257 : AFunc := ⟨15, [.t 4],
 (.seq (.ops [
   ⟨some 2, .box (.t 0), none, []⟩,
   ⟨some 3, .box (.t 1), none, []⟩,
   ⟨some 4, .mv (.c (.pv (.bool false))), none, []⟩])
  (.seq (.ops [
   ⟨some 8, .load true 4 (.t 3), none, []⟩,
   ⟨some 9, .load true 4 (.t 2), none, []⟩,
   ⟨some 10, .call 258 [(.t 8), (.t 9)], none, [0, 1]⟩,
   ⟨some 7, .mv (.t 10), none, [2]⟩,
   ⟨some 11, .extract (.t 7) 0, none, [3]⟩,
   ⟨some 12, .extract (.t 7) 1, none, [3]⟩,
   ⟨some 5, .alloc [(.pv (.int .u64 0)), (.pv (.int .u64 0)), (.pv (.int .u64 0)), (.pv (.int .u64 0))], none, []⟩,
   ⟨none, .store 4 (.t 5) (.t 11), none, [6, 4, 2, 0, 1, 2, 3, 4, 6]⟩,
   ⟨some 6, .mv (.t 12), none, [5, 7, 0, 1, 2, 3, 4, 5, 6, 7]⟩])
  (.seq (.ops [
   ⟨some 13, .mv (.t 6), none, []⟩,
   ⟨some 14, .bin .eql (some (.iface true)) (.t 13) (.c (.pv .nili)), none, [0]⟩,
   ⟨some 4, .mv (.t 14), none, [1, 0, 1]⟩])
  .ret)))⟩
def f282 : AFunc := ⟨9, [.t 4],
 (.seq (.ops [
   ⟨some 4, .mv (.c (.pv (.bool false))), none, []⟩])
  (.seq (.ops [
   ⟨some 5, .mv (.t 0), none, []⟩,
   ⟨some 6, .mv (.t 1), none, []⟩,
   ⟨some 7, .call 287 [(.t 5), (.t 6)], none, [0, 1]⟩,
   ⟨some 8, .bin .geq none (.t 7) (.c (.pv (.int .i64 0))), none, [2]⟩,
   ⟨some 4, .mv (.t 8), none, [3, 2, 0, 1, 2, 3]⟩])
  .ret))⟩
end Go.Proofs.YtggjhmbbbebfeaaGreatDoor.Ab
set_option linter.unusedVariables false
set_option linter.unusedSimpArgs false
namespace Go.Proofs.YtggjhmbbbebfeaaGreatDoor.Ab
open Go
def countB (n : Int) : Bool := decide (0 ≤ n) && decide (n ≤ 100)
def idP (n last : Int) : Int := if n = last ∧ 1 ≤ n then 5 else if n < 1 ∨ 2147483647 < n ∨ n < last then 1 else 0
def loadBad (l : Load) : Int := if countB l.skew = true ∧ countB l.min = true ∧ countB l.max = true ∧ l.min ≤ l.max then 0 else 1
def nodeBad (n : Node) : Int := if 1 ≤ n.zone ∧ n.zone ≤ 8 ∧ fitsB n.held n.cap = true then 0 else 1
def podBad (s : Snap) (p : Pod) : Int := if countB p.prio = false then 1 else if loadOf p.load s.loads = none ∨ (p.node ≠ 0 ∧ nodeOf p.node s.nodes = none) then 4 else 0
theorem errC0 : errC 0 = .nili := rfl
theorem errC1 : errC 1 = .iface 0 (.int .i64 1) := rfl
theorem errC4 : errC 4 = .iface 0 (.int .i64 4) := rfl
theorem errC5 : errC 5 = .iface 0 (.int .i64 5) := rfl
section
variable {T : Tab}
theorem count_ok (h85 : Std T 85 f85) (n : Int) : Gives T 85 [.int .i64 n] (.bool (countB n)) := by
  refine gives h85 rfl ?_
  unfold countB
  by_cases h1 : 0 ≤ n
  · simp only [f85, runL, defL, binV, simprocAttr, List.drop, List.take, h1, Bool.true_and]
  · simp only [f85, runL, defL, binV, simprocAttr, List.drop, List.take, h1, Bool.false_and]
theorem id_ok (h86 : Std T 86 f86) (n last : Int) : Gives T 86 [.int .i64 n, .int .i64 last] (errC (idP n last)) := by
  refine gives h86 rfl ?_
  unfold idP
  have D : ∀ p : Prop, [Decidable p] → p → decide p = true := fun p _ h => decide_eq_true h
  by_cases h1 : n = last
  · have d1 := D _ h1
    by_cases h2 : 1 ≤ n
    · rw [if_pos ⟨h1, h2⟩]
      simp only [f86, runL, defL, binV, simprocAttr, List.drop, List.take, d1, h2, errC5]
    · rw [if_neg (fun h => h2 h.2), if_pos (.inl (by omega))]
      have h3 : n < 1 := by omega
      simp only [f86, runL, defL, binV, simprocAttr, List.drop, List.take, d1, h2, h3, errC1]
  · rw [if_neg (fun h => h1 h.1)]
    by_cases h3 : n < 1
    · rw [if_pos (.inl h3)]
      simp only [f86, runL, defL, binV, simprocAttr, List.drop, List.take, h1, h3, errC1]
    · by_cases h4 : 2147483647 < n
      · rw [if_pos (.inr (.inl h4))]
        simp only [f86, runL, defL, binV, simprocAttr, List.drop, List.take, h1, h3, h4, errC1]
      · by_cases h5 : n < last
        · rw [if_pos (.inr (.inr h5))]
          simp only [f86, runL, defL, binV, simprocAttr, List.drop, List.take, h1, h3, h4, h5, errC1]
        · rw [if_neg (by omega)]
          simp only [f86, runL, defL, binV, simprocAttr, List.drop, List.take, h1, h3, h4, h5, errC0]
theorem cload_ok (h87 : Std T 87 f87) (h85 : Std T 85 f85) (l : Load) : Gives T 87 [.agg (loadC l)] (errC (loadBad l)) := by
  refine gives h87 rfl ?_
  have k1 := count_ok h85 l.skew
  have k2 := count_ok h85 l.min
  have k3 := count_ok h85 l.max
  unfold loadBad
  cases c1 : countB l.skew
  · rw [if_neg (by simp)]
    simp only [f87, runL, defL, binV, simprocAttr, List.drop, List.take, errC0, errC1, errC4, loadC, k1.call, c1]
  · cases c2 : countB l.min
    · rw [if_neg (by simp)]
      simp only [f87, runL, defL, binV, simprocAttr, List.drop, List.take, errC0, errC1, errC4, loadC, k1.call, k2.call, c1, c2]
    · cases c3 : countB l.max
      · rw [if_neg (by simp)]
        simp only [f87, runL, defL, binV, simprocAttr, List.drop, List.take, errC0, errC1, errC4, loadC, k1.call, k2.call, k3.call, c1, c2, c3]
      · by_cases c4 : l.max < l.min
        · rw [if_neg (by omega)]
          simp only [f87, runL, defL, binV, simprocAttr, List.drop, List.take, errC0, errC1, errC4, loadC, k1.call, k2.call, k3.call, c1, c2, c3, c4]
        · rw [if_pos ⟨rfl, rfl, rfl, by omega⟩]
          simp only [f87, runL, defL, binV, simprocAttr, List.drop, List.take, errC0, errC1, errC4, loadC, k1.call, k2.call, k3.call, c1, c2, c3, c4]
structure StdF (T : Tab) : Prop where
  h257 : Std T 257 f257
  h258 : Std T 258 f258
  h261 : Std T 261 f261
  h259 : Std T 259 f259
theorem vfits_ok (S : StdF T) (a b : Vec) : Gives T 257 [vecP a, vecP b] (.bool (fitsB a b)) := by
  refine gives S.h257 rfl ?_
  have k := sub_ok S.h258 S.h261 S.h259 b a
  rw [subV_if] at k
  simp only [vecP, vecC] at k
  cases hf : fitsB a b
  · rw [hf, if_neg (by simp)] at k
    simp only [vecR, vecP, vecC, vec0, codeE] at k
    simp only [f257, runL, defL, binV, simprocAttr, List.drop, List.take, vecP, vecC, k.call, fillA]
  · rw [hf] at k
    simp only [vecR, vecP, vecC] at k
    simp only [f257, runL, defL, binV, simprocAttr, List.drop, List.take, vecP, vecC, k.call, fillA]
theorem cnode_ok (h88 : Std T 88 f88) (S : StdF T) (n : Node) : Gives T 88 [.agg (nodeC n)] (errC (nodeBad n)) := by
  refine gives h88 rfl ?_
  have k := vfits_ok S n.held n.cap
  simp only [vecP, vecC] at k
  unfold nodeBad
  by_cases c1 : n.zone < 1
  · rw [if_neg (by omega)]
    simp only [f88, runL, defL, binV, simprocAttr, List.drop, List.take, errC0, errC1, errC4, nodeC, c1]
  · by_cases c2 : 8 < n.zone
    · rw [if_neg (by omega)]
      simp only [f88, runL, defL, binV, simprocAttr, List.drop, List.take, errC0, errC1, errC4, nodeC, c1, c2]
    · cases hf : fitsB n.held n.cap
      · rw [if_neg (by simp)]
        rw [hf] at k
        simp only [f88, runL, defL, binV, simprocAttr, List.drop, List.take, errC0, errC1, errC4, nodeC, c1, c2, k.call]
      · rw [if_pos ⟨by omega, by omega, rfl⟩]
        rw [hf] at k
        simp only [f88, runL, defL, binV, simprocAttr, List.drop, List.take, errC0, errC1, errC4, nodeC, c1, c2, k.call]
theorem cpod_ok (h89 : Std T 89 f89) (h85 : Std T 85 f85) (h81 : Std T 81 f81) (h82 : Std T 82 f82) (s : Snap) (p : Pod) (hl : s.loads.length ≤ 2 ^ 30) (hn : s.nodes.length ≤ 2 ^ 30) : Gives T 89 [snapP s, .agg (podC p)] (errC (podBad s p)) := by
  refine gives h89 rfl ?_
  have k1 := count_ok h85 p.prio
  have k2 := load_ok h81 s p.load hl
  have k3 := node_ok h82 s p.node hn
  simp only [snapP] at k2 k3
  unfold podBad
  cases c1 : countB p.prio
  · rw [if_pos rfl]
    simp only [f89, runL, defL, binV, simprocAttr, List.drop, List.take, errC0, errC1, errC4, snapP, podC, k1.call, c1]
  · rw [if_neg (by simp)]
    cases hlo : loadOf p.load s.loads with
    | none =>
      rw [hlo] at k2
      simp only [loadR, loadC, load0] at k2
      rw [if_pos (.inl rfl)]
      cases hno : nodeOf p.node s.nodes with
      | none =>
        rw [hno] at k3
        simp only [nodeR, nodeC, node0] at k3
        simp only [f89, runL, defL, binV, simprocAttr, List.drop, List.take, errC0, errC1, errC4, snapP, podC, k1.call, c1, k2.call, k3.call]
      | some n =>
        rw [hno] at k3
        simp only [nodeR, nodeC] at k3
        simp only [f89, runL, defL, binV, simprocAttr, List.drop, List.take, errC0, errC1, errC4, snapP, podC, k1.call, c1, k2.call, k3.call]
    | some l =>
      rw [hlo] at k2
      simp only [loadR, loadC] at k2
      cases hno : nodeOf p.node s.nodes with
      | none =>
        rw [hno] at k3
        simp only [nodeR, nodeC, node0] at k3
        by_cases c2 : p.node = 0
        · have d2 : decide (p.node = 0) = true := decide_eq_true c2
          rw [if_neg (by simp [c2])]
          simp only [f89, runL, defL, binV, simprocAttr, List.drop, List.take, errC0, errC1, errC4, snapP, podC, k1.call, c1, k2.call, k3.call, d2]
        · rw [if_pos (.inr ⟨c2, rfl⟩)]
          simp only [f89, runL, defL, binV, simprocAttr, List.drop, List.take, errC0, errC1, errC4, snapP, podC, k1.call, c1, k2.call, k3.call, c2]
      | some n =>
        rw [hno] at k3
        simp only [nodeR, nodeC] at k3
        rw [if_neg (by simp)]
        by_cases c2 : p.node = 0
        · have d2 : decide (p.node = 0) = true := decide_eq_true c2
          simp only [f89, runL, defL, binV, simprocAttr, List.drop, List.take, errC0, errC1, errC4, snapP, podC, k1.call, c1, k2.call, k3.call, d2]
        · simp only [f89, runL, defL, binV, simprocAttr, List.drop, List.take, errC0, errC1, errC4, snapP, podC, k1.call, c1, k2.call, k3.call, c2]
end
end Go.Proofs.YtggjhmbbbebfeaaGreatDoor.Ab
set_option linter.unusedVariables false
set_option linter.unusedSimpArgs false
namespace Go.Proofs.YtggjhmbbbebfeaaGreatDoor.Ab
open Go
def lookC (n last c : Int) : Int := if idP n last ≠ 0 then idP n last else c
def lookB (a n last c : Int) : Option (Int × Int) := if lookC n last c ≠ 0 then some (lookC n last c, a) else none
def ErrA (err : AV) (hp : Hl) (o : Option (Int × Int)) (kid nx : Nat) : Prop := match o with
  | none => err = .pv .nili
  | some (c, a) => ∃ b, err = .iface 1 (.ptr b 0 0) ∧ b < nx ∧ b ≠ kid ∧ blkAt hp b = .var [.pv (.int .i64 a), .pv (.int .i64 c)]
theorem ErrA.mono {err : AV} {hp hp' : Hl} {o : Option (Int × Int)} {kid nx nx' : Nat} (h : ErrA err hp o kid nx) (h1 : ∀ j, j < nx → j ≠ kid → blkAt hp' j = blkAt hp j) (h2 : nx ≤ nx') : ErrA err hp' o kid nx' := by
  cases o with
  | none => exact h
  | some q =>
    obtain ⟨c, a⟩ := q
    obtain ⟨b, e1, e2, e3, e4⟩ := h
    exact ⟨b, e1, by omega, e3, by rw [h1 b e2 e3, e4]⟩
def Looks (T : Tab) (g : Nat) (cs : List AV) (p : PV) (hp : Hl) (nx : Nat) : Prop := T.raw g = true ∧ ∀ hp' nx', nx ≤ nx' → (∀ k, k < nx → blkAt hp' k = blkAt hp k) → D T g cs hp' nx' = some (.pv p, hp', nx')
section
variable {T : Tab}
set_option maxRecDepth 100000 in
set_option maxHeartbeats 4000000 in
theorem look_ok (S16 : StdR T 16 f16) (h86 : Std T 86 f86) (hA : StdA T 266) (kid : Nat) (a n last c : Int) (err fv : AV) (g : Nat) (cs : List AV) (hp : Hl) (nx : Nat) (o : Option (Int × Int)) (hf : funV fv = some (g, [], cs)) (hk : kid < nx)
    (hb : blkAt hp kid = .var [.pv (.int .i64 a), .pv (.int .i64 last), err]) (ho : Looks T g cs (errC c) hp nx) (hE : ErrA err hp o kid nx) (h0 : 0 ≤ a) (h1 : a ≤ 2 ^ 30) :
    ∃ v hp' nx', D T 16 [.ptr kid 0 0, .pv (.int .i64 n), fv] hp nx = some (v, hp', nx') ∧ ∃ err', nx ≤ nx' ∧ blkAt hp' kid = .var [.pv (.int .i64 (a + 1)), .pv (.int .i64 n), err'] ∧ ErrA err' hp' (o.or (lookB a n last c)) kid nx' ∧ ∀ j, j < nx → j ≠ kid → blkAt hp' j = blkAt hp j := by
  refine D_wp S16 rfl ?_
  have ki := id_ok h86 n last
  have hw : IntKind.i64.wrap (a + 1) = a + 1 := by rw [wrap6] <;> omega
  have e1 : ¬ nx = kid := by omega
  have e2 : ¬ nx + 1 = kid := by omega
  have f1 : ¬ kid = nx := by omega
  have f2 : ¬ kid = nx + 1 := by omega
  cases o with
  | some q =>
    obtain ⟨c0, a0⟩ := q
    obtain ⟨b, rfl, b1, b2, b3⟩ := hE
    simp only [f16, runL, defL, binV, simprocAttr, List.drop, List.take, hb, hw]
    simp only [RawQ, rawq, runL, defL, binV, simprocAttr, List.drop, List.take]
    refine ⟨.iface 1 (.ptr b 0 0), rfl, ⟨b, rfl, b1, b2, ?_⟩, fun j hj hne => ?_⟩
    · have : ¬ kid = b := fun h => b2 h.symm
      simp only [look_if, blkAt_if, Nat.reduceEqDiff, if_true, if_false, this, b3]
    · have : ¬ kid = j := fun h => hne h.symm
      simp only [this, if_false]
  | none =>
    have hE' : err = .pv .nili := hE
    subst hE'
    have fin : ∀ cc, lookC n last c = cc → cc ≠ 0 → (none : Option (Int × Int)).or (lookB a n last c) = some (cc, a) := fun cc h1 h2 => by
      unfold lookB
      rw [h1, if_pos h2]
      rfl
    by_cases hi : idP n last = 0
    · have hl : lookC n last c = c := by unfold lookC; rw [if_neg (by simpa using hi)]
      rw [hi, errC0] at ki
      simp only [f16, runL, defL, binV, simprocAttr, List.drop, List.take, hb, ki.call, hf, funQ]
      rw [callQ_raw ho.1 (by simpa only [List.append_nil] using ho.2 hp nx (Nat.le_refl _) (fun _ _ => rfl))]
      by_cases hc : c = 0
      · have hn : (none : Option (Int × Int)).or (lookB a n last c) = none := by
          unfold lookB
          rw [hl, if_neg (by simpa using hc)]
          rfl
        rw [hc, errC0]
        simp only [runL, defL, binV, simprocAttr, List.drop, List.take, as_nilQ hA, hb, e1, hw]
        simp only [RawQ, rawq, runL, defL, binV, simprocAttr, List.drop, List.take, e1, f1]
        rw [← hc, hn]
        refine ⟨.pv .nili, by omega, rfl, rfl, fun j hj hne => ?_⟩
        have g1 : ¬ nx = j := by omega
        have g2 : ¬ kid = j := fun h => hne h.symm
        simp only [g1, g2, if_false]
      · have hc' : errC c = .iface 0 (.int .i64 c) := if_neg hc
        rw [hc']
        simp only [runL, defL, binV, simprocAttr, List.drop, List.take]
        refine (as_codeQ hA (o := 0) ?_).2 ?_
        · simp only [runL, defL, binV, simprocAttr, List.drop, List.take]
        · simp only [runL, defL, binV, simprocAttr, List.drop, List.take, hb, e1]
          refine (Wp_calmS rfl).2 ?_
          simp only [runL, defL, binV, simprocAttr, List.drop, List.take, hb, e1, e2, f1, f2, hw]
          simp only [RawQ, rawq, runL, defL, binV, simprocAttr, List.drop, List.take, e1, e2, f1, f2]
          rw [fin c hl hc]
          refine ⟨.iface 1 (.ptr (nx + 1) 0 0), by omega, rfl, ⟨nx + 1, rfl, by omega, by omega, ?_⟩, fun j hj hne => ?_⟩
          · simp only [look_if, blkAt_if, Nat.reduceEqDiff, if_true, if_false, f2]
          · have g1 : ¬ nx = j := by omega
            have g3 : ¬ nx + 1 = j := by omega
            have g2 : ¬ kid = j := fun h => hne h.symm
            simp only [g1, g2, g3, if_false]
    · have hl : lookC n last c = idP n last := by unfold lookC; rw [if_pos hi]
      have hc' : errC (idP n last) = .iface 0 (.int .i64 (idP n last)) := if_neg hi
      rw [hc'] at ki
      simp only [f16, runL, defL, binV, simprocAttr, List.drop, List.take, hb, ki.call]
      refine (as_codeQ hA (o := 0) ?_).2 ?_
      · simp only [runL, defL, binV, simprocAttr, List.drop, List.take]
      · simp only [runL, defL, binV, simprocAttr, List.drop, List.take, hb, e1]
        refine (Wp_calmS rfl).2 ?_
        simp only [runL, defL, binV, simprocAttr, List.drop, List.take, hb, e1, e2, f1, f2, hw]
        simp only [RawQ, rawq, runL, defL, binV, simprocAttr, List.drop, List.take, e1, e2, f1, f2]
        rw [fin _ hl hi]
        refine ⟨.iface 1 (.ptr (nx + 1) 0 0), by omega, rfl, ⟨nx + 1, rfl, by omega, by omega, ?_⟩, fun j hj hne => ?_⟩
        · simp only [look_if, blkAt_if, Nat.reduceEqDiff, if_true, if_false, f2]
        · have g1 : ¬ nx = j := by omega
          have g3 : ¬ nx + 1 = j := by omega
          have g2 : ¬ kid = j := fun h => hne h.symm
          simp only [g1, g2, g3, if_false]
end
end Go.Proofs.YtggjhmbbbebfeaaGreatDoor.Ab
set_option linter.unusedVariables false
set_option linter.unusedSimpArgs false
namespace Go.Proofs.YtggjhmbbbebfeaaGreatDoor.Ab
open Go
def fstB {α : Type} (idOf own : α → Int) : Int → Int → List α → Option (Int × Int)
  | _, _, [] => none
  | last, a, x :: r => (lookB a (idOf x) last (own x)).or (fstB idOf own (idOf x) (a + 1) r)
def errG : Option (Int × Int) → PV
  | none => .nili
  | some (c, a) => if a < 0 then codeE c else spotE a c
def sizesOK (s : Snap) : Bool := decide (1 ≤ s.nodes.length) && (decide (s.nodes.length ≤ 8) && (decide (s.loads.length ≤ 8) && decide (s.pods.length ≤ 12)))
def checkB (s : Snap) : Option (Int × Int) := if sizesOK s = true then ((fstB Node.id nodeBad 0 0 s.nodes).or (fstB Load.id loadBad 0 s.nodes.length s.loads)).or (fstB Pod.id (podBad s) 0 ((s.nodes.length : Int) + s.loads.length) s.pods) else some (3, -1)
structure Std3 (T : Tab) : Prop where
  h16 : StdR T 16 f16
  h86 : Std T 86 f86
  hA : StdA T 266
  h77 : StdR T 77 f77
  h78 : StdR T 78 f78
  h79 : StdR T 79 f79
  h85 : Std T 85 f85
  h87 : Std T 87 f87
  h88 : Std T 88 f88
  h89 : Std T 89 f89
  h81 : Std T 81 f81
  h82 : Std T 82 f82
  hF : StdF T
  h76 : Std T 76 f76
section
variable {T : Tab}
theorem D_eq {n : Nat} {f : AFunc} {args : List AV} {hp hp' : Hl} {nx nx' : Nat} {v : AV} (S : StdR T n f) (hN : Nat.ble args.length f.N = true) (h : Wp T false f.body ⟨argsA 0 args, hp, nx⟩ (RawQ f.res (fun v1 h1 n1 => v1 = v ∧ h1 = hp' ∧ n1 = nx'))) : D T n args hp nx = some (v, hp', nx') := by
  obtain ⟨v1, h1, n1, e, rfl, rfl, rfl⟩ := D_wp S hN h
  exact e
theorem lk77 (S : Std3 T) (n : Node) (hp : Hl) (nx x : Nat) (hx : x < nx) (hb : blkAt hp x = .var (pvs (nodeC n))) : Looks T 77 [.ptr x 0 0] (errC (nodeBad n)) hp nx := by
  refine ⟨S.h77.raw, fun hp' nx' h1 h2 => D_eq S.h77 rfl ?_⟩
  have k := cnode_ok S.h88 S.hF n
  have hb' := (h2 x hx).trans hb
  simp only [nodeC, pvs] at hb' k
  simp only [f77, runL, defL, binV, simprocAttr, List.drop, List.take, hb', k.call]
  simp only [RawQ, rawq, runL, defL, binV, simprocAttr, List.drop, List.take]
theorem lk78 (S : Std3 T) (n : Load) (hp : Hl) (nx x : Nat) (hx : x < nx) (hb : blkAt hp x = .var (pvs (loadC n))) : Looks T 78 [.ptr x 0 0] (errC (loadBad n)) hp nx := by
  refine ⟨S.h78.raw, fun hp' nx' h1 h2 => D_eq S.h78 rfl ?_⟩
  have k := cload_ok S.h87 S.h85 n
  have hb' := (h2 x hx).trans hb
  simp only [loadC, pvs] at hb' k
  simp only [f78, runL, defL, binV, simprocAttr, List.drop, List.take, hb', k.call]
  simp only [RawQ, rawq, runL, defL, binV, simprocAttr, List.drop, List.take]
theorem lk79 (S : Std3 T) (s : Snap) (hl : s.loads.length ≤ 2 ^ 30) (hn : s.nodes.length ≤ 2 ^ 30) (p : Pod) (hp : Hl) (nx x : Nat) (h0 : 0 < nx) (hx : x < nx) (hs : blkAt hp 0 = .var [.pv (.slice (s.nodes.map nodeC)), .pv (.slice (s.loads.map loadC)), .pv (.slice (s.pods.map podC))])
    (hb : blkAt hp x = .var (pvs (podC p))) : Looks T 79 [.ptr 0 0 0, .ptr x 0 0] (errC (podBad s p)) hp nx := by
  refine ⟨S.h79.raw, fun hp' nx' h1 h2 => D_eq S.h79 rfl ?_⟩
  have k := cpod_ok S.h89 S.h85 S.h81 S.h82 s p hl hn
  have hb' := (h2 x hx).trans hb
  have hs' := (h2 0 h0).trans hs
  simp only [podC, pvs, snapP] at hb' k
  simp only [f79, runL, defL, binV, simprocAttr, List.drop, List.take, hb', hs', k.call]
  simp only [RawQ, rawq, runL, defL, binV, simprocAttr, List.drop, List.take]
theorem check_0 (S : Std3 T) (s : Snap) (hn : s.nodes.length ≤ 2 ^ 28) (hl : s.loads.length ≤ 2 ^ 28) (hpl : s.pods.length ≤ 2 ^ 28) (a0 : Int) (ha0 : 0 ≤ a0) (ha1 : a0 ≤ 2 ^ 29) (Q : Exit → St → Prop) (tot : Option (Int × Int))
    (hend : ∀ fr hp nx last err, 2 ≤ nx → look fr 1 = .ptr 0 0 0 → look fr 3 = .ptr 1 0 0 → blkAt hp 0 = .var [.pv (.slice (s.nodes.map nodeC)), .pv (.slice (s.loads.map loadC)), .pv (.slice (s.pods.map podC))] →
      blkAt hp 1 = .var [.pv (.int .i64 (a0 + (s.nodes.length : Int))), .pv (.int .i64 last), err] → ErrA err hp tot 1 nx → Q (.exit 0) ⟨fr, hp, nx⟩) :
    ∀ (rest : List Node) (i : Nat) (last : Int) (o : Option (Int × Int)) (err : AV), s.nodes.drop i = rest → i ≤ s.nodes.length → o.or (fstB Node.id nodeBad last (a0 + i) rest) = tot → ∀ (fr : List (Nat × AV)) (hp : Hl) (nx : Nat), 2 ≤ nx → look fr 1 = .ptr 0 0 0 → look fr 3 = .ptr 1 0 0 →
      blkAt hp 0 = .var [.pv (.slice (s.nodes.map nodeC)), .pv (.slice (s.loads.map loadC)), .pv (.slice (s.pods.map podC))] → blkAt hp 1 = .var [.pv (.int .i64 (a0 + i)), .pv (.int .i64 last), err] → ErrA err hp o 1 nx →
      look fr 36 = .pv (.slice (s.nodes.map nodeC)) → look fr 37 = .pv (.int .i64 s.nodes.length) → look fr 38 = .pv (.int .i64 i) → Wp T false (.loop f76l0) ⟨fr, hp, nx⟩ Q := by
  intro rest
  induction rest with
  | nil =>
    intro i last o err hd hi ho fr hp nx hnx g1 g3 b0 b1 hE hA hB hI
    have hlen := drop_nil hd hi
    simp only [fstB, Option.or_none] at ho
    subst ho
    rw [Wp_loop, Wp_eq f76l0.eq_1]
    simp only [runL, defL, binV, simprocAttr, List.drop, List.take, hA, hB, hI, hlen, Int.lt_irrefl]
    refine hend _ _ _ last err hnx ?_ ?_ b0 ?_ hE
    all_goals try simp only [look_if, blkAt_if, Nat.reduceEqDiff, if_true, if_false, g1, g3]
    rw [b1, hlen]
  | cons x r ih =>
    intro i last o err hd hi ho fr hp nx hnx g1 g3 b0 b1 hE hA hB hI
    obtain ⟨hget, hlt, hw, hd', hi', hbb⟩ := drop_cons hd (by omega)
    have n0 : ¬ nx = 0 := by omega
    have n1 : ¬ nx = 1 := by omega
    have ho' : (o.or (lookB (a0 + i) x.id last (nodeBad x))).or (fstB Node.id nodeBad x.id (a0 + ((i + 1 : Nat) : Int)) r) = tot := by
      rw [← ho, Option.or_assoc, fstB, show a0 + ((i + 1 : Nat) : Int) = a0 + i + 1 by omega]
    rw [Wp_loop, Wp_eq f76l0.eq_1]
    simp only [runL, defL, binV, simprocAttr, List.drop, List.take, g1, g3, hA, hB, hI, hlt, hget, nodeC, n0, n1, mkFun, allPVs]
    obtain ⟨v, hp', nx', e, err', q1, q2, q3, q4⟩ := look_ok S.h16 S.h86 S.hA 1 (a0 + i) x.id last (nodeBad x) err (.func 77 [] [.ptr nx 0 0]) 77 [.ptr nx 0 0] ((nx, .var (pvs (nodeC x))) :: (nx, .var [.pv (.int .i64 0), .pv (.int .i64 0), .pv (.int .u64 0), .pv (.int .u64 0), .pv (.int .u64 0), .pv (.int .u64 0), .pv (.int .u64 0), .pv (.int .u64 0), .pv (.int .u64 0), .pv (.int .u64 0)]) :: hp) (nx + 1) o rfl (by omega) (by simp only [look_if, blkAt_if, Nat.reduceEqDiff, if_true, if_false, n1, b1]) (lk77 S x _ _ nx (by omega) (by simp only [look_if, blkAt_if, Nat.reduceEqDiff, if_true, if_false])) (hE.mono (fun j hj hne => by simp only [look_if, blkAt_if, Nat.reduceEqDiff, if_true, if_false, show ¬ nx = j by omega]) (by omega)) (by omega) (by omega)
    rw [callQ_raw S.h16.raw e]
    simp only [runL, defL, binV, simprocAttr, List.drop, List.take, hI, hw]
    refine ih (i + 1) x.id _ err' hd' hi' ho' _ _ _ (by omega) ?_ ?_ ?_ ?_ q3 ?_ ?_ ?_
    all_goals try simp only [look_if, blkAt_if, Nat.reduceEqDiff, if_true, if_false, g1, g3, hA, hB]
    · rw [q4 0 (by omega) (by omega)]; simp only [look_if, blkAt_if, Nat.reduceEqDiff, if_true, if_false, n0, b0]
    · rw [q2, show a0 + ((i + 1 : Nat) : Int) = a0 + i + 1 by omega]
theorem check_1 (S : Std3 T) (s : Snap) (hn : s.nodes.length ≤ 2 ^ 28) (hl : s.loads.length ≤ 2 ^ 28) (hpl : s.pods.length ≤ 2 ^ 28) (a0 : Int) (ha0 : 0 ≤ a0) (ha1 : a0 ≤ 2 ^ 29) (Q : Exit → St → Prop) (tot : Option (Int × Int))
    (hend : ∀ fr hp nx last err, 2 ≤ nx → look fr 1 = .ptr 0 0 0 → look fr 3 = .ptr 1 0 0 → blkAt hp 0 = .var [.pv (.slice (s.nodes.map nodeC)), .pv (.slice (s.loads.map loadC)), .pv (.slice (s.pods.map podC))] →
      blkAt hp 1 = .var [.pv (.int .i64 (a0 + (s.loads.length : Int))), .pv (.int .i64 last), err] → ErrA err hp tot 1 nx → Q (.exit 2) ⟨fr, hp, nx⟩) :
    ∀ (rest : List Load) (i : Nat) (last : Int) (o : Option (Int × Int)) (err : AV), s.loads.drop i = rest → i ≤ s.loads.length → o.or (fstB Load.id loadBad last (a0 + i) rest) = tot → ∀ (fr : List (Nat × AV)) (hp : Hl) (nx : Nat), 2 ≤ nx → look fr 1 = .ptr 0 0 0 → look fr 3 = .ptr 1 0 0 →
      blkAt hp 0 = .var [.pv (.slice (s.nodes.map nodeC)), .pv (.slice (s.loads.map loadC)), .pv (.slice (s.pods.map podC))] → blkAt hp 1 = .var [.pv (.int .i64 (a0 + i)), .pv (.int .i64 last), err] → ErrA err hp o 1 nx →
      look fr 52 = .pv (.slice (s.loads.map loadC)) → look fr 53 = .pv (.int .i64 s.loads.length) → look fr 54 = .pv (.int .i64 i) → Wp T false (.loop f76l1) ⟨fr, hp, nx⟩ Q := by
  intro rest
  induction rest with
  | nil =>
    intro i last o err hd hi ho fr hp nx hnx g1 g3 b0 b1 hE hA hB hI
    have hlen := drop_nil hd hi
    simp only [fstB, Option.or_none] at ho
    subst ho
    rw [Wp_loop, Wp_eq f76l1.eq_1]
    simp only [runL, defL, binV, simprocAttr, List.drop, List.take, hA, hB, hI, hlen, Int.lt_irrefl]
    refine hend _ _ _ last err hnx ?_ ?_ b0 ?_ hE
    all_goals try simp only [look_if, blkAt_if, Nat.reduceEqDiff, if_true, if_false, g1, g3]
    rw [b1, hlen]
  | cons x r ih =>
    intro i last o err hd hi ho fr hp nx hnx g1 g3 b0 b1 hE hA hB hI
    obtain ⟨hget, hlt, hw, hd', hi', hbb⟩ := drop_cons hd (by omega)
    have n0 : ¬ nx = 0 := by omega
    have n1 : ¬ nx = 1 := by omega
    have ho' : (o.or (lookB (a0 + i) x.id last (loadBad x))).or (fstB Load.id loadBad x.id (a0 + ((i + 1 : Nat) : Int)) r) = tot := by
      rw [← ho, Option.or_assoc, fstB, show a0 + ((i + 1 : Nat) : Int) = a0 + i + 1 by omega]
    rw [Wp_loop, Wp_eq f76l1.eq_1]
    simp only [runL, defL, binV, simprocAttr, List.drop, List.take, g1, g3, hA, hB, hI, hlt, hget, loadC, n0, n1, mkFun, allPVs]
    obtain ⟨v, hp', nx', e, err', q1, q2, q3, q4⟩ := look_ok S.h16 S.h86 S.hA 1 (a0 + i) x.id last (loadBad x) err (.func 78 [] [.ptr nx 0 0]) 78 [.ptr nx 0 0] ((nx, .var (pvs (loadC x))) :: (nx, .var [.pv (.int .i64 0), .pv (.bool false), .pv (.int .i64 0), .pv (.int .i64 0), .pv (.int .i64 0)]) :: hp) (nx + 1) o rfl (by omega) (by simp only [look_if, blkAt_if, Nat.reduceEqDiff, if_true, if_false, n1, b1]) (lk78 S x _ _ nx (by omega) (by simp only [look_if, blkAt_if, Nat.reduceEqDiff, if_true, if_false])) (hE.mono (fun j hj hne => by simp only [look_if, blkAt_if, Nat.reduceEqDiff, if_true, if_false, show ¬ nx = j by omega]) (by omega)) (by omega) (by omega)
    rw [callQ_raw S.h16.raw e]
    simp only [runL, defL, binV, simprocAttr, List.drop, List.take, hI, hw]
    refine ih (i + 1) x.id _ err' hd' hi' ho' _ _ _ (by omega) ?_ ?_ ?_ ?_ q3 ?_ ?_ ?_
    all_goals try simp only [look_if, blkAt_if, Nat.reduceEqDiff, if_true, if_false, g1, g3, hA, hB]
    · rw [q4 0 (by omega) (by omega)]; simp only [look_if, blkAt_if, Nat.reduceEqDiff, if_true, if_false, n0, b0]
    · rw [q2, show a0 + ((i + 1 : Nat) : Int) = a0 + i + 1 by omega]
theorem check_2 (S : Std3 T) (s : Snap) (hn : s.nodes.length ≤ 2 ^ 28) (hl : s.loads.length ≤ 2 ^ 28) (hpl : s.pods.length ≤ 2 ^ 28) (a0 : Int) (ha0 : 0 ≤ a0) (ha1 : a0 ≤ 2 ^ 29) (Q : Exit → St → Prop) (tot : Option (Int × Int))
    (hend : ∀ fr hp nx last err, 2 ≤ nx → look fr 1 = .ptr 0 0 0 → look fr 3 = .ptr 1 0 0 → blkAt hp 0 = .var [.pv (.slice (s.nodes.map nodeC)), .pv (.slice (s.loads.map loadC)), .pv (.slice (s.pods.map podC))] →
      blkAt hp 1 = .var [.pv (.int .i64 (a0 + (s.pods.length : Int))), .pv (.int .i64 last), err] → ErrA err hp tot 1 nx → Q (.exit 4) ⟨fr, hp, nx⟩) :
    ∀ (rest : List Pod) (i : Nat) (last : Int) (o : Option (Int × Int)) (err : AV), s.pods.drop i = rest → i ≤ s.pods.length → o.or (fstB Pod.id (podBad s) last (a0 + i) rest) = tot → ∀ (fr : List (Nat × AV)) (hp : Hl) (nx : Nat), 2 ≤ nx → look fr 1 = .ptr 0 0 0 → look fr 3 = .ptr 1 0 0 →
      blkAt hp 0 = .var [.pv (.slice (s.nodes.map nodeC)), .pv (.slice (s.loads.map loadC)), .pv (.slice (s.pods.map podC))] → blkAt hp 1 = .var [.pv (.int .i64 (a0 + i)), .pv (.int .i64 last), err] → ErrA err hp o 1 nx →
      look fr 68 = .pv (.slice (s.pods.map podC)) → look fr 69 = .pv (.int .i64 s.pods.length) → look fr 70 = .pv (.int .i64 i) → Wp T false (.loop f76l2) ⟨fr, hp, nx⟩ Q := by
  intro rest
  induction rest with
  | nil =>
    intro i last o err hd hi ho fr hp nx hnx g1 g3 b0 b1 hE hA hB hI
    have hlen := drop_nil hd hi
    simp only [fstB, Option.or_none] at ho
    subst ho
    rw [Wp_loop, Wp_eq f76l2.eq_1]
    simp only [runL, defL, binV, simprocAttr, List.drop, List.take, hA, hB, hI, hlen, Int.lt_irrefl]
    refine hend _ _ _ last err hnx ?_ ?_ b0 ?_ hE
    all_goals try simp only [look_if, blkAt_if, Nat.reduceEqDiff, if_true, if_false, g1, g3]
    rw [b1, hlen]
  | cons x r ih =>
    intro i last o err hd hi ho fr hp nx hnx g1 g3 b0 b1 hE hA hB hI
    obtain ⟨hget, hlt, hw, hd', hi', hbb⟩ := drop_cons hd (by omega)
    have n0 : ¬ nx = 0 := by omega
    have n1 : ¬ nx = 1 := by omega
    have ho' : (o.or (lookB (a0 + i) x.id last ((podBad s) x))).or (fstB Pod.id (podBad s) x.id (a0 + ((i + 1 : Nat) : Int)) r) = tot := by
      rw [← ho, Option.or_assoc, fstB, show a0 + ((i + 1 : Nat) : Int) = a0 + i + 1 by omega]
    rw [Wp_loop, Wp_eq f76l2.eq_1]
    simp only [runL, defL, binV, simprocAttr, List.drop, List.take, g1, g3, hA, hB, hI, hlt, hget, podC, n0, n1, mkFun, allPVs]
    obtain ⟨v, hp', nx', e, err', q1, q2, q3, q4⟩ := look_ok S.h16 S.h86 S.hA 1 (a0 + i) x.id last ((podBad s) x) err (.func 79 [] [.ptr 0 0 0, .ptr nx 0 0]) 79 [.ptr 0 0 0, .ptr nx 0 0] ((nx, .var (pvs (podC x))) :: (nx, .var [.pv (.int .i64 0), .pv (.int .i64 0), .pv (.int .i64 0), .pv (.int .u64 0), .pv (.int .u64 0), .pv (.int .u64 0), .pv (.int .u64 0), .pv (.int .i64 0)]) :: hp) (nx + 1) o rfl (by omega) (by simp only [look_if, blkAt_if, Nat.reduceEqDiff, if_true, if_false, n1, b1]) (lk79 S s (by omega) (by omega) x _ _ nx (by omega) (by omega) (by simp only [look_if, blkAt_if, Nat.reduceEqDiff, if_true, if_false, n0, b0]) (by simp only [look_if, blkAt_if, Nat.reduceEqDiff, if_true, if_false])) (hE.mono (fun j hj hne => by simp only [look_if, blkAt_if, Nat.reduceEqDiff, if_true, if_false, show ¬ nx = j by omega]) (by omega)) (by omega) (by omega)
    rw [callQ_raw S.h16.raw e]
    simp only [runL, defL, binV, simprocAttr, List.drop, List.take, hI, hw]
    refine ih (i + 1) x.id _ err' hd' hi' ho' _ _ _ (by omega) ?_ ?_ ?_ ?_ q3 ?_ ?_ ?_
    all_goals try simp only [look_if, blkAt_if, Nat.reduceEqDiff, if_true, if_false, g1, g3, hA, hB]
    · rw [q4 0 (by omega) (by omega)]; simp only [look_if, blkAt_if, Nat.reduceEqDiff, if_true, if_false, n0, b0]
    · rw [q2, show a0 + ((i + 1 : Nat) : Int) = a0 + i + 1 by omega]
end
end Go.Proofs.YtggjhmbbbebfeaaGreatDoor.Ab
set_option linter.unusedVariables false
set_option linter.unusedSimpArgs false
namespace Go.Proofs.YtggjhmbbbebfeaaGreatDoor.Ab
open Go
def RiseP (l : List Pod) : Prop := l.Pairwise (fun a b => a.id < b.id)
structure StdSt (T : Tab) : Prop where
  h64 : Std T 64 f64
  h66 : Std T 66 f66
  h250 : Std T 250 f250
  h292 : StdR T 292 f292
  h297 : StdR T 297 f297
  h310 : StdR T 310 f310
section
variable {T : Tab}
set_option maxRecDepth 100000 in
set_option maxHeartbeats 4000000 in
theorem ins_loop (S : StdSt T) (pods : List Pod) (hr : RiseP pods) (hl : pods.length ≤ 2 ^ 29) (id : Nat) (hp : Hl) (nx : Nat) (b : blkAt hp id = .row 8 (pods.map podC)) (Q : Exit → St → Prop) (hend : ∀ fr, Q (.exit 0) ⟨fr, hp, nx⟩) :
    ∀ (k j : Nat), j + 1 + k = pods.length → ∀ (fr : List (Nat × AV)), look fr 0 = .ms id → look fr 1 = .pv (.int .i64 0) → look fr 2 = .pv (.int .i64 pods.length) → look fr 3 = .func 250 [] [] → look fr 8 = .pv (.int .i64 (j + 1 : Nat)) → Wp T false (.loop f297l1) ⟨fr, hp, nx⟩ Q := by
  intro k
  induction k with
  | zero =>
    intro j hj fr g0 g1 g2 g3 g8
    have hlen : pods.length = j + 1 := by omega
    rw [Wp_loop, Wp_eq f297l1.eq_1]
    simp only [runL, defL, binV, Nat.reduceEqDiff, Nat.reduceAdd, reduceCtorEq, Int.reduceToNat, Nat.reduceMul, Nat.reduceLT, Int.reduceNeg, Int.reduceLE, Int.reduceLT, Int.reduceEq, Nat.reduceLeDiff, List.drop, List.take, g2, g8, hlen, Int.lt_irrefl]
    exact hend _
  | succ k ih =>
    intro j hj fr g0 g1 g2 g3 g8
    have hlt : (((j + 1 : Nat) : Int)) < (pods.length : Int) := by omega
    obtain ⟨p, hp1⟩ : ∃ p, pods[j + 1]? = some p := ⟨pods[j + 1]'(by omega), by simp⟩
    obtain ⟨q, hq1⟩ : ∃ q, pods[j]? = some q := ⟨pods[j]'(by omega), by simp⟩
    have hpq : q.id < p.id := by
      obtain ⟨h1, rfl⟩ := List.getElem?_eq_some_iff.1 hp1
      obtain ⟨h2, rfl⟩ := List.getElem?_eq_some_iff.1 hq1
      exact List.pairwise_iff_getElem.1 hr j (j + 1) h2 h1 (Nat.lt_succ_self j)
    have hc : cmpI p.id q.id = 1 := by
      unfold cmpI
      rw [if_neg (by omega), if_pos hpq]
    have kc := cmpP_ok S.h250 S.h64 S.h66 p q
    rw [hc] at kc
    simp only [podP, podC] at kc
    have hw1 : IntKind.i64.wrap (((j + 1 : Nat) : Int) - 1) = (j : Int) := by rw [wrap6] <;> omega
    have hw2 : IntKind.i64.wrap (((j + 1 : Nat) : Int) + 1) = ((j + 1 + 1 : Nat) : Int) := by rw [wrap6] <;> omega
    have hj1 : j + 1 < pods.length := by omega
    have hj2 : j < pods.length := by omega
    have h0 : (0 : Int) < ((j + 1 : Nat) : Int) := by omega
    rw [Wp_loop, Wp_eq f297l1.eq_1]
    simp only [runL, defL, binV, Nat.reduceEqDiff, Nat.reduceAdd, reduceCtorEq, Int.reduceToNat, Nat.reduceMul, Nat.reduceLT, Int.reduceNeg, Int.reduceLE, Int.reduceLT, Int.reduceEq, Nat.reduceLeDiff, List.drop, List.take, g2, g8, hlt]
    rw [Wp_loop, Wp_eq f297l0.eq_1]
    simp only [runL, defL, binV, Nat.reduceEqDiff, Nat.reduceAdd, reduceCtorEq, Int.reduceToNat, Nat.reduceMul, Nat.reduceLT, Int.reduceNeg, Int.reduceLE, Int.reduceLT, Int.reduceEq, Nat.reduceLeDiff, List.drop, List.take]
    refine (Wp_calmS rfl).2 ?_
    simp only [runL, defL, binV, Nat.reduceEqDiff, Nat.reduceAdd, reduceCtorEq, Int.reduceToNat, Nat.reduceMul, Nat.reduceLT, Int.reduceNeg, Int.reduceLE, Int.reduceLT, Int.reduceEq, Nat.reduceLeDiff, List.drop, List.take, g0, g1, g3, h0, b, hp1, hq1, hj1, hj2, podC, hw1, kc.callD]
    simp only [runL, defL, binV, Nat.reduceEqDiff, Nat.reduceAdd, reduceCtorEq, Int.reduceToNat, Nat.reduceMul, Nat.reduceLT, Int.reduceNeg, Int.reduceLE, Int.reduceLT, Int.reduceEq, Nat.reduceLeDiff, List.drop, List.take, g8, hw2]
    refine ih (j + 1) (by omega) _ ?_ ?_ ?_ ?_ ?_
    all_goals try simp only [look_if, blkAt_if, Nat.reduceEqDiff, if_true, if_false, g0, g1, g2, g3]
theorem ins_D (S : StdSt T) {pods : List Pod} (hr : RiseP pods) (hl : pods.length ≤ 2 ^ 29) (hne : 0 < pods.length) {id : Nat} {hp : Hl} {nx : Nat} (b : blkAt hp id = .row 8 (pods.map podC)) :
    D T 297 [.ms id, .pv (.int .i64 0), .pv (.int .i64 pods.length), .func 250 [] []] hp nx = some (.tuple [], hp, nx) := by
  refine D_eq S.h297 rfl ?_
  have hw : IntKind.i64.wrap (0 + 1) = ((0 + 1 : Nat) : Int) := by decide
  simp only [f297, runL, defL, binV, Nat.reduceEqDiff, Nat.reduceAdd, reduceCtorEq, Int.reduceToNat, Nat.reduceMul, Nat.reduceLT, Int.reduceNeg, Int.reduceLE, Int.reduceLT, Int.reduceEq, Nat.reduceLeDiff, List.drop, List.take, Int.zero_add]
  refine ins_loop S pods hr hl id hp nx b _ (fun fr => ?_) (pods.length - 1) 0 (by omega) _ rfl rfl rfl rfl rfl
  simp only [runL, defL, binV, Nat.reduceEqDiff, Nat.reduceAdd, reduceCtorEq, Int.reduceToNat, Nat.reduceMul, Nat.reduceLT, Int.reduceNeg, Int.reduceLE, Int.reduceLT, Int.reduceEq, Nat.reduceLeDiff, List.drop, List.take]
  simp only [RawQ, rawq, runL, defL, binV, Nat.reduceEqDiff, Nat.reduceAdd, reduceCtorEq, Int.reduceToNat, Nat.reduceMul, Nat.reduceLT, Int.reduceNeg, Int.reduceLE, Int.reduceLT, Int.reduceEq, Nat.reduceLeDiff, List.drop, List.take]
theorem ins_D0 (S : StdSt T) {hp : Hl} {nx : Nat} :
    D T 297 [.pv (.slice []), .pv (.int .i64 0), .pv (.int .i64 0), .func 250 [] []] hp nx = some (.tuple [], hp, nx) := by
  refine D_eq S.h297 rfl ?_
  have hw : IntKind.i64.wrap (0 + 1) = 1 := by decide
  simp only [f297, runL, defL, binV, Nat.reduceEqDiff, Nat.reduceAdd, reduceCtorEq, Int.reduceToNat, Nat.reduceMul, Nat.reduceLT, Int.reduceNeg, Int.reduceLE, Int.reduceLT, Int.reduceEq, Nat.reduceLeDiff, List.drop, List.take, hw]
  rw [Wp_loop, Wp_eq f297l1.eq_1]
  simp only [runL, defL, binV, Nat.reduceEqDiff, Nat.reduceAdd, reduceCtorEq, Int.reduceToNat, Nat.reduceMul, Nat.reduceLT, Int.reduceNeg, Int.reduceLE, Int.reduceLT, Int.reduceEq, Nat.reduceLeDiff, List.drop, List.take, hw]
  simp only [RawQ, rawq, runL, defL, binV, Nat.reduceEqDiff, Nat.reduceAdd, reduceCtorEq, Int.reduceToNat, Nat.reduceMul, Nat.reduceLT, Int.reduceNeg, Int.reduceLE, Int.reduceLT, Int.reduceEq, Nat.reduceLeDiff, List.drop, List.take]
theorem stable_D (S : StdSt T) {pods : List Pod} (hr : RiseP pods) (hl : pods.length ≤ 14) (hne : 0 < pods.length) {id : Nat} {hp : Hl} {nx : Nat} (b : blkAt hp id = .row 8 (pods.map podC)) :
    D T 310 [.ms id, .pv (.int .i64 pods.length), .func 250 [] []] hp nx = some (.tuple [], hp, nx) := by
  refine D_eq S.h310 rfl ?_
  have c1 : ¬ (20 : Int) ≤ (pods.length : Int) := by omega
  have c2 : ¬ (20 : Int) < (pods.length : Int) := by omega
  simp only [f310, runL, defL, binV, Nat.reduceEqDiff, Nat.reduceAdd, reduceCtorEq, Int.reduceToNat, Nat.reduceMul, Nat.reduceLT, Int.reduceNeg, Int.reduceLE, Int.reduceLT, Int.reduceEq, Nat.reduceLeDiff, List.drop, List.take]
  rw [Wp_loop, Wp_eq f310l0.eq_1]
  simp only [runL, defL, binV, Nat.reduceEqDiff, Nat.reduceAdd, reduceCtorEq, Int.reduceToNat, Nat.reduceMul, Nat.reduceLT, Int.reduceNeg, Int.reduceLE, Int.reduceLT, Int.reduceEq, Nat.reduceLeDiff, List.drop, List.take, c1]
  refine (callQ_raw S.h297.raw (ins_D S hr (by omega) hne b)).2 ?_
  simp only [runL, defL, binV, Nat.reduceEqDiff, Nat.reduceAdd, reduceCtorEq, Int.reduceToNat, Nat.reduceMul, Nat.reduceLT, Int.reduceNeg, Int.reduceLE, Int.reduceLT, Int.reduceEq, Nat.reduceLeDiff, List.drop, List.take]
  rw [Wp_loop, Wp_eq f310l2.eq_1]
  simp only [runL, defL, binV, Nat.reduceEqDiff, Nat.reduceAdd, reduceCtorEq, Int.reduceToNat, Nat.reduceMul, Nat.reduceLT, Int.reduceNeg, Int.reduceLE, Int.reduceLT, Int.reduceEq, Nat.reduceLeDiff, List.drop, List.take, c2]
  simp only [RawQ, rawq, runL, defL, binV, Nat.reduceEqDiff, Nat.reduceAdd, reduceCtorEq, Int.reduceToNat, Nat.reduceMul, Nat.reduceLT, Int.reduceNeg, Int.reduceLE, Int.reduceLT, Int.reduceEq, Nat.reduceLeDiff, List.drop, List.take]
theorem stable_D0 (S : StdSt T) {hp : Hl} {nx : Nat} :
    D T 310 [.pv (.slice []), .pv (.int .i64 0), .func 250 [] []] hp nx = some (.tuple [], hp, nx) := by
  refine D_eq S.h310 rfl ?_
  simp only [f310, runL, defL, binV, Nat.reduceEqDiff, Nat.reduceAdd, reduceCtorEq, Int.reduceToNat, Nat.reduceMul, Nat.reduceLT, Int.reduceNeg, Int.reduceLE, Int.reduceLT, Int.reduceEq, Nat.reduceLeDiff, List.drop, List.take]
  rw [Wp_loop, Wp_eq f310l0.eq_1]
  simp only [runL, defL, binV, Nat.reduceEqDiff, Nat.reduceAdd, reduceCtorEq, Int.reduceToNat, Nat.reduceMul, Nat.reduceLT, Int.reduceNeg, Int.reduceLE, Int.reduceLT, Int.reduceEq, Nat.reduceLeDiff, List.drop, List.take]
  refine (callQ_raw S.h297.raw (ins_D0 S)).2 ?_
  simp only [runL, defL, binV, Nat.reduceEqDiff, Nat.reduceAdd, reduceCtorEq, Int.reduceToNat, Nat.reduceMul, Nat.reduceLT, Int.reduceNeg, Int.reduceLE, Int.reduceLT, Int.reduceEq, Nat.reduceLeDiff, List.drop, List.take]
  rw [Wp_loop, Wp_eq f310l2.eq_1]
  simp only [runL, defL, binV, Nat.reduceEqDiff, Nat.reduceAdd, reduceCtorEq, Int.reduceToNat, Nat.reduceMul, Nat.reduceLT, Int.reduceNeg, Int.reduceLE, Int.reduceLT, Int.reduceEq, Nat.reduceLeDiff, List.drop, List.take]
  simp only [RawQ, rawq, runL, defL, binV, Nat.reduceEqDiff, Nat.reduceAdd, reduceCtorEq, Int.reduceToNat, Nat.reduceMul, Nat.reduceLT, Int.reduceNeg, Int.reduceLE, Int.reduceLT, Int.reduceEq, Nat.reduceLeDiff, List.drop, List.take]
theorem sort_D (S : StdSt T) {pods : List Pod} (hr : RiseP pods) (hl : pods.length ≤ 14) (hne : 0 < pods.length) {id : Nat} {hp : Hl} {nx : Nat} (b : blkAt hp id = .row 8 (pods.map podC)) :
    D T 292 [.ms id, .func 250 [] []] hp nx = some (.tuple [], hp, nx) := by
  refine D_eq S.h292 rfl ?_
  simp only [f292, runL, defL, binV, Nat.reduceEqDiff, Nat.reduceAdd, reduceCtorEq, Int.reduceToNat, Nat.reduceMul, Nat.reduceLT, Int.reduceNeg, Int.reduceLE, Int.reduceLT, Int.reduceEq, Nat.reduceLeDiff, List.drop, List.take, b]
  refine (callQ_raw S.h310.raw (stable_D S hr hl hne b)).2 ?_
  simp only [runL, defL, binV, Nat.reduceEqDiff, Nat.reduceAdd, reduceCtorEq, Int.reduceToNat, Nat.reduceMul, Nat.reduceLT, Int.reduceNeg, Int.reduceLE, Int.reduceLT, Int.reduceEq, Nat.reduceLeDiff, List.drop, List.take]
  simp only [RawQ, rawq, runL, defL, binV, Nat.reduceEqDiff, Nat.reduceAdd, reduceCtorEq, Int.reduceToNat, Nat.reduceMul, Nat.reduceLT, Int.reduceNeg, Int.reduceLE, Int.reduceLT, Int.reduceEq, Nat.reduceLeDiff, List.drop, List.take]
theorem sort_D0 (S : StdSt T) {hp : Hl} {nx : Nat} :
    D T 292 [.pv (.slice []), .func 250 [] []] hp nx = some (.tuple [], hp, nx) := by
  refine D_eq S.h292 rfl ?_
  simp only [f292, runL, defL, binV, Nat.reduceEqDiff, Nat.reduceAdd, reduceCtorEq, Int.reduceToNat, Nat.reduceMul, Nat.reduceLT, Int.reduceNeg, Int.reduceLE, Int.reduceLT, Int.reduceEq, Nat.reduceLeDiff, List.drop, List.take]
  refine (callQ_raw S.h310.raw (stable_D0 S)).2 ?_
  simp only [runL, defL, binV, Nat.reduceEqDiff, Nat.reduceAdd, reduceCtorEq, Int.reduceToNat, Nat.reduceMul, Nat.reduceLT, Int.reduceNeg, Int.reduceLE, Int.reduceLT, Int.reduceEq, Nat.reduceLeDiff, List.drop, List.take]
  simp only [RawQ, rawq, runL, defL, binV, Nat.reduceEqDiff, Nat.reduceAdd, reduceCtorEq, Int.reduceToNat, Nat.reduceMul, Nat.reduceLT, Int.reduceNeg, Int.reduceLE, Int.reduceLT, Int.reduceEq, Nat.reduceLeDiff, List.drop, List.take]
end
end Go.Proofs.YtggjhmbbbebfeaaGreatDoor.Ab
set_option linter.unusedVariables false
set_option linter.unusedSimpArgs false
namespace Go.Proofs.YtggjhmbbbebfeaaGreatDoor.Ab
open Go
/-! ### Plain: all counts together -/
section
variable {T : Tab}
end
end Go.Proofs.YtggjhmbbbebfeaaGreatDoor.Ab
set_option linter.unusedVariables false
namespace Go.Proofs.YtggjhmbbbebfeaaGreatDoor.Ab
open Go
def f222 : AFunc := ⟨12, [.t 6],
 (.seq (.ops [
   ⟨some 3, .box (.t 0), none, []⟩,
   ⟨some 4, .box (.t 1), none, []⟩,
   ⟨some 5, .box (.t 2), none, []⟩,
   ⟨some 6, .mv (.c (.pv (.bool false))), none, []⟩])
  (.seq (.ops [
   ⟨some 7, .load true 3 (.t 3), none, []⟩,
   ⟨some 8, .load true 3 (.t 4), none, []⟩,
   ⟨some 9, .load true 3 (.t 5), none, []⟩,
   ⟨some 10, .call 223 [(.t 7), (.t 8), (.t 9)], none, [0, 1, 2]⟩,
   ⟨some 11, .bin .eql (some (.iface true)) (.t 10) (.c (.pv .nili)), none, [3]⟩,
   ⟨some 6, .mv (.t 11), none, [4, 3, 0, 1, 2, 3, 4]⟩])
  .ret))⟩
def f223l0 : ACode :=
 (.seq (.ops [
   ⟨some 15, .bin .lss none (.t 14) (.c (.pv (.int .i64 5))), none, []⟩])
  (.seq (.cond (.t 15)
   .skip
   (.exit 0))
  (.seq (.block 1
   (.seq (.ops [
     ⟨some 16, .idxV false 5 1 (.t 13) (.t 14), none, []⟩,
     ⟨some 8, .mv (.t 16), none, [0, 0]⟩])
    (.seq (.ops [
     ⟨some 17, .mv (.t 8), none, []⟩,
     ⟨some 18, .callv (.t 17) [], none, [0]⟩,
     ⟨some 9, .mv (.t 18), none, [1, 1, 0, 1]⟩])
    (.seq (.ops [
     ⟨some 19, .mv (.t 9), none, []⟩,
     ⟨some 20, .bin .neq (some (.iface true)) (.t 19) (.c (.pv .nili)), none, [0]⟩])
    (.cond (.t 20)
     (.seq (.ops [
       ⟨some 21, .mv (.t 9), none, []⟩,
       ⟨some 6, .mv (.t 21), none, [0, 0]⟩])
      .ret)
     .skip)))))
  (.ops [
   ⟨some 22, .bin .add none (.t 14) (.c (.pv (.int .i64 1))), none, []⟩,
   ⟨some 14, .mv (.t 22), none, [0]⟩]))))
def f223 : AFunc := ⟨23, [.t 6],
 (.seq (.ops [
   ⟨some 3, .box (.t 0), none, []⟩,
   ⟨some 4, .box (.t 1), none, []⟩,
   ⟨some 5, .box (.t 2), none, []⟩,
   ⟨some 6, .mv (.c (.pv .nili)), none, []⟩])
  (.seq (.seq (.ops [
   ⟨some 10, .load true 3 (.t 3), none, []⟩,
   ⟨some 11, .load true 3 (.t 4), none, []⟩,
   ⟨some 12, .load true 3 (.t 5), none, []⟩,
   ⟨some 13, .call 224 [(.t 10), (.t 11), (.t 12)], none, [0, 1, 2]⟩,
   ⟨some 14, .mv (.c (.pv (.int .i64 0))), none, []⟩])
  (.block 0
   (.loop f223l0)))
  (.seq (.ops [
   ⟨some 6, .mv (.c (.pv .nili)), none, []⟩])
  .ret)))⟩
def f224 : AFunc := ⟨13, [.cell 6 true 5],
 (.seq (.ops [
   ⟨some 3, .box (.t 0), none, []⟩,
   ⟨some 4, .box (.t 1), none, []⟩,
   ⟨some 5, .box (.t 2), none, []⟩,
   ⟨some 6, .alloc [(.pv .nilf), (.pv .nilf), (.pv .nilf), (.pv .nilf), (.pv .nilf)], none, []⟩])
  (.seq (.ops [
   ⟨some 7, .mkF 225 [] [(.t 3), (.t 5)], none, []⟩,
   ⟨some 8, .mkF 226 [] [(.t 3), (.t 5)], none, []⟩,
   ⟨some 9, .mkF 227 [] [(.t 3), (.t 5)], none, []⟩,
   ⟨some 10, .mkF 228 [] [(.t 3), (.t 5)], none, []⟩,
   ⟨some 11, .mkF 229 [] [(.t 4), (.t 5)], none, []⟩,
   ⟨some 12, .build [(.pv .nilf), (.pv .nilf), (.pv .nilf), (.pv .nilf), (.pv .nilf)] [(0, 1, (.t 7)), (1, 1, (.t 8)), (2, 1, (.t 9)), (3, 1, (.t 10)), (4, 1, (.t 11))], none, [0, 1, 2, 3, 4]⟩,
   ⟨none, .store 5 (.t 6) (.t 12), none, [5, 0, 1, 2, 3, 4, 5]⟩])
  .ret))⟩
def f225 : AFunc := ⟨6, [.t 2],
 (.seq (.ops [
   ⟨some 2, .mv (.c (.pv .nili)), none, []⟩])
  (.seq (.ops [
   ⟨some 3, .load true 3 (.t 0), none, []⟩,
   ⟨some 4, .load true 3 (.t 1), none, []⟩,
   ⟨some 5, .call 219 [(.t 3), (.t 4)], none, [0, 1]⟩,
   ⟨some 2, .mv (.t 5), none, [2, 2, 0, 1, 2]⟩])
  .ret))⟩
def f226 : AFunc := ⟨6, [.t 2],
 (.seq (.ops [
   ⟨some 2, .mv (.c (.pv .nili)), none, []⟩])
  (.seq (.ops [
   ⟨some 3, .load true 3 (.t 0), none, []⟩,
   ⟨some 4, .load true 3 (.t 1), none, []⟩,
   ⟨some 5, .call 68 [(.t 3), (.t 4)], none, [0, 1]⟩,
   ⟨some 2, .mv (.t 5), none, [2, 2, 0, 1, 2]⟩])
  .ret))⟩
def f227 : AFunc := ⟨6, [.t 2],
 (.seq (.ops [
   ⟨some 2, .mv (.c (.pv .nili)), none, []⟩])
  (.seq (.ops [
   ⟨some 3, .load true 3 (.t 0), none, []⟩,
   ⟨some 4, .load true 3 (.t 1), none, []⟩,
   ⟨some 5, .call 234 [(.t 3), (.t 4)], none, [0, 1]⟩,
   ⟨some 2, .mv (.t 5), none, [2, 2, 0, 1, 2]⟩])
  .ret))⟩
def f228 : AFunc := ⟨6, [.t 2],
 (.seq (.ops [
   ⟨some 2, .mv (.c (.pv .nili)), none, []⟩])
  (.seq (.ops [
   ⟨some 3, .load true 3 (.t 0), none, []⟩,
   ⟨some 4, .load true 3 (.t 1), none, []⟩,
   ⟨some 5, .call 70 [(.t 3), (.t 4)], none, [0, 1]⟩,
   ⟨some 2, .mv (.t 5), none, [2, 2, 0, 1, 2]⟩])
  .ret))⟩
def f229 : AFunc := ⟨6, [.t 2],
 (.seq (.ops [
   ⟨some 2, .mv (.c (.pv .nili)), none, []⟩])
  (.seq (.ops [
   ⟨some 3, .load true 3 (.t 0), none, []⟩,
   ⟨some 4, .load true 3 (.t 1), none, []⟩,
   ⟨some 5, .call 72 [(.t 3), (.t 4)], none, [0, 1]⟩,
   ⟨some 2, .mv (.t 5), none, [2, 2, 0, 1, 2]⟩])
  .ret))⟩
end Go.Proofs.YtggjhmbbbebfeaaGreatDoor.Ab
set_option linter.unusedVariables false
set_option linter.unusedSimpArgs false
namespace Go.Proofs.YtggjhmbbbebfeaaGreatDoor.Ab
open Go
/-! ### The spread's Check -/
def spreadFrom (s : Snap) (pods : List Pod) : Nat → List Load → Option (Int × Int)
  | _, [] => none
  | i, l :: r => if 0 < l.skew ∧ l.skew < skewZ s l.id pods then some (11, i) else spreadFrom s pods (i + 1) r
section
variable {T : Tab}
theorem spread_loop (S : Std8 T) (s : Snap) (t : State) (hn : s.nodes.length ≤ 2 ^ 29) (hl : t.pods.length ≤ 2 ^ 29) (hll : s.loads.length ≤ 2 ^ 29) (Q : Exit → St → Prop) (o : Option (Int × Int))
    (hend : o = none → ∀ fr hp nx, Q (.exit 0) ⟨fr, hp, nx⟩)
    (hret : ∀ c i, o = some (c, i) → ∀ fr hp nx id, look fr 4 = .iface 1 (.ptr id 0 0) → blkAt hp id = .var [.pv (.int .i64 i), .pv (.int .i64 c)] → Q .ret ⟨fr, hp, nx⟩) :
    ∀ (rest : List Load) (i : Nat), s.loads.drop i = rest → i ≤ s.loads.length → spreadFrom s t.pods i rest = o → ∀ (fr : List (Nat × AV)) (hp : Hl) (nx : Nat), 2 ≤ nx →
      look fr 2 = .ptr 0 0 0 → look fr 3 = .ptr 1 0 0 → blkAt hp 0 = .var [.pv (.slice (s.nodes.map nodeC)), .pv (.slice (s.loads.map loadC)), .pv (.slice (s.pods.map podC))] →
      blkAt hp 1 = .var [.pv (.slice (t.pods.map podC)), .pv (.int .i64 t.pre), .pv (.int .i64 t.shi)] →
      look fr 8 = .pv (.slice (s.loads.map loadC)) → look fr 9 = .pv (.int .i64 s.loads.length) → look fr 10 = .pv (.int .i64 i) → Wp T false (.loop f234l0) ⟨fr, hp, nx⟩ Q := by
  intro rest
  induction rest with
  | nil =>
    intro i hd hi ho fr hp nx hnx h2 h3 b0 b1 h8 h9 h10
    have hlen := drop_nil hd hi
    rw [Wp_loop, Wp_eq f234l0.eq_1]
    simp only [runL, defL, binV, simprocAttr, List.drop, List.take, h8, h9, h10, hlen, Int.lt_irrefl]
    exact hend ho.symm _ _ _
  | cons l r ih =>
    intro i hd hi ho fr hp nx hnx h2 h3 b0 b1 h8 h9 h10
    obtain ⟨hget, hlt, hw, hd', hi', hb⟩ := drop_cons hd (by omega)
    have n0 : ¬ nx = 0 := by omega
    have n1 : ¬ nx = 1 := by omega
    have k := skew8_ok S s t l.id hn hl
    simp only [snapP, stateP] at k
    simp only [spreadFrom] at ho
    rw [Wp_loop, Wp_eq f234l0.eq_1]
    simp only [runL, defL, binV, simprocAttr, List.drop, List.take, h2, h3, b0, b1, h8, h9, h10, hlt, hget, loadC, n0, n1]
    refine (Wp_calm rfl).2 ?_
    by_cases c1 : 0 < l.skew
    · by_cases c2 : l.skew < skewZ s l.id t.pods
      · rw [if_pos ⟨c1, c2⟩] at ho
        simp only [runL, defL, binV, simprocAttr, List.drop, List.take, h2, h3, b0, b1, h8, h9, h10, n0, n1, k.callD, c1, c2]
        refine hret 11 i ho.symm _ _ _ (nx + 1) ?_ ?_
        all_goals try simp only [look_if, blkAt_if, Nat.reduceEqDiff, if_true, if_false, ]
      · rw [if_neg fun h => c2 h.2] at ho
        simp only [runL, defL, binV, simprocAttr, List.drop, List.take, h2, h3, b0, b1, h8, h9, h10, n0, n1, k.callD, c1, c2, hw]
        refine ih (i + 1) hd' hi' ho _ _ _ (by omega) ?_ ?_ ?_ ?_ ?_ ?_ ?_
        all_goals try simp only [look_if, blkAt_if, Nat.reduceEqDiff, if_true, if_false, h2, h3, b0, b1, h8, h9, n0, n1]
    · rw [if_neg fun h => c1 h.1] at ho
      simp only [runL, defL, binV, simprocAttr, List.drop, List.take, h2, h3, b0, b1, h8, h9, h10, n0, n1, k.callD, c1, hw]
      refine ih (i + 1) hd' hi' ho _ _ _ (by omega) ?_ ?_ ?_ ?_ ?_ ?_ ?_
      all_goals try simp only [look_if, blkAt_if, Nat.reduceEqDiff, if_true, if_false, h2, h3, b0, b1, h8, h9, n0, n1]
theorem spread_ok (S : Std8 T) (h234 : Std T 234 f234) (s : Snap) (t : State) (hn : s.nodes.length ≤ 2 ^ 29) (hl : t.pods.length ≤ 2 ^ 29) (hll : s.loads.length ≤ 2 ^ 29) : Gives T 234 [snapP s, stateP t] (errO (spreadFrom s t.pods 0 s.loads)) := by
  refine gives h234 rfl ?_
  simp only [f234, runL, defL, binV, simprocAttr, List.drop, List.take, snapP, stateP]
  refine spread_loop S s t hn hl hll _ (spreadFrom s t.pods 0 s.loads) (fun ho fr hp nx => ?_) (fun c i ho fr hp nx id h4 hb => ?_) s.loads 0 rfl (Nat.zero_le _) rfl _ _ _ (Nat.le_refl _) rfl rfl rfl rfl rfl rfl rfl
  · simp only [runL, defL, binV, simprocAttr, List.drop, List.take, ho, errO]
  · simp only [runL, defL, binV, simprocAttr, List.drop, List.take, ho, errO, h4, hb, spotE]
/-! ### The five -/
def csP (s : Snap) : PV := .cptr [.slice (s.nodes.map nodeC), .slice (s.loads.map loadC), .slice (s.pods.map podC)] 0
def cxP (x : Spec) : PV := .cptr [.slice (x.wants.map wantC), .int .i64 x.pre, .int .i64 x.shi] 0
def ctP (t : State) : PV := .cptr [.slice (t.pods.map podC), .int .i64 t.pre, .int .i64 t.shi] 0
def fiveP (s : Snap) (x : Spec) (t : State) : List PV := [.func 225 [] [csP s, ctP t], .func 226 [] [csP s, ctP t], .func 227 [] [csP s, ctP t], .func 228 [] [csP s, ctP t], .func 229 [] [cxP x, ctP t]]
structure Std11 (T : Tab) : Prop where
  s6 : Std6 T
  s8 : Std8 T
  h219 : Std T 219 f219
  h266 : StdA T 266
  h68 : Std T 68 f68
  h69 : Std T 69 f69
  h81 : Std T 81 f81
  h234 : Std T 234 f234
  h70 : Std T 70 f70
  h71 : Std T 71 f71
  h72 : Std T 72 f72
  h223 : Std T 223 f223
  h224 : Std T 224 f224
  h225 : Std T 225 f225
  h226 : Std T 226 f226
  h227 : Std T 227 f227
  h228 : Std T 228 f228
  h229 : Std T 229 f229
theorem five_ok (S : Std11 T) (s : Snap) (x : Spec) (t : State) : Gives T 224 [snapP s, specP x, stateP t] (.agg (fiveP s x t)) := by
  refine gives S.h224 rfl ?_
  simp only [f224, runL, defL, binV, simprocAttr, List.drop, List.take, snapP, specP, stateP, mkFun, allPVs, fiveP, csP, cxP, ctP]
theorem c225_ok (S : Std11 T) (s : Snap) (t : State) (hn : s.nodes.length ≤ 2 ^ 29) (hl : t.pods.length ≤ 2 ^ 29) (hw : ∀ p ∈ t.pods, p.wf) : Gives T 225 [csP s, ctP t] (errO (roomFrom s t.pods 0 s.nodes)) := by
  have k := room_ok S.s6 S.h219 S.h266 s t (by omega) (by omega) hw
  simp only [snapP, stateP] at k
  refine gives S.h225 rfl ?_
  simp only [f225, runL, defL, binV, simprocAttr, List.drop, List.take, csP, ctP, k.call]
theorem c226_ok (S : Std11 T) (s : Snap) (t : State) (hn : s.loads.length ≤ 2 ^ 29) (hl : t.pods.length ≤ 2 ^ 29) : Gives T 226 [csP s, ctP t] (errO (apartFrom s.loads [] t.pods)) := by
  have k := apart_ok S.h68 S.h69 S.h81 s t (by omega) (by omega)
  simp only [snapP, stateP] at k
  refine gives S.h226 rfl ?_
  simp only [f226, runL, defL, binV, simprocAttr, List.drop, List.take, csP, ctP, k.call]
theorem c227_ok (S : Std11 T) (s : Snap) (t : State) (hn : s.nodes.length ≤ 2 ^ 29) (hl : t.pods.length ≤ 2 ^ 29) (hll : s.loads.length ≤ 2 ^ 29) : Gives T 227 [csP s, ctP t] (errO (spreadFrom s t.pods 0 s.loads)) := by
  have k := spread_ok S.s8 S.h234 s t hn hl hll
  simp only [snapP, stateP] at k
  refine gives S.h227 rfl ?_
  simp only [f227, runL, defL, binV, simprocAttr, List.drop, List.take, csP, ctP, k.call]
theorem c228_ok (S : Std11 T) (s : Snap) (t : State) (hl : t.pods.length ≤ 2 ^ 29) (hll : s.loads.length ≤ 2 ^ 29) : Gives T 228 [csP s, ctP t] (errO (badLoad t.pods 0 s.loads)) := by
  have k := check9_ok S.h70 S.h71 s t (by omega) (by omega)
  simp only [snapP, stateP] at k
  refine gives S.h228 rfl ?_
  simp only [f228, runL, defL, binV, simprocAttr, List.drop, List.take, csP, ctP, k.call]
theorem c229_ok (S : Std11 T) (x : Spec) (t : State) : Gives T 229 [cxP x, ctP t] (cond (usedB x t) (codeE 15) .nili) := by
  have k := used9_ok S.h72 x t
  simp only [specP, stateP] at k
  refine gives S.h229 rfl ?_
  simp only [f229, runL, defL, binV, simprocAttr, List.drop, List.take, cxP, ctP, k.call]
/-! ### Why, Is -/
def ErrV (r : PV) : Prop := r = .nili ∨ (∃ a n, r = spotE a n) ∨ ∃ n, r = codeE n
theorem errV_O (o : Option (Int × Int)) : ErrV (errO o) := by
  cases o with
  | none => exact .inl rfl
  | some q => exact .inr (.inl ⟨_, _, rfl⟩)
theorem errV_used (x : Spec) (t : State) : ErrV (cond (usedB x t) (codeE 15) .nili) := by
  cases usedB x t
  · exact .inl rfl
  · exact .inr (.inr ⟨_, rfl⟩)
def firstE : List PV → PV
  | [] => .nili
  | .nili :: r => firstE r
  | e :: _ => e
def isNilP : PV → Bool
  | .nili => true
  | _ => false
def errsL (s : Snap) (x : Spec) (t : State) : List PV := [errO (roomFrom s t.pods 0 s.nodes), errO (apartFrom s.loads [] t.pods), errO (spreadFrom s t.pods 0 s.loads), errO (badLoad t.pods 0 s.loads), cond (usedB x t) (codeE 15) .nili]
def whyP (s : Snap) (x : Spec) (t : State) : PV := firstE (errsL s x t)
theorem firstE_V : ∀ (l : List PV), (∀ e ∈ l, ErrV e) → ErrV (firstE l)
  | [], _ => .inl rfl
  | e :: r, h => by
    have h1 := h e (List.mem_cons_self ..)
    have h2 := firstE_V r fun e he => h e (List.mem_cons_of_mem _ he)
    rcases h1 with rfl | ⟨a, n, rfl⟩ | ⟨n, rfl⟩
    · exact h2
    · exact .inr (.inl ⟨_, _, rfl⟩)
    · exact .inr (.inr ⟨_, rfl⟩)
theorem errs_V (s : Snap) (x : Spec) (t : State) : ∀ e ∈ errsL s x t, ErrV e := by
  intro e he
  simp only [errsL, List.mem_cons, List.not_mem_nil, or_false] at he
  rcases he with rfl | rfl | rfl | rfl | rfl
  · exact errV_O _
  · exact errV_O _
  · exact errV_O _
  · exact errV_O _
  · exact errV_used _ _
theorem why_step {fs : List PV} {i n : Nat} {a b r : PV} (hi : i < 5) (hf : fs[i]? = some (.func n [] [a, b])) (k : Gives T n [a, b] r) (hr : ErrV r) (Q : Exit → St → Prop) (fr : List (Nat × AV)) (hp : Hl) (nx : Nat)
    (h13 : look fr 13 = .pv (.agg fs)) (h14 : look fr 14 = .pv (.int .i64 i))
    (hn : r = .nili → ∀ fr', look fr' 13 = .pv (.agg fs) → look fr' 14 = .pv (.int .i64 ((i + 1 : Nat) : Int)) → Wp T false (.loop f223l0) ⟨fr', hp, nx⟩ Q)
    (hs : r ≠ .nili → ∀ fr', look fr' 6 = .pv r → Q .ret ⟨fr', hp, nx⟩) : Wp T false (.loop f223l0) ⟨fr, hp, nx⟩ Q := by
  have hlt : (i : Int) < 5 := by omega
  have hw : IntKind.i64.wrap ((i : Int) + 1) = ((i + 1 : Nat) : Int) := by rw [wrap6] <;> omega
  have hld : loadV false 1 (List.drop (i * 1) (pvs fs)) = some (.pv (.func n [] [a, b])) := by
    have hlen : i < fs.length := (List.getElem?_eq_some_iff.1 hf).1
    have hl2 : i < (pvs fs).length := by rw [pvs_length]; exact hlen
    have hg : (pvs fs)[i]? = some (.pv (.func n [] [a, b])) := by rw [pvs_get, hf]; rfl
    have hg2 : (pvs fs)[i] = .pv (.func n [] [a, b]) := by
      rw [List.getElem?_eq_getElem hl2] at hg
      simpa using hg
    rw [Nat.mul_one, List.drop_eq_getElem_cons hl2, hg2]
    rfl
  rw [Wp_loop, Wp_eq f223l0.eq_1]
  rcases hr with rfl | ⟨c, m, rfl⟩ | ⟨m, rfl⟩
  · simp only [runL, defL, binV, simprocAttr, List.drop, List.take, funQ_some, aggV, h13, h14, hlt, hi, hld, k.call, hw]
    refine hn rfl _ ?_ ?_
    all_goals try simp only [look_if, blkAt_if, Nat.reduceEqDiff, if_true, if_false, h13, h14]
  · simp only [spotE] at k
    simp only [runL, defL, binV, simprocAttr, List.drop, List.take, funQ_some, aggV, h13, h14, hlt, hi, hld, k.call, hw]
    refine hs (by simp [spotE]) _ ?_
    all_goals try simp only [look_if, blkAt_if, Nat.reduceEqDiff, if_true, if_false, spotE]
  · simp only [codeE] at k
    simp only [runL, defL, binV, simprocAttr, List.drop, List.take, funQ_some, aggV, h13, h14, hlt, hi, hld, k.call, hw]
    refine hs (by simp [codeE]) _ ?_
    all_goals try simp only [look_if, blkAt_if, Nat.reduceEqDiff, if_true, if_false, codeE]
theorem firstE_ne {e : PV} {r : List PV} (h : e ≠ .nili) : firstE (e :: r) = e := by
  cases e <;> first | rfl | exact absurd rfl h
theorem why_ok (S : Std11 T) (s : Snap) (x : Spec) (t : State) (hn : s.nodes.length ≤ 2 ^ 29) (hl : t.pods.length ≤ 2 ^ 29) (hll : s.loads.length ≤ 2 ^ 29) (hw : ∀ p ∈ t.pods, p.wf) : Gives T 223 [snapP s, specP x, stateP t] (whyP s x t) := by
  have k0 := five_ok S s x t
  have k1 := c225_ok S s t hn hl hw
  have k2 := c226_ok S s t hll hl
  have k3 := c227_ok S s t hn hl hll
  have k4 := c228_ok S s t hl hll
  have k5 := c229_ok S x t
  simp only [snapP, specP, stateP] at k0
  refine gives S.h223 rfl ?_
  simp only [f223, runL, defL, binV, simprocAttr, List.drop, List.take, snapP, specP, stateP, k0.call]
  unfold whyP errsL
  refine why_step (i := 0) (by omega) rfl k1 (errV_O _) _ _ _ _ rfl rfl (fun e1 fr h13 h14 => ?_) (fun e1 fr h6 => ?_)
  · rw [e1, firstE]
    refine why_step (i := 1) (by omega) rfl k2 (errV_O _) _ _ _ _ h13 h14 (fun e1 fr h13 h14 => ?_) (fun e1 fr h6 => ?_)
    · rw [e1, firstE]
      refine why_step (i := 2) (by omega) rfl k3 (errV_O _) _ _ _ _ h13 h14 (fun e1 fr h13 h14 => ?_) (fun e1 fr h6 => ?_)
      · rw [e1, firstE]
        refine why_step (i := 3) (by omega) rfl k4 (errV_O _) _ _ _ _ h13 h14 (fun e1 fr h13 h14 => ?_) (fun e1 fr h6 => ?_)
        · rw [e1, firstE]
          refine why_step (i := 4) (by omega) rfl k5 (errV_used _ _) _ _ _ _ h13 h14 (fun e1 fr h13 h14 => ?_) (fun e1 fr h6 => ?_)
          · rw [e1, firstE]
            have h14' : look fr 14 = .pv (.int .i64 5) := h14
            rw [Wp_loop, Wp_eq f223l0.eq_1]
            simp only [runL, defL, binV, simprocAttr, List.drop, List.take, h13, h14', Int.lt_irrefl, firstE]
          · rw [firstE_ne e1]
            simp only [runL, defL, binV, simprocAttr, List.drop, List.take, h6]
        · rw [firstE_ne e1]
          simp only [runL, defL, binV, simprocAttr, List.drop, List.take, h6]
      · rw [firstE_ne e1]
        simp only [runL, defL, binV, simprocAttr, List.drop, List.take, h6]
    · rw [firstE_ne e1]
      simp only [runL, defL, binV, simprocAttr, List.drop, List.take, h6]
  · rw [firstE_ne e1]
    simp only [runL, defL, binV, simprocAttr, List.drop, List.take, h6]
theorem is11_ok (S : Std11 T) (h222 : Std T 222 f222) (s : Snap) (x : Spec) (t : State) (hn : s.nodes.length ≤ 2 ^ 29) (hl : t.pods.length ≤ 2 ^ 29) (hll : s.loads.length ≤ 2 ^ 29) (hw : ∀ p ∈ t.pods, p.wf) : Gives T 222 [snapP s, specP x, stateP t] (.bool (isNilP (whyP s x t))) := by
  have k := why_ok S s x t hn hl hll hw
  have hv : ErrV (whyP s x t) := firstE_V _ (errs_V s x t)
  refine gives h222 rfl ?_
  rcases hv with e | ⟨a, n, e⟩ | ⟨n, e⟩ <;>
  · rw [e] at k ⊢
    simp only [snapP, specP, stateP, spotE, codeE] at k
    simp only [f222, runL, defL, binV, simprocAttr, List.drop, List.take, snapP, specP, stateP, k.call, isNilP, spotE, codeE]
end
end Go.Proofs.YtggjhmbbbebfeaaGreatDoor.Ab
set_option linter.unusedVariables false
set_option linter.unusedSimpArgs false
namespace Go.Proofs.YtggjhmbbbebfeaaGreatDoor.Ab
open Go
def as2P (args : List AV) (hp : Hl) (nx : Nat) : Option (AV × Hl × Nat) :=
  match args with
  | [.pv .nili, .iface 2 (.ptr k 0 0)] => some (.pv (.bool false), hp, nx)
  | [.pv (.iface 0 (.int .i64 n)), .iface 2 (.ptr k 0 0)] => match blkAt hp k with
    | .var [.pv .nilp] => some (.pv (.bool false), hp, nx)
    | _ => none
  | [.pv (.iface 1 (.cptr [.int .i64 a, .int .i64 n] 0)), .iface 2 (.ptr k 0 0)] => match blkAt hp k with
    | .var [.pv .nilp] => some (.pv (.bool true), (k, .var [.pv (.cptr [.int .i64 a, .int .i64 n] 0)]) :: hp, nx)
    | _ => none
  | _ => asP args hp nx
theorem Rel.tgt {X : Ctx} {M : Nat → Nat} {F : Fr} {hp : Hl} {nx : Nat} {a : Act} {w : World} (R : Rel X M F (blkAt hp) (fun i => i < nx) a w) {k : Nat} {p0 : PV} {u : Value} (hb : blkAt hp k = .var [.pv p0]) (hu : VA (viewOf X w (fun i => i < nx) M (blkAt hp)) (.ptr k 0 0) u) :
    u = .pointer (some ⟨M k, 0, none⟩) ∧ (∃ old, w.cell? ⟨M k, 0, none⟩ = some old) ∧ w.frozen? ⟨M k, 0, none⟩ = false := by
  simp only [VA, viewOf] at hu
  obtain ⟨_, _, hu⟩ := hu
  have e := hu (0, 0) (by rw [hb]; rfl)
  have hB := R.blk k
  rw [hb] at hB
  obtain ⟨c, t, q1, q2, q3⟩ := hB
  simp only [viewOf] at q1
  have hsz : c.size = 1 := by simpa using q2
  simp only [ARun, and_true] at q3
  obtain ⟨x, q4, _, _⟩ := q3
  refine ⟨by simpa using e, ⟨x, q4⟩, ?_⟩
  simp only [World.frozen?, q1]
  simp
theorem as2P_asP {args : List AV} {hp : Hl} {nx : Nat} {r : AV × Hl × Nat} (h : asP args hp nx = some r) : as2P args hp nx = some r := by
  unfold as2P
  split
  · simp [asP] at h
  · simp [asP] at h
  · simp [asP] at h
  · exact h
structure StdA2 (T : Tab) (n : Nat) : Prop where
  prim : T.prim n = some as2P
  raw : T.raw n = true
theorem StdA2.a {T : Tab} {n : Nat} (S : StdA2 T n) : StdA T n := ⟨⟨_, S.prim, fun _ _ _ _ h => as2P_asP h⟩, S.raw⟩
section
variable {T : Tab} {n : Nat} (S : StdA2 T n)
include S
end
end Go.Proofs.YtggjhmbbbebfeaaGreatDoor.Ab
set_option linter.unusedVariables false
set_option linter.unusedSimpArgs false
namespace Go.Proofs.YtggjhmbbbebfeaaGreatDoor.Ab
open Go
/-! ### Of -/
def codesOf : PV → List Int
  | .iface 0 (.int _ n) => [n]
  | .iface 1 (.cptr [_, .int _ n] _) => [n]
  | _ => []
def codeNo (r : PV) : Int := (codesOf r).headD 0
section
variable {T : Tab}
/-! ### All -/
end
/-! ### The plain law -/
/-! ### The walk -/
end Go.Proofs.YtggjhmbbbebfeaaGreatDoor.Ab
set_option linter.unusedVariables false
set_option linter.unusedSimpArgs false
namespace Go.Proofs.YtggjhmbbbebfeaaGreatDoor.Ab
open Go
theorem lookB_some {a n last c k b : Int} (h : lookB a n last c = some (k, b)) (hc : c = 0 ∨ 1 ≤ c ∧ c ≤ 17) : b = a ∧ 1 ≤ k ∧ k ≤ 17 := by
  unfold lookB at h
  split at h
  · rename_i h0
    simp only [Option.some.injEq, Prod.mk.injEq] at h
    obtain ⟨rfl, rfl⟩ := h
    refine ⟨rfl, ?_⟩
    have hi : idP n last = 0 ∨ 1 ≤ idP n last ∧ idP n last ≤ 5 := by
      unfold idP
      split
      · omega
      · split <;> omega
    unfold lookC at h0 ⊢
    split
    · omega
    · rename_i h1
      rw [if_neg h1] at h0
      omega
  · simp at h
theorem fstB_range {α : Type} {idOf own : α → Int} (hc : ∀ x, own x = 0 ∨ 1 ≤ own x ∧ own x ≤ 17) : ∀ (l : List α) (last a : Int) c b, fstB idOf own last a l = some (c, b) → a ≤ b ∧ 1 ≤ c ∧ c ≤ 17
  | [], last, a, c, b, h => by simp [fstB] at h
  | x :: r, last, a, c, b, h => by
    simp only [fstB] at h
    cases hl : lookB a (idOf x) last (own x) with
    | some q =>
      obtain ⟨k, b'⟩ := q
      rw [hl] at h
      simp only [Option.some_or, Option.some.injEq, Prod.mk.injEq] at h
      obtain ⟨rfl, rfl⟩ := h
      obtain ⟨rfl, h1⟩ := lookB_some hl (hc x)
      exact ⟨Int.le_refl _, h1⟩
    | none =>
      rw [hl, Option.none_or] at h
      obtain ⟨h1, h2⟩ := fstB_range hc r _ _ c b h
      exact ⟨by omega, h2⟩
theorem nodeBad_c (n : Node) : nodeBad n = 0 ∨ 1 ≤ nodeBad n ∧ nodeBad n ≤ 17 := by unfold nodeBad; split <;> omega
theorem loadBad_c (n : Load) : loadBad n = 0 ∨ 1 ≤ loadBad n ∧ loadBad n ≤ 17 := by unfold loadBad; split <;> omega
theorem podBad_c (s : Snap) (p : Pod) : podBad s p = 0 ∨ 1 ≤ podBad s p ∧ podBad s p ≤ 17 := by
  unfold podBad
  split
  · omega
  · split <;> omega
theorem errA_snap {err : AV} {hp : Hl} {o : Option (Int × Int)} {kid nx : Nat} (h : ErrA err hp o kid nx) (hpos : ∀ c a, o = some (c, a) → 0 ≤ a) : snapV (blkAt hp) err = some (errG o) := by
  cases o with
  | none =>
    have h' : err = .pv .nili := h
    subst h'
    rfl
  | some q =>
    obtain ⟨c, a⟩ := q
    obtain ⟨b, rfl, h1, h2, h3⟩ := h
    have := hpos c a rfl
    have hn : ¬ a < 0 := by omega
    simp only [snapV, h3, snapRs, snapR, errG, hn, if_false, spotE]
section
variable {T : Tab}
set_option maxRecDepth 100000 in
set_option maxHeartbeats 4000000 in
theorem check3_ok (S : Std3 T) (s : Snap) : Gives T 76 [snapP s] (errG (checkB s)) := by
  refine gives S.h76 rfl ?_
  by_cases hz : sizesOK s = true
  · have hz' := hz
    simp only [sizesOK, Bool.and_eq_true, decide_eq_true_eq] at hz'
    obtain ⟨z1, z2, z3, z4⟩ := hz'
    have y1 : ¬ (s.nodes.length : Int) < 1 := by omega
    have y2 : ¬ (8 : Int) < (s.nodes.length : Int) := by omega
    have y3 : ¬ (8 : Int) < (s.loads.length : Int) := by omega
    have y4 : ¬ (12 : Int) < (s.pods.length : Int) := by omega
    have hpos : ∀ c a, checkB s = some (c, a) → 0 ≤ a := by
      intro c a h
      unfold checkB at h
      rw [if_pos hz] at h
      cases h1 : fstB Node.id nodeBad 0 0 s.nodes with
      | some q =>
        rw [h1] at h
        simp only [Option.some_or, Option.some.injEq] at h
        subst h
        have := fstB_range nodeBad_c _ _ _ _ _ h1
        omega
      | none =>
        rw [h1, Option.none_or] at h
        cases h2 : fstB Load.id loadBad 0 s.nodes.length s.loads with
        | some q =>
          rw [h2] at h
          simp only [Option.some_or, Option.some.injEq] at h
          subst h
          have := fstB_range loadBad_c _ _ _ _ _ h2
          omega
        | none =>
          rw [h2, Option.none_or] at h
          have := fstB_range (podBad_c s) _ _ _ _ _ h
          omega
    simp only [f76, runL, defL, binV, simprocAttr, List.drop, List.take, snapP, y1, y2, y3, y4]
    refine check_0 S s (by omega) (by omega) (by omega) 0 (Int.le_refl _) (by omega) _ (fstB Node.id nodeBad 0 0 s.nodes) (fun fr hp nx last err hnx g1 g3 b0 b1 hE => ?_) s.nodes 0 0 none (.pv .nili) rfl (Nat.zero_le _) rfl _ _ _ (Nat.le_refl _) rfl rfl rfl rfl rfl rfl rfl rfl
    simp only [runL, defL, binV, simprocAttr, List.drop, List.take, g1, g3, b0, b1]
    refine check_1 S s (by omega) (by omega) (by omega) s.nodes.length (by omega) (by omega) _ ((fstB Node.id nodeBad 0 0 s.nodes).or (fstB Load.id loadBad 0 s.nodes.length s.loads)) (fun fr hp nx last err hnx g1 g3 b0 b1 hE => ?_) s.loads 0 0 (fstB Node.id nodeBad 0 0 s.nodes) err rfl (Nat.zero_le _) (by rw [show ((s.nodes.length : Int) + ((0 : Nat) : Int)) = s.nodes.length by omega]) _ _ _ hnx ?_ ?_ ?_ ?_ ?_ ?_ ?_ ?_
    · simp only [runL, defL, binV, simprocAttr, List.drop, List.take, g1, g3, b0, b1]
      refine check_2 S s (by omega) (by omega) (by omega) (s.nodes.length + s.loads.length) (by omega) (by omega) _ (checkB s) (fun fr hp nx last err hnx g1 g3 b0 b1 hE => ?_) s.pods 0 0 ((fstB Node.id nodeBad 0 0 s.nodes).or (fstB Load.id loadBad 0 s.nodes.length s.loads)) err rfl (Nat.zero_le _) ?_ _ _ _ hnx ?_ ?_ ?_ ?_ ?_ ?_ ?_ ?_
      · have hs := errA_snap hE hpos
        simp only [runL, defL, binV, simprocAttr, List.drop, List.take, g1, g3, b0, b1, hs]
      · rw [checkB, if_pos hz, show ((s.nodes.length : Int) + s.loads.length + ((0 : Nat) : Int)) = (s.nodes.length : Int) + s.loads.length by omega]
      all_goals try simp only [look_if, blkAt_if, Nat.reduceEqDiff, if_true, if_false, g1, g3, b0]
      · rw [show ((s.nodes.length : Int) + s.loads.length + ((0 : Nat) : Int)) = (s.nodes.length : Int) + s.loads.length by omega]
      · exact hE.mono (fun j hj hne => by simp only [look_if, blkAt_if, Nat.reduceEqDiff, if_true, if_false, show ¬ 1 = j from fun h => hne h.symm]) (Nat.le_refl _)
      · rfl
    all_goals try simp only [look_if, blkAt_if, Nat.reduceEqDiff, if_true, if_false, g1, g3, b0]
    · rw [show ((s.nodes.length : Int) + ((0 : Nat) : Int)) = 0 + (s.nodes.length : Int) by omega]
    · exact hE.mono (fun j hj hne => by simp only [look_if, blkAt_if, Nat.reduceEqDiff, if_true, if_false, show ¬ 1 = j from fun h => hne h.symm]) (Nat.le_refl _)
    · rfl
  · have hc : errG (checkB s) = .iface 0 (.int .i64 3) := by rw [checkB, if_neg hz]; rfl
    rw [hc]
    have hz' := hz
    simp only [sizesOK, Bool.and_eq_true, decide_eq_true_eq, not_and] at hz'
    by_cases c1 : (s.nodes.length : Int) < 1
    · simp only [f76, runL, defL, binV, simprocAttr, List.drop, List.take, snapP, c1]
    · by_cases c2 : (8 : Int) < (s.nodes.length : Int)
      · simp only [f76, runL, defL, binV, simprocAttr, List.drop, List.take, snapP, c1, c2]
      · by_cases c3 : (8 : Int) < (s.loads.length : Int)
        · simp only [f76, runL, defL, binV, simprocAttr, List.drop, List.take, snapP, c1, c2, c3]
        · have c4 : (12 : Int) < (s.pods.length : Int) := by have := hz' (by omega) (by omega) (by omega); omega
          simp only [f76, runL, defL, binV, simprocAttr, List.drop, List.take, snapP, c1, c2, c3, c4]
/-! ### Wants -/
def wantRest (pods : List Pod) (w : Want) : Int := if podOf w.pod pods = none then 4 else if w.stay = false ∧ w.req ≠ vec0 then 1 else 0
def wantBad (pods : List Pod) (prev : Option Want) (w : Want) : Int := match prev with
  | some v => if w.pod = v.pod then 5 else if w.pod < v.pod then 1 else wantRest pods w
  | none => wantRest pods w
def wantsFrom (pods : List Pod) : Option Want → Int → List Want → Option (Int × Int)
  | _, _, [] => none
  | prev, i, w :: r => if wantBad pods prev w ≠ 0 then some (wantBad pods prev w, i) else wantsFrom pods (some w) (i + 1) r
def fairB (s : Snap) (x : Spec) : Option (Int × Int) := match checkB s with
  | some e => some e
  | none => if 0 ≤ x.pre ∧ x.pre ≤ 40 ∧ 0 ≤ x.shi ∧ x.shi ≤ 40 then wantsFrom s.pods none 0 x.wants else some (3, -1)
structure StdC (T : Tab) : Prop where
  h282 : Std T 282 f282
  flat282 : T.flat 282 = true
  h287 : Std T 287 f287
  h91 : Std T 91 f91
theorem want1_ok (h91 : Std T 91 f91) (p : Pod) (w : Want) : Gives T 91 [.agg (podC p), .cptr (wantC w) 0] (.bool (decide (p.id = w.pod))) := by
  refine gives h91 rfl ?_
  simp only [f91, runL, defL, binV, simprocAttr, List.drop, List.take, podC, wantC]
theorem contains3_ok (S : StdC T) (pods : List Pod) (w : Want) (h : pods.length ≤ 2 ^ 30) : Gives T 282 [.slice (pods.map podC), .func 91 [] [.cptr (wantC w) 0]] (.bool (decide (podOf w.pod pods ≠ none))) := by
  refine gives S.h282 rfl ?_
  have k : Gives T 287 [.slice (pods.map podC), .func 91 [] [.cptr (wantC w) 0]] (.int .i64 (placeFrom w.pod 0 pods)) := by
    rw [← findFrom_place]
    exact index_ok _ S.h287 (pods.map podC) (by simpa using h) (fun e he => by
      obtain ⟨p, _, rfl⟩ := List.mem_map.1 he
      rfl) (fun e he => by
      obtain ⟨p, _, rfl⟩ := List.mem_map.1 he
      exact want1_ok S.h91 p w)
  rcases placeFrom_cases w.pod pods 0 with ⟨h1, h2⟩ | ⟨j, p, h1, h2, h3, h4⟩
  · rw [h2] at k
    simp only [f282, runL, defL, binV, simprocAttr, List.drop, List.take, k.call, h1]
  · rw [h3] at k
    have hj : (0 : Int) ≤ ((0 + j : Nat) : Int) := by omega
    have hj' : (0 : Int) ≤ (j : Int) := by omega
    simp only [f282, runL, defL, binV, simprocAttr, List.drop, List.take, k.call, h2, hj, hj', reduceCtorEq]
set_option maxRecDepth 100000 in
set_option maxHeartbeats 4000000 in
theorem want3_ok (h90 : Std T 90 f90) (S : StdC T) (s : Snap) (hp : s.pods.length ≤ 2 ^ 30) (l : List Want) (i : Nat) (w : Want) (prev : Option Want) (hi : i < 2 ^ 30) (hg : l[i]? = some w) (hprev : (i = 0 ∧ prev = none) ∨ ∃ j v, i = j + 1 ∧ prev = some v ∧ l[j]? = some v) :
    Gives T 90 [snapP s, .slice (l.map wantC), .int .i64 (i : Int)] (errC (wantBad s.pods prev w)) := by
  refine gives h90 rfl ?_
  have k := contains3_ok S s.pods w hp
  have kf := k.callF S.flat282 rfl
  simp only [wantC] at kf
  have rest : ∀ (Q : Int → Prop), (podOf w.pod s.pods = none → Q 4) → (podOf w.pod s.pods ≠ none → w.stay = false → w.req ≠ vec0 → Q 1) → (podOf w.pod s.pods ≠ none → w.stay = false → w.req = vec0 → Q 0) → (podOf w.pod s.pods ≠ none → w.stay = true → Q 0) → Q (wantRest s.pods w) := by
    intro Q q4 q1 q0 q0'
    unfold wantRest
    by_cases h1 : podOf w.pod s.pods = none
    · rw [if_pos h1]; exact q4 h1
    · rw [if_neg h1]
      cases h2 : w.stay
      · by_cases h3 : w.req = vec0
        · rw [if_neg (by simp [h3])]; exact q0 h1 h2 h3
        · rw [if_pos ⟨rfl, h3⟩]; exact q1 h1 h2 h3
      · rw [if_neg (by simp)]; exact q0' h1 h2
  rcases hprev with ⟨rfl, rfl⟩ | ⟨j, v, rfl, rfl, hv⟩
  · have z0 : ((0 : Nat) : Int) = 0 := rfl
    simp only [wantBad]
    refine rest (fun c => Wp T false f90.body ⟨argsA 0 (pvs [snapP s, .slice (l.map wantC), .int .i64 ((0 : Nat) : Int)]), [], 0⟩ (RetP f90.res (errC c))) (fun h1 => ?_) (fun h1 h2 h3 => ?_) (fun h1 h2 h3 => ?_) (fun h1 h2 => ?_)
    all_goals
      simp only [f90, runL, defL, binV, simprocAttr, List.drop, List.take, snapP, hg, wantC, z0]
      refine (Wp_calmS rfl).2 ?_
      simp only [runL, defL, binV, simprocAttr, List.drop, List.take]
      refine (Wp_calmS rfl).2 ?_
      simp only [runL, defL, binV, simprocAttr, List.drop, List.take, mkFun, allPVs]
      rw [kf _ _ _ _ _ (eq_true (by simp only [runL, defL, binV, simprocAttr, List.drop, List.take])) (eq_true (by simp only [runL, defL, binV, simprocAttr, List.drop, List.take]))]
    · simp only [runL, defL, binV, simprocAttr, List.drop, List.take, h1, errC4]
    · have hv := eqVec w.req vec0
      rw [decide_eq_false h3] at hv
      simp only [vec0] at hv
      simp only [runL, defL, binV, simprocAttr, List.drop, List.take, h1, h2, hv, errC1]
    · have hv := eqVec w.req vec0
      rw [decide_eq_true h3] at hv
      simp only [vec0] at hv
      simp only [runL, defL, binV, simprocAttr, List.drop, List.take, h1, h2, hv, errC0]
    · simp only [runL, defL, binV, simprocAttr, List.drop, List.take, h1, h2, errC0]
  · have w1 : IntKind.i64.wrap (((j + 1 : Nat) : Int) - 1) = (j : Int) := by rw [wrap6] <;> omega
    have p0 : (0 : Int) < ((j + 1 : Nat) : Int) := by omega
    simp only [wantBad]
    by_cases h5 : w.pod = v.pod
    · have d5 := decide_eq_true h5
      rw [if_pos h5]
      simp only [f90, runL, defL, binV, simprocAttr, List.drop, List.take, snapP, hg, wantC]
      refine (Wp_calmS rfl).2 ?_
      simp only [runL, defL, binV, simprocAttr, List.drop, List.take, hv, wantC, w1, p0, d5, errC5]
    · rw [if_neg h5]
      by_cases h6 : w.pod < v.pod
      · rw [if_pos h6]
        simp only [f90, runL, defL, binV, simprocAttr, List.drop, List.take, snapP, hg, wantC]
        refine (Wp_calmS rfl).2 ?_
        simp only [runL, defL, binV, simprocAttr, List.drop, List.take, hv, wantC, w1, p0, h5]
        refine (Wp_calmS rfl).2 ?_
        simp only [runL, defL, binV, simprocAttr, List.drop, List.take, hv, wantC, w1, p0, h6, errC1]
      · rw [if_neg h6]
        refine rest (fun c => Wp T false f90.body ⟨argsA 0 (pvs [snapP s, .slice (l.map wantC), .int .i64 ((j + 1 : Nat) : Int)]), [], 0⟩ (RetP f90.res (errC c))) (fun h1 => ?_) (fun h1 h2 h3 => ?_) (fun h1 h2 h3 => ?_) (fun h1 h2 => ?_)
        all_goals
          simp only [f90, runL, defL, binV, simprocAttr, List.drop, List.take, snapP, hg, wantC]
          refine (Wp_calmS rfl).2 ?_
          simp only [runL, defL, binV, simprocAttr, List.drop, List.take, hv, wantC, w1, p0, h5]
          refine (Wp_calmS rfl).2 ?_
          simp only [runL, defL, binV, simprocAttr, List.drop, List.take, hv, wantC, w1, p0, h6, mkFun, allPVs]
          rw [kf _ _ _ _ _ (eq_true (by simp only [runL, defL, binV, simprocAttr, List.drop, List.take])) (eq_true (by simp only [runL, defL, binV, simprocAttr, List.drop, List.take]))]
        · simp only [runL, defL, binV, simprocAttr, List.drop, List.take, h1, errC4]
        · have hv := eqVec w.req vec0
          rw [decide_eq_false h3] at hv
          simp only [vec0] at hv
          simp only [runL, defL, binV, simprocAttr, List.drop, List.take, h1, h2, hv, errC1]
        · have hv := eqVec w.req vec0
          rw [decide_eq_true h3] at hv
          simp only [vec0] at hv
          simp only [runL, defL, binV, simprocAttr, List.drop, List.take, h1, h2, hv, errC0]
        · simp only [runL, defL, binV, simprocAttr, List.drop, List.take, h1, h2, errC0]
end
end Go.Proofs.YtggjhmbbbebfeaaGreatDoor.Ab
set_option linter.unusedVariables false
set_option linter.unusedSimpArgs false
namespace Go.Proofs.YtggjhmbbbebfeaaGreatDoor.Ab
open Go
structure Std3f (T : Tab) : Prop where
  b : Std3 T
  h80 : Std T 80 f80
  h90 : Std T 90 f90
  c : StdC T
section
variable {T : Tab}
theorem fair_loop (S : Std3f T) (s : Snap) (x : Spec) (hp : s.pods.length ≤ 2 ^ 30) (hx : x.wants.length ≤ 2 ^ 29) (Q : Exit → St → Prop) (o : Option (Int × Int))
    (hend : o = none → ∀ fr hp nx, Q (.exit 0) ⟨fr, hp, nx⟩)
    (hret : ∀ fr hp nx, retP [.t 4] ⟨fr, hp, nx⟩ = some (errG o) → Q .ret ⟨fr, hp, nx⟩) :
    ∀ (rest : List Want) (i : Nat) (prev : Option Want), x.wants.drop i = rest → i ≤ x.wants.length → ((i = 0 ∧ prev = none) ∨ ∃ j v, i = j + 1 ∧ prev = some v ∧ x.wants[j]? = some v) → wantsFrom s.pods prev i rest = o → ∀ (fr : List (Nat × AV)) (hp : Hl) (nx : Nat), 2 ≤ nx → look fr 2 = .ptr 0 0 0 → look fr 3 = .ptr 1 0 0 →
      blkAt hp 0 = .var [.pv (.slice (s.nodes.map nodeC)), .pv (.slice (s.loads.map loadC)), .pv (.slice (s.pods.map podC))] → blkAt hp 1 = .var [.pv (.slice (x.wants.map wantC)), .pv (.int .i64 x.pre), .pv (.int .i64 x.shi)] →
      look fr 34 = .pv (.int .i64 x.wants.length) → look fr 35 = .pv (.int .i64 i) → Wp T false (.loop f80l0) ⟨fr, hp, nx⟩ Q := by
  intro rest
  induction rest with
  | nil =>
    intro i prev hd hi hpv ho fr hp nx hnx g2 g3 b0 b1 h34 h35
    have hlen := drop_nil hd hi
    rw [Wp_loop, Wp_eq f80l0.eq_1]
    simp only [runL, defL, binV, simprocAttr, List.drop, List.take, h34, h35, hlen, Int.lt_irrefl]
    exact hend ho.symm _ _ _
  | cons w r ih =>
    intro i prev hd hi hpv ho fr hp nx hnx g2 g3 b0 b1 h34 h35
    obtain ⟨hget, hlt, hw, hd', hi', hbb⟩ := drop_cons hd (by omega)
    have n0 : ¬ nx = 0 := by omega
    have n1 : ¬ nx = 1 := by omega
    have k := want3_ok S.h90 S.c s (by assumption) x.wants i w prev hbb hget hpv
    simp only [snapP] at k
    simp only [wantsFrom] at ho
    rw [Wp_loop, Wp_eq f80l0.eq_1]
    by_cases hc : wantBad s.pods prev w = 0
    · rw [if_neg (by simpa using hc)] at ho
      rw [hc, errC0] at k
      simp only [runL, defL, binV, simprocAttr, List.drop, List.take, g2, g3, b0, b1, h34, h35, hlt, n0, n1, k.call, as_nilQ S.b.hA, hw]
      refine ih (i + 1) (some w) hd' hi' (.inr ⟨i, w, rfl, rfl, hget⟩) (by rw [← ho]; rfl) _ _ _ (by omega) ?_ ?_ ?_ ?_ ?_ ?_
      all_goals try simp only [look_if, blkAt_if, Nat.reduceEqDiff, if_true, if_false, g2, g3, n0, n1, b0, b1, h34]
    · rw [if_pos hc] at ho
      have hc' : errC (wantBad s.pods prev w) = .iface 0 (.int .i64 (wantBad s.pods prev w)) := if_neg hc
      rw [hc'] at k
      have hi0 : ¬ (i : Int) < 0 := by omega
      simp only [runL, defL, binV, simprocAttr, List.drop, List.take, g2, g3, b0, b1, h34, h35, hlt, n0, n1, k.call]
      refine (as_codeQ S.b.hA (o := 0) ?_).2 ?_
      · simp only [runL, defL, binV, simprocAttr, List.drop, List.take]
      · simp only [runL, defL, binV, simprocAttr, List.drop, List.take]
        refine hret _ _ _ ?_
        simp only [runL, defL, binV, simprocAttr, List.drop, List.take, ← ho, errG, hi0, spotE]
theorem fair3_ok (S : Std3f T) (s : Snap) (x : Spec) (hx : x.wants.length ≤ 2 ^ 29) : Gives T 80 [snapP s, specP x] (errG (fairB s x)) := by
  refine gives S.h80 rfl ?_
  have k := check3_ok S.b s
  simp only [snapP] at k
  unfold fairB
  cases hc : checkB s with
  | some e =>
    obtain ⟨c, a⟩ := e
    rw [hc] at k
    simp only [errG] at k ⊢
    by_cases ha : a < 0
    · rw [if_pos ha] at k ⊢
      simp only [codeE] at k
      simp only [f80, runL, defL, binV, simprocAttr, List.drop, List.take, snapP, specP, k.call, codeE]
    · rw [if_neg ha] at k ⊢
      simp only [spotE] at k
      simp only [f80, runL, defL, binV, simprocAttr, List.drop, List.take, snapP, specP, k.call, spotE]
  | none =>
    have hs : s.pods.length ≤ 2 ^ 30 := by
      unfold checkB at hc
      split at hc
      · rename_i hz
        simp only [sizesOK, Bool.and_eq_true, decide_eq_true_eq] at hz
        omega
      · simp at hc
    rw [hc] at k
    simp only [errG] at k
    simp only
    by_cases c1 : x.pre < 0
    · rw [if_neg (by omega)]
      simp only [f80, runL, defL, binV, simprocAttr, List.drop, List.take, snapP, specP, k.call, c1, errG, codeE]
    · by_cases c2 : 40 < x.pre
      · rw [if_neg (by omega)]
        simp only [f80, runL, defL, binV, simprocAttr, List.drop, List.take, snapP, specP, k.call, c1, c2, errG, codeE]
      · by_cases c3 : x.shi < 0
        · rw [if_neg (by omega)]
          simp only [f80, runL, defL, binV, simprocAttr, List.drop, List.take, snapP, specP, k.call, c1, c2, c3, errG, codeE]
        · by_cases c4 : 40 < x.shi
          · rw [if_neg (by omega)]
            simp only [f80, runL, defL, binV, simprocAttr, List.drop, List.take, snapP, specP, k.call, c1, c2, c3, c4, errG, codeE]
          · rw [if_pos (by omega)]
            simp only [f80, runL, defL, binV, simprocAttr, List.drop, List.take, snapP, specP, k.call, c1, c2, c3, c4]
            refine fair_loop S s x hs hx _ (wantsFrom s.pods none 0 x.wants) (fun ho fr hp nx => ?_) (fun fr hp nx hr => ?_) x.wants 0 none rfl (Nat.zero_le _) (.inl ⟨rfl, rfl⟩) rfl _ _ _ (Nat.le_refl _) rfl rfl rfl rfl rfl rfl
            · simp only [runL, defL, binV, simprocAttr, List.drop, List.take, ho, errG]
            · simp only [blkQ_ret, seqQ_ret, RetP, hr]
end
end Go.Proofs.YtggjhmbbbebfeaaGreatDoor.Ab
set_option linter.unusedVariables false
set_option linter.unusedSimpArgs false
namespace Go.Proofs.YtggjhmbbbebfeaaGreatDoor.Ab
open Go
/-! ### Moves -/
def formB (m : Move) : Bool := if m.kind = 2 then decide (m.node = 0) && decide (m.over = 0) else if m.kind = 1 ∨ m.kind = 3 then decide (m.over = 0) else decide (m.kind = 4)
theorem form_ok {T : Tab} (h243 : Std T 243 f243) (m : Move) : Gives T 243 [moveP m] (.bool (formB m)) := by
  refine gives h243 rfl ?_
  unfold formB
  by_cases k2 : m.kind = 2
  · by_cases n0 : m.node = 0 <;> by_cases o0 : m.over = 0 <;> simp only [f243, runL, defL, binV, simprocAttr, List.drop, List.take, lenV, funV, moveP, moveC, k2, n0, o0, Bool.and_true, Bool.and_false, Bool.false_and]
  · by_cases k1 : m.kind = 1
    · by_cases o0 : m.over = 0 <;> simp only [f243, runL, defL, binV, simprocAttr, List.drop, List.take, lenV, funV, moveP, moveC, k1, o0, true_or]
    · by_cases k3 : m.kind = 3
      · by_cases o0 : m.over = 0 <;> simp only [f243, runL, defL, binV, simprocAttr, List.drop, List.take, lenV, funV, moveP, moveC, k3, o0, or_true]
      · by_cases k4 : m.kind = 4 <;> simp only [f243, runL, defL, binV, simprocAttr, List.drop, List.take, lenV, funV, moveP, moveC, k1, k2, k3, k4, or_false]
def comeS (x : Spec) (p : Pod) (node : Int) : Pod := match wantOf p.id x.wants with
  | some w => if w.stay = true then { p with node := node, req := w.req } else { p with node := node }
  | none => { p with node := node }
theorem come_ok {T : Tab} (h242 : StdR T 242 f242) (h83 : Std T 83 f83) (x : Spec) (hx : x.wants.length ≤ 2 ^ 30) (pods : List Pod) (i id : Nat) (p : Pod) (hi : pods[i]? = some p) (node : Int) (hp : Hl) (nx : Nat) (hid : id < nx) (hb : blkAt hp id = .row 8 (pods.map podC)) :
    ∃ v hp' nx', D T 242 [.pv (specP x), .ptr id i 0, .pv (.int .i64 node)] hp nx = some (v, hp', nx') ∧ nx ≤ nx' ∧ blkAt hp' id = .row 8 ((pods.set i (comeS x p node)).map podC) ∧ ∀ j, j < nx → j ≠ id → blkAt hp' j = blkAt hp j := by
  refine D_wp h242 rfl ?_
  have k := want_ok h83 x p.id hx
  have e1 : ¬ id = nx := by omega
  have e2 : ¬ nx = id := by omega
  have hset : (pods.map podC)[i]? = some (podC p) := by rw [List.getElem?_map, hi]; rfl
  simp only [f242, runL, defL, binV, simprocAttr, List.drop, List.take, lenV, funV, specP, hb, e2, hi, podC]
  refine Wp_draw.2 ?_
  have g1 : ∀ v : List PV, ((pods.map podC).set i v)[i]? = some v := fun v => by
    have : i < (pods.map podC).length := (List.getElem?_eq_some_iff.1 hset).1
    rw [List.getElem?_set_self this]
  have g2 : ∀ u v : List PV, (((pods.map podC).set i u).set i v) = (pods.map podC).set i v := fun u v => List.set_set ..
  have g3 : ∀ q : Pod, (pods.map podC).set i (podC q) = (pods.set i q).map podC := fun q => (List.map_set).symm
  have e3 : ¬ nx + 1 = id := by omega
  have e4 : ¬ id = nx + 1 := by omega
  cases hw : wantOf p.id x.wants with
  | none =>
    rw [hw] at k
    simp only [runL, defL, binV, simprocAttr, List.drop, List.take, lenV, funV, specP, hb, e1, e2, e3, e4, hi, podC, g1, k.callE, wantR, wantC, want0]
    refine ⟨?_, ?_⟩
    · simp only [chkFrom, allLt, storeB', restOK, mem, indepB, En.reads, aTmps, aTmpsL, aTmpsP, aTmpsO, gTmps, AO.tmps, disj, keys, optL, rdEv, idOf, List.reverse_cons, List.reverse_nil, List.nil_append, List.cons_append, List.append_nil, runL, defL, binV, simprocAttr, List.drop, List.take, lenV, funV, e1, e2, e3, e4, Bool.and_true, Bool.true_and]; rfl
    · simp only [RawQ, rawq, runL, defL, binV, simprocAttr, List.drop, List.take, lenV, funV, blkAt_if, e1, e2, e3, e4]
      refine ⟨by omega, ?_, fun j hj hne => ?_⟩
      · rw [← g3]; simp only [comeS, hw, podC]
      · have : ¬ nx + 1 = j := by omega
        have : ¬ nx = j := by omega
        have : ¬ id = j := fun h => hne h.symm
        simp only [blkAt_if, *, if_false]
  | some w =>
    rw [hw] at k
    cases hst : w.stay
    · simp only [runL, defL, binV, simprocAttr, List.drop, List.take, lenV, funV, specP, hb, e1, e2, e3, e4, hi, podC, g1, k.callE, wantR, wantC, hst]
      refine ⟨?_, ?_⟩
      · simp only [chkFrom, allLt, storeB', restOK, mem, indepB, En.reads, aTmps, aTmpsL, aTmpsP, aTmpsO, gTmps, AO.tmps, disj, keys, optL, rdEv, idOf, List.reverse_cons, List.reverse_nil, List.nil_append, List.cons_append, List.append_nil, runL, defL, binV, simprocAttr, List.drop, List.take, lenV, funV, e1, e2, e3, e4, Bool.and_true, Bool.true_and]; rfl
      · simp only [RawQ, rawq, runL, defL, binV, simprocAttr, List.drop, List.take, lenV, funV, blkAt_if, e1, e2, e3, e4]
        refine ⟨by omega, ?_, fun j hj hne => ?_⟩
        · rw [← g3]; simp only [comeS, hw, podC, hst, Bool.false_eq_true, if_false]
        · have : ¬ nx + 1 = j := by omega
          have : ¬ nx = j := by omega
          have : ¬ id = j := fun h => hne h.symm
          simp only [blkAt_if, *, if_false]
    · simp only [runL, defL, binV, simprocAttr, List.drop, List.take, lenV, funV, specP, hb, e1, e2, e3, e4, hi, podC, g1, k.callE, wantR, wantC, hst]
      refine ⟨?_, ?_⟩
      · simp only [chkFrom, allLt, storeB', restOK, mem, indepB, En.reads, aTmps, aTmpsL, aTmpsP, aTmpsO, gTmps, AO.tmps, disj, keys, optL, rdEv, idOf, List.reverse_cons, List.reverse_nil, List.nil_append, List.cons_append, List.append_nil, runL, defL, binV, simprocAttr, List.drop, List.take, lenV, funV, e1, e2, e3, e4, Bool.and_true, Bool.true_and]; rfl
      · simp only [RawQ, rawq, runL, defL, binV, simprocAttr, List.drop, List.take, lenV, funV, blkAt_if, e1, e2, e3, e4]
        refine ⟨by omega, ?_, fun j hj hne => ?_⟩
        · rw [← g3, g2]; simp only [comeS, hw, podC, hst, if_true]
        · have : ¬ nx + 1 = j := by omega
          have : ¬ nx = j := by omega
          have : ¬ id = j := fun h => hne h.symm
          simp only [blkAt_if, *, if_false]
theorem Cln.callN {T : Tab} {n sz : Nat} (S : Cln T n sz) {es : List (List PV)} (h : allLen sz es = true) (hl : es.length ≤ 2 ^ 30) (hne : es ≠ []) (d : Option Nat) (l : List AOper) (st : St) (K : St → Prop) :
    callQ T n [.pv (.slice es)] d l st K ↔ WpO T l ⟨putS st d (.ms st.nx), (st.nx, .row sz es) :: st.hp, st.nx + 1⟩ K := by
  rw [S.call h hl]
  cases es with
  | nil => exact absurd rfl hne
  | cons e r => exact Iff.rfl
theorem come_call {T : Tab} (h242 : StdR T 242 f242) (h83 : Std T 83 f83) (x : Spec) (hx : x.wants.length ≤ 2 ^ 30) (pods : List Pod) (i id : Nat) (p : Pod) (hi : pods[i]? = some p) (node : Int) {d : Option Nat} {l : List AOper} {st : St} {K : St → Prop}
    (hid : id < st.nx) (hb : blkAt st.hp id = .row 8 (pods.map podC))
    (h : ∀ v hp' nx', st.nx ≤ nx' → blkAt hp' id = .row 8 ((pods.set i (comeS x p node)).map podC) → (∀ j, j < st.nx → j ≠ id → blkAt hp' j = blkAt st.hp j) → WpO T l ⟨putS st d v, hp', nx'⟩ K) :
    callQ T 242 [.pv (specP x), .ptr id i 0, .pv (.int .i64 node)] d l st K := by
  obtain ⟨v, hp', nx', hD, h1, h2, h3⟩ := come_ok h242 h83 x hx pods i id p hi node st.hp st.nx hid hb
  exact (callQ_raw h242.raw hD).2 (h v hp' nx' h1 h2 h3)
def makeS (s : Snap) (x : Spec) (t : State) (m : Move) : Int ⊕ State :=
  if formB m = false then .inl 1 else
  if placeFrom m.pod 0 t.pods < 0 then .inl 4 else
  if m.kind ≠ 2 ∧ nodeOf m.node s.nodes = none then .inl 4 else
  if m.kind = 4 ∧ placeFrom m.over 0 t.pods < 0 then .inl 4 else
  match t.pods[(placeFrom m.pod 0 t.pods).toNat]? with
  | none => .inl 0
  | some p =>
    if m.kind = 2 then (if p.node = 0 then .inl 7 else .inr ⟨t.pods.set (placeFrom m.pod 0 t.pods).toNat { p with node := 0 }, t.pre, t.shi⟩)
    else if m.kind = 3 then (if p.node = 0 then .inl 7 else if p.node = m.node then .inl 7 else .inr ⟨t.pods.set (placeFrom m.pod 0 t.pods).toNat (comeS x p m.node), t.pre, IntKind.i64.wrap (t.shi + 1)⟩)
    else if m.kind = 4 then
      match t.pods[(placeFrom m.over 0 t.pods).toNat]? with
      | none => .inl 0
      | some q => if (placeFrom m.pod 0 t.pods).toNat = (placeFrom m.over 0 t.pods).toNat then .inl 7 else if q.node ≠ m.node then .inl 7 else if p.node ≠ 0 then .inl 7
        else .inr ⟨(t.pods.set (placeFrom m.over 0 t.pods).toNat { q with node := 0 }).set (placeFrom m.pod 0 t.pods).toNat (comeS x p m.node), IntKind.i64.wrap (t.pre + 1), t.shi⟩
    else if p.node ≠ 0 then .inl 7 else .inr ⟨t.pods.set (placeFrom m.pod 0 t.pods).toNat (comeS x p m.node), t.pre, t.shi⟩
def makeR : Int ⊕ State → PV
  | .inl c => .tuple [stateP ⟨[], 0, 0⟩, codeE c]
  | .inr u => .tuple [stateP u, .nili]
structure StdM (T : Tab) : Prop where
  s5 : Std5 T
  h82 : Std T 82 f82
  h83 : Std T 83 f83
  h239 : Std T 239 f239
  h242 : StdR T 242 f242
  h243 : Std T 243 f243
  h279 : Cln T 279 8
set_option maxRecDepth 100000 in
set_option maxHeartbeats 4000000 in
theorem make_ok {T : Tab} (S : StdM T) (s : Snap) (x : Spec) (t : State) (m : Move) (hs : s.nodes.length ≤ 2 ^ 30) (hx : x.wants.length ≤ 2 ^ 30) (ht : t.pods.length ≤ 2 ^ 30) :
    Gives T 239 [snapP s, specP x, stateP t, moveP m] (makeR (makeS s x t m)) := by
  refine gives S.h239 rfl ?_
  have kp := place5_ok S.s5 t m.pod ht
  have ko := place5_ok S.s5 t m.over ht
  have kn := node_ok S.h82 s m.node hs
  have kf := form_ok S.h243 m
  simp only [stateP] at kp ko
  simp only [snapP] at kn
  simp only [moveP, moveC] at kf
  simp only [f239, runL, defL, binV, simprocAttr, List.drop, List.take, lenV, funV, snapP, specP, stateP, moveP, moveC]
  refine (Wp_calm rfl).2 ?_
  obtain ⟨N, hN⟩ : ∃ N : Node, nodeR (nodeOf m.node s.nodes) = .tuple [.agg (nodeC N), .bool (nodeOf m.node s.nodes).isSome] := by
    cases nodeOf m.node s.nodes with
    | none => exact ⟨node0, rfl⟩
    | some n => exact ⟨n, rfl⟩
  rw [hN] at kn
  simp only [nodeC] at kn
  cases hform : formB m
  · have hm : makeS s x t m = .inl 1 := by unfold makeS; rw [if_pos hform]
    rw [hform] at kf
    simp only [runL, defL, binV, simprocAttr, List.drop, List.take, lenV, funV, kp.callD, ko.callD, kn.call, kf.call, hm, makeR, codeE, stateP, List.map_nil]
  · rw [hform] at kf
    have hnf : ¬ (formB m = false) := by rw [hform]; simp
    by_cases hi : placeFrom m.pod 0 t.pods < 0
    · have hm : makeS s x t m = .inl 4 := by unfold makeS; rw [if_neg hnf, if_pos hi]
      simp only [runL, defL, binV, simprocAttr, List.drop, List.take, lenV, funV, kp.callD, ko.callD, kn.call, kf.call, hm, makeR, codeE, stateP, List.map_nil, hi]
    · obtain ⟨j, p, hget, hP, hj⟩ : ∃ (j : Nat) (p : Pod), t.pods[j]? = some p ∧ placeFrom m.pod 0 t.pods = (j : Int) ∧ j < t.pods.length := by
        rcases placeFrom_cases m.pod t.pods 0 with ⟨_, h⟩ | ⟨j, p, h1, _, h3, h4⟩
        · omega
        · exact ⟨j, p, h1, by rw [h3, Nat.zero_add], h4⟩
      have hne : t.pods.map podC ≠ [] := by
        intro h
        rw [List.map_eq_nil_iff] at h
        rw [h] at hj
        simp at hj
      have hj0 : ¬ ((j : Int) < 0) := by omega
      have hset : (t.pods.map podC)[j]? = some (podC p) := by rw [List.getElem?_map, hget]; rfl
      have hlen : (t.pods.map podC).length ≤ 2 ^ 30 := by rw [List.length_map]; exact ht
      have hjl : j < t.pods.length := hj
      have g3 : ∀ (i : Nat) (q : Pod), (t.pods.map podC).set i (podC q) = (t.pods.set i q).map podC := fun i q => (List.map_set).symm
      by_cases k2 : m.kind = 2
      · by_cases c1 : p.node = 0
        · have hm : makeS s x t m = .inl 7 := by
            unfold makeS
            rw [if_neg hnf, if_neg hi, if_neg (by simp [k2]), if_neg (by simp [k2]), hP]
            simp only [Int.toNat_natCast, hget, k2, if_true, c1]
          simp only [runL, defL, binV, simprocAttr, List.drop, List.take, lenV, funV, kp.callD, ko.callD, kn.call, kf.call, hP, hj0, k2, hget, podC]
          rw [S.h279.callN (allLen_pods _) hlen hne]
          simp only [runL, defL, binV, simprocAttr, List.drop, List.take, lenV, funV, hget, podC, hm, makeR, codeE, stateP, List.map_nil, hjl, k2, c1]
        · have hm : makeS s x t m = .inr ⟨t.pods.set j { p with node := 0 }, t.pre, t.shi⟩ := by
            unfold makeS
            rw [if_neg hnf, if_neg hi, if_neg (by simp [k2]), if_neg (by simp [k2]), hP]
            simp only [Int.toNat_natCast, hget, k2, if_true, c1, if_false]
          have e1 := g3 j { p with node := 0 }
          simp only [podC] at e1
          simp only [runL, defL, binV, simprocAttr, List.drop, List.take, lenV, funV, kp.callD, ko.callD, kn.call, kf.call, hP, hj0, k2, hget, podC]
          rw [S.h279.callN (allLen_pods _) hlen hne]
          simp only [runL, defL, binV, simprocAttr, List.drop, List.take, lenV, funV, hget, podC, hm, makeR, codeE, stateP, hjl, k2, c1]
          rw [e1]
      · cases hno : nodeOf m.node s.nodes with
        | none =>
          have hm : makeS s x t m = .inl 4 := by
            unfold makeS
            rw [if_neg hnf, if_neg hi, if_pos ⟨k2, hno⟩]
          rw [hno] at kn
          simp only [Option.isSome_none] at kn
          simp only [runL, defL, binV, simprocAttr, List.drop, List.take, lenV, funV, kp.callD, ko.callD, kn.call, kf.call, hP, hj0, k2, hm, makeR, codeE, stateP, List.map_nil]
        | some nn =>
          rw [hno] at kn
          simp only [Option.isSome_some] at kn
          have hnn : ¬ (m.kind ≠ 2 ∧ nodeOf m.node s.nodes = none) := by rw [hno]; simp
          by_cases k4 : m.kind = 4
          · by_cases hov : placeFrom m.over 0 t.pods < 0
            · have hm : makeS s x t m = .inl 4 := by
                unfold makeS
                rw [if_neg hnf, if_neg hi, if_neg hnn, if_pos ⟨k4, hov⟩]
              simp only [runL, defL, binV, simprocAttr, List.drop, List.take, lenV, funV, kp.callD, ko.callD, kn.call, kf.call, hP, hj0, k4, hov, hm, makeR, codeE, stateP, List.map_nil]
            · obtain ⟨k, q, hgk, hK, hk⟩ : ∃ (k : Nat) (q : Pod), t.pods[k]? = some q ∧ placeFrom m.over 0 t.pods = (k : Int) ∧ k < t.pods.length := by
                rcases placeFrom_cases m.over t.pods 0 with ⟨_, h⟩ | ⟨k, q, h1, _, h3, h4⟩
                · omega
                · exact ⟨k, q, h1, by rw [h3, Nat.zero_add], h4⟩
              have hk0 : ¬ ((k : Int) < 0) := by omega
              have hno4 : ¬ (m.kind = 4 ∧ placeFrom m.over 0 t.pods < 0) := fun h => hov h.2
              by_cases c0 : j = k
              · have hm : makeS s x t m = .inl 7 := by
                  unfold makeS
                  rw [if_neg hnf, if_neg hi, if_neg hnn, if_neg hno4, hP, hK]
                  subst c0
                  simp [hget, k4]
                simp only [runL, defL, binV, simprocAttr, List.drop, List.take, lenV, funV, kp.callD, ko.callD, kn.call, kf.call, hP, hK, hj0, hk0, k4, hget, podC]
                rw [S.h279.callN (allLen_pods _) hlen hne]
                simp only [runL, defL, binV, simprocAttr, List.drop, List.take, lenV, funV, hget, podC, hjl, k4]
                refine (Wp_calm rfl).2 ?_
                simp only [runL, defL, binV, simprocAttr, List.drop, List.take, lenV, funV, hget, podC, hm, makeR, codeE, stateP, List.map_nil, hjl, k4, c0]
              · by_cases c1 : q.node = m.node
                · by_cases c2 : p.node = 0
                  · have hm : makeS s x t m = .inr ⟨(t.pods.set k { q with node := 0 }).set j (comeS x p m.node), IntKind.i64.wrap (t.pre + 1), t.shi⟩ := by
                      unfold makeS
                      rw [if_neg hnf, if_neg hi, if_neg hnn, if_neg hno4, hP, hK]
                      simp [hget, hgk, k4, c0, c1, c2]
                    have e1 := g3 k { q with node := 0 }
                    simp only [podC] at e1
                    have hget' : (t.pods.set k { q with node := 0 })[j]? = some p := by rw [List.getElem?_set_ne (fun h => c0 h.symm)]; exact hget
                    simp only [runL, defL, binV, simprocAttr, List.drop, List.take, lenV, funV, kp.callD, ko.callD, kn.call, kf.call, hP, hK, hj0, hk0, k4, hget, podC]
                    rw [S.h279.callN (allLen_pods _) hlen hne]
                    simp only [runL, defL, binV, simprocAttr, List.drop, List.take, lenV, funV, hget, podC, hjl, k4]
                    refine (Wp_calm rfl).2 ?_
                    simp only [runL, defL, binV, simprocAttr, List.drop, List.take, lenV, funV, hget, hgk, podC, hjl, hk, k4, c0, c1, c2, e1]
                    refine come_call S.h242 S.h83 x hx (t.pods.set k { q with node := 0 }) j _ p hget' m.node ?_ ?_ (fun v hp' nx' q1 q2 q3 => ?_)
                    · show 6 < 7
                      decide
                    · rfl
                    · have d2 := q3 2 (show 2 < 7 by decide) (by decide)
                      have d4 := q3 4 (show 4 < 7 by decide) (by decide)
                      simp only [blkAt_if, Nat.reduceEqDiff, if_true, if_false] at d2 d4
                      simp only [runL, defL, binV, simprocAttr, List.drop, List.take, lenV, funV, q2, d2, d4, hm, makeR, stateP]
                  · have hm : makeS s x t m = .inl 7 := by
                      unfold makeS
                      rw [if_neg hnf, if_neg hi, if_neg hnn, if_neg hno4, hP, hK]
                      simp [hget, hgk, k4, c0, c1, c2]
                    simp only [runL, defL, binV, simprocAttr, List.drop, List.take, lenV, funV, kp.callD, ko.callD, kn.call, kf.call, hP, hK, hj0, hk0, k4, hget, podC]
                    rw [S.h279.callN (allLen_pods _) hlen hne]
                    simp only [runL, defL, binV, simprocAttr, List.drop, List.take, lenV, funV, hget, podC, hjl, k4]
                    refine (Wp_calm rfl).2 ?_
                    simp only [runL, defL, binV, simprocAttr, List.drop, List.take, lenV, funV, hget, hgk, podC, hm, makeR, codeE, stateP, List.map_nil, hjl, hk, k4, c0, c1, c2]
                · have hm : makeS s x t m = .inl 7 := by
                    unfold makeS
                    rw [if_neg hnf, if_neg hi, if_neg hnn, if_neg hno4, hP, hK]
                    simp [hget, hgk, k4, c0, c1]
                  simp only [runL, defL, binV, simprocAttr, List.drop, List.take, lenV, funV, kp.callD, ko.callD, kn.call, kf.call, hP, hK, hj0, hk0, k4, hget, podC]
                  rw [S.h279.callN (allLen_pods _) hlen hne]
                  simp only [runL, defL, binV, simprocAttr, List.drop, List.take, lenV, funV, hget, podC, hjl, k4]
                  refine (Wp_calm rfl).2 ?_
                  simp only [runL, defL, binV, simprocAttr, List.drop, List.take, lenV, funV, hget, hgk, podC, hm, makeR, codeE, stateP, List.map_nil, hjl, hk, k4, c0, c1]
          · by_cases k3 : m.kind = 3
            · by_cases c1 : p.node = 0
              · have hm : makeS s x t m = .inl 7 := by
                  unfold makeS
                  rw [if_neg hnf, if_neg hi, if_neg hnn, if_neg (by simp [k4]), hP]
                  simp [hget, k3, c1]
                simp only [runL, defL, binV, simprocAttr, List.drop, List.take, lenV, funV, kp.callD, ko.callD, kn.call, kf.call, hP, hj0, k3, hget, podC]
                rw [S.h279.callN (allLen_pods _) hlen hne]
                simp only [runL, defL, binV, simprocAttr, List.drop, List.take, lenV, funV, hget, podC, hm, makeR, codeE, stateP, List.map_nil, hjl, k3, c1]
              · by_cases c2 : p.node = m.node
                · have hm : makeS s x t m = .inl 7 := by
                    unfold makeS
                    rw [if_neg hnf, if_neg hi, if_neg hnn, if_neg (by simp [k4]), hP]
                    simp [hget, k3, c2]
                  rw [c2] at c1
                  simp only [runL, defL, binV, simprocAttr, List.drop, List.take, lenV, funV, kp.callD, ko.callD, kn.call, kf.call, hP, hj0, k3, hget, podC]
                  rw [S.h279.callN (allLen_pods _) hlen hne]
                  simp only [runL, defL, binV, simprocAttr, List.drop, List.take, lenV, funV, hget, podC, hm, makeR, codeE, stateP, List.map_nil, hjl, k3, c1, c2]
                · have hm : makeS s x t m = .inr ⟨t.pods.set j (comeS x p m.node), t.pre, IntKind.i64.wrap (t.shi + 1)⟩ := by
                    unfold makeS
                    rw [if_neg hnf, if_neg hi, if_neg hnn, if_neg (by simp [k4]), hP]
                    simp [hget, k3, c1, c2]
                  simp only [runL, defL, binV, simprocAttr, List.drop, List.take, lenV, funV, kp.callD, ko.callD, kn.call, kf.call, hP, hj0, k3, hget, podC]
                  rw [S.h279.callN (allLen_pods _) hlen hne]
                  simp only [runL, defL, binV, simprocAttr, List.drop, List.take, lenV, funV, hget, podC, hjl, k3, c1, c2]
                  refine come_call S.h242 S.h83 x hx t.pods j _ p hget m.node ?_ ?_ (fun v hp' nx' q1 q2 q3 => ?_)
                  · show 6 < 7
                    decide
                  · rfl
                  · have d2 := q3 2 (show 2 < 7 by decide) (by decide)
                    have d4 := q3 4 (show 4 < 7 by decide) (by decide)
                    simp only [blkAt_if, Nat.reduceEqDiff, if_true, if_false] at d2 d4
                    simp only [runL, defL, binV, simprocAttr, List.drop, List.take, lenV, funV, q2, d2, d4, hm, makeR, stateP]
            · by_cases c1 : p.node = 0
              · have hm : makeS s x t m = .inr ⟨t.pods.set j (comeS x p m.node), t.pre, t.shi⟩ := by
                  unfold makeS
                  rw [if_neg hnf, if_neg hi, if_neg hnn, if_neg (by simp [k4]), hP]
                  simp [hget, k2, k3, k4, c1]
                simp only [runL, defL, binV, simprocAttr, List.drop, List.take, lenV, funV, kp.callD, ko.callD, kn.call, kf.call, hP, hj0, k2, k3, k4, hget, podC]
                rw [S.h279.callN (allLen_pods _) hlen hne]
                simp only [runL, defL, binV, simprocAttr, List.drop, List.take, lenV, funV, hget, podC, hjl, k2, k3, k4, c1]
                refine come_call S.h242 S.h83 x hx t.pods j _ p hget m.node ?_ ?_ (fun v hp' nx' q1 q2 q3 => ?_)
                · show 6 < 7
                  decide
                · rfl
                · have d2 := q3 2 (show 2 < 7 by decide) (by decide)
                  have d4 := q3 4 (show 4 < 7 by decide) (by decide)
                  simp only [blkAt_if, Nat.reduceEqDiff, if_true, if_false] at d2 d4
                  simp only [runL, defL, binV, simprocAttr, List.drop, List.take, lenV, funV, q2, d2, d4, hm, makeR, stateP]
              · have hm : makeS s x t m = .inl 7 := by
                  unfold makeS
                  rw [if_neg hnf, if_neg hi, if_neg hnn, if_neg (by simp [k4]), hP]
                  simp [hget, k2, k3, k4, c1]
                simp only [runL, defL, binV, simprocAttr, List.drop, List.take, lenV, funV, kp.callD, ko.callD, kn.call, kf.call, hP, hj0, k2, k3, k4, hget, podC]
                rw [S.h279.callN (allLen_pods _) hlen hne]
                simp only [runL, defL, binV, simprocAttr, List.drop, List.take, lenV, funV, hget, podC, hm, makeR, codeE, stateP, List.map_nil, hjl, k2, k3, k4, c1]
end Go.Proofs.YtggjhmbbbebfeaaGreatDoor.Ab
set_option linter.unusedVariables false
set_option linter.unusedSimpArgs false
namespace Go.Proofs.YtggjhmbbbebfeaaGreatDoor.Ab
open Go
def nearL (k : Nat) (l l' : List Pod) : Prop := ∀ s load z, cntZ s load z l' ≤ cntZ s load z l + k ∧ cntZ s load z l ≤ cntZ s load z l' + k
theorem near_set : ∀ (l : List Pod) (i : Nat) (q : Pod), nearL 1 l (l.set i q)
  | [], i, q => fun s load z => by simp
  | a :: r, 0, q => fun s load z => by
    simp only [List.set_cons_zero, cntZ]
    split <;> split <;> omega
  | a :: r, i + 1, q => fun s load z => by
    have := near_set r i q s load z
    simp only [List.set_cons_succ, cntZ]
    omega
theorem near_set2 (l : List Pod) (i j : Nat) (p q : Pod) : nearL 2 l ((l.set i p).set j q) := fun s load z => by
  have h1 := near_set l i p s load z
  have h2 := near_set (l.set i p) j q s load z
  omega
theorem near_moves (s : Snap) (x : Spec) (t u : State) (m : Move) (h : makeS s x t m = .inr u) : nearL (if m.kind = 4 then 2 else 1) t.pods u.pods ∧ u.pods.length = t.pods.length := by
  unfold makeS at h
  split at h
  · simp at h
  · split at h
    · simp at h
    · split at h
      · simp at h
      · split at h
        · simp at h
        · split at h
          · simp at h
          · rename_i p hp
            by_cases k2 : m.kind = 2
            · rw [if_pos k2] at h
              split at h
              · simp at h
              · simp only [Sum.inr.injEq] at h
                subst h
                have k4 : ¬ m.kind = 4 := by omega
                rw [if_neg k4]
                exact ⟨near_set _ _ _, by simp⟩
            · rw [if_neg k2] at h
              split at h
              · rename_i k3
                have k4 : ¬ m.kind = 4 := by omega
                rw [if_neg k4]
                split at h
                · simp at h
                · split at h
                  · simp at h
                  · simp only [Sum.inr.injEq] at h
                    subst h
                    exact ⟨near_set _ _ _, by simp⟩
              · split at h
                · rename_i k4
                  rw [if_pos k4]
                  split at h
                  · simp at h
                  · split at h
                    · simp at h
                    · split at h
                      · simp at h
                      · split at h
                        · simp at h
                        · simp only [Sum.inr.injEq] at h
                          subst h
                          exact ⟨near_set2 _ _ _ _ _, by simp⟩
                · rename_i k4
                  rw [if_neg k4]
                  split at h
                  · simp at h
                  · simp only [Sum.inr.injEq] at h
                    subst h
                    exact ⟨near_set _ _ _, by simp⟩
end Go.Proofs.YtggjhmbbbebfeaaGreatDoor.Ab
set_option linter.unusedVariables false
namespace Go.Proofs.YtggjhmbbbebfeaaGreatDoor.Ab
open Go
def f166 : AFunc := ⟨188, [.cell 8 true 3, .t 9],
 (.seq (.ops [
   ⟨some 4, .box (.t 0), none, []⟩,
   ⟨some 5, .box (.t 1), none, []⟩,
   ⟨some 6, .box (.t 2), none, []⟩,
   ⟨some 7, .box (.t 3), none, []⟩,
   ⟨some 8, .alloc [.nils, (.pv (.int .i64 0)), (.pv (.int .i64 0))], none, []⟩,
   ⟨some 9, .mv (.c (.pv (.int .i64 0))), none, []⟩])
  (.seq (.seq (.ops [
   ⟨some 16, .fieldAddr 0 (.t 7), none, []⟩,
   ⟨some 17, .load false 1 (.t 16), none, [0]⟩,
   ⟨some 18, .bin .lss none (.t 17) (.c (.pv (.int .i64 1))), none, [1]⟩,
   ⟨some 19, .mv (.t 18), none, [2]⟩,
   ⟨some 20, .fieldAddr 0 (.t 7), some (19, false), [3]⟩,
   ⟨some 21, .load false 1 (.t 20), some (19, false), [4, 3]⟩,
   ⟨some 22, .bin .gtr none (.t 21) (.c (.pv (.int .i64 4))), some (19, false), [5, 3]⟩,
   ⟨some 23, .pick (.t 19) (.c (.pv (.bool true))) (.t 22), none, [3, 6]⟩,
   ⟨some 24, .mv (.t 23), none, [7, 3]⟩,
   ⟨some 25, .fieldAddr 0 (.t 7), some (24, false), [8]⟩,
   ⟨some 26, .load false 1 (.t 25), some (24, false), [9, 8]⟩,
   ⟨some 27, .bin .neq none (.t 26) (.c (.pv (.int .i64 4))), some (24, false), [10, 8]⟩,
   ⟨some 28, .mv (.t 27), some (24, false), [11, 8, 8]⟩,
   ⟨some 29, .fieldAddr 3 (.t 7), some (28, true), [12]⟩,
   ⟨some 30, .load false 1 (.t 29), some (28, true), [13, 12]⟩,
   ⟨some 31, .bin .neq none (.t 30) (.c (.pv (.int .i64 0))), some (28, true), [14, 12]⟩,
   ⟨some 32, .pick (.t 28) (.t 31) (.c (.pv (.bool false))), some (24, false), [12, 15, 8]⟩,
   ⟨some 33, .pick (.t 24) (.c (.pv (.bool true))) (.t 32), none, [8, 16]⟩,
   ⟨some 34, .mv (.t 33), none, [17, 12]⟩,
   ⟨some 35, .fieldAddr 0 (.t 7), some (34, false), [18]⟩,
   ⟨some 36, .load false 1 (.t 35), some (34, false), [19, 18]⟩,
   ⟨some 37, .bin .eql none (.t 36) (.c (.pv (.int .i64 2))), some (34, false), [20, 18]⟩,
   ⟨some 38, .mv (.t 37), some (34, false), [21, 18, 18]⟩,
   ⟨some 39, .fieldAddr 2 (.t 7), some (38, true), [22]⟩,
   ⟨some 40, .load false 1 (.t 39), some (38, true), [23, 22]⟩,
   ⟨some 41, .bin .neq none (.t 40) (.c (.pv (.int .i64 0))), some (38, true), [24, 22]⟩,
   ⟨some 42, .pick (.t 38) (.t 41) (.c (.pv (.bool false))), some (34, false), [22, 25, 18]⟩,
   ⟨some 43, .pick (.t 34) (.c (.pv (.bool true))) (.t 42), none, [18, 26]⟩])
  (.cond (.t 43)
   (.seq (.ops [
     ⟨some 44, .build [.nils, (.pv (.int .i64 0)), (.pv (.int .i64 0))] [], none, []⟩,
     ⟨none, .store 3 (.t 8) (.t 44), none, [0, 0]⟩,
     ⟨some 9, .mv (.c (.pv (.int .i64 1))), none, [1, 0, 1]⟩])
    .ret)
   .skip))
  (.seq (.ops [
   ⟨some 45, .load true 3 (.t 6), none, []⟩,
   ⟨some 46, .fieldAddr 1 (.t 7), none, []⟩,
   ⟨some 47, .load false 1 (.t 46), none, [1]⟩,
   ⟨some 48, .call 167 [(.t 45), (.t 47)], none, [0, 2]⟩,
   ⟨some 10, .mv (.t 48), none, [3, 3, 0, 1, 2, 3]⟩])
  (.seq (.ops [
   ⟨some 49, .load true 3 (.t 6), none, []⟩,
   ⟨some 50, .fieldAddr 3 (.t 7), none, []⟩,
   ⟨some 51, .load false 1 (.t 50), none, [1]⟩,
   ⟨some 52, .call 167 [(.t 49), (.t 51)], none, [0, 2]⟩,
   ⟨some 11, .mv (.t 52), none, [3, 3, 0, 1, 2, 3]⟩])
  (.seq (.seq (.ops [
   ⟨some 53, .mv (.t 10), none, []⟩,
   ⟨some 54, .bin .lss none (.t 53) (.c (.pv (.int .i64 0))), none, [0]⟩,
   ⟨some 55, .mv (.t 54), none, [1]⟩,
   ⟨some 56, .fieldAddr 0 (.t 7), some (55, false), [2]⟩,
   ⟨some 57, .load false 1 (.t 56), some (55, false), [3, 2]⟩,
   ⟨some 58, .bin .neq none (.t 57) (.c (.pv (.int .i64 2))), some (55, false), [4, 2]⟩,
   ⟨some 59, .mv (.t 58), some (55, false), [5, 2, 2]⟩,
   ⟨some 60, .load true 3 (.t 4), some (59, true), [6]⟩,
   ⟨some 61, .fieldAddr 2 (.t 7), some (59, true), [6]⟩,
   ⟨some 62, .load false 1 (.t 61), some (59, true), [8, 6]⟩,
   ⟨some 63, .call 155 [(.t 60), (.t 62)], some (59, true), [7, 9, 6, 6]⟩,
   ⟨some 64, .bin .lss none (.t 63) (.c (.pv (.int .i64 0))), some (59, true), [10, 6]⟩,
   ⟨some 65, .pick (.t 59) (.t 64) (.c (.pv (.bool false))), some (55, false), [6, 11, 2]⟩,
   ⟨some 66, .pick (.t 55) (.c (.pv (.bool true))) (.t 65), none, [2, 12]⟩,
   ⟨some 67, .mv (.t 66), none, [13, 10]⟩,
   ⟨some 68, .fieldAddr 0 (.t 7), some (67, false), [14]⟩,
   ⟨some 69, .load false 1 (.t 68), some (67, false), [15, 14]⟩,
   ⟨some 70, .bin .eql none (.t 69) (.c (.pv (.int .i64 4))), some (67, false), [16, 14]⟩,
   ⟨some 71, .mv (.t 70), some (67, false), [17, 14, 14]⟩,
   ⟨some 72, .mv (.t 11), some (71, true), [18]⟩,
   ⟨some 73, .bin .lss none (.t 72) (.c (.pv (.int .i64 0))), some (71, true), [19, 18]⟩,
   ⟨some 74, .pick (.t 71) (.t 73) (.c (.pv (.bool false))), some (67, false), [18, 20, 14]⟩,
   ⟨some 75, .pick (.t 67) (.c (.pv (.bool true))) (.t 74), none, [14, 21]⟩])
  (.cond (.t 75)
   (.seq (.ops [
     ⟨some 76, .build [.nils, (.pv (.int .i64 0)), (.pv (.int .i64 0))] [], none, []⟩,
     ⟨none, .store 3 (.t 8) (.t 76), none, [0, 0]⟩,
     ⟨some 9, .mv (.c (.pv (.int .i64 4))), none, [1, 0, 1]⟩])
    .ret)
   .skip))
  (.seq (.ops [
   ⟨some 77, .fieldAddr 0 (.t 6), none, []⟩,
   ⟨some 78, .load false 1 (.t 77), none, [0]⟩,
   ⟨some 79, .mv (.t 10), none, []⟩,
   ⟨some 80, .idxAddr 8 (.t 78) (.t 79), none, [1, 2]⟩,
   ⟨some 81, .load true 8 (.t 80), none, [3]⟩,
   ⟨some 12, .alloc [(.pv (.int .i64 0)), (.pv (.int .i64 0)), (.pv (.int .i64 0)), (.pv (.int .u64 0)), (.pv (.int .u64 0)), (.pv (.int .u64 0)), (.pv (.int .u64 0)), (.pv (.int .i64 0))], none, []⟩,
   ⟨none, .store 8 (.t 12) (.t 81), none, [5, 4, 0, 1, 2, 3, 4, 5]⟩])
  (.seq (.draw [
   ⟨some 82, .bslice 8 0 [] [], none, []⟩,
   ⟨some 83, .fieldAddr 0 (.t 6), none, []⟩,
   ⟨some 84, .load false 1 (.t 83), none, [1]⟩,
   ⟨some 85, .append 8 64 (.t 82) (.t 84), none, [0, 2]⟩,
   ⟨some 86, .fieldAddr 1 (.t 6), none, []⟩,
   ⟨some 87, .load false 1 (.t 86), none, [4]⟩,
   ⟨some 88, .fieldAddr 2 (.t 6), none, []⟩,
   ⟨some 89, .load false 1 (.t 88), none, [6]⟩,
   ⟨some 90, .build [.nils, (.pv (.int .i64 0)), (.pv (.int .i64 0))] [(0, 1, (.t 85)), (1, 1, (.t 87)), (2, 1, (.t 89))], none, [3, 5, 7]⟩,
   ⟨some 13, .alloc [.nils, (.pv (.int .i64 0)), (.pv (.int .i64 0))], none, []⟩,
   ⟨none, .store 3 (.t 13) (.t 90), none, [9, 8, 3, 0, 1, 2, 3, 4, 5, 6, 7, 8, 9]⟩])
  (.seq (.ops [
   ⟨some 14, .mv (.c (.pv (.bool false))), none, []⟩])
  (.seq (.seq (.ops [
   ⟨some 91, .fieldAddr 0 (.t 7), none, []⟩,
   ⟨some 92, .load false 1 (.t 91), none, [0]⟩])
  (.block 0
   (.seq (.ops [
     ⟨some 94, .bin .eql none (.t 92) (.c (.pv (.int .i64 1))), none, []⟩,
     ⟨some 93, .mv (.t 94), none, [0]⟩])
    (.cond (.t 93)
     (.ops [
       ⟨some 95, .fieldAddr 7 (.t 12), none, []⟩,
       ⟨some 96, .load false 1 (.t 95), none, [0]⟩,
       ⟨some 97, .bin .eql none (.t 96) (.c (.pv (.int .i64 0))), none, [1]⟩,
       ⟨some 14, .mv (.t 97), none, [2, 0, 1, 2]⟩])
     (.seq (.ops [
       ⟨some 99, .bin .eql none (.t 92) (.c (.pv (.int .i64 2))), none, []⟩,
       ⟨some 98, .mv (.t 99), none, [0]⟩])
      (.cond (.t 98)
       (.ops [
         ⟨some 100, .fieldAddr 7 (.t 12), none, []⟩,
         ⟨some 101, .load false 1 (.t 100), none, [0]⟩,
         ⟨some 102, .bin .neq none (.t 101) (.c (.pv (.int .i64 0))), none, [1]⟩,
         ⟨some 14, .mv (.t 102), none, [2, 0, 1, 2]⟩])
       (.seq (.ops [
         ⟨some 104, .bin .eql none (.t 92) (.c (.pv (.int .i64 3))), none, []⟩,
         ⟨some 103, .mv (.t 104), none, [0]⟩])
        (.cond (.t 103)
         (.seq (.ops [
           ⟨some 105, .fieldAddr 7 (.t 12), none, []⟩,
           ⟨some 106, .load false 1 (.t 105), none, [0]⟩,
           ⟨some 107, .bin .neq none (.t 106) (.c (.pv (.int .i64 0))), none, [1]⟩,
           ⟨some 108, .mv (.t 107), none, [2]⟩,
           ⟨some 109, .fieldAddr 7 (.t 12), some (108, true), [3]⟩,
           ⟨some 110, .load false 1 (.t 109), some (108, true), [4, 3]⟩,
           ⟨some 111, .fieldAddr 2 (.t 7), some (108, true), [3]⟩,
           ⟨some 112, .load false 1 (.t 111), some (108, true), [6, 3]⟩,
           ⟨some 113, .bin .neq none (.t 110) (.t 112), some (108, true), [5, 7, 3]⟩,
           ⟨some 114, .pick (.t 108) (.t 113) (.c (.pv (.bool false))), none, [3, 8]⟩,
           ⟨some 14, .mv (.t 114), none, [9, 3, 0, 1, 2, 3, 4, 5, 6, 7, 8, 9]⟩])
          (.ops [
           ⟨some 115, .fieldAddr 2 (.t 13), none, []⟩,
           ⟨some 116, .load false 1 (.t 115), none, [0]⟩,
           ⟨some 117, .bin .add none (.t 116) (.c (.pv (.int .i64 1))), none, [1]⟩,
           ⟨some 118, .fieldAddr 2 (.t 13), none, [0, 1, 2]⟩,
           ⟨none, .store 1 (.t 118) (.t 117), none, [3, 2, 0, 1, 2]⟩]))
         (.seq (.ops [
           ⟨some 120, .bin .eql none (.t 92) (.c (.pv (.int .i64 4))), none, []⟩,
           ⟨some 119, .mv (.t 120), none, [0]⟩])
          (.cond (.t 119)
           (.seq (.draw [
             ⟨some 121, .fieldAddr 7 (.t 12), none, []⟩,
             ⟨some 122, .load false 1 (.t 121), none, [0]⟩,
             ⟨some 123, .bin .eql none (.t 122) (.c (.pv (.int .i64 0))), none, [1]⟩,
             ⟨some 124, .mv (.t 123), none, [2]⟩,
             ⟨some 125, .mv (.t 10), some (124, true), [3]⟩,
             ⟨some 126, .mv (.t 11), some (124, true), [3]⟩,
             ⟨some 127, .bin .neq none (.t 125) (.t 126), some (124, true), [4, 5, 3]⟩,
             ⟨some 128, .pick (.t 124) (.t 127) (.c (.pv (.bool false))), none, [3, 6]⟩,
             ⟨some 129, .mv (.t 128), none, [7, 3]⟩,
             ⟨some 130, .fieldAddr 0 (.t 6), some (129, true), [8]⟩,
             ⟨some 131, .load false 1 (.t 130), some (129, true), [9, 8]⟩,
             ⟨some 132, .mv (.t 11), some (129, true), [8]⟩,
             ⟨some 133, .idxAddr 8 (.t 131) (.t 132), some (129, true), [10, 11, 8]⟩,
             ⟨some 134, .fieldAddr 7 (.t 133), some (129, true), [12, 8]⟩,
             ⟨some 135, .load false 1 (.t 134), some (129, true), [13, 8]⟩,
             ⟨some 136, .fieldAddr 2 (.t 7), some (129, true), [8]⟩,
             ⟨some 137, .load false 1 (.t 136), some (129, true), [15, 8]⟩,
             ⟨some 138, .bin .eql none (.t 135) (.t 137), some (129, true), [14, 16, 8]⟩,
             ⟨some 139, .pick (.t 129) (.t 138) (.c (.pv (.bool false))), none, [8, 17]⟩,
             ⟨some 14, .mv (.t 139), none, [18, 8, 0, 1, 2, 3, 4, 5, 6, 7, 8, 9, 10, 11, 12, 13, 14, 15, 16, 17, 18]⟩])
            (.seq (.ops [
             ⟨some 140, .fieldAddr 0 (.t 13), none, []⟩,
             ⟨some 141, .load false 1 (.t 140), none, [0]⟩,
             ⟨some 142, .mv (.t 11), none, []⟩,
             ⟨some 143, .idxAddr 8 (.t 141) (.t 142), none, [1, 2, 0, 1, 2]⟩,
             ⟨some 144, .fieldAddr 7 (.t 143), none, [3, 0, 1, 2]⟩,
             ⟨none, .store 1 (.t 144) (.c (.pv (.int .i64 0))), none, [4, 0, 1, 2]⟩])
            (.ops [
             ⟨some 145, .fieldAddr 1 (.t 13), none, []⟩,
             ⟨some 146, .load false 1 (.t 145), none, [0]⟩,
             ⟨some 147, .bin .add none (.t 146) (.c (.pv (.int .i64 1))), none, [1]⟩,
             ⟨some 148, .fieldAddr 1 (.t 13), none, [0, 1, 2]⟩,
             ⟨none, .store 1 (.t 148) (.t 147), none, [3, 2, 0, 1, 2]⟩])))
           .skip))))))))))
  (.seq (.seq (.ops [
   ⟨some 149, .mv (.t 14), none, []⟩,
   ⟨some 150, .not (.t 149), none, [0]⟩])
  (.cond (.t 150)
   (.seq (.ops [
     ⟨some 151, .build [.nils, (.pv (.int .i64 0)), (.pv (.int .i64 0))] [], none, []⟩,
     ⟨none, .store 3 (.t 8) (.t 151), none, [0, 0]⟩,
     ⟨some 9, .mv (.c (.pv (.int .i64 7))), none, [1, 0, 1]⟩])
    .ret)
   .skip))
  (.seq (.ops [
   ⟨some 152, .fieldAddr 0 (.t 13), none, []⟩,
   ⟨some 153, .load false 1 (.t 152), none, [0]⟩,
   ⟨some 154, .mv (.t 10), none, []⟩,
   ⟨some 155, .fieldAddr 2 (.t 7), none, []⟩,
   ⟨some 156, .load false 1 (.t 155), none, [3]⟩,
   ⟨some 157, .idxAddr 8 (.t 153) (.t 154), none, [1, 2, 0, 1, 2, 3, 4]⟩,
   ⟨some 158, .fieldAddr 7 (.t 157), none, [5, 0, 1, 2, 3, 4]⟩,
   ⟨none, .store 1 (.t 158) (.t 156), none, [6, 4, 0, 1, 2, 3, 4]⟩])
  (.seq (.ops [
   ⟨some 159, .load true 3 (.t 5), none, []⟩,
   ⟨some 160, .fieldAddr 1 (.t 7), none, []⟩,
   ⟨some 161, .load false 1 (.t 160), none, [1]⟩,
   ⟨some 162, .call 157 [(.t 159), (.t 161)], none, [0, 2]⟩,
   ⟨some 15, .mv (.t 162), none, [3, 3, 0, 1, 2, 3]⟩])
  (.seq (.seq (.ops [
   ⟨some 163, .fieldAddr 0 (.t 7), none, []⟩,
   ⟨some 164, .load false 1 (.t 163), none, [0]⟩,
   ⟨some 165, .bin .neq none (.t 164) (.c (.pv (.int .i64 2))), none, [1]⟩,
   ⟨some 166, .mv (.t 165), none, [2]⟩,
   ⟨some 167, .mv (.t 15), some (166, true), [3]⟩,
   ⟨some 168, .bin .geq none (.t 167) (.c (.pv (.int .i64 0))), some (166, true), [4, 3]⟩,
   ⟨some 169, .pick (.t 166) (.t 168) (.c (.pv (.bool false))), none, [3, 5]⟩])
  (.cond (.t 169)
   (.seq (.ops [
     ⟨some 170, .fieldAddr 0 (.t 5), none, []⟩,
     ⟨some 171, .load false 1 (.t 170), none, [0]⟩,
     ⟨some 172, .mv (.t 15), none, []⟩,
     ⟨some 173, .idxAddr 6 (.t 171) (.t 172), none, [1, 2]⟩,
     ⟨some 174, .fieldAddr 5 (.t 173), none, [3]⟩,
     ⟨some 175, .load false 1 (.t 174), none, [4]⟩])
    (.cond (.t 175)
     (.draw [
       ⟨some 176, .fieldAddr 0 (.t 13), none, []⟩,
       ⟨some 177, .load false 1 (.t 176), none, [0]⟩,
       ⟨some 178, .mv (.t 10), none, []⟩,
       ⟨some 179, .fieldAddr 0 (.t 5), none, []⟩,
       ⟨some 180, .load false 1 (.t 179), none, [3]⟩,
       ⟨some 181, .mv (.t 15), none, []⟩,
       ⟨some 182, .idxAddr 6 (.t 180) (.t 181), none, [4, 5]⟩,
       ⟨some 183, .fieldAddr 1 (.t 182), none, [6]⟩,
       ⟨some 184, .load true 4 (.t 183), none, [7]⟩,
       ⟨some 185, .idxAddr 8 (.t 177) (.t 178), none, [1, 2, 0, 1, 2, 3, 4, 5, 6, 7, 8]⟩,
       ⟨some 186, .fieldAddr 3 (.t 185), none, [9, 0, 1, 2, 3, 4, 5, 6, 7, 8]⟩,
       ⟨none, .store 4 (.t 186) (.t 184), none, [10, 8, 0, 1, 2, 3, 4, 5, 6, 7, 8]⟩])
     .skip))
   .skip))
  (.seq (.ops [
   ⟨some 187, .load true 3 (.t 13), none, []⟩,
   ⟨none, .store 3 (.t 8) (.t 187), none, [0, 0]⟩,
   ⟨some 9, .mv (.c (.pv (.int .i64 0))), none, [1, 0, 1]⟩])
  .ret))))))))))))))⟩
def f217 : AFunc := ⟨18, [.t 4],
 (.seq (.ops [
   ⟨some 2, .box (.t 0), none, []⟩,
   ⟨some 3, .box (.t 1), none, []⟩,
   ⟨some 4, .mv (.c (.pv .nili)), none, []⟩])
  (.seq (.seq (.ops [
   ⟨some 5, .fieldAddr 0 (.t 3), none, []⟩,
   ⟨some 6, .load false 1 (.t 5), none, [0]⟩,
   ⟨some 7, .bin .eql none (.t 6) (.c (.pv (.int .i64 4))), none, [1]⟩,
   ⟨some 8, .mv (.t 7), none, [2]⟩,
   ⟨some 9, .load true 3 (.t 2), some (8, true), [3]⟩,
   ⟨some 10, .fieldAddr 1 (.t 3), some (8, true), [3]⟩,
   ⟨some 11, .load false 1 (.t 10), some (8, true), [5, 3]⟩,
   ⟨some 12, .fieldAddr 3 (.t 3), some (8, true), [3]⟩,
   ⟨some 13, .load false 1 (.t 12), some (8, true), [7, 3]⟩,
   ⟨some 14, .call 218 [(.t 9), (.t 11), (.t 13)], some (8, true), [4, 6, 8, 3, 3]⟩,
   ⟨some 15, .not (.t 14), some (8, true), [9, 3]⟩,
   ⟨some 16, .pick (.t 8) (.t 15) (.c (.pv (.bool false))), none, [3, 10]⟩])
  (.cond (.t 16)
   (.seq (.ops [
     ⟨some 17, .mkI 0 (.c (.pv (.int .i64 14))), none, []⟩,
     ⟨some 4, .mv (.t 17), none, [0, 0]⟩])
    .ret)
   .skip))
  (.seq (.ops [
   ⟨some 4, .mv (.c (.pv .nili)), none, []⟩])
  .ret)))⟩
def f218 : AFunc := ⟨34, [.t 6],
 (.seq (.ops [
   ⟨some 3, .box (.t 0), none, []⟩,
   ⟨some 6, .mv (.c (.pv (.bool false))), none, []⟩])
  (.seq (.ops [
   ⟨some 12, .load true 3 (.t 3), none, []⟩,
   ⟨some 13, .mv (.t 1), none, []⟩,
   ⟨some 14, .call 240 [(.t 12), (.t 13)], none, [0, 1]⟩,
   ⟨some 11, .mv (.t 14), none, [2]⟩,
   ⟨some 15, .extract (.t 11) 0, none, [3]⟩,
   ⟨some 16, .extract (.t 11) 1, none, [3]⟩,
   ⟨some 7, .alloc [(.pv (.int .i64 0)), (.pv (.int .i64 0)), (.pv (.int .i64 0)), (.pv (.int .u64 0)), (.pv (.int .u64 0)), (.pv (.int .u64 0)), (.pv (.int .u64 0)), (.pv (.int .i64 0))], none, []⟩,
   ⟨none, .store 8 (.t 7) (.t 15), none, [6, 4, 2, 0, 1, 2, 3, 4, 6]⟩,
   ⟨some 8, .mv (.t 16), none, [5, 7, 0, 1, 2, 3, 4, 5, 6, 7]⟩])
  (.seq (.ops [
   ⟨some 18, .load true 3 (.t 3), none, []⟩,
   ⟨some 19, .mv (.t 2), none, []⟩,
   ⟨some 20, .call 240 [(.t 18), (.t 19)], none, [0, 1]⟩,
   ⟨some 17, .mv (.t 20), none, [2]⟩,
   ⟨some 21, .extract (.t 17) 0, none, [3]⟩,
   ⟨some 22, .extract (.t 17) 1, none, [3]⟩,
   ⟨some 9, .alloc [(.pv (.int .i64 0)), (.pv (.int .i64 0)), (.pv (.int .i64 0)), (.pv (.int .u64 0)), (.pv (.int .u64 0)), (.pv (.int .u64 0)), (.pv (.int .u64 0)), (.pv (.int .i64 0))], none, []⟩,
   ⟨none, .store 8 (.t 9) (.t 21), none, [6, 4, 2, 0, 1, 2, 3, 4, 6]⟩,
   ⟨some 10, .mv (.t 22), none, [5, 7, 0, 1, 2, 3, 4, 5, 6, 7]⟩])
  (.seq (.ops [
   ⟨some 23, .mv (.t 8), none, []⟩,
   ⟨some 24, .mv (.t 23), none, [0]⟩,
   ⟨some 25, .mv (.t 10), some (24, true), [1]⟩,
   ⟨some 26, .pick (.t 24) (.t 25) (.c (.pv (.bool false))), none, [1, 2]⟩,
   ⟨some 27, .mv (.t 26), none, [3, 1]⟩,
   ⟨some 28, .fieldAddr 2 (.t 9), some (27, true), [4]⟩,
   ⟨some 29, .load false 1 (.t 28), some (27, true), [5, 4]⟩,
   ⟨some 30, .fieldAddr 2 (.t 7), some (27, true), [4]⟩,
   ⟨some 31, .load false 1 (.t 30), some (27, true), [7, 4]⟩,
   ⟨some 32, .bin .lss none (.t 29) (.t 31), some (27, true), [6, 8, 4]⟩,
   ⟨some 33, .pick (.t 27) (.t 32) (.c (.pv (.bool false))), none, [4, 9]⟩,
   ⟨some 6, .mv (.t 33), none, [10, 4, 0, 1, 2, 3, 4, 5, 6, 7, 8, 9, 10]⟩])
  .ret))))⟩
def f246 : AFunc := ⟨43, [.cell 8 true 3, .t 9],
 (.seq (.ops [
   ⟨some 4, .box (.t 0), none, []⟩,
   ⟨some 5, .box (.t 1), none, []⟩,
   ⟨some 6, .box (.t 2), none, []⟩,
   ⟨some 7, .box (.t 3), none, []⟩,
   ⟨some 8, .alloc [.nils, (.pv (.int .i64 0)), (.pv (.int .i64 0))], none, []⟩,
   ⟨some 9, .mv (.c (.pv .nili)), none, []⟩])
  (.seq (.ops [
   ⟨some 15, .load true 3 (.t 4), none, []⟩,
   ⟨some 16, .load true 3 (.t 5), none, []⟩,
   ⟨some 17, .load true 3 (.t 6), none, []⟩,
   ⟨some 18, .load true 4 (.t 7), none, []⟩,
   ⟨some 19, .call 239 [(.t 15), (.t 16), (.t 17), (.t 18)], none, [0, 1, 2, 3]⟩,
   ⟨some 14, .mv (.t 19), none, [4]⟩,
   ⟨some 20, .extract (.t 14) 0, none, [5]⟩,
   ⟨some 21, .extract (.t 14) 1, none, [5]⟩,
   ⟨some 10, .alloc [.nils, (.pv (.int .i64 0)), (.pv (.int .i64 0))], none, []⟩,
   ⟨none, .store 3 (.t 10) (.t 20), none, [8, 6, 4, 0, 1, 2, 3, 4, 5, 6, 8]⟩,
   ⟨some 11, .mv (.t 21), none, [7, 9, 0, 1, 2, 3, 4, 5, 6, 7, 8, 9]⟩])
  (.seq (.seq (.ops [
   ⟨some 22, .mv (.t 11), none, []⟩,
   ⟨some 23, .bin .neq (some (.iface true)) (.t 22) (.c (.pv .nili)), none, [0]⟩])
  (.cond (.t 23)
   (.seq (.ops [
     ⟨some 24, .build [.nils, (.pv (.int .i64 0)), (.pv (.int .i64 0))] [], none, []⟩,
     ⟨some 25, .mv (.t 11), none, []⟩,
     ⟨none, .store 3 (.t 8) (.t 24), none, [0, 0]⟩,
     ⟨some 9, .mv (.t 25), none, [1, 2, 0, 1, 2]⟩])
    .ret)
   .skip))
  (.seq (.seq (.ops [
   ⟨some 26, .load true 3 (.t 6), none, []⟩,
   ⟨some 27, .load true 4 (.t 7), none, []⟩,
   ⟨some 28, .call 217 [(.t 26), (.t 27)], none, [0, 1]⟩,
   ⟨some 12, .mv (.t 28), none, [2, 2, 0, 1, 2]⟩])
  (.seq (.ops [
   ⟨some 29, .mv (.t 12), none, []⟩,
   ⟨some 30, .bin .neq (some (.iface true)) (.t 29) (.c (.pv .nili)), none, [0]⟩])
  (.cond (.t 30)
   (.seq (.ops [
     ⟨some 31, .build [.nils, (.pv (.int .i64 0)), (.pv (.int .i64 0))] [], none, []⟩,
     ⟨some 32, .mv (.t 12), none, []⟩,
     ⟨none, .store 3 (.t 8) (.t 31), none, [0, 0]⟩,
     ⟨some 9, .mv (.t 32), none, [1, 2, 0, 1, 2]⟩])
    .ret)
   .skip)))
  (.seq (.seq (.ops [
   ⟨some 33, .load true 3 (.t 4), none, []⟩,
   ⟨some 34, .load true 3 (.t 5), none, []⟩,
   ⟨some 35, .load true 3 (.t 10), none, []⟩,
   ⟨some 36, .call 223 [(.t 33), (.t 34), (.t 35)], none, [0, 1, 2]⟩,
   ⟨some 13, .mv (.t 36), none, [3, 3, 0, 1, 2, 3]⟩])
  (.seq (.ops [
   ⟨some 37, .mv (.t 13), none, []⟩,
   ⟨some 38, .bin .neq (some (.iface true)) (.t 37) (.c (.pv .nili)), none, [0]⟩])
  (.cond (.t 38)
   (.seq (.ops [
     ⟨some 39, .build [.nils, (.pv (.int .i64 0)), (.pv (.int .i64 0))] [], none, []⟩,
     ⟨some 40, .mv (.t 13), none, []⟩,
     ⟨some 41, .call 248 [(.t 40)], none, [1]⟩,
     ⟨none, .store 3 (.t 8) (.t 39), none, [0, 2, 0]⟩,
     ⟨some 9, .mv (.t 41), none, [2, 3, 0, 1, 2, 3]⟩])
    .ret)
   .skip)))
  (.seq (.ops [
   ⟨some 42, .load true 3 (.t 10), none, []⟩,
   ⟨none, .store 3 (.t 8) (.t 42), none, [0, 0]⟩,
   ⟨some 9, .mv (.c (.pv .nili)), none, [1, 0, 1]⟩])
  .ret))))))⟩
def f247l0 : ACode :=
 (.seq (.ops [
   ⟨some 37, .bin .lss none (.t 36) (.t 35), none, []⟩])
  (.seq (.cond (.t 37)
   .skip
   (.exit 0))
  (.seq (.block 1
   (.seq (.ops [
     ⟨some 38, .mv (.t 36), none, []⟩,
     ⟨some 39, .idxAddr 4 (.t 34) (.t 36), none, []⟩,
     ⟨some 40, .load true 4 (.t 39), none, [1]⟩,
     ⟨some 13, .alloc [(.pv (.int .i64 0)), (.pv (.int .i64 0)), (.pv (.int .i64 0)), (.pv (.int .i64 0))], none, []⟩,
     ⟨some 12, .mv (.t 38), none, [0, 0, 1, 2, 3]⟩,
     ⟨none, .store 4 (.t 13) (.t 40), none, [3, 2, 4, 0, 1, 2, 3, 4]⟩])
    (.seq (.ops [
     ⟨some 42, .load true 3 (.t 3), none, []⟩,
     ⟨some 43, .load true 3 (.t 4), none, []⟩,
     ⟨some 44, .load true 3 (.t 10), none, []⟩,
     ⟨some 45, .load true 4 (.t 13), none, []⟩,
     ⟨some 46, .call 246 [(.t 42), (.t 43), (.t 44), (.t 45)], none, [0, 1, 2, 3]⟩,
     ⟨some 41, .mv (.t 46), none, [4]⟩,
     ⟨some 47, .extract (.t 41) 0, none, [5]⟩,
     ⟨some 48, .extract (.t 41) 1, none, [5]⟩,
     ⟨some 14, .alloc [.nils, (.pv (.int .i64 0)), (.pv (.int .i64 0))], none, []⟩,
     ⟨none, .store 3 (.t 14) (.t 47), none, [8, 6, 4, 0, 1, 2, 3, 4, 5, 6, 8]⟩,
     ⟨some 15, .mv (.t 48), none, [7, 9, 0, 1, 2, 3, 4, 5, 6, 7, 8, 9]⟩])
    (.seq (.seq (.ops [
     ⟨some 49, .mv (.t 15), none, []⟩,
     ⟨some 50, .bin .neq (some (.iface true)) (.t 49) (.c (.pv .nili)), none, [0]⟩])
    (.cond (.t 50)
     (.seq (.ops [
       ⟨some 51, .load true 3 (.t 10), none, []⟩,
       ⟨some 52, .mv (.t 12), none, []⟩,
       ⟨some 53, .mv (.t 15), none, []⟩,
       ⟨none, .store 3 (.t 6) (.t 51), none, [0, 0]⟩,
       ⟨some 7, .mv (.t 52), none, [1, 3, 0, 1, 3]⟩,
       ⟨some 8, .mv (.t 53), none, [2, 4, 0, 1, 2, 3, 4]⟩])
      .ret)
     .skip))
    (.ops [
     ⟨some 54, .load true 3 (.t 14), none, []⟩,
     ⟨none, .store 3 (.t 10) (.t 54), none, [0, 0]⟩])))))
  (.ops [
   ⟨some 55, .bin .add none (.t 36) (.c (.pv (.int .i64 1))), none, []⟩,
   ⟨some 36, .mv (.t 55), none, [0]⟩]))))
def f247 : AFunc := ⟨59, [.cell 6 true 3, .t 7, .t 8],
 (.seq (.ops [
   ⟨some 3, .box (.t 0), none, []⟩,
   ⟨some 4, .box (.t 1), none, []⟩,
   ⟨some 6, .alloc [.nils, (.pv (.int .i64 0)), (.pv (.int .i64 0))], none, []⟩,
   ⟨some 7, .mv (.c (.pv (.int .i64 0))), none, []⟩,
   ⟨some 8, .mv (.c (.pv .nili)), none, [3]⟩])
  (.seq (.seq (.ops [
   ⟨some 16, .load true 3 (.t 3), none, []⟩,
   ⟨some 17, .load true 3 (.t 4), none, []⟩,
   ⟨some 18, .call 80 [(.t 16), (.t 17)], none, [0, 1]⟩,
   ⟨some 9, .mv (.t 18), none, [2, 2, 0, 1, 2]⟩])
  (.seq (.ops [
   ⟨some 19, .mv (.t 9), none, []⟩,
   ⟨some 20, .bin .neq (some (.iface true)) (.t 19) (.c (.pv .nili)), none, [0]⟩])
  (.cond (.t 20)
   (.seq (.ops [
     ⟨some 21, .build [.nils, (.pv (.int .i64 0)), (.pv (.int .i64 0))] [], none, []⟩,
     ⟨some 22, .mv (.t 9), none, []⟩,
     ⟨none, .store 3 (.t 6) (.t 21), none, [0, 0]⟩,
     ⟨some 7, .mv (.c (.pv (.int .i64 0))), none, [2, 0, 2]⟩,
     ⟨some 8, .mv (.t 22), none, [1, 3, 0, 1, 2, 3]⟩])
    .ret)
   .skip)))
  (.seq (.ops [
   ⟨some 23, .load true 3 (.t 3), none, []⟩,
   ⟨some 24, .call 237 [(.t 23)], none, [0]⟩,
   ⟨some 10, .alloc [.nils, (.pv (.int .i64 0)), (.pv (.int .i64 0))], none, []⟩,
   ⟨none, .store 3 (.t 10) (.t 24), none, [2, 1, 1, 0, 1, 2]⟩])
  (.seq (.seq (.ops [
   ⟨some 25, .load true 3 (.t 3), none, []⟩,
   ⟨some 26, .load true 3 (.t 4), none, []⟩,
   ⟨some 27, .load true 3 (.t 10), none, []⟩,
   ⟨some 28, .call 223 [(.t 25), (.t 26), (.t 27)], none, [0, 1, 2]⟩,
   ⟨some 11, .mv (.t 28), none, [3, 3, 0, 1, 2, 3]⟩])
  (.seq (.ops [
   ⟨some 29, .mv (.t 11), none, []⟩,
   ⟨some 30, .bin .neq (some (.iface true)) (.t 29) (.c (.pv .nili)), none, [0]⟩])
  (.cond (.t 30)
   (.seq (.ops [
     ⟨some 31, .build [.nils, (.pv (.int .i64 0)), (.pv (.int .i64 0))] [], none, []⟩,
     ⟨some 32, .mv (.t 11), none, []⟩,
     ⟨some 33, .call 248 [(.t 32)], none, [1]⟩,
     ⟨none, .store 3 (.t 6) (.t 31), none, [0, 2, 0]⟩,
     ⟨some 7, .mv (.c (.pv (.int .i64 0))), none, [3, 0, 3]⟩,
     ⟨some 8, .mv (.t 33), none, [2, 4, 0, 1, 2, 3, 4]⟩])
    .ret)
   .skip)))
  (.seq (.seq (.ops [
   ⟨some 34, .mv (.t 2), none, []⟩,
   ⟨some 35, .len (.t 34), none, [0]⟩,
   ⟨some 36, .mv (.c (.pv (.int .i64 0))), none, []⟩])
  (.block 0
   (.loop f247l0)))
  (.seq (.ops [
   ⟨some 56, .load true 3 (.t 10), none, []⟩,
   ⟨some 57, .mv (.t 2), none, []⟩,
   ⟨some 58, .len (.t 57), none, [1]⟩,
   ⟨none, .store 3 (.t 6) (.t 56), none, [0, 0]⟩,
   ⟨some 7, .mv (.t 58), none, [2, 3, 0, 1, 2, 3]⟩,
   ⟨some 8, .mv (.c (.pv .nili)), none, [4, 0, 1, 2, 3, 4]⟩])
  .ret))))))⟩
def f248 : AFunc := ⟨9, [.t 2],
 (.seq (.ops [
   ⟨some 2, .mv (.c (.pv .nili)), none, []⟩])
  (.seq (.ops [
   ⟨some 3, .alloc [(.pv (.int .i64 0))], none, []⟩])
  (.seq (.seq (.ops [
   ⟨some 4, .mv (.t 0), none, []⟩,
   ⟨some 5, .mkI 3 (.t 3), none, []⟩,
   ⟨some 6, .call 266 [(.t 4), (.t 5)], none, [0, 1]⟩])
  (.cond (.t 6)
   (.seq (.ops [
     ⟨some 7, .load false 1 (.t 3), none, []⟩,
     ⟨some 8, .mkI 0 (.t 7), none, [0]⟩,
     ⟨some 2, .mv (.t 8), none, [1, 0, 1]⟩])
    .ret)
   .skip))
  (.seq (.ops [
   ⟨some 2, .mv (.c (.pv .nili)), none, []⟩])
  .ret))))⟩
end Go.Proofs.YtggjhmbbbebfeaaGreatDoor.Ab
set_option linter.unusedVariables false
set_option linter.unusedSimpArgs false
namespace Go.Proofs.YtggjhmbbbebfeaaGreatDoor.Ab
open Go
/-! ### Code, of any -/
section
variable {T : Tab}
/-! ### May, Check -/
def mayB (t : State) (a b : Int) : Bool := match podOf a t.pods, podOf b t.pods with
  | some p, some q => decide (q.prio < p.prio)
  | _, _ => false
def prioB (t : State) (m : Move) : Bool := if m.kind = 4 then mayB t m.pod m.over else true
structure Std12 (T : Tab) : Prop where
  s11 : Std11 T
  m : StdM T
  h217 : Std T 217 f217
  h218 : Std T 218 f218
  h240 : Std T 240 f240
  h246 : Std T 246 f246
  h248 : Std T 248 f248
theorem may_ok (S : Std12 T) (t : State) (a b : Int) (hl : t.pods.length ≤ 2 ^ 29) : Gives T 218 [stateP t, .int .i64 a, .int .i64 b] (.bool (mayB t a b)) := by
  have k1 := pod5_ok S.m.s5 S.h240 t a (by omega)
  have k2 := pod5_ok S.m.s5 S.h240 t b (by omega)
  simp only [stateP] at k1 k2
  refine gives S.h218 rfl ?_
  unfold mayB
  cases h1 : podOf a t.pods with
  | none =>
    rw [h1] at k1
    simp only [podR, podP, podC, pod0] at k1
    cases h2 : podOf b t.pods with
    | none =>
      rw [h2] at k2
      simp only [podR, podP, podC, pod0] at k2
      simp only [f218, runL, defL, binV, simprocAttr, List.drop, List.take, stateP, k1.call, k2.call]
    | some q =>
      rw [h2] at k2
      simp only [podR, podP, podC] at k2
      simp only [f218, runL, defL, binV, simprocAttr, List.drop, List.take, stateP, k1.call, k2.call]
  | some p =>
    rw [h1] at k1
    simp only [podR, podP, podC] at k1
    cases h2 : podOf b t.pods with
    | none =>
      rw [h2] at k2
      simp only [podR, podP, podC, pod0] at k2
      simp only [f218, runL, defL, binV, simprocAttr, List.drop, List.take, stateP, k1.call, k2.call]
    | some q =>
      rw [h2] at k2
      simp only [podR, podP, podC] at k2
      simp only [f218, runL, defL, binV, simprocAttr, List.drop, List.take, stateP, k1.call, k2.call]
theorem prior_ok (S : Std12 T) (t : State) (m : Move) (hl : t.pods.length ≤ 2 ^ 29) : Gives T 217 [stateP t, moveP m] (cond (prioB t m) .nili (codeE 14)) := by
  have k := may_ok S t m.pod m.over hl
  simp only [stateP] at k
  refine gives S.h217 rfl ?_
  unfold prioB
  by_cases h : m.kind = 4
  · have d := decide_eq_true h
    rw [if_pos h]
    cases hm : mayB t m.pod m.over <;> rw [hm] at k <;>
    simp only [f217, runL, defL, binV, simprocAttr, List.drop, List.take, stateP, moveP, moveC, k.call, d, codeE]
  · rw [if_neg h]
    simp only [f217, runL, defL, binV, simprocAttr, List.drop, List.take, stateP, moveP, moveC, h]
/-! ### alone -/
def aloneP (r : PV) : PV := if isNilP r = true then .nili else codeE (codeNo r)
theorem alone_ok (S : Std12 T) {r : PV} (hr : ErrV r) : Gives T 248 [r] (aloneP r) := by
  refine gives S.h248 rfl ?_
  have A := S.s11.h266
  rcases hr with rfl | ⟨a, n, rfl⟩ | ⟨n, rfl⟩
  · simp only [f248, runL, defL, binV, simprocAttr, List.drop, List.take, as_nilQ A, aloneP, isNilP]
  · simp only [f248, runL, defL, binV, simprocAttr, List.drop, List.take, spotE]
    rw [as_spotQ A (o := 0) (by simp only [blkAt_if, if_true])]
    simp only [runL, defL, binV, simprocAttr, List.drop, List.take, aloneP, isNilP, codeE, codeNo, codesOf, List.headD_cons, Bool.false_eq_true]
  · simp only [f248, runL, defL, binV, simprocAttr, List.drop, List.take, codeE]
    rw [as_codeQ A (o := 0) (by simp only [blkAt_if, if_true])]
    simp only [runL, defL, binV, simprocAttr, List.drop, List.take, aloneP, isNilP, codeE, codeNo, codesOf, List.headD_cons, Bool.false_eq_true]
/-! ### Do -/
def doS (s : Snap) (x : Spec) (t : State) (m : Move) : Int ⊕ State := match makeS s x t m with
  | .inl c => .inl c
  | .inr u => if prioB t m = true then (if isNilP (whyP s x u) = true then .inr u else .inl (codeNo (whyP s x u))) else .inl 14
theorem pod_set_wf {l : List Pod} {i : Nat} {q : Pod} (h : ∀ p ∈ l, p.wf) (hq : q.wf) : ∀ p ∈ l.set i q, p.wf := by
  intro p hp
  rcases List.mem_or_eq_of_mem_set hp with h1 | rfl
  · exact h p h1
  · exact hq
theorem come_wf {x : Spec} {p : Pod} {n : Int} (hx : ∀ w ∈ x.wants, w.wf) (hp : p.wf) (hn : inI n) : (comeS x p n).wf := by
  unfold comeS
  obtain ⟨a, b, c, d, e⟩ := hp
  split
  · rename_i w hw
    have hm : w ∈ x.wants := List.mem_of_find?_eq_some hw
    split
    · exact ⟨a, b, c, (hx w hm).2, hn⟩
    · exact ⟨a, b, c, d, hn⟩
  · exact ⟨a, b, c, d, hn⟩
theorem off_wf {p : Pod} (hp : p.wf) : ({ p with node := 0 } : Pod).wf := by
  obtain ⟨a, b, c, d, e⟩ := hp
  refine ⟨a, b, c, d, ?_⟩
  unfold inI
  simp only
  omega
theorem make_wf {s : Snap} {x : Spec} {t u : State} {m : Move} (hx : ∀ w ∈ x.wants, w.wf) (ht : ∀ p ∈ t.pods, p.wf) (hm : m.wf) (h : makeS s x t m = .inr u) : ∀ p ∈ u.pods, p.wf := by
  unfold makeS at h
  split at h
  · simp at h
  · split at h
    · simp at h
    · split at h
      · simp at h
      · split at h
        · simp at h
        · split at h
          · simp at h
          · rename_i p hp
            have hpm : p ∈ t.pods := List.mem_of_getElem? hp
            by_cases k2 : m.kind = 2
            · rw [if_pos k2] at h
              split at h
              · simp at h
              · simp only [Sum.inr.injEq] at h
                subst h
                exact pod_set_wf ht (off_wf (ht p hpm))
            · rw [if_neg k2] at h
              split at h
              · split at h
                · simp at h
                · split at h
                  · simp at h
                  · simp only [Sum.inr.injEq] at h
                    subst h
                    exact pod_set_wf ht (come_wf hx (ht p hpm) hm.2.2.1)
              · split at h
                · split at h
                  · simp at h
                  · rename_i q hq
                    have hqm : q ∈ t.pods := List.mem_of_getElem? hq
                    split at h
                    · simp at h
                    · split at h
                      · simp at h
                      · split at h
                        · simp at h
                        · simp only [Sum.inr.injEq] at h
                          subst h
                          exact pod_set_wf (pod_set_wf ht (off_wf (ht q hqm))) (come_wf hx (ht p hpm) hm.2.2.1)
                · split at h
                  · simp at h
                  · simp only [Sum.inr.injEq] at h
                    subst h
                    exact pod_set_wf ht (come_wf hx (ht p hpm) hm.2.2.1)
theorem do_ok (S : Std12 T) (s : Snap) (x : Spec) (t : State) (m : Move) (hn : s.nodes.length ≤ 2 ^ 29) (hll : s.loads.length ≤ 2 ^ 29) (hxl : x.wants.length ≤ 2 ^ 29) (hl : t.pods.length ≤ 2 ^ 29) (hx : ∀ w ∈ x.wants, w.wf) (ht : ∀ p ∈ t.pods, p.wf) (hm : m.wf) :
    Gives T 246 [snapP s, specP x, stateP t, moveP m] (makeR (doS s x t m)) := by
  have km := make_ok S.m s x t m (by omega) (by omega) (by omega)
  have kp := prior_ok S t m hl
  refine gives S.h246 rfl ?_
  unfold doS
  cases hmk : makeS s x t m with
  | inl c =>
    rw [hmk] at km
    simp only [makeR, codeE, snapP, specP, stateP, moveP, moveC, List.map_nil] at km
    simp only [f246, runL, defL, binV, simprocAttr, List.drop, List.take, snapP, specP, stateP, moveP, moveC, km.call, makeR, codeE, List.map_nil]
  | inr u =>
    rw [hmk] at km
    have hul := (near_moves s x t u m hmk).2
    have kw := why_ok S.s11 s x u hn (by omega) hll (make_wf hx ht hm hmk)
    have hv : ErrV (whyP s x u) := firstE_V _ (errs_V s x u)
    have ka := alone_ok S hv
    simp only [makeR, snapP, specP, stateP, moveP, moveC] at km kp kw
    cases hpb : prioB t m with
    | false =>
      rw [hpb] at kp
      simp only [cond_false, codeE] at kp
      simp only [f246, runL, defL, binV, simprocAttr, List.drop, List.take, snapP, specP, stateP, moveP, moveC, km.call, kp.call, makeR, codeE, Bool.false_eq_true, List.map_nil]
    | true =>
      rw [hpb] at kp
      simp only [cond_true] at kp
      dsimp only
      rcases hv with e | ⟨a, n, e⟩ | ⟨n, e⟩
      · rw [e] at kw ka ⊢
        simp only [f246, runL, defL, binV, simprocAttr, List.drop, List.take, snapP, specP, stateP, moveP, moveC, km.call, kp.call, kw.call, makeR, isNilP]
      · rw [e] at kw ka ⊢
        simp only [spotE, aloneP, isNilP, codeE, codeNo, codesOf, List.headD_cons, Bool.false_eq_true, if_false] at kw ka
        simp only [f246, runL, defL, binV, simprocAttr, List.drop, List.take, snapP, specP, stateP, moveP, moveC, km.call, kp.call, kw.call, ka.call, makeR, isNilP, spotE, codeE, codeNo, codesOf, List.headD_cons, Bool.false_eq_true, List.map_nil]
      · rw [e] at kw ka ⊢
        simp only [codeE, aloneP, isNilP, codeNo, codesOf, List.headD_cons, Bool.false_eq_true, if_false] at kw ka
        simp only [f246, runL, defL, binV, simprocAttr, List.drop, List.take, snapP, specP, stateP, moveP, moveC, km.call, kp.call, kw.call, ka.call, makeR, isNilP, codeE, codeNo, codesOf, List.headD_cons, Bool.false_eq_true, List.map_nil]
end
end Go.Proofs.YtggjhmbbbebfeaaGreatDoor.Ab
set_option linter.unusedVariables false
set_option linter.unusedSimpArgs false
namespace Go.Proofs.YtggjhmbbbebfeaaGreatDoor.Ab
open Go
theorem Own.app1V {v : AV} {hp : Hl} {sz nx : Nat} {es : List (List PV)} (h : Own v hp sz es 0 nx) (e : List PV) (hl : es.length + 1 ≤ 2 ^ 30) :
    ∃ v' W n, appV (blkAt ((nx, .row sz [e]) :: hp)) (nx + 1) sz v [e] = some (v', W, n) ∧ (∀ k, k < nx → (∀ es, blkAt hp k ≠ .row sz es) → blkAt (W ++ (nx, .row sz [e]) :: hp) k = blkAt hp k) ∧ Own v' (W ++ (nx, .row sz [e]) :: hp) sz (es ++ [e]) 0 (nx + 1 + n) ∧ 1 ≤ n := by
  have hl' : [e].length ≤ 2 ^ 30 := by simp
  rcases h with ⟨rfl, rfl⟩ | ⟨id, rfl, b, c, d⟩
  · refine ⟨.ms (nx + 1), [(nx + 1, .row sz [e])], 1, by simp only [appV, hl', if_true], fun k hk _ => ?_, .inr ⟨nx + 1, rfl, by omega, by omega, ?_⟩, Nat.le_refl _⟩
    · have h1 : ¬ nx + 1 = k := by omega
      have h2 : ¬ nx = k := by omega
      simp only [List.cons_append, List.nil_append, blkAt_if, h1, h2, if_false]
    · simp only [List.cons_append, List.nil_append, blkAt_if, if_true]
  · have h0 : ¬ nx = id := by omega
    have hl2 : es.length + [e].length ≤ 2 ^ 30 := by simpa using hl
    refine ⟨.ms (nx + 1), [(id, .dead), (nx + 1, .row sz (es ++ [e]))], 1, ?_, fun k hk hne => ?_, .inr ⟨nx + 1, rfl, by omega, by omega, ?_⟩, Nat.le_refl _⟩
    · simp only [appV, baseV, blkAt_if, h0, if_false, d, beq_self, hl2, if_true]
    · have h1 : ¬ nx + 1 = k := by omega
      have h2 : ¬ nx = k := by omega
      have h3 : ¬ id = k := fun h => hne es (by rw [← h]; exact d)
      simp only [List.cons_append, List.nil_append, blkAt_if, h1, h2, h3, if_false]
    · have h2 : ¬ id = nx + 1 := by omega
      simp only [List.cons_append, List.nil_append, blkAt_if, h2, if_true, if_false]
def isR (r : Int ⊕ State) : Bool := match r with
  | .inl _ => false
  | .inr _ => true
def mvT (id node : Int) : Move := ⟨3, id, node, 0⟩
def propI (s : Snap) (x : Spec) (t : State) (id : Int) : List Int → List Move → List Move
  | [], out => out
  | node :: r, out => propI s x t id r (if isR (doS s x t (mvT id node)) = true ∧ ¬ mvT id node ∈ out then out ++ [mvT id node] else out)
def propP (s : Snap) (x : Spec) (t : State) : List Pod → List Move → List Move
  | [], out => out
  | p :: r, out => propP s x t r (if p.node = 0 ∨ ¬ nAt p.node t.pods = 1 ∨ ¬ p.node ∈ usedS s t then out else propI s x t p.id (usedS s t) out)
def proposeS (s : Snap) (x : Spec) (t : State) : List Move := propP s x t t.pods []
theorem propI_len (s : Snap) (x : Spec) (t : State) (id : Int) : ∀ (l : List Int) (out : List Move), (propI s x t id l out).length ≤ out.length + l.length
  | [], out => Nat.le_refl _
  | n :: r, out => by
    simp only [propI, List.length_cons]
    by_cases h : isR (doS s x t (mvT id n)) = true ∧ ¬ mvT id n ∈ out
    · rw [if_pos h]
      have := propI_len s x t id r (out ++ [mvT id n])
      simp only [List.length_append, List.length_cons, List.length_nil] at this
      omega
    · rw [if_neg h]
      have := propI_len s x t id r out
      omega
theorem usedS_le (s : Snap) (t : State) : (usedS s t).length ≤ s.nodes.length := Nat.le_trans (risesL_le _) (usedF_le _ _)
structure PI (s : Snap) (x : Spec) (t : State) (mid pid : Nat) (l : List (Int × Int)) (i : Nat) (fr : List (Nat × AV)) (hp : Hl) (nx : Nat) : Prop where
  g3 : look fr 3 = .ptr 0 0 0
  g4 : look fr 4 = .ptr 1 0 0
  g5 : look fr 5 = .ptr 2 0 0
  g7 : look fr 7 = .map mid
  g24 : look fr 24 = .ms pid
  g25 : look fr 25 = .pv (.int .i64 t.pods.length)
  g26 : look fr 26 = .pv (.int .i64 i)
  n3 : 3 ≤ nx
  m3 : 3 ≤ mid
  mn : mid < nx
  p3 : 3 ≤ pid
  pn : pid < nx
  b0 : blkAt hp 0 = .var [.pv (.slice (s.nodes.map nodeC)), .pv (.slice (s.loads.map loadC)), .pv (.slice (s.pods.map podC))]
  b1 : blkAt hp 1 = .var [.pv (.slice (x.wants.map wantC)), .pv (.int .i64 x.pre), .pv (.int .i64 x.shi)]
  b2 : blkAt hp 2 = .var [.pv (.slice (t.pods.map podC)), .pv (.int .i64 t.pre), .pv (.int .i64 t.shi)]
  bm : blkAt hp mid = .map (mapC l)
  bp : blkAt hp pid = .row 8 (t.pods.map podC)
theorem PI.keep {s : Snap} {x : Spec} {t : State} {mid pid : Nat} {l : List (Int × Int)} {i i' : Nat} {fr fr' : List (Nat × AV)} {hp hp' : Hl} {nx nx' : Nat} (h : PI s x t mid pid l i fr hp nx) (hf : ∀ k, k = 3 ∨ k = 4 ∨ k = 5 ∨ k = 7 ∨ k = 24 ∨ k = 25 → look fr' k = look fr k) (h26 : look fr' 26 = .pv (.int .i64 i')) (hn : nx ≤ nx')
    (hb : ∀ k, k < nx → (∀ es, blkAt hp k ≠ .row 4 es) → blkAt hp' k = blkAt hp k) : PI s x t mid pid l i' fr' hp' nx' := by
  have n3 := h.n3
  have a1 := h.mn
  have a2 := h.pn
  refine ⟨by rw [hf 3 (by simp), h.g3], by rw [hf 4 (by simp), h.g4], by rw [hf 5 (by simp), h.g5], by rw [hf 7 (by simp), h.g7], by rw [hf 24 (by simp), h.g24], by rw [hf 25 (by simp), h.g25], h26, by omega, h.m3, by omega, h.p3, by omega, ?_, ?_, ?_, ?_, ?_⟩
  · rw [hb 0 (by omega) (by rw [h.b0]; simp), h.b0]
  · rw [hb 1 (by omega) (by rw [h.b1]; simp), h.b1]
  · rw [hb 2 (by omega) (by rw [h.b2]; simp), h.b2]
  · rw [hb mid (by omega) (by rw [h.bm]; simp), h.bm]
  · rw [hb pid (by omega) (by rw [h.bp]; simp), h.bp]
structure Std16p (T : Tab) : Prop where
  u : Std16t T
  st : StdSt T
  s : Std12 T
  h283 : Std T 283 f283
  h284 : Std T 284 f284
  h288 : Std T 288 f288
  h289 : Std T 289 f289
  fl283 : T.flat 283 = true
  h249 : Std T 249 f249
  h279 : Cln T 279 8
section
variable {T : Tab}
theorem conm_call (S : Std16p T) {out : List Move} {m : Move} {d : Option Nat} {rest : List AOper} {st : St} {K : St → Prop} {v : AV} {nx : Nat} (hl : out.length ≤ 2 ^ 29) (h : Own v st.hp 4 (out.map moveC) 0 nx)
    (hk : WpO T rest ⟨putS st d (.pv (.bool (decide (m ∈ out)))), st.hp, st.nx⟩ K) : callQ T 283 [v, .pv (.agg [.int .i64 m.kind, .int .i64 m.pod, .int .i64 m.node, .int .i64 m.over])] d rest st K := by
  have k := conm_ok S.h283 S.h288 out m hl
  have hs := h.snap
  rcases h with ⟨he, rfl⟩ | ⟨id, rfl, _, _, hb⟩
  · obtain rfl : out = [] := by simpa using he
    exact (k.call _ _ _ _ _ (eq_true rfl)).2 hk
  · exact (k.callF S.fl283 rfl _ _ _ _ _ (eq_true rfl) (eq_true (by simp only [snapVs, snapV, snapR, hb]; rfl))).2 hk
set_option maxRecDepth 100000 in
set_option maxHeartbeats 16000000 in
theorem propI_loop (S : Std16p T) (s : Snap) (x : Spec) (t : State) (mid pid i a : Nat) (l : List (Int × Int)) (p : Pod) (hn : s.nodes.length ≤ 2 ^ 29) (hll : s.loads.length ≤ 2 ^ 29) (hxl : x.wants.length ≤ 2 ^ 29) (hl : t.pods.length ≤ 2 ^ 29) (hx : ∀ w ∈ x.wants, w.wf) (ht : ∀ p ∈ t.pods, p.wf) (hp : inI p.id) (hu : ∀ n ∈ usedS s t, inI n) (Q : Exit → St → Prop) (o : List Move)
    (hend : ∀ fr hp nx, PI s x t mid pid l i fr hp nx → Own (look fr 9) hp 4 (o.map moveC) 0 nx → Q (.exit 2) ⟨fr, hp, nx⟩) :
    ∀ (rest : List Int) (j : Nat) (out : List Move), (usedS s t).drop j = rest → j ≤ (usedS s t).length → propI s x t p.id rest out = o → out.length + rest.length ≤ 2 ^ 28 → ∀ (fr : List (Nat × AV)) (hp : Hl) (nx : Nat), PI s x t mid pid l i fr hp nx → a < nx → blkAt hp a = .var (pvs (podC p)) → look fr 11 = .ptr a 0 0 → look fr 51 = .pv (.slice ((usedS s t).map i64C)) → look fr 52 = .pv (.int .i64 (usedS s t).length) → look fr 53 = .pv (.int .i64 j) →
      Own (look fr 9) hp 4 (out.map moveC) 0 nx → Wp T false (.loop f249l0) ⟨fr, hp, nx⟩ Q := by
  intro rest
  induction rest with
  | nil =>
    intro j out hd hj ho hlo fr hp nx I ha ba g11 g51 g52 g53 g9
    have hlen := drop_nil hd hj
    simp only [propI] at ho
    subst ho
    rw [Wp_loop, Wp_eq f249l0.eq_1]
    simp only [runL, defL, binV, simprocAttr, List.drop, List.take, g51, g52, g53, hlen, Int.lt_irrefl]
    refine hend _ _ _ (I.keep (fun k hk => by rcases hk with rfl | rfl | rfl | rfl | rfl | rfl <;> simp only [look_if, blkAt_if, Nat.reduceEqDiff, if_true, if_false]) (by simp only [look_if, blkAt_if, Nat.reduceEqDiff, if_true, if_false, I.g26]) (Nat.le_refl _) (fun k _ _ => rfl)) ?_
    simp only [look_if, blkAt_if, Nat.reduceEqDiff, if_true, if_false]
    exact g9
  | cons node r ih =>
    intro j out hd hj ho hlo fr hp nx I ha ba g11 g51 g52 g53 g9
    have hul := usedS_le s t
    obtain ⟨hget, hlt, hw, hd', hj', hb⟩ := drop_cons hd (by omega)
    have hnode := hu node (List.mem_of_getElem? hget)
    have n3 := I.n3
    have e0 : ¬ nx = 0 := by omega
    have e1 : ¬ nx = 1 := by omega
    have e2 : ¬ nx = 2 := by omega
    have e3 : ¬ nx + 1 = nx := by omega
    have e4 : ¬ nx = a := by omega
    have e5 : ¬ nx + 1 = a := by omega
    have e6 : ¬ nx + 1 + 1 = nx := by omega
    have kd := do_ok S.s s x t (mvT p.id node) hn hll hxl hl hx ht ⟨(show inI 3 from ⟨by decide, by decide⟩), by assumption, hnode, (show inI 0 from ⟨by decide, by decide⟩)⟩
    have ba' := ba
    simp only [podC, pvs] at ba'
    have hO1 := (g9.over (i := nx) (b := .var [.pv (.int .i64 0), .pv (.int .i64 0), .pv (.int .i64 0), .pv (.int .i64 0)]) (.inr (Nat.le_refl _))).over (i := nx) (b := .var [.pv (.int .i64 3), .pv (.int .i64 p.id), .pv (.int .i64 node), .pv (.int .i64 0)]) (.inr (Nat.le_refl _))
    have hout : out.length ≤ 2 ^ 29 := by simp only [List.length_cons] at hlo; omega
    simp only [propI] at ho
    simp only [mvT, snapP, specP, stateP, moveP, moveC] at kd
    cases hdo : doS s x t (mvT p.id node) with
    | inl c =>
      rw [if_neg (by rw [hdo]; simp [isR])] at ho
      simp only [mvT] at hdo
      rw [hdo] at kd
      simp only [makeR, codeE, stateP, List.map_nil] at kd
      have hO2 := (((hO1.up (Nat.le_succ nx)).over (i := nx + 1) (b := .var [.nils, .pv (.int .i64 0), .pv (.int .i64 0)]) (.inr (Nat.le_refl _))).over (i := nx + 1) (b := .var [.pv (.slice []), .pv (.int .i64 0), .pv (.int .i64 0)]) (.inr (Nat.le_refl _))).up (Nat.le_succ (nx + 1))
      rw [Wp_loop, Wp_eq f249l0.eq_1]
      simp only [runL, defL, binV, simprocAttr, List.drop, List.take, g51, g52, g53, hlt, hget, i64C, g11, ba', I.g3, I.g4, I.g5, e0, e1, e2, e3, I.b0, I.b1, I.b2, kd.call, hw]
      refine ih (j + 1) out hd' hj' ho (by simp only [List.length_cons] at hlo; omega) _ _ _ (I.keep (fun k hk => by rcases hk with rfl | rfl | rfl | rfl | rfl | rfl <;> simp only [look_if, blkAt_if, Nat.reduceEqDiff, if_true, if_false]) (by simp only [look_if, blkAt_if, Nat.reduceEqDiff, if_true, if_false, I.g26]) (by omega) (fun k hk _ => ?_)) (by omega) ?_ ?_ ?_ ?_ ?_ ?_
      · have a1 : ¬ nx = k := by omega
        have a2 : ¬ nx + 1 = k := by omega
        simp only [look_if, blkAt_if, Nat.reduceEqDiff, if_true, if_false, a1, a2]
      all_goals try simp only [look_if, blkAt_if, Nat.reduceEqDiff, if_true, if_false, g11, g51, g52, e4, e5]
      · exact ba
      · exact hO2
    | inr u =>
      simp only [mvT] at hdo
      have hdo' : doS s x t (mvT p.id node) = .inr u := hdo
      rw [hdo] at kd
      simp only [makeR, stateP] at kd
      have hO2 := (((hO1.up (Nat.le_succ nx)).over (i := nx + 1) (b := .var [.nils, .pv (.int .i64 0), .pv (.int .i64 0)]) (.inr (Nat.le_refl _))).over (i := nx + 1) (b := .var [.pv (.slice (u.pods.map podC)), .pv (.int .i64 u.pre), .pv (.int .i64 u.shi)]) (.inr (Nat.le_refl _))).up (Nat.le_succ (nx + 1))
      rw [Wp_loop, Wp_eq f249l0.eq_1]
      simp only [runL, defL, binV, simprocAttr, List.drop, List.take, g51, g52, g53, hlt, hget, i64C, g11, ba', I.g3, I.g4, I.g5, e0, e1, e2, e3, I.b0, I.b1, I.b2, kd.call]
      refine conm_call S (out := out) (m := mvT p.id node) hout hO2 ?_
      by_cases hm : mvT p.id node ∈ out
      · rw [if_neg (by simp [hm])] at ho
        simp only [runL, defL, binV, simprocAttr, List.drop, List.take, hm, hw, g53]
        refine ih (j + 1) out hd' hj' ho (by simp only [List.length_cons] at hlo; omega) _ _ _ (I.keep (fun k hk => by rcases hk with rfl | rfl | rfl | rfl | rfl | rfl <;> simp only [look_if, blkAt_if, Nat.reduceEqDiff, if_true, if_false]) (by simp only [look_if, blkAt_if, Nat.reduceEqDiff, if_true, if_false, I.g26]) (by omega) (fun k hk _ => ?_)) (by omega) ?_ ?_ ?_ ?_ ?_ ?_
        · have a1 : ¬ nx = k := by omega
          have a2 : ¬ nx + 1 = k := by omega
          simp only [look_if, blkAt_if, Nat.reduceEqDiff, if_true, if_false, a1, a2]
        all_goals try simp only [look_if, blkAt_if, Nat.reduceEqDiff, if_true, if_false, g11, g51, g52, e4, e5]
        · exact ba
        · exact hO2
      · rw [if_pos ⟨by rw [hdo']; rfl, hm⟩] at ho
        have hol : (out.map moveC).length + 1 ≤ 2 ^ 30 := by rw [List.length_map]; omega
        obtain ⟨v', W, n, a1, a2, a3, a4⟩ := hO2.app1V (moveC (mvT p.id node)) hol
        simp only [moveC, mvT] at a1 a2 a3
        simp only [runL, defL, binV, simprocAttr, List.drop, List.take, hm, e3, partsScal, srcV, chunk, allLen, List.all_cons, List.all_nil, a1, hw, g53]
        refine ih (j + 1) (out ++ [mvT p.id node]) hd' hj' ho (by simp only [List.length_cons, List.length_append, List.length_nil] at hlo ⊢; omega) _ _ _ (I.keep (fun k hk => by rcases hk with rfl | rfl | rfl | rfl | rfl | rfl <;> simp only [look_if, blkAt_if, Nat.reduceEqDiff, if_true, if_false]) (by simp only [look_if, blkAt_if, Nat.reduceEqDiff, if_true, if_false, I.g26]) (by omega) (fun k hk hne => ?_)) (by omega) ?_ ?_ ?_ ?_ ?_ ?_
        · have b1 : ¬ nx = k := by omega
          have b2 : ¬ nx + 1 = k := by omega
          have b3 := a2 k (by omega) (by simp only [look_if, blkAt_if, Nat.reduceEqDiff, if_true, if_false, b1, b2]; exact hne)
          rw [b3]
          simp only [look_if, blkAt_if, Nat.reduceEqDiff, if_true, if_false, b1, b2]
        · have b3 := a2 a (by omega) (by simp only [look_if, blkAt_if, Nat.reduceEqDiff, if_true, if_false, e4, e5, ba]; simp)
          rw [b3]
          simp only [look_if, blkAt_if, Nat.reduceEqDiff, if_true, if_false, e4, e5, ba]
        all_goals try simp only [look_if, blkAt_if, Nat.reduceEqDiff, if_true, if_false, g11, g51, g52]
        simpa only [List.map_append, List.map_cons, List.map_nil, moveC, mvT] using a3
end
end Go.Proofs.YtggjhmbbbebfeaaGreatDoor.Ab
set_option linter.unusedVariables false
set_option linter.unusedSimpArgs false
namespace Go.Proofs.YtggjhmbbbebfeaaGreatDoor.Ab
open Go
section
variable {T : Tab}
set_option maxRecDepth 100000 in
set_option maxHeartbeats 16000000 in
theorem propP_loop (S : Std16p T) (s : Snap) (x : Spec) (t : State) (mid pid : Nat) (l : List (Int × Int)) (hc : ∀ k, (lk k l).getD 0 = (nAt k t.pods : Nat)) (hn : s.nodes.length ≤ 1000) (hll : s.loads.length ≤ 2 ^ 29) (hxl : x.wants.length ≤ 2 ^ 29) (hl : t.pods.length ≤ 14) (hx : ∀ w ∈ x.wants, w.wf) (ht : ∀ p ∈ t.pods, p.wf) (hu : ∀ n ∈ usedS s t, inI n) (Q : Exit → St → Prop) (o : List Move)
    (hend : ∀ fr hp nx, Own (look fr 9) hp 4 (o.map moveC) 0 nx → Q (.exit 0) ⟨fr, hp, nx⟩) :
    ∀ (rest : List Pod) (i : Nat) (out : List Move), t.pods.drop i = rest → i ≤ t.pods.length → propP s x t rest out = o → out.length ≤ i * 1000 → ∀ (fr : List (Nat × AV)) (hp : Hl) (nx : Nat), PI s x t mid pid l i fr hp nx →
      Own (look fr 9) hp 4 (out.map moveC) 0 nx → Wp T false (.loop f249l1) ⟨fr, hp, nx⟩ Q := by
  intro rest
  induction rest with
  | nil =>
    intro i out hd hi ho hlo fr hp nx I g9
    have hlen := drop_nil hd hi
    simp only [propP] at ho
    subst ho
    rw [Wp_loop, Wp_eq f249l1.eq_1]
    simp only [runL, defL, binV, simprocAttr, List.drop, List.take, I.g25, I.g26, hlen, Int.lt_irrefl]
    refine hend _ _ _ ?_
    simp only [look_if, blkAt_if, Nat.reduceEqDiff, if_true, if_false]
    exact g9
  | cons p r ih =>
    intro i out hd hi ho hlo fr hp nx I g9
    have hul := usedS_le s t
    obtain ⟨hget, hlt, hw, hd', hi', hb⟩ := drop_cons hd (by omega)
    have hpw := ht p (List.mem_of_getElem? hget)
    have n3 := I.n3
    have m3 := I.m3
    have mn := I.mn
    have pn := I.pn
    have e0 : ¬ nx = 0 := by omega
    have e1 : ¬ nx = 1 := by omega
    have e2 : ¬ nx = 2 := by omega
    have em : ¬ nx = mid := by omega
    have ep : ¬ nx = pid := by omega
    have hil : i < t.pods.length := by omega
    have ku := used_ok S.u s t (by omega) (by omega)
    have kc := coni_ok S.h284 S.h289 (usedS s t) p.node (by omega)
    simp only [snapP, stateP] at ku
    have hO1 := ((g9.over (i := nx) (b := .var [.pv (.int .i64 0), .pv (.int .i64 0), .pv (.int .i64 0), .pv (.int .u64 0), .pv (.int .u64 0), .pv (.int .u64 0), .pv (.int .u64 0), .pv (.int .i64 0)]) (.inr (Nat.le_refl _))).over (i := nx) (b := .var (pvs (podC p))) (.inr (Nat.le_refl _))).up (Nat.le_succ nx)
    simp only [propP] at ho
    have i0 : ∀ hp', (∀ k, k < nx → blkAt hp' k = blkAt hp k) → ∀ fr', (∀ k, k = 3 ∨ k = 4 ∨ k = 5 ∨ k = 7 ∨ k = 24 ∨ k = 25 → look fr' k = look fr k) → look fr' 26 = .pv (.int .i64 i) → PI s x t mid pid l i fr' hp' (nx + 1) := fun hp' h1 fr' h2 h3 => I.keep h2 h3 (Nat.le_succ _) (fun k h _ => h1 k h)
    have skip : (p.node = 0 ∨ ¬ nAt p.node t.pods = 1 ∨ ¬ p.node ∈ usedS s t) → propP s x t r out = o := fun h => by rw [if_pos h] at ho; exact ho
    obtain c | c | c | c : p.node = 0 ∨ (¬ p.node = 0 ∧ ¬ nAt p.node t.pods = 1) ∨ (¬ p.node = 0 ∧ nAt p.node t.pods = 1 ∧ ¬ p.node ∈ usedS s t) ∨ (¬ p.node = 0 ∧ nAt p.node t.pods = 1 ∧ p.node ∈ usedS s t) := by
      by_cases c1 : p.node = 0
      · exact .inl c1
      · by_cases c2 : nAt p.node t.pods = 1
        · by_cases c3 : p.node ∈ usedS s t
          · exact .inr (.inr (.inr ⟨c1, c2, c3⟩))
          · exact .inr (.inr (.inl ⟨c1, c2, c3⟩))
        · exact .inr (.inl ⟨c1, c2⟩)
    case inl =>
      have ho' := skip (.inl c)
      rw [Wp_loop, Wp_eq f249l1.eq_1]
      simp only [runL, defL, binV, simprocAttr, List.drop, List.take, I.g24, I.g25, I.g26, hlt, hil, I.bp, hget, podC]
      refine (Wp_calmS rfl).2 ?_
      simp only [runL, defL, binV, simprocAttr, List.drop, List.take, I.g7, em, I.bm, mapFind_C, getD_int, hc, decide_eq_true c, I.g26, hw]
      refine ih (i + 1) out hd' hi' ho' (by omega) _ _ _ (I.keep (fun k hk => by rcases hk with rfl | rfl | rfl | rfl | rfl | rfl <;> simp only [look_if, blkAt_if, Nat.reduceEqDiff, if_true, if_false]) (by simp only [look_if, blkAt_if, Nat.reduceEqDiff, if_true, if_false]) (Nat.le_succ _) (fun k hk _ => ?_)) ?_
      · have a1 : ¬ nx = k := by omega
        simp only [look_if, blkAt_if, Nat.reduceEqDiff, if_true, if_false, a1]
      · simp only [look_if, blkAt_if, Nat.reduceEqDiff, if_true, if_false]
        exact hO1
    case inr.inl =>
      obtain ⟨c1, c2⟩ := c
      have c2' : ¬ ((nAt p.node t.pods : Nat) : Int) = 1 := by omega
      have ho' := skip (.inr (.inl c2))
      rw [Wp_loop, Wp_eq f249l1.eq_1]
      simp only [runL, defL, binV, simprocAttr, List.drop, List.take, I.g24, I.g25, I.g26, hlt, hil, I.bp, hget, podC]
      refine (Wp_calmS rfl).2 ?_
      simp only [runL, defL, binV, simprocAttr, List.drop, List.take, I.g7, em, I.bm, mapFind_C, getD_int, hc, c1, c2', I.g26, hw]
      refine ih (i + 1) out hd' hi' ho' (by omega) _ _ _ (I.keep (fun k hk => by rcases hk with rfl | rfl | rfl | rfl | rfl | rfl <;> simp only [look_if, blkAt_if, Nat.reduceEqDiff, if_true, if_false]) (by simp only [look_if, blkAt_if, Nat.reduceEqDiff, if_true, if_false]) (Nat.le_succ _) (fun k hk _ => ?_)) ?_
      · have a1 : ¬ nx = k := by omega
        simp only [look_if, blkAt_if, Nat.reduceEqDiff, if_true, if_false, a1]
      · simp only [look_if, blkAt_if, Nat.reduceEqDiff, if_true, if_false]
        exact hO1
    case inr.inr.inl =>
      obtain ⟨c1, c2, c3⟩ := c
      have c2' : ((nAt p.node t.pods : Nat) : Int) = 1 := by omega
      have ho' := skip (.inr (.inr c3))
      rw [Wp_loop, Wp_eq f249l1.eq_1]
      simp only [runL, defL, binV, simprocAttr, List.drop, List.take, I.g24, I.g25, I.g26, hlt, hil, I.bp, hget, podC]
      refine (Wp_calmS rfl).2 ?_
      simp only [runL, defL, binV, simprocAttr, List.drop, List.take, I.g3, I.g5, I.g7, e0, e2, em, I.b0, I.b2, I.bm, mapFind_C, getD_int, hc, c1, decide_eq_true c2', ku.callD, kc.callD, c3, I.g26, hw]
      refine ih (i + 1) out hd' hi' ho' (by omega) _ _ _ (I.keep (fun k hk => by rcases hk with rfl | rfl | rfl | rfl | rfl | rfl <;> simp only [look_if, blkAt_if, Nat.reduceEqDiff, if_true, if_false]) (by simp only [look_if, blkAt_if, Nat.reduceEqDiff, if_true, if_false]) (Nat.le_succ _) (fun k hk _ => ?_)) ?_
      · have a1 : ¬ nx = k := by omega
        simp only [look_if, blkAt_if, Nat.reduceEqDiff, if_true, if_false, a1]
      · simp only [look_if, blkAt_if, Nat.reduceEqDiff, if_true, if_false]
        exact hO1
    case inr.inr.inr =>
      obtain ⟨c1, c2, c3⟩ := c
      have c2' : ((nAt p.node t.pods : Nat) : Int) = 1 := by omega
      rw [if_neg (by simp [c1, c2, c3])] at ho
      rw [Wp_loop, Wp_eq f249l1.eq_1]
      simp only [runL, defL, binV, simprocAttr, List.drop, List.take, I.g24, I.g25, I.g26, hlt, hil, I.bp, hget, podC]
      refine (Wp_calmS rfl).2 ?_
      simp only [runL, defL, binV, simprocAttr, List.drop, List.take, I.g3, I.g5, I.g7, e0, e2, em, I.b0, I.b2, I.bm, mapFind_C, getD_int, hc, c1, decide_eq_true c2', ku.callD, ku.call, kc.callD, c3]
      refine propI_loop S s x t mid pid i nx l p (by omega) hll hxl (by omega) hx ht hpw.1 hu _ (propI s x t p.id (usedS s t) out) (fun fr' hp' nx' I' g9' => ?_) (usedS s t) 0 out rfl (Nat.zero_le _) rfl ?_ _ _ _ (i0 _ (fun k hk => ?_) _ (fun k hk => by rcases hk with rfl | rfl | rfl | rfl | rfl | rfl <;> simp only [look_if, blkAt_if, Nat.reduceEqDiff, if_true, if_false]) ?_) (Nat.lt_succ_self _) ?_ ?_ ?_ ?_ ?_ ?_
      · simp only [runL, defL, binV, simprocAttr, List.drop, List.take, I'.g26, hw]
        refine ih (i + 1) _ hd' hi' ho (by have := propI_len s x t p.id (usedS s t) out; omega) _ _ _ (I'.keep (fun k hk => by rcases hk with rfl | rfl | rfl | rfl | rfl | rfl <;> simp only [look_if, blkAt_if, Nat.reduceEqDiff, if_true, if_false]) (by simp only [look_if, blkAt_if, Nat.reduceEqDiff, if_true, if_false]) (Nat.le_refl _) (fun k _ _ => rfl)) ?_
        simp only [look_if, blkAt_if, Nat.reduceEqDiff, if_true, if_false]
        exact g9'
      · omega
      · have a1 : ¬ nx = k := by omega
        simp only [look_if, blkAt_if, Nat.reduceEqDiff, if_true, if_false, a1]
      · simp only [look_if, blkAt_if, Nat.reduceEqDiff, if_true, if_false, I.g26]
      · simp only [look_if, blkAt_if, Nat.reduceEqDiff, if_true, if_false, podC, pvs]
      · simp only [look_if, blkAt_if, Nat.reduceEqDiff, if_true, if_false]
      · simp only [look_if, blkAt_if, Nat.reduceEqDiff, if_true, if_false]
      · simp only [look_if, blkAt_if, Nat.reduceEqDiff, if_true, if_false, List.length_map]
      · simp only [look_if, blkAt_if, Nat.reduceEqDiff, if_true, if_false]; rfl
      · simp only [look_if, blkAt_if, Nat.reduceEqDiff, if_true, if_false]; exact hO1
set_option maxRecDepth 100000 in
set_option maxHeartbeats 4000000 in
theorem propose_ok (S : Std16p T) (s : Snap) (x : Spec) (t : State) (hn : s.nodes.length ≤ 1000) (hll : s.loads.length ≤ 2 ^ 29) (hxl : x.wants.length ≤ 2 ^ 29) (hl : t.pods.length ≤ 14) (hx : ∀ w ∈ x.wants, w.wf) (ht : ∀ p ∈ t.pods, p.wf) (hr : RiseP t.pods) (hu : ∀ n ∈ usedS s t, inI n) :
    Gives T 249 [snapP s, specP x, stateP t] (.slice ((proposeS s x t).map moveC)) := by
  refine gives S.h249 rfl ?_
  simp only [f249, runL, defL, binV, simprocAttr, List.drop, List.take, snapP, specP, stateP]
  have km : ∀ hp nx, _ := fun hp nx => many_D S.u.h253 (t := t) (hp := hp) (nx := nx) (by omega)
  obtain ⟨v, hp', nx', e, mid, l, rfl, i1, i2, b, hc, fr⟩ := km _ _
  refine (callQ_raw S.u.h253.raw e).2 ?_
  have b0 := fr 0 (show (0 : Nat) < 3 from by decide)
  have b1 := fr 1 (show (1 : Nat) < 3 from by decide)
  have b2 := fr 2 (show (2 : Nat) < 3 from by decide)
  have j1 : 3 ≤ mid := i1
  have j2 : 3 ≤ nx' := Nat.le_of_lt (Nat.lt_of_le_of_lt j1 i2)
  clear i1
  simp only [look_if, blkAt_if, Nat.reduceEqDiff, if_true, if_false] at b0 b1 b2
  simp only [runL, defL, binV, simprocAttr, List.drop, List.take, b2]
  rw [S.h279.call (allLen_pods _) (by rw [List.length_map]; omega)]
  cases hp0 : t.pods with
  | nil =>
    simp only [List.map_nil]
    simp only [runL, defL, binV, simprocAttr, List.drop, List.take]
    refine (callQ_raw S.st.h292.raw (sort_D0 S.st)).2 ?_
    simp only [runL, defL, binV, simprocAttr, List.drop, List.take]
    rw [Wp_loop, Wp_eq f249l1.eq_1]
    have z0 : ((0 : Nat) : Int) = 0 := rfl
    simp only [runL, defL, binV, simprocAttr, List.drop, List.take, proposeS, hp0, propP, List.map_nil, z0, Int.lt_irrefl]
  | cons q r =>
    have f0 : ¬ nx' = 0 := by omega
    have f1 : ¬ nx' = 1 := by omega
    have f2 : ¬ nx' = 2 := by omega
    have f3 : ¬ nx' = mid := by omega
    have hlen : ((podC q :: r.map podC).length : Int) = (t.pods.length : Nat) := by simp [hp0]
    simp only [List.map_cons]
    simp only [runL, defL, binV, simprocAttr, List.drop, List.take]
    refine (callQ_raw S.st.h292.raw (sort_D S.st hr hl (by rw [hp0]; simp) (by simp only [look_if, blkAt_if, Nat.reduceEqDiff, if_true, if_false, hp0, List.map_cons]))).2 ?_
    simp only [runL, defL, binV, simprocAttr, List.drop, List.take]
    refine propP_loop S s x t mid nx' l hc hn hll hxl hl hx ht hu _ (proposeS s x t) (fun fr2 hp2 nx2 g9 => ?_) t.pods 0 [] rfl (Nat.zero_le _) rfl (Nat.zero_le _) _ _ _ ⟨?_, ?_, ?_, ?_, ?_, ?_, ?_, by omega, j1, by omega, j2, Nat.lt_succ_self _, ?_, ?_, ?_, ?_, ?_⟩ ?_
    · rcases g9 with ⟨he, g9⟩ | ⟨id, g9, _, _, hb⟩
      · have he' : (proposeS s x t).map moveC = [] := he
        simp only [runL, defL, binV, simprocAttr, List.drop, List.take, g9, he']
      · simp only [runL, defL, binV, simprocAttr, List.drop, List.take, g9, hb]
    · simp only [look_if, blkAt_if, Nat.reduceEqDiff, if_true, if_false]
    · simp only [look_if, blkAt_if, Nat.reduceEqDiff, if_true, if_false]
    · simp only [look_if, blkAt_if, Nat.reduceEqDiff, if_true, if_false]
    · simp only [look_if, blkAt_if, Nat.reduceEqDiff, if_true, if_false]
    · simp only [look_if, blkAt_if, Nat.reduceEqDiff, if_true, if_false]
    · simp only [look_if, blkAt_if, Nat.reduceEqDiff, if_true, if_false, hp0, List.length_cons, List.length_map]
    · simp only [look_if, blkAt_if, Nat.reduceEqDiff, if_true, if_false]; rfl
    · simp only [look_if, blkAt_if, Nat.reduceEqDiff, if_true, if_false, f0, b0]
    · simp only [look_if, blkAt_if, Nat.reduceEqDiff, if_true, if_false, f1, b1]
    · simp only [look_if, blkAt_if, Nat.reduceEqDiff, if_true, if_false, f2, b2]
    · simp only [look_if, blkAt_if, Nat.reduceEqDiff, if_true, if_false, f3, b]
    · simp only [look_if, blkAt_if, Nat.reduceEqDiff, if_true, if_false, hp0, List.map_cons]
    · simp only [look_if, blkAt_if, Nat.reduceEqDiff, if_true, if_false]; exact Own.nil
end
end Go.Proofs.YtggjhmbbbebfeaaGreatDoor.Ab
set_option linter.unusedVariables false
set_option linter.unusedSimpArgs false
namespace Go.Proofs.YtggjhmbbbebfeaaGreatDoor.Ab
open Go
def tidyS (s : Snap) (x : Spec) : Nat → State → List Move → State × List Move
  | 0, t, out => (t, out)
  | n + 1, t, out => match proposeS s x t with
    | [] => (t, out)
    | m :: _ => match doS s x t m with
      | .inl _ => (t, out)
      | .inr u => tidyS s x n u (out ++ [m])
structure Tame (t : State) : Prop where
  len : t.pods.length ≤ 14
  wf : ∀ p ∈ t.pods, p.wf
  rise : RiseP t.pods
structure TI (s : Snap) (x : Spec) (n i : Nat) (fr : List (Nat × AV)) (hp : Hl) : Prop where
  g4 : look fr 4 = .ptr 0 0 0
  g5 : look fr 5 = .ptr 1 0 0
  g6 : look fr 6 = .ptr 2 0 0
  g8 : look fr 8 = .ptr 3 0 0
  g20 : look fr 20 = .pv (.int .i64 n)
  g21 : look fr 21 = .pv (.int .i64 i)
  b0 : blkAt hp 0 = .var [.pv (.slice (s.nodes.map nodeC)), .pv (.slice (s.loads.map loadC)), .pv (.slice (s.pods.map podC))]
  b1 : blkAt hp 1 = .var [.pv (.slice (x.wants.map wantC)), .pv (.int .i64 x.pre), .pv (.int .i64 x.shi)]
  b3 : blkAt hp 3 = .var [.nils, .pv (.int .i64 0), .pv (.int .i64 0)]
theorem TI.keep {s : Snap} {x : Spec} {n i i' : Nat} {fr fr' : List (Nat × AV)} {hp hp' : Hl} (h : TI s x n i fr hp) (hf : ∀ k, k = 4 ∨ k = 5 ∨ k = 6 ∨ k = 8 ∨ k = 20 → look fr' k = look fr k) (h21 : look fr' 21 = .pv (.int .i64 i'))
    (hb : ∀ k, k = 0 ∨ k = 1 ∨ k = 3 → blkAt hp' k = blkAt hp k) : TI s x n i' fr' hp' :=
  ⟨by rw [hf 4 (by simp), h.g4], by rw [hf 5 (by simp), h.g5], by rw [hf 6 (by simp), h.g6], by rw [hf 8 (by simp), h.g8], by rw [hf 20 (by simp), h.g20], h21, by rw [hb 0 (by simp), h.b0], by rw [hb 1 (by simp), h.b1], by rw [hb 3 (by simp), h.b3]⟩
def B2 (t : State) (hp : Hl) (nx : Nat) : Prop := blkAt hp 2 = .var [.pv (.slice (t.pods.map podC)), .pv (.int .i64 t.pre), .pv (.int .i64 t.shi)] ∨
  ∃ k, 4 ≤ k ∧ k < nx ∧ blkAt hp 2 = .var [.ms k, .pv (.int .i64 t.pre), .pv (.int .i64 t.shi)] ∧ blkAt hp k = .row 8 (t.pods.map podC)
section
variable {T : Tab}
theorem Gives.callZ {n : Nat} {ps : List PV} {p : PV} (h : Gives T n ps p) (hf : T.flat n = false) {args : List AV} {d : Option Nat} {l : List AOper} {st : St} {K : St → Prop} {k sz : Nat} {es : List (List PV)} (hrow : rowIdsL args = [k]) (hb : blkAt st.hp k = .row sz es) (h0 : pureVs args = none) (h1 : pureVs (frzVs k es args) = some ps)
    (hk : ∀ fr' hp', (∀ t, look fr' t = frzV k es (look st.fr t)) → (∀ i, i ≠ k → blkAt hp' i = frzB k es (blkAt st.hp i)) → WpO T l ⟨putS ⟨fr', hp', st.nx⟩ d (.pv p), hp', st.nx⟩ K) : callQ T n args d l st K := by
  have e1 : frzSs (rowIdsL args) st args = (⟨frzF k es st.fr, (k, .dead) :: frzH k es st.hp, st.nx⟩, frzVs k es args) := by
    rw [hrow]
    simp only [frzSs, frzS, frzA, hb]
  refine h.callY hf h0 (by rw [e1]; exact h1) ?_
  rw [e1]
  refine hk (frzF k es st.fr) ((k, .dead) :: frzH k es st.hp) (fun t => look_frz _ _) (fun i hi => ?_)
  have : ¬ k = i := fun h => hi h.symm
  simp only [blkAt_if, this, if_false]
  exact blkAt_frz _ _
theorem prop_callP {s : Snap} {x : Spec} {t : State} (kp : Gives T 249 [snapP s, specP x, stateP t] (.slice ((proposeS s x t).map moveC))) {n i : Nat} {out : List Move} {rest : List AOper} {st : St} {K : St → Prop} (I : TI s x n i st.fr st.hp) (g10 : Own (look st.fr 10) st.hp 4 (out.map moveC) 0 st.nx)
    (b2 : blkAt st.hp 2 = .var [.pv (.slice (t.pods.map podC)), .pv (.int .i64 t.pre), .pv (.int .i64 t.shi)])
    (hk : ∀ fr hp, TI s x n i fr hp → Own (look fr 10) hp 4 (out.map moveC) 0 st.nx → blkAt hp 2 = .var [.pv (.slice (t.pods.map podC)), .pv (.int .i64 t.pre), .pv (.int .i64 t.shi)] → WpO T rest ⟨(26, .pv (.slice ((proposeS s x t).map moveC))) :: fr, hp, st.nx⟩ K) :
    callQ T 249 [.pv (snapP s), .pv (specP x), .pv (stateP t)] (some 26) rest st K :=
  (kp.call _ _ _ _ _ (eq_true rfl)).2 (hk st.fr st.hp I g10 b2)
theorem prop_callO {s : Snap} {x : Spec} {t : State} (kp : Gives T 249 [snapP s, specP x, stateP t] (.slice ((proposeS s x t).map moveC))) (hf : T.flat 249 = false) {n i k : Nat} {out : List Move} {rest : List AOper} {st : St} {K : St → Prop} (I : TI s x n i st.fr st.hp) (g10 : Own (look st.fr 10) st.hp 4 (out.map moveC) 0 st.nx)
    (hk4 : 4 ≤ k) (b2 : blkAt st.hp 2 = .var [.ms k, .pv (.int .i64 t.pre), .pv (.int .i64 t.shi)]) (bk : blkAt st.hp k = .row 8 (t.pods.map podC))
    (hk : ∀ fr hp, TI s x n i fr hp → Own (look fr 10) hp 4 (out.map moveC) 0 st.nx → blkAt hp 2 = .var [.pv (.slice (t.pods.map podC)), .pv (.int .i64 t.pre), .pv (.int .i64 t.shi)] → WpO T rest ⟨(26, .pv (.slice ((proposeS s x t).map moveC))) :: fr, hp, st.nx⟩ K) :
    callQ T 249 [.pv (snapP s), .pv (specP x), .agg [.ms k, .pv (.int .i64 t.pre), .pv (.int .i64 t.shi)]] (some 26) rest st K := by
  have q0 : Nat.beq 0 k = false := beq_ne (by omega)
  have q1 : Nat.beq 1 k = false := beq_ne (by omega)
  have q2 : Nat.beq 2 k = false := beq_ne (by omega)
  have q3 : Nat.beq 3 k = false := beq_ne (by omega)
  refine kp.callZ hf (k := k) (by simp only [rowIdsL, rowIds, List.append_nil, List.nil_append, List.cons_append]) bk (by simp only [pureVs, pureV]) (by simp only [frzVs, frzV, beq_self, cond_true, mkAgg, allPV, pureVs, pureV, stateP]) (fun fr' hp' hf hb => ?_)
  refine hk fr' hp' ⟨?_, ?_, ?_, ?_, ?_, ?_, ?_, ?_, ?_⟩ ?_ ?_
  · rw [hf, I.g4]; simp only [frzV, q0, cond_false]
  · rw [hf, I.g5]; simp only [frzV, q1, cond_false]
  · rw [hf, I.g6]; simp only [frzV, q2, cond_false]
  · rw [hf, I.g8]; simp only [frzV, q3, cond_false]
  · rw [hf, I.g20]; simp only [frzV]
  · rw [hf, I.g21]; simp only [frzV]
  · rw [hb 0 (by omega), I.b0]; simp only [frzB, frzVs, frzV]
  · rw [hb 1 (by omega), I.b1]; simp only [frzB, frzVs, frzV]
  · rw [hb 3 (by omega), I.b3]; simp only [frzB, frzVs, frzV]
  · rw [hf]
    rcases g10 with ⟨he, h10⟩ | ⟨id, h10, _, h2, h3⟩
    · rw [h10]; exact .inl ⟨he, by simp only [frzV]⟩
    · have hne : id ≠ k := fun h => by rw [h, bk] at h3; simp at h3
      rw [h10]
      refine .inr ⟨id, by simp only [frzV, beq_ne hne, cond_false], Nat.zero_le _, h2, ?_⟩
      rw [hb id hne, h3]
      rfl
  · rw [hb 2 (by omega), b2]; simp only [frzB, frzVs, frzV, beq_self, cond_true]
end
end Go.Proofs.YtggjhmbbbebfeaaGreatDoor.Ab
