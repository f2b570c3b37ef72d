/- The layer, part 5: Co12, Sp12, Sp3r, Sp3s, Sp3t, Sp3z, Sp3y, Sp13, Sp13b, Sp13c, Sp13d, Sp9c, Sp9m, Sp12w. -/
import Derived.Test.YtlfphlobcopemaaGreatDoorA4
set_option linter.unusedVariables false
namespace Go.Proofs.YtlfphlobcopemaaGreatDoor.Ab
open Go
def f109 : AFunc := ⟨91, [.t 6],
 (.seq (.ops [
   ⟨some 3, .box (.t 0), none, []⟩,
   ⟨some 4, .box (.t 1), none, []⟩,
   ⟨some 6, .mv (.c (.pv (.bool false))), none, []⟩])
  (.seq (.ops [
   ⟨some 17, .call 110 [], none, []⟩,
   ⟨some 7, .mv (.t 17), none, [0, 0, 0]⟩])
  (.seq (.ops [
   ⟨some 18, .load true 3 (.t 3), none, []⟩,
   ⟨some 19, .call 153 [(.t 18)], none, [0]⟩,
   ⟨some 8, .mv (.t 19), none, [1, 1, 0, 1]⟩])
  (.seq (.seq (.ops [
   ⟨some 20, .mv (.t 8), none, []⟩,
   ⟨some 21, .not (.t 20), none, [0]⟩,
   ⟨some 22, .mv (.t 21), none, [1]⟩,
   ⟨some 23, .fieldAddr 0 (.t 4), some (22, false), [2]⟩,
   ⟨some 24, .load false 1 (.t 23), some (22, false), [3, 2]⟩,
   ⟨some 25, .len (.t 24), some (22, false), [4, 2]⟩,
   ⟨some 26, .bin .gtr none (.t 25) (.c (.pv (.int .i64 40))), some (22, false), [5, 2]⟩,
   ⟨some 27, .pick (.t 22) (.c (.pv (.bool true))) (.t 26), none, [2, 6]⟩,
   ⟨some 28, .mv (.t 27), none, [7, 2]⟩,
   ⟨some 29, .mv (.t 2), some (28, false), [8]⟩,
   ⟨some 30, .len (.t 29), some (28, false), [9, 8]⟩,
   ⟨some 31, .bin .gtr none (.t 30) (.c (.pv (.int .i64 60))), some (28, false), [10, 8]⟩,
   ⟨some 32, .pick (.t 28) (.c (.pv (.bool true))) (.t 31), none, [8, 11]⟩])
  (.cond (.t 32)
   (.seq (.ops [
     ⟨some 33, .mv (.t 7), none, []⟩,
     ⟨some 6, .mv (.t 33), none, [0, 0]⟩])
    .ret)
   .skip))
  (.seq (.ops [
   ⟨some 35, .load true 3 (.t 3), none, []⟩,
   ⟨some 36, .load true 3 (.t 4), none, []⟩,
   ⟨some 37, .mv (.t 2), none, []⟩,
   ⟨some 38, .call 247 [(.t 35), (.t 36), (.t 37)], none, [0, 1, 2]⟩,
   ⟨some 34, .mv (.t 38), none, [3]⟩,
   ⟨some 39, .extract (.t 34) 0, none, [4]⟩,
   ⟨some 40, .extract (.t 34) 1, none, [4]⟩,
   ⟨some 41, .extract (.t 34) 2, none, [4]⟩,
   ⟨some 9, .alloc [.nils, (.pv (.int .i64 0)), (.pv (.int .i64 0))], none, []⟩,
   ⟨none, .store 3 (.t 9) (.t 39), none, [8, 5, 3, 0, 1, 2, 3, 4, 5, 8]⟩,
   ⟨some 10, .mv (.t 40), none, [6, 9, 0, 1, 2, 3, 4, 5, 6, 8, 9]⟩,
   ⟨some 11, .mv (.t 41), none, [7, 10, 0, 1, 2, 3, 4, 5, 6, 7, 8, 9, 10]⟩])
  (.seq (.ops [
   ⟨some 43, .load true 3 (.t 3), none, []⟩,
   ⟨some 44, .load true 3 (.t 4), none, []⟩,
   ⟨some 45, .call 152 [(.t 43), (.t 44)], none, [0, 1]⟩,
   ⟨some 42, .mv (.t 45), none, [2]⟩,
   ⟨some 46, .extract (.t 42) 0, none, [3]⟩,
   ⟨some 47, .extract (.t 42) 1, none, [3]⟩,
   ⟨some 12, .mv (.t 46), none, [4, 2, 0, 1, 2, 3, 4]⟩,
   ⟨some 13, .mv (.t 47), none, [5, 6, 0, 1, 2, 3, 4, 5, 6]⟩])
  (.seq (.seq (.ops [
   ⟨some 48, .mv (.t 12), none, []⟩,
   ⟨some 49, .bin .neq none (.t 48) (.c (.pv (.int .i64 0))), none, [0]⟩])
  (.cond (.t 49)
   (.seq (.ops [
     ⟨some 50, .mv (.t 7), none, []⟩,
     ⟨some 51, .mv (.t 50), none, [0]⟩,
     ⟨some 52, .mv (.t 11), some (51, true), [1]⟩,
     ⟨some 53, .mv (.t 12), some (51, true), [1]⟩,
     ⟨some 54, .mv (.t 13), some (51, true), [1]⟩,
     ⟨some 55, .call 105 [(.t 52), (.t 53), (.t 54)], some (51, true), [2, 3, 4, 1, 1]⟩,
     ⟨some 56, .pick (.t 51) (.t 55) (.c (.pv (.bool false))), none, [1, 5]⟩,
     ⟨some 57, .mv (.t 56), none, [6, 5]⟩,
     ⟨some 58, .mv (.t 10), some (57, true), [7]⟩,
     ⟨some 59, .bin .eql none (.t 58) (.c (.pv (.int .i64 0))), some (57, true), [8, 7]⟩,
     ⟨some 60, .pick (.t 57) (.t 59) (.c (.pv (.bool false))), none, [7, 9]⟩,
     ⟨some 61, .mv (.t 60), none, [10, 7]⟩,
     ⟨some 62, .load true 3 (.t 9), some (61, true), [11]⟩,
     ⟨some 63, .build [.nils, (.pv (.int .i64 0)), (.pv (.int .i64 0))] [], some (61, true), [11]⟩,
     ⟨some 64, .call 168 [(.t 62), (.t 63)], some (61, true), [12, 13, 11, 11]⟩,
     ⟨some 65, .pick (.t 61) (.t 64) (.c (.pv (.bool false))), none, [11, 14]⟩,
     ⟨some 6, .mv (.t 65), none, [15, 14, 0, 1, 2, 3, 4, 5, 6, 7, 8, 9, 10, 11, 12, 13, 14, 15]⟩])
    .ret)
   .skip))
  (.seq (.ops [
   ⟨some 67, .load true 3 (.t 3), none, []⟩,
   ⟨some 68, .load true 3 (.t 4), none, []⟩,
   ⟨some 69, .mv (.t 2), none, []⟩,
   ⟨some 70, .call 183 [(.t 67), (.t 68), (.t 69)], none, [0, 1, 2]⟩,
   ⟨some 66, .mv (.t 70), none, [3]⟩,
   ⟨some 71, .extract (.t 66) 0, none, [4]⟩,
   ⟨some 72, .extract (.t 66) 1, none, [4]⟩,
   ⟨some 73, .extract (.t 66) 2, none, [4]⟩,
   ⟨some 14, .alloc [.nils, (.pv (.int .i64 0)), (.pv (.int .i64 0))], none, []⟩,
   ⟨none, .store 3 (.t 14) (.t 71), none, [8, 5, 3, 0, 1, 2, 3, 4, 5, 8]⟩,
   ⟨some 15, .mv (.t 72), none, [6, 9, 0, 1, 2, 3, 4, 5, 6, 8, 9]⟩,
   ⟨some 16, .mv (.t 73), none, [7, 10, 0, 1, 2, 3, 4, 5, 6, 7, 8, 9, 10]⟩])
  (.seq (.ops [
   ⟨some 74, .mv (.t 7), none, []⟩,
   ⟨some 75, .mv (.t 74), none, [0]⟩,
   ⟨some 76, .mv (.t 11), some (75, true), [1]⟩,
   ⟨some 77, .call 102 [(.t 76)], some (75, true), [2, 1, 1]⟩,
   ⟨some 78, .mv (.t 16), some (75, true), [1]⟩,
   ⟨some 79, .bin .eql none (.t 77) (.t 78), some (75, true), [3, 4, 1]⟩,
   ⟨some 80, .pick (.t 75) (.t 79) (.c (.pv (.bool false))), none, [1, 5]⟩,
   ⟨some 81, .mv (.t 80), none, [6, 3]⟩,
   ⟨some 82, .mv (.t 10), some (81, true), [7]⟩,
   ⟨some 83, .mv (.t 15), some (81, true), [7]⟩,
   ⟨some 84, .bin .eql none (.t 82) (.t 83), some (81, true), [8, 9, 7]⟩,
   ⟨some 85, .pick (.t 81) (.t 84) (.c (.pv (.bool false))), none, [7, 10]⟩,
   ⟨some 86, .mv (.t 85), none, [11, 7]⟩,
   ⟨some 87, .load true 3 (.t 9), some (86, true), [12]⟩,
   ⟨some 88, .load true 3 (.t 14), some (86, true), [12]⟩,
   ⟨some 89, .call 168 [(.t 87), (.t 88)], some (86, true), [13, 14, 12, 12]⟩,
   ⟨some 90, .pick (.t 86) (.t 89) (.c (.pv (.bool false))), none, [12, 15]⟩,
   ⟨some 6, .mv (.t 90), none, [16, 15, 0, 1, 2, 3, 4, 5, 6, 7, 8, 9, 10, 11, 12, 13, 14, 15, 16]⟩])
  .ret)))))))))⟩
def f110 : AFunc := ⟨42, [.t 0],
 (.seq (.ops [
   ⟨some 0, .mv (.c (.pv (.bool false))), none, []⟩])
  (.seq (.ops [
   ⟨some 8, .build [(.pv (.int .i64 0)), (.pv (.int .i64 0)), (.pv (.int .u64 0)), (.pv (.int .u64 0)), (.pv (.int .u64 0)), (.pv (.int .u64 0)), (.pv (.int .u64 0)), (.pv (.int .u64 0)), (.pv (.int .u64 0)), (.pv (.int .u64 0))] [(0, 1, (.c (.pv (.int .i64 3)))), (1, 1, (.c (.pv (.int .i64 1))))], none, []⟩,
   ⟨some 9, .bslice 10 1 [(.pv (.int .i64 0)), (.pv (.int .i64 0)), (.pv (.int .u64 0)), (.pv (.int .u64 0)), (.pv (.int .u64 0)), (.pv (.int .u64 0)), (.pv (.int .u64 0)), (.pv (.int .u64 0)), (.pv (.int .u64 0)), (.pv (.int .u64 0))] [(0, 10, (.t 8))], none, [0]⟩,
   ⟨some 10, .build [.nils, .nils, .nils] [(0, 1, (.t 9))], none, [1]⟩,
   ⟨some 1, .alloc [.nils, .nils, .nils], none, []⟩,
   ⟨none, .store 3 (.t 1) (.t 10), none, [3, 2, 0, 1, 2, 3]⟩])
  (.seq (.ops [
   ⟨some 12, .load true 3 (.t 1), none, []⟩,
   ⟨some 13, .build [.nils, (.pv (.int .i64 0)), (.pv (.int .i64 0))] [], none, []⟩,
   ⟨some 14, .call 247 [(.t 12), (.t 13), (.c .nils)], none, [0, 1]⟩,
   ⟨some 11, .mv (.t 14), none, [2]⟩,
   ⟨some 15, .extract (.t 11) 0, none, [3]⟩,
   ⟨some 16, .extract (.t 11) 1, none, [3]⟩,
   ⟨some 17, .extract (.t 11) 2, none, [3]⟩,
   ⟨some 2, .alloc [.nils, (.pv (.int .i64 0)), (.pv (.int .i64 0))], none, []⟩,
   ⟨none, .store 3 (.t 2) (.t 15), none, [7, 4, 2, 0, 1, 2, 3, 4, 7]⟩,
   ⟨some 3, .mv (.t 16), none, [5, 8, 0, 1, 2, 3, 4, 5, 7, 8]⟩,
   ⟨some 4, .mv (.t 17), none, [6, 9, 0, 1, 2, 3, 4, 5, 6, 7, 8, 9]⟩])
  (.seq (.ops [
   ⟨some 19, .build [.nils, .nils, .nils] [], none, []⟩,
   ⟨some 20, .build [.nils, (.pv (.int .i64 0)), (.pv (.int .i64 0))] [], none, []⟩,
   ⟨some 21, .call 247 [(.t 19), (.t 20), (.c .nils)], none, [0, 1]⟩,
   ⟨some 18, .mv (.t 21), none, [2]⟩,
   ⟨some 22, .extract (.t 18) 0, none, [3]⟩,
   ⟨some 23, .extract (.t 18) 1, none, [3]⟩,
   ⟨some 24, .extract (.t 18) 2, none, [3]⟩,
   ⟨some 5, .alloc [.nils, (.pv (.int .i64 0)), (.pv (.int .i64 0))], none, []⟩,
   ⟨none, .store 3 (.t 5) (.t 22), none, [7, 4, 2, 0, 1, 2, 3, 4, 7]⟩,
   ⟨some 6, .mv (.t 23), none, [5, 8, 0, 1, 2, 3, 4, 5, 7, 8]⟩,
   ⟨some 7, .mv (.t 24), none, [6, 9, 0, 1, 2, 3, 4, 5, 6, 7, 8, 9]⟩])
  (.seq (.ops [
   ⟨some 25, .mv (.t 4), none, []⟩,
   ⟨some 26, .bin .eql (some (.iface true)) (.t 25) (.c (.pv .nili)), none, [0]⟩,
   ⟨some 27, .mv (.t 26), none, [1]⟩,
   ⟨some 28, .mv (.t 3), some (27, true), [2]⟩,
   ⟨some 29, .bin .eql none (.t 28) (.c (.pv (.int .i64 0))), some (27, true), [3, 2]⟩,
   ⟨some 30, .pick (.t 27) (.t 29) (.c (.pv (.bool false))), none, [2, 4]⟩,
   ⟨some 31, .mv (.t 30), none, [5, 2]⟩,
   ⟨some 32, .fieldAddr 0 (.t 2), some (31, true), [6]⟩,
   ⟨some 33, .load false 1 (.t 32), some (31, true), [7, 6]⟩,
   ⟨some 34, .len (.t 33), some (31, true), [8, 6]⟩,
   ⟨some 35, .bin .eql none (.t 34) (.c (.pv (.int .i64 0))), some (31, true), [9, 6]⟩,
   ⟨some 36, .pick (.t 31) (.t 35) (.c (.pv (.bool false))), none, [6, 10]⟩,
   ⟨some 37, .mv (.t 36), none, [11, 6]⟩,
   ⟨some 38, .mv (.t 7), some (37, true), [12]⟩,
   ⟨some 39, .mkI 0 (.c (.pv (.int .i64 3))), some (37, true), [12]⟩,
   ⟨some 40, .bin .eql (some (.iface true)) (.t 38) (.t 39), some (37, true), [13, 14, 12]⟩,
   ⟨some 41, .pick (.t 37) (.t 40) (.c (.pv (.bool false))), none, [12, 15]⟩,
   ⟨some 0, .mv (.t 41), none, [16, 12, 0, 1, 2, 3, 4, 5, 6, 7, 8, 9, 10, 11, 12, 13, 14, 15, 16]⟩])
  .ret)))))⟩
def f116l0 : ACode :=
 (.seq (.seq (.ops [
   ⟨some 23, .mv (.t 11), none, []⟩,
   ⟨some 24, .fieldAddr 0 (.t 5), none, []⟩,
   ⟨some 25, .load false 1 (.t 24), none, [1]⟩,
   ⟨some 26, .len (.t 25), none, [2]⟩,
   ⟨some 27, .bin .lss none (.t 23) (.t 26), none, [0, 3]⟩])
  (.cond (.t 27)
   .skip
   (.exit 0)))
  (.seq (.block 1
   (.seq (.draw [
     ⟨some 30, .fieldAddr 0 (.t 5), none, []⟩,
     ⟨some 31, .load false 1 (.t 30), none, [0]⟩,
     ⟨some 32, .mv (.t 11), none, []⟩,
     ⟨some 33, .idxAddr 6 (.t 31) (.t 32), none, [1, 2]⟩,
     ⟨some 34, .fieldAddr 0 (.t 33), none, [3]⟩,
     ⟨some 35, .load false 1 (.t 34), none, [4]⟩,
     ⟨some 36, .fieldAddr 0 (.t 5), none, []⟩,
     ⟨some 37, .load false 1 (.t 36), none, [6]⟩,
     ⟨some 38, .mv (.t 11), none, []⟩,
     ⟨some 39, .bin .sub none (.t 38) (.c (.pv (.int .i64 1))), none, [8]⟩,
     ⟨some 40, .idxAddr 6 (.t 37) (.t 39), none, [7, 9]⟩,
     ⟨some 41, .fieldAddr 0 (.t 40), none, [10]⟩,
     ⟨some 42, .load false 1 (.t 41), none, [11]⟩,
     ⟨some 43, .bin .leq none (.t 35) (.t 42), none, [5, 12]⟩])
    (.cond (.t 43)
     (.seq (.ops [
       ⟨some 44, .mv (.t 9), none, []⟩,
       ⟨some 8, .mv (.t 44), none, [0, 0]⟩])
      .ret)
     .skip)))
  (.ops [
   ⟨some 28, .mv (.t 11), none, []⟩,
   ⟨some 29, .bin .add none (.t 28) (.c (.pv (.int .i64 1))), none, [0]⟩,
   ⟨some 11, .mv (.t 29), none, [1, 0, 1]⟩])))
def f116 : AFunc := ⟨75, [.t 8],
 (.seq (.ops [
   ⟨some 4, .box (.t 0), none, []⟩,
   ⟨some 5, .box (.t 1), none, []⟩,
   ⟨some 6, .box (.t 2), none, []⟩,
   ⟨some 7, .box (.t 3), none, []⟩,
   ⟨some 8, .mv (.c (.pv (.bool false))), none, []⟩])
  (.seq (.ops [
   ⟨some 15, .call 117 [], none, []⟩,
   ⟨some 9, .mv (.t 15), none, [0, 0, 0]⟩])
  (.seq (.ops [
   ⟨some 16, .load true 3 (.t 4), none, []⟩,
   ⟨some 17, .load true 3 (.t 5), none, []⟩,
   ⟨some 18, .load true 3 (.t 6), none, []⟩,
   ⟨some 19, .call 163 [(.t 16), (.t 17), (.t 18)], none, [0, 1, 2]⟩,
   ⟨some 10, .mv (.t 19), none, [3, 3, 0, 1, 2, 3]⟩])
  (.seq (.seq (.ops [
   ⟨some 20, .mv (.t 10), none, []⟩,
   ⟨some 21, .not (.t 20), none, [0]⟩])
  (.cond (.t 21)
   (.seq (.ops [
     ⟨some 22, .mv (.t 9), none, []⟩,
     ⟨some 8, .mv (.t 22), none, [0, 0]⟩])
    .ret)
   .skip))
  (.seq (.seq (.ops [
   ⟨some 11, .mv (.c (.pv (.int .i64 1))), none, []⟩])
  (.block 0
   (.loop f116l0)))
  (.seq (.ops [
   ⟨some 45, .load true 3 (.t 5), none, []⟩,
   ⟨some 46, .load true 3 (.t 6), none, []⟩,
   ⟨some 47, .call 211 [(.t 45), (.t 46)], none, [0, 1]⟩,
   ⟨some 12, .mv (.t 47), none, [2, 2, 0, 1, 2]⟩])
  (.seq (.seq (.ops [
   ⟨some 48, .mv (.t 12), none, []⟩,
   ⟨some 49, .bin .eql none (.t 48) (.c (.pv (.int .i64 0))), none, [0]⟩,
   ⟨some 50, .load true 3 (.t 5), none, []⟩,
   ⟨some 51, .load true 3 (.t 6), none, []⟩,
   ⟨some 52, .call 165 [(.t 50), (.t 51)], none, [2, 3]⟩,
   ⟨some 53, .bin .neq (some .bool) (.t 49) (.t 52), none, [1, 4]⟩])
  (.cond (.t 53)
   (.seq (.ops [
     ⟨some 8, .mv (.c (.pv (.bool false))), none, []⟩])
    .ret)
   .skip))
  (.seq (.ops [
   ⟨some 55, .load true 3 (.t 4), none, []⟩,
   ⟨some 56, .load true 3 (.t 5), none, []⟩,
   ⟨some 57, .load true 3 (.t 6), none, []⟩,
   ⟨some 58, .load true 4 (.t 7), none, []⟩,
   ⟨some 59, .call 246 [(.t 55), (.t 56), (.t 57), (.t 58)], none, [0, 1, 2, 3]⟩,
   ⟨some 54, .mv (.t 59), none, [4]⟩,
   ⟨some 60, .extract (.t 54) 0, none, [5]⟩,
   ⟨some 61, .extract (.t 54) 1, none, [5]⟩,
   ⟨some 13, .alloc [.nils, (.pv (.int .i64 0)), (.pv (.int .i64 0))], none, []⟩,
   ⟨none, .store 3 (.t 13) (.t 60), none, [8, 6, 4, 0, 1, 2, 3, 4, 5, 6, 8]⟩,
   ⟨some 14, .mv (.t 61), none, [7, 9, 0, 1, 2, 3, 4, 5, 6, 7, 8, 9]⟩])
  (.seq (.ops [
   ⟨some 62, .mv (.t 9), none, []⟩,
   ⟨some 63, .mv (.t 62), none, [0]⟩,
   ⟨some 64, .mv (.t 14), some (63, true), [1]⟩,
   ⟨some 65, .bin .neq (some (.iface true)) (.t 64) (.c (.pv .nili)), some (63, true), [2, 1]⟩,
   ⟨some 66, .mv (.t 65), some (63, true), [3, 1, 1]⟩,
   ⟨some 67, .load true 3 (.t 5), some (66, false), [4]⟩,
   ⟨some 68, .load true 3 (.t 13), some (66, false), [4]⟩,
   ⟨some 69, .call 211 [(.t 67), (.t 68)], some (66, false), [5, 6, 4, 4]⟩,
   ⟨some 70, .mv (.t 12), some (66, false), [4]⟩,
   ⟨some 71, .bin .sub none (.t 70) (.c (.pv (.int .i64 1))), some (66, false), [8, 4]⟩,
   ⟨some 72, .bin .geq none (.t 69) (.t 71), some (66, false), [7, 9, 4]⟩,
   ⟨some 73, .pick (.t 66) (.c (.pv (.bool true))) (.t 72), some (63, true), [4, 10, 1]⟩,
   ⟨some 74, .pick (.t 63) (.t 73) (.c (.pv (.bool false))), none, [1, 11]⟩,
   ⟨some 8, .mv (.t 74), none, [12, 7, 0, 1, 2, 3, 4, 5, 6, 7, 8, 9, 10, 11, 12]⟩])
  .ret)))))))))⟩
def f117 : AFunc := ⟨32, [.t 0],
 (.seq (.ops [
   ⟨some 0, .mv (.c (.pv (.bool false))), none, []⟩])
  (.seq (.ops [
   ⟨some 3, .build [(.pv (.int .i64 0)), (.pv (.int .i64 0)), (.pv (.int .u64 0)), (.pv (.int .u64 0)), (.pv (.int .u64 0)), (.pv (.int .u64 0)), (.pv (.int .u64 0)), (.pv (.int .u64 0)), (.pv (.int .u64 0)), (.pv (.int .u64 0))] [(0, 1, (.c (.pv (.int .i64 3)))), (1, 1, (.c (.pv (.int .i64 1))))], none, []⟩,
   ⟨some 4, .bslice 10 1 [(.pv (.int .i64 0)), (.pv (.int .i64 0)), (.pv (.int .u64 0)), (.pv (.int .u64 0)), (.pv (.int .u64 0)), (.pv (.int .u64 0)), (.pv (.int .u64 0)), (.pv (.int .u64 0)), (.pv (.int .u64 0)), (.pv (.int .u64 0))] [(0, 10, (.t 3))], none, [0]⟩,
   ⟨some 5, .build [(.pv (.int .i64 0)), (.pv (.bool false)), (.pv (.int .i64 0)), (.pv (.int .i64 0)), (.pv (.int .i64 0))] [(0, 1, (.c (.pv (.int .i64 1)))), (4, 1, (.c (.pv (.int .i64 1))))], none, []⟩,
   ⟨some 6, .bslice 5 1 [(.pv (.int .i64 0)), (.pv (.bool false)), (.pv (.int .i64 0)), (.pv (.int .i64 0)), (.pv (.int .i64 0))] [(0, 5, (.t 5))], none, [2]⟩,
   ⟨some 7, .build [.nils, .nils, .nils] [(0, 1, (.t 4)), (1, 1, (.t 6))], none, [1, 3]⟩,
   ⟨some 1, .alloc [.nils, .nils, .nils], none, []⟩,
   ⟨none, .store 3 (.t 1) (.t 7), none, [5, 4, 0, 1, 2, 3, 4, 5]⟩])
  (.seq (.ops [
   ⟨some 8, .load true 3 (.t 1), none, []⟩,
   ⟨some 9, .build [.nils, (.pv (.int .i64 0)), (.pv (.int .i64 0))] [], none, []⟩,
   ⟨some 10, .build [(.pv (.int .i64 0)), (.pv (.int .i64 0)), (.pv (.int .i64 0)), (.pv (.int .u64 0)), (.pv (.int .u64 0)), (.pv (.int .u64 0)), (.pv (.int .u64 0)), (.pv (.int .i64 0))] [(0, 1, (.c (.pv (.int .i64 1)))), (1, 1, (.c (.pv (.int .i64 1))))], none, []⟩,
   ⟨some 11, .bslice 8 1 [(.pv (.int .i64 0)), (.pv (.int .i64 0)), (.pv (.int .i64 0)), (.pv (.int .u64 0)), (.pv (.int .u64 0)), (.pv (.int .u64 0)), (.pv (.int .u64 0)), (.pv (.int .i64 0))] [(0, 8, (.t 10))], none, [2]⟩,
   ⟨some 12, .build [.nils, (.pv (.int .i64 0)), (.pv (.int .i64 0))] [(0, 1, (.t 11))], none, [3]⟩,
   ⟨some 13, .call 210 [(.t 8), (.t 9), (.t 12)], none, [0, 1, 4]⟩,
   ⟨some 2, .mv (.t 13), none, [5, 5, 0, 1, 2, 3, 4, 5]⟩])
  (.seq (.ops [
   ⟨some 14, .load true 3 (.t 1), none, []⟩,
   ⟨some 15, .build [.nils, (.pv (.int .i64 0)), (.pv (.int .i64 0))] [], none, []⟩,
   ⟨some 16, .build [.nils, (.pv (.int .i64 0)), (.pv (.int .i64 0))] [], none, []⟩,
   ⟨some 17, .call 210 [(.t 14), (.t 15), (.t 16)], none, [0, 1, 2]⟩,
   ⟨some 18, .len (.t 17), none, [3]⟩,
   ⟨some 19, .bin .eql none (.t 18) (.c (.pv (.int .i64 0))), none, [4]⟩,
   ⟨some 20, .mv (.t 19), none, [5, 3]⟩,
   ⟨some 21, .mv (.t 2), some (20, true), [6]⟩,
   ⟨some 22, .len (.t 21), some (20, true), [7, 6]⟩,
   ⟨some 23, .bin .eql none (.t 22) (.c (.pv (.int .i64 1))), some (20, true), [8, 6]⟩,
   ⟨some 24, .pick (.t 20) (.t 23) (.c (.pv (.bool false))), none, [6, 9]⟩,
   ⟨some 25, .mv (.t 24), none, [10, 6]⟩,
   ⟨some 26, .mv (.t 2), some (25, true), [11]⟩,
   ⟨some 27, .idxAddr 4 (.t 26) (.c (.pv (.int .i64 0))), some (25, true), [12, 11]⟩,
   ⟨some 28, .load true 4 (.t 27), some (25, true), [13, 11]⟩,
   ⟨some 29, .build [(.pv (.int .i64 0)), (.pv (.int .i64 0)), (.pv (.int .i64 0)), (.pv (.int .i64 0))] [(0, 1, (.c (.pv (.int .i64 1)))), (1, 1, (.c (.pv (.int .i64 1)))), (2, 1, (.c (.pv (.int .i64 3))))], some (25, true), [11]⟩,
   ⟨some 30, .bin .eql (some (.plain [false, false, false, false])) (.t 28) (.t 29), some (25, true), [14, 15, 11]⟩,
   ⟨some 31, .pick (.t 25) (.t 30) (.c (.pv (.bool false))), none, [11, 16]⟩,
   ⟨some 0, .mv (.t 31), none, [17, 11, 0, 1, 2, 3, 4, 5, 6, 7, 8, 9, 10, 11, 12, 13, 14, 15, 16, 17]⟩])
  .ret))))⟩
def f166 : AFunc := ⟨188, [.cell 8 true 3, .t 9],
 (.seq (.ops [
   ⟨some 4, .box (.t 0), none, []⟩,
   ⟨some 5, .box (.t 1), none, []⟩,
   ⟨some 6, .box (.t 2), none, []⟩,
   ⟨some 7, .box (.t 3), none, []⟩,
   ⟨some 8, .alloc [.nils, (.pv (.int .i64 0)), (.pv (.int .i64 0))], none, []⟩,
   ⟨some 9, .mv (.c (.pv (.int .i64 0))), none, []⟩])
  (.seq (.seq (.ops [
   ⟨some 16, .fieldAddr 0 (.t 7), none, []⟩,
   ⟨some 17, .load false 1 (.t 16), none, [0]⟩,
   ⟨some 18, .bin .lss none (.t 17) (.c (.pv (.int .i64 1))), none, [1]⟩,
   ⟨some 19, .mv (.t 18), none, [2]⟩,
   ⟨some 20, .fieldAddr 0 (.t 7), some (19, false), [3]⟩,
   ⟨some 21, .load false 1 (.t 20), some (19, false), [4, 3]⟩,
   ⟨some 22, .bin .gtr none (.t 21) (.c (.pv (.int .i64 4))), some (19, false), [5, 3]⟩,
   ⟨some 23, .pick (.t 19) (.c (.pv (.bool true))) (.t 22), none, [3, 6]⟩,
   ⟨some 24, .mv (.t 23), none, [7, 3]⟩,
   ⟨some 25, .fieldAddr 0 (.t 7), some (24, false), [8]⟩,
   ⟨some 26, .load false 1 (.t 25), some (24, false), [9, 8]⟩,
   ⟨some 27, .bin .neq none (.t 26) (.c (.pv (.int .i64 4))), some (24, false), [10, 8]⟩,
   ⟨some 28, .mv (.t 27), some (24, false), [11, 8, 8]⟩,
   ⟨some 29, .fieldAddr 3 (.t 7), some (28, true), [12]⟩,
   ⟨some 30, .load false 1 (.t 29), some (28, true), [13, 12]⟩,
   ⟨some 31, .bin .neq none (.t 30) (.c (.pv (.int .i64 0))), some (28, true), [14, 12]⟩,
   ⟨some 32, .pick (.t 28) (.t 31) (.c (.pv (.bool false))), some (24, false), [12, 15, 8]⟩,
   ⟨some 33, .pick (.t 24) (.c (.pv (.bool true))) (.t 32), none, [8, 16]⟩,
   ⟨some 34, .mv (.t 33), none, [17, 12]⟩,
   ⟨some 35, .fieldAddr 0 (.t 7), some (34, false), [18]⟩,
   ⟨some 36, .load false 1 (.t 35), some (34, false), [19, 18]⟩,
   ⟨some 37, .bin .eql none (.t 36) (.c (.pv (.int .i64 2))), some (34, false), [20, 18]⟩,
   ⟨some 38, .mv (.t 37), some (34, false), [21, 18, 18]⟩,
   ⟨some 39, .fieldAddr 2 (.t 7), some (38, true), [22]⟩,
   ⟨some 40, .load false 1 (.t 39), some (38, true), [23, 22]⟩,
   ⟨some 41, .bin .neq none (.t 40) (.c (.pv (.int .i64 0))), some (38, true), [24, 22]⟩,
   ⟨some 42, .pick (.t 38) (.t 41) (.c (.pv (.bool false))), some (34, false), [22, 25, 18]⟩,
   ⟨some 43, .pick (.t 34) (.c (.pv (.bool true))) (.t 42), none, [18, 26]⟩])
  (.cond (.t 43)
   (.seq (.ops [
     ⟨some 44, .build [.nils, (.pv (.int .i64 0)), (.pv (.int .i64 0))] [], none, []⟩,
     ⟨none, .store 3 (.t 8) (.t 44), none, [0, 0]⟩,
     ⟨some 9, .mv (.c (.pv (.int .i64 1))), none, [1, 0, 1]⟩])
    .ret)
   .skip))
  (.seq (.ops [
   ⟨some 45, .load true 3 (.t 6), none, []⟩,
   ⟨some 46, .fieldAddr 1 (.t 7), none, []⟩,
   ⟨some 47, .load false 1 (.t 46), none, [1]⟩,
   ⟨some 48, .call 167 [(.t 45), (.t 47)], none, [0, 2]⟩,
   ⟨some 10, .mv (.t 48), none, [3, 3, 0, 1, 2, 3]⟩])
  (.seq (.ops [
   ⟨some 49, .load true 3 (.t 6), none, []⟩,
   ⟨some 50, .fieldAddr 3 (.t 7), none, []⟩,
   ⟨some 51, .load false 1 (.t 50), none, [1]⟩,
   ⟨some 52, .call 167 [(.t 49), (.t 51)], none, [0, 2]⟩,
   ⟨some 11, .mv (.t 52), none, [3, 3, 0, 1, 2, 3]⟩])
  (.seq (.seq (.ops [
   ⟨some 53, .mv (.t 10), none, []⟩,
   ⟨some 54, .bin .lss none (.t 53) (.c (.pv (.int .i64 0))), none, [0]⟩,
   ⟨some 55, .mv (.t 54), none, [1]⟩,
   ⟨some 56, .fieldAddr 0 (.t 7), some (55, false), [2]⟩,
   ⟨some 57, .load false 1 (.t 56), some (55, false), [3, 2]⟩,
   ⟨some 58, .bin .neq none (.t 57) (.c (.pv (.int .i64 2))), some (55, false), [4, 2]⟩,
   ⟨some 59, .mv (.t 58), some (55, false), [5, 2, 2]⟩,
   ⟨some 60, .load true 3 (.t 4), some (59, true), [6]⟩,
   ⟨some 61, .fieldAddr 2 (.t 7), some (59, true), [6]⟩,
   ⟨some 62, .load false 1 (.t 61), some (59, true), [8, 6]⟩,
   ⟨some 63, .call 155 [(.t 60), (.t 62)], some (59, true), [7, 9, 6, 6]⟩,
   ⟨some 64, .bin .lss none (.t 63) (.c (.pv (.int .i64 0))), some (59, true), [10, 6]⟩,
   ⟨some 65, .pick (.t 59) (.t 64) (.c (.pv (.bool false))), some (55, false), [6, 11, 2]⟩,
   ⟨some 66, .pick (.t 55) (.c (.pv (.bool true))) (.t 65), none, [2, 12]⟩,
   ⟨some 67, .mv (.t 66), none, [13, 10]⟩,
   ⟨some 68, .fieldAddr 0 (.t 7), some (67, false), [14]⟩,
   ⟨some 69, .load false 1 (.t 68), some (67, false), [15, 14]⟩,
   ⟨some 70, .bin .eql none (.t 69) (.c (.pv (.int .i64 4))), some (67, false), [16, 14]⟩,
   ⟨some 71, .mv (.t 70), some (67, false), [17, 14, 14]⟩,
   ⟨some 72, .mv (.t 11), some (71, true), [18]⟩,
   ⟨some 73, .bin .lss none (.t 72) (.c (.pv (.int .i64 0))), some (71, true), [19, 18]⟩,
   ⟨some 74, .pick (.t 71) (.t 73) (.c (.pv (.bool false))), some (67, false), [18, 20, 14]⟩,
   ⟨some 75, .pick (.t 67) (.c (.pv (.bool true))) (.t 74), none, [14, 21]⟩])
  (.cond (.t 75)
   (.seq (.ops [
     ⟨some 76, .build [.nils, (.pv (.int .i64 0)), (.pv (.int .i64 0))] [], none, []⟩,
     ⟨none, .store 3 (.t 8) (.t 76), none, [0, 0]⟩,
     ⟨some 9, .mv (.c (.pv (.int .i64 4))), none, [1, 0, 1]⟩])
    .ret)
   .skip))
  (.seq (.ops [
   ⟨some 77, .fieldAddr 0 (.t 6), none, []⟩,
   ⟨some 78, .load false 1 (.t 77), none, [0]⟩,
   ⟨some 79, .mv (.t 10), none, []⟩,
   ⟨some 80, .idxAddr 8 (.t 78) (.t 79), none, [1, 2]⟩,
   ⟨some 81, .load true 8 (.t 80), none, [3]⟩,
   ⟨some 12, .alloc [(.pv (.int .i64 0)), (.pv (.int .i64 0)), (.pv (.int .i64 0)), (.pv (.int .u64 0)), (.pv (.int .u64 0)), (.pv (.int .u64 0)), (.pv (.int .u64 0)), (.pv (.int .i64 0))], none, []⟩,
   ⟨none, .store 8 (.t 12) (.t 81), none, [5, 4, 0, 1, 2, 3, 4, 5]⟩])
  (.seq (.draw [
   ⟨some 82, .bslice 8 0 [] [], none, []⟩,
   ⟨some 83, .fieldAddr 0 (.t 6), none, []⟩,
   ⟨some 84, .load false 1 (.t 83), none, [1]⟩,
   ⟨some 85, .append 8 64 (.t 82) (.t 84), none, [0, 2]⟩,
   ⟨some 86, .fieldAddr 1 (.t 6), none, []⟩,
   ⟨some 87, .load false 1 (.t 86), none, [4]⟩,
   ⟨some 88, .fieldAddr 2 (.t 6), none, []⟩,
   ⟨some 89, .load false 1 (.t 88), none, [6]⟩,
   ⟨some 90, .build [.nils, (.pv (.int .i64 0)), (.pv (.int .i64 0))] [(0, 1, (.t 85)), (1, 1, (.t 87)), (2, 1, (.t 89))], none, [3, 5, 7]⟩,
   ⟨some 13, .alloc [.nils, (.pv (.int .i64 0)), (.pv (.int .i64 0))], none, []⟩,
   ⟨none, .store 3 (.t 13) (.t 90), none, [9, 8, 3, 0, 1, 2, 3, 4, 5, 6, 7, 8, 9]⟩])
  (.seq (.ops [
   ⟨some 14, .mv (.c (.pv (.bool false))), none, []⟩])
  (.seq (.seq (.ops [
   ⟨some 91, .fieldAddr 0 (.t 7), none, []⟩,
   ⟨some 92, .load false 1 (.t 91), none, [0]⟩])
  (.block 0
   (.seq (.ops [
     ⟨some 94, .bin .eql none (.t 92) (.c (.pv (.int .i64 1))), none, []⟩,
     ⟨some 93, .mv (.t 94), none, [0]⟩])
    (.cond (.t 93)
     (.ops [
       ⟨some 95, .fieldAddr 7 (.t 12), none, []⟩,
       ⟨some 96, .load false 1 (.t 95), none, [0]⟩,
       ⟨some 97, .bin .eql none (.t 96) (.c (.pv (.int .i64 0))), none, [1]⟩,
       ⟨some 14, .mv (.t 97), none, [2, 0, 1, 2]⟩])
     (.seq (.ops [
       ⟨some 99, .bin .eql none (.t 92) (.c (.pv (.int .i64 2))), none, []⟩,
       ⟨some 98, .mv (.t 99), none, [0]⟩])
      (.cond (.t 98)
       (.ops [
         ⟨some 100, .fieldAddr 7 (.t 12), none, []⟩,
         ⟨some 101, .load false 1 (.t 100), none, [0]⟩,
         ⟨some 102, .bin .neq none (.t 101) (.c (.pv (.int .i64 0))), none, [1]⟩,
         ⟨some 14, .mv (.t 102), none, [2, 0, 1, 2]⟩])
       (.seq (.ops [
         ⟨some 104, .bin .eql none (.t 92) (.c (.pv (.int .i64 3))), none, []⟩,
         ⟨some 103, .mv (.t 104), none, [0]⟩])
        (.cond (.t 103)
         (.seq (.ops [
           ⟨some 105, .fieldAddr 7 (.t 12), none, []⟩,
           ⟨some 106, .load false 1 (.t 105), none, [0]⟩,
           ⟨some 107, .bin .neq none (.t 106) (.c (.pv (.int .i64 0))), none, [1]⟩,
           ⟨some 108, .mv (.t 107), none, [2]⟩,
           ⟨some 109, .fieldAddr 7 (.t 12), some (108, true), [3]⟩,
           ⟨some 110, .load false 1 (.t 109), some (108, true), [4, 3]⟩,
           ⟨some 111, .fieldAddr 2 (.t 7), some (108, true), [3]⟩,
           ⟨some 112, .load false 1 (.t 111), some (108, true), [6, 3]⟩,
           ⟨some 113, .bin .neq none (.t 110) (.t 112), some (108, true), [5, 7, 3]⟩,
           ⟨some 114, .pick (.t 108) (.t 113) (.c (.pv (.bool false))), none, [3, 8]⟩,
           ⟨some 14, .mv (.t 114), none, [9, 3, 0, 1, 2, 3, 4, 5, 6, 7, 8, 9]⟩])
          (.ops [
           ⟨some 115, .fieldAddr 2 (.t 13), none, []⟩,
           ⟨some 116, .load false 1 (.t 115), none, [0]⟩,
           ⟨some 117, .bin .add none (.t 116) (.c (.pv (.int .i64 1))), none, [1]⟩,
           ⟨some 118, .fieldAddr 2 (.t 13), none, [0, 1, 2]⟩,
           ⟨none, .store 1 (.t 118) (.t 117), none, [3, 2, 0, 1, 2]⟩]))
         (.seq (.ops [
           ⟨some 120, .bin .eql none (.t 92) (.c (.pv (.int .i64 4))), none, []⟩,
           ⟨some 119, .mv (.t 120), none, [0]⟩])
          (.cond (.t 119)
           (.seq (.draw [
             ⟨some 121, .fieldAddr 7 (.t 12), none, []⟩,
             ⟨some 122, .load false 1 (.t 121), none, [0]⟩,
             ⟨some 123, .bin .eql none (.t 122) (.c (.pv (.int .i64 0))), none, [1]⟩,
             ⟨some 124, .mv (.t 123), none, [2]⟩,
             ⟨some 125, .mv (.t 10), some (124, true), [3]⟩,
             ⟨some 126, .mv (.t 11), some (124, true), [3]⟩,
             ⟨some 127, .bin .neq none (.t 125) (.t 126), some (124, true), [4, 5, 3]⟩,
             ⟨some 128, .pick (.t 124) (.t 127) (.c (.pv (.bool false))), none, [3, 6]⟩,
             ⟨some 129, .mv (.t 128), none, [7, 3]⟩,
             ⟨some 130, .fieldAddr 0 (.t 6), some (129, true), [8]⟩,
             ⟨some 131, .load false 1 (.t 130), some (129, true), [9, 8]⟩,
             ⟨some 132, .mv (.t 11), some (129, true), [8]⟩,
             ⟨some 133, .idxAddr 8 (.t 131) (.t 132), some (129, true), [10, 11, 8]⟩,
             ⟨some 134, .fieldAddr 7 (.t 133), some (129, true), [12, 8]⟩,
             ⟨some 135, .load false 1 (.t 134), some (129, true), [13, 8]⟩,
             ⟨some 136, .fieldAddr 2 (.t 7), some (129, true), [8]⟩,
             ⟨some 137, .load false 1 (.t 136), some (129, true), [15, 8]⟩,
             ⟨some 138, .bin .eql none (.t 135) (.t 137), some (129, true), [14, 16, 8]⟩,
             ⟨some 139, .pick (.t 129) (.t 138) (.c (.pv (.bool false))), none, [8, 17]⟩,
             ⟨some 14, .mv (.t 139), none, [18, 8, 0, 1, 2, 3, 4, 5, 6, 7, 8, 9, 10, 11, 12, 13, 14, 15, 16, 17, 18]⟩])
            (.seq (.ops [
             ⟨some 140, .fieldAddr 0 (.t 13), none, []⟩,
             ⟨some 141, .load false 1 (.t 140), none, [0]⟩,
             ⟨some 142, .mv (.t 11), none, []⟩,
             ⟨some 143, .idxAddr 8 (.t 141) (.t 142), none, [1, 2, 0, 1, 2]⟩,
             ⟨some 144, .fieldAddr 7 (.t 143), none, [3, 0, 1, 2]⟩,
             ⟨none, .store 1 (.t 144) (.c (.pv (.int .i64 0))), none, [4, 0, 1, 2]⟩])
            (.ops [
             ⟨some 145, .fieldAddr 1 (.t 13), none, []⟩,
             ⟨some 146, .load false 1 (.t 145), none, [0]⟩,
             ⟨some 147, .bin .add none (.t 146) (.c (.pv (.int .i64 1))), none, [1]⟩,
             ⟨some 148, .fieldAddr 1 (.t 13), none, [0, 1, 2]⟩,
             ⟨none, .store 1 (.t 148) (.t 147), none, [3, 2, 0, 1, 2]⟩])))
           .skip))))))))))
  (.seq (.seq (.ops [
   ⟨some 149, .mv (.t 14), none, []⟩,
   ⟨some 150, .not (.t 149), none, [0]⟩])
  (.cond (.t 150)
   (.seq (.ops [
     ⟨some 151, .build [.nils, (.pv (.int .i64 0)), (.pv (.int .i64 0))] [], none, []⟩,
     ⟨none, .store 3 (.t 8) (.t 151), none, [0, 0]⟩,
     ⟨some 9, .mv (.c (.pv (.int .i64 7))), none, [1, 0, 1]⟩])
    .ret)
   .skip))
  (.seq (.ops [
   ⟨some 152, .fieldAddr 0 (.t 13), none, []⟩,
   ⟨some 153, .load false 1 (.t 152), none, [0]⟩,
   ⟨some 154, .mv (.t 10), none, []⟩,
   ⟨some 155, .fieldAddr 2 (.t 7), none, []⟩,
   ⟨some 156, .load false 1 (.t 155), none, [3]⟩,
   ⟨some 157, .idxAddr 8 (.t 153) (.t 154), none, [1, 2, 0, 1, 2, 3, 4]⟩,
   ⟨some 158, .fieldAddr 7 (.t 157), none, [5, 0, 1, 2, 3, 4]⟩,
   ⟨none, .store 1 (.t 158) (.t 156), none, [6, 4, 0, 1, 2, 3, 4]⟩])
  (.seq (.ops [
   ⟨some 159, .load true 3 (.t 5), none, []⟩,
   ⟨some 160, .fieldAddr 1 (.t 7), none, []⟩,
   ⟨some 161, .load false 1 (.t 160), none, [1]⟩,
   ⟨some 162, .call 157 [(.t 159), (.t 161)], none, [0, 2]⟩,
   ⟨some 15, .mv (.t 162), none, [3, 3, 0, 1, 2, 3]⟩])
  (.seq (.seq (.ops [
   ⟨some 163, .fieldAddr 0 (.t 7), none, []⟩,
   ⟨some 164, .load false 1 (.t 163), none, [0]⟩,
   ⟨some 165, .bin .neq none (.t 164) (.c (.pv (.int .i64 2))), none, [1]⟩,
   ⟨some 166, .mv (.t 165), none, [2]⟩,
   ⟨some 167, .mv (.t 15), some (166, true), [3]⟩,
   ⟨some 168, .bin .geq none (.t 167) (.c (.pv (.int .i64 0))), some (166, true), [4, 3]⟩,
   ⟨some 169, .pick (.t 166) (.t 168) (.c (.pv (.bool false))), none, [3, 5]⟩])
  (.cond (.t 169)
   (.seq (.ops [
     ⟨some 170, .fieldAddr 0 (.t 5), none, []⟩,
     ⟨some 171, .load false 1 (.t 170), none, [0]⟩,
     ⟨some 172, .mv (.t 15), none, []⟩,
     ⟨some 173, .idxAddr 6 (.t 171) (.t 172), none, [1, 2]⟩,
     ⟨some 174, .fieldAddr 5 (.t 173), none, [3]⟩,
     ⟨some 175, .load false 1 (.t 174), none, [4]⟩])
    (.cond (.t 175)
     (.draw [
       ⟨some 176, .fieldAddr 0 (.t 13), none, []⟩,
       ⟨some 177, .load false 1 (.t 176), none, [0]⟩,
       ⟨some 178, .mv (.t 10), none, []⟩,
       ⟨some 179, .fieldAddr 0 (.t 5), none, []⟩,
       ⟨some 180, .load false 1 (.t 179), none, [3]⟩,
       ⟨some 181, .mv (.t 15), none, []⟩,
       ⟨some 182, .idxAddr 6 (.t 180) (.t 181), none, [4, 5]⟩,
       ⟨some 183, .fieldAddr 1 (.t 182), none, [6]⟩,
       ⟨some 184, .load true 4 (.t 183), none, [7]⟩,
       ⟨some 185, .idxAddr 8 (.t 177) (.t 178), none, [1, 2, 0, 1, 2, 3, 4, 5, 6, 7, 8]⟩,
       ⟨some 186, .fieldAddr 3 (.t 185), none, [9, 0, 1, 2, 3, 4, 5, 6, 7, 8]⟩,
       ⟨none, .store 4 (.t 186) (.t 184), none, [10, 8, 0, 1, 2, 3, 4, 5, 6, 7, 8]⟩])
     .skip))
   .skip))
  (.seq (.ops [
   ⟨some 187, .load true 3 (.t 13), none, []⟩,
   ⟨none, .store 3 (.t 8) (.t 187), none, [0, 0]⟩,
   ⟨some 9, .mv (.c (.pv (.int .i64 0))), none, [1, 0, 1]⟩])
  .ret))))))))))))))⟩
def f172l0 : ACode :=
 (.seq (.seq (.ops [
   ⟨some 15, .mv (.t 6), none, []⟩,
   ⟨some 16, .mv (.t 5), none, []⟩,
   ⟨some 17, .bin .lss none (.t 15) (.t 16), none, [0, 1]⟩])
  (.cond (.t 17)
   .skip
   (.exit 2)))
  (.seq (.block 3
   (.seq (.draw [
     ⟨some 20, .load true 3 (.t 2), none, []⟩,
     ⟨some 21, .fieldAddr 0 (.t 3), none, []⟩,
     ⟨some 22, .load false 1 (.t 21), none, [1]⟩,
     ⟨some 23, .mv (.t 5), none, []⟩,
     ⟨some 24, .idxAddr 8 (.t 22) (.t 23), none, [2, 3]⟩,
     ⟨some 25, .load true 8 (.t 24), none, [4]⟩,
     ⟨some 26, .fieldAddr 0 (.t 3), none, []⟩,
     ⟨some 27, .load false 1 (.t 26), none, [6]⟩,
     ⟨some 28, .mv (.t 6), none, []⟩,
     ⟨some 29, .idxAddr 8 (.t 27) (.t 28), none, [7, 8]⟩,
     ⟨some 30, .load true 8 (.t 29), none, [9]⟩,
     ⟨some 31, .call 180 [(.t 20), (.t 25), (.t 30)], none, [0, 5, 10]⟩,
     ⟨some 7, .mv (.t 31), none, [11, 11, 0, 1, 2, 3, 4, 5, 6, 7, 8, 9, 10, 11]⟩])
    (.seq (.ops [
     ⟨some 32, .mv (.t 7), none, []⟩])
    (.cond (.t 32)
     (.seq (.ops [
       ⟨some 33, .mv (.t 5), none, []⟩,
       ⟨some 4, .mv (.t 33), none, [0, 0]⟩])
      .ret)
     .skip))))
  (.ops [
   ⟨some 18, .mv (.t 6), none, []⟩,
   ⟨some 19, .bin .add none (.t 18) (.c (.pv (.int .i64 1))), none, [0]⟩,
   ⟨some 6, .mv (.t 19), none, [1, 0, 1]⟩])))
def f172l1 : ACode :=
 (.seq (.seq (.ops [
   ⟨some 8, .mv (.t 5), none, []⟩,
   ⟨some 9, .fieldAddr 0 (.t 3), none, []⟩,
   ⟨some 10, .load false 1 (.t 9), none, [1]⟩,
   ⟨some 11, .len (.t 10), none, [2]⟩,
   ⟨some 12, .bin .lss none (.t 8) (.t 11), none, [0, 3]⟩])
  (.cond (.t 12)
   .skip
   (.exit 0)))
  (.seq (.block 1
   (.seq (.ops [
     ⟨some 6, .mv (.c (.pv (.int .i64 0))), none, []⟩])
    (.block 2
     (.loop f172l0))))
  (.ops [
   ⟨some 13, .mv (.t 5), none, []⟩,
   ⟨some 14, .bin .add none (.t 13) (.c (.pv (.int .i64 1))), none, [0]⟩,
   ⟨some 5, .mv (.t 14), none, [1, 0, 1]⟩])))
def f172 : AFunc := ⟨34, [.t 4],
 (.seq (.ops [
   ⟨some 2, .box (.t 0), none, []⟩,
   ⟨some 3, .box (.t 1), none, []⟩,
   ⟨some 4, .mv (.c (.pv (.int .i64 0))), none, []⟩])
  (.seq (.seq (.ops [
   ⟨some 5, .mv (.c (.pv (.int .i64 0))), none, []⟩])
  (.block 0
   (.loop f172l1)))
  (.seq (.ops [
   ⟨some 4, .mv (.c (.pv (.int .i64 (-1)))), none, []⟩])
  .ret)))⟩
def f174l0 : ACode :=
 (.seq (.seq (.ops [
   ⟨some 13, .mv (.t 10), none, []⟩,
   ⟨some 14, .fieldAddr 0 (.t 5), none, []⟩,
   ⟨some 15, .load false 1 (.t 14), none, [1]⟩,
   ⟨some 16, .len (.t 15), none, [2]⟩,
   ⟨some 17, .bin .lss none (.t 13) (.t 16), none, [0, 3]⟩])
  (.cond (.t 17)
   .skip
   (.exit 0)))
  (.seq (.block 1
   (.seq (.ops [
     ⟨some 20, .fieldAddr 0 (.t 5), none, []⟩,
     ⟨some 21, .load false 1 (.t 20), none, [0]⟩,
     ⟨some 22, .mv (.t 10), none, []⟩,
     ⟨some 23, .idxAddr 8 (.t 21) (.t 22), none, [1, 2]⟩,
     ⟨some 24, .load true 8 (.t 23), none, [3]⟩,
     ⟨some 11, .alloc [(.pv (.int .i64 0)), (.pv (.int .i64 0)), (.pv (.int .i64 0)), (.pv (.int .u64 0)), (.pv (.int .u64 0)), (.pv (.int .u64 0)), (.pv (.int .u64 0)), (.pv (.int .i64 0))], none, []⟩,
     ⟨none, .store 8 (.t 11) (.t 24), none, [5, 4, 0, 1, 2, 3, 4, 5]⟩])
    (.seq (.ops [
     ⟨some 25, .load true 3 (.t 4), none, []⟩,
     ⟨some 26, .fieldAddr 7 (.t 11), none, []⟩,
     ⟨some 27, .load false 1 (.t 26), none, [1]⟩,
     ⟨some 28, .call 155 [(.t 25), (.t 27)], none, [0, 2]⟩,
     ⟨some 12, .mv (.t 28), none, [3, 3, 0, 1, 2, 3]⟩])
    (.seq (.seq (.ops [
     ⟨some 29, .fieldAddr 1 (.t 11), none, []⟩,
     ⟨some 30, .load false 1 (.t 29), none, [0]⟩,
     ⟨some 31, .mv (.t 2), none, []⟩,
     ⟨some 32, .bin .neq none (.t 30) (.t 31), none, [1, 2]⟩,
     ⟨some 33, .mv (.t 32), none, [3]⟩,
     ⟨some 34, .fieldAddr 7 (.t 11), some (33, false), [4]⟩,
     ⟨some 35, .load false 1 (.t 34), some (33, false), [5, 4]⟩,
     ⟨some 36, .bin .eql none (.t 35) (.c (.pv (.int .i64 0))), some (33, false), [6, 4]⟩,
     ⟨some 37, .pick (.t 33) (.c (.pv (.bool true))) (.t 36), none, [4, 7]⟩,
     ⟨some 38, .mv (.t 37), none, [8, 4]⟩,
     ⟨some 39, .mv (.t 12), some (38, false), [9]⟩,
     ⟨some 40, .bin .lss none (.t 39) (.c (.pv (.int .i64 0))), some (38, false), [10, 9]⟩,
     ⟨some 41, .pick (.t 38) (.c (.pv (.bool true))) (.t 40), none, [9, 11]⟩])
    (.cond (.t 41)
     (.exit 1)
     .skip))
    (.seq (.ops [
     ⟨some 42, .fieldAddr 0 (.t 4), none, []⟩,
     ⟨some 43, .load false 1 (.t 42), none, [0]⟩,
     ⟨some 44, .mv (.t 12), none, []⟩,
     ⟨some 45, .idxAddr 10 (.t 43) (.t 44), none, [1, 2]⟩,
     ⟨some 46, .fieldAddr 1 (.t 45), none, [3]⟩,
     ⟨some 47, .load false 1 (.t 46), none, [4]⟩,
     ⟨some 48, .mv (.t 3), none, []⟩,
     ⟨some 49, .bin .eql none (.t 47) (.t 48), none, [5, 6]⟩])
    (.cond (.t 49)
     (.ops [
       ⟨some 50, .mv (.t 9), none, []⟩,
       ⟨some 51, .bin .add none (.t 50) (.c (.pv (.int .i64 1))), none, [0]⟩,
       ⟨some 9, .mv (.t 51), none, [1, 0, 1]⟩])
     .skip))))))
  (.ops [
   ⟨some 18, .mv (.t 10), none, []⟩,
   ⟨some 19, .bin .add none (.t 18) (.c (.pv (.int .i64 1))), none, [0]⟩,
   ⟨some 10, .mv (.t 19), none, [1, 0, 1]⟩])))
def f174 : AFunc := ⟨53, [.t 8],
 (.seq (.ops [
   ⟨some 4, .box (.t 0), none, []⟩,
   ⟨some 5, .box (.t 1), none, []⟩,
   ⟨some 8, .mv (.c (.pv (.int .i64 0))), none, []⟩])
  (.seq (.ops [
   ⟨some 9, .mv (.c (.pv (.int .i64 0))), none, []⟩])
  (.seq (.seq (.ops [
   ⟨some 10, .mv (.c (.pv (.int .i64 0))), none, []⟩])
  (.block 0
   (.loop f174l0)))
  (.seq (.ops [
   ⟨some 52, .mv (.t 9), none, []⟩,
   ⟨some 8, .mv (.t 52), none, [0, 0]⟩])
  .ret))))⟩
def f175 : AFunc := ⟨34, [.t 6],
 (.seq (.ops [
   ⟨some 3, .box (.t 0), none, []⟩,
   ⟨some 6, .mv (.c (.pv (.bool false))), none, []⟩])
  (.seq (.ops [
   ⟨some 9, .load true 3 (.t 3), none, []⟩,
   ⟨some 10, .mv (.t 1), none, []⟩,
   ⟨some 11, .call 167 [(.t 9), (.t 10)], none, [0, 1]⟩,
   ⟨some 7, .mv (.t 11), none, [2, 2, 0, 1, 2]⟩])
  (.seq (.ops [
   ⟨some 12, .load true 3 (.t 3), none, []⟩,
   ⟨some 13, .mv (.t 2), none, []⟩,
   ⟨some 14, .call 167 [(.t 12), (.t 13)], none, [0, 1]⟩,
   ⟨some 8, .mv (.t 14), none, [2, 2, 0, 1, 2]⟩])
  (.seq (.seq (.ops [
   ⟨some 15, .mv (.t 7), none, []⟩,
   ⟨some 16, .bin .lss none (.t 15) (.c (.pv (.int .i64 0))), none, [0]⟩,
   ⟨some 17, .mv (.t 16), none, [1]⟩,
   ⟨some 18, .mv (.t 8), some (17, false), [2]⟩,
   ⟨some 19, .bin .lss none (.t 18) (.c (.pv (.int .i64 0))), some (17, false), [3, 2]⟩,
   ⟨some 20, .pick (.t 17) (.c (.pv (.bool true))) (.t 19), none, [2, 4]⟩])
  (.cond (.t 20)
   (.seq (.ops [
     ⟨some 6, .mv (.c (.pv (.bool false))), none, []⟩])
    .ret)
   .skip))
  (.seq (.draw [
   ⟨some 21, .fieldAddr 0 (.t 3), none, []⟩,
   ⟨some 22, .load false 1 (.t 21), none, [0]⟩,
   ⟨some 23, .mv (.t 8), none, []⟩,
   ⟨some 24, .idxAddr 8 (.t 22) (.t 23), none, [1, 2]⟩,
   ⟨some 25, .fieldAddr 2 (.t 24), none, [3]⟩,
   ⟨some 26, .load false 1 (.t 25), none, [4]⟩,
   ⟨some 27, .fieldAddr 0 (.t 3), none, []⟩,
   ⟨some 28, .load false 1 (.t 27), none, [6]⟩,
   ⟨some 29, .mv (.t 7), none, []⟩,
   ⟨some 30, .idxAddr 8 (.t 28) (.t 29), none, [7, 8]⟩,
   ⟨some 31, .fieldAddr 2 (.t 30), none, [9]⟩,
   ⟨some 32, .load false 1 (.t 31), none, [10]⟩,
   ⟨some 33, .bin .lss none (.t 26) (.t 32), none, [5, 11]⟩,
   ⟨some 6, .mv (.t 33), none, [12, 0, 1, 2, 3, 4, 5, 6, 7, 8, 9, 10, 11, 12]⟩])
  .ret)))))⟩
def f177l0 : ACode :=
 (.seq (.seq (.ops [
   ⟨some 20, .mv (.t 10), none, []⟩,
   ⟨some 21, .mv (.t 7), none, []⟩,
   ⟨some 22, .len (.t 21), none, [1]⟩,
   ⟨some 23, .bin .lss none (.t 20) (.t 22), none, [0, 2]⟩])
  (.cond (.t 23)
   .skip
   (.exit 2)))
  (.seq (.block 3
   (.seq (.draw [
     ⟨some 26, .load true 3 (.t 3), none, []⟩,
     ⟨some 27, .load true 3 (.t 4), none, []⟩,
     ⟨some 28, .mv (.t 2), none, []⟩,
     ⟨some 29, .mv (.t 7), none, []⟩,
     ⟨some 30, .mv (.t 9), none, []⟩,
     ⟨some 31, .idxAddr 1 (.t 29) (.t 30), none, [3, 4]⟩,
     ⟨some 32, .load false 1 (.t 31), none, [5]⟩,
     ⟨some 33, .call 174 [(.t 26), (.t 27), (.t 28), (.t 32)], none, [0, 1, 2, 6]⟩,
     ⟨some 34, .load true 3 (.t 3), none, []⟩,
     ⟨some 35, .load true 3 (.t 4), none, []⟩,
     ⟨some 36, .mv (.t 2), none, []⟩,
     ⟨some 37, .mv (.t 7), none, []⟩,
     ⟨some 38, .mv (.t 10), none, []⟩,
     ⟨some 39, .idxAddr 1 (.t 37) (.t 38), none, [11, 12]⟩,
     ⟨some 40, .load false 1 (.t 39), none, [13]⟩,
     ⟨some 41, .call 174 [(.t 34), (.t 35), (.t 36), (.t 40)], none, [8, 9, 10, 14, 7]⟩,
     ⟨some 42, .bin .sub none (.t 33) (.t 41), none, [7, 15]⟩,
     ⟨some 11, .mv (.t 42), none, [16, 15, 0, 1, 2, 3, 4, 5, 6, 7, 8, 9, 10, 11, 12, 13, 14, 15, 16]⟩])
    (.seq (.ops [
     ⟨some 43, .mv (.t 11), none, []⟩,
     ⟨some 44, .mv (.t 8), none, []⟩,
     ⟨some 45, .bin .gtr none (.t 43) (.t 44), none, [0, 1]⟩])
    (.cond (.t 45)
     (.ops [
       ⟨some 46, .mv (.t 11), none, []⟩,
       ⟨some 8, .mv (.t 46), none, [0, 0]⟩])
     .skip))))
  (.ops [
   ⟨some 24, .mv (.t 10), none, []⟩,
   ⟨some 25, .bin .add none (.t 24) (.c (.pv (.int .i64 1))), none, [0]⟩,
   ⟨some 10, .mv (.t 25), none, [1, 0, 1]⟩])))
def f177l1 : ACode :=
 (.seq (.seq (.ops [
   ⟨some 14, .mv (.t 9), none, []⟩,
   ⟨some 15, .mv (.t 7), none, []⟩,
   ⟨some 16, .len (.t 15), none, [1]⟩,
   ⟨some 17, .bin .lss none (.t 14) (.t 16), none, [0, 2]⟩])
  (.cond (.t 17)
   .skip
   (.exit 0)))
  (.seq (.block 1
   (.seq (.ops [
     ⟨some 10, .mv (.c (.pv (.int .i64 0))), none, []⟩])
    (.block 2
     (.loop f177l0))))
  (.ops [
   ⟨some 18, .mv (.t 9), none, []⟩,
   ⟨some 19, .bin .add none (.t 18) (.c (.pv (.int .i64 1))), none, [0]⟩,
   ⟨some 9, .mv (.t 19), none, [1, 0, 1]⟩])))
def f177 : AFunc := ⟨48, [.t 6],
 (.seq (.ops [
   ⟨some 3, .box (.t 0), none, []⟩,
   ⟨some 4, .box (.t 1), none, []⟩,
   ⟨some 6, .mv (.c (.pv (.int .i64 0))), none, []⟩])
  (.seq (.ops [
   ⟨some 12, .load true 3 (.t 3), none, []⟩,
   ⟨some 13, .call 158 [(.t 12)], none, [0]⟩,
   ⟨some 7, .mv (.t 13), none, [1, 1, 0, 1]⟩])
  (.seq (.ops [
   ⟨some 8, .mv (.c (.pv (.int .i64 0))), none, []⟩])
  (.seq (.seq (.ops [
   ⟨some 9, .mv (.c (.pv (.int .i64 0))), none, []⟩])
  (.block 0
   (.loop f177l1)))
  (.seq (.ops [
   ⟨some 47, .mv (.t 8), none, []⟩,
   ⟨some 6, .mv (.t 47), none, [0, 0]⟩])
  .ret)))))⟩
def f178l0 : ACode :=
 (.seq (.seq (.ops [
   ⟨some 6, .mv (.t 5), none, []⟩,
   ⟨some 7, .fieldAddr 1 (.t 2), none, []⟩,
   ⟨some 8, .load false 1 (.t 7), none, [1]⟩,
   ⟨some 9, .len (.t 8), none, [2]⟩,
   ⟨some 10, .bin .lss none (.t 6) (.t 9), none, [0, 3]⟩])
  (.cond (.t 10)
   .skip
   (.exit 0)))
  (.seq (.block 1
   (.seq (.draw [
     ⟨some 13, .fieldAddr 1 (.t 2), none, []⟩,
     ⟨some 14, .load false 1 (.t 13), none, [0]⟩,
     ⟨some 15, .mv (.t 5), none, []⟩,
     ⟨some 16, .idxAddr 5 (.t 14) (.t 15), none, [1, 2]⟩,
     ⟨some 17, .fieldAddr 2 (.t 16), none, [3]⟩,
     ⟨some 18, .load false 1 (.t 17), none, [4]⟩,
     ⟨some 19, .bin .gtr none (.t 18) (.c (.pv (.int .i64 0))), none, [5]⟩,
     ⟨some 20, .mv (.t 19), none, [6]⟩,
     ⟨some 21, .load true 3 (.t 2), some (20, true), [7]⟩,
     ⟨some 22, .load true 3 (.t 3), some (20, true), [7]⟩,
     ⟨some 23, .fieldAddr 1 (.t 2), some (20, true), [7]⟩,
     ⟨some 24, .load false 1 (.t 23), some (20, true), [10, 7]⟩,
     ⟨some 25, .mv (.t 5), some (20, true), [7]⟩,
     ⟨some 26, .idxAddr 5 (.t 24) (.t 25), some (20, true), [11, 12, 7]⟩,
     ⟨some 27, .fieldAddr 0 (.t 26), some (20, true), [13, 7]⟩,
     ⟨some 28, .load false 1 (.t 27), some (20, true), [14, 7]⟩,
     ⟨some 29, .call 177 [(.t 21), (.t 22), (.t 28)], some (20, true), [8, 9, 15, 7, 7]⟩,
     ⟨some 30, .fieldAddr 1 (.t 2), some (20, true), [7]⟩,
     ⟨some 31, .load false 1 (.t 30), some (20, true), [17, 7]⟩,
     ⟨some 32, .mv (.t 5), some (20, true), [7]⟩,
     ⟨some 33, .idxAddr 5 (.t 31) (.t 32), some (20, true), [18, 19, 7]⟩,
     ⟨some 34, .fieldAddr 2 (.t 33), some (20, true), [20, 7]⟩,
     ⟨some 35, .load false 1 (.t 34), some (20, true), [21, 7]⟩,
     ⟨some 36, .bin .gtr none (.t 29) (.t 35), some (20, true), [16, 22, 7]⟩,
     ⟨some 37, .pick (.t 20) (.t 36) (.c (.pv (.bool false))), none, [7, 23]⟩])
    (.cond (.t 37)
     (.seq (.ops [
       ⟨some 38, .mv (.t 5), none, []⟩,
       ⟨some 4, .mv (.t 38), none, [0, 0]⟩])
      .ret)
     .skip)))
  (.ops [
   ⟨some 11, .mv (.t 5), none, []⟩,
   ⟨some 12, .bin .add none (.t 11) (.c (.pv (.int .i64 1))), none, [0]⟩,
   ⟨some 5, .mv (.t 12), none, [1, 0, 1]⟩])))
def f178 : AFunc := ⟨39, [.t 4],
 (.seq (.ops [
   ⟨some 2, .box (.t 0), none, []⟩,
   ⟨some 3, .box (.t 1), none, []⟩,
   ⟨some 4, .mv (.c (.pv (.int .i64 0))), none, []⟩])
  (.seq (.seq (.ops [
   ⟨some 5, .mv (.c (.pv (.int .i64 0))), none, []⟩])
  (.block 0
   (.loop f178l0)))
  (.seq (.ops [
   ⟨some 4, .mv (.c (.pv (.int .i64 (-1)))), none, []⟩])
  .ret)))⟩
def f180 : AFunc := ⟨39, [.t 6],
 (.seq (.ops [
   ⟨some 3, .box (.t 0), none, []⟩,
   ⟨some 4, .box (.t 1), none, []⟩,
   ⟨some 5, .box (.t 2), none, []⟩,
   ⟨some 6, .mv (.c (.pv (.bool false))), none, []⟩])
  (.seq (.ops [
   ⟨some 8, .load true 3 (.t 3), none, []⟩,
   ⟨some 9, .fieldAddr 1 (.t 4), none, []⟩,
   ⟨some 10, .load false 1 (.t 9), none, [1]⟩,
   ⟨some 11, .call 154 [(.t 8), (.t 10)], none, [0, 2]⟩,
   ⟨some 7, .mv (.t 11), none, [3, 3, 0, 1, 2, 3]⟩])
  (.seq (.seq (.ops [
   ⟨some 12, .mv (.t 7), none, []⟩,
   ⟨some 13, .bin .lss none (.t 12) (.c (.pv (.int .i64 0))), none, [0]⟩,
   ⟨some 14, .mv (.t 13), none, [1]⟩,
   ⟨some 15, .fieldAddr 1 (.t 4), some (14, false), [2]⟩,
   ⟨some 16, .load false 1 (.t 15), some (14, false), [3, 2]⟩,
   ⟨some 17, .fieldAddr 1 (.t 5), some (14, false), [2]⟩,
   ⟨some 18, .load false 1 (.t 17), some (14, false), [5, 2]⟩,
   ⟨some 19, .bin .neq none (.t 16) (.t 18), some (14, false), [4, 6, 2]⟩,
   ⟨some 20, .pick (.t 14) (.c (.pv (.bool true))) (.t 19), none, [2, 7]⟩,
   ⟨some 21, .mv (.t 20), none, [8, 2]⟩,
   ⟨some 22, .fieldAddr 7 (.t 4), some (21, false), [9]⟩,
   ⟨some 23, .load false 1 (.t 22), some (21, false), [10, 9]⟩,
   ⟨some 24, .bin .eql none (.t 23) (.c (.pv (.int .i64 0))), some (21, false), [11, 9]⟩,
   ⟨some 25, .pick (.t 21) (.c (.pv (.bool true))) (.t 24), none, [9, 12]⟩,
   ⟨some 26, .mv (.t 25), none, [13, 9]⟩,
   ⟨some 27, .fieldAddr 7 (.t 4), some (26, false), [14]⟩,
   ⟨some 28, .load false 1 (.t 27), some (26, false), [15, 14]⟩,
   ⟨some 29, .fieldAddr 7 (.t 5), some (26, false), [14]⟩,
   ⟨some 30, .load false 1 (.t 29), some (26, false), [17, 14]⟩,
   ⟨some 31, .bin .neq none (.t 28) (.t 30), some (26, false), [16, 18, 14]⟩,
   ⟨some 32, .pick (.t 26) (.c (.pv (.bool true))) (.t 31), none, [14, 19]⟩])
  (.cond (.t 32)
   (.seq (.ops [
     ⟨some 6, .mv (.c (.pv (.bool false))), none, []⟩])
    .ret)
   .skip))
  (.seq (.ops [
   ⟨some 33, .fieldAddr 1 (.t 3), none, []⟩,
   ⟨some 34, .load false 1 (.t 33), none, [0]⟩,
   ⟨some 35, .mv (.t 7), none, []⟩,
   ⟨some 36, .idxAddr 5 (.t 34) (.t 35), none, [1, 2]⟩,
   ⟨some 37, .fieldAddr 1 (.t 36), none, [3]⟩,
   ⟨some 38, .load false 1 (.t 37), none, [4]⟩,
   ⟨some 6, .mv (.t 38), none, [5, 0, 1, 2, 3, 4, 5]⟩])
  .ret))))⟩
def f181 : AFunc := ⟨51, [.cell 8 true 3, .t 9],
 (.seq (.ops [
   ⟨some 4, .box (.t 0), none, []⟩,
   ⟨some 5, .box (.t 1), none, []⟩,
   ⟨some 6, .box (.t 2), none, []⟩,
   ⟨some 7, .box (.t 3), none, []⟩,
   ⟨some 8, .alloc [.nils, (.pv (.int .i64 0)), (.pv (.int .i64 0))], none, []⟩,
   ⟨some 9, .mv (.c (.pv (.int .i64 0))), none, []⟩])
  (.seq (.ops [
   ⟨some 14, .load true 3 (.t 4), none, []⟩,
   ⟨some 15, .load true 3 (.t 5), none, []⟩,
   ⟨some 16, .load true 3 (.t 6), none, []⟩,
   ⟨some 17, .load true 4 (.t 7), none, []⟩,
   ⟨some 18, .call 166 [(.t 14), (.t 15), (.t 16), (.t 17)], none, [0, 1, 2, 3]⟩,
   ⟨some 13, .mv (.t 18), none, [4]⟩,
   ⟨some 19, .extract (.t 13) 0, none, [5]⟩,
   ⟨some 20, .extract (.t 13) 1, none, [5]⟩,
   ⟨some 10, .alloc [.nils, (.pv (.int .i64 0)), (.pv (.int .i64 0))], none, []⟩,
   ⟨none, .store 3 (.t 10) (.t 19), none, [8, 6, 4, 0, 1, 2, 3, 4, 5, 6, 8]⟩,
   ⟨some 11, .mv (.t 20), none, [7, 9, 0, 1, 2, 3, 4, 5, 6, 7, 8, 9]⟩])
  (.seq (.seq (.ops [
   ⟨some 21, .mv (.t 11), none, []⟩,
   ⟨some 22, .bin .neq none (.t 21) (.c (.pv (.int .i64 0))), none, [0]⟩])
  (.cond (.t 22)
   (.seq (.ops [
     ⟨some 23, .build [.nils, (.pv (.int .i64 0)), (.pv (.int .i64 0))] [], none, []⟩,
     ⟨some 24, .mv (.t 11), none, []⟩,
     ⟨none, .store 3 (.t 8) (.t 23), none, [0, 0]⟩,
     ⟨some 9, .mv (.t 24), none, [1, 2, 0, 1, 2]⟩])
    .ret)
   .skip))
  (.seq (.ops [
   ⟨some 25, .load true 3 (.t 6), none, []⟩,
   ⟨some 26, .fieldAddr 1 (.t 7), none, []⟩,
   ⟨some 27, .load false 1 (.t 26), none, [1]⟩,
   ⟨some 28, .fieldAddr 3 (.t 7), none, []⟩,
   ⟨some 29, .load false 1 (.t 28), none, [3]⟩,
   ⟨some 30, .call 175 [(.t 25), (.t 27), (.t 29)], none, [0, 2, 4]⟩,
   ⟨some 12, .mv (.t 30), none, [5, 5, 0, 1, 2, 3, 4, 5]⟩])
  (.seq (.seq (.ops [
   ⟨some 31, .fieldAddr 0 (.t 7), none, []⟩,
   ⟨some 32, .load false 1 (.t 31), none, [0]⟩,
   ⟨some 33, .bin .eql none (.t 32) (.c (.pv (.int .i64 4))), none, [1]⟩,
   ⟨some 34, .mv (.t 33), none, [2]⟩,
   ⟨some 35, .mv (.t 12), some (34, true), [3]⟩,
   ⟨some 36, .not (.t 35), some (34, true), [4, 3]⟩,
   ⟨some 37, .pick (.t 34) (.t 36) (.c (.pv (.bool false))), none, [3, 5]⟩])
  (.cond (.t 37)
   (.seq (.ops [
     ⟨some 38, .build [.nils, (.pv (.int .i64 0)), (.pv (.int .i64 0))] [], none, []⟩,
     ⟨none, .store 3 (.t 8) (.t 38), none, [0, 0]⟩,
     ⟨some 9, .mv (.c (.pv (.int .i64 14))), none, [1, 0, 1]⟩])
    .ret)
   .skip))
  (.seq (.ops [
   ⟨some 40, .load true 3 (.t 4), none, []⟩,
   ⟨some 41, .load true 3 (.t 5), none, []⟩,
   ⟨some 42, .load true 3 (.t 10), none, []⟩,
   ⟨some 43, .call 184 [(.t 40), (.t 41), (.t 42)], none, [0, 1, 2]⟩,
   ⟨some 39, .mv (.t 43), none, [3]⟩,
   ⟨some 44, .extract (.t 39) 0, none, [4]⟩,
   ⟨some 45, .extract (.t 39) 1, none, [4]⟩,
   ⟨some 11, .mv (.t 44), none, [5, 3, 0, 1, 2, 3, 4, 5]⟩])
  (.seq (.seq (.ops [
   ⟨some 46, .mv (.t 11), none, []⟩,
   ⟨some 47, .bin .neq none (.t 46) (.c (.pv (.int .i64 0))), none, [0]⟩])
  (.cond (.t 47)
   (.seq (.ops [
     ⟨some 48, .build [.nils, (.pv (.int .i64 0)), (.pv (.int .i64 0))] [], none, []⟩,
     ⟨some 49, .mv (.t 11), none, []⟩,
     ⟨none, .store 3 (.t 8) (.t 48), none, [0, 0]⟩,
     ⟨some 9, .mv (.t 49), none, [1, 2, 0, 1, 2]⟩])
    .ret)
   .skip))
  (.seq (.ops [
   ⟨some 50, .load true 3 (.t 10), none, []⟩,
   ⟨none, .store 3 (.t 8) (.t 50), none, [0, 0]⟩,
   ⟨some 9, .mv (.c (.pv (.int .i64 0))), none, [1, 0, 1]⟩])
  .ret))))))))⟩
def f183l0 : ACode :=
 (.seq (.seq (.ops [
   ⟨some 28, .mv (.t 12), none, []⟩,
   ⟨some 29, .mv (.t 2), none, []⟩,
   ⟨some 30, .len (.t 29), none, [1]⟩,
   ⟨some 31, .bin .lss none (.t 28) (.t 30), none, [0, 2]⟩])
  (.cond (.t 31)
   .skip
   (.exit 0)))
  (.seq (.block 1
   (.seq (.draw [
     ⟨some 35, .load true 3 (.t 3), none, []⟩,
     ⟨some 36, .load true 3 (.t 4), none, []⟩,
     ⟨some 37, .load true 3 (.t 9), none, []⟩,
     ⟨some 38, .mv (.t 2), none, []⟩,
     ⟨some 39, .mv (.t 12), none, []⟩,
     ⟨some 40, .idxAddr 4 (.t 38) (.t 39), none, [3, 4]⟩,
     ⟨some 41, .load true 4 (.t 40), none, [5]⟩,
     ⟨some 42, .call 181 [(.t 35), (.t 36), (.t 37), (.t 41)], none, [0, 1, 2, 6]⟩,
     ⟨some 34, .mv (.t 42), none, [7]⟩,
     ⟨some 43, .extract (.t 34) 0, none, [8]⟩,
     ⟨some 44, .extract (.t 34) 1, none, [8]⟩,
     ⟨some 13, .alloc [.nils, (.pv (.int .i64 0)), (.pv (.int .i64 0))], none, []⟩,
     ⟨none, .store 3 (.t 13) (.t 43), none, [11, 9, 7, 0, 1, 2, 3, 4, 5, 6, 7, 8, 9, 11]⟩,
     ⟨some 14, .mv (.t 44), none, [10, 12, 0, 1, 2, 3, 4, 5, 6, 7, 8, 9, 10, 11, 12]⟩])
    (.seq (.seq (.ops [
     ⟨some 45, .mv (.t 14), none, []⟩,
     ⟨some 46, .bin .neq none (.t 45) (.c (.pv (.int .i64 0))), none, [0]⟩])
    (.cond (.t 46)
     (.seq (.ops [
       ⟨some 47, .load true 3 (.t 9), none, []⟩,
       ⟨some 48, .mv (.t 12), none, []⟩,
       ⟨some 49, .mv (.t 14), none, []⟩,
       ⟨none, .store 3 (.t 6) (.t 47), none, [0, 0]⟩,
       ⟨some 7, .mv (.t 48), none, [1, 3, 0, 1, 3]⟩,
       ⟨some 8, .mv (.t 49), none, [2, 4, 0, 1, 2, 3, 4]⟩])
      .ret)
     .skip))
    (.ops [
     ⟨some 50, .load true 3 (.t 13), none, []⟩,
     ⟨none, .store 3 (.t 9) (.t 50), none, [0, 0]⟩]))))
  (.ops [
   ⟨some 32, .mv (.t 12), none, []⟩,
   ⟨some 33, .bin .add none (.t 32) (.c (.pv (.int .i64 1))), none, [0]⟩,
   ⟨some 12, .mv (.t 33), none, [1, 0, 1]⟩])))
def f183 : AFunc := ⟨54, [.cell 6 true 3, .t 7, .t 8],
 (.seq (.ops [
   ⟨some 3, .box (.t 0), none, []⟩,
   ⟨some 4, .box (.t 1), none, []⟩,
   ⟨some 6, .alloc [.nils, (.pv (.int .i64 0)), (.pv (.int .i64 0))], none, []⟩,
   ⟨some 7, .mv (.c (.pv (.int .i64 0))), none, []⟩,
   ⟨some 8, .mv (.c (.pv (.int .i64 0))), none, [3]⟩])
  (.seq (.ops [
   ⟨some 15, .load true 3 (.t 3), none, []⟩,
   ⟨some 16, .call 164 [(.t 15)], none, [0]⟩,
   ⟨some 9, .alloc [.nils, (.pv (.int .i64 0)), (.pv (.int .i64 0))], none, []⟩,
   ⟨none, .store 3 (.t 9) (.t 16), none, [2, 1, 1, 0, 1, 2]⟩])
  (.seq (.ops [
   ⟨some 18, .load true 3 (.t 3), none, []⟩,
   ⟨some 19, .load true 3 (.t 4), none, []⟩,
   ⟨some 20, .load true 3 (.t 9), none, []⟩,
   ⟨some 21, .call 184 [(.t 18), (.t 19), (.t 20)], none, [0, 1, 2]⟩,
   ⟨some 17, .mv (.t 21), none, [3]⟩,
   ⟨some 22, .extract (.t 17) 0, none, [4]⟩,
   ⟨some 23, .extract (.t 17) 1, none, [4]⟩,
   ⟨some 10, .mv (.t 22), none, [5, 3, 0, 1, 2, 3, 4, 5]⟩,
   ⟨some 11, .mv (.t 23), none, [6, 7, 0, 1, 2, 3, 4, 5, 6, 7]⟩])
  (.seq (.seq (.ops [
   ⟨some 24, .mv (.t 10), none, []⟩,
   ⟨some 25, .bin .neq none (.t 24) (.c (.pv (.int .i64 0))), none, [0]⟩])
  (.cond (.t 25)
   (.seq (.ops [
     ⟨some 26, .build [.nils, (.pv (.int .i64 0)), (.pv (.int .i64 0))] [], none, []⟩,
     ⟨some 27, .mv (.t 10), none, []⟩,
     ⟨none, .store 3 (.t 6) (.t 26), none, [0, 0]⟩,
     ⟨some 7, .mv (.c (.pv (.int .i64 0))), none, [2, 0, 2]⟩,
     ⟨some 8, .mv (.t 27), none, [1, 3, 0, 1, 2, 3]⟩])
    .ret)
   .skip))
  (.seq (.seq (.ops [
   ⟨some 12, .mv (.c (.pv (.int .i64 0))), none, []⟩])
  (.block 0
   (.loop f183l0)))
  (.seq (.ops [
   ⟨some 51, .load true 3 (.t 9), none, []⟩,
   ⟨some 52, .mv (.t 2), none, []⟩,
   ⟨some 53, .len (.t 52), none, [1]⟩,
   ⟨none, .store 3 (.t 6) (.t 51), none, [0, 0]⟩,
   ⟨some 7, .mv (.t 53), none, [2, 3, 0, 1, 2, 3]⟩,
   ⟨some 8, .mv (.c (.pv (.int .i64 0))), none, [4, 0, 1, 2, 3, 4]⟩])
  .ret))))))⟩
def f184 : AFunc := ⟨47, [.t 6, .t 7],
 (.seq (.ops [
   ⟨some 3, .box (.t 0), none, []⟩,
   ⟨some 4, .box (.t 1), none, []⟩,
   ⟨some 5, .box (.t 2), none, []⟩,
   ⟨some 6, .mv (.c (.pv (.int .i64 0))), none, []⟩,
   ⟨some 7, .mv (.c (.pv (.int .i64 0))), none, [3]⟩])
  (.seq (.ops [
   ⟨some 12, .load true 3 (.t 3), none, []⟩,
   ⟨some 13, .load true 3 (.t 5), none, []⟩,
   ⟨some 14, .call 169 [(.t 12), (.t 13)], none, [0, 1]⟩,
   ⟨some 11, .mv (.t 14), none, [2]⟩,
   ⟨some 15, .extract (.t 11) 0, none, [3]⟩,
   ⟨some 16, .extract (.t 11) 1, none, [3]⟩,
   ⟨some 8, .mv (.t 15), none, [4, 2, 0, 1, 2, 3, 4]⟩,
   ⟨some 9, .mv (.t 16), none, [5, 6, 0, 1, 2, 3, 4, 5, 6]⟩])
  (.seq (.seq (.ops [
   ⟨some 17, .mv (.t 8), none, []⟩,
   ⟨some 18, .bin .neq none (.t 17) (.c (.pv (.int .i64 0))), none, [0]⟩])
  (.cond (.t 18)
   (.seq (.ops [
     ⟨some 19, .mv (.t 8), none, []⟩,
     ⟨some 20, .mv (.t 9), none, []⟩,
     ⟨some 6, .mv (.t 19), none, [0, 0]⟩,
     ⟨some 7, .mv (.t 20), none, [1, 2, 0, 1, 2]⟩])
    .ret)
   .skip))
  (.seq (.ops [
   ⟨some 21, .load true 3 (.t 3), none, []⟩,
   ⟨some 22, .load true 3 (.t 5), none, []⟩,
   ⟨some 23, .call 172 [(.t 21), (.t 22)], none, [0, 1]⟩,
   ⟨some 9, .mv (.t 23), none, [2, 2, 0, 1, 2]⟩])
  (.seq (.seq (.ops [
   ⟨some 24, .mv (.t 9), none, []⟩,
   ⟨some 25, .bin .geq none (.t 24) (.c (.pv (.int .i64 0))), none, [0]⟩])
  (.cond (.t 25)
   (.seq (.ops [
     ⟨some 26, .mv (.t 9), none, []⟩,
     ⟨some 6, .mv (.c (.pv (.int .i64 10))), none, []⟩,
     ⟨some 7, .mv (.t 26), none, [0, 1, 0, 1]⟩])
    .ret)
   .skip))
  (.seq (.ops [
   ⟨some 27, .load true 3 (.t 3), none, []⟩,
   ⟨some 28, .load true 3 (.t 5), none, []⟩,
   ⟨some 29, .call 178 [(.t 27), (.t 28)], none, [0, 1]⟩,
   ⟨some 9, .mv (.t 29), none, [2, 2, 0, 1, 2]⟩])
  (.seq (.seq (.ops [
   ⟨some 30, .mv (.t 9), none, []⟩,
   ⟨some 31, .bin .geq none (.t 30) (.c (.pv (.int .i64 0))), none, [0]⟩])
  (.cond (.t 31)
   (.seq (.ops [
     ⟨some 32, .mv (.t 9), none, []⟩,
     ⟨some 6, .mv (.c (.pv (.int .i64 11))), none, []⟩,
     ⟨some 7, .mv (.t 32), none, [0, 1, 0, 1]⟩])
    .ret)
   .skip))
  (.seq (.ops [
   ⟨some 34, .load true 3 (.t 3), none, []⟩,
   ⟨some 35, .load true 3 (.t 5), none, []⟩,
   ⟨some 36, .call 173 [(.t 34), (.t 35)], none, [0, 1]⟩,
   ⟨some 33, .mv (.t 36), none, [2]⟩,
   ⟨some 37, .extract (.t 33) 0, none, [3]⟩,
   ⟨some 38, .extract (.t 33) 1, none, [3]⟩,
   ⟨some 8, .mv (.t 37), none, [4, 2, 0, 1, 2, 3, 4]⟩,
   ⟨some 9, .mv (.t 38), none, [5, 6, 0, 1, 2, 3, 4, 5, 6]⟩])
  (.seq (.seq (.ops [
   ⟨some 39, .mv (.t 8), none, []⟩,
   ⟨some 40, .bin .neq none (.t 39) (.c (.pv (.int .i64 0))), none, [0]⟩])
  (.cond (.t 40)
   (.seq (.ops [
     ⟨some 41, .mv (.t 8), none, []⟩,
     ⟨some 42, .mv (.t 9), none, []⟩,
     ⟨some 6, .mv (.t 41), none, [0, 0]⟩,
     ⟨some 7, .mv (.t 42), none, [1, 2, 0, 1, 2]⟩])
    .ret)
   .skip))
  (.seq (.ops [
   ⟨some 43, .load true 3 (.t 4), none, []⟩,
   ⟨some 44, .load true 3 (.t 5), none, []⟩,
   ⟨some 45, .call 179 [(.t 43), (.t 44)], none, [0, 1]⟩,
   ⟨some 10, .mv (.t 45), none, [2, 2, 0, 1, 2]⟩])
  (.seq (.seq (.ops [
   ⟨some 46, .mv (.t 10), none, []⟩])
  (.cond (.t 46)
   (.seq (.ops [
     ⟨some 6, .mv (.c (.pv (.int .i64 15))), none, []⟩,
     ⟨some 7, .mv (.c (.pv (.int .i64 (-1)))), none, [0, 0]⟩])
    .ret)
   .skip))
  (.seq (.ops [
   ⟨some 6, .mv (.c (.pv (.int .i64 0))), none, []⟩,
   ⟨some 7, .mv (.c (.pv (.int .i64 (-1)))), none, [0, 0]⟩])
  .ret))))))))))))⟩
def f211l0 : ACode :=
 (.seq (.ops [
   ⟨some 12, .bin .lss none (.t 11) (.t 10), none, []⟩])
  (.seq (.cond (.t 12)
   .skip
   (.exit 0))
  (.seq (.block 1
   (.seq (.ops [
     ⟨some 13, .idxAddr 6 (.t 9) (.t 11), none, []⟩,
     ⟨some 14, .load true 6 (.t 13), none, [0]⟩,
     ⟨some 7, .alloc [(.pv (.int .i64 0)), (.pv (.int .u64 0)), (.pv (.int .u64 0)), (.pv (.int .u64 0)), (.pv (.int .u64 0)), (.pv (.bool false))], none, []⟩,
     ⟨none, .store 6 (.t 7) (.t 14), none, [2, 1, 0, 1, 2]⟩])
    (.seq (.ops [
     ⟨some 15, .load true 6 (.t 7), none, []⟩,
     ⟨some 16, .bslice 6 1 [(.pv (.int .i64 0)), (.pv (.int .u64 0)), (.pv (.int .u64 0)), (.pv (.int .u64 0)), (.pv (.int .u64 0)), (.pv (.bool false))] [(0, 6, (.t 15))], none, [0]⟩,
     ⟨some 17, .build [.nils, (.pv (.int .i64 0)), (.pv (.int .i64 0))] [(0, 1, (.t 16))], none, [1]⟩,
     ⟨some 18, .load true 3 (.t 3), none, []⟩,
     ⟨some 19, .call 238 [(.t 17), (.t 18)], none, [2, 3]⟩,
     ⟨some 20, .not (.t 19), none, [4]⟩])
    (.cond (.t 20)
     (.ops [
       ⟨some 21, .mv (.t 5), none, []⟩,
       ⟨some 22, .bin .add none (.t 21) (.c (.pv (.int .i64 1))), none, [0]⟩,
       ⟨some 5, .mv (.t 22), none, [1, 0, 1]⟩])
     .skip))))
  (.ops [
   ⟨some 23, .bin .add none (.t 11) (.c (.pv (.int .i64 1))), none, []⟩,
   ⟨some 11, .mv (.t 23), none, [0]⟩]))))
def f211 : AFunc := ⟨27, [.t 4],
 (.seq (.ops [
   ⟨some 2, .box (.t 0), none, []⟩,
   ⟨some 3, .box (.t 1), none, []⟩,
   ⟨some 4, .mv (.c (.pv (.int .i64 0))), none, []⟩])
  (.seq (.ops [
   ⟨some 5, .mv (.c (.pv (.int .i64 0))), none, []⟩])
  (.seq (.seq (.ops [
   ⟨some 8, .fieldAddr 0 (.t 2), none, []⟩,
   ⟨some 9, .load false 1 (.t 8), none, [0]⟩,
   ⟨some 10, .len (.t 9), none, [1]⟩,
   ⟨some 11, .mv (.c (.pv (.int .i64 0))), none, []⟩])
  (.block 0
   (.loop f211l0)))
  (.seq (.ops [
   ⟨some 24, .mv (.t 5), none, []⟩,
   ⟨some 25, .bin .add none (.t 24) (.c (.pv (.int .i64 1))), none, [0]⟩,
   ⟨some 26, .bin .quo none (.t 25) (.c (.pv (.int .i64 2))), none, [1]⟩,
   ⟨some 4, .mv (.t 26), none, [2, 0, 1, 2]⟩])
  .ret))))⟩
def f217 : AFunc := ⟨18, [.t 4],
 (.seq (.ops [
   ⟨some 2, .box (.t 0), none, []⟩,
   ⟨some 3, .box (.t 1), none, []⟩,
   ⟨some 4, .mv (.c (.pv .nili)), none, []⟩])
  (.seq (.seq (.ops [
   ⟨some 5, .fieldAddr 0 (.t 3), none, []⟩,
   ⟨some 6, .load false 1 (.t 5), none, [0]⟩,
   ⟨some 7, .bin .eql none (.t 6) (.c (.pv (.int .i64 4))), none, [1]⟩,
   ⟨some 8, .mv (.t 7), none, [2]⟩,
   ⟨some 9, .load true 3 (.t 2), some (8, true), [3]⟩,
   ⟨some 10, .fieldAddr 1 (.t 3), some (8, true), [3]⟩,
   ⟨some 11, .load false 1 (.t 10), some (8, true), [5, 3]⟩,
   ⟨some 12, .fieldAddr 3 (.t 3), some (8, true), [3]⟩,
   ⟨some 13, .load false 1 (.t 12), some (8, true), [7, 3]⟩,
   ⟨some 14, .call 218 [(.t 9), (.t 11), (.t 13)], some (8, true), [4, 6, 8, 3, 3]⟩,
   ⟨some 15, .not (.t 14), some (8, true), [9, 3]⟩,
   ⟨some 16, .pick (.t 8) (.t 15) (.c (.pv (.bool false))), none, [3, 10]⟩])
  (.cond (.t 16)
   (.seq (.ops [
     ⟨some 17, .mkI 0 (.c (.pv (.int .i64 14))), none, []⟩,
     ⟨some 4, .mv (.t 17), none, [0, 0]⟩])
    .ret)
   .skip))
  (.seq (.ops [
   ⟨some 4, .mv (.c (.pv .nili)), none, []⟩])
  .ret)))⟩
def f218 : AFunc := ⟨34, [.t 6],
 (.seq (.ops [
   ⟨some 3, .box (.t 0), none, []⟩,
   ⟨some 6, .mv (.c (.pv (.bool false))), none, []⟩])
  (.seq (.ops [
   ⟨some 12, .load true 3 (.t 3), none, []⟩,
   ⟨some 13, .mv (.t 1), none, []⟩,
   ⟨some 14, .call 240 [(.t 12), (.t 13)], none, [0, 1]⟩,
   ⟨some 11, .mv (.t 14), none, [2]⟩,
   ⟨some 15, .extract (.t 11) 0, none, [3]⟩,
   ⟨some 16, .extract (.t 11) 1, none, [3]⟩,
   ⟨some 7, .alloc [(.pv (.int .i64 0)), (.pv (.int .i64 0)), (.pv (.int .i64 0)), (.pv (.int .u64 0)), (.pv (.int .u64 0)), (.pv (.int .u64 0)), (.pv (.int .u64 0)), (.pv (.int .i64 0))], none, []⟩,
   ⟨none, .store 8 (.t 7) (.t 15), none, [6, 4, 2, 0, 1, 2, 3, 4, 6]⟩,
   ⟨some 8, .mv (.t 16), none, [5, 7, 0, 1, 2, 3, 4, 5, 6, 7]⟩])
  (.seq (.ops [
   ⟨some 18, .load true 3 (.t 3), none, []⟩,
   ⟨some 19, .mv (.t 2), none, []⟩,
   ⟨some 20, .call 240 [(.t 18), (.t 19)], none, [0, 1]⟩,
   ⟨some 17, .mv (.t 20), none, [2]⟩,
   ⟨some 21, .extract (.t 17) 0, none, [3]⟩,
   ⟨some 22, .extract (.t 17) 1, none, [3]⟩,
   ⟨some 9, .alloc [(.pv (.int .i64 0)), (.pv (.int .i64 0)), (.pv (.int .i64 0)), (.pv (.int .u64 0)), (.pv (.int .u64 0)), (.pv (.int .u64 0)), (.pv (.int .u64 0)), (.pv (.int .i64 0))], none, []⟩,
   ⟨none, .store 8 (.t 9) (.t 21), none, [6, 4, 2, 0, 1, 2, 3, 4, 6]⟩,
   ⟨some 10, .mv (.t 22), none, [5, 7, 0, 1, 2, 3, 4, 5, 6, 7]⟩])
  (.seq (.ops [
   ⟨some 23, .mv (.t 8), none, []⟩,
   ⟨some 24, .mv (.t 23), none, [0]⟩,
   ⟨some 25, .mv (.t 10), some (24, true), [1]⟩,
   ⟨some 26, .pick (.t 24) (.t 25) (.c (.pv (.bool false))), none, [1, 2]⟩,
   ⟨some 27, .mv (.t 26), none, [3, 1]⟩,
   ⟨some 28, .fieldAddr 2 (.t 9), some (27, true), [4]⟩,
   ⟨some 29, .load false 1 (.t 28), some (27, true), [5, 4]⟩,
   ⟨some 30, .fieldAddr 2 (.t 7), some (27, true), [4]⟩,
   ⟨some 31, .load false 1 (.t 30), some (27, true), [7, 4]⟩,
   ⟨some 32, .bin .lss none (.t 29) (.t 31), some (27, true), [6, 8, 4]⟩,
   ⟨some 33, .pick (.t 27) (.t 32) (.c (.pv (.bool false))), none, [4, 9]⟩,
   ⟨some 6, .mv (.t 33), none, [10, 4, 0, 1, 2, 3, 4, 5, 6, 7, 8, 9, 10]⟩])
  .ret))))⟩
def f246 : AFunc := ⟨43, [.cell 8 true 3, .t 9],
 (.seq (.ops [
   ⟨some 4, .box (.t 0), none, []⟩,
   ⟨some 5, .box (.t 1), none, []⟩,
   ⟨some 6, .box (.t 2), none, []⟩,
   ⟨some 7, .box (.t 3), none, []⟩,
   ⟨some 8, .alloc [.nils, (.pv (.int .i64 0)), (.pv (.int .i64 0))], none, []⟩,
   ⟨some 9, .mv (.c (.pv .nili)), none, []⟩])
  (.seq (.ops [
   ⟨some 15, .load true 3 (.t 4), none, []⟩,
   ⟨some 16, .load true 3 (.t 5), none, []⟩,
   ⟨some 17, .load true 3 (.t 6), none, []⟩,
   ⟨some 18, .load true 4 (.t 7), none, []⟩,
   ⟨some 19, .call 239 [(.t 15), (.t 16), (.t 17), (.t 18)], none, [0, 1, 2, 3]⟩,
   ⟨some 14, .mv (.t 19), none, [4]⟩,
   ⟨some 20, .extract (.t 14) 0, none, [5]⟩,
   ⟨some 21, .extract (.t 14) 1, none, [5]⟩,
   ⟨some 10, .alloc [.nils, (.pv (.int .i64 0)), (.pv (.int .i64 0))], none, []⟩,
   ⟨none, .store 3 (.t 10) (.t 20), none, [8, 6, 4, 0, 1, 2, 3, 4, 5, 6, 8]⟩,
   ⟨some 11, .mv (.t 21), none, [7, 9, 0, 1, 2, 3, 4, 5, 6, 7, 8, 9]⟩])
  (.seq (.seq (.ops [
   ⟨some 22, .mv (.t 11), none, []⟩,
   ⟨some 23, .bin .neq (some (.iface true)) (.t 22) (.c (.pv .nili)), none, [0]⟩])
  (.cond (.t 23)
   (.seq (.ops [
     ⟨some 24, .build [.nils, (.pv (.int .i64 0)), (.pv (.int .i64 0))] [], none, []⟩,
     ⟨some 25, .mv (.t 11), none, []⟩,
     ⟨none, .store 3 (.t 8) (.t 24), none, [0, 0]⟩,
     ⟨some 9, .mv (.t 25), none, [1, 2, 0, 1, 2]⟩])
    .ret)
   .skip))
  (.seq (.seq (.ops [
   ⟨some 26, .load true 3 (.t 6), none, []⟩,
   ⟨some 27, .load true 4 (.t 7), none, []⟩,
   ⟨some 28, .call 217 [(.t 26), (.t 27)], none, [0, 1]⟩,
   ⟨some 12, .mv (.t 28), none, [2, 2, 0, 1, 2]⟩])
  (.seq (.ops [
   ⟨some 29, .mv (.t 12), none, []⟩,
   ⟨some 30, .bin .neq (some (.iface true)) (.t 29) (.c (.pv .nili)), none, [0]⟩])
  (.cond (.t 30)
   (.seq (.ops [
     ⟨some 31, .build [.nils, (.pv (.int .i64 0)), (.pv (.int .i64 0))] [], none, []⟩,
     ⟨some 32, .mv (.t 12), none, []⟩,
     ⟨none, .store 3 (.t 8) (.t 31), none, [0, 0]⟩,
     ⟨some 9, .mv (.t 32), none, [1, 2, 0, 1, 2]⟩])
    .ret)
   .skip)))
  (.seq (.seq (.ops [
   ⟨some 33, .load true 3 (.t 4), none, []⟩,
   ⟨some 34, .load true 3 (.t 5), none, []⟩,
   ⟨some 35, .load true 3 (.t 10), none, []⟩,
   ⟨some 36, .call 223 [(.t 33), (.t 34), (.t 35)], none, [0, 1, 2]⟩,
   ⟨some 13, .mv (.t 36), none, [3, 3, 0, 1, 2, 3]⟩])
  (.seq (.ops [
   ⟨some 37, .mv (.t 13), none, []⟩,
   ⟨some 38, .bin .neq (some (.iface true)) (.t 37) (.c (.pv .nili)), none, [0]⟩])
  (.cond (.t 38)
   (.seq (.ops [
     ⟨some 39, .build [.nils, (.pv (.int .i64 0)), (.pv (.int .i64 0))] [], none, []⟩,
     ⟨some 40, .mv (.t 13), none, []⟩,
     ⟨some 41, .call 248 [(.t 40)], none, [1]⟩,
     ⟨none, .store 3 (.t 8) (.t 39), none, [0, 2, 0]⟩,
     ⟨some 9, .mv (.t 41), none, [2, 3, 0, 1, 2, 3]⟩])
    .ret)
   .skip)))
  (.seq (.ops [
   ⟨some 42, .load true 3 (.t 10), none, []⟩,
   ⟨none, .store 3 (.t 8) (.t 42), none, [0, 0]⟩,
   ⟨some 9, .mv (.c (.pv .nili)), none, [1, 0, 1]⟩])
  .ret))))))⟩
def f247l0 : ACode :=
 (.seq (.ops [
   ⟨some 37, .bin .lss none (.t 36) (.t 35), none, []⟩])
  (.seq (.cond (.t 37)
   .skip
   (.exit 0))
  (.seq (.block 1
   (.seq (.ops [
     ⟨some 38, .mv (.t 36), none, []⟩,
     ⟨some 39, .idxAddr 4 (.t 34) (.t 36), none, []⟩,
     ⟨some 40, .load true 4 (.t 39), none, [1]⟩,
     ⟨some 13, .alloc [(.pv (.int .i64 0)), (.pv (.int .i64 0)), (.pv (.int .i64 0)), (.pv (.int .i64 0))], none, []⟩,
     ⟨some 12, .mv (.t 38), none, [0, 0, 1, 2, 3]⟩,
     ⟨none, .store 4 (.t 13) (.t 40), none, [3, 2, 4, 0, 1, 2, 3, 4]⟩])
    (.seq (.ops [
     ⟨some 42, .load true 3 (.t 3), none, []⟩,
     ⟨some 43, .load true 3 (.t 4), none, []⟩,
     ⟨some 44, .load true 3 (.t 10), none, []⟩,
     ⟨some 45, .load true 4 (.t 13), none, []⟩,
     ⟨some 46, .call 246 [(.t 42), (.t 43), (.t 44), (.t 45)], none, [0, 1, 2, 3]⟩,
     ⟨some 41, .mv (.t 46), none, [4]⟩,
     ⟨some 47, .extract (.t 41) 0, none, [5]⟩,
     ⟨some 48, .extract (.t 41) 1, none, [5]⟩,
     ⟨some 14, .alloc [.nils, (.pv (.int .i64 0)), (.pv (.int .i64 0))], none, []⟩,
     ⟨none, .store 3 (.t 14) (.t 47), none, [8, 6, 4, 0, 1, 2, 3, 4, 5, 6, 8]⟩,
     ⟨some 15, .mv (.t 48), none, [7, 9, 0, 1, 2, 3, 4, 5, 6, 7, 8, 9]⟩])
    (.seq (.seq (.ops [
     ⟨some 49, .mv (.t 15), none, []⟩,
     ⟨some 50, .bin .neq (some (.iface true)) (.t 49) (.c (.pv .nili)), none, [0]⟩])
    (.cond (.t 50)
     (.seq (.ops [
       ⟨some 51, .load true 3 (.t 10), none, []⟩,
       ⟨some 52, .mv (.t 12), none, []⟩,
       ⟨some 53, .mv (.t 15), none, []⟩,
       ⟨none, .store 3 (.t 6) (.t 51), none, [0, 0]⟩,
       ⟨some 7, .mv (.t 52), none, [1, 3, 0, 1, 3]⟩,
       ⟨some 8, .mv (.t 53), none, [2, 4, 0, 1, 2, 3, 4]⟩])
      .ret)
     .skip))
    (.ops [
     ⟨some 54, .load true 3 (.t 14), none, []⟩,
     ⟨none, .store 3 (.t 10) (.t 54), none, [0, 0]⟩])))))
  (.ops [
   ⟨some 55, .bin .add none (.t 36) (.c (.pv (.int .i64 1))), none, []⟩,
   ⟨some 36, .mv (.t 55), none, [0]⟩]))))
def f247 : AFunc := ⟨59, [.cell 6 true 3, .t 7, .t 8],
 (.seq (.ops [
   ⟨some 3, .box (.t 0), none, []⟩,
   ⟨some 4, .box (.t 1), none, []⟩,
   ⟨some 6, .alloc [.nils, (.pv (.int .i64 0)), (.pv (.int .i64 0))], none, []⟩,
   ⟨some 7, .mv (.c (.pv (.int .i64 0))), none, []⟩,
   ⟨some 8, .mv (.c (.pv .nili)), none, [3]⟩])
  (.seq (.seq (.ops [
   ⟨some 16, .load true 3 (.t 3), none, []⟩,
   ⟨some 17, .load true 3 (.t 4), none, []⟩,
   ⟨some 18, .call 80 [(.t 16), (.t 17)], none, [0, 1]⟩,
   ⟨some 9, .mv (.t 18), none, [2, 2, 0, 1, 2]⟩])
  (.seq (.ops [
   ⟨some 19, .mv (.t 9), none, []⟩,
   ⟨some 20, .bin .neq (some (.iface true)) (.t 19) (.c (.pv .nili)), none, [0]⟩])
  (.cond (.t 20)
   (.seq (.ops [
     ⟨some 21, .build [.nils, (.pv (.int .i64 0)), (.pv (.int .i64 0))] [], none, []⟩,
     ⟨some 22, .mv (.t 9), none, []⟩,
     ⟨none, .store 3 (.t 6) (.t 21), none, [0, 0]⟩,
     ⟨some 7, .mv (.c (.pv (.int .i64 0))), none, [2, 0, 2]⟩,
     ⟨some 8, .mv (.t 22), none, [1, 3, 0, 1, 2, 3]⟩])
    .ret)
   .skip)))
  (.seq (.ops [
   ⟨some 23, .load true 3 (.t 3), none, []⟩,
   ⟨some 24, .call 237 [(.t 23)], none, [0]⟩,
   ⟨some 10, .alloc [.nils, (.pv (.int .i64 0)), (.pv (.int .i64 0))], none, []⟩,
   ⟨none, .store 3 (.t 10) (.t 24), none, [2, 1, 1, 0, 1, 2]⟩])
  (.seq (.seq (.ops [
   ⟨some 25, .load true 3 (.t 3), none, []⟩,
   ⟨some 26, .load true 3 (.t 4), none, []⟩,
   ⟨some 27, .load true 3 (.t 10), none, []⟩,
   ⟨some 28, .call 223 [(.t 25), (.t 26), (.t 27)], none, [0, 1, 2]⟩,
   ⟨some 11, .mv (.t 28), none, [3, 3, 0, 1, 2, 3]⟩])
  (.seq (.ops [
   ⟨some 29, .mv (.t 11), none, []⟩,
   ⟨some 30, .bin .neq (some (.iface true)) (.t 29) (.c (.pv .nili)), none, [0]⟩])
  (.cond (.t 30)
   (.seq (.ops [
     ⟨some 31, .build [.nils, (.pv (.int .i64 0)), (.pv (.int .i64 0))] [], none, []⟩,
     ⟨some 32, .mv (.t 11), none, []⟩,
     ⟨some 33, .call 248 [(.t 32)], none, [1]⟩,
     ⟨none, .store 3 (.t 6) (.t 31), none, [0, 2, 0]⟩,
     ⟨some 7, .mv (.c (.pv (.int .i64 0))), none, [3, 0, 3]⟩,
     ⟨some 8, .mv (.t 33), none, [2, 4, 0, 1, 2, 3, 4]⟩])
    .ret)
   .skip)))
  (.seq (.seq (.ops [
   ⟨some 34, .mv (.t 2), none, []⟩,
   ⟨some 35, .len (.t 34), none, [0]⟩,
   ⟨some 36, .mv (.c (.pv (.int .i64 0))), none, []⟩])
  (.block 0
   (.loop f247l0)))
  (.seq (.ops [
   ⟨some 56, .load true 3 (.t 10), none, []⟩,
   ⟨some 57, .mv (.t 2), none, []⟩,
   ⟨some 58, .len (.t 57), none, [1]⟩,
   ⟨none, .store 3 (.t 6) (.t 56), none, [0, 0]⟩,
   ⟨some 7, .mv (.t 58), none, [2, 3, 0, 1, 2, 3]⟩,
   ⟨some 8, .mv (.c (.pv .nili)), none, [4, 0, 1, 2, 3, 4]⟩])
  .ret))))))⟩
def f248 : AFunc := ⟨9, [.t 2],
 (.seq (.ops [
   ⟨some 2, .mv (.c (.pv .nili)), none, []⟩])
  (.seq (.ops [
   ⟨some 3, .alloc [(.pv (.int .i64 0))], none, []⟩])
  (.seq (.seq (.ops [
   ⟨some 4, .mv (.t 0), none, []⟩,
   ⟨some 5, .mkI 3 (.t 3), none, []⟩,
   ⟨some 6, .call 266 [(.t 4), (.t 5)], none, [0, 1]⟩])
  (.cond (.t 6)
   (.seq (.ops [
     ⟨some 7, .load false 1 (.t 3), none, []⟩,
     ⟨some 8, .mkI 0 (.t 7), none, [0]⟩,
     ⟨some 2, .mv (.t 8), none, [1, 0, 1]⟩])
    .ret)
   .skip))
  (.seq (.ops [
   ⟨some 2, .mv (.c (.pv .nili)), none, []⟩])
  .ret))))⟩
end Go.Proofs.YtlfphlobcopemaaGreatDoor.Ab
set_option linter.unusedVariables false
set_option linter.unusedSimpArgs false
namespace Go.Proofs.YtlfphlobcopemaaGreatDoor.Ab
open Go
/-! ### Code, of any -/
section
variable {T : Tab}
theorem code_loop_out (c : Int) (hc : ¬ (1 ≤ c ∧ c ≤ 17)) (Q : Exit → St → Prop) (hend : ∀ fr hp nx, Q (.exit 0) ⟨fr, hp, nx⟩) :
    ∀ (k : Nat) (i : Int), i + k = 18 → 1 ≤ i → ∀ (fr : List (Nat × AV)) (hp : Hl) (nx : Nat), look fr 0 = .pv (.iface 0 (.int .i64 c)) → look fr 3 = .pv (.int .i64 i) → Wp T false (.loop f102l0) ⟨fr, hp, nx⟩ Q := by
  intro k
  induction k with
  | zero =>
    intro i hi h1 fr hp nx g0 g3
    have hle : ¬ i ≤ 17 := by omega
    rw [Wp_loop, Wp_eq f102l0.eq_1]
    simp only [runL, defL, binV, Nat.reduceEqDiff, Nat.reduceAdd, reduceCtorEq, Int.reduceToNat, Nat.reduceMul, Nat.reduceLT, Int.reduceNeg, Int.reduceLE, Int.reduceLT, Int.reduceEq, Nat.reduceLeDiff, List.drop, List.take, g0, g3, hle]
    exact hend _ _ _
  | succ k ih =>
    intro i hi h1 fr hp nx g0 g3
    have hle : i ≤ 17 := by omega
    have hne : ¬ c = i := by omega
    have hw : IntKind.i64.wrap (i + 1) = i + 1 := by rw [wrap6] <;> omega
    rw [Wp_loop, Wp_eq f102l0.eq_1]
    simp only [runL, defL, binV, Nat.reduceEqDiff, Nat.reduceAdd, reduceCtorEq, Int.reduceToNat, Nat.reduceMul, Nat.reduceLT, Int.reduceNeg, Int.reduceLE, Int.reduceLT, Int.reduceEq, Nat.reduceLeDiff, List.drop, List.take, g0, g3, hle, hne, hw]
    refine ih (i + 1) (by omega) (by omega) _ _ _ ?_ ?_
    all_goals try simp only [look_if, blkAt_if, Nat.reduceEqDiff, if_true, if_false, g0]
def codeV (r : PV) : Int := match r with
  | .iface 0 (.int _ c) => if 1 ≤ c ∧ c ≤ 17 then c else -1
  | _ => 0
theorem code_any (h102 : Std T 102 f102) (c : Int) : Gives T 102 [codeE c] (.int .i64 (codeV (codeE c))) := by
  unfold codeV codeE
  by_cases h : 1 ≤ c ∧ c ≤ 17
  · simp only [if_pos h]
    exact code_code h102 c h.1 h.2
  · simp only [if_neg h]
    refine gives h102 rfl ?_
    simp only [f102, runL, defL, binV, Nat.reduceEqDiff, Nat.reduceAdd, reduceCtorEq, Int.reduceToNat, Nat.reduceMul, Nat.reduceLT, Int.reduceNeg, Int.reduceLE, Int.reduceLT, Int.reduceEq, Nat.reduceLeDiff, List.drop, List.take]
    refine code_loop_out c h _ (fun fr hp nx => ?_) 17 1 (by omega) (by omega) _ _ _ rfl rfl
    simp only [runL, defL, binV, Nat.reduceEqDiff, Nat.reduceAdd, reduceCtorEq, Int.reduceToNat, Nat.reduceMul, Nat.reduceLT, Int.reduceNeg, Int.reduceLE, Int.reduceLT, Int.reduceEq, Nat.reduceLeDiff, List.drop, List.take]
/-! ### May, Check -/
def mayB (t : State) (a b : Int) : Bool := match podOf a t.pods, podOf b t.pods with
  | some p, some q => decide (q.prio < p.prio)
  | _, _ => false
def prioB (t : State) (m : Move) : Bool := if m.kind = 4 then mayB t m.pod m.over else true
structure Std12 (T : Tab) : Prop where
  s11 : Std11 T
  m : StdM T
  h217 : Std T 217 f217
  h218 : Std T 218 f218
  h240 : Std T 240 f240
  h246 : Std T 246 f246
  h248 : Std T 248 f248
theorem may_ok (S : Std12 T) (t : State) (a b : Int) (hl : t.pods.length ≤ 2 ^ 29) : Gives T 218 [stateP t, .int .i64 a, .int .i64 b] (.bool (mayB t a b)) := by
  have k1 := pod5_ok S.m.s5 S.h240 t a (by omega)
  have k2 := pod5_ok S.m.s5 S.h240 t b (by omega)
  simp only [stateP] at k1 k2
  refine gives S.h218 rfl ?_
  unfold mayB
  cases h1 : podOf a t.pods with
  | none =>
    rw [h1] at k1
    simp only [podR, podP, podC, pod0] at k1
    cases h2 : podOf b t.pods with
    | none =>
      rw [h2] at k2
      simp only [podR, podP, podC, pod0] at k2
      simp only [f218, runL, defL, binV, Nat.reduceEqDiff, Nat.reduceAdd, reduceCtorEq, Int.reduceToNat, Nat.reduceMul, Nat.reduceLT, Int.reduceNeg, Int.reduceLE, Int.reduceLT, Int.reduceEq, Nat.reduceLeDiff, List.drop, List.take, stateP, k1.call, k2.call]
    | some q =>
      rw [h2] at k2
      simp only [podR, podP, podC] at k2
      simp only [f218, runL, defL, binV, Nat.reduceEqDiff, Nat.reduceAdd, reduceCtorEq, Int.reduceToNat, Nat.reduceMul, Nat.reduceLT, Int.reduceNeg, Int.reduceLE, Int.reduceLT, Int.reduceEq, Nat.reduceLeDiff, List.drop, List.take, stateP, k1.call, k2.call]
  | some p =>
    rw [h1] at k1
    simp only [podR, podP, podC] at k1
    cases h2 : podOf b t.pods with
    | none =>
      rw [h2] at k2
      simp only [podR, podP, podC, pod0] at k2
      simp only [f218, runL, defL, binV, Nat.reduceEqDiff, Nat.reduceAdd, reduceCtorEq, Int.reduceToNat, Nat.reduceMul, Nat.reduceLT, Int.reduceNeg, Int.reduceLE, Int.reduceLT, Int.reduceEq, Nat.reduceLeDiff, List.drop, List.take, stateP, k1.call, k2.call]
    | some q =>
      rw [h2] at k2
      simp only [podR, podP, podC] at k2
      simp only [f218, runL, defL, binV, Nat.reduceEqDiff, Nat.reduceAdd, reduceCtorEq, Int.reduceToNat, Nat.reduceMul, Nat.reduceLT, Int.reduceNeg, Int.reduceLE, Int.reduceLT, Int.reduceEq, Nat.reduceLeDiff, List.drop, List.take, stateP, k1.call, k2.call]
theorem prior_ok (S : Std12 T) (t : State) (m : Move) (hl : t.pods.length ≤ 2 ^ 29) : Gives T 217 [stateP t, moveP m] (cond (prioB t m) .nili (codeE 14)) := by
  have k := may_ok S t m.pod m.over hl
  simp only [stateP] at k
  refine gives S.h217 rfl ?_
  unfold prioB
  by_cases h : m.kind = 4
  · have d := decide_eq_true h
    rw [if_pos h]
    cases hm : mayB t m.pod m.over <;> rw [hm] at k <;>
    simp only [f217, runL, defL, binV, Nat.reduceEqDiff, Nat.reduceAdd, reduceCtorEq, Int.reduceToNat, Nat.reduceMul, Nat.reduceLT, Int.reduceNeg, Int.reduceLE, Int.reduceLT, Int.reduceEq, Nat.reduceLeDiff, List.drop, List.take, stateP, moveP, moveC, k.call, d, codeE]
  · rw [if_neg h]
    simp only [f217, runL, defL, binV, Nat.reduceEqDiff, Nat.reduceAdd, reduceCtorEq, Int.reduceToNat, Nat.reduceMul, Nat.reduceLT, Int.reduceNeg, Int.reduceLE, Int.reduceLT, Int.reduceEq, Nat.reduceLeDiff, List.drop, List.take, stateP, moveP, moveC, h]
/-! ### alone -/
def aloneP (r : PV) : PV := if isNilP r = true then .nili else codeE (codeNo r)
theorem alone_ok (S : Std12 T) {r : PV} (hr : ErrV r) : Gives T 248 [r] (aloneP r) := by
  refine gives S.h248 rfl ?_
  have A := S.s11.h266
  rcases hr with rfl | ⟨a, n, rfl⟩ | ⟨n, rfl⟩
  · simp only [f248, runL, defL, binV, Nat.reduceEqDiff, Nat.reduceAdd, reduceCtorEq, Int.reduceToNat, Nat.reduceMul, Nat.reduceLT, Int.reduceNeg, Int.reduceLE, Int.reduceLT, Int.reduceEq, Nat.reduceLeDiff, List.drop, List.take, as_nilQ A, aloneP, isNilP]
  · simp only [f248, runL, defL, binV, Nat.reduceEqDiff, Nat.reduceAdd, reduceCtorEq, Int.reduceToNat, Nat.reduceMul, Nat.reduceLT, Int.reduceNeg, Int.reduceLE, Int.reduceLT, Int.reduceEq, Nat.reduceLeDiff, List.drop, List.take, spotE]
    rw [as_spotQ A (o := 0) (by simp only [blkAt_if, if_true])]
    simp only [runL, defL, binV, Nat.reduceEqDiff, Nat.reduceAdd, reduceCtorEq, Int.reduceToNat, Nat.reduceMul, Nat.reduceLT, Int.reduceNeg, Int.reduceLE, Int.reduceLT, Int.reduceEq, Nat.reduceLeDiff, List.drop, List.take, aloneP, isNilP, codeE, codeNo, codesOf, List.headD_cons, Bool.false_eq_true]
  · simp only [f248, runL, defL, binV, Nat.reduceEqDiff, Nat.reduceAdd, reduceCtorEq, Int.reduceToNat, Nat.reduceMul, Nat.reduceLT, Int.reduceNeg, Int.reduceLE, Int.reduceLT, Int.reduceEq, Nat.reduceLeDiff, List.drop, List.take, codeE]
    rw [as_codeQ A (o := 0) (by simp only [blkAt_if, if_true])]
    simp only [runL, defL, binV, Nat.reduceEqDiff, Nat.reduceAdd, reduceCtorEq, Int.reduceToNat, Nat.reduceMul, Nat.reduceLT, Int.reduceNeg, Int.reduceLE, Int.reduceLT, Int.reduceEq, Nat.reduceLeDiff, List.drop, List.take, aloneP, isNilP, codeE, codeNo, codesOf, List.headD_cons, Bool.false_eq_true]
/-! ### Do -/
def doS (s : Snap) (x : Spec) (t : State) (m : Move) : Int ⊕ State := match makeS s x t m with
  | .inl c => .inl c
  | .inr u => if prioB t m = true then (if isNilP (whyP s x u) = true then .inr u else .inl (codeNo (whyP s x u))) else .inl 14
theorem pod_set_wf {l : List Pod} {i : Nat} {q : Pod} (h : ∀ p ∈ l, p.wf) (hq : q.wf) : ∀ p ∈ l.set i q, p.wf := by
  intro p hp
  rcases List.mem_or_eq_of_mem_set hp with h1 | rfl
  · exact h p h1
  · exact hq
theorem come_wf {x : Spec} {p : Pod} {n : Int} (hx : ∀ w ∈ x.wants, w.wf) (hp : p.wf) (hn : inI n) : (comeS x p n).wf := by
  unfold comeS
  obtain ⟨a, b, c, d, e⟩ := hp
  split
  · rename_i w hw
    have hm : w ∈ x.wants := List.mem_of_find?_eq_some hw
    split
    · exact ⟨a, b, c, (hx w hm).2, hn⟩
    · exact ⟨a, b, c, d, hn⟩
  · exact ⟨a, b, c, d, hn⟩
theorem off_wf {p : Pod} (hp : p.wf) : ({ p with node := 0 } : Pod).wf := by
  obtain ⟨a, b, c, d, e⟩ := hp
  refine ⟨a, b, c, d, ?_⟩
  unfold inI
  simp only
  omega
theorem make_wf {s : Snap} {x : Spec} {t u : State} {m : Move} (hx : ∀ w ∈ x.wants, w.wf) (ht : ∀ p ∈ t.pods, p.wf) (hm : m.wf) (h : makeS s x t m = .inr u) : ∀ p ∈ u.pods, p.wf := by
  unfold makeS at h
  split at h
  · simp at h
  · split at h
    · simp at h
    · split at h
      · simp at h
      · split at h
        · simp at h
        · split at h
          · simp at h
          · rename_i p hp
            have hpm : p ∈ t.pods := List.mem_of_getElem? hp
            by_cases k2 : m.kind = 2
            · rw [if_pos k2] at h
              split at h
              · simp at h
              · simp only [Sum.inr.injEq] at h
                subst h
                exact pod_set_wf ht (off_wf (ht p hpm))
            · rw [if_neg k2] at h
              split at h
              · split at h
                · simp at h
                · split at h
                  · simp at h
                  · simp only [Sum.inr.injEq] at h
                    subst h
                    exact pod_set_wf ht (come_wf hx (ht p hpm) hm.2.2.1)
              · split at h
                · split at h
                  · simp at h
                  · rename_i q hq
                    have hqm : q ∈ t.pods := List.mem_of_getElem? hq
                    split at h
                    · simp at h
                    · split at h
                      · simp at h
                      · split at h
                        · simp at h
                        · simp only [Sum.inr.injEq] at h
                          subst h
                          exact pod_set_wf (pod_set_wf ht (off_wf (ht q hqm))) (come_wf hx (ht p hpm) hm.2.2.1)
                · split at h
                  · simp at h
                  · simp only [Sum.inr.injEq] at h
                    subst h
                    exact pod_set_wf ht (come_wf hx (ht p hpm) hm.2.2.1)
theorem do_ok (S : Std12 T) (s : Snap) (x : Spec) (t : State) (m : Move) (hn : s.nodes.length ≤ 2 ^ 29) (hll : s.loads.length ≤ 2 ^ 29) (hxl : x.wants.length ≤ 2 ^ 29) (hl : t.pods.length ≤ 2 ^ 29) (hx : ∀ w ∈ x.wants, w.wf) (ht : ∀ p ∈ t.pods, p.wf) (hm : m.wf) :
    Gives T 246 [snapP s, specP x, stateP t, moveP m] (makeR (doS s x t m)) := by
  have km := make_ok S.m s x t m (by omega) (by omega) (by omega)
  have kp := prior_ok S t m hl
  refine gives S.h246 rfl ?_
  unfold doS
  cases hmk : makeS s x t m with
  | inl c =>
    rw [hmk] at km
    simp only [makeR, codeE, snapP, specP, stateP, moveP, moveC, List.map_nil] at km
    simp only [f246, runL, defL, binV, Nat.reduceEqDiff, Nat.reduceAdd, reduceCtorEq, Int.reduceToNat, Nat.reduceMul, Nat.reduceLT, Int.reduceNeg, Int.reduceLE, Int.reduceLT, Int.reduceEq, Nat.reduceLeDiff, List.drop, List.take, snapP, specP, stateP, moveP, moveC, km.call, makeR, codeE, List.map_nil]
  | inr u =>
    rw [hmk] at km
    have hul := (near_moves s x t u m hmk).2
    have kw := why_ok S.s11 s x u hn (by omega) hll (make_wf hx ht hm hmk)
    have hv : ErrV (whyP s x u) := firstE_V _ (errs_V s x u)
    have ka := alone_ok S hv
    simp only [makeR, snapP, specP, stateP, moveP, moveC] at km kp kw
    cases hpb : prioB t m with
    | false =>
      rw [hpb] at kp
      simp only [cond_false, codeE] at kp
      simp only [f246, runL, defL, binV, Nat.reduceEqDiff, Nat.reduceAdd, reduceCtorEq, Int.reduceToNat, Nat.reduceMul, Nat.reduceLT, Int.reduceNeg, Int.reduceLE, Int.reduceLT, Int.reduceEq, Nat.reduceLeDiff, List.drop, List.take, snapP, specP, stateP, moveP, moveC, km.call, kp.call, makeR, codeE, Bool.false_eq_true, List.map_nil]
    | true =>
      rw [hpb] at kp
      simp only [cond_true] at kp
      dsimp only
      rcases hv with e | ⟨a, n, e⟩ | ⟨n, e⟩
      · rw [e] at kw ka ⊢
        simp only [f246, runL, defL, binV, Nat.reduceEqDiff, Nat.reduceAdd, reduceCtorEq, Int.reduceToNat, Nat.reduceMul, Nat.reduceLT, Int.reduceNeg, Int.reduceLE, Int.reduceLT, Int.reduceEq, Nat.reduceLeDiff, List.drop, List.take, snapP, specP, stateP, moveP, moveC, km.call, kp.call, kw.call, makeR, isNilP]
      · rw [e] at kw ka ⊢
        simp only [spotE, aloneP, isNilP, codeE, codeNo, codesOf, List.headD_cons, Bool.false_eq_true, if_false] at kw ka
        simp only [f246, runL, defL, binV, Nat.reduceEqDiff, Nat.reduceAdd, reduceCtorEq, Int.reduceToNat, Nat.reduceMul, Nat.reduceLT, Int.reduceNeg, Int.reduceLE, Int.reduceLT, Int.reduceEq, Nat.reduceLeDiff, List.drop, List.take, snapP, specP, stateP, moveP, moveC, km.call, kp.call, kw.call, ka.call, makeR, isNilP, spotE, codeE, codeNo, codesOf, List.headD_cons, Bool.false_eq_true, List.map_nil]
      · rw [e] at kw ka ⊢
        simp only [codeE, aloneP, isNilP, codeNo, codesOf, List.headD_cons, Bool.false_eq_true, if_false] at kw ka
        simp only [f246, runL, defL, binV, Nat.reduceEqDiff, Nat.reduceAdd, reduceCtorEq, Int.reduceToNat, Nat.reduceMul, Nat.reduceLT, Int.reduceNeg, Int.reduceLE, Int.reduceLT, Int.reduceEq, Nat.reduceLeDiff, List.drop, List.take, snapP, specP, stateP, moveP, moveC, km.call, kp.call, kw.call, ka.call, makeR, isNilP, codeE, codeNo, codesOf, List.headD_cons, Bool.false_eq_true, List.map_nil]
end
end Go.Proofs.YtlfphlobcopemaaGreatDoor.Ab
set_option linter.unusedVariables false
set_option linter.unusedSimpArgs false
namespace Go.Proofs.YtlfphlobcopemaaGreatDoor.Ab
open Go
def ixLoad (id : Int) : Nat → List Load → Int
  | _, [] => -1
  | i, p :: r => if p.id = id then i else ixLoad id (i + 1) r
theorem ixLoad_neg (id : Int) : ∀ (l : List Load) (i : Nat), (ixLoad id i l < 0) ↔ loadOf id l = none
  | [], i => by simp [ixLoad, loadOf]
  | p :: r, i => by
    by_cases hp : p.id = id
    · simp [ixLoad, loadOf, hp] <;> omega
    · have := ixLoad_neg id r (i + 1)
      simpa [ixLoad, loadOf, hp] using this
theorem ixNode_neg (id : Int) : ∀ (l : List Node) (i : Nat), (ixNode id i l < 0) ↔ nodeOf id l = none
  | [], i => by simp [ixNode, nodeOf]
  | p :: r, i => by
    by_cases hp : p.id = id
    · simp [ixNode, nodeOf, hp] <;> omega
    · have := ixNode_neg id r (i + 1)
      simpa [ixNode, nodeOf, hp] using this
structure Std3r (T : Tab) : Prop where
  h151 : Std T 151 f151
  h154 : Std T 154 f154
  h155 : Std T 155 f155
  h159 : Std T 159 f159
  h160 : Std T 160 f160
  h141 : Std T 141 f141
section
variable {T : Tab}
theorem countr_ok (h159 : Std T 159 f159) (n : Int) : Gives T 159 [.int .i64 n] (.bool (countB n)) := by
  refine gives h159 rfl ?_
  unfold countB
  by_cases h1 : 0 ≤ n
  · simp only [f159, runL, defL, binV, Nat.reduceEqDiff, Nat.reduceAdd, reduceCtorEq, Int.reduceToNat, Nat.reduceMul, Nat.reduceLT, Int.reduceNeg, Int.reduceLE, Int.reduceLT, Int.reduceEq, Nat.reduceLeDiff, List.drop, List.take, h1, Bool.true_and]
  · simp only [f159, runL, defL, binV, Nat.reduceEqDiff, Nat.reduceAdd, reduceCtorEq, Int.reduceToNat, Nat.reduceMul, Nat.reduceLT, Int.reduceNeg, Int.reduceLE, Int.reduceLT, Int.reduceEq, Nat.reduceLeDiff, List.drop, List.take, h1, Bool.false_and]
theorem idr_ok (h160 : Std T 160 f160) (n last : Int) : Gives T 160 [.int .i64 n, .int .i64 last] (.int .i64 (idR n last)) := by
  refine gives h160 rfl ?_
  unfold idR
  by_cases h1 : n < 1
  · rw [if_pos (.inl h1)]
    simp only [f160, runL, defL, binV, Nat.reduceEqDiff, Nat.reduceAdd, reduceCtorEq, Int.reduceToNat, Nat.reduceMul, Nat.reduceLT, Int.reduceNeg, Int.reduceLE, Int.reduceLT, Int.reduceEq, Nat.reduceLeDiff, List.drop, List.take, h1]
  · by_cases h2 : 2147483647 < n
    · rw [if_pos (.inr h2)]
      simp only [f160, runL, defL, binV, Nat.reduceEqDiff, Nat.reduceAdd, reduceCtorEq, Int.reduceToNat, Nat.reduceMul, Nat.reduceLT, Int.reduceNeg, Int.reduceLE, Int.reduceLT, Int.reduceEq, Nat.reduceLeDiff, List.drop, List.take, h1, h2]
    · rw [if_neg (by omega)]
      by_cases h3 : n = last
      · rw [if_pos h3]
        simp only [f160, runL, defL, binV, Nat.reduceEqDiff, Nat.reduceAdd, reduceCtorEq, Int.reduceToNat, Nat.reduceMul, Nat.reduceLT, Int.reduceNeg, Int.reduceLE, Int.reduceLT, Int.reduceEq, Nat.reduceLeDiff, List.drop, List.take, h1, h2, decide_eq_true h3]
      · rw [if_neg h3]
        by_cases h4 : n < last
        · rw [if_pos h4]
          simp only [f160, runL, defL, binV, Nat.reduceEqDiff, Nat.reduceAdd, reduceCtorEq, Int.reduceToNat, Nat.reduceMul, Nat.reduceLT, Int.reduceNeg, Int.reduceLE, Int.reduceLT, Int.reduceEq, Nat.reduceLeDiff, List.drop, List.take, h1, h2, h3, h4]
        · rw [if_neg h4]
          simp only [f160, runL, defL, binV, Nat.reduceEqDiff, Nat.reduceAdd, reduceCtorEq, Int.reduceToNat, Nat.reduceMul, Nat.reduceLT, Int.reduceNeg, Int.reduceLE, Int.reduceLT, Int.reduceEq, Nat.reduceLeDiff, List.drop, List.take, h1, h2, h3, h4]
theorem load3_loop (s : Snap) (id : Int) (hl : s.loads.length ≤ 2 ^ 30) (Q : Exit → St → Prop) (o : Int)
    (hend : o = -1 → ∀ fr hp nx, Q (.exit 0) ⟨fr, hp, nx⟩) (hret : ∀ fr hp nx, look fr 4 = .pv (.int .i64 o) → Q .ret ⟨fr, hp, nx⟩) :
    ∀ (rest : List Load) (i : Nat), s.loads.drop i = rest → i ≤ s.loads.length → ixLoad id i rest = o → ∀ (fr : List (Nat × AV)) (hp : Hl) (nx : Nat), look fr 5 = .pv (.int .i64 i) → look fr 1 = .pv (.int .i64 id) → look fr 2 = .ptr 0 0 0 →
      blkAt hp 0 = .var [.pv (.slice (s.nodes.map nodeC)), .pv (.slice (s.loads.map loadC)), .pv (.slice (s.pods.map podC))] → Wp T false (.loop f154l0) ⟨fr, hp, nx⟩ Q := by
  intro rest
  induction rest with
  | nil =>
    intro i hd hi ho fr hp nx h5 h1 h2 b0
    have hlen := drop_nil hd hi
    rw [Wp_loop, Wp_eq f154l0.eq_1]
    simp only [runL, defL, binV, Nat.reduceEqDiff, Nat.reduceAdd, reduceCtorEq, Int.reduceToNat, Nat.reduceMul, Nat.reduceLT, Int.reduceNeg, Int.reduceLE, Int.reduceLT, Int.reduceEq, Nat.reduceLeDiff, List.drop, List.take, h5, h1, h2, b0, hlen, Int.lt_irrefl]
    exact hend ho.symm _ _ _
  | cons n r ih =>
    intro i hd hi ho fr hp nx h5 h1 h2 b0
    obtain ⟨hget, hlt, hw, hd', hi', hb⟩ := drop_cons hd hl
    simp only [ixLoad] at ho
    rw [Wp_loop, Wp_eq f154l0.eq_1]
    by_cases hk : n.id = id
    · rw [if_pos hk] at ho
      simp only [runL, defL, binV, Nat.reduceEqDiff, Nat.reduceAdd, reduceCtorEq, Int.reduceToNat, Nat.reduceMul, Nat.reduceLT, Int.reduceNeg, Int.reduceLE, Int.reduceLT, Int.reduceEq, Nat.reduceLeDiff, List.drop, List.take, h5, h1, h2, b0, hlt, hget, loadC, hk]
      exact hret _ _ _ (by simp only [look_if, Nat.reduceEqDiff, if_true, if_false, ← ho])
    · rw [if_neg hk] at ho
      simp only [runL, defL, binV, Nat.reduceEqDiff, Nat.reduceAdd, reduceCtorEq, Int.reduceToNat, Nat.reduceMul, Nat.reduceLT, Int.reduceNeg, Int.reduceLE, Int.reduceLT, Int.reduceEq, Nat.reduceLeDiff, List.drop, List.take, h5, h1, h2, b0, hlt, hget, loadC, hk, hw]
      refine ih (i + 1) hd' hi' ho _ _ _ ?_ ?_ ?_ b0
      all_goals try simp only [look_if, blkAt_if, Nat.reduceEqDiff, if_true, if_false, h1, h2]
theorem load3_ok (h154 : Std T 154 f154) (s : Snap) (id : Int) (hl : s.loads.length ≤ 2 ^ 30) : Gives T 154 [snapP s, .int .i64 id] (.int .i64 (ixLoad id 0 s.loads)) := by
  refine gives h154 rfl ?_
  simp only [f154, runL, defL, binV, Nat.reduceEqDiff, Nat.reduceAdd, reduceCtorEq, Int.reduceToNat, Nat.reduceMul, Nat.reduceLT, Int.reduceNeg, Int.reduceLE, Int.reduceLT, Int.reduceEq, Nat.reduceLeDiff, List.drop, List.take, snapP]
  refine load3_loop s id hl _ (ixLoad id 0 s.loads) (fun ho fr hp nx => ?_) (fun fr hp nx h4 => ?_) s.loads 0 rfl (Nat.zero_le _) rfl _ _ _ rfl rfl rfl rfl
  · simp only [runL, defL, binV, Nat.reduceEqDiff, Nat.reduceAdd, reduceCtorEq, Int.reduceToNat, Nat.reduceMul, Nat.reduceLT, Int.reduceNeg, Int.reduceLE, Int.reduceLT, Int.reduceEq, Nat.reduceLeDiff, List.drop, List.take, ho]
  · simp only [runL, defL, binV, Nat.reduceEqDiff, Nat.reduceAdd, reduceCtorEq, Int.reduceToNat, Nat.reduceMul, Nat.reduceLT, Int.reduceNeg, Int.reduceLE, Int.reduceLT, Int.reduceEq, Nat.reduceLeDiff, List.drop, List.take, h4]
theorem pod3_loop (s : Snap) (id : Int) (hl : s.pods.length ≤ 2 ^ 30) (Q : Exit → St → Prop) (o : Int)
    (hend : o = -1 → ∀ fr hp nx, Q (.exit 0) ⟨fr, hp, nx⟩) (hret : ∀ fr hp nx, look fr 4 = .pv (.int .i64 o) → Q .ret ⟨fr, hp, nx⟩) :
    ∀ (rest : List Pod) (i : Nat), s.pods.drop i = rest → i ≤ s.pods.length → placeFrom id i rest = o → ∀ (fr : List (Nat × AV)) (hp : Hl) (nx : Nat), look fr 5 = .pv (.int .i64 i) → look fr 1 = .pv (.int .i64 id) → look fr 2 = .ptr 0 0 0 →
      blkAt hp 0 = .var [.pv (.slice (s.nodes.map nodeC)), .pv (.slice (s.loads.map loadC)), .pv (.slice (s.pods.map podC))] → Wp T false (.loop f156l0) ⟨fr, hp, nx⟩ Q := by
  intro rest
  induction rest with
  | nil =>
    intro i hd hi ho fr hp nx h5 h1 h2 b0
    have hlen := drop_nil hd hi
    rw [Wp_loop, Wp_eq f156l0.eq_1]
    simp only [runL, defL, binV, Nat.reduceEqDiff, Nat.reduceAdd, reduceCtorEq, Int.reduceToNat, Nat.reduceMul, Nat.reduceLT, Int.reduceNeg, Int.reduceLE, Int.reduceLT, Int.reduceEq, Nat.reduceLeDiff, List.drop, List.take, h5, h1, h2, b0, hlen, Int.lt_irrefl]
    exact hend ho.symm _ _ _
  | cons n r ih =>
    intro i hd hi ho fr hp nx h5 h1 h2 b0
    obtain ⟨hget, hlt, hw, hd', hi', hb⟩ := drop_cons hd hl
    simp only [placeFrom] at ho
    rw [Wp_loop, Wp_eq f156l0.eq_1]
    by_cases hk : n.id = id
    · rw [if_pos hk] at ho
      simp only [runL, defL, binV, Nat.reduceEqDiff, Nat.reduceAdd, reduceCtorEq, Int.reduceToNat, Nat.reduceMul, Nat.reduceLT, Int.reduceNeg, Int.reduceLE, Int.reduceLT, Int.reduceEq, Nat.reduceLeDiff, List.drop, List.take, h5, h1, h2, b0, hlt, hget, podC, hk]
      exact hret _ _ _ (by simp only [look_if, Nat.reduceEqDiff, if_true, if_false, ← ho])
    · rw [if_neg hk] at ho
      simp only [runL, defL, binV, Nat.reduceEqDiff, Nat.reduceAdd, reduceCtorEq, Int.reduceToNat, Nat.reduceMul, Nat.reduceLT, Int.reduceNeg, Int.reduceLE, Int.reduceLT, Int.reduceEq, Nat.reduceLeDiff, List.drop, List.take, h5, h1, h2, b0, hlt, hget, podC, hk, hw]
      refine ih (i + 1) hd' hi' ho _ _ _ ?_ ?_ ?_ b0
      all_goals try simp only [look_if, blkAt_if, Nat.reduceEqDiff, if_true, if_false, h1, h2]
theorem pod3_ok (h156 : Std T 156 f156) (s : Snap) (id : Int) (hl : s.pods.length ≤ 2 ^ 30) : Gives T 156 [snapP s, .int .i64 id] (.int .i64 (placeFrom id 0 s.pods)) := by
  refine gives h156 rfl ?_
  simp only [f156, runL, defL, binV, Nat.reduceEqDiff, Nat.reduceAdd, reduceCtorEq, Int.reduceToNat, Nat.reduceMul, Nat.reduceLT, Int.reduceNeg, Int.reduceLE, Int.reduceLT, Int.reduceEq, Nat.reduceLeDiff, List.drop, List.take, snapP]
  refine pod3_loop s id hl _ (placeFrom id 0 s.pods) (fun ho fr hp nx => ?_) (fun fr hp nx h4 => ?_) s.pods 0 rfl (Nat.zero_le _) rfl _ _ _ rfl rfl rfl rfl
  · simp only [runL, defL, binV, Nat.reduceEqDiff, Nat.reduceAdd, reduceCtorEq, Int.reduceToNat, Nat.reduceMul, Nat.reduceLT, Int.reduceNeg, Int.reduceLE, Int.reduceLT, Int.reduceEq, Nat.reduceLeDiff, List.drop, List.take, ho]
  · simp only [runL, defL, binV, Nat.reduceEqDiff, Nat.reduceAdd, reduceCtorEq, Int.reduceToNat, Nat.reduceMul, Nat.reduceLT, Int.reduceNeg, Int.reduceLE, Int.reduceLT, Int.reduceEq, Nat.reduceLeDiff, List.drop, List.take, h4]
theorem lookC_max {n last c : Int} (h : lookC n last c = 0) : n ≤ 2147483647 := by
  have hi : idP n last = 0 := by
    unfold lookC at h
    split at h
    · exact h
    · rename_i h0; simpa using h0
  unfold idP at hi
  split at hi
  · omega
  · split at hi <;> omega
set_option maxRecDepth 100000 in
set_option maxHeartbeats 4000000 in
theorem ref_0 (S : Std3r T) (s : Snap) (hn : s.nodes.length ≤ 2 ^ 28) (hl : s.loads.length ≤ 2 ^ 28) (hpl : s.pods.length ≤ 2 ^ 28) (a0 : Int) (ha0 : 0 ≤ a0) (ha1 : a0 ≤ 2 ^ 29) (Q : Exit → St → Prop) (tot : Option (Int × Int))
    (hend : tot = none → ∀ fr hp nx, 1 ≤ nx → look fr 1 = .ptr 0 0 0 → look fr 5 = .pv (.int .i64 (a0 + (s.nodes.length : Int))) → blkAt hp 0 = .var [.pv (.slice (s.nodes.map nodeC)), .pv (.slice (s.loads.map loadC)), .pv (.slice (s.pods.map podC))] → Q (.exit 0) ⟨fr, hp, nx⟩)
    (hret : ∀ c a, tot = some (c, a) → ∀ fr hp nx, look fr 2 = .pv (.int .i64 c) → look fr 3 = .pv (.int .i64 a) → Q .ret ⟨fr, hp, nx⟩) :
    ∀ (rest : List Node) (i : Nat) (last : Int), s.nodes.drop i = rest → i ≤ s.nodes.length → last ≤ 2147483647 → fstB Node.id nodeBad last (a0 + i) rest = tot → ∀ (fr : List (Nat × AV)) (hp : Hl) (nx : Nat), 1 ≤ nx → look fr 1 = .ptr 0 0 0 →
      blkAt hp 0 = .var [.pv (.slice (s.nodes.map nodeC)), .pv (.slice (s.loads.map loadC)), .pv (.slice (s.pods.map podC))] → look fr 4 = .pv (.int .i64 last) → look fr 5 = .pv (.int .i64 (a0 + i)) → look fr 6 = .pv (.int .i64 i) → Wp T false (.loop f151l0) ⟨fr, hp, nx⟩ Q := by
  intro rest
  induction rest with
  | nil =>
    intro i last hd hi hlast ho fr hp nx hnx g1 b0 g4 g5 gI
    have hlen := drop_nil hd hi
    rw [Wp_loop, Wp_eq f151l0.eq_1]
    simp only [runL, defL, binV, Nat.reduceEqDiff, Nat.reduceAdd, reduceCtorEq, Int.reduceToNat, Nat.reduceMul, Nat.reduceLT, Int.reduceNeg, Int.reduceLE, Int.reduceLT, Int.reduceEq, Nat.reduceLeDiff, List.drop, List.take, g1, b0, gI, hlen, Int.lt_irrefl]
    refine hend ho.symm _ _ _ hnx ?_ ?_ b0
    all_goals try simp only [look_if, blkAt_if, Nat.reduceEqDiff, if_true, if_false, g1, g5]
    rw [hlen]
  | cons x r ih =>
    intro i last hd hi hlast ho fr hp nx hnx g1 b0 g4 g5 gI
    obtain ⟨hget, hlt, hw, hd', hi', hbb⟩ := drop_cons hd (by omega)
    have n0 : ¬ nx = 0 := by omega
    have wa : IntKind.i64.wrap (a0 + (i : Int) + 1) = a0 + ((i + 1 : Nat) : Int) := by rw [wrap6] <;> omega
    have ki := idr_ok S.h160 x.id last
    rw [← idP_idR hlast] at ki
    have fin : ∀ c, lookC x.id last (nodeBad x) = c → c ≠ 0 → ∀ fr hp nx, look fr 2 = .pv (.int .i64 c) → look fr 3 = .pv (.int .i64 (a0 + i)) → Q .ret ⟨fr, hp, nx⟩ := by
      intro c h1 h2
      refine hret c _ ?_
      rw [← ho, fstB]
      unfold lookB
      rw [h1, if_pos h2, Option.some_or]
    have nxt : lookC x.id last (nodeBad x) = 0 → ∀ fr' hp' nx', 1 ≤ nx' → look fr' 1 = look fr 1 → blkAt hp' 0 = blkAt hp 0 → look fr' 4 = .pv (.int .i64 x.id) → look fr' 5 = .pv (.int .i64 (a0 + ((i + 1 : Nat) : Int))) → look fr' 6 = .pv (.int .i64 ((i + 1 : Nat) : Int)) → Wp T false (.loop f151l0) ⟨fr', hp', nx'⟩ Q := by
      intro h1 fr' hp' nx' q1 q2 q3 q4 q5 q6
      refine ih (i + 1) x.id hd' hi' (lookC_max h1) ?_ fr' hp' nx' q1 (q2.trans g1) (q3.trans b0) q4 q5 q6
      rw [← ho, fstB]
      unfold lookB
      rw [h1, if_neg (by simp), Option.none_or, show a0 + ((i + 1 : Nat) : Int) = a0 + i + 1 by omega]
    have kf := fits_ok S.h141 x.held x.cap
    simp only [vecP, vecC] at kf
    rw [Wp_loop, Wp_eq f151l0.eq_1]
    by_cases hid : idP x.id last = 0
    · have hlc : lookC x.id last (nodeBad x) = nodeBad x := by unfold lookC; rw [if_neg (by simpa using hid)]
      rw [hid] at ki
      by_cases c1 : x.zone < 1
      · have hb : nodeBad x = 1 := by unfold nodeBad; rw [if_neg (by omega)]
        simp only [runL, defL, binV, Nat.reduceEqDiff, Nat.reduceAdd, reduceCtorEq, Int.reduceToNat, Nat.reduceMul, Nat.reduceLT, Int.reduceNeg, Int.reduceLE, Int.reduceLT, Int.reduceEq, Nat.reduceLeDiff, List.drop, List.take, g1, b0, g4, g5, gI, hlt, hget, n0, ki.call, nodeC, kf.call, c1]
        refine fin _ (hlc.trans hb) (by decide) _ _ _ ?_ ?_
        all_goals try simp only [look_if, blkAt_if, Nat.reduceEqDiff, if_true, if_false, g5]
      · by_cases c2 : 8 < x.zone
        · have hb : nodeBad x = 1 := by unfold nodeBad; rw [if_neg (by omega)]
          simp only [runL, defL, binV, Nat.reduceEqDiff, Nat.reduceAdd, reduceCtorEq, Int.reduceToNat, Nat.reduceMul, Nat.reduceLT, Int.reduceNeg, Int.reduceLE, Int.reduceLT, Int.reduceEq, Nat.reduceLeDiff, List.drop, List.take, g1, b0, g4, g5, gI, hlt, hget, n0, ki.call, nodeC, kf.call, c1, c2]
          refine fin _ (hlc.trans hb) (by decide) _ _ _ ?_ ?_
          all_goals try simp only [look_if, blkAt_if, Nat.reduceEqDiff, if_true, if_false, g5]
        · cases hf : fitsB x.held x.cap
          · have hb : nodeBad x = 1 := by unfold nodeBad; rw [if_neg (by simp [hf])]
            rw [hf] at kf
            simp only [runL, defL, binV, Nat.reduceEqDiff, Nat.reduceAdd, reduceCtorEq, Int.reduceToNat, Nat.reduceMul, Nat.reduceLT, Int.reduceNeg, Int.reduceLE, Int.reduceLT, Int.reduceEq, Nat.reduceLeDiff, List.drop, List.take, g1, b0, g4, g5, gI, hlt, hget, n0, ki.call, nodeC, kf.call, c1, c2]
            refine fin _ (hlc.trans hb) (by decide) _ _ _ ?_ ?_
            all_goals try simp only [look_if, blkAt_if, Nat.reduceEqDiff, if_true, if_false, g5]
          · have hb : nodeBad x = 0 := by unfold nodeBad; rw [if_pos ⟨by omega, by omega, hf⟩]
            rw [hf] at kf
            simp only [runL, defL, binV, Nat.reduceEqDiff, Nat.reduceAdd, reduceCtorEq, Int.reduceToNat, Nat.reduceMul, Nat.reduceLT, Int.reduceNeg, Int.reduceLE, Int.reduceLT, Int.reduceEq, Nat.reduceLeDiff, List.drop, List.take, g1, b0, g4, g5, gI, hlt, hget, n0, ki.call, nodeC, kf.call, c1, c2, wa, hw]
            refine nxt (hlc.trans hb) _ _ _ (by omega) ?_ ?_ ?_ ?_ ?_
            all_goals try simp only [look_if, blkAt_if, Nat.reduceEqDiff, if_true, if_false, g1, n0, b0]
    · have hlc : lookC x.id last (nodeBad x) = idP x.id last := by unfold lookC; rw [if_pos hid]
      simp only [runL, defL, binV, Nat.reduceEqDiff, Nat.reduceAdd, reduceCtorEq, Int.reduceToNat, Nat.reduceMul, Nat.reduceLT, Int.reduceNeg, Int.reduceLE, Int.reduceLT, Int.reduceEq, Nat.reduceLeDiff, List.drop, List.take, g1, b0, g4, g5, gI, hlt, hget, n0, ki.call, nodeC, kf.call, hid]
      refine fin _ hlc hid _ _ _ ?_ ?_
      all_goals try simp only [look_if, blkAt_if, Nat.reduceEqDiff, if_true, if_false, g5]
set_option maxRecDepth 100000 in
set_option maxHeartbeats 4000000 in
theorem ref_1 (S : Std3r T) (s : Snap) (hn : s.nodes.length ≤ 2 ^ 28) (hl : s.loads.length ≤ 2 ^ 28) (hpl : s.pods.length ≤ 2 ^ 28) (a0 : Int) (ha0 : 0 ≤ a0) (ha1 : a0 ≤ 2 ^ 29) (Q : Exit → St → Prop) (tot : Option (Int × Int))
    (hend : tot = none → ∀ fr hp nx, 1 ≤ nx → look fr 1 = .ptr 0 0 0 → look fr 5 = .pv (.int .i64 (a0 + (s.loads.length : Int))) → blkAt hp 0 = .var [.pv (.slice (s.nodes.map nodeC)), .pv (.slice (s.loads.map loadC)), .pv (.slice (s.pods.map podC))] → Q (.exit 2) ⟨fr, hp, nx⟩)
    (hret : ∀ c a, tot = some (c, a) → ∀ fr hp nx, look fr 2 = .pv (.int .i64 c) → look fr 3 = .pv (.int .i64 a) → Q .ret ⟨fr, hp, nx⟩) :
    ∀ (rest : List Load) (i : Nat) (last : Int), s.loads.drop i = rest → i ≤ s.loads.length → last ≤ 2147483647 → fstB Load.id loadBad last (a0 + i) rest = tot → ∀ (fr : List (Nat × AV)) (hp : Hl) (nx : Nat), 1 ≤ nx → look fr 1 = .ptr 0 0 0 →
      blkAt hp 0 = .var [.pv (.slice (s.nodes.map nodeC)), .pv (.slice (s.loads.map loadC)), .pv (.slice (s.pods.map podC))] → look fr 4 = .pv (.int .i64 last) → look fr 5 = .pv (.int .i64 (a0 + i)) → look fr 10 = .pv (.int .i64 i) → Wp T false (.loop f151l1) ⟨fr, hp, nx⟩ Q := by
  intro rest
  induction rest with
  | nil =>
    intro i last hd hi hlast ho fr hp nx hnx g1 b0 g4 g5 gI
    have hlen := drop_nil hd hi
    rw [Wp_loop, Wp_eq f151l1.eq_1]
    simp only [runL, defL, binV, Nat.reduceEqDiff, Nat.reduceAdd, reduceCtorEq, Int.reduceToNat, Nat.reduceMul, Nat.reduceLT, Int.reduceNeg, Int.reduceLE, Int.reduceLT, Int.reduceEq, Nat.reduceLeDiff, List.drop, List.take, g1, b0, gI, hlen, Int.lt_irrefl]
    refine hend ho.symm _ _ _ hnx ?_ ?_ b0
    all_goals try simp only [look_if, blkAt_if, Nat.reduceEqDiff, if_true, if_false, g1, g5]
    rw [hlen]
  | cons x r ih =>
    intro i last hd hi hlast ho fr hp nx hnx g1 b0 g4 g5 gI
    obtain ⟨hget, hlt, hw, hd', hi', hbb⟩ := drop_cons hd (by omega)
    have n0 : ¬ nx = 0 := by omega
    have wa : IntKind.i64.wrap (a0 + (i : Int) + 1) = a0 + ((i + 1 : Nat) : Int) := by rw [wrap6] <;> omega
    have ki := idr_ok S.h160 x.id last
    rw [← idP_idR hlast] at ki
    have fin : ∀ c, lookC x.id last (loadBad x) = c → c ≠ 0 → ∀ fr hp nx, look fr 2 = .pv (.int .i64 c) → look fr 3 = .pv (.int .i64 (a0 + i)) → Q .ret ⟨fr, hp, nx⟩ := by
      intro c h1 h2
      refine hret c _ ?_
      rw [← ho, fstB]
      unfold lookB
      rw [h1, if_pos h2, Option.some_or]
    have nxt : lookC x.id last (loadBad x) = 0 → ∀ fr' hp' nx', 1 ≤ nx' → look fr' 1 = look fr 1 → blkAt hp' 0 = blkAt hp 0 → look fr' 4 = .pv (.int .i64 x.id) → look fr' 5 = .pv (.int .i64 (a0 + ((i + 1 : Nat) : Int))) → look fr' 10 = .pv (.int .i64 ((i + 1 : Nat) : Int)) → Wp T false (.loop f151l1) ⟨fr', hp', nx'⟩ Q := by
      intro h1 fr' hp' nx' q1 q2 q3 q4 q5 q6
      refine ih (i + 1) x.id hd' hi' (lookC_max h1) ?_ fr' hp' nx' q1 (q2.trans g1) (q3.trans b0) q4 q5 q6
      rw [← ho, fstB]
      unfold lookB
      rw [h1, if_neg (by simp), Option.none_or, show a0 + ((i + 1 : Nat) : Int) = a0 + i + 1 by omega]
    have k1 := countr_ok S.h159 x.skew
    have k2 := countr_ok S.h159 x.min
    have k3 := countr_ok S.h159 x.max
    rw [Wp_loop, Wp_eq f151l1.eq_1]
    by_cases hid : idP x.id last = 0
    · have hlc : lookC x.id last (loadBad x) = loadBad x := by unfold lookC; rw [if_neg (by simpa using hid)]
      rw [hid] at ki
      cases c1 : countB x.skew
      · have hb : loadBad x = 1 := by unfold loadBad; rw [if_neg (by simp [c1])]
        rw [c1] at k1
        simp only [runL, defL, binV, Nat.reduceEqDiff, Nat.reduceAdd, reduceCtorEq, Int.reduceToNat, Nat.reduceMul, Nat.reduceLT, Int.reduceNeg, Int.reduceLE, Int.reduceLT, Int.reduceEq, Nat.reduceLeDiff, List.drop, List.take, g1, b0, g4, g5, gI, hlt, hget, n0, ki.call, loadC, k1.call, k2.call, k3.call]
        refine fin _ (hlc.trans hb) (by decide) _ _ _ ?_ ?_
        all_goals try simp only [look_if, blkAt_if, Nat.reduceEqDiff, if_true, if_false, g5]
      · cases c2 : countB x.min
        · have hb : loadBad x = 1 := by unfold loadBad; rw [if_neg (by simp [c2])]
          rw [c1] at k1
          rw [c2] at k2
          simp only [runL, defL, binV, Nat.reduceEqDiff, Nat.reduceAdd, reduceCtorEq, Int.reduceToNat, Nat.reduceMul, Nat.reduceLT, Int.reduceNeg, Int.reduceLE, Int.reduceLT, Int.reduceEq, Nat.reduceLeDiff, List.drop, List.take, g1, b0, g4, g5, gI, hlt, hget, n0, ki.call, loadC, k1.call, k2.call, k3.call]
          refine fin _ (hlc.trans hb) (by decide) _ _ _ ?_ ?_
          all_goals try simp only [look_if, blkAt_if, Nat.reduceEqDiff, if_true, if_false, g5]
        · cases c3 : countB x.max
          · have hb : loadBad x = 1 := by unfold loadBad; rw [if_neg (by simp [c3])]
            rw [c1] at k1
            rw [c2] at k2
            rw [c3] at k3
            simp only [runL, defL, binV, Nat.reduceEqDiff, Nat.reduceAdd, reduceCtorEq, Int.reduceToNat, Nat.reduceMul, Nat.reduceLT, Int.reduceNeg, Int.reduceLE, Int.reduceLT, Int.reduceEq, Nat.reduceLeDiff, List.drop, List.take, g1, b0, g4, g5, gI, hlt, hget, n0, ki.call, loadC, k1.call, k2.call, k3.call]
            refine fin _ (hlc.trans hb) (by decide) _ _ _ ?_ ?_
            all_goals try simp only [look_if, blkAt_if, Nat.reduceEqDiff, if_true, if_false, g5]
          · rw [c1] at k1
            rw [c2] at k2
            rw [c3] at k3
            by_cases c4 : x.max < x.min
            · have hb : loadBad x = 1 := by unfold loadBad; rw [if_neg (by omega)]
              simp only [runL, defL, binV, Nat.reduceEqDiff, Nat.reduceAdd, reduceCtorEq, Int.reduceToNat, Nat.reduceMul, Nat.reduceLT, Int.reduceNeg, Int.reduceLE, Int.reduceLT, Int.reduceEq, Nat.reduceLeDiff, List.drop, List.take, g1, b0, g4, g5, gI, hlt, hget, n0, ki.call, loadC, k1.call, k2.call, k3.call, c4]
              refine fin _ (hlc.trans hb) (by decide) _ _ _ ?_ ?_
              all_goals try simp only [look_if, blkAt_if, Nat.reduceEqDiff, if_true, if_false, g5]
            · have hb : loadBad x = 0 := by unfold loadBad; rw [if_pos ⟨c1, c2, c3, by omega⟩]
              simp only [runL, defL, binV, Nat.reduceEqDiff, Nat.reduceAdd, reduceCtorEq, Int.reduceToNat, Nat.reduceMul, Nat.reduceLT, Int.reduceNeg, Int.reduceLE, Int.reduceLT, Int.reduceEq, Nat.reduceLeDiff, List.drop, List.take, g1, b0, g4, g5, gI, hlt, hget, n0, ki.call, loadC, k1.call, k2.call, k3.call, c4, wa, hw]
              refine nxt (hlc.trans hb) _ _ _ (by omega) ?_ ?_ ?_ ?_ ?_
              all_goals try simp only [look_if, blkAt_if, Nat.reduceEqDiff, if_true, if_false, g1, n0, b0]
    · have hlc : lookC x.id last (loadBad x) = idP x.id last := by unfold lookC; rw [if_pos hid]
      simp only [runL, defL, binV, Nat.reduceEqDiff, Nat.reduceAdd, reduceCtorEq, Int.reduceToNat, Nat.reduceMul, Nat.reduceLT, Int.reduceNeg, Int.reduceLE, Int.reduceLT, Int.reduceEq, Nat.reduceLeDiff, List.drop, List.take, g1, b0, g4, g5, gI, hlt, hget, n0, ki.call, loadC, k1.call, k2.call, k3.call, hid]
      refine fin _ hlc hid _ _ _ ?_ ?_
      all_goals try simp only [look_if, blkAt_if, Nat.reduceEqDiff, if_true, if_false, g5]
set_option maxRecDepth 100000 in
set_option maxHeartbeats 4000000 in
theorem ref_2 (S : Std3r T) (s : Snap) (hn : s.nodes.length ≤ 2 ^ 28) (hl : s.loads.length ≤ 2 ^ 28) (hpl : s.pods.length ≤ 2 ^ 28) (a0 : Int) (ha0 : 0 ≤ a0) (ha1 : a0 ≤ 2 ^ 29) (Q : Exit → St → Prop) (tot : Option (Int × Int))
    (hend : tot = none → ∀ fr hp nx, 1 ≤ nx → look fr 1 = .ptr 0 0 0 → look fr 5 = .pv (.int .i64 (a0 + (s.pods.length : Int))) → blkAt hp 0 = .var [.pv (.slice (s.nodes.map nodeC)), .pv (.slice (s.loads.map loadC)), .pv (.slice (s.pods.map podC))] → Q (.exit 4) ⟨fr, hp, nx⟩)
    (hret : ∀ c a, tot = some (c, a) → ∀ fr hp nx, look fr 2 = .pv (.int .i64 c) → look fr 3 = .pv (.int .i64 a) → Q .ret ⟨fr, hp, nx⟩) :
    ∀ (rest : List Pod) (i : Nat) (last : Int), s.pods.drop i = rest → i ≤ s.pods.length → last ≤ 2147483647 → fstB Pod.id (podBad s) last (a0 + i) rest = tot → ∀ (fr : List (Nat × AV)) (hp : Hl) (nx : Nat), 1 ≤ nx → look fr 1 = .ptr 0 0 0 →
      blkAt hp 0 = .var [.pv (.slice (s.nodes.map nodeC)), .pv (.slice (s.loads.map loadC)), .pv (.slice (s.pods.map podC))] → look fr 4 = .pv (.int .i64 last) → look fr 5 = .pv (.int .i64 (a0 + i)) → look fr 16 = .pv (.int .i64 i) → Wp T false (.loop f151l2) ⟨fr, hp, nx⟩ Q := by
  intro rest
  induction rest with
  | nil =>
    intro i last hd hi hlast ho fr hp nx hnx g1 b0 g4 g5 gI
    have hlen := drop_nil hd hi
    rw [Wp_loop, Wp_eq f151l2.eq_1]
    simp only [runL, defL, binV, Nat.reduceEqDiff, Nat.reduceAdd, reduceCtorEq, Int.reduceToNat, Nat.reduceMul, Nat.reduceLT, Int.reduceNeg, Int.reduceLE, Int.reduceLT, Int.reduceEq, Nat.reduceLeDiff, List.drop, List.take, g1, b0, gI, hlen, Int.lt_irrefl]
    refine hend ho.symm _ _ _ hnx ?_ ?_ b0
    all_goals try simp only [look_if, blkAt_if, Nat.reduceEqDiff, if_true, if_false, g1, g5]
    rw [hlen]
  | cons x r ih =>
    intro i last hd hi hlast ho fr hp nx hnx g1 b0 g4 g5 gI
    obtain ⟨hget, hlt, hw, hd', hi', hbb⟩ := drop_cons hd (by omega)
    have n0 : ¬ nx = 0 := by omega
    have wa : IntKind.i64.wrap (a0 + (i : Int) + 1) = a0 + ((i + 1 : Nat) : Int) := by rw [wrap6] <;> omega
    have ki := idr_ok S.h160 x.id last
    rw [← idP_idR hlast] at ki
    have fin : ∀ c, lookC x.id last ((podBad s) x) = c → c ≠ 0 → ∀ fr hp nx, look fr 2 = .pv (.int .i64 c) → look fr 3 = .pv (.int .i64 (a0 + i)) → Q .ret ⟨fr, hp, nx⟩ := by
      intro c h1 h2
      refine hret c _ ?_
      rw [← ho, fstB]
      unfold lookB
      rw [h1, if_pos h2, Option.some_or]
    have nxt : lookC x.id last ((podBad s) x) = 0 → ∀ fr' hp' nx', 1 ≤ nx' → look fr' 1 = look fr 1 → blkAt hp' 0 = blkAt hp 0 → look fr' 4 = .pv (.int .i64 x.id) → look fr' 5 = .pv (.int .i64 (a0 + ((i + 1 : Nat) : Int))) → look fr' 16 = .pv (.int .i64 ((i + 1 : Nat) : Int)) → Wp T false (.loop f151l2) ⟨fr', hp', nx'⟩ Q := by
      intro h1 fr' hp' nx' q1 q2 q3 q4 q5 q6
      refine ih (i + 1) x.id hd' hi' (lookC_max h1) ?_ fr' hp' nx' q1 (q2.trans g1) (q3.trans b0) q4 q5 q6
      rw [← ho, fstB]
      unfold lookB
      rw [h1, if_neg (by simp), Option.none_or, show a0 + ((i + 1 : Nat) : Int) = a0 + i + 1 by omega]
    have k1 := countr_ok S.h159 x.prio
    have k2 := load3_ok S.h154 s x.load (by omega)
    have k3 := node3_ok S.h155 s x.node (by omega)
    simp only [snapP] at k2 k3
    rw [Wp_loop, Wp_eq f151l2.eq_1]
    by_cases hid : idP x.id last = 0
    · have hlc : lookC x.id last ((podBad s) x) = (podBad s) x := by unfold lookC; rw [if_neg (by simpa using hid)]
      rw [hid] at ki
      cases c1 : countB x.prio
      · have hb : podBad s x = 1 := by unfold podBad; rw [if_pos c1]
        rw [c1] at k1
        simp only [runL, defL, binV, Nat.reduceEqDiff, Nat.reduceAdd, reduceCtorEq, Int.reduceToNat, Nat.reduceMul, Nat.reduceLT, Int.reduceNeg, Int.reduceLE, Int.reduceLT, Int.reduceEq, Nat.reduceLeDiff, List.drop, List.take, g1, b0, g4, g5, gI, hlt, hget, n0, ki.call, podC, k1.call, k2.call, k3.call]
        refine fin _ (hlc.trans hb) (by decide) _ _ _ ?_ ?_
        all_goals try simp only [look_if, blkAt_if, Nat.reduceEqDiff, if_true, if_false, g5]
      · rw [c1] at k1
        by_cases c2 : ixLoad x.load 0 s.loads < 0
        · have hb : podBad s x = 4 := by unfold podBad; rw [if_neg (by simp [c1]), if_pos (.inl ((ixLoad_neg _ _ _).1 c2))]
          simp only [runL, defL, binV, Nat.reduceEqDiff, Nat.reduceAdd, reduceCtorEq, Int.reduceToNat, Nat.reduceMul, Nat.reduceLT, Int.reduceNeg, Int.reduceLE, Int.reduceLT, Int.reduceEq, Nat.reduceLeDiff, List.drop, List.take, g1, b0, g4, g5, gI, hlt, hget, n0, ki.call, podC, k1.call, k2.call, k3.call, c2]
          refine fin _ (hlc.trans hb) (by decide) _ _ _ ?_ ?_
          all_goals try simp only [look_if, blkAt_if, Nat.reduceEqDiff, if_true, if_false, g5]
        · have c2' : loadOf x.load s.loads ≠ none := fun h => c2 ((ixLoad_neg _ _ _).2 h)
          by_cases c3 : x.node = 0
          · have hb : podBad s x = 0 := by unfold podBad; rw [if_neg (by simp [c1]), if_neg (by simp [c2', c3])]
            have d3 := decide_eq_true c3
            simp only [runL, defL, binV, Nat.reduceEqDiff, Nat.reduceAdd, reduceCtorEq, Int.reduceToNat, Nat.reduceMul, Nat.reduceLT, Int.reduceNeg, Int.reduceLE, Int.reduceLT, Int.reduceEq, Nat.reduceLeDiff, List.drop, List.take, g1, b0, g4, g5, gI, hlt, hget, n0, ki.call, podC, k1.call, k2.call, k3.call, c2, d3, wa, hw]
            refine nxt (hlc.trans hb) _ _ _ (by omega) ?_ ?_ ?_ ?_ ?_
            all_goals try simp only [look_if, blkAt_if, Nat.reduceEqDiff, if_true, if_false, g1, n0, b0]
          · by_cases c4 : ixNode x.node 0 s.nodes < 0
            · have hb : podBad s x = 4 := by unfold podBad; rw [if_neg (by simp [c1]), if_pos (.inr ⟨c3, (ixNode_neg _ _ _).1 c4⟩)]
              simp only [runL, defL, binV, Nat.reduceEqDiff, Nat.reduceAdd, reduceCtorEq, Int.reduceToNat, Nat.reduceMul, Nat.reduceLT, Int.reduceNeg, Int.reduceLE, Int.reduceLT, Int.reduceEq, Nat.reduceLeDiff, List.drop, List.take, g1, b0, g4, g5, gI, hlt, hget, n0, ki.call, podC, k1.call, k2.call, k3.call, c2, c3, c4]
              refine fin _ (hlc.trans hb) (by decide) _ _ _ ?_ ?_
              all_goals try simp only [look_if, blkAt_if, Nat.reduceEqDiff, if_true, if_false, g5]
            · have c4' : nodeOf x.node s.nodes ≠ none := fun h => c4 ((ixNode_neg _ _ _).2 h)
              have hb : podBad s x = 0 := by unfold podBad; rw [if_neg (by simp [c1]), if_neg (by simp [c2', c4'])]
              simp only [runL, defL, binV, Nat.reduceEqDiff, Nat.reduceAdd, reduceCtorEq, Int.reduceToNat, Nat.reduceMul, Nat.reduceLT, Int.reduceNeg, Int.reduceLE, Int.reduceLT, Int.reduceEq, Nat.reduceLeDiff, List.drop, List.take, g1, b0, g4, g5, gI, hlt, hget, n0, ki.call, podC, k1.call, k2.call, k3.call, c2, c3, c4, wa, hw]
              refine nxt (hlc.trans hb) _ _ _ (by omega) ?_ ?_ ?_ ?_ ?_
              all_goals try simp only [look_if, blkAt_if, Nat.reduceEqDiff, if_true, if_false, g1, n0, b0]
    · have hlc : lookC x.id last ((podBad s) x) = idP x.id last := by unfold lookC; rw [if_pos hid]
      simp only [runL, defL, binV, Nat.reduceEqDiff, Nat.reduceAdd, reduceCtorEq, Int.reduceToNat, Nat.reduceMul, Nat.reduceLT, Int.reduceNeg, Int.reduceLE, Int.reduceLT, Int.reduceEq, Nat.reduceLeDiff, List.drop, List.take, g1, b0, g4, g5, gI, hlt, hget, n0, ki.call, podC, k1.call, k2.call, k3.call, hid]
      refine fin _ hlc hid _ _ _ ?_ ?_
      all_goals try simp only [look_if, blkAt_if, Nat.reduceEqDiff, if_true, if_false, g5]
end
end Go.Proofs.YtlfphlobcopemaaGreatDoor.Ab
set_option linter.unusedVariables false
set_option linter.unusedSimpArgs false
namespace Go.Proofs.YtlfphlobcopemaaGreatDoor.Ab
open Go
section
variable {T : Tab}
set_option maxRecDepth 100000 in
set_option maxHeartbeats 4000000 in
theorem check3r_ok (S : Std3r T) (s : Snap) : Gives T 151 [snapP s] (badO (checkB s)) := by
  refine gives S.h151 rfl ?_
  by_cases hz : sizesOK s = true
  · have hz' := hz
    simp only [sizesOK, Bool.and_eq_true, decide_eq_true_eq] at hz'
    obtain ⟨z1, z2, z3, z4⟩ := hz'
    have y1 : ¬ (s.nodes.length : Int) = 0 := by omega
    have y2 : ¬ (8 : Int) < (s.nodes.length : Int) := by omega
    have y3 : ¬ (8 : Int) < (s.loads.length : Int) := by omega
    have y4 : ¬ (12 : Int) < (s.pods.length : Int) := by omega
    rw [checkB, if_pos hz]
    have R : ∀ (o : Option (Int × Int)) (c a : Int), o = some (c, a) → ∀ fr hp nx, look fr 2 = .pv (.int .i64 c) → look fr 3 = .pv (.int .i64 a) → RetP [.t 2, .t 3] (badO o) .ret ⟨fr, hp, nx⟩ := by
      rintro o c a rfl fr hp nx g2 g3
      simp only [runL, defL, binV, Nat.reduceEqDiff, Nat.reduceAdd, reduceCtorEq, Int.reduceToNat, Nat.reduceMul, Nat.reduceLT, Int.reduceNeg, Int.reduceLE, Int.reduceLT, Int.reduceEq, Nat.reduceLeDiff, List.drop, List.take, g2, g3, badO]
    simp only [f151, runL, defL, binV, Nat.reduceEqDiff, Nat.reduceAdd, reduceCtorEq, Int.reduceToNat, Nat.reduceMul, Nat.reduceLT, Int.reduceNeg, Int.reduceLE, Int.reduceLT, Int.reduceEq, Nat.reduceLeDiff, List.drop, List.take, snapP, y1, y2, y3, y4]
    cases h1 : fstB Node.id nodeBad 0 0 s.nodes with
    | some q =>
      rw [Option.some_or, Option.some_or]
      refine ref_0 S s (by omega) (by omega) (by omega) 0 (Int.le_refl _) (by omega) _ (some q) (fun h => by simp at h) (fun c a h fr hp nx g2 g3 => ?_) s.nodes 0 0 rfl (Nat.zero_le _) (by omega) h1 _ _ _ (Nat.le_refl _) rfl rfl rfl rfl rfl
      exact R _ c a h _ _ _ g2 g3
    | none =>
      rw [Option.none_or]
      refine ref_0 S s (by omega) (by omega) (by omega) 0 (Int.le_refl _) (by omega) _ none (fun _ fr hp nx hnx g1 g5 b0 => ?_) (fun c a h => by simp at h) s.nodes 0 0 rfl (Nat.zero_le _) (by omega) h1 _ _ _ (Nat.le_refl _) rfl rfl rfl rfl rfl
      simp only [runL, defL, binV, Nat.reduceEqDiff, Nat.reduceAdd, reduceCtorEq, Int.reduceToNat, Nat.reduceMul, Nat.reduceLT, Int.reduceNeg, Int.reduceLE, Int.reduceLT, Int.reduceEq, Nat.reduceLeDiff, List.drop, List.take, g1, g5, b0]
      have e0 : (s.nodes.length : Int) + ((0 : Nat) : Int) = s.nodes.length := by omega
      have e1 : (0 : Int) + (s.nodes.length : Int) = s.nodes.length := by omega
      cases h2 : fstB Load.id loadBad 0 s.nodes.length s.loads with
      | some q =>
        rw [Option.some_or]
        refine ref_1 S s (by omega) (by omega) (by omega) s.nodes.length (by omega) (by omega) _ (some q) (fun h => by simp at h) (fun c a h fr hp nx g2 g3 => ?_) s.loads 0 0 rfl (Nat.zero_le _) (by omega) (by rw [e0, h2]) _ _ _ hnx ?_ b0 ?_ ?_ ?_
        · exact R _ c a h _ _ _ g2 g3
        all_goals try simp only [look_if, blkAt_if, Nat.reduceEqDiff, if_true, if_false, g1, g5, e0, e1]
        rfl
      | none =>
        rw [Option.none_or]
        refine ref_1 S s (by omega) (by omega) (by omega) s.nodes.length (by omega) (by omega) _ none (fun _ fr hp nx hnx g1 g5 b0 => ?_) (fun c a h => by simp at h) s.loads 0 0 rfl (Nat.zero_le _) (by omega) (by rw [e0, h2]) _ _ _ hnx ?_ b0 ?_ ?_ ?_
        · simp only [runL, defL, binV, Nat.reduceEqDiff, Nat.reduceAdd, reduceCtorEq, Int.reduceToNat, Nat.reduceMul, Nat.reduceLT, Int.reduceNeg, Int.reduceLE, Int.reduceLT, Int.reduceEq, Nat.reduceLeDiff, List.drop, List.take, g1, g5, b0]
          have e2 : (s.nodes.length : Int) + s.loads.length + ((0 : Nat) : Int) = (s.nodes.length : Int) + s.loads.length := by omega
          cases h3 : fstB Pod.id (podBad s) 0 ((s.nodes.length : Int) + s.loads.length) s.pods with
          | some q =>
            refine ref_2 S s (by omega) (by omega) (by omega) (s.nodes.length + s.loads.length) (by omega) (by omega) _ (some q) (fun h => by simp at h) (fun c a h fr hp nx g2 g3 => ?_) s.pods 0 0 rfl (Nat.zero_le _) (by omega) (by rw [e2, h3]) _ _ _ hnx ?_ b0 ?_ ?_ ?_
            · exact R _ c a h _ _ _ g2 g3
            all_goals try simp only [look_if, blkAt_if, Nat.reduceEqDiff, if_true, if_false, g1, g5, e2]
            rfl
          | none =>
            refine ref_2 S s (by omega) (by omega) (by omega) (s.nodes.length + s.loads.length) (by omega) (by omega) _ none (fun _ fr hp nx hnx g1 g5 b0 => ?_) (fun c a h => by simp at h) s.pods 0 0 rfl (Nat.zero_le _) (by omega) (by rw [e2, h3]) _ _ _ hnx ?_ b0 ?_ ?_ ?_
            · simp only [runL, defL, binV, Nat.reduceEqDiff, Nat.reduceAdd, reduceCtorEq, Int.reduceToNat, Nat.reduceMul, Nat.reduceLT, Int.reduceNeg, Int.reduceLE, Int.reduceLT, Int.reduceEq, Nat.reduceLeDiff, List.drop, List.take, badO]
            all_goals try simp only [look_if, blkAt_if, Nat.reduceEqDiff, if_true, if_false, g1, g5, e2]
            rfl
        all_goals try simp only [look_if, blkAt_if, Nat.reduceEqDiff, if_true, if_false, g1, g5, e0, e1]
        rfl
  · have hc : badO (checkB s) = .tuple [.int .i64 3, .int .i64 (-1)] := by rw [checkB, if_neg hz]; rfl
    rw [hc]
    have hz' := hz
    simp only [sizesOK, Bool.and_eq_true, decide_eq_true_eq, not_and] at hz'
    by_cases c1 : (s.nodes.length : Int) = 0
    · have d1 := decide_eq_true c1
      simp only [f151, runL, defL, binV, Nat.reduceEqDiff, Nat.reduceAdd, reduceCtorEq, Int.reduceToNat, Nat.reduceMul, Nat.reduceLT, Int.reduceNeg, Int.reduceLE, Int.reduceLT, Int.reduceEq, Nat.reduceLeDiff, List.drop, List.take, snapP, d1]
    · by_cases c2 : (8 : Int) < (s.nodes.length : Int)
      · simp only [f151, runL, defL, binV, Nat.reduceEqDiff, Nat.reduceAdd, reduceCtorEq, Int.reduceToNat, Nat.reduceMul, Nat.reduceLT, Int.reduceNeg, Int.reduceLE, Int.reduceLT, Int.reduceEq, Nat.reduceLeDiff, List.drop, List.take, snapP, c1, c2]
      · by_cases c3 : (8 : Int) < (s.loads.length : Int)
        · simp only [f151, runL, defL, binV, Nat.reduceEqDiff, Nat.reduceAdd, reduceCtorEq, Int.reduceToNat, Nat.reduceMul, Nat.reduceLT, Int.reduceNeg, Int.reduceLE, Int.reduceLT, Int.reduceEq, Nat.reduceLeDiff, List.drop, List.take, snapP, c1, c2, c3]
        · have c4 : (12 : Int) < (s.pods.length : Int) := by have := hz' (by omega) (by omega) (by omega); omega
          simp only [f151, runL, defL, binV, Nat.reduceEqDiff, Nat.reduceAdd, reduceCtorEq, Int.reduceToNat, Nat.reduceMul, Nat.reduceLT, Int.reduceNeg, Int.reduceLE, Int.reduceLT, Int.reduceEq, Nat.reduceLeDiff, List.drop, List.take, snapP, c1, c2, c3, c4]
theorem fairr_loop (h156 : Std T 156 f156) (s : Snap) (x : Spec) (hp : s.pods.length ≤ 2 ^ 30) (hx : x.wants.length ≤ 2 ^ 29) (Q : Exit → St → Prop) (o : Option (Int × Int))
    (hend : o = none → ∀ fr hp nx, Q (.exit 0) ⟨fr, hp, nx⟩)
    (hret : ∀ c a, o = some (c, a) → ∀ fr hp nx, look fr 4 = .pv (.int .i64 c) → look fr 5 = .pv (.int .i64 a) → Q .ret ⟨fr, hp, nx⟩) :
    ∀ (rest : List Want) (i : Nat) (prev : Option Want), x.wants.drop i = rest → i ≤ x.wants.length → ((i = 0 ∧ prev = none) ∨ ∃ j v, i = j + 1 ∧ prev = some v ∧ x.wants[j]? = some v) → wantsFrom s.pods prev i rest = o → ∀ (fr : List (Nat × AV)) (hp : Hl) (nx : Nat), 2 ≤ nx → look fr 2 = .ptr 0 0 0 → look fr 3 = .ptr 1 0 0 →
      blkAt hp 0 = .var [.pv (.slice (s.nodes.map nodeC)), .pv (.slice (s.loads.map loadC)), .pv (.slice (s.pods.map podC))] → blkAt hp 1 = .var [.pv (.slice (x.wants.map wantC)), .pv (.int .i64 x.pre), .pv (.int .i64 x.shi)] →
      look fr 8 = .pv (.int .i64 i) → Wp T false (.loop f152l0) ⟨fr, hp, nx⟩ Q := by
  intro rest
  induction rest with
  | nil =>
    intro i prev hd hi hpv ho fr hp nx hnx g2 g3 b0 b1 h8
    have hlen := drop_nil hd hi
    rw [Wp_loop, Wp_eq f152l0.eq_1]
    simp only [runL, defL, binV, Nat.reduceEqDiff, Nat.reduceAdd, reduceCtorEq, Int.reduceToNat, Nat.reduceMul, Nat.reduceLT, Int.reduceNeg, Int.reduceLE, Int.reduceLT, Int.reduceEq, Nat.reduceLeDiff, List.drop, List.take, g3, b1, h8, hlen, Int.lt_irrefl]
    exact hend ho.symm _ _ _
  | cons w r ih =>
    intro i prev hd hi hpv ho fr hp nx hnx g2 g3 b0 b1 h8
    obtain ⟨hget, hlt, hw, hd', hi', hbb⟩ := drop_cons hd (by omega)
    have n0 : ¬ nx = 0 := by omega
    have n1 : ¬ nx = 1 := by omega
    have m0 : ¬ nx + 1 = 0 := by omega
    have m1 : ¬ nx + 1 = 1 := by omega
    have k := pod3_ok h156 s w.pod (by assumption)
    simp only [snapP] at k
    simp only [wantsFrom] at ho
    have fin : ∀ c, wantBad s.pods prev w = c → c ≠ 0 → ∀ fr hp nx, look fr 4 = .pv (.int .i64 c) → look fr 5 = .pv (.int .i64 i) → Q .ret ⟨fr, hp, nx⟩ := by
      intro c h1 h2
      refine hret c _ ?_
      rw [← ho, h1, if_pos h2]
    have nxt : wantBad s.pods prev w = 0 → ∀ fr' hp' nx', 2 ≤ nx' → look fr' 2 = look fr 2 → look fr' 3 = look fr 3 → blkAt hp' 0 = blkAt hp 0 → blkAt hp' 1 = blkAt hp 1 → look fr' 8 = .pv (.int .i64 ((i + 1 : Nat) : Int)) → Wp T false (.loop f152l0) ⟨fr', hp', nx'⟩ Q := by
      intro h1 fr' hp' nx' q1 q2 q3 q4 q5 q6
      refine ih (i + 1) (some w) hd' hi' (.inr ⟨i, w, rfl, rfl, hget⟩) ?_ fr' hp' nx' q1 (q2.trans g2) (q3.trans g3) (q4.trans b0) (q5.trans b1) q6
      rw [← ho, h1, if_neg (by simp)]
      rfl
    have rest : wantBad s.pods prev w = wantRest s.pods w → (¬ ∃ v, prev = some v ∧ (w.pod = v.pod ∨ w.pod < v.pod)) → Wp T false (.loop f152l0) ⟨fr, hp, nx⟩ Q := by
      intro hb hno
      have start : ∀ (K : Prop), (∀ (hj : i = 0 ∧ prev = none), K) → (∀ j v, i = j + 1 → prev = some v → x.wants[j]? = some v → ¬ w.pod = v.pod → ¬ w.pod < v.pod → K) → K := by
        intro K h1 h2
        rcases hpv with h | ⟨j, v, e1, e2, e3⟩
        · exact h1 h
        · exact h2 j v e1 e2 e3 (fun h => hno ⟨v, e2, .inl h⟩) (fun h => hno ⟨v, e2, .inr h⟩)
      refine start _ (fun hj => ?_) (fun j v e1 e2 e3 e4 e5 => ?_)
      · obtain ⟨rfl, _⟩ := hj
        have z0 : ((0 : Nat) : Int) = 0 := rfl
        rw [z0] at h8 hw hlt
        rw [Wp_loop, Wp_eq f152l0.eq_1]
        simp only [runL, defL, binV, Nat.reduceEqDiff, Nat.reduceAdd, reduceCtorEq, Int.reduceToNat, Nat.reduceMul, Nat.reduceLT, Int.reduceNeg, Int.reduceLE, Int.reduceLT, Int.reduceEq, Nat.reduceLeDiff, List.drop, List.take, g2, g3, b0, b1, h8, hlt, hget, wantC, n0, n1]
        refine (Wp_calmS rfl).2 ?_
        simp only [runL, defL, binV, Nat.reduceEqDiff, Nat.reduceAdd, reduceCtorEq, Int.reduceToNat, Nat.reduceMul, Nat.reduceLT, Int.reduceNeg, Int.reduceLE, Int.reduceLT, Int.reduceEq, Nat.reduceLeDiff, List.drop, List.take, g2, g3, b0, b1, h8, hlt, hget, wantC, n0, n1]
        refine (Wp_calmS rfl).2 ?_
        simp only [runL, defL, binV, Nat.reduceEqDiff, Nat.reduceAdd, reduceCtorEq, Int.reduceToNat, Nat.reduceMul, Nat.reduceLT, Int.reduceNeg, Int.reduceLE, Int.reduceLT, Int.reduceEq, Nat.reduceLeDiff, List.drop, List.take, g2, g3, b0, b1, h8, hlt, hget, wantC, n0, n1, k.call]
        unfold wantRest at hb
        by_cases q1 : podOf w.pod s.pods = none
        · rw [if_pos q1] at hb
          rcases placeFrom_cases w.pod s.pods 0 with ⟨p1, p2⟩ | ⟨j, p, p1, p2, p3, p4⟩
          · simp only [runL, defL, binV, Nat.reduceEqDiff, Nat.reduceAdd, reduceCtorEq, Int.reduceToNat, Nat.reduceMul, Nat.reduceLT, Int.reduceNeg, Int.reduceLE, Int.reduceLT, Int.reduceEq, Nat.reduceLeDiff, List.drop, List.take, p2, h8, Int.reduceNeg, Int.reduceLT]
            refine fin _ hb (by decide) _ _ _ ?_ ?_
            all_goals try simp only [look_if, blkAt_if, Nat.reduceEqDiff, if_true, if_false, z0]
          · rw [q1] at p2; simp at p2
        · rw [if_neg q1] at hb
          rcases placeFrom_cases w.pod s.pods 0 with ⟨p1, p2⟩ | ⟨j, p, p1, p2, p3, p4⟩
          · exact absurd p1 q1
          · have hj : ¬ ((0 + j : Nat) : Int) < 0 := by omega
            have hj' : ¬ (j : Int) < 0 := by omega
            cases q2 : w.stay
            · rw [q2] at hb
              have hv := eqVec w.req vec0
              by_cases q3 : w.req = vec0
              · rw [if_neg (by simp [q3])] at hb
                rw [decide_eq_true q3] at hv
                simp only [vec0] at hv
                simp only [runL, defL, binV, Nat.reduceEqDiff, Nat.reduceAdd, reduceCtorEq, Int.reduceToNat, Nat.reduceMul, Nat.reduceLT, Int.reduceNeg, Int.reduceLE, Int.reduceLT, Int.reduceEq, Nat.reduceLeDiff, List.drop, List.take, p3, hj, hj', hv, h8, hw, n0, n1, q2]
                refine nxt hb _ _ _ (by omega) ?_ ?_ ?_ ?_ ?_
                all_goals try simp only [look_if, blkAt_if, Nat.reduceEqDiff, if_true, if_false, g2, g3, n0, n1, b0, b1]
              · rw [if_pos ⟨rfl, q3⟩] at hb
                rw [decide_eq_false q3] at hv
                simp only [vec0] at hv
                simp only [runL, defL, binV, Nat.reduceEqDiff, Nat.reduceAdd, reduceCtorEq, Int.reduceToNat, Nat.reduceMul, Nat.reduceLT, Int.reduceNeg, Int.reduceLE, Int.reduceLT, Int.reduceEq, Nat.reduceLeDiff, List.drop, List.take, p3, hj, hj', hv, h8, n0, n1, q2]
                refine fin _ hb (by decide) _ _ _ ?_ ?_
                all_goals try simp only [look_if, blkAt_if, Nat.reduceEqDiff, if_true, if_false, z0]
            · rw [q2, if_neg (by simp)] at hb
              simp only [runL, defL, binV, Nat.reduceEqDiff, Nat.reduceAdd, reduceCtorEq, Int.reduceToNat, Nat.reduceMul, Nat.reduceLT, Int.reduceNeg, Int.reduceLE, Int.reduceLT, Int.reduceEq, Nat.reduceLeDiff, List.drop, List.take, p3, hj, hj', h8, hw, n0, n1, q2]
              refine nxt hb _ _ _ (by omega) ?_ ?_ ?_ ?_ ?_
              all_goals try simp only [look_if, blkAt_if, Nat.reduceEqDiff, if_true, if_false, g2, g3, n0, n1, b0, b1]
      · subst e1
        have w1 : IntKind.i64.wrap (((j + 1 : Nat) : Int) - 1) = (j : Int) := by rw [wrap6] <;> omega
        have p0 : (0 : Int) < ((j + 1 : Nat) : Int) := by omega
        rw [Wp_loop, Wp_eq f152l0.eq_1]
        simp only [runL, defL, binV, Nat.reduceEqDiff, Nat.reduceAdd, reduceCtorEq, Int.reduceToNat, Nat.reduceMul, Nat.reduceLT, Int.reduceNeg, Int.reduceLE, Int.reduceLT, Int.reduceEq, Nat.reduceLeDiff, List.drop, List.take, g2, g3, b0, b1, h8, hlt, hget, wantC, n0, n1]
        refine (Wp_calmS rfl).2 ?_
        simp only [runL, defL, binV, Nat.reduceEqDiff, Nat.reduceAdd, reduceCtorEq, Int.reduceToNat, Nat.reduceMul, Nat.reduceLT, Int.reduceNeg, Int.reduceLE, Int.reduceLT, Int.reduceEq, Nat.reduceLeDiff, List.drop, List.take, g2, g3, b0, b1, h8, hlt, hget, wantC, n0, n1, e3, w1, p0, e4]
        refine (Wp_calmS rfl).2 ?_
        simp only [runL, defL, binV, Nat.reduceEqDiff, Nat.reduceAdd, reduceCtorEq, Int.reduceToNat, Nat.reduceMul, Nat.reduceLT, Int.reduceNeg, Int.reduceLE, Int.reduceLT, Int.reduceEq, Nat.reduceLeDiff, List.drop, List.take, g2, g3, b0, b1, h8, hlt, hget, wantC, n0, n1, k.call, e3, w1, p0, e5]
        unfold wantRest at hb
        by_cases q1 : podOf w.pod s.pods = none
        · rw [if_pos q1] at hb
          rcases placeFrom_cases w.pod s.pods 0 with ⟨p1, p2⟩ | ⟨j, p, p1, p2, p3, p4⟩
          · simp only [runL, defL, binV, Nat.reduceEqDiff, Nat.reduceAdd, reduceCtorEq, Int.reduceToNat, Nat.reduceMul, Nat.reduceLT, Int.reduceNeg, Int.reduceLE, Int.reduceLT, Int.reduceEq, Nat.reduceLeDiff, List.drop, List.take, p2, h8, Int.reduceNeg, Int.reduceLT]
            refine fin _ hb (by decide) _ _ _ ?_ ?_
            all_goals try simp only [look_if, blkAt_if, Nat.reduceEqDiff, if_true, if_false, ]
          · rw [q1] at p2; simp at p2
        · rw [if_neg q1] at hb
          rcases placeFrom_cases w.pod s.pods 0 with ⟨p1, p2⟩ | ⟨j', p, p1, p2, p3, p4⟩
          · exact absurd p1 q1
          · have hj : ¬ ((0 + j' : Nat) : Int) < 0 := by omega
            have hj' : ¬ (j' : Int) < 0 := by omega
            cases q2 : w.stay
            · rw [q2] at hb
              have hv := eqVec w.req vec0
              by_cases q3 : w.req = vec0
              · rw [if_neg (by simp [q3])] at hb
                rw [decide_eq_true q3] at hv
                simp only [vec0] at hv
                simp only [runL, defL, binV, Nat.reduceEqDiff, Nat.reduceAdd, reduceCtorEq, Int.reduceToNat, Nat.reduceMul, Nat.reduceLT, Int.reduceNeg, Int.reduceLE, Int.reduceLT, Int.reduceEq, Nat.reduceLeDiff, List.drop, List.take, p3, hj, hj', hv, h8, hw, n0, n1, q2]
                refine nxt hb _ _ _ (by omega) ?_ ?_ ?_ ?_ ?_
                all_goals try simp only [look_if, blkAt_if, Nat.reduceEqDiff, if_true, if_false, g2, g3, n0, n1, b0, b1]
              · rw [if_pos ⟨rfl, q3⟩] at hb
                rw [decide_eq_false q3] at hv
                simp only [vec0] at hv
                simp only [runL, defL, binV, Nat.reduceEqDiff, Nat.reduceAdd, reduceCtorEq, Int.reduceToNat, Nat.reduceMul, Nat.reduceLT, Int.reduceNeg, Int.reduceLE, Int.reduceLT, Int.reduceEq, Nat.reduceLeDiff, List.drop, List.take, p3, hj, hj', hv, h8, n0, n1, q2]
                refine fin _ hb (by decide) _ _ _ ?_ ?_
                all_goals try simp only [look_if, blkAt_if, Nat.reduceEqDiff, if_true, if_false, ]
            · rw [q2, if_neg (by simp)] at hb
              simp only [runL, defL, binV, Nat.reduceEqDiff, Nat.reduceAdd, reduceCtorEq, Int.reduceToNat, Nat.reduceMul, Nat.reduceLT, Int.reduceNeg, Int.reduceLE, Int.reduceLT, Int.reduceEq, Nat.reduceLeDiff, List.drop, List.take, p3, hj, hj', h8, hw, n0, n1, q2]
              refine nxt hb _ _ _ (by omega) ?_ ?_ ?_ ?_ ?_
              all_goals try simp only [look_if, blkAt_if, Nat.reduceEqDiff, if_true, if_false, g2, g3, n0, n1, b0, b1]
    rcases hpv with ⟨rfl, rfl⟩ | ⟨j, v, rfl, rfl, hv⟩
    · exact rest rfl (by rintro ⟨v, h, _⟩; simp at h)
    · have w1 : IntKind.i64.wrap (((j + 1 : Nat) : Int) - 1) = (j : Int) := by rw [wrap6] <;> omega
      have p0 : (0 : Int) < ((j + 1 : Nat) : Int) := by omega
      by_cases h5 : w.pod = v.pod
      · have d5 := decide_eq_true h5
        have hb : wantBad s.pods (some v) w = 5 := by simp only [wantBad]; rw [if_pos h5]
        rw [Wp_loop, Wp_eq f152l0.eq_1]
        simp only [runL, defL, binV, Nat.reduceEqDiff, Nat.reduceAdd, reduceCtorEq, Int.reduceToNat, Nat.reduceMul, Nat.reduceLT, Int.reduceNeg, Int.reduceLE, Int.reduceLT, Int.reduceEq, Nat.reduceLeDiff, List.drop, List.take, g2, g3, b0, b1, h8, hlt, hget, wantC, n0, n1]
        refine (Wp_calmS rfl).2 ?_
        simp only [runL, defL, binV, Nat.reduceEqDiff, Nat.reduceAdd, reduceCtorEq, Int.reduceToNat, Nat.reduceMul, Nat.reduceLT, Int.reduceNeg, Int.reduceLE, Int.reduceLT, Int.reduceEq, Nat.reduceLeDiff, List.drop, List.take, g2, g3, b0, b1, h8, hlt, hget, wantC, n0, n1, hv, w1, p0, d5]
        refine fin _ hb (by decide) _ _ _ ?_ ?_
        all_goals try simp only [look_if, blkAt_if, Nat.reduceEqDiff, if_true, if_false, ]
      · by_cases h6 : w.pod < v.pod
        · have hb : wantBad s.pods (some v) w = 1 := by simp only [wantBad]; rw [if_neg h5, if_pos h6]
          rw [Wp_loop, Wp_eq f152l0.eq_1]
          simp only [runL, defL, binV, Nat.reduceEqDiff, Nat.reduceAdd, reduceCtorEq, Int.reduceToNat, Nat.reduceMul, Nat.reduceLT, Int.reduceNeg, Int.reduceLE, Int.reduceLT, Int.reduceEq, Nat.reduceLeDiff, List.drop, List.take, g2, g3, b0, b1, h8, hlt, hget, wantC, n0, n1]
          refine (Wp_calmS rfl).2 ?_
          simp only [runL, defL, binV, Nat.reduceEqDiff, Nat.reduceAdd, reduceCtorEq, Int.reduceToNat, Nat.reduceMul, Nat.reduceLT, Int.reduceNeg, Int.reduceLE, Int.reduceLT, Int.reduceEq, Nat.reduceLeDiff, List.drop, List.take, g2, g3, b0, b1, h8, hlt, hget, wantC, n0, n1, hv, w1, p0, h5]
          refine (Wp_calmS rfl).2 ?_
          simp only [runL, defL, binV, Nat.reduceEqDiff, Nat.reduceAdd, reduceCtorEq, Int.reduceToNat, Nat.reduceMul, Nat.reduceLT, Int.reduceNeg, Int.reduceLE, Int.reduceLT, Int.reduceEq, Nat.reduceLeDiff, List.drop, List.take, g2, g3, b0, b1, h8, hlt, hget, wantC, n0, n1, hv, w1, p0, h6]
          refine fin _ hb (by decide) _ _ _ ?_ ?_
          all_goals try simp only [look_if, blkAt_if, Nat.reduceEqDiff, if_true, if_false, ]
        · refine rest (by simp only [wantBad]; rw [if_neg h5, if_neg h6]) ?_
          rintro ⟨v', h, h'⟩
          simp only [Option.some.injEq] at h
          subst h
          rcases h' with h' | h'
          · exact h5 h'
          · exact h6 h'
theorem fair3r_ok (S : Std3r T) (h152 : Std T 152 f152) (h156 : Std T 156 f156) (s : Snap) (x : Spec) (hx : x.wants.length ≤ 2 ^ 29) : Gives T 152 [snapP s, specP x] (badO (fairB s x)) := by
  refine gives h152 rfl ?_
  have k := check3r_ok S s
  simp only [snapP] at k
  have kr := checkB_ok s
  unfold fairB
  cases hc : checkB s with
  | some e =>
    obtain ⟨c, a⟩ := e
    have := kr c a hc
    have hc0 : ¬ c = 0 := by omega
    rw [hc] at k
    simp only [badO] at k ⊢
    simp only [f152, runL, defL, binV, Nat.reduceEqDiff, Nat.reduceAdd, reduceCtorEq, Int.reduceToNat, Nat.reduceMul, Nat.reduceLT, Int.reduceNeg, Int.reduceLE, Int.reduceLT, Int.reduceEq, Nat.reduceLeDiff, List.drop, List.take, snapP, specP, k.call, hc0]
  | none =>
    have hs : s.pods.length ≤ 2 ^ 30 := by
      unfold checkB at hc
      split at hc
      · rename_i hz
        simp only [sizesOK, Bool.and_eq_true, decide_eq_true_eq] at hz
        omega
      · simp at hc
    rw [hc] at k
    simp only [badO] at k
    simp only
    by_cases c1 : x.pre < 0
    · rw [if_neg (by omega)]
      simp only [f152, runL, defL, binV, Nat.reduceEqDiff, Nat.reduceAdd, reduceCtorEq, Int.reduceToNat, Nat.reduceMul, Nat.reduceLT, Int.reduceNeg, Int.reduceLE, Int.reduceLT, Int.reduceEq, Nat.reduceLeDiff, List.drop, List.take, snapP, specP, k.call, c1, badO]
    · by_cases c2 : 40 < x.pre
      · rw [if_neg (by omega)]
        simp only [f152, runL, defL, binV, Nat.reduceEqDiff, Nat.reduceAdd, reduceCtorEq, Int.reduceToNat, Nat.reduceMul, Nat.reduceLT, Int.reduceNeg, Int.reduceLE, Int.reduceLT, Int.reduceEq, Nat.reduceLeDiff, List.drop, List.take, snapP, specP, k.call, c1, c2, badO]
      · by_cases c3 : x.shi < 0
        · rw [if_neg (by omega)]
          simp only [f152, runL, defL, binV, Nat.reduceEqDiff, Nat.reduceAdd, reduceCtorEq, Int.reduceToNat, Nat.reduceMul, Nat.reduceLT, Int.reduceNeg, Int.reduceLE, Int.reduceLT, Int.reduceEq, Nat.reduceLeDiff, List.drop, List.take, snapP, specP, k.call, c1, c2, c3, badO]
        · by_cases c4 : 40 < x.shi
          · rw [if_neg (by omega)]
            simp only [f152, runL, defL, binV, Nat.reduceEqDiff, Nat.reduceAdd, reduceCtorEq, Int.reduceToNat, Nat.reduceMul, Nat.reduceLT, Int.reduceNeg, Int.reduceLE, Int.reduceLT, Int.reduceEq, Nat.reduceLeDiff, List.drop, List.take, snapP, specP, k.call, c1, c2, c3, c4, badO]
          · rw [if_pos (by omega)]
            simp only [f152, runL, defL, binV, Nat.reduceEqDiff, Nat.reduceAdd, reduceCtorEq, Int.reduceToNat, Nat.reduceMul, Nat.reduceLT, Int.reduceNeg, Int.reduceLE, Int.reduceLT, Int.reduceEq, Nat.reduceLeDiff, List.drop, List.take, snapP, specP, k.call, c1, c2, c3, c4]
            refine fairr_loop h156 s x hs hx _ (wantsFrom s.pods none 0 x.wants) (fun ho fr hp nx => ?_) (fun c a ho fr hp nx g4 g5 => ?_) x.wants 0 none rfl (Nat.zero_le _) (.inl ⟨rfl, rfl⟩) rfl _ _ _ (Nat.le_refl _) rfl rfl rfl rfl rfl
            · simp only [runL, defL, binV, Nat.reduceEqDiff, Nat.reduceAdd, reduceCtorEq, Int.reduceToNat, Nat.reduceMul, Nat.reduceLT, Int.reduceNeg, Int.reduceLE, Int.reduceLT, Int.reduceEq, Nat.reduceLeDiff, List.drop, List.take, ho, badO]
            · simp only [runL, defL, binV, Nat.reduceEqDiff, Nat.reduceAdd, reduceCtorEq, Int.reduceToNat, Nat.reduceMul, Nat.reduceLT, Int.reduceNeg, Int.reduceLE, Int.reduceLT, Int.reduceEq, Nat.reduceLeDiff, List.drop, List.take, ho, g4, g5, badO]
theorem toldG_ok (h105 : Std T 105 f105) (h102 : Std T 102 f102) (h103 : StdP T 103 isP) (o : Option (Int × Int)) (h : ErrOK o) : Gives T 105 [errG o, .int .i64 (bad1 o), .int .i64 (bad2 o)] (.bool true) := by
  cases o with
  | none => exact told_ok h105 h102 h103 none (fun c i h => by simp at h)
  | some q =>
    obtain ⟨c, a⟩ := q
    obtain ⟨h1, h2, h3⟩ := h c a rfl
    by_cases ha : a < 0
    · have e : a = -1 := by omega
      subst e
      refine gives h105 rfl ?_
      have k := code_code h102 c h1 h2
      simp only [codeE] at k
      simp only [f105, runL, defL, binV, Nat.reduceEqDiff, Nat.reduceAdd, reduceCtorEq, Int.reduceToNat, Nat.reduceMul, Nat.reduceLT, Int.reduceNeg, Int.reduceLE, Int.reduceLT, Int.reduceEq, Nat.reduceLeDiff, List.drop, List.take, errG, bad1, bad2, codeE, Int.reduceNeg, Int.reduceLT, k.call]
    · have := told_ok h105 h102 h103 (some (c, a)) (fun c' i h => by simp at h; omega)
      simpa only [errG, if_neg ha, errO] using this
end
end Go.Proofs.YtlfphlobcopemaaGreatDoor.Ab
set_option linter.unusedVariables false
set_option linter.unusedSimpArgs false
namespace Go.Proofs.YtlfphlobcopemaaGreatDoor.Ab
open Go
end Go.Proofs.YtlfphlobcopemaaGreatDoor.Ab
set_option linter.unusedVariables false
set_option linter.unusedSimpArgs false
namespace Go.Proofs.YtlfphlobcopemaaGreatDoor.Ab
open Go
/-! ### Plain: Ids rise where all may be -/
section
variable {T : Tab}
end
end Go.Proofs.YtlfphlobcopemaaGreatDoor.Ab
set_option linter.unusedVariables false
set_option linter.unusedSimpArgs false
namespace Go.Proofs.YtlfphlobcopemaaGreatDoor.Ab
open Go
def atI (z : Int) : List Int → Nat
  | [] => 0
  | y :: r => if y < z then atI z r + 1 else 0
def insU (z : Int) (l : List Int) : List Int := if l[atI z l]? = some z then l else l.take (atI z l) ++ z :: l.drop (atI z l)
theorem atI_le (z : Int) : ∀ l, atI z l ≤ l.length
  | [] => Nat.le_refl _
  | y :: r => by
    have := atI_le z r
    simp only [atI, List.length_cons]
    split <;> omega
theorem atI_lt (z : Int) : ∀ (l : List Int) (j : Nat), j < atI z l → ∃ y, l[j]? = some y ∧ y < z
  | [], j, h => by simp [atI] at h
  | y :: r, j, h => by
    simp only [atI] at h
    split at h
    · rename_i hy
      cases j with
      | zero => exact ⟨y, rfl, hy⟩
      | succ j =>
        obtain ⟨x, h1, h2⟩ := atI_lt z r j (by omega)
        exact ⟨x, by simpa using h1, h2⟩
    · omega
theorem atI_ge (z : Int) : ∀ (l : List Int), atI z l = l.length ∨ ∃ y, l[atI z l]? = some y ∧ z ≤ y
  | [] => .inl rfl
  | y :: r => by
    simp only [atI]
    split
    · rcases atI_ge z r with h | ⟨x, h1, h2⟩
      · left; simp [h]
      · right; exact ⟨x, by simpa using h1, h2⟩
    · rename_i hy
      right
      exact ⟨y, rfl, by omega⟩
theorem insU_cons (z y : Int) (r : List Int) : insU z (y :: r) = if y < z then y :: insU z r else if y = z then y :: r else z :: y :: r := by
  unfold insU
  simp only [atI]
  by_cases h : y < z
  · simp only [h, if_true, List.getElem?_cons_succ, List.take_succ_cons, List.drop_succ_cons]
    split <;> simp
  · simp only [h, if_false, List.getElem?_cons_zero, Option.some.injEq, List.take_zero, List.drop_zero, List.nil_append]
theorem insU_mem (z x : Int) : ∀ l, x ∈ insU z l ↔ x = z ∨ x ∈ l
  | [] => by simp [insU, atI]
  | y :: r => by
    rw [insU_cons]
    split
    · rw [List.mem_cons, insU_mem z x r, List.mem_cons]
      grind
    · split
      · rename_i h; subst h; simp
      · simp
theorem insU_lt (z : Int) : ∀ l : List Int, l.Pairwise (fun a b => a < b) → (insU z l).Pairwise (fun a b => a < b)
  | [], _ => by simp [insU, atI]
  | y :: r, h => by
    have h' := List.pairwise_cons.1 h
    rw [insU_cons]
    split
    · rename_i hy
      refine List.pairwise_cons.2 ⟨fun x hx => ?_, insU_lt z r h'.2⟩
      rcases (insU_mem z x r).1 hx with rfl | hx
      · exact hy
      · exact h'.1 x hx
    · split
      · exact h
      · refine List.pairwise_cons.2 ⟨fun x hx => ?_, h⟩
        rcases List.mem_cons.1 hx with rfl | hx
        · omega
        · have := h'.1 x hx; omega
def zonesR (out : List Int) : List Node → List Int
  | [] => out
  | n :: r => zonesR (insU n.zone out) r
theorem zonesR_ok : ∀ (l : List Node) (out : List Int), out.Pairwise (fun a b => a < b) → (zonesR out l).Pairwise (fun a b => a < b) ∧ ∀ x, x ∈ zonesR out l ↔ x ∈ out ∨ x ∈ l.map Node.zone
  | [], out, h => ⟨h, fun x => by simp [zonesR]⟩
  | n :: r, out, h => by
    obtain ⟨h1, h2⟩ := zonesR_ok r (insU n.zone out) (insU_lt _ _ h)
    refine ⟨h1, fun x => ?_⟩
    rw [zonesR, h2, insU_mem, List.map_cons, List.mem_cons]
    grind
theorem zonesR_eq (s : Snap) : zonesR [] s.nodes = zonesL s := by
  obtain ⟨h1, h2⟩ := zonesR_ok s.nodes [] List.Pairwise.nil
  refine rising_eq h1 (risesL_lt _) fun x => ?_
  rw [h2, show zonesL s = risesL (s.nodes.map Node.zone) from rfl, risesL_mem]
  simp
theorem insU_length (z : Int) (l : List Int) : (insU z l).length ≤ l.length + 1 := by
  have := atI_le z l
  unfold insU
  split
  · omega
  · simp; omega
section
variable {T : Tab}
theorem zr_inner (s : Snap) (hl : s.nodes.length ≤ 2 ^ 29) (n : Node) (i : Nat) (hget : s.nodes[i]? = some n) (out : List Int) (hol : out.length ≤ 2 ^ 29) (hp : Hl) (nx : Nat) (v : AV) (hO : Own v hp 1 (out.map i64C) 1 nx)
    (b0 : blkAt hp 0 = .var [.pv (.slice (s.nodes.map nodeC)), .pv (.slice (s.loads.map loadC)), .pv (.slice (s.pods.map podC))]) (Q : Exit → St → Prop)
    (hend : ∀ fr, look fr 1 = .ptr 0 0 0 → look fr 3 = v → look fr 4 = .pv (.int .i64 i) → look fr 5 = .pv (.int .i64 (atI n.zone out : Nat)) → Q (.exit 2) ⟨fr, hp, nx⟩) :
    ∀ (k j : Nat), atI n.zone out = j + k → ∀ (fr : List (Nat × AV)), look fr 1 = .ptr 0 0 0 → look fr 3 = v → look fr 4 = .pv (.int .i64 i) → look fr 5 = .pv (.int .i64 (j : Int)) → Wp T false (.loop f158l0) ⟨fr, hp, nx⟩ Q := by
  intro k
  have hlt : i < s.nodes.length := (List.getElem?_eq_some_iff.1 hget).1
  have h0 : (0 : Int) ≤ (i : Int) := by omega
  have hle := atI_le n.zone out
  induction k with
  | zero =>
    intro j hk fr g1 g3 g4 g5
    rw [Nat.add_zero] at hk
    rcases hO with ⟨he, rfl⟩ | ⟨id, rfl, i1, i2, i3⟩
    · have ho : out = [] := by simpa using he
      subst ho
      have hj : ¬ (j : Int) < ((0 : Nat) : Int) := by omega
      have z0 : ((0 : Nat) : Int) = 0 := rfl
      rw [z0] at hj
      rw [Wp_loop, Wp_eq f158l0.eq_1]
      refine Wp_seq.2 (Wp_seq.2 ((Wp_calmS rfl).2 ?_))
      simp only [runL, defL, binV, Nat.reduceEqDiff, Nat.reduceAdd, reduceCtorEq, Int.reduceToNat, Nat.reduceMul, Nat.reduceLT, Int.reduceNeg, Int.reduceLE, Int.reduceLT, Int.reduceEq, Nat.reduceLeDiff, List.drop, List.take, g1, g3, g4, g5, b0, hj, z0]
      refine hend _ ?_ ?_ ?_ ?_
      all_goals try simp only [look_if, blkAt_if, Nat.reduceEqDiff, if_true, if_false, g1, g3, g4, g5, hk]
    · rcases atI_ge n.zone out with h | ⟨y, h1, h2⟩
      · have hj : ¬ (j : Int) < (out.length : Int) := by omega
        rw [Wp_loop, Wp_eq f158l0.eq_1]
        refine Wp_seq.2 (Wp_seq.2 ((Wp_calmS rfl).2 ?_))
        simp only [runL, defL, binV, Nat.reduceEqDiff, Nat.reduceAdd, reduceCtorEq, Int.reduceToNat, Nat.reduceMul, Nat.reduceLT, Int.reduceNeg, Int.reduceLE, Int.reduceLT, Int.reduceEq, Nat.reduceLeDiff, List.drop, List.take, g1, g3, g4, g5, b0, i3, hj]
        refine hend _ ?_ ?_ ?_ ?_
        all_goals try simp only [look_if, blkAt_if, Nat.reduceEqDiff, if_true, if_false, g1, g3, g4, g5, hk]
      · have hjl : j < out.length := by rw [hk] at h1; exact (List.getElem?_eq_some_iff.1 h1).1
        have hj : (j : Int) < (out.length : Int) := by omega
        rw [hk] at h1
        have hy : ¬ y < n.zone := by omega
        rw [Wp_loop, Wp_eq f158l0.eq_1]
        refine Wp_seq.2 (Wp_seq.2 ((Wp_calmS rfl).2 ?_))
        simp only [runL, defL, binV, Nat.reduceEqDiff, Nat.reduceAdd, reduceCtorEq, Int.reduceToNat, Nat.reduceMul, Nat.reduceLT, Int.reduceNeg, Int.reduceLE, Int.reduceLT, Int.reduceEq, Nat.reduceLeDiff, List.drop, List.take, g1, g3, g4, g5, b0, i3, hj, hjl, h1, i64C, hget, nodeC, hy]
        refine hend _ ?_ ?_ ?_ ?_
        all_goals try simp only [look_if, blkAt_if, Nat.reduceEqDiff, if_true, if_false, g1, g3, g4, g5, hk]
  | succ k ih =>
    intro j hk fr g1 g3 g4 g5
    obtain ⟨y, h1, h2⟩ := atI_lt n.zone out j (by omega)
    have hjl : j < out.length := (List.getElem?_eq_some_iff.1 h1).1
    have hj : (j : Int) < (out.length : Int) := by omega
    have hw : IntKind.i64.wrap ((j : Int) + 1) = ((j + 1 : Nat) : Int) := by rw [wrap6] <;> omega
    have hO' := hO
    rcases hO with ⟨he, rfl⟩ | ⟨id, rfl, i1, i2, i3⟩
    · have ho : out = [] := by simpa using he
      subst ho
      simp at hjl
    · rw [Wp_loop, Wp_eq f158l0.eq_1]
      refine Wp_seq.2 (Wp_seq.2 ((Wp_calmS rfl).2 ?_))
      simp only [runL, defL, binV, Nat.reduceEqDiff, Nat.reduceAdd, reduceCtorEq, Int.reduceToNat, Nat.reduceMul, Nat.reduceLT, Int.reduceNeg, Int.reduceLE, Int.reduceLT, Int.reduceEq, Nat.reduceLeDiff, List.drop, List.take, g1, g3, g4, g5, b0, i3, hj, hjl, h1, i64C, hget, nodeC, h2, hw]
      refine ih (j + 1) (by omega) _ ?_ ?_ ?_ ?_
      all_goals try simp only [look_if, blkAt_if, Nat.reduceEqDiff, if_true, if_false, g1, g3, g4]
theorem zr_loop (s : Snap) (hl : s.nodes.length ≤ 2 ^ 28) (Q : Exit → St → Prop)
    (hend : ∀ fr hp nx, Own (look fr 3) hp 1 ((zonesR [] s.nodes).map i64C) 1 nx → Q (.exit 0) ⟨fr, hp, nx⟩) :
    ∀ (rest : List Node) (i : Nat) (out : List Int), s.nodes.drop i = rest → i ≤ s.nodes.length → out.length ≤ i → zonesR out rest = zonesR [] s.nodes → ∀ (fr : List (Nat × AV)) (hp : Hl) (nx : Nat), 1 ≤ nx → look fr 1 = .ptr 0 0 0 → look fr 4 = .pv (.int .i64 i) →
      blkAt hp 0 = .var [.pv (.slice (s.nodes.map nodeC)), .pv (.slice (s.loads.map loadC)), .pv (.slice (s.pods.map podC))] → Own (look fr 3) hp 1 (out.map i64C) 1 nx → Wp T false (.loop f158l1) ⟨fr, hp, nx⟩ Q := by
  intro rest
  induction rest with
  | nil =>
    intro i out hd hi hol ho fr hp nx hnx g1 g4 b0 h3
    have hlen := drop_nil hd hi
    simp only [zonesR] at ho
    rw [Wp_loop, Wp_eq f158l1.eq_1]
    simp only [runL, defL, binV, Nat.reduceEqDiff, Nat.reduceAdd, reduceCtorEq, Int.reduceToNat, Nat.reduceMul, Nat.reduceLT, Int.reduceNeg, Int.reduceLE, Int.reduceLT, Int.reduceEq, Nat.reduceLeDiff, List.drop, List.take, g1, b0, g4, hlen, Int.lt_irrefl]
    exact hend _ _ _ (by simp only [look_if, blkAt_if, Nat.reduceEqDiff, if_true, if_false]; rw [← ho]; exact h3)
  | cons n r ih =>
    intro i out hd hi hol ho fr hp nx hnx g1 g4 b0 h3
    obtain ⟨hget, hlt, hw, hd', hi', hb⟩ := drop_cons hd (by omega)
    have hle := atI_le n.zone out
    generalize hv : look fr 3 = v at h3
    rw [Wp_loop, Wp_eq f158l1.eq_1]
    simp only [runL, defL, binV, Nat.reduceEqDiff, Nat.reduceAdd, reduceCtorEq, Int.reduceToNat, Nat.reduceMul, Nat.reduceLT, Int.reduceNeg, Int.reduceLE, Int.reduceLT, Int.reduceEq, Nat.reduceLeDiff, List.drop, List.take, g1, b0, g4, hlt]
    refine zr_inner s (by omega) n i hget out (by omega) hp nx v h3 b0 _ (fun fr' q1 q3 q4 q5 => ?_) (atI n.zone out) 0 (Nat.zero_add _).symm _ ?_ ?_ ?_ ?_
    · simp only [runL, defL, binV, Nat.reduceEqDiff, Nat.reduceAdd, reduceCtorEq, Int.reduceToNat, Nat.reduceMul, Nat.reduceLT, Int.reduceNeg, Int.reduceLE, Int.reduceLT, Int.reduceEq, Nat.reduceLeDiff, List.drop, List.take]
      refine (Wp_calmS rfl).2 ?_
      have go : ∀ out', zonesR out' r = zonesR [] s.nodes → out'.length ≤ i + 1 → ∀ fr' hp' nx', 1 ≤ nx' → look fr' 1 = .ptr 0 0 0 → blkAt hp' 0 = blkAt hp 0 → look fr' 4 = .pv (.int .i64 ((i + 1 : Nat) : Int)) → Own (look fr' 3) hp' 1 (out'.map i64C) 1 nx' → Wp T false (.loop f158l1) ⟨fr', hp', nx'⟩ Q := by
        intro out' h1 h2 fr' hp' nx' z1 z2 z3 z4 z5
        exact ih (i + 1) out' hd' hi' h2 h1 _ _ _ z1 z2 z4 (z3.trans b0) z5
      have big : (out[atI n.zone out]? ≠ some n.zone) → ∀ (es : List (List PV)), srcV (blkAt hp) v = some es → True := fun _ _ _ => trivial
      simp only [zonesR] at ho
      rcases h3 with ⟨he, rfl⟩ | ⟨id, rfl, i1, i2, i3⟩
      · have hoe : out = [] := by simpa using he
        subst hoe
        have z0 : ((0 : Nat) : Int) = 0 := rfl
        have ez : atI n.zone [] = 0 := rfl
        rw [ez, z0] at q5
        have e1 : ¬ nx = 0 := by omega
        have e2 : ¬ nx + 1 = 0 := by omega
        have e3 : ¬ nx + 1 + 1 = 0 := by omega
        have p1 : (1 : Nat) ≤ 2 ^ 30 := by decide
        have p0 : (0 : Nat) ≤ 2 ^ 30 := by decide
        have ei : insU n.zone [] = [n.zone] := rfl
        simp only [runL, defL, binV, Nat.reduceEqDiff, Nat.reduceAdd, reduceCtorEq, Int.reduceToNat, Nat.reduceMul, Nat.reduceLT, Int.reduceNeg, Int.reduceLE, Int.reduceLT, Int.reduceEq, Nat.reduceLeDiff, List.drop, List.take, q1, q3, q4, q5, b0, z0, Int.lt_irrefl, bndO, subV, fillA, Option.getD_none, Option.getD_some, partsScal, srcV, chunk, allLen, List.all_cons, List.all_nil, appV, baseV, hget, nodeC, e1, e2, e3, hw, p0, p1, Nat.zero_add]
        refine go [n.zone] (by rw [← ei]; exact ho) (by simp) _ _ _ (by omega) ?_ ?_ ?_ ?_
        all_goals try simp only [look_if, blkAt_if, Nat.reduceEqDiff, if_true, if_false, q1, e1, e2, e3]
        refine .inr ⟨_, rfl, by omega, by omega, ?_⟩
        have e5 : ¬ nx = nx + 1 := by omega
        simp only [look_if, blkAt_if, Nat.reduceEqDiff, if_true, if_false, List.map_cons, List.map_nil, i64C, e5]
      · have e1 : ¬ nx = 0 := by omega
        have e2 : ¬ nx + 1 = 0 := by omega
        have e3 : ¬ nx + 1 + 1 = 0 := by omega
        have e4 : ¬ nx + 1 + 1 + 1 = 0 := by omega
        have d1 : ¬ nx = id := by omega
        have d2 : ¬ nx + 1 = id := by omega
        have d3 : ¬ nx + 1 + 1 = id := by omega
        have d4 : ¬ nx + 1 + 1 + 1 = id := by omega
        by_cases heq : out[atI n.zone out]? = some n.zone
        · have hjl : atI n.zone out < out.length := (List.getElem?_eq_some_iff.1 heq).1
          have hj : ((atI n.zone out : Nat) : Int) < (out.length : Int) := by omega
          have ei : insU n.zone out = out := by unfold insU; rw [if_pos heq]
          have dz : decide (n.zone = n.zone) = true := decide_eq_true rfl
          simp only [runL, defL, binV, Nat.reduceEqDiff, Nat.reduceAdd, reduceCtorEq, Int.reduceToNat, Nat.reduceMul, Nat.reduceLT, Int.reduceNeg, Int.reduceLE, Int.reduceLT, Int.reduceEq, Nat.reduceLeDiff, List.drop, List.take, q1, q3, q4, q5, b0, i3, hj, hjl, heq, i64C, hget, nodeC, dz, hw]
          refine go out (by rw [ei] at ho; exact ho) (by omega) _ _ _ hnx ?_ rfl ?_ ?_
          all_goals try simp only [look_if, blkAt_if, Nat.reduceEqDiff, if_true, if_false, q1, q3]
          exact .inr ⟨id, rfl, i1, i2, i3⟩
        · have ei : insU n.zone out = out.take (atI n.zone out) ++ n.zone :: out.drop (atI n.zone out) := by unfold insU; rw [if_neg heq]
          have a1 : (out.map i64C).take (atI n.zone out) = (out.take (atI n.zone out)).map i64C := (List.map_take ..).symm
          have a2 : ((out.map i64C).drop (atI n.zone out)).take (out.length - atI n.zone out) = (out.drop (atI n.zone out)).map i64C := by
            rw [List.take_of_length_le (by simp), ← List.map_drop]
          have l1 : ∀ l : List Int, allLen 1 (l.map i64C) = true := fun l => by simp [allLen, i64C]
          have l2 : allLen 1 [[PV.int .i64 n.zone]] = true := rfl
          have t1 : (out.take (atI n.zone out)).length = atI n.zone out := by rw [List.length_take]; omega
          have t2 : (out.drop (atI n.zone out)).length = out.length - atI n.zone out := List.length_drop ..
          have p0 : atI n.zone out ≤ 2 ^ 30 := by omega
          have p1 : atI n.zone out + 1 ≤ 2 ^ 30 := by omega
          have p2 : atI n.zone out + 1 + (out.length - atI n.zone out) ≤ 2 ^ 30 := by omega
          have p3 : atI n.zone out + (out.length - atI n.zone out) ≤ out.length := by omega
          have fin : ∀ (K : Prop), (¬ ((atI n.zone out : Nat) : Int) < (out.length : Int) → K) → (∀ y, ((atI n.zone out : Nat) : Int) < (out.length : Int) → atI n.zone out < out.length → out[atI n.zone out]? = some y → ¬ y = n.zone → K) → K := by
            intro K h1 h2
            rcases atI_ge n.zone out with h | ⟨y, g1, g2⟩
            · exact h1 (by omega)
            · have hjl : atI n.zone out < out.length := (List.getElem?_eq_some_iff.1 g1).1
              exact h2 y (by omega) hjl g1 (fun h => heq (by rw [g1, h]))
          have done : ∀ fr'' : List (Nat × AV), look fr'' 1 = .ptr 0 0 0 → look fr'' 4 = .pv (.int .i64 ((i + 1 : Nat) : Int)) → look fr'' 3 = .ms (nx + 4) → ∀ hp'', blkAt hp'' 0 = blkAt hp 0 → blkAt hp'' (nx + 4) = .row 1 (List.map i64C (List.take (atI n.zone out) out) ++ [[.int .i64 n.zone]] ++ List.map i64C (List.drop (atI n.zone out) out)) → Wp T false (.loop f158l1) ⟨fr'', hp'', nx + 5⟩ Q := by
            intro fr'' z1 z2 z3 hp'' z4 z5
            have z6 : blkAt hp'' (nx + 4) = .row 1 ((insU n.zone out).map i64C) := by
              rw [z5, ei, List.map_append, List.map_cons, List.append_assoc]
              rfl
            exact go (insU n.zone out) ho (by have := insU_length n.zone out; omega) _ _ _ (by omega) z1 z4 z2 (by rw [z3]; exact .inr ⟨_, rfl, by omega, by omega, z6⟩)
          have f1 : ¬ nx + 2 + 1 = 0 := by omega
          have f2 : ¬ nx + 4 = 0 := by omega
          have f3 : ¬ nx + 2 = 0 := by omega
          have f4 : ¬ nx + 2 + 1 = nx + 4 := by omega
          have f5 : ¬ nx + 2 = nx + 1 := by omega
          refine fin _ (fun hj => ?_) (fun y hj hjl hy hne => ?_)
          · simp only [runL, defL, binV, Nat.reduceEqDiff, Nat.reduceAdd, reduceCtorEq, Int.reduceToNat, Nat.reduceMul, Nat.reduceLT, Int.reduceNeg, Int.reduceLE, Int.reduceLT, Int.reduceEq, Nat.reduceLeDiff, List.drop, List.take, q1, q3, q4, q5, b0, i3, hj, bndO, subV, fillA, Option.getD_none, Option.getD_some, partsScal, srcV, chunk, appV, baseV, hget, nodeC, e1, e2, e3, e4, d1, d2, d3, d4, hw, a1, a2, l1, l2, t1, t2, p0, p1, p2, p3, hle, Nat.zero_le, Nat.sub_zero, List.length_append, i64C]
            refine done _ ?_ ?_ ?_ _ ?_ ?_
            all_goals try simp only [look_if, blkAt_if, Nat.reduceEqDiff, if_true, if_false, q1, e1, e2, f1, f2, f3, f4]
          · simp only [runL, defL, binV, Nat.reduceEqDiff, Nat.reduceAdd, reduceCtorEq, Int.reduceToNat, Nat.reduceMul, Nat.reduceLT, Int.reduceNeg, Int.reduceLE, Int.reduceLT, Int.reduceEq, Nat.reduceLeDiff, List.drop, List.take, q1, q3, q4, q5, b0, i3, hj, hjl, hy, hne, bndO, subV, fillA, Option.getD_none, Option.getD_some, partsScal, srcV, chunk, appV, baseV, hget, nodeC, e1, e2, e3, e4, d1, d2, d3, d4, hw, a1, a2, l1, l2, t1, t2, p0, p1, p2, p3, hle, Nat.zero_le, Nat.sub_zero, List.length_append, i64C]
            refine done _ ?_ ?_ ?_ _ ?_ ?_
            all_goals try simp only [look_if, blkAt_if, Nat.reduceEqDiff, if_true, if_false, q1, e1, e2, f1, f2, f3, f4]
    all_goals try simp only [look_if, blkAt_if, Nat.reduceEqDiff, if_true, if_false, g1, g4, hv]
    rfl
theorem zonesr_ok (h158 : Std T 158 f158) (s : Snap) (hl : s.nodes.length ≤ 2 ^ 28) : Gives T 158 [snapP s] (.slice ((zonesL s).map i64C)) := by
  refine gives h158 rfl ?_
  rw [← zonesR_eq]
  simp only [f158, runL, defL, binV, Nat.reduceEqDiff, Nat.reduceAdd, reduceCtorEq, Int.reduceToNat, Nat.reduceMul, Nat.reduceLT, Int.reduceNeg, Int.reduceLE, Int.reduceLT, Int.reduceEq, Nat.reduceLeDiff, List.drop, List.take, snapP]
  refine zr_loop s hl _ (fun fr hp nx h3 => ?_) s.nodes 0 [] rfl (Nat.zero_le _) (Nat.le_refl _) rfl _ _ _ (Nat.le_refl _) rfl rfl rfl Own.nil
  simp only [runL, defL, binV, Nat.reduceEqDiff, Nat.reduceAdd, reduceCtorEq, Int.reduceToNat, Nat.reduceMul, Nat.reduceLT, Int.reduceNeg, Int.reduceLE, Int.reduceLT, Int.reduceEq, Nat.reduceLeDiff, List.drop, List.take, h3.snap]
def ixWant (id : Int) : Nat → List Want → Int
  | _, [] => -1
  | i, p :: r => if p.pod = id then i else ixWant id (i + 1) r
theorem ixWant_cases (id : Int) : ∀ (l : List Want) (i : Nat), (wantOf id l = none ∧ ixWant id i l = -1) ∨ ∃ j p, l[j]? = some p ∧ wantOf id l = some p ∧ ixWant id i l = ((i + j : Nat) : Int)
  | [], i => .inl ⟨rfl, rfl⟩
  | p :: r, i => by
    by_cases hp : p.pod = id
    · exact .inr ⟨0, p, rfl, by simp [wantOf, hp], by simp [ixWant, hp]⟩
    · rcases ixWant_cases id r (i + 1) with ⟨h1, h2⟩ | ⟨j, q, h1, h2, h3⟩
      · exact .inl ⟨by simpa [wantOf, hp] using h1, by simp [ixWant, hp, h2]⟩
      · refine .inr ⟨j + 1, q, by simpa using h1, by simpa [wantOf, hp] using h2, ?_⟩
        simp only [ixWant, if_neg hp, h3]
        omega
theorem want3r_loop (x : Spec) (id : Int) (hl : x.wants.length ≤ 2 ^ 30) (Q : Exit → St → Prop) (o : Int)
    (hend : o = -1 → ∀ fr hp nx, Q (.exit 0) ⟨fr, hp, nx⟩) (hret : ∀ fr hp nx, look fr 4 = .pv (.int .i64 o) → Q .ret ⟨fr, hp, nx⟩) :
    ∀ (rest : List Want) (i : Nat), x.wants.drop i = rest → i ≤ x.wants.length → ixWant id i rest = o → ∀ (fr : List (Nat × AV)) (hp : Hl) (nx : Nat), look fr 5 = .pv (.int .i64 i) → look fr 1 = .pv (.int .i64 id) → look fr 2 = .ptr 0 0 0 →
      blkAt hp 0 = .var [.pv (.slice (x.wants.map wantC)), .pv (.int .i64 x.pre), .pv (.int .i64 x.shi)] → Wp T false (.loop f157l0) ⟨fr, hp, nx⟩ Q := by
  intro rest
  induction rest with
  | nil =>
    intro i hd hi ho fr hp nx h5 h1 h2 b0
    have hlen := drop_nil hd hi
    rw [Wp_loop, Wp_eq f157l0.eq_1]
    simp only [runL, defL, binV, Nat.reduceEqDiff, Nat.reduceAdd, reduceCtorEq, Int.reduceToNat, Nat.reduceMul, Nat.reduceLT, Int.reduceNeg, Int.reduceLE, Int.reduceLT, Int.reduceEq, Nat.reduceLeDiff, List.drop, List.take, h5, h1, h2, b0, hlen, Int.lt_irrefl]
    exact hend ho.symm _ _ _
  | cons n r ih =>
    intro i hd hi ho fr hp nx h5 h1 h2 b0
    obtain ⟨hget, hlt, hw, hd', hi', hb⟩ := drop_cons hd hl
    simp only [ixWant] at ho
    rw [Wp_loop, Wp_eq f157l0.eq_1]
    by_cases hk : n.pod = id
    · rw [if_pos hk] at ho
      simp only [runL, defL, binV, Nat.reduceEqDiff, Nat.reduceAdd, reduceCtorEq, Int.reduceToNat, Nat.reduceMul, Nat.reduceLT, Int.reduceNeg, Int.reduceLE, Int.reduceLT, Int.reduceEq, Nat.reduceLeDiff, List.drop, List.take, h5, h1, h2, b0, hlt, hget, wantC, hk]
      exact hret _ _ _ (by simp only [look_if, Nat.reduceEqDiff, if_true, if_false, ← ho])
    · rw [if_neg hk] at ho
      simp only [runL, defL, binV, Nat.reduceEqDiff, Nat.reduceAdd, reduceCtorEq, Int.reduceToNat, Nat.reduceMul, Nat.reduceLT, Int.reduceNeg, Int.reduceLE, Int.reduceLT, Int.reduceEq, Nat.reduceLeDiff, List.drop, List.take, h5, h1, h2, b0, hlt, hget, wantC, hk, hw]
      refine ih (i + 1) hd' hi' ho _ _ _ ?_ ?_ ?_ b0
      all_goals try simp only [look_if, blkAt_if, Nat.reduceEqDiff, if_true, if_false, h1, h2]
theorem want3r_ok (h157 : Std T 157 f157) (x : Spec) (id : Int) (hl : x.wants.length ≤ 2 ^ 30) : Gives T 157 [specP x, .int .i64 id] (.int .i64 (ixWant id 0 x.wants)) := by
  refine gives h157 rfl ?_
  simp only [f157, runL, defL, binV, Nat.reduceEqDiff, Nat.reduceAdd, reduceCtorEq, Int.reduceToNat, Nat.reduceMul, Nat.reduceLT, Int.reduceNeg, Int.reduceLE, Int.reduceLT, Int.reduceEq, Nat.reduceLeDiff, List.drop, List.take, specP]
  refine want3r_loop x id hl _ (ixWant id 0 x.wants) (fun ho fr hp nx => ?_) (fun fr hp nx h4 => ?_) x.wants 0 rfl (Nat.zero_le _) rfl _ _ _ rfl rfl rfl rfl
  · simp only [runL, defL, binV, Nat.reduceEqDiff, Nat.reduceAdd, reduceCtorEq, Int.reduceToNat, Nat.reduceMul, Nat.reduceLT, Int.reduceNeg, Int.reduceLE, Int.reduceLT, Int.reduceEq, Nat.reduceLeDiff, List.drop, List.take, ho]
  · simp only [runL, defL, binV, Nat.reduceEqDiff, Nat.reduceAdd, reduceCtorEq, Int.reduceToNat, Nat.reduceMul, Nat.reduceLT, Int.reduceNeg, Int.reduceLE, Int.reduceLT, Int.reduceEq, Nat.reduceLeDiff, List.drop, List.take, h4]
end
end Go.Proofs.YtlfphlobcopemaaGreatDoor.Ab
set_option linter.unusedVariables false
set_option linter.unusedSimpArgs false
namespace Go.Proofs.YtlfphlobcopemaaGreatDoor.Ab
open Go
theorem ixLoad_at (id : Int) : ∀ (l : List Load) (i : Nat), (loadOf id l = none ∧ ixLoad id i l = -1) ∨ ∃ j p, l[j]? = some p ∧ loadOf id l = some p ∧ ixLoad id i l = ((i + j : Nat) : Int)
  | [], i => .inl ⟨rfl, rfl⟩
  | p :: r, i => by
    by_cases hp : p.id = id
    · exact .inr ⟨0, p, rfl, by simp [loadOf, hp], by simp [ixLoad, hp]⟩
    · rcases ixLoad_at id r (i + 1) with ⟨h1, h2⟩ | ⟨j, q, h1, h2, h3⟩
      · exact .inl ⟨by simpa [loadOf, hp] using h1, by simp [ixLoad, hp, h2]⟩
      · refine .inr ⟨j + 1, q, by simpa using h1, by simpa [loadOf, hp] using h2, ?_⟩
        simp only [ixLoad, if_neg hp, h3]
        omega
section
variable {T : Tab}
theorem twor_ok (h180 : Std T 180 f180) (h154 : Std T 154 f154) (s : Snap) (hs : s.loads.length ≤ 2 ^ 30) (a b : Pod) : Gives T 180 [snapP s, .agg (podC a), .agg (podC b)] (.bool (twoB s.loads a b)) := by
  refine gives h180 rfl ?_
  have k := load3_ok h154 s a.load hs
  simp only [snapP] at k
  unfold twoB
  rcases ixLoad_at a.load s.loads 0 with ⟨h1, h2⟩ | ⟨j, p, h1, h2, h3⟩
  · rw [h2] at k
    simp only [f180, runL, defL, binV, Nat.reduceEqDiff, Nat.reduceAdd, reduceCtorEq, Int.reduceToNat, Nat.reduceMul, Nat.reduceLT, Int.reduceNeg, Int.reduceLE, Int.reduceLT, Int.reduceEq, Nat.reduceLeDiff, List.drop, List.take, snapP, podC, k.call, h1, Bool.and_false]
  · rw [h3, Nat.zero_add] at k
    have hj : ¬ (j : Int) < 0 := by omega
    have hjl : j < s.loads.length := (List.getElem?_eq_some_iff.1 h1).1
    by_cases c1 : a.load = b.load
    · have d1 := decide_eq_true c1
      by_cases c2 : a.node = 0
      · have d2 := decide_eq_true c2
        simp only [f180, runL, defL, binV, Nat.reduceEqDiff, Nat.reduceAdd, reduceCtorEq, Int.reduceToNat, Nat.reduceMul, Nat.reduceLT, Int.reduceNeg, Int.reduceLE, Int.reduceLT, Int.reduceEq, Nat.reduceLeDiff, List.drop, List.take, snapP, podC, k.call, h2, hj, d1, d2, Bool.and_false, Bool.false_and, decide_not]
      · by_cases c3 : a.node = b.node
        · have d3 := decide_eq_true c3
          simp only [f180, runL, defL, binV, Nat.reduceEqDiff, Nat.reduceAdd, reduceCtorEq, Int.reduceToNat, Nat.reduceMul, Nat.reduceLT, Int.reduceNeg, Int.reduceLE, Int.reduceLT, Int.reduceEq, Nat.reduceLeDiff, List.drop, List.take, snapP, podC, k.call, h1, h2, hj, d1, c2, d3, loadC, Bool.true_and]
        · simp only [f180, runL, defL, binV, Nat.reduceEqDiff, Nat.reduceAdd, reduceCtorEq, Int.reduceToNat, Nat.reduceMul, Nat.reduceLT, Int.reduceNeg, Int.reduceLE, Int.reduceLT, Int.reduceEq, Nat.reduceLeDiff, List.drop, List.take, snapP, podC, k.call, h2, hj, d1, c2, c3, Bool.and_false, Bool.false_and]
    · simp only [f180, runL, defL, binV, Nat.reduceEqDiff, Nat.reduceAdd, reduceCtorEq, Int.reduceToNat, Nat.reduceMul, Nat.reduceLT, Int.reduceNeg, Int.reduceLE, Int.reduceLT, Int.reduceEq, Nat.reduceLeDiff, List.drop, List.take, snapP, podC, k.call, h2, hj, c1, Bool.and_false, Bool.false_and]
theorem mayr_ok (h175 : Std T 175 f175) (h167 : Std T 167 f167) (t : State) (a b : Int) (hl : t.pods.length ≤ 2 ^ 29) : Gives T 175 [stateP t, .int .i64 a, .int .i64 b] (.bool (mayB t a b)) := by
  have k1 := place_ok h167 t a (by omega)
  have k2 := place_ok h167 t b (by omega)
  simp only [stateP] at k1 k2
  refine gives h175 rfl ?_
  unfold mayB
  rcases placeFrom_cases a t.pods 0 with ⟨h1, h2⟩ | ⟨j, p, h1, h2, h3, h4⟩
  · rw [h2] at k1
    rcases placeFrom_cases b t.pods 0 with ⟨g1, g2⟩ | ⟨i, q, g1, g2, g3, g4⟩
    · rw [g2] at k2
      simp only [f175, runL, defL, binV, Nat.reduceEqDiff, Nat.reduceAdd, reduceCtorEq, Int.reduceToNat, Nat.reduceMul, Nat.reduceLT, Int.reduceNeg, Int.reduceLE, Int.reduceLT, Int.reduceEq, Nat.reduceLeDiff, List.drop, List.take, stateP, k1.call, k2.call, h1]
    · rw [g3, Nat.zero_add] at k2
      simp only [f175, runL, defL, binV, Nat.reduceEqDiff, Nat.reduceAdd, reduceCtorEq, Int.reduceToNat, Nat.reduceMul, Nat.reduceLT, Int.reduceNeg, Int.reduceLE, Int.reduceLT, Int.reduceEq, Nat.reduceLeDiff, List.drop, List.take, stateP, k1.call, k2.call, h1]
  · rw [h3, Nat.zero_add] at k1
    have hj : ¬ (j : Int) < 0 := by omega
    rcases placeFrom_cases b t.pods 0 with ⟨g1, g2⟩ | ⟨i, q, g1, g2, g3, g4⟩
    · rw [g2] at k2
      simp only [f175, runL, defL, binV, Nat.reduceEqDiff, Nat.reduceAdd, reduceCtorEq, Int.reduceToNat, Nat.reduceMul, Nat.reduceLT, Int.reduceNeg, Int.reduceLE, Int.reduceLT, Int.reduceEq, Nat.reduceLeDiff, List.drop, List.take, stateP, k1.call, k2.call, h2, g1, hj]
    · rw [g3, Nat.zero_add] at k2
      have hi : ¬ (i : Int) < 0 := by omega
      simp only [f175, runL, defL, binV, Nat.reduceEqDiff, Nat.reduceAdd, reduceCtorEq, Int.reduceToNat, Nat.reduceMul, Nat.reduceLT, Int.reduceNeg, Int.reduceLE, Int.reduceLT, Int.reduceEq, Nat.reduceLeDiff, List.drop, List.take, stateP, k1.call, k2.call, h2, g2, hj, hi]
      refine (Wp_calm rfl).2 ?_
      simp only [runL, defL, binV, Nat.reduceEqDiff, Nat.reduceAdd, reduceCtorEq, Int.reduceToNat, Nat.reduceMul, Nat.reduceLT, Int.reduceNeg, Int.reduceLE, Int.reduceLT, Int.reduceEq, Nat.reduceLeDiff, List.drop, List.take, h1, g1, podC]
theorem countr_loop (h155 : Std T 155 f155) (s : Snap) (t : State) (load zone : Int) (hn : s.nodes.length ≤ 2 ^ 29) (hl : t.pods.length ≤ 2 ^ 29) (Q : Exit → St → Prop)
    (hend : ∀ fr hp nx, look fr 9 = .pv (.int .i64 (cntZ s load zone t.pods : Nat)) → Q (.exit 0) ⟨fr, hp, nx⟩) :
    ∀ (rest : List Pod) (i acc : Nat), t.pods.drop i = rest → i ≤ t.pods.length → acc + cntZ s load zone rest = cntZ s load zone t.pods → ∀ (fr : List (Nat × AV)) (hp : Hl) (nx : Nat), 2 ≤ nx → look fr 2 = .pv (.int .i64 load) → look fr 3 = .pv (.int .i64 zone) → look fr 4 = .ptr 0 0 0 → look fr 5 = .ptr 1 0 0 →
      blkAt hp 0 = .var [.pv (.slice (s.nodes.map nodeC)), .pv (.slice (s.loads.map loadC)), .pv (.slice (s.pods.map podC))] → blkAt hp 1 = .var [.pv (.slice (t.pods.map podC)), .pv (.int .i64 t.pre), .pv (.int .i64 t.shi)] →
      look fr 9 = .pv (.int .i64 (acc : Int)) → look fr 10 = .pv (.int .i64 i) → Wp T false (.loop f174l0) ⟨fr, hp, nx⟩ Q := by
  intro rest
  induction rest with
  | nil =>
    intro i acc hd hi ho fr hp nx hnx g2 g3 g4 g5 b0 b1 g9 g10
    have hlen := drop_nil hd hi
    simp only [cntZ, Nat.add_zero] at ho
    subst ho
    rw [Wp_loop, Wp_eq f174l0.eq_1]
    simp only [runL, defL, binV, Nat.reduceEqDiff, Nat.reduceAdd, reduceCtorEq, Int.reduceToNat, Nat.reduceMul, Nat.reduceLT, Int.reduceNeg, Int.reduceLE, Int.reduceLT, Int.reduceEq, Nat.reduceLeDiff, List.drop, List.take, g4, g5, b0, b1, g10, hlen, Int.lt_irrefl]
    exact hend _ _ _ (by simp only [look_if, blkAt_if, Nat.reduceEqDiff, if_true, if_false]; exact g9)
  | cons p r ih =>
    intro i acc hd hi ho fr hp nx hnx g2 g3 g4 g5 b0 b1 g9 g10
    obtain ⟨hget, hlt, hw, hd', hi', hb⟩ := drop_cons hd (by omega)
    have n0 : ¬ nx = 0 := by omega
    have n1 : ¬ nx = 1 := by omega
    have hacc : acc + 1 ≤ 2 ^ 30 := by
      have h1 := cntZ_le s load zone t.pods
      have h2 := cntZ_le s load zone (p :: r)
      omega
    have k := node3_ok h155 s p.node (by omega)
    simp only [snapP] at k
    have skip : inZ s load zone p = false → ∀ fr' hp' nx', 2 ≤ nx' → look fr' 2 = look fr 2 → look fr' 3 = look fr 3 → look fr' 4 = look fr 4 → look fr' 5 = look fr 5 → blkAt hp' 0 = blkAt hp 0 → blkAt hp' 1 = blkAt hp 1 → look fr' 9 = look fr 9 → look fr' 10 = .pv (.int .i64 ((i + 1 : Nat) : Int)) → Wp T false (.loop f174l0) ⟨fr', hp', nx'⟩ Q := by
      intro h fr' hp' nx' q1 q2 q3 q4 q5 q6 q7 q8 q9
      exact ih (i + 1) acc hd' hi' (by rw [← ho, cntZ, h]; simp) _ _ _ q1 (q2.trans g2) (q3.trans g3) (q4.trans g4) (q5.trans g5) (q6.trans b0) (q7.trans b1) (q8.trans g9) q9
    rw [Wp_loop, Wp_eq f174l0.eq_1]
    by_cases c1 : p.load = load
    · have d1 := decide_eq_true c1
      by_cases c2 : p.node = 0
      · have d2 := decide_eq_true c2
        have hz : inZ s load zone p = false := by simp [inZ, c2]
        simp only [runL, defL, binV, Nat.reduceEqDiff, Nat.reduceAdd, reduceCtorEq, Int.reduceToNat, Nat.reduceMul, Nat.reduceLT, Int.reduceNeg, Int.reduceLE, Int.reduceLT, Int.reduceEq, Nat.reduceLeDiff, List.drop, List.take, g2, g3, g4, g5, b0, b1, g9, g10, hlt, hget, podC, n0, n1, k.call, d1, d2, hw]
        refine skip hz _ _ _ (by omega) ?_ ?_ ?_ ?_ ?_ ?_ ?_ ?_
        all_goals try simp only [look_if, blkAt_if, Nat.reduceEqDiff, if_true, if_false, n0, n1]
      · rcases ixNode_cases p.node s.nodes 0 with ⟨e1, e2⟩ | ⟨j, x, e1, e2, e3⟩
        · have hz : inZ s load zone p = false := by simp [inZ, zoneIs, e1]
          rw [e2] at k
          simp only [runL, defL, binV, Nat.reduceEqDiff, Nat.reduceAdd, reduceCtorEq, Int.reduceToNat, Nat.reduceMul, Nat.reduceLT, Int.reduceNeg, Int.reduceLE, Int.reduceLT, Int.reduceEq, Nat.reduceLeDiff, List.drop, List.take, g2, g3, g4, g5, b0, b1, g9, g10, hlt, hget, podC, n0, n1, k.call, d1, c2, hw]
          refine skip hz _ _ _ (by omega) ?_ ?_ ?_ ?_ ?_ ?_ ?_ ?_
          all_goals try simp only [look_if, blkAt_if, Nat.reduceEqDiff, if_true, if_false, n0, n1]
        · rw [e3, Nat.zero_add] at k
          have hj : ¬ (j : Int) < 0 := by omega
          by_cases c3 : x.zone = zone
          · have d3 := decide_eq_true c3
            have hz : inZ s load zone p = true := by simp [inZ, zoneIs, e2, c1, c2, c3]
            have hw2 : IntKind.i64.wrap ((acc : Int) + 1) = ((acc + 1 : Nat) : Int) := by rw [wrap6] <;> omega
            simp only [runL, defL, binV, Nat.reduceEqDiff, Nat.reduceAdd, reduceCtorEq, Int.reduceToNat, Nat.reduceMul, Nat.reduceLT, Int.reduceNeg, Int.reduceLE, Int.reduceLT, Int.reduceEq, Nat.reduceLeDiff, List.drop, List.take, g2, g3, g4, g5, b0, b1, g9, g10, hlt, hget, podC, n0, n1, k.call, d1, c2, hj, e1, nodeC, d3, hw, hw2]
            refine ih (i + 1) (acc + 1) hd' hi' (by rw [← ho, cntZ, hz]; simp; omega) _ _ _ (by omega) ?_ ?_ ?_ ?_ ?_ ?_ ?_ ?_
            all_goals try simp only [look_if, blkAt_if, Nat.reduceEqDiff, if_true, if_false, n0, n1, g2, g3, g4, g5, b0, b1]
          · have hz : inZ s load zone p = false := by simp [inZ, zoneIs, e2, c3]
            simp only [runL, defL, binV, Nat.reduceEqDiff, Nat.reduceAdd, reduceCtorEq, Int.reduceToNat, Nat.reduceMul, Nat.reduceLT, Int.reduceNeg, Int.reduceLE, Int.reduceLT, Int.reduceEq, Nat.reduceLeDiff, List.drop, List.take, g2, g3, g4, g5, b0, b1, g9, g10, hlt, hget, podC, n0, n1, k.call, d1, c2, hj, e1, nodeC, c3, hw]
            refine skip hz _ _ _ (by omega) ?_ ?_ ?_ ?_ ?_ ?_ ?_ ?_
            all_goals try simp only [look_if, blkAt_if, Nat.reduceEqDiff, if_true, if_false, n0, n1]
    · have hz : inZ s load zone p = false := by simp [inZ, c1]
      simp only [runL, defL, binV, Nat.reduceEqDiff, Nat.reduceAdd, reduceCtorEq, Int.reduceToNat, Nat.reduceMul, Nat.reduceLT, Int.reduceNeg, Int.reduceLE, Int.reduceLT, Int.reduceEq, Nat.reduceLeDiff, List.drop, List.take, g2, g3, g4, g5, b0, b1, g9, g10, hlt, hget, podC, n0, n1, k.call, c1, hw]
      refine skip hz _ _ _ (by omega) ?_ ?_ ?_ ?_ ?_ ?_ ?_ ?_
      all_goals try simp only [look_if, blkAt_if, Nat.reduceEqDiff, if_true, if_false, n0, n1]
theorem countz_ok (h174 : Std T 174 f174) (h155 : Std T 155 f155) (s : Snap) (t : State) (load zone : Int) (hn : s.nodes.length ≤ 2 ^ 29) (hl : t.pods.length ≤ 2 ^ 29) : Gives T 174 [snapP s, stateP t, .int .i64 load, .int .i64 zone] (.int .i64 (cntZ s load zone t.pods : Nat)) := by
  refine gives h174 rfl ?_
  simp only [f174, runL, defL, binV, Nat.reduceEqDiff, Nat.reduceAdd, reduceCtorEq, Int.reduceToNat, Nat.reduceMul, Nat.reduceLT, Int.reduceNeg, Int.reduceLE, Int.reduceLT, Int.reduceEq, Nat.reduceLeDiff, List.drop, List.take, snapP, stateP]
  refine countr_loop h155 s t load zone hn hl _ (fun fr hp nx g9 => ?_) t.pods 0 0 rfl (Nat.zero_le _) (Nat.zero_add _) _ _ _ (Nat.le_refl _) rfl rfl rfl rfl rfl rfl rfl rfl
  simp only [runL, defL, binV, Nat.reduceEqDiff, Nat.reduceAdd, reduceCtorEq, Int.reduceToNat, Nat.reduceMul, Nat.reduceLT, Int.reduceNeg, Int.reduceLE, Int.reduceLT, Int.reduceEq, Nat.reduceLeDiff, List.drop, List.take, g9]
end
end Go.Proofs.YtlfphlobcopemaaGreatDoor.Ab
set_option linter.unusedVariables false
set_option linter.unusedSimpArgs false
namespace Go.Proofs.YtlfphlobcopemaaGreatDoor.Ab
open Go
def atO : Option (Int × Int) → Int
  | none => -1
  | some (_, i) => i
section
variable {T : Tab}
set_option maxHeartbeats 4000000 in
theorem apartr_in (h180 : Std T 180 f180) (h154 : Std T 154 f154) (s : Snap) (t : State) (hs : s.loads.length ≤ 2 ^ 29) (ht : t.pods.length ≤ 2 ^ 29) (i : Nat) (p : Pod) (hpi : t.pods[i]? = some p) (hp : Hl) (nx : Nat)
    (b0 : blkAt hp 0 = .var [.pv (.slice (s.nodes.map nodeC)), .pv (.slice (s.loads.map loadC)), .pv (.slice (s.pods.map podC))]) (b1 : blkAt hp 1 = .var [.pv (.slice (t.pods.map podC)), .pv (.int .i64 t.pre), .pv (.int .i64 t.shi)])
    (Q : Exit → St → Prop) (b : Bool)
    (hend : b = false → ∀ fr, look fr 2 = .ptr 0 0 0 → look fr 3 = .ptr 1 0 0 → look fr 5 = .pv (.int .i64 i) → Q (.exit 2) ⟨fr, hp, nx⟩)
    (hret : b = true → ∀ fr, look fr 4 = .pv (.int .i64 i) → Q .ret ⟨fr, hp, nx⟩) :
    ∀ (rest : List Pod) (k : Nat), (t.pods.take i).drop k = rest → k ≤ (t.pods.take i).length → rest.any (fun q => twoB s.loads p q) = b → ∀ (fr : List (Nat × AV)),
      look fr 2 = .ptr 0 0 0 → look fr 3 = .ptr 1 0 0 → look fr 5 = .pv (.int .i64 i) → look fr 6 = .pv (.int .i64 k) → Wp T false (.loop f172l0) ⟨fr, hp, nx⟩ Q := by
  have hil : i < t.pods.length := (List.getElem?_eq_some_iff.1 hpi).1
  have htl : (t.pods.take i).length = i := by rw [List.length_take]; omega
  intro rest
  induction rest with
  | nil =>
    intro k hd hk hb fr h2 h3 h5 h6
    have hlen := drop_nil hd hk
    rw [htl] at hlen
    subst hlen
    rw [Wp_loop, Wp_eq f172l0.eq_1]
    simp only [runL, defL, binV, Nat.reduceEqDiff, Nat.reduceAdd, reduceCtorEq, Int.reduceToNat, Nat.reduceMul, Nat.reduceLT, Int.reduceNeg, Int.reduceLE, Int.reduceLT, Int.reduceEq, Nat.reduceLeDiff, List.drop, List.take, h2, h3, h5, h6, Int.lt_irrefl]
    refine hend (by rw [← hb]; rfl) _ ?_ ?_ ?_
    all_goals try simp only [look_if, blkAt_if, Nat.reduceEqDiff, if_true, if_false, h2, h3, h5]
  | cons q r ih =>
    intro k hd hk hb fr h2 h3 h5 h6
    obtain ⟨hget, hlt, hw, hd', hk', hbb⟩ := drop_cons hd (by omega)
    rw [htl] at hlt
    have hki : k < i := by omega
    have hgq : t.pods[k]? = some q := by
      rw [List.getElem?_take] at hget
      rw [if_pos hki] at hget
      exact hget
    have kt := twor_ok h180 h154 s (by omega) p q
    simp only [snapP] at kt
    rw [Wp_loop, Wp_eq f172l0.eq_1]
    simp only [runL, defL, binV, Nat.reduceEqDiff, Nat.reduceAdd, reduceCtorEq, Int.reduceToNat, Nat.reduceMul, Nat.reduceLT, Int.reduceNeg, Int.reduceLE, Int.reduceLT, Int.reduceEq, Nat.reduceLeDiff, List.drop, List.take, h2, h3, h5, h6, hlt]
    refine (Wp_calm rfl).2 ?_
    cases h : twoB s.loads p q with
    | false =>
      rw [h] at kt
      simp only [podC] at kt
      simp only [runL, defL, binV, Nat.reduceEqDiff, Nat.reduceAdd, reduceCtorEq, Int.reduceToNat, Nat.reduceMul, Nat.reduceLT, Int.reduceNeg, Int.reduceLE, Int.reduceLT, Int.reduceEq, Nat.reduceLeDiff, List.drop, List.take, h2, h3, h5, h6, b0, b1, hpi, hgq, podC, kt.callD, hw]
      refine ih (k + 1) hd' hk' (by rw [← hb]; simp [h]) _ ?_ ?_ ?_ ?_
      all_goals try simp only [look_if, blkAt_if, Nat.reduceEqDiff, if_true, if_false, h2, h3, h5]
    | true =>
      rw [h] at kt
      simp only [podC] at kt
      simp only [runL, defL, binV, Nat.reduceEqDiff, Nat.reduceAdd, reduceCtorEq, Int.reduceToNat, Nat.reduceMul, Nat.reduceLT, Int.reduceNeg, Int.reduceLE, Int.reduceLT, Int.reduceEq, Nat.reduceLeDiff, List.drop, List.take, h2, h3, h5, h6, b0, b1, hpi, hgq, podC, kt.callD]
      refine hret (by rw [← hb]; simp [h]) _ ?_
      all_goals try simp only [look_if, blkAt_if, Nat.reduceEqDiff, if_true, if_false, h5]
set_option maxHeartbeats 4000000 in
theorem apartr_out (h180 : Std T 180 f180) (h154 : Std T 154 f154) (s : Snap) (t : State) (hs : s.loads.length ≤ 2 ^ 29) (ht : t.pods.length ≤ 2 ^ 29) (hp : Hl) (nx : Nat)
    (b0 : blkAt hp 0 = .var [.pv (.slice (s.nodes.map nodeC)), .pv (.slice (s.loads.map loadC)), .pv (.slice (s.pods.map podC))]) (b1 : blkAt hp 1 = .var [.pv (.slice (t.pods.map podC)), .pv (.int .i64 t.pre), .pv (.int .i64 t.shi)])
    (Q : Exit → St → Prop) (o : Option (Int × Int))
    (hend : o = none → ∀ fr, Q (.exit 0) ⟨fr, hp, nx⟩) (hret : ∀ c a, o = some (c, a) → ∀ fr, look fr 4 = .pv (.int .i64 a) → Q .ret ⟨fr, hp, nx⟩) :
    ∀ (rest : List Pod) (i : Nat), t.pods.drop i = rest → i ≤ t.pods.length → apartFrom s.loads (t.pods.take i) rest = o → ∀ (fr : List (Nat × AV)),
      look fr 2 = .ptr 0 0 0 → look fr 3 = .ptr 1 0 0 → look fr 5 = .pv (.int .i64 i) → Wp T false (.loop f172l1) ⟨fr, hp, nx⟩ Q := by
  intro rest
  induction rest with
  | nil =>
    intro i hd hi ho fr h2 h3 h5
    have hlen := drop_nil hd hi
    rw [Wp_loop, Wp_eq f172l1.eq_1]
    simp only [runL, defL, binV, Nat.reduceEqDiff, Nat.reduceAdd, reduceCtorEq, Int.reduceToNat, Nat.reduceMul, Nat.reduceLT, Int.reduceNeg, Int.reduceLE, Int.reduceLT, Int.reduceEq, Nat.reduceLeDiff, List.drop, List.take, h2, h3, h5, b1, hlen, Int.lt_irrefl]
    exact hend ho.symm _
  | cons p r ih =>
    intro i hd hi ho fr h2 h3 h5
    obtain ⟨hget, hlt, hw, hd', hi', hbb⟩ := drop_cons hd (by omega)
    have htl : (t.pods.take i).length = i := by rw [List.length_take]; omega
    have htk : t.pods.take (i + 1) = t.pods.take i ++ [p] := by
      have hil : i < t.pods.length := by omega
      rw [List.take_add_one, hget]
      rfl
    simp only [apartFrom] at ho
    rw [Wp_loop, Wp_eq f172l1.eq_1]
    simp only [runL, defL, binV, Nat.reduceEqDiff, Nat.reduceAdd, reduceCtorEq, Int.reduceToNat, Nat.reduceMul, Nat.reduceLT, Int.reduceNeg, Int.reduceLE, Int.reduceLT, Int.reduceEq, Nat.reduceLeDiff, List.drop, List.take, h2, h3, h5, b1, hlt]
    refine apartr_in h180 h154 s t hs ht i p hget hp nx b0 b1 _ _ (fun hb fr g2 g3 g5 => ?_) (fun hb fr g4 => ?_) (t.pods.take i) 0 rfl (Nat.zero_le _) rfl _ ?_ ?_ ?_ ?_
    · rw [if_neg (by rw [hb]; simp)] at ho
      simp only [runL, defL, binV, Nat.reduceEqDiff, Nat.reduceAdd, reduceCtorEq, Int.reduceToNat, Nat.reduceMul, Nat.reduceLT, Int.reduceNeg, Int.reduceLE, Int.reduceLT, Int.reduceEq, Nat.reduceLeDiff, List.drop, List.take, g5, hw]
      refine ih (i + 1) hd' hi' (by rw [htk]; exact ho) _ ?_ ?_ ?_
      all_goals try simp only [look_if, blkAt_if, Nat.reduceEqDiff, if_true, if_false, g2, g3]
    · rw [if_pos hb, htl] at ho
      simp only [runL, defL, binV, Nat.reduceEqDiff, Nat.reduceAdd, reduceCtorEq, Int.reduceToNat, Nat.reduceMul, Nat.reduceLT, Int.reduceNeg, Int.reduceLE, Int.reduceLT, Int.reduceEq, Nat.reduceLeDiff, List.drop, List.take]
      exact hret 10 i ho.symm _ g4
    all_goals try simp only [look_if, blkAt_if, Nat.reduceEqDiff, if_true, if_false, h2, h3, h5]
    rfl
theorem apartr_ok (h172 : Std T 172 f172) (h180 : Std T 180 f180) (h154 : Std T 154 f154) (s : Snap) (t : State) (hs : s.loads.length ≤ 2 ^ 29) (ht : t.pods.length ≤ 2 ^ 29) : Gives T 172 [snapP s, stateP t] (.int .i64 (atO (apartFrom s.loads [] t.pods))) := by
  refine gives h172 rfl ?_
  simp only [f172, runL, defL, binV, Nat.reduceEqDiff, Nat.reduceAdd, reduceCtorEq, Int.reduceToNat, Nat.reduceMul, Nat.reduceLT, Int.reduceNeg, Int.reduceLE, Int.reduceLT, Int.reduceEq, Nat.reduceLeDiff, List.drop, List.take, snapP, stateP]
  refine apartr_out h180 h154 s t hs ht _ _ rfl rfl _ (apartFrom s.loads [] t.pods) (fun ho fr => ?_) (fun c a ho fr h4 => ?_) t.pods 0 rfl (Nat.zero_le _) rfl _ rfl rfl rfl
  · simp only [runL, defL, binV, Nat.reduceEqDiff, Nat.reduceAdd, reduceCtorEq, Int.reduceToNat, Nat.reduceMul, Nat.reduceLT, Int.reduceNeg, Int.reduceLE, Int.reduceLT, Int.reduceEq, Nat.reduceLeDiff, List.drop, List.take, ho, atO]
  · simp only [runL, defL, binV, Nat.reduceEqDiff, Nat.reduceAdd, reduceCtorEq, Int.reduceToNat, Nat.reduceMul, Nat.reduceLT, Int.reduceNeg, Int.reduceLE, Int.reduceLT, Int.reduceEq, Nat.reduceLeDiff, List.drop, List.take, ho, atO, h4]
/-! ### Skew -/
def best1 (c : List Int) (a : Int) (b : Int) : Int := c.foldl (fun b k => max b (a - k)) b
def best2 (c : List Int) : Int := c.foldl (fun b a => best1 c a b) 0
theorem best1_le (a M : Int) : ∀ (c : List Int) (b : Int), (best1 c a b ≤ M) ↔ (b ≤ M ∧ ∀ k ∈ c, a - k ≤ M)
  | [], b => by simp [best1]
  | k :: r, b => by
    have ih := best1_le a M r (max b (a - k))
    simp only [best1, List.foldl_cons] at ih ⊢
    rw [ih]
    simp only [List.mem_cons, forall_eq_or_imp]
    constructor
    · rintro ⟨h1, h2⟩
      exact ⟨by omega, by omega, h2⟩
    · rintro ⟨h1, h2, h3⟩
      exact ⟨by omega, h3⟩
theorem best2_le (M : Int) (c : List Int) : ∀ (d : List Int) (b : Int), (d.foldl (fun b a => best1 c a b) b ≤ M) ↔ (b ≤ M ∧ ∀ a ∈ d, ∀ k ∈ c, a - k ≤ M)
  | [], b => by simp
  | a :: r, b => by
    have ih := best2_le M c r (best1 c a b)
    simp only [List.foldl_cons, List.mem_cons, forall_eq_or_imp]
    rw [ih, best1_le]
    constructor
    · rintro ⟨⟨h1, h2⟩, h3⟩
      exact ⟨h1, h2, h3⟩
    · rintro ⟨h1, h2, h3⟩
      exact ⟨⟨h1, h2⟩, h3⟩
theorem foldl_max_mem : ∀ (l : List Int) (a : Int), l.foldl max a = a ∨ l.foldl max a ∈ l
  | [], a => .inl rfl
  | x :: r, a => by
    rcases foldl_max_mem r (max a x) with h | h
    · rw [List.foldl_cons, h]
      rcases Int.le_total a x with h1 | h1
      · exact .inr (by rw [show max a x = x by omega]; exact List.mem_cons_self ..)
      · exact .inl (by omega)
    · exact .inr (List.mem_cons_of_mem _ h)
theorem foldl_min_mem : ∀ (l : List Int) (a : Int), l.foldl min a = a ∨ l.foldl min a ∈ l
  | [], a => .inl rfl
  | x :: r, a => by
    rcases foldl_min_mem r (min a x) with h | h
    · rw [List.foldl_cons, h]
      rcases Int.le_total a x with h1 | h1
      · exact .inl (by omega)
      · exact .inr (by rw [show min a x = x by omega]; exact List.mem_cons_self ..)
    · exact .inr (List.mem_cons_of_mem _ h)
theorem foldl_max_ge : ∀ (l : List Int) (a : Int), a ≤ l.foldl max a ∧ ∀ x ∈ l, x ≤ l.foldl max a
  | [], a => ⟨Int.le_refl _, fun x h => by simp at h⟩
  | y :: r, a => by
    obtain ⟨h1, h2⟩ := foldl_max_ge r (max a y)
    rw [List.foldl_cons]
    refine ⟨by omega, fun x hx => ?_⟩
    rcases List.mem_cons.1 hx with rfl | hx
    · omega
    · exact h2 x hx
theorem foldl_min_ge : ∀ (l : List Int) (a : Int), l.foldl min a ≤ a ∧ ∀ x ∈ l, l.foldl min a ≤ x
  | [], a => ⟨Int.le_refl _, fun x h => by simp at h⟩
  | y :: r, a => by
    obtain ⟨h1, h2⟩ := foldl_min_ge r (min a y)
    rw [List.foldl_cons]
    refine ⟨by omega, fun x hx => ?_⟩
    rcases List.mem_cons.1 hx with rfl | hx
    · omega
    · exact h2 x hx
theorem best2_skew (c : List Int) : best2 c = skewOf c := by
  cases c with
  | nil => rfl
  | cons n r =>
    have e1 : mostL (n :: r) = (n :: r).foldl max n := rfl
    have e2 : leastL (n :: r) = (n :: r).foldl min n := rfl
    have a1 := foldl_max_ge (n :: r) n
    have a2 := foldl_min_ge (n :: r) n
    have m1 : mostL (n :: r) ∈ n :: r := by
      rw [e1]
      rcases foldl_max_mem (n :: r) n with h | h
      · rw [h]; exact List.mem_cons_self ..
      · exact h
    have m2 : leastL (n :: r) ∈ n :: r := by
      rw [e2]
      rcases foldl_min_mem (n :: r) n with h | h
      · rw [h]; exact List.mem_cons_self ..
      · exact h
    rw [← e1] at a1
    rw [← e2] at a2
    show best2 (n :: r) = mostL (n :: r) - leastL (n :: r)
    apply Int.le_antisymm
    · refine (best2_le _ _ _ _).2 ⟨by have := a1.1; have := a2.1; omega, fun a ha k hk => ?_⟩
      have := a1.2 a ha
      have := a2.2 k hk
      omega
    · exact ((best2_le (best2 (n :: r)) (n :: r) (n :: r) 0).1 (Int.le_refl _)).2 _ m1 _ m2
end
end Go.Proofs.YtlfphlobcopemaaGreatDoor.Ab
set_option linter.unusedVariables false
set_option linter.unusedSimpArgs false
namespace Go.Proofs.YtlfphlobcopemaaGreatDoor.Ab
open Go
structure Std13 (T : Tab) : Prop where
  h158 : Std T 158 f158
  h155 : Std T 155 f155
  h174 : Std T 174 f174
  h177 : Std T 177 f177
section
variable {T : Tab}
set_option maxHeartbeats 4000000 in
theorem skewr_in (S : Std13 T) (s : Snap) (t : State) (load : Int) (hn : s.nodes.length ≤ 2 ^ 28) (ht : t.pods.length ≤ 2 ^ 29) (i : Nat) (z : Int) (hzi : (zonesL s)[i]? = some z) (hp : Hl) (nx : Nat)
    (b0 : blkAt hp 0 = .var [.pv (.slice (s.nodes.map nodeC)), .pv (.slice (s.loads.map loadC)), .pv (.slice (s.pods.map podC))]) (b1 : blkAt hp 1 = .var [.pv (.slice (t.pods.map podC)), .pv (.int .i64 t.pre), .pv (.int .i64 t.shi)])
    (Q : Exit → St → Prop) (o : Int)
    (hend : ∀ fr, look fr 2 = .pv (.int .i64 load) → look fr 3 = .ptr 0 0 0 → look fr 4 = .ptr 1 0 0 → look fr 7 = .pv (.slice ((zonesL s).map i64C)) → look fr 8 = .pv (.int .i64 o) → look fr 9 = .pv (.int .i64 i) → Q (.exit 2) ⟨fr, hp, nx⟩) :
    ∀ (rest : List Int) (k : Nat) (acc : Int), (zonesL s).drop k = rest → k ≤ (zonesL s).length → best1 (rest.map fun y => ((cntZ s load y t.pods : Nat) : Int)) ((cntZ s load z t.pods : Nat) : Int) acc = o → ∀ (fr : List (Nat × AV)),
      look fr 2 = .pv (.int .i64 load) → look fr 3 = .ptr 0 0 0 → look fr 4 = .ptr 1 0 0 → look fr 7 = .pv (.slice ((zonesL s).map i64C)) → look fr 8 = .pv (.int .i64 acc) → look fr 9 = .pv (.int .i64 i) → look fr 10 = .pv (.int .i64 k) → Wp T false (.loop f177l0) ⟨fr, hp, nx⟩ Q := by
  have hzl : (zonesL s).length ≤ 2 ^ 28 := by
    have := risesL_le (s.nodes.map Node.zone)
    rw [List.length_map] at this
    exact Nat.le_trans this hn
  have k1 := countz_ok S.h174 S.h155 s t load z (by omega) ht
  simp only [snapP, stateP] at k1
  intro rest
  induction rest with
  | nil =>
    intro k acc hd hk ho fr h2 h3 h4 h7 h8 h9 h10
    have hlen := drop_nil hd hk
    rw [Wp_loop, Wp_eq f177l0.eq_1]
    simp only [runL, defL, binV, Nat.reduceEqDiff, Nat.reduceAdd, reduceCtorEq, Int.reduceToNat, Nat.reduceMul, Nat.reduceLT, Int.reduceNeg, Int.reduceLE, Int.reduceLT, Int.reduceEq, Nat.reduceLeDiff, List.drop, List.take, h2, h3, h4, h7, h8, h9, h10, hlen, Int.lt_irrefl]
    refine hend _ ?_ ?_ ?_ ?_ ?_ ?_
    all_goals try simp only [look_if, blkAt_if, Nat.reduceEqDiff, if_true, if_false, h2, h3, h4, h7, h9]
    rw [h8, ← ho]
    rfl
  | cons y r ih =>
    intro k acc hd hk ho fr h2 h3 h4 h7 h8 h9 h10
    obtain ⟨hget, hlt, hw, hd', hk', hbb⟩ := drop_cons hd (by omega)
    have k2 := countz_ok S.h174 S.h155 s t load y (by omega) ht
    simp only [snapP, stateP] at k2
    have ha := cntZ_le s load z t.pods
    have hb := cntZ_le s load y t.pods
    have hwd : IntKind.i64.wrap (((cntZ s load z t.pods : Nat) : Int) - ((cntZ s load y t.pods : Nat) : Int)) = ((cntZ s load z t.pods : Nat) : Int) - ((cntZ s load y t.pods : Nat) : Int) := by rw [wrap6] <;> omega
    simp only [List.map_cons, best1, List.foldl_cons] at ho
    rw [Wp_loop, Wp_eq f177l0.eq_1]
    simp only [runL, defL, binV, Nat.reduceEqDiff, Nat.reduceAdd, reduceCtorEq, Int.reduceToNat, Nat.reduceMul, Nat.reduceLT, Int.reduceNeg, Int.reduceLE, Int.reduceLT, Int.reduceEq, Nat.reduceLeDiff, List.drop, List.take, h2, h3, h4, h7, h8, h9, h10, hlt]
    refine (Wp_calm rfl).2 ?_
    by_cases c1 : acc < ((cntZ s load z t.pods : Nat) : Int) - ((cntZ s load y t.pods : Nat) : Int)
    · rw [show max acc (((cntZ s load z t.pods : Nat) : Int) - ((cntZ s load y t.pods : Nat) : Int)) = ((cntZ s load z t.pods : Nat) : Int) - ((cntZ s load y t.pods : Nat) : Int) by omega] at ho
      simp only [runL, defL, binV, Nat.reduceEqDiff, Nat.reduceAdd, reduceCtorEq, Int.reduceToNat, Nat.reduceMul, Nat.reduceLT, Int.reduceNeg, Int.reduceLE, Int.reduceLT, Int.reduceEq, Nat.reduceLeDiff, List.drop, List.take, h2, h3, h4, h7, h8, h9, h10, b0, b1, hzi, hget, i64C, k1.callD, k2.callD, hwd, c1, hw]
      refine ih (k + 1) _ hd' hk' ho _ ?_ ?_ ?_ ?_ ?_ ?_ ?_
      all_goals try simp only [look_if, blkAt_if, Nat.reduceEqDiff, if_true, if_false, h2, h3, h4, h7, h9]
    · rw [show max acc (((cntZ s load z t.pods : Nat) : Int) - ((cntZ s load y t.pods : Nat) : Int)) = acc by omega] at ho
      simp only [runL, defL, binV, Nat.reduceEqDiff, Nat.reduceAdd, reduceCtorEq, Int.reduceToNat, Nat.reduceMul, Nat.reduceLT, Int.reduceNeg, Int.reduceLE, Int.reduceLT, Int.reduceEq, Nat.reduceLeDiff, List.drop, List.take, h2, h3, h4, h7, h8, h9, h10, b0, b1, hzi, hget, i64C, k1.callD, k2.callD, hwd, c1, hw]
      refine ih (k + 1) _ hd' hk' ho _ ?_ ?_ ?_ ?_ ?_ ?_ ?_
      all_goals try simp only [look_if, blkAt_if, Nat.reduceEqDiff, if_true, if_false, h2, h3, h4, h7, h8, h9]
set_option maxHeartbeats 4000000 in
theorem skewr_out (S : Std13 T) (s : Snap) (t : State) (load : Int) (hn : s.nodes.length ≤ 2 ^ 28) (ht : t.pods.length ≤ 2 ^ 29) (hp : Hl) (nx : Nat)
    (b0 : blkAt hp 0 = .var [.pv (.slice (s.nodes.map nodeC)), .pv (.slice (s.loads.map loadC)), .pv (.slice (s.pods.map podC))]) (b1 : blkAt hp 1 = .var [.pv (.slice (t.pods.map podC)), .pv (.int .i64 t.pre), .pv (.int .i64 t.shi)])
    (Q : Exit → St → Prop) (o : Int) (hend : ∀ fr, look fr 8 = .pv (.int .i64 o) → Q (.exit 0) ⟨fr, hp, nx⟩) :
    ∀ (rest : List Int) (i : Nat) (acc : Int), (zonesL s).drop i = rest → i ≤ (zonesL s).length → (rest.map fun y => ((cntZ s load y t.pods : Nat) : Int)).foldl (fun b a => best1 (cntsL s load t.pods) a b) acc = o → ∀ (fr : List (Nat × AV)),
      look fr 2 = .pv (.int .i64 load) → look fr 3 = .ptr 0 0 0 → look fr 4 = .ptr 1 0 0 → look fr 7 = .pv (.slice ((zonesL s).map i64C)) → look fr 8 = .pv (.int .i64 acc) → look fr 9 = .pv (.int .i64 i) → Wp T false (.loop f177l1) ⟨fr, hp, nx⟩ Q := by
  have hzl : (zonesL s).length ≤ 2 ^ 28 := by
    have := risesL_le (s.nodes.map Node.zone)
    rw [List.length_map] at this
    exact Nat.le_trans this hn
  intro rest
  induction rest with
  | nil =>
    intro i acc hd hi ho fr h2 h3 h4 h7 h8 h9
    have hlen := drop_nil hd hi
    rw [Wp_loop, Wp_eq f177l1.eq_1]
    simp only [runL, defL, binV, Nat.reduceEqDiff, Nat.reduceAdd, reduceCtorEq, Int.reduceToNat, Nat.reduceMul, Nat.reduceLT, Int.reduceNeg, Int.reduceLE, Int.reduceLT, Int.reduceEq, Nat.reduceLeDiff, List.drop, List.take, h2, h3, h4, h7, h8, h9, hlen, Int.lt_irrefl]
    refine hend _ ?_
    all_goals try simp only [look_if, blkAt_if, Nat.reduceEqDiff, if_true, if_false, ]
    rw [h8, ← ho]
    rfl
  | cons z r ih =>
    intro i acc hd hi ho fr h2 h3 h4 h7 h8 h9
    obtain ⟨hget, hlt, hw, hd', hi', hbb⟩ := drop_cons hd (by omega)
    simp only [List.map_cons, List.foldl_cons] at ho
    rw [Wp_loop, Wp_eq f177l1.eq_1]
    simp only [runL, defL, binV, Nat.reduceEqDiff, Nat.reduceAdd, reduceCtorEq, Int.reduceToNat, Nat.reduceMul, Nat.reduceLT, Int.reduceNeg, Int.reduceLE, Int.reduceLT, Int.reduceEq, Nat.reduceLeDiff, List.drop, List.take, h2, h3, h4, h7, h8, h9, hlt]
    refine skewr_in S s t load hn ht i z hget hp nx b0 b1 _ _ (fun fr g2 g3 g4 g7 g8 g9 => ?_) (zonesL s) 0 acc rfl (Nat.zero_le _) rfl _ ?_ ?_ ?_ ?_ ?_ ?_ ?_
    · simp only [runL, defL, binV, Nat.reduceEqDiff, Nat.reduceAdd, reduceCtorEq, Int.reduceToNat, Nat.reduceMul, Nat.reduceLT, Int.reduceNeg, Int.reduceLE, Int.reduceLT, Int.reduceEq, Nat.reduceLeDiff, List.drop, List.take, g9, hw]
      refine ih (i + 1) _ hd' hi' ho _ ?_ ?_ ?_ ?_ ?_ ?_
      all_goals try simp only [look_if, blkAt_if, Nat.reduceEqDiff, if_true, if_false, g2, g3, g4, g7]
      rw [g8]
      rfl
    all_goals try simp only [look_if, blkAt_if, Nat.reduceEqDiff, if_true, if_false, h2, h3, h4, h7, h8, h9]
    rfl
theorem skewr_ok (S : Std13 T) (s : Snap) (t : State) (load : Int) (hn : s.nodes.length ≤ 2 ^ 28) (ht : t.pods.length ≤ 2 ^ 29) : Gives T 177 [snapP s, stateP t, .int .i64 load] (.int .i64 (skewZ s load t.pods)) := by
  have kz := zonesr_ok S.h158 s hn
  simp only [snapP] at kz
  refine gives S.h177 rfl ?_
  simp only [f177, runL, defL, binV, Nat.reduceEqDiff, Nat.reduceAdd, reduceCtorEq, Int.reduceToNat, Nat.reduceMul, Nat.reduceLT, Int.reduceNeg, Int.reduceLE, Int.reduceLT, Int.reduceEq, Nat.reduceLeDiff, List.drop, List.take, snapP, stateP, kz.call]
  refine skewr_out S s t load hn ht _ _ rfl rfl _ (skewZ s load t.pods) (fun fr h8 => ?_) (zonesL s) 0 0 rfl (Nat.zero_le _) (best2_skew (cntsL s load t.pods)) _ rfl rfl rfl rfl rfl rfl
  simp only [runL, defL, binV, Nat.reduceEqDiff, Nat.reduceAdd, reduceCtorEq, Int.reduceToNat, Nat.reduceMul, Nat.reduceLT, Int.reduceNeg, Int.reduceLE, Int.reduceLT, Int.reduceEq, Nat.reduceLeDiff, List.drop, List.take, h8]
/-! ### Spread -/
set_option maxHeartbeats 4000000 in
theorem spreadr_loop (S : Std13 T) (s : Snap) (t : State) (hn : s.nodes.length ≤ 2 ^ 28) (ht : t.pods.length ≤ 2 ^ 29) (hll : s.loads.length ≤ 2 ^ 29) (hp : Hl) (nx : Nat)
    (b0 : blkAt hp 0 = .var [.pv (.slice (s.nodes.map nodeC)), .pv (.slice (s.loads.map loadC)), .pv (.slice (s.pods.map podC))]) (b1 : blkAt hp 1 = .var [.pv (.slice (t.pods.map podC)), .pv (.int .i64 t.pre), .pv (.int .i64 t.shi)])
    (Q : Exit → St → Prop) (o : Option (Int × Int))
    (hend : o = none → ∀ fr, Q (.exit 0) ⟨fr, hp, nx⟩) (hret : ∀ c a, o = some (c, a) → ∀ fr, look fr 4 = .pv (.int .i64 a) → Q .ret ⟨fr, hp, nx⟩) :
    ∀ (rest : List Load) (i : Nat), s.loads.drop i = rest → i ≤ s.loads.length → spreadFrom s t.pods i rest = o → ∀ (fr : List (Nat × AV)),
      look fr 2 = .ptr 0 0 0 → look fr 3 = .ptr 1 0 0 → look fr 5 = .pv (.int .i64 i) → Wp T false (.loop f178l0) ⟨fr, hp, nx⟩ Q := by
  intro rest
  induction rest with
  | nil =>
    intro i hd hi ho fr h2 h3 h5
    have hlen := drop_nil hd hi
    rw [Wp_loop, Wp_eq f178l0.eq_1]
    simp only [runL, defL, binV, Nat.reduceEqDiff, Nat.reduceAdd, reduceCtorEq, Int.reduceToNat, Nat.reduceMul, Nat.reduceLT, Int.reduceNeg, Int.reduceLE, Int.reduceLT, Int.reduceEq, Nat.reduceLeDiff, List.drop, List.take, h2, h3, h5, b0, hlen, Int.lt_irrefl]
    exact hend ho.symm _
  | cons l r ih =>
    intro i hd hi ho fr h2 h3 h5
    obtain ⟨hget, hlt, hw, hd', hi', hb⟩ := drop_cons hd (by omega)
    have k := skewr_ok S s t l.id hn ht
    simp only [snapP, stateP] at k
    simp only [spreadFrom] at ho
    rw [Wp_loop, Wp_eq f178l0.eq_1]
    simp only [runL, defL, binV, Nat.reduceEqDiff, Nat.reduceAdd, reduceCtorEq, Int.reduceToNat, Nat.reduceMul, Nat.reduceLT, Int.reduceNeg, Int.reduceLE, Int.reduceLT, Int.reduceEq, Nat.reduceLeDiff, List.drop, List.take, h2, h3, h5, b0, hlt]
    refine (Wp_calm rfl).2 ?_
    by_cases c1 : 0 < l.skew
    · by_cases c2 : l.skew < skewZ s l.id t.pods
      · rw [if_pos ⟨c1, c2⟩] at ho
        simp only [runL, defL, binV, Nat.reduceEqDiff, Nat.reduceAdd, reduceCtorEq, Int.reduceToNat, Nat.reduceMul, Nat.reduceLT, Int.reduceNeg, Int.reduceLE, Int.reduceLT, Int.reduceEq, Nat.reduceLeDiff, List.drop, List.take, h2, h3, h5, b0, b1, hget, loadC, k.callD, c1, c2]
        refine hret 11 i ho.symm _ ?_
        all_goals try simp only [look_if, blkAt_if, Nat.reduceEqDiff, if_true, if_false, h5]
      · rw [if_neg fun h => c2 h.2] at ho
        simp only [runL, defL, binV, Nat.reduceEqDiff, Nat.reduceAdd, reduceCtorEq, Int.reduceToNat, Nat.reduceMul, Nat.reduceLT, Int.reduceNeg, Int.reduceLE, Int.reduceLT, Int.reduceEq, Nat.reduceLeDiff, List.drop, List.take, h2, h3, h5, b0, b1, hget, loadC, k.callD, c1, c2, hw]
        refine ih (i + 1) hd' hi' ho _ ?_ ?_ ?_
        all_goals try simp only [look_if, blkAt_if, Nat.reduceEqDiff, if_true, if_false, h2, h3]
    · rw [if_neg fun h => c1 h.1] at ho
      simp only [runL, defL, binV, Nat.reduceEqDiff, Nat.reduceAdd, reduceCtorEq, Int.reduceToNat, Nat.reduceMul, Nat.reduceLT, Int.reduceNeg, Int.reduceLE, Int.reduceLT, Int.reduceEq, Nat.reduceLeDiff, List.drop, List.take, h2, h3, h5, b0, b1, hget, loadC, k.callD, c1, hw]
      refine ih (i + 1) hd' hi' ho _ ?_ ?_ ?_
      all_goals try simp only [look_if, blkAt_if, Nat.reduceEqDiff, if_true, if_false, h2, h3]
theorem spreadr_ok (S : Std13 T) (h178 : Std T 178 f178) (s : Snap) (t : State) (hn : s.nodes.length ≤ 2 ^ 28) (ht : t.pods.length ≤ 2 ^ 29) (hll : s.loads.length ≤ 2 ^ 29) : Gives T 178 [snapP s, stateP t] (.int .i64 (atO (spreadFrom s t.pods 0 s.loads))) := by
  refine gives h178 rfl ?_
  simp only [f178, runL, defL, binV, Nat.reduceEqDiff, Nat.reduceAdd, reduceCtorEq, Int.reduceToNat, Nat.reduceMul, Nat.reduceLT, Int.reduceNeg, Int.reduceLE, Int.reduceLT, Int.reduceEq, Nat.reduceLeDiff, List.drop, List.take, snapP, stateP]
  refine spreadr_loop S s t hn ht hll _ _ rfl rfl _ (spreadFrom s t.pods 0 s.loads) (fun ho fr => ?_) (fun c a ho fr h4 => ?_) s.loads 0 rfl (Nat.zero_le _) rfl _ rfl rfl rfl
  · simp only [runL, defL, binV, Nat.reduceEqDiff, Nat.reduceAdd, reduceCtorEq, Int.reduceToNat, Nat.reduceMul, Nat.reduceLT, Int.reduceNeg, Int.reduceLE, Int.reduceLT, Int.reduceEq, Nat.reduceLeDiff, List.drop, List.take, ho, atO]
  · simp only [runL, defL, binV, Nat.reduceEqDiff, Nat.reduceAdd, reduceCtorEq, Int.reduceToNat, Nat.reduceMul, Nat.reduceLT, Int.reduceNeg, Int.reduceLE, Int.reduceLT, Int.reduceEq, Nat.reduceLeDiff, List.drop, List.take, ho, atO, h4]
end
end Go.Proofs.YtlfphlobcopemaaGreatDoor.Ab
set_option linter.unusedVariables false
set_option linter.unusedSimpArgs false
namespace Go.Proofs.YtlfphlobcopemaaGreatDoor.Ab
open Go
theorem roomFrom_some (s : Snap) (pods : List Pod) : ∀ (l : List Node) (i : Nat) (c a : Int), roomFrom s pods i l = some (c, a) → c ≠ 0
  | [], i, c, a, h => by simp [roomFrom] at h
  | n :: r, i, c, a, h => by
    unfold roomFrom at h
    split at h
    · exact roomFrom_some s pods r (i + 1) c a h
    · rename_i hc
      simp only [Option.some.injEq, Prod.mk.injEq] at h
      rw [← h.1]
      exact hc
theorem apartFrom_some (ls : List Load) : ∀ (l prev : List Pod) (c a : Int), apartFrom ls prev l = some (c, a) → c = 10 ∧ 0 ≤ a
  | [], prev, c, a, h => by simp [apartFrom] at h
  | p :: r, prev, c, a, h => by
    unfold apartFrom at h
    split at h
    · simp only [Option.some.injEq, Prod.mk.injEq] at h
      omega
    · exact apartFrom_some ls r _ c a h
theorem spreadFrom_some (s : Snap) (pods : List Pod) : ∀ (l : List Load) (i : Nat) (c a : Int), spreadFrom s pods i l = some (c, a) → c = 11 ∧ 0 ≤ a
  | [], i, c, a, h => by simp [spreadFrom] at h
  | n :: r, i, c, a, h => by
    unfold spreadFrom at h
    split at h
    · simp only [Option.some.injEq, Prod.mk.injEq] at h
      omega
    · exact spreadFrom_some s pods r (i + 1) c a h
theorem badLoad_some (pods : List Pod) : ∀ (l : List Load) (i : Nat) (c a : Int), badLoad pods i l = some (c, a) → c ≠ 0
  | [], i, c, a, h => by simp [badLoad] at h
  | n :: r, i, c, a, h => by
    unfold badLoad at h
    split at h
    · simp only [Option.some.injEq, Prod.mk.injEq] at h
      omega
    · split at h
      · simp only [Option.some.injEq, Prod.mk.injEq] at h
        omega
      · exact badLoad_some pods r (i + 1) c a h
def whyC (s : Snap) (x : Spec) (t : State) : Int × Int := match roomFrom s t.pods 0 s.nodes with
  | some q => q
  | none => match apartFrom s.loads [] t.pods with
    | some q => q
    | none => match spreadFrom s t.pods 0 s.loads with
      | some q => q
      | none => match badLoad t.pods 0 s.loads with
        | some q => q
        | none => if usedB x t = true then (15, -1) else (0, -1)
theorem whyC_why (s : Snap) (x : Spec) (t : State) : (isNilP (whyP s x t) = true ∧ (whyC s x t).1 = 0) ∨ (isNilP (whyP s x t) = false ∧ (whyC s x t).1 = codeNo (whyP s x t) ∧ (whyC s x t).1 ≠ 0) := by
  unfold whyC whyP errsL
  cases h1 : roomFrom s t.pods 0 s.nodes with
  | some q => exact .inr ⟨rfl, rfl, roomFrom_some s t.pods _ _ q.1 q.2 h1⟩
  | none =>
    cases h2 : apartFrom s.loads [] t.pods with
    | some q => exact .inr ⟨rfl, rfl, by have := (apartFrom_some s.loads _ _ q.1 q.2 h2).1; dsimp only; omega⟩
    | none =>
      cases h3 : spreadFrom s t.pods 0 s.loads with
      | some q => exact .inr ⟨rfl, rfl, by have := (spreadFrom_some s t.pods _ _ q.1 q.2 h3).1; dsimp only; omega⟩
      | none =>
        cases h4 : badLoad t.pods 0 s.loads with
        | some q => exact .inr ⟨rfl, rfl, badLoad_some t.pods _ _ q.1 q.2 h4⟩
        | none =>
          cases h5 : usedB x t with
          | true => exact .inr ⟨rfl, rfl, by decide⟩
          | false => exact .inl ⟨rfl, rfl⟩
structure Std14 (T : Tab) : Prop where
  r : Std13 T
  s6 : Std6r T
  h169 : Std T 169 f169
  h172 : Std T 172 f172
  h173 : Std T 173 f173
  h176 : Std T 176 f176
  h178 : Std T 178 f178
  h179 : Std T 179 f179
  h180 : Std T 180 f180
  h154 : Std T 154 f154
  h184 : Std T 184 f184
section
variable {T : Tab}
set_option maxHeartbeats 4000000 in
theorem whyr_ok (S : Std14 T) (s : Snap) (x : Spec) (t : State) (hn : s.nodes.length ≤ 2 ^ 28) (hll : s.loads.length ≤ 2 ^ 29) (ht : t.pods.length ≤ 2 ^ 29) (hw : ∀ p ∈ t.pods, p.wf) : Gives T 184 [snapP s, specP x, stateP t] (.tuple [.int .i64 (whyC s x t).1, .int .i64 (whyC s x t).2]) := by
  have k1 := room6_ok S.s6 S.h169 s t (by omega) (by omega) hw
  have k2 := apartr_ok S.h172 S.h180 S.h154 s t hll ht
  have k3 := spreadr_ok S.r S.h178 s t hn ht hll
  have k4 := check9b_ok S.h173 S.h176 s t (by omega) (by omega)
  have k5 := used9b_ok S.h179 x t
  simp only [snapP, specP, stateP] at k1 k2 k3 k4 k5
  refine gives S.h184 rfl ?_
  unfold whyC
  cases h1 : roomFrom s t.pods 0 s.nodes with
  | some q =>
    obtain ⟨c, a⟩ := q
    have hc := roomFrom_some s t.pods _ _ c a h1
    rw [h1] at k1
    simp only [badO] at k1
    simp only [f184, runL, defL, binV, Nat.reduceEqDiff, Nat.reduceAdd, reduceCtorEq, Int.reduceToNat, Nat.reduceMul, Nat.reduceLT, Int.reduceNeg, Int.reduceLE, Int.reduceLT, Int.reduceEq, Nat.reduceLeDiff, List.drop, List.take, snapP, specP, stateP, k1.call, hc]
  | none =>
    rw [h1] at k1
    simp only [badO] at k1
    cases h2 : apartFrom s.loads [] t.pods with
    | some q =>
      obtain ⟨c, a⟩ := q
      obtain ⟨rfl, ha⟩ := apartFrom_some s.loads _ _ c a h2
      rw [h2] at k2
      simp only [atO] at k2
      simp only [f184, runL, defL, binV, Nat.reduceEqDiff, Nat.reduceAdd, reduceCtorEq, Int.reduceToNat, Nat.reduceMul, Nat.reduceLT, Int.reduceNeg, Int.reduceLE, Int.reduceLT, Int.reduceEq, Nat.reduceLeDiff, List.drop, List.take, snapP, specP, stateP, k1.call, k2.call, ha]
    | none =>
      rw [h2] at k2
      simp only [atO] at k2
      cases h3 : spreadFrom s t.pods 0 s.loads with
      | some q =>
        obtain ⟨c, a⟩ := q
        obtain ⟨rfl, ha⟩ := spreadFrom_some s t.pods _ _ c a h3
        rw [h3] at k3
        simp only [atO] at k3
        simp only [f184, runL, defL, binV, Nat.reduceEqDiff, Nat.reduceAdd, reduceCtorEq, Int.reduceToNat, Nat.reduceMul, Nat.reduceLT, Int.reduceNeg, Int.reduceLE, Int.reduceLT, Int.reduceEq, Nat.reduceLeDiff, List.drop, List.take, snapP, specP, stateP, k1.call, k2.call, k3.call, ha]
      | none =>
        rw [h3] at k3
        simp only [atO] at k3
        cases h4 : badLoad t.pods 0 s.loads with
        | some q =>
          obtain ⟨c, a⟩ := q
          have hc := badLoad_some t.pods _ _ c a h4
          rw [h4] at k4
          simp only [badO] at k4
          simp only [f184, runL, defL, binV, Nat.reduceEqDiff, Nat.reduceAdd, reduceCtorEq, Int.reduceToNat, Nat.reduceMul, Nat.reduceLT, Int.reduceNeg, Int.reduceLE, Int.reduceLT, Int.reduceEq, Nat.reduceLeDiff, List.drop, List.take, snapP, specP, stateP, k1.call, k2.call, k3.call, k4.call, hc]
        | none =>
          rw [h4] at k4
          simp only [badO] at k4
          cases h5 : usedB x t <;>
          · rw [h5] at k5
            simp only [f184, runL, defL, binV, Nat.reduceEqDiff, Nat.reduceAdd, reduceCtorEq, Int.reduceToNat, Nat.reduceMul, Nat.reduceLT, Int.reduceNeg, Int.reduceLE, Int.reduceLT, Int.reduceEq, Nat.reduceLeDiff, List.drop, List.take, snapP, specP, stateP, k1.call, k2.call, k3.call, k4.call, k5.call, Bool.false_eq_true]
end
end Go.Proofs.YtlfphlobcopemaaGreatDoor.Ab
set_option linter.unusedVariables false
set_option linter.unusedSimpArgs false
namespace Go.Proofs.YtlfphlobcopemaaGreatDoor.Ab
open Go
end Go.Proofs.YtlfphlobcopemaaGreatDoor.Ab
set_option linter.unusedVariables false
set_option linter.unusedSimpArgs false
namespace Go.Proofs.YtlfphlobcopemaaGreatDoor.Ab
open Go
/-! ### The plain law: how a move changes a load's size -/
theorem placeFrom_podOf {id : Int} {l : List Pod} {j : Nat} (h : placeFrom id 0 l = (j : Int)) : ∃ p, l[j]? = some p ∧ podOf id l = some p ∧ j < l.length := by
  rcases placeFrom_cases id l 0 with ⟨h1, h2⟩ | ⟨k, p, h1, h2, h3, h4⟩
  · omega
  · have : k = j := by omega
    subst this
    exact ⟨p, h1, h2, h4⟩
/-! ### The walk -/
end Go.Proofs.YtlfphlobcopemaaGreatDoor.Ab
set_option linter.unusedVariables false
set_option linter.unusedSimpArgs false
namespace Go.Proofs.YtlfphlobcopemaaGreatDoor.Ab
open Go
def state0 : State := ⟨[], 0, 0⟩
def walkFrom (s : Snap) (x : Spec) : List Move → State → Nat → State × Nat × Option Int
  | [], t, i => (t, i, none)
  | m :: r, t, i => match doS s x t m with
    | .inl c => (t, i, some c)
    | .inr u => walkFrom s x r u (i + 1)
def optE : Option Int → PV
  | none => .nili
  | some c => codeE c
def walkW (s : Snap) (x : Spec) (l : List Move) : State × Nat × PV := match fairB s x with
  | some q => (state0, 0, errG (some q))
  | none => if isNilP (whyP s x (firstOf s)) = true then ((walkFrom s x l (firstOf s) 0).1, (walkFrom s x l (firstOf s) 0).2.1, optE (walkFrom s x l (firstOf s) 0).2.2) else (state0, 0, codeE (codeNo (whyP s x (firstOf s))))
def walkP (w : State × Nat × PV) : PV := .tuple [stateP w.1, .int .i64 (w.2.1 : Nat), w.2.2]
theorem doS_make {s : Snap} {x : Spec} {t u : State} {m : Move} (h : doS s x t m = .inr u) : makeS s x t m = .inr u ∧ isNilP (whyP s x u) = true := by
  unfold doS at h
  split at h
  · simp at h
  · rename_i v hv
    split at h
    · split at h
      · rename_i hw
        simp only [Sum.inr.injEq] at h
        subst h
        exact ⟨hv, hw⟩
      · simp at h
    · simp at h
structure Std12w (T : Tab) : Prop where
  s : Std12 T
  f : Std3f T
  h237 : Std T 237 f237
  h247 : Std T 247 f247
section
variable {T : Tab}
set_option maxRecDepth 100000 in
set_option maxHeartbeats 4000000 in
theorem walk_loop (S : Std12 T) (s : Snap) (x : Spec) (ms : List Move) (hn : s.nodes.length ≤ 2 ^ 29) (hll : s.loads.length ≤ 2 ^ 29) (hxl : x.wants.length ≤ 2 ^ 29) (hml : ms.length ≤ 2 ^ 29) (hx : ∀ w ∈ x.wants, w.wf) (hm : ∀ m ∈ ms, m.wf) (Q : Exit → St → Prop) (o : State × Nat × Option Int)
    (hend : ∀ u, o = (u, ms.length, none) → ∀ fr hp nx, look fr 2 = .pv (.slice (ms.map moveC)) → look fr 6 = .ptr 2 0 0 → look fr 10 = .ptr 3 0 0 → blkAt hp 2 = .var [.nils, .pv (.int .i64 0), .pv (.int .i64 0)] → blkAt hp 3 = .var [.pv (.slice (u.pods.map podC)), .pv (.int .i64 u.pre), .pv (.int .i64 u.shi)] → Q (.exit 0) ⟨fr, hp, nx⟩)
    (hret : ∀ u k c, o = (u, k, some c) → ∀ fr hp nx, look fr 6 = .ptr 2 0 0 → look fr 7 = .pv (.int .i64 (k : Nat)) → look fr 8 = .pv (codeE c) → blkAt hp 2 = .var [.pv (.slice (u.pods.map podC)), .pv (.int .i64 u.pre), .pv (.int .i64 u.shi)] → Q .ret ⟨fr, hp, nx⟩) :
    ∀ (rest : List Move) (i : Nat) (t : State), ms.drop i = rest → i ≤ ms.length → walkFrom s x rest t i = o → t.pods.length ≤ 2 ^ 29 → (∀ p ∈ t.pods, p.wf) → ∀ (fr : List (Nat × AV)) (hp : Hl) (nx : Nat), 4 ≤ nx →
      look fr 2 = .pv (.slice (ms.map moveC)) → look fr 3 = .ptr 0 0 0 → look fr 4 = .ptr 1 0 0 → look fr 6 = .ptr 2 0 0 → look fr 10 = .ptr 3 0 0 →
      blkAt hp 0 = .var [.pv (.slice (s.nodes.map nodeC)), .pv (.slice (s.loads.map loadC)), .pv (.slice (s.pods.map podC))] → blkAt hp 1 = .var [.pv (.slice (x.wants.map wantC)), .pv (.int .i64 x.pre), .pv (.int .i64 x.shi)] →
      blkAt hp 2 = .var [.nils, .pv (.int .i64 0), .pv (.int .i64 0)] → blkAt hp 3 = .var [.pv (.slice (t.pods.map podC)), .pv (.int .i64 t.pre), .pv (.int .i64 t.shi)] →
      look fr 34 = .pv (.slice (ms.map moveC)) → look fr 35 = .pv (.int .i64 ms.length) → look fr 36 = .pv (.int .i64 i) → Wp T false (.loop f247l0) ⟨fr, hp, nx⟩ Q := by
  intro rest
  induction rest with
  | nil =>
    intro i t hd hi ho hl ht fr hp nx hnx h2 h3 h4 h6 h10 b0 b1 b2 b3 h34 h35 h36
    have hlen := drop_nil hd hi
    simp only [walkFrom] at ho
    rw [Wp_loop, Wp_eq f247l0.eq_1]
    simp only [runL, defL, binV, Nat.reduceEqDiff, Nat.reduceAdd, reduceCtorEq, Int.reduceToNat, Nat.reduceMul, Nat.reduceLT, Int.reduceNeg, Int.reduceLE, Int.reduceLT, Int.reduceEq, Nat.reduceLeDiff, List.drop, List.take, h34, h35, h36, hlen, Int.lt_irrefl]
    refine hend t (by rw [← ho, hlen]) _ _ _ ?_ ?_ ?_ b2 b3
    all_goals try simp only [look_if, blkAt_if, Nat.reduceEqDiff, if_true, if_false, h2, h6, h10]
  | cons m r ih =>
    intro i t hd hi ho hl ht fr hp nx hnx h2 h3 h4 h6 h10 b0 b1 b2 b3 h34 h35 h36
    obtain ⟨hget, hlt, hw, hd', hi', hb⟩ := drop_cons hd (by omega)
    have hmm : m ∈ ms := List.mem_of_getElem? hget
    have n0 : ¬ nx = 0 := by omega
    have n1 : ¬ nx = 1 := by omega
    have n2 : ¬ nx = 2 := by omega
    have n3 : ¬ nx = 3 := by omega
    have m0 : ¬ nx + 1 = 0 := by omega
    have m1 : ¬ nx + 1 = 1 := by omega
    have m2 : ¬ nx + 1 = 2 := by omega
    have m3 : ¬ nx + 1 = 3 := by omega
    have q3 : ¬ 3 = nx + 1 := by omega
    have q2 : ¬ 2 = nx + 1 := by omega
    have k := do_ok S s x t m hn hll hxl hl hx ht (hm m hmm)
    simp only [walkFrom] at ho
    cases hd2 : doS s x t m with
    | inl c =>
      rw [hd2] at ho k
      simp only [makeR, codeE, snapP, specP, stateP, moveP, moveC, List.map_nil] at k
      rw [Wp_loop, Wp_eq f247l0.eq_1]
      simp only [runL, defL, binV, Nat.reduceEqDiff, Nat.reduceAdd, reduceCtorEq, Int.reduceToNat, Nat.reduceMul, Nat.reduceLT, Int.reduceNeg, Int.reduceLE, Int.reduceLT, Int.reduceEq, Nat.reduceLeDiff, List.drop, List.take, h2, h3, h4, h6, h10, b0, b1, b2, b3, h34, h35, h36, hlt, hget, moveC, n0, n1, n2, n3, m0, m1, m2, m3, k.call]
      refine hret t i c ho.symm _ _ _ ?_ ?_ ?_ ?_
      all_goals try simp only [look_if, blkAt_if, Nat.reduceEqDiff, if_true, if_false, h6, codeE]
    | inr u =>
      rw [hd2] at ho k
      obtain ⟨hmk, _⟩ := doS_make hd2
      have hul := (near_moves s x t u m hmk).2
      simp only [makeR, snapP, specP, stateP, moveP, moveC] at k
      rw [Wp_loop, Wp_eq f247l0.eq_1]
      simp only [runL, defL, binV, Nat.reduceEqDiff, Nat.reduceAdd, reduceCtorEq, Int.reduceToNat, Nat.reduceMul, Nat.reduceLT, Int.reduceNeg, Int.reduceLE, Int.reduceLT, Int.reduceEq, Nat.reduceLeDiff, List.drop, List.take, h2, h3, h4, h6, h10, b0, b1, b2, b3, h34, h35, h36, hlt, hget, moveC, n0, n1, n2, n3, m0, m1, m2, m3, k.call, hw]
      refine ih (i + 1) u hd' hi' ho (by omega) (make_wf hx ht (hm m hmm) hmk) _ _ _ (by omega) ?_ ?_ ?_ ?_ ?_ ?_ ?_ ?_ ?_ ?_ ?_ ?_
      all_goals try simp only [look_if, blkAt_if, Nat.reduceEqDiff, if_true, if_false, h2, h3, h4, h6, h10, b0, b1, b2, n0, n1, n2, n3, m0, m1, m2, m3, q3, h34, h35]
set_option maxRecDepth 100000 in
set_option maxHeartbeats 4000000 in
theorem walk_ok (S : Std12w T) (s : Snap) (x : Spec) (ms : List Move) (hn : s.nodes.length ≤ 2 ^ 29) (hll : s.loads.length ≤ 2 ^ 29) (hpl : s.pods.length ≤ 2 ^ 29) (hxl : x.wants.length ≤ 2 ^ 29) (hml : ms.length ≤ 2 ^ 29) (hs : s.wf) (hx : x.wf) (hm : ∀ m ∈ ms, m.wf) :
    Gives T 247 [snapP s, specP x, .slice (ms.map moveC)] (walkP (walkW s x ms)) := by
  have kf := fair3_ok S.f s x hxl
  have k1 := first5_ok S.h237 S.s.m.h279 s (by omega)
  have kw := why_ok S.s.s11 s x (firstOf s) hn hpl hll hs.2.2
  have hv : ErrV (whyP s x (firstOf s)) := firstE_V _ (errs_V s x (firstOf s))
  have ka := alone_ok S.s hv
  simp only [snapP, specP, stateP, firstOf] at kf k1 kw
  refine gives S.h247 rfl ?_
  unfold walkW
  cases hf : fairB s x with
  | some q =>
    obtain ⟨c, a⟩ := q
    rw [hf] at kf
    dsimp only
    by_cases ha : a < 0
    · simp only [errG, if_pos ha, codeE] at kf ⊢
      simp only [f247, runL, defL, binV, Nat.reduceEqDiff, Nat.reduceAdd, reduceCtorEq, Int.reduceToNat, Nat.reduceMul, Nat.reduceLT, Int.reduceNeg, Int.reduceLE, Int.reduceLT, Int.reduceEq, Nat.reduceLeDiff, List.drop, List.take, snapP, specP, stateP, kf.call, walkP, state0, List.map_nil]
      rfl
    · simp only [errG, if_neg ha, spotE] at kf ⊢
      simp only [f247, runL, defL, binV, Nat.reduceEqDiff, Nat.reduceAdd, reduceCtorEq, Int.reduceToNat, Nat.reduceMul, Nat.reduceLT, Int.reduceNeg, Int.reduceLE, Int.reduceLT, Int.reduceEq, Nat.reduceLeDiff, List.drop, List.take, snapP, specP, stateP, kf.call, walkP, state0, List.map_nil]
      rfl
  | none =>
    rw [hf] at kf
    simp only [errG] at kf
    dsimp only
    have hw' : whyP s x ⟨s.pods, 0, 0⟩ = whyP s x (firstOf s) := rfl
    rw [hw'] at kw
    rcases hv with e | ⟨a, n, e⟩ | ⟨n, e⟩
    · rw [e] at kw ⊢
      simp only [isNilP, if_true]
      simp only [f247, runL, defL, binV, Nat.reduceEqDiff, Nat.reduceAdd, reduceCtorEq, Int.reduceToNat, Nat.reduceMul, Nat.reduceLT, Int.reduceNeg, Int.reduceLE, Int.reduceLT, Int.reduceEq, Nat.reduceLeDiff, List.drop, List.take, snapP, specP, stateP, kf.call, k1.call, kw.call]
      refine walk_loop S.s s x ms hn hll hxl hml hx.1 hm _ (walkFrom s x ms (firstOf s) 0) (fun u ho fr hp nx h2 h6 h10 b2 b3 => ?_) (fun u k c ho fr hp nx h6 h7 h8 b2 => ?_) ms 0 (firstOf s) rfl (Nat.zero_le _) rfl hpl hs.2.2 _ _ _ (Nat.le_refl _) rfl rfl rfl rfl rfl rfl rfl rfl rfl rfl rfl rfl
      · rw [ho]
        simp only [runL, defL, binV, Nat.reduceEqDiff, Nat.reduceAdd, reduceCtorEq, Int.reduceToNat, Nat.reduceMul, Nat.reduceLT, Int.reduceNeg, Int.reduceLE, Int.reduceLT, Int.reduceEq, Nat.reduceLeDiff, List.drop, List.take, h2, h6, h10, b2, b3, walkP, stateP, optE]
      · rw [ho]
        simp only [runL, defL, binV, Nat.reduceEqDiff, Nat.reduceAdd, reduceCtorEq, Int.reduceToNat, Nat.reduceMul, Nat.reduceLT, Int.reduceNeg, Int.reduceLE, Int.reduceLT, Int.reduceEq, Nat.reduceLeDiff, List.drop, List.take, h6, h7, h8, b2, walkP, stateP, optE]
    · rw [e] at kw ka ⊢
      simp only [spotE, aloneP, isNilP, codeE, codeNo, codesOf, List.headD_cons, Bool.false_eq_true, if_false] at kw ka ⊢
      simp only [f247, runL, defL, binV, Nat.reduceEqDiff, Nat.reduceAdd, reduceCtorEq, Int.reduceToNat, Nat.reduceMul, Nat.reduceLT, Int.reduceNeg, Int.reduceLE, Int.reduceLT, Int.reduceEq, Nat.reduceLeDiff, List.drop, List.take, snapP, specP, stateP, kf.call, k1.call, kw.call, ka.call, walkP, state0, List.map_nil]
      rfl
    · rw [e] at kw ka ⊢
      simp only [codeE, aloneP, isNilP, codeNo, codesOf, List.headD_cons, Bool.false_eq_true, if_false] at kw ka ⊢
      simp only [f247, runL, defL, binV, Nat.reduceEqDiff, Nat.reduceAdd, reduceCtorEq, Int.reduceToNat, Nat.reduceMul, Nat.reduceLT, Int.reduceNeg, Int.reduceLE, Int.reduceLT, Int.reduceEq, Nat.reduceLeDiff, List.drop, List.take, snapP, specP, stateP, kf.call, k1.call, kw.call, ka.call, walkP, state0, List.map_nil]
      rfl
end
end Go.Proofs.YtlfphlobcopemaaGreatDoor.Ab
