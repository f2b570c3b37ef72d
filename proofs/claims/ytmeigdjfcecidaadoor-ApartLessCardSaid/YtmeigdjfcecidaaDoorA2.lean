/- The layer, part 2: Co09, Ab47, Ab48, Ab49, Ab51, Ab52, Sp9, Sp5b. -/
import Derived.Test.YtmeigdjfcecidaaDoorA1
/- The code of functions, by our numbers. -/
set_option linter.unusedVariables false
namespace Go.Proofs.YtmeigdjfcecidaaDoor.Ab
open Go
/-- (*dunnage/api.Spot).Unwrap -/
def f4 : AFunc := ⟨8, [.t 2],
 (.seq (.ops [
   ⟨some 2, .mv (.c (.pv .nili)), none, []⟩])
  (.seq (.ops [
   ⟨some 3, .mv (.t 0), none, []⟩,
   ⟨some 4, .nilchk (.t 3), none, [0]⟩,
   ⟨some 5, .fieldAddr 1 (.t 4), none, [1]⟩,
   ⟨some 6, .load false 1 (.t 5), none, [2]⟩,
   ⟨some 7, .mkI 0 (.t 6), none, [3]⟩,
   ⟨some 2, .mv (.t 7), none, [4, 0, 1, 2, 3, 4]⟩])
  .ret))⟩

def f70l0 : ACode :=
 (.seq (.ops [
   ⟨some 12, .bin .lss none (.t 11) (.t 10), none, []⟩])
  (.seq (.cond (.t 12)
   .skip
   (.exit 0))
  (.seq (.block 1
   (.seq (.ops [
     ⟨some 13, .mv (.t 11), none, []⟩,
     ⟨some 14, .idxAddr 5 (.t 9) (.t 11), none, []⟩,
     ⟨some 15, .load true 5 (.t 14), none, [1]⟩,
     ⟨some 6, .alloc [(.pv (.int .i64 0)), (.pv (.bool false)), (.pv (.int .i64 0)), (.pv (.int .i64 0)), (.pv (.int .i64 0))], none, []⟩,
     ⟨some 5, .mv (.t 13), none, [0, 0, 1, 2, 3]⟩,
     ⟨none, .store 5 (.t 6) (.t 15), none, [3, 2, 4, 0, 1, 2, 3, 4]⟩])
    (.seq (.ops [
     ⟨some 16, .load true 3 (.t 3), none, []⟩,
     ⟨some 17, .fieldAddr 0 (.t 6), none, []⟩,
     ⟨some 18, .load false 1 (.t 17), none, [1]⟩,
     ⟨some 19, .call 71 [(.t 16), (.t 18)], none, [0, 2]⟩,
     ⟨some 7, .mv (.t 19), none, [3, 3, 0, 1, 2, 3]⟩])
    (.block 2
     (.seq (.ops [
       ⟨some 21, .mv (.t 7), none, []⟩,
       ⟨some 22, .fieldAddr 3 (.t 6), none, []⟩,
       ⟨some 23, .load false 1 (.t 22), none, [1]⟩,
       ⟨some 24, .bin .lss none (.t 21) (.t 23), none, [0, 2]⟩,
       ⟨some 20, .mv (.t 24), none, [3]⟩])
      (.cond (.t 20)
       (.seq (.ops [
         ⟨some 25, .mv (.t 5), none, []⟩,
         ⟨some 26, .build [(.pv (.int .i64 0)), (.pv (.int .i64 0))] [(0, 1, (.t 25)), (1, 1, (.c (.pv (.int .i64 12))))], none, [0]⟩,
         ⟨some 27, .box (.t 26), none, [1]⟩,
         ⟨some 28, .mkI 1 (.t 27), none, [2]⟩,
         ⟨some 4, .mv (.t 28), none, [3, 0, 1, 2, 3]⟩])
        .ret)
       (.seq (.ops [
         ⟨some 30, .mv (.t 7), none, []⟩,
         ⟨some 31, .fieldAddr 4 (.t 6), none, []⟩,
         ⟨some 32, .load false 1 (.t 31), none, [1]⟩,
         ⟨some 33, .bin .gtr none (.t 30) (.t 32), none, [0, 2]⟩,
         ⟨some 29, .mv (.t 33), none, [3]⟩])
        (.cond (.t 29)
         (.seq (.ops [
           ⟨some 34, .mv (.t 5), none, []⟩,
           ⟨some 35, .build [(.pv (.int .i64 0)), (.pv (.int .i64 0))] [(0, 1, (.t 34)), (1, 1, (.c (.pv (.int .i64 13))))], none, [0]⟩,
           ⟨some 36, .box (.t 35), none, [1]⟩,
           ⟨some 37, .mkI 1 (.t 36), none, [2]⟩,
           ⟨some 4, .mv (.t 37), none, [3, 0, 1, 2, 3]⟩])
          .ret)
         .skip))))))))
  (.ops [
   ⟨some 38, .bin .add none (.t 11) (.c (.pv (.int .i64 1))), none, []⟩,
   ⟨some 11, .mv (.t 38), none, [0]⟩]))))
/-- dunnage/budget.Check -/
def f70 : AFunc := ⟨39, [.t 4],
 (.seq (.ops [
   ⟨some 2, .box (.t 0), none, []⟩,
   ⟨some 3, .box (.t 1), none, []⟩,
   ⟨some 4, .mv (.c (.pv .nili)), none, []⟩])
  (.seq (.seq (.ops [
   ⟨some 8, .fieldAddr 1 (.t 2), none, []⟩,
   ⟨some 9, .load false 1 (.t 8), none, [0]⟩,
   ⟨some 10, .len (.t 9), none, [1]⟩,
   ⟨some 11, .mv (.c (.pv (.int .i64 0))), none, []⟩])
  (.block 0
   (.loop f70l0)))
  (.seq (.ops [
   ⟨some 4, .mv (.c (.pv .nili)), none, []⟩])
  .ret)))⟩

def f71l0 : ACode :=
 (.seq (.ops [
   ⟨some 12, .bin .lss none (.t 11) (.t 10), none, []⟩])
  (.seq (.cond (.t 12)
   .skip
   (.exit 0))
  (.seq (.block 1
   (.seq (.ops [
     ⟨some 13, .idxAddr 8 (.t 9) (.t 11), none, []⟩,
     ⟨some 14, .load true 8 (.t 13), none, [0]⟩,
     ⟨some 7, .alloc [(.pv (.int .i64 0)), (.pv (.int .i64 0)), (.pv (.int .i64 0)), (.pv (.int .u64 0)), (.pv (.int .u64 0)), (.pv (.int .u64 0)), (.pv (.int .u64 0)), (.pv (.int .i64 0))], none, []⟩,
     ⟨none, .store 8 (.t 7) (.t 14), none, [2, 1, 0, 1, 2]⟩])
    (.seq (.ops [
     ⟨some 15, .fieldAddr 1 (.t 7), none, []⟩,
     ⟨some 16, .load false 1 (.t 15), none, [0]⟩,
     ⟨some 17, .mv (.t 1), none, []⟩,
     ⟨some 18, .bin .eql none (.t 16) (.t 17), none, [1, 2]⟩,
     ⟨some 19, .mv (.t 18), none, [3]⟩,
     ⟨some 20, .fieldAddr 7 (.t 7), some (19, true), [4]⟩,
     ⟨some 21, .load false 1 (.t 20), some (19, true), [5, 4]⟩,
     ⟨some 22, .bin .neq none (.t 21) (.c (.pv (.int .i64 0))), some (19, true), [6, 4]⟩,
     ⟨some 23, .pick (.t 19) (.t 22) (.c (.pv (.bool false))), none, [4, 7]⟩])
    (.cond (.t 23)
     (.ops [
       ⟨some 24, .mv (.t 5), none, []⟩,
       ⟨some 25, .bin .add none (.t 24) (.c (.pv (.int .i64 1))), none, [0]⟩,
       ⟨some 5, .mv (.t 25), none, [1, 0, 1]⟩])
     .skip))))
  (.ops [
   ⟨some 26, .bin .add none (.t 11) (.c (.pv (.int .i64 1))), none, []⟩,
   ⟨some 11, .mv (.t 26), none, [0]⟩]))))
/-- dunnage/budget.Size -/
def f71 : AFunc := ⟨28, [.t 4],
 (.seq (.ops [
   ⟨some 2, .box (.t 0), none, []⟩,
   ⟨some 4, .mv (.c (.pv (.int .i64 0))), none, []⟩])
  (.seq (.ops [
   ⟨some 5, .mv (.c (.pv (.int .i64 0))), none, []⟩])
  (.seq (.seq (.ops [
   ⟨some 8, .fieldAddr 0 (.t 2), none, []⟩,
   ⟨some 9, .load false 1 (.t 8), none, [0]⟩,
   ⟨some 10, .len (.t 9), none, [1]⟩,
   ⟨some 11, .mv (.c (.pv (.int .i64 0))), none, []⟩])
  (.block 0
   (.loop f71l0)))
  (.seq (.ops [
   ⟨some 27, .mv (.t 5), none, []⟩,
   ⟨some 4, .mv (.t 27), none, [0, 0]⟩])
  .ret))))⟩

/-- dunnage/budget.Used -/
def f72 : AFunc := ⟨18, [.t 4],
 (.seq (.ops [
   ⟨some 2, .box (.t 0), none, []⟩,
   ⟨some 3, .box (.t 1), none, []⟩,
   ⟨some 4, .mv (.c (.pv .nili)), none, []⟩])
  (.seq (.seq (.ops [
   ⟨some 5, .fieldAddr 1 (.t 3), none, []⟩,
   ⟨some 6, .load false 1 (.t 5), none, [0]⟩,
   ⟨some 7, .fieldAddr 1 (.t 2), none, []⟩,
   ⟨some 8, .load false 1 (.t 7), none, [2]⟩,
   ⟨some 9, .bin .gtr none (.t 6) (.t 8), none, [1, 3]⟩,
   ⟨some 10, .mv (.t 9), none, [4]⟩,
   ⟨some 11, .fieldAddr 2 (.t 3), some (10, false), [5]⟩,
   ⟨some 12, .load false 1 (.t 11), some (10, false), [6, 5]⟩,
   ⟨some 13, .fieldAddr 2 (.t 2), some (10, false), [5]⟩,
   ⟨some 14, .load false 1 (.t 13), some (10, false), [8, 5]⟩,
   ⟨some 15, .bin .gtr none (.t 12) (.t 14), some (10, false), [7, 9, 5]⟩,
   ⟨some 16, .pick (.t 10) (.c (.pv (.bool true))) (.t 15), none, [5, 10]⟩])
  (.cond (.t 16)
   (.seq (.ops [
     ⟨some 17, .mkI 0 (.c (.pv (.int .i64 15))), none, []⟩,
     ⟨some 4, .mv (.t 17), none, [0, 0]⟩])
    .ret)
   .skip))
  (.seq (.ops [
   ⟨some 4, .mv (.c (.pv .nili)), none, []⟩])
  .ret)))⟩

def f102l0 : ACode :=
 (.seq (.seq (.ops [
   ⟨some 6, .mv (.t 3), none, []⟩,
   ⟨some 7, .bin .leq none (.t 6) (.c (.pv (.int .i64 17))), none, [0]⟩])
  (.cond (.t 7)
   .skip
   (.exit 0)))
  (.seq (.block 1
   (.seq (.ops [
     ⟨some 10, .mv (.t 0), none, []⟩,
     ⟨some 11, .mv (.t 3), none, []⟩,
     ⟨some 12, .mkI 0 (.t 11), none, [1]⟩,
     ⟨some 13, .bin .eql (some (.iface true)) (.t 10) (.t 12), none, [0, 2]⟩])
    (.cond (.t 13)
     (.seq (.ops [
       ⟨some 14, .mv (.t 3), none, []⟩,
       ⟨some 2, .mv (.t 14), none, [0, 0]⟩])
      .ret)
     .skip)))
  (.ops [
   ⟨some 8, .mv (.t 3), none, []⟩,
   ⟨some 9, .bin .add none (.t 8) (.c (.pv (.int .i64 1))), none, [0]⟩,
   ⟨some 3, .mv (.t 9), none, [1, 0, 1]⟩])))
/-- dunnage/dunnagelaw00.Code -/
def f102 : AFunc := ⟨15, [.t 2],
 (.seq (.ops [
   ⟨some 2, .mv (.c (.pv (.int .i64 0))), none, []⟩])
  (.seq (.seq (.ops [
   ⟨some 4, .mv (.t 0), none, []⟩,
   ⟨some 5, .bin .eql (some (.iface true)) (.t 4) (.c (.pv .nili)), none, [0]⟩])
  (.cond (.t 5)
   (.seq (.ops [
     ⟨some 2, .mv (.c (.pv (.int .i64 0))), none, []⟩])
    .ret)
   .skip))
  (.seq (.seq (.ops [
   ⟨some 3, .mv (.c (.pv (.int .i64 1))), none, []⟩])
  (.block 0
   (.loop f102l0)))
  (.seq (.ops [
   ⟨some 2, .mv (.c (.pv (.int .i64 (-1)))), none, []⟩])
  .ret))))⟩

/-- dunnage/dunnagelaw00.Is -/
def f103 : AFunc := ⟨46, [.t 6],
 (.seq (.ops [
   ⟨some 6, .mv (.c (.pv (.bool false))), none, []⟩])
  (.seq (.ops [
   ⟨some 7, .alloc [(.pv .nilp)], none, []⟩])
  (.seq (.ops [
   ⟨some 10, .mv (.t 0), none, []⟩,
   ⟨some 11, .mkI 2 (.t 7), none, []⟩,
   ⟨some 12, .call 266 [(.t 10), (.t 11)], none, [0, 1]⟩,
   ⟨some 8, .mv (.t 12), none, [2, 2, 0, 1, 2]⟩])
  (.seq (.seq (.ops [
   ⟨some 13, .mv (.t 8), none, []⟩,
   ⟨some 14, .not (.t 13), none, [0]⟩,
   ⟨some 15, .mv (.t 14), none, [1]⟩,
   ⟨some 16, .load false 1 (.t 7), some (15, false), [2]⟩,
   ⟨some 17, .bin .eql (some .ptr) (.t 16) (.c (.pv .nilp)), some (15, false), [3, 2]⟩,
   ⟨some 18, .pick (.t 15) (.c (.pv (.bool true))) (.t 17), none, [2, 4]⟩,
   ⟨some 19, .mv (.t 18), none, [5, 2]⟩,
   ⟨some 20, .mv (.t 0), some (19, false), [6]⟩,
   ⟨some 21, .load false 1 (.t 7), some (19, false), [6]⟩,
   ⟨some 22, .mkI 1 (.t 21), some (19, false), [8, 6]⟩,
   ⟨some 23, .bin .neq (some (.iface true)) (.t 20) (.t 22), some (19, false), [7, 9, 6]⟩,
   ⟨some 24, .pick (.t 19) (.c (.pv (.bool true))) (.t 23), none, [6, 10]⟩])
  (.cond (.t 24)
   (.seq (.ops [
     ⟨some 6, .mv (.c (.pv (.bool false))), none, []⟩])
    .ret)
   .skip))
  (.seq (.ops [
   ⟨some 25, .mv (.t 0), none, []⟩,
   ⟨some 26, .mv (.t 2), none, []⟩,
   ⟨some 27, .mkI 0 (.t 26), none, [1]⟩,
   ⟨some 28, .call 267 [(.t 25), (.t 27)], none, [0, 2]⟩,
   ⟨some 9, .mv (.t 28), none, [3, 3, 0, 1, 2, 3]⟩])
  (.seq (.ops [
   ⟨some 29, .mv (.t 9), none, []⟩,
   ⟨some 30, .mv (.t 29), none, [0]⟩,
   ⟨some 31, .load false 1 (.t 7), some (30, true), [1]⟩,
   ⟨some 32, .nilchk (.t 31), some (30, true), [2, 1]⟩,
   ⟨some 33, .fieldAddr 0 (.t 32), some (30, true), [3, 1]⟩,
   ⟨some 34, .load false 1 (.t 33), some (30, true), [4, 1]⟩,
   ⟨some 35, .mv (.t 1), some (30, true), [1]⟩,
   ⟨some 36, .bin .eql none (.t 34) (.t 35), some (30, true), [5, 6, 1]⟩,
   ⟨some 37, .pick (.t 30) (.t 36) (.c (.pv (.bool false))), none, [1, 7]⟩,
   ⟨some 38, .mv (.t 37), none, [8, 1]⟩,
   ⟨some 39, .load false 1 (.t 7), some (38, true), [9]⟩,
   ⟨some 40, .nilchk (.t 39), some (38, true), [10, 9]⟩,
   ⟨some 41, .fieldAddr 1 (.t 40), some (38, true), [11, 9]⟩,
   ⟨some 42, .load false 1 (.t 41), some (38, true), [12, 9]⟩,
   ⟨some 43, .mv (.t 2), some (38, true), [9]⟩,
   ⟨some 44, .bin .eql none (.t 42) (.t 43), some (38, true), [13, 14, 9]⟩,
   ⟨some 45, .pick (.t 38) (.t 44) (.c (.pv (.bool false))), none, [9, 15]⟩,
   ⟨some 6, .mv (.t 45), none, [16, 9, 0, 1, 2, 3, 4, 5, 6, 7, 8, 9, 10, 11, 12, 13, 14, 15, 16]⟩])
  .ret))))))⟩

/-- dunnage/dunnagelaw00.Told -/
def f105 : AFunc := ⟨17, [.t 6],
 (.seq (.ops [
   ⟨some 6, .mv (.c (.pv (.bool false))), none, []⟩])
  (.seq (.seq (.ops [
   ⟨some 7, .mv (.t 2), none, []⟩,
   ⟨some 8, .bin .lss none (.t 7) (.c (.pv (.int .i64 0))), none, [0]⟩])
  (.cond (.t 8)
   (.seq (.ops [
     ⟨some 9, .mv (.t 0), none, []⟩,
     ⟨some 10, .call 102 [(.t 9)], none, [0]⟩,
     ⟨some 11, .mv (.t 1), none, []⟩,
     ⟨some 12, .bin .eql none (.t 10) (.t 11), none, [1, 2]⟩,
     ⟨some 6, .mv (.t 12), none, [3, 1, 0, 1, 2, 3]⟩])
    .ret)
   .skip))
  (.seq (.ops [
   ⟨some 13, .mv (.t 0), none, []⟩,
   ⟨some 14, .mv (.t 2), none, []⟩,
   ⟨some 15, .mv (.t 1), none, []⟩,
   ⟨some 16, .call 103 [(.t 13), (.t 14), (.t 15)], none, [0, 1, 2]⟩,
   ⟨some 6, .mv (.t 16), none, [3, 3, 0, 1, 2, 3]⟩])
  .ret)))⟩

def f173l0 : ACode :=
 (.seq (.seq (.ops [
   ⟨some 8, .mv (.t 6), none, []⟩,
   ⟨some 9, .fieldAddr 1 (.t 2), none, []⟩,
   ⟨some 10, .load false 1 (.t 9), none, [1]⟩,
   ⟨some 11, .len (.t 10), none, [2]⟩,
   ⟨some 12, .bin .lss none (.t 8) (.t 11), none, [0, 3]⟩])
  (.cond (.t 12)
   .skip
   (.exit 0)))
  (.seq (.block 1
   (.seq (.draw [
     ⟨some 15, .load true 3 (.t 3), none, []⟩,
     ⟨some 16, .fieldAddr 1 (.t 2), none, []⟩,
     ⟨some 17, .load false 1 (.t 16), none, [1]⟩,
     ⟨some 18, .mv (.t 6), none, []⟩,
     ⟨some 19, .idxAddr 5 (.t 17) (.t 18), none, [2, 3]⟩,
     ⟨some 20, .fieldAddr 0 (.t 19), none, [4]⟩,
     ⟨some 21, .load false 1 (.t 20), none, [5]⟩,
     ⟨some 22, .call 176 [(.t 15), (.t 21)], none, [0, 6]⟩,
     ⟨some 7, .mv (.t 22), none, [7, 7, 0, 1, 2, 3, 4, 5, 6, 7]⟩])
    (.seq (.seq (.ops [
     ⟨some 23, .mv (.t 7), none, []⟩,
     ⟨some 24, .fieldAddr 1 (.t 2), none, []⟩,
     ⟨some 25, .load false 1 (.t 24), none, [1]⟩,
     ⟨some 26, .mv (.t 6), none, []⟩,
     ⟨some 27, .idxAddr 5 (.t 25) (.t 26), none, [2, 3]⟩,
     ⟨some 28, .fieldAddr 3 (.t 27), none, [4]⟩,
     ⟨some 29, .load false 1 (.t 28), none, [5]⟩,
     ⟨some 30, .bin .lss none (.t 23) (.t 29), none, [0, 6]⟩])
    (.cond (.t 30)
     (.seq (.ops [
       ⟨some 31, .mv (.t 6), none, []⟩,
       ⟨some 4, .mv (.c (.pv (.int .i64 12))), none, []⟩,
       ⟨some 5, .mv (.t 31), none, [0, 1, 0, 1]⟩])
      .ret)
     .skip))
    (.seq (.ops [
     ⟨some 32, .mv (.t 7), none, []⟩,
     ⟨some 33, .fieldAddr 1 (.t 2), none, []⟩,
     ⟨some 34, .load false 1 (.t 33), none, [1]⟩,
     ⟨some 35, .mv (.t 6), none, []⟩,
     ⟨some 36, .idxAddr 5 (.t 34) (.t 35), none, [2, 3]⟩,
     ⟨some 37, .fieldAddr 4 (.t 36), none, [4]⟩,
     ⟨some 38, .load false 1 (.t 37), none, [5]⟩,
     ⟨some 39, .bin .gtr none (.t 32) (.t 38), none, [0, 6]⟩])
    (.cond (.t 39)
     (.seq (.ops [
       ⟨some 40, .mv (.t 6), none, []⟩,
       ⟨some 4, .mv (.c (.pv (.int .i64 13))), none, []⟩,
       ⟨some 5, .mv (.t 40), none, [0, 1, 0, 1]⟩])
      .ret)
     .skip)))))
  (.ops [
   ⟨some 13, .mv (.t 6), none, []⟩,
   ⟨some 14, .bin .add none (.t 13) (.c (.pv (.int .i64 1))), none, [0]⟩,
   ⟨some 6, .mv (.t 14), none, [1, 0, 1]⟩])))
/-- dunnage/dunnageref07.Budget -/
def f173 : AFunc := ⟨41, [.t 4, .t 5],
 (.seq (.ops [
   ⟨some 2, .box (.t 0), none, []⟩,
   ⟨some 3, .box (.t 1), none, []⟩,
   ⟨some 4, .mv (.c (.pv (.int .i64 0))), none, []⟩,
   ⟨some 5, .mv (.c (.pv (.int .i64 0))), none, [2]⟩])
  (.seq (.seq (.ops [
   ⟨some 6, .mv (.c (.pv (.int .i64 0))), none, []⟩])
  (.block 0
   (.loop f173l0)))
  (.seq (.ops [
   ⟨some 4, .mv (.c (.pv (.int .i64 0))), none, []⟩,
   ⟨some 5, .mv (.c (.pv (.int .i64 (-1)))), none, [0, 0]⟩])
  .ret)))⟩

def f176l0 : ACode :=
 (.seq (.seq (.ops [
   ⟨some 7, .mv (.t 6), none, []⟩,
   ⟨some 8, .fieldAddr 0 (.t 2), none, []⟩,
   ⟨some 9, .load false 1 (.t 8), none, [1]⟩,
   ⟨some 10, .len (.t 9), none, [2]⟩,
   ⟨some 11, .bin .lss none (.t 7) (.t 10), none, [0, 3]⟩])
  (.cond (.t 11)
   .skip
   (.exit 0)))
  (.seq (.block 1
   (.seq (.ops [
     ⟨some 14, .fieldAddr 0 (.t 2), none, []⟩,
     ⟨some 15, .load false 1 (.t 14), none, [0]⟩,
     ⟨some 16, .mv (.t 6), none, []⟩,
     ⟨some 17, .idxAddr 8 (.t 15) (.t 16), none, [1, 2]⟩,
     ⟨some 18, .fieldAddr 1 (.t 17), none, [3]⟩,
     ⟨some 19, .load false 1 (.t 18), none, [4]⟩,
     ⟨some 20, .mv (.t 1), none, []⟩,
     ⟨some 21, .bin .eql none (.t 19) (.t 20), none, [5, 6]⟩,
     ⟨some 22, .mv (.t 21), none, [7]⟩,
     ⟨some 23, .fieldAddr 0 (.t 2), some (22, true), [8]⟩,
     ⟨some 24, .load false 1 (.t 23), some (22, true), [9, 8]⟩,
     ⟨some 25, .mv (.t 6), some (22, true), [8]⟩,
     ⟨some 26, .idxAddr 8 (.t 24) (.t 25), some (22, true), [10, 11, 8]⟩,
     ⟨some 27, .fieldAddr 7 (.t 26), some (22, true), [12, 8]⟩,
     ⟨some 28, .load false 1 (.t 27), some (22, true), [13, 8]⟩,
     ⟨some 29, .bin .neq none (.t 28) (.c (.pv (.int .i64 0))), some (22, true), [14, 8]⟩,
     ⟨some 30, .pick (.t 22) (.t 29) (.c (.pv (.bool false))), none, [8, 15]⟩])
    (.cond (.t 30)
     (.ops [
       ⟨some 31, .mv (.t 5), none, []⟩,
       ⟨some 32, .bin .add none (.t 31) (.c (.pv (.int .i64 1))), none, [0]⟩,
       ⟨some 5, .mv (.t 32), none, [1, 0, 1]⟩])
     .skip)))
  (.ops [
   ⟨some 12, .mv (.t 6), none, []⟩,
   ⟨some 13, .bin .add none (.t 12) (.c (.pv (.int .i64 1))), none, [0]⟩,
   ⟨some 6, .mv (.t 13), none, [1, 0, 1]⟩])))
/-- dunnage/dunnageref07.Size -/
def f176 : AFunc := ⟨34, [.t 4],
 (.seq (.ops [
   ⟨some 2, .box (.t 0), none, []⟩,
   ⟨some 4, .mv (.c (.pv (.int .i64 0))), none, []⟩])
  (.seq (.ops [
   ⟨some 5, .mv (.c (.pv (.int .i64 0))), none, []⟩])
  (.seq (.seq (.ops [
   ⟨some 6, .mv (.c (.pv (.int .i64 0))), none, []⟩])
  (.block 0
   (.loop f176l0)))
  (.seq (.ops [
   ⟨some 33, .mv (.t 5), none, []⟩,
   ⟨some 4, .mv (.t 33), none, [0, 0]⟩])
  .ret))))⟩

/-- dunnage/dunnageref07.Used -/
def f179 : AFunc := ⟨17, [.t 4],
 (.seq (.ops [
   ⟨some 2, .box (.t 0), none, []⟩,
   ⟨some 3, .box (.t 1), none, []⟩,
   ⟨some 4, .mv (.c (.pv (.bool false))), none, []⟩])
  (.seq (.ops [
   ⟨some 5, .fieldAddr 1 (.t 3), none, []⟩,
   ⟨some 6, .load false 1 (.t 5), none, [0]⟩,
   ⟨some 7, .fieldAddr 1 (.t 2), none, []⟩,
   ⟨some 8, .load false 1 (.t 7), none, [2]⟩,
   ⟨some 9, .bin .gtr none (.t 6) (.t 8), none, [1, 3]⟩,
   ⟨some 10, .mv (.t 9), none, [4]⟩,
   ⟨some 11, .fieldAddr 2 (.t 3), some (10, false), [5]⟩,
   ⟨some 12, .load false 1 (.t 11), some (10, false), [6, 5]⟩,
   ⟨some 13, .fieldAddr 2 (.t 2), some (10, false), [5]⟩,
   ⟨some 14, .load false 1 (.t 13), some (10, false), [8, 5]⟩,
   ⟨some 15, .bin .gtr none (.t 12) (.t 14), some (10, false), [7, 9, 5]⟩,
   ⟨some 16, .pick (.t 10) (.c (.pv (.bool true))) (.t 15), none, [5, 10]⟩,
   ⟨some 4, .mv (.t 16), none, [11, 5, 0, 1, 2, 3, 4, 5, 6, 7, 8, 9, 10, 11]⟩])
  .ret))⟩

/-- dunnage/dunnagelaw09.BudgetTells -/
def f316 : AFunc := ⟨67, [.t 8],
 (.seq (.ops [
   ⟨some 4, .box (.t 0), none, []⟩,
   ⟨some 5, .box (.t 1), none, []⟩,
   ⟨some 6, .box (.t 2), none, []⟩,
   ⟨some 8, .mv (.c (.pv (.bool false))), none, []⟩])
  (.seq (.ops [
   ⟨some 15, .call 317 [], none, []⟩,
   ⟨some 9, .mv (.t 15), none, [0, 0, 0]⟩])
  (.seq (.ops [
   ⟨some 16, .load true 3 (.t 4), none, []⟩,
   ⟨some 17, .load true 3 (.t 5), none, []⟩,
   ⟨some 18, .load true 3 (.t 6), none, []⟩,
   ⟨some 19, .call 163 [(.t 16), (.t 17), (.t 18)], none, [0, 1, 2]⟩,
   ⟨some 10, .mv (.t 19), none, [3, 3, 0, 1, 2, 3]⟩])
  (.seq (.seq (.ops [
   ⟨some 20, .mv (.t 10), none, []⟩,
   ⟨some 21, .not (.t 20), none, [0]⟩])
  (.cond (.t 21)
   (.seq (.ops [
     ⟨some 22, .mv (.t 9), none, []⟩,
     ⟨some 8, .mv (.t 22), none, [0, 0]⟩])
    .ret)
   .skip))
  (.seq (.ops [
   ⟨some 24, .load true 3 (.t 4), none, []⟩,
   ⟨some 25, .load true 3 (.t 6), none, []⟩,
   ⟨some 26, .call 173 [(.t 24), (.t 25)], none, [0, 1]⟩,
   ⟨some 23, .mv (.t 26), none, [2]⟩,
   ⟨some 27, .extract (.t 23) 0, none, [3]⟩,
   ⟨some 28, .extract (.t 23) 1, none, [3]⟩,
   ⟨some 11, .mv (.t 27), none, [4, 2, 0, 1, 2, 3, 4]⟩,
   ⟨some 12, .mv (.t 28), none, [5, 6, 0, 1, 2, 3, 4, 5, 6]⟩])
  (.seq (.ops [
   ⟨some 29, .load true 3 (.t 5), none, []⟩,
   ⟨some 30, .load true 3 (.t 6), none, []⟩,
   ⟨some 31, .call 179 [(.t 29), (.t 30)], none, [0, 1]⟩,
   ⟨some 13, .mv (.t 31), none, [2, 2, 0, 1, 2]⟩])
  (.seq (.ops [
   ⟨some 32, .load true 3 (.t 5), none, []⟩,
   ⟨some 33, .load true 3 (.t 6), none, []⟩,
   ⟨some 34, .call 72 [(.t 32), (.t 33)], none, [0, 1]⟩,
   ⟨some 14, .mv (.t 34), none, [2, 2, 0, 1, 2]⟩])
  (.seq (.seq (.ops [
   ⟨some 35, .mv (.t 13), none, []⟩,
   ⟨some 36, .mv (.t 35), none, [0]⟩,
   ⟨some 37, .mv (.t 14), some (36, true), [1]⟩,
   ⟨some 38, .mkI 0 (.c (.pv (.int .i64 15))), some (36, true), [1]⟩,
   ⟨some 39, .bin .neq (some (.iface true)) (.t 37) (.t 38), some (36, true), [2, 3, 1]⟩,
   ⟨some 40, .pick (.t 36) (.t 39) (.c (.pv (.bool false))), none, [1, 4]⟩,
   ⟨some 41, .mv (.t 40), none, [5, 1]⟩,
   ⟨some 42, .mv (.t 13), some (41, false), [6]⟩,
   ⟨some 43, .not (.t 42), some (41, false), [7, 6]⟩,
   ⟨some 44, .mv (.t 43), some (41, false), [8, 6, 6]⟩,
   ⟨some 45, .mv (.t 14), some (44, true), [9]⟩,
   ⟨some 46, .bin .neq (some (.iface true)) (.t 45) (.c (.pv .nili)), some (44, true), [10, 9]⟩,
   ⟨some 47, .pick (.t 44) (.t 46) (.c (.pv (.bool false))), some (41, false), [9, 11, 6]⟩,
   ⟨some 48, .pick (.t 41) (.c (.pv (.bool true))) (.t 47), none, [6, 12]⟩])
  (.cond (.t 48)
   (.seq (.ops [
     ⟨some 8, .mv (.c (.pv (.bool false))), none, []⟩])
    .ret)
   .skip))
  (.seq (.draw [
   ⟨some 49, .mv (.t 9), none, []⟩,
   ⟨some 50, .mv (.t 49), none, [0]⟩,
   ⟨some 51, .load true 3 (.t 6), some (50, true), [1]⟩,
   ⟨some 52, .mv (.t 3), some (50, true), [1]⟩,
   ⟨some 53, .call 71 [(.t 51), (.t 52)], some (50, true), [2, 3, 1, 1]⟩,
   ⟨some 54, .load true 3 (.t 6), some (50, true), [1]⟩,
   ⟨some 55, .mv (.t 3), some (50, true), [1]⟩,
   ⟨some 56, .call 176 [(.t 54), (.t 55)], some (50, true), [5, 6, 4, 1]⟩,
   ⟨some 57, .bin .eql none (.t 53) (.t 56), some (50, true), [4, 7, 1]⟩,
   ⟨some 58, .pick (.t 50) (.t 57) (.c (.pv (.bool false))), none, [1, 8]⟩,
   ⟨some 59, .mv (.t 58), none, [9, 7]⟩,
   ⟨some 60, .load true 3 (.t 4), some (59, true), [10]⟩,
   ⟨some 61, .load true 3 (.t 6), some (59, true), [10]⟩,
   ⟨some 62, .call 70 [(.t 60), (.t 61)], some (59, true), [11, 12, 10, 10]⟩,
   ⟨some 63, .mv (.t 11), some (59, true), [10]⟩,
   ⟨some 64, .mv (.t 12), some (59, true), [10]⟩,
   ⟨some 65, .call 105 [(.t 62), (.t 63), (.t 64)], some (59, true), [13, 14, 15, 13, 10]⟩,
   ⟨some 66, .pick (.t 59) (.t 65) (.c (.pv (.bool false))), none, [10, 16]⟩,
   ⟨some 8, .mv (.t 66), none, [17, 16, 0, 1, 2, 3, 4, 5, 6, 7, 8, 9, 10, 11, 12, 13, 14, 15, 16, 17]⟩])
  .ret)))))))))⟩

/-- dunnage/dunnagelaw09.up -/
def f317 : AFunc := ⟨22, [.t 0],
 (.seq (.ops [
   ⟨some 0, .mv (.c (.pv (.bool false))), none, []⟩])
  (.seq (.ops [
   ⟨some 2, .build [(.pv (.int .i64 0)), (.pv (.bool false)), (.pv (.int .i64 0)), (.pv (.int .i64 0)), (.pv (.int .i64 0))] [(0, 1, (.c (.pv (.int .i64 2)))), (3, 1, (.c (.pv (.int .i64 1)))), (4, 1, (.c (.pv (.int .i64 1))))], none, []⟩,
   ⟨some 3, .bslice 5 1 [(.pv (.int .i64 0)), (.pv (.bool false)), (.pv (.int .i64 0)), (.pv (.int .i64 0)), (.pv (.int .i64 0))] [(0, 5, (.t 2))], none, [0]⟩,
   ⟨some 4, .build [.nils, .nils, .nils] [(1, 1, (.t 3))], none, [1]⟩,
   ⟨some 1, .alloc [.nils, .nils, .nils], none, []⟩,
   ⟨none, .store 3 (.t 1) (.t 4), none, [3, 2, 0, 1, 2, 3]⟩])
  (.seq (.ops [
   ⟨some 5, .load true 3 (.t 1), none, []⟩,
   ⟨some 6, .build [.nils, (.pv (.int .i64 0)), (.pv (.int .i64 0))] [], none, []⟩,
   ⟨some 7, .call 70 [(.t 5), (.t 6)], none, [0, 1]⟩,
   ⟨some 8, .call 103 [(.t 7), (.c (.pv (.int .i64 0))), (.c (.pv (.int .i64 12)))], none, [2, 2]⟩,
   ⟨some 9, .mv (.t 8), none, [3, 3]⟩,
   ⟨some 10, .build [.nils, (.pv (.int .i64 0)), (.pv (.int .i64 0))] [], some (9, true), [4]⟩,
   ⟨some 11, .build [.nils, (.pv (.int .i64 0)), (.pv (.int .i64 0))] [(2, 1, (.c (.pv (.int .i64 1))))], some (9, true), [4]⟩,
   ⟨some 12, .call 72 [(.t 10), (.t 11)], some (9, true), [5, 6, 4, 4]⟩,
   ⟨some 13, .mkI 0 (.c (.pv (.int .i64 15))), some (9, true), [4]⟩,
   ⟨some 14, .bin .eql (some (.iface true)) (.t 12) (.t 13), some (9, true), [7, 8, 4]⟩,
   ⟨some 15, .pick (.t 9) (.t 14) (.c (.pv (.bool false))), none, [4, 9]⟩,
   ⟨some 16, .mv (.t 15), none, [10, 7]⟩,
   ⟨some 17, .build [.nils, (.pv (.int .i64 0)), (.pv (.int .i64 0))] [], some (16, true), [11]⟩,
   ⟨some 18, .build [.nils, (.pv (.int .i64 0)), (.pv (.int .i64 0))] [], some (16, true), [11]⟩,
   ⟨some 19, .call 72 [(.t 17), (.t 18)], some (16, true), [12, 13, 11, 11]⟩,
   ⟨some 20, .bin .eql (some (.iface true)) (.t 19) (.c (.pv .nili)), some (16, true), [14, 11]⟩,
   ⟨some 21, .pick (.t 16) (.t 20) (.c (.pv (.bool false))), none, [11, 15]⟩,
   ⟨some 0, .mv (.t 21), none, [16, 14, 0, 1, 2, 3, 4, 5, 6, 7, 8, 9, 10, 11, 12, 13, 14, 15, 16]⟩])
  .ret)))⟩
end Go.Proofs.YtmeigdjfcecidaaDoor.Ab
/- A slice's comparison with nil, of which a value does not tell; slices.Clone. -/
set_option linter.unusedVariables false
set_option linter.unusedSimpArgs false
namespace Go.Proofs.YtmeigdjfcecidaaDoor.Ab
open Go

section
variable {E : Env} {N : Nat}

theorem qs_nx (d : Nat) {P : Program} {w : World} {t : TypeId} {e n m} (h : P.underlying t = some (.slice e)) : (Op.equalIn (d + 1) t (.slice none n m) (.slice none 0 0)).run P w = .ok true w := by simp [Op.equalIn, run_underlying h]
/-- A slice against nil: it is one of both; where it has elements it is no. -/
theorem WPo.nilAny {d : Nat} {x y : AO} {es : List (List PV)} {ds : List Nat} {l : List AOper} {Q : St → Prop} {st : St} (hE' : E.OK) (hx : evO (look st.fr) x = .pv (.slice es)) (hy : evO (look st.fr) y = .nils)
    (h : ∀ b, (es ≠ [] → b = false) → WPo E N l Q ⟨putS st (some d) (.pv (.bool b)), st.hp, st.nx⟩) : WPo E N (⟨some d, .bin .eql (some .slice) x y, none, ds⟩ :: l) Q st := by
  intro ops k hk hl X M a w Q' hE hN R hq
  obtain ⟨o, ho, hc⟩ := hl 0 _ rfl
  obtain ⟨h1, h2, h3, h4⟩ := cOper_spec hc
  simp only [List.length_cons, List.range'_succ]
  rw [wpOps_cons]
  unfold wpOp
  rw [show ops[k]? = some o from ho]
  simp only
  have hw := guard_ok (X := X) (o := o) (b := true) R (by rw [hN]; exact h4) rfl
  rw [if_pos hw]
  left
  subst hE
  obtain ⟨t, x', y', u, hop, hcx, hcy, hkk⟩ := inv_bin h1
  obtain ⟨dd, hd, e, rfl⟩ := eqK_spec hkk.symm
  have vx := cO_ok hE' R hcx
  have vy := cO_ok hE' R hcy
  rw [hx] at vx
  rw [hy] at vy
  simp only [VA, VP] at vx vy
  obtain ⟨ad, len, cap, e1, e2, e3, e4⟩ := vx
  have hex : execOp a.eval o = (do pure (Next.value (← (do eqGuard .eql t x' y' (a.eval x') (a.eval y'); binOp .eql t (a.eval x') (a.eval y')))) : Sem Next) := by
    unfold execOp
    rw [hop]
  have hrun : ∃ b, (es ≠ [] → b = false) ∧ (execOp a.eval o).run X.E.P w = .ok (.value (.bool b)) w := by
    rw [hex, e1, vy]
    have hg : (eqGuard .eql t x' y' (.slice ad len cap) (.slice none 0 0)).run X.E.P w = .ok () w := by
      unfold eqGuard
      simp only [Bool.not_true, Bool.false_eq_true, if_false]
      rfl
    have hb : ∀ b, (Op.equalIn 10000 t (.slice ad len cap) (.slice none 0 0)).run X.E.P w = .ok b w → (binOp .eql t (.slice ad len cap) (.slice none 0 0)).run X.E.P w = .ok (.bool b) w := by
      intro b hb
      simp only [binOp]
      rw [rb (show (Op.equal t (.slice ad len cap) (.slice none 0 0)).run X.E.P w = .ok b w from hb)]
      rfl
    cases ad with
    | none =>
      refine ⟨true, fun hne => ?_, r_value (by rw [rb hg]; exact hb true (qs_nx _ hd))⟩
      obtain ⟨b, o, sz, hh, _⟩ := e4 (by cases es <;> simp at hne ⊢)
      simp at hh
    | some ad =>
      exact ⟨false, fun _ => rfl, r_value (by rw [rb hg]; exact hb false (qs_pn _ hd))⟩
  obtain ⟨b, hb1, hb2⟩ := hrun
  rw [Oper.wp, hb2, Oper.upon_value]
  refine h b hb1 ops (k + 1) (by simp at hk; omega) (fun j y hy => ?_) X M _ _ Q' rfl hN ?_ hq
  · have := hl (j + 1) y (by simpa using hy)
    rwa [← Nat.add_assoc, Nat.add_right_comm] at this
  · unfold Rl
    simp only
    rw [look_put, show some d = o.dst from h2.symm]
    exact Rel.put R (by simp only [VA, VP]) (fun k hk => by rw [hN]; exact h3 k hk)

/-- slices.Clone of elements of so many cells. -/
def cloneF (sz b : Nat) : AFunc := ⟨8, [.t 2],
 (.seq (.ops [
   ⟨some 2, .mv (.c .nils), none, []⟩])
  (.seq (.seq (.ops [
   ⟨some 3, .mv (.t 0), none, []⟩,
   ⟨some 4, .bin .eql (some .slice) (.t 3) (.c .nils), none, [0]⟩])
  (.cond (.t 4)
   (.seq (.ops [
     ⟨some 2, .mv (.c .nils), none, []⟩])
    .ret)
   .skip))
  (.seq (.ops [
   ⟨some 5, .bslice sz 0 [] [], none, []⟩,
   ⟨some 6, .mv (.t 0), none, []⟩,
   ⟨some 7, .append sz b (.t 5) (.t 6), none, [0, 1]⟩,
   ⟨some 2, .mv (.t 7), none, [2, 2, 0, 1, 2]⟩])
  .ret)))⟩

def cloneP (sz : Nat) (args : List AV) (hp : Hl) (nx : Nat) : Option (AV × Hl × Nat) :=
  match args, hp with
  | [.pv (.slice [])], [] => some (.pv (.slice []), [], nx + 2)
  | [.pv (.slice (e :: r))], [] => if allLen sz (e :: r) = true ∧ (e :: r).length ≤ 2 ^ 30 then some (.ms (nx + 1), [(nx + 1, .row sz (e :: r))], nx + 2) else none
  | _, _ => none

/-- No functions at all. -/
def T0 : Tab := ⟨fun _ => none, fun _ => false, fun _ => false, fun _ => false, fun _ => false, fun _ => none⟩
theorem T0_tied : Tied E T0 := ⟨fun n f h1 h2 => by simp [T0] at h2, fun n g h => by simp [T0] at h⟩
theorem Wp_WP {T : Tab} (hE : E.OK) (hT : Tied E T) {s : Bool} {c : ACode} {st : St} {Q : Exit → St → Prop} (h : Wp T s c st Q) : WP E N c Q st := by
  obtain ⟨e, st', h1, h2⟩ := h
  obtain ⟨k0, hk⟩ := h1.late
  exact run_sound hE (den_sound hE hT k0) _ _ _ _ _ (hk k0 k0 (Nat.le_refl _) (Nat.le_refl _)) _ h2

theorem clone_raw {n sz b : Nat} (hE : E.OK) (hf : cFunc E n = some (cloneF sz b)) (args : List AV) (hp : Hl) (nx : Nat) (v : AV) (hp' : Hl) (nx' : Nat) (h : cloneP sz args hp nx = some (v, hp', nx')) : RawC E n args hp nx v hp' nx' := by
  have hT := @T0_tied E
  have key : ∃ es, args = [.pv (.slice es)] ∧ hp = [] := by
    unfold cloneP at h
    split at h
    · exact ⟨_, rfl, rfl⟩
    · exact ⟨_, rfl, rfl⟩
    · simp at h
  obtain ⟨es, rfl, rfl⟩ := key
  refine RawC.of_conv hE hf (by simp [cloneF]) ?_
  unfold cloneF
  simp only
  refine WP.seq (Wp_WP hE hT (s := false) ?_)
  rw [Wp_ops, WpO_cons]
  simp only [guardV, guardQ, opQ, evOp, evQ, evO, WpO_nil, thenQ]
  refine WP.seq (WP.seq (WP.ops hE ?_))
  refine doO_sound (T := T0) (C := D T0) hE (D_sound hE hT) (st1 := ⟨(3, .pv (.slice es)) :: (2, .nils) :: argsA 0 [.pv (.slice es)], [], nx⟩) rfl ?_
  refine WPo.nilAny (es := es) hE rfl rfl fun bb hbb => WPo.nil ?_
  simp only [thenQ]
  refine WP.cond (b := bb) hE rfl (fun hb => ?_) (fun hb => WP.skip ?_)
  · subst hb
    have hes : es = [] := Classical.byContradiction fun hh => by simpa using hbb hh
    subst hes
    refine Wp_WP hE hT (s := false) ?_
    simp only [cloneP, Option.some.injEq, Prod.mk.injEq] at h
    obtain ⟨rfl, rfl, rfl⟩ := h
    simp only [Wp_seq, Wp_ops, Wp_cond, Wp_skip, Wp_ret, Wp_exit, Wp_block, WpO_cons, WpO_nil, opQ, evOp, evO, evOs, evQ_some, guardV, guardQ_true, guardQ_false, boolQ_true, boolQ_false, argsA, pvs, putS, cellsOf, scals, scal, seqQ_normal, seqQ_ret, seqQ_exit, blkQ_normal, blkQ_ret, blkQ_exit, look_if, blkAt_if, if_true, if_false, Nat.reduceEqDiff, Nat.reduceAdd, true_implies, reduceCtorEq, false_implies, and_true, true_and, List.nil_append, List.cons_append, Bool.and_self, Nat.zero_add, Nat.add_zero, fieldA, nonNil, cellsAt, loadV_one, loadV_pvs, loadV_cons, mkAgg, allPV, List.drop_zero, List.drop_succ_cons, List.take_succ_cons, List.take_zero, List.length_cons, List.length_nil, Nat.beq_eq, storeB, patchL, beq_self_eq_true, ge_iff_le, gt_iff_lt, Int.reduceNeg, Int.reduceLE, Int.reduceLT, Int.reduceEq, extractV, List.getElem?_cons_zero, List.getElem?_cons_succ, mkAgg, Nat.add_eq_left, Nat.left_eq_add, Nat.one_ne_zero, ble_dec, beq_dec, decide_eq_true_eq, Nat.reduceLeDiff, Nat.le_refl, fillA, pureVs, pureV, beq_int, bne_int, Int.natCast_inj, eq_self, eqV, eqB, decide_true, decide_false, List.length_map, Int.toNat_natCast, List.getElem?_map, Option.map_some, Option.map_none, Int.natCast_nonneg, Option.some.injEq, lenV, binV, intBin, intV, idxA, ne_eq, not_true_eq_false, not_false_eq_true, List.drop, List.take, RetP, retP, resV, resOne, snapV, snapVs, snapR, snapRs, ownSz, pickV, cond_true, cond_false, bTT, bTF, bFT, bFF, Bool.not_true, Bool.not_false, AO.isC, Bool.or_true, Bool.true_or, Bool.or_false, Bool.false_or, WpE_cons, WpE_nil, opE, evE_some, guardE_true, guardE_false, WpD_cons, WpD_nil, opD, evD_some, guardD_true, guardD_false, thenQ]
    refine ⟨.inl trivial, _, rfl, fun X M F a w u hX R hu => ⟨R.used_mono fun i hi => by show i < nx + 2; have : i < nx := hi; omega, ?_⟩⟩
    simp only [VA] at hu
    subst hu
    simp only [VA, VP]
    exact ⟨none, 0, 0, rfl, rfl, Nat.le_refl _, fun h => by simp at h⟩
  · subst hb
    simp only [thenQ]
    refine Wp_WP hE hT (s := false) ?_
    cases es with
    | nil =>
      simp only [cloneP, Option.some.injEq, Prod.mk.injEq] at h
      obtain ⟨rfl, rfl, rfl⟩ := h
      simp only [Wp_seq, Wp_ops, Wp_cond, Wp_skip, Wp_ret, Wp_exit, Wp_block, WpO_cons, WpO_nil, opQ, evOp, evO, evOs, evQ_some, guardV, guardQ_true, guardQ_false, boolQ_true, boolQ_false, argsA, pvs, putS, cellsOf, scals, scal, seqQ_normal, seqQ_ret, seqQ_exit, blkQ_normal, blkQ_ret, blkQ_exit, look_if, blkAt_if, if_true, if_false, Nat.reduceEqDiff, Nat.reduceAdd, true_implies, reduceCtorEq, false_implies, and_true, true_and, List.nil_append, List.cons_append, Bool.and_self, Nat.zero_add, Nat.add_zero, fieldA, nonNil, cellsAt, loadV_one, loadV_pvs, loadV_cons, mkAgg, allPV, List.drop_zero, List.drop_succ_cons, List.take_succ_cons, List.take_zero, List.length_cons, List.length_nil, Nat.beq_eq, storeB, patchL, beq_self_eq_true, ge_iff_le, gt_iff_lt, Int.reduceNeg, Int.reduceLE, Int.reduceLT, Int.reduceEq, extractV, List.getElem?_cons_zero, List.getElem?_cons_succ, mkAgg, Nat.add_eq_left, Nat.left_eq_add, Nat.one_ne_zero, ble_dec, beq_dec, decide_eq_true_eq, Nat.reduceLeDiff, Nat.le_refl, fillA, pureVs, pureV, beq_int, bne_int, Int.natCast_inj, eq_self, eqV, eqB, decide_true, decide_false, List.length_map, Int.toNat_natCast, List.getElem?_map, Option.map_some, Option.map_none, Int.natCast_nonneg, Option.some.injEq, lenV, binV, intBin, intV, idxA, ne_eq, not_true_eq_false, not_false_eq_true, List.drop, List.take, RetP, retP, resV, resOne, snapV, snapVs, snapR, snapRs, ownSz, pickV, cond_true, cond_false, bTT, bTF, bFT, bFF, Bool.not_true, Bool.not_false, AO.isC, Bool.or_true, Bool.true_or, Bool.or_false, Bool.false_or, WpE_cons, WpE_nil, opE, evE_some, guardE_true, guardE_false, WpD_cons, WpD_nil, opD, evD_some, guardD_true, guardD_false, fillA, partsScal, chunk, srcV, baseV, appV, allLen, List.all_nil, beq_self, Nat.reducePow, Nat.zero_le]
      refine ⟨.inl trivial, _, rfl, fun X M F a w u hX R hu => ?_⟩
      have e1 : wr (blkAt [(nx, .dead), (nx + 1, .row sz []), (nx, .row sz [])]) [(nx + 1, .dead)] = blkAt [] := by
        funext i
        rw [← blkAt_wr]
        simp only [List.cons_append, List.nil_append, blkAt]
        by_cases h1 : nx + 1 = i
        · subst h1; rw [beq_self]; rfl
        · rw [beq_ne h1]
          by_cases h2 : nx = i
          · subst h2; rw [beq_self]; rfl
          · rw [beq_ne h2]; rfl
      have e2 : blkAt [(nx, .dead), (nx + 1, .row sz []), (nx, .row sz [])] (nx + 1) = .row sz [] := by
        simp only [blkAt]
        rw [beq_ne (by omega : nx ≠ nx + 1), beq_self]
        rfl
      have R1 := R.kill (nx + 1)
      rw [e1] at R1
      refine ⟨R1, ?_⟩
      have Rb : Rl X M ⟨[], [(nx, .dead), (nx + 1, .row sz []), (nx, .row sz [])], nx + 2⟩ a w := { R with fr := fun t => by simp only [look, VA] }
      have := Rb.frzA (nx + 1) (args := [.ms (nx + 1)]) (vs := [u]) (by simp only [VAs]; exact ⟨u, [], rfl, hu, rfl⟩)
      have e3 : frzA (nx + 1) ⟨[], [(nx, .dead), (nx + 1, .row sz []), (nx, .row sz [])], nx + 2⟩ [.ms (nx + 1)] = [.pv (.slice [])] := by
        simp only [Ab.frzA, e2, frzVs, frzV, beq_self, cond_true]
      have e4 : frzS (nx + 1) ⟨[], [(nx, .dead), (nx + 1, .row sz []), (nx, .row sz [])], nx + 2⟩ = ⟨[], [(nx + 1, .dead), (nx, .dead), (nx + 1, .row sz []), (nx, .row sz [])], nx + 2⟩ := by
        simp only [frzS, e2, frzF, frzH, frzB]
      rw [e3, e4] at this
      have e5 : blkAt [(nx + 1, .dead), (nx, .dead), (nx + 1, .row sz []), (nx, .row sz [])] = blkAt [] := by
        funext i
        have := congrFun e1 i
        rw [← blkAt_wr] at this
        exact this
      simp only [e5] at this
      simp only [VAs] at this
      obtain ⟨u', us', h1, h2, h3⟩ := this
      simp only [List.cons.injEq] at h1
      rw [h1.1]
      exact h2
    | cons e r =>
      simp only [cloneP] at h
      split at h
      · rename_i hc
        simp only [Option.some.injEq, Prod.mk.injEq] at h
        obtain ⟨rfl, rfl, rfl⟩ := h
        have h1 : (List.all (e :: r) fun e => decide (e.length = sz)) = true := by simpa only [allLen, beq_dec] using hc.1
        have h2 : r.length + 1 ≤ 2 ^ 30 := hc.2
        simp only [Wp_seq, Wp_ops, Wp_cond, Wp_skip, Wp_ret, Wp_exit, Wp_block, WpO_cons, WpO_nil, opQ, evOp, evO, evOs, evQ_some, guardV, guardQ_true, guardQ_false, boolQ_true, boolQ_false, argsA, pvs, putS, cellsOf, scals, scal, seqQ_normal, seqQ_ret, seqQ_exit, blkQ_normal, blkQ_ret, blkQ_exit, look_if, blkAt_if, if_true, if_false, Nat.reduceEqDiff, Nat.reduceAdd, true_implies, reduceCtorEq, false_implies, and_true, true_and, List.nil_append, List.cons_append, Bool.and_self, Nat.zero_add, Nat.add_zero, fieldA, nonNil, cellsAt, loadV_one, loadV_pvs, loadV_cons, mkAgg, allPV, List.drop_zero, List.drop_succ_cons, List.take_succ_cons, List.take_zero, List.length_cons, List.length_nil, Nat.beq_eq, storeB, patchL, beq_self_eq_true, ge_iff_le, gt_iff_lt, Int.reduceNeg, Int.reduceLE, Int.reduceLT, Int.reduceEq, extractV, List.getElem?_cons_zero, List.getElem?_cons_succ, mkAgg, Nat.add_eq_left, Nat.left_eq_add, Nat.one_ne_zero, ble_dec, beq_dec, decide_eq_true_eq, Nat.reduceLeDiff, Nat.le_refl, fillA, pureVs, pureV, beq_int, bne_int, Int.natCast_inj, eq_self, eqV, eqB, decide_true, decide_false, List.length_map, Int.toNat_natCast, List.getElem?_map, Option.map_some, Option.map_none, Int.natCast_nonneg, Option.some.injEq, lenV, binV, intBin, intV, idxA, ne_eq, not_true_eq_false, not_false_eq_true, List.drop, List.take, RetP, retP, resV, resOne, snapV, snapVs, snapR, snapRs, ownSz, pickV, cond_true, cond_false, bTT, bTF, bFT, bFF, Bool.not_true, Bool.not_false, AO.isC, Bool.or_true, Bool.true_or, Bool.or_false, Bool.false_or, WpE_cons, WpE_nil, opE, evE_some, guardE_true, guardE_false, WpD_cons, WpD_nil, opD, evD_some, guardD_true, guardD_false, fillA, partsScal, chunk, srcV, baseV, appV, allLen, h1, h2, beq_self]
        refine ⟨.inl trivial, _, rfl, fun X M F a w u hX R hu => ?_⟩
        have : blkAt [(nx, .dead), (nx + 1, .row sz (e :: r)), (nx, .row sz [])] = blkAt [(nx + 1, .row sz (e :: r))] := by
          funext i
          simp only [blkAt]
          by_cases hi : nx = i
          · subst hi
            rw [beq_self, beq_ne (by omega : nx + 1 ≠ nx)]
            rfl
          · rw [beq_ne hi]
            rfl
        simp only [this] at R hu
        exact ⟨R, hu⟩
      · simp at h
end
end Go.Proofs.YtmeigdjfcecidaaDoor.Ab
/- What a reading of a law's arguments tells: they are pure values of their types' shapes. -/
set_option linter.unusedVariables false
set_option linter.unusedSimpArgs false
namespace Go.Proofs.YtmeigdjfcecidaaDoor.Ab
open Go

/-- A cell's shape. -/
inductive Sh where
  | bo
  | nu (k : IntKind)
  | st
  | sl (es : List Sh)

/-- No slice in it. -/
def Sh.flat : Sh → Bool
  | .sl _ => false
  | _ => true

section
variable (P : Program)
def shFs (rec : TypeId → Option (List Sh)) : Nat → List Field → Option (List Sh)
  | _, [] => some []
  | off, f :: r => match rec f.type with
    | some s => if f.offset = off ∧ s.length = P.cellsOf f.type then match shFs rec (off + s.length) r with
        | some ss => some (s ++ ss)
        | none => none
      else none
    | none => none
def shRep (s : List Sh) : Nat → List Sh
  | 0 => []
  | n + 1 => s ++ shRep s n
/-- The shapes of a type's cells. -/
def shOf : Nat → TypeId → Option (List Sh)
  | 0, _ => none
  | n + 1, t => match P.underlying t with
    | some .bool => some [.bo]
    | some (.int k) => some [.nu k]
    | some .string => some [.st]
    | some (.slice e) => match shOf n e with
      | some es => if es.all Sh.flat = true ∧ es.length = P.cellsOf e ∧ 0 < es.length then some [.sl es] else none
      | none => none
    | some (.struct fs) => match shFs P (shOf n) 0 fs.toList with
      | some ss => if ss.length = P.cellsOf t then some ss else none
      | none => none
    | some (.array m e) => match shOf n e with
      | some es => if es.length = P.cellsOf e ∧ m * P.cellsOf e = P.cellsOf t then some (shRep es m) else none
      | none => none
    | _ => none
end

mutual
/-- A value of this shape. -/
def Fits : Sh → PV → Prop
  | .bo, p => ∃ x, p = .bool x
  | .nu k, p => ∃ n, p = .int k n ∧ (Lit.int k n).wf = true
  | .st, p => ∃ x, p = .str x ∧ x.size ≤ maxLen
  | .sl es, p => ∃ l : List (List PV), p = .slice l ∧ ∀ e ∈ l, FitsL es e
def FitsL : List Sh → List PV → Prop
  | [], ps => ps = []
  | s :: r, ps => ∃ p q, ps = p :: q ∧ Fits s p ∧ FitsL r q
end

theorem FitsL_append : ∀ {a b : List Sh} {p q : List PV}, FitsL a p → FitsL b q → FitsL (a ++ b) (p ++ q)
  | [], b, p, q, h1, h2 => by simp only [FitsL] at h1; subst h1; exact h2
  | s :: r, b, p, q, h1, h2 => by
    simp only [FitsL] at h1
    obtain ⟨x, y, rfl, h3, h4⟩ := h1
    simp only [List.cons_append, FitsL]
    exact ⟨x, y ++ q, rfl, h3, FitsL_append h4 h2⟩
theorem FitsL_length : ∀ {a : List Sh} {p : List PV}, FitsL a p → p.length = a.length
  | [], p, h => by simp only [FitsL] at h; subst h; rfl
  | s :: r, p, h => by
    simp only [FitsL] at h
    obtain ⟨x, y, rfl, h3, h4⟩ := h
    simp [FitsL_length h4]

theorem VPs_append {E : Env} {w : World} {ok : Nat → Prop} : ∀ {a b : List PV} {u v : List Value}, VPs E w ok a u → VPs E w ok b v → VPs E w ok (a ++ b) (u ++ v)
  | [], b, u, v, h1, h2 => by simp only [VPs] at h1; subst h1; exact h2
  | p :: r, b, u, v, h1, h2 => by
    simp only [VPs] at h1
    obtain ⟨x, y, rfl, h3, h4⟩ := h1
    simp only [List.cons_append, VPs]
    exact ⟨x, y ++ v, rfl, h3, VPs_append h4 h2⟩

section
variable {E : Env} {P : Program} {w : World} {H : Type} {enc : TypeId × Value → H} {base : Nat} {spare : Nat → Bool} {held : Bool}

/-- What an opening tells of a type's cells. -/
def Opens (E : Env) (w : World) (shs : List Sh) (cs : List Value) : Prop :=
  ∃ ps, FitsL shs ps ∧ VPs E w (fun b => b < w.heap.size) ps cs ∧ (∀ v ∈ cs, Scalar v) ∧ (shs.all Sh.flat = true → ∀ v ∈ cs, ∀ a l c, v ≠ .slice a l c)

theorem Opens.nil : Opens E w [] [] := ⟨[], rfl, by simp [VPs], by simp, by simp⟩
theorem Opens.append {a b : List Sh} {u v : List Value} (h1 : Opens E w a u) (h2 : Opens E w b v) : Opens E w (a ++ b) (u ++ v) := by
  obtain ⟨p, f1, v1, s1, l1⟩ := h1
  obtain ⟨q, f2, v2, s2, l2⟩ := h2
  refine ⟨p ++ q, FitsL_append f1 f2, VPs_append v1 v2, fun x hx => ?_, fun hf x hx => ?_⟩
  · rcases List.mem_append.1 hx with h | h
    · exact s1 x h
    · exact s2 x h
  · simp only [List.all_append, Bool.and_eq_true] at hf
    rcases List.mem_append.1 hx with h | h
    · exact l1 hf.1 x h
    · exact l2 hf.2 x h

theorem Opens.length {a : List Sh} {u : List Value} (h : Opens E w a u) : u.length = a.length := by
  obtain ⟨p, f1, v1, _⟩ := h
  rw [← FitsL_length f1]
  clear f1
  rename_i hh
  clear hh
  induction p generalizing u with
  | nil => simp only [VPs] at v1; subst v1; rfl
  | cons x r ih =>
    simp only [VPs] at v1
    obtain ⟨y, z, rfl, _, h⟩ := v1
    simp [ih h]

/-- No slice begins within a cell. -/
def Spots (ss : List Sh) (cs : List Value) : Prop := ss.all Sh.flat = true ∨ ∀ v ∈ cs, ∀ a l c, v = .slice (some a) l c → a.spot = none

theorem open_fs {rec : TypeId → Option (List Sh)} {n : Nat} {cs : List Value}
    (hrec : ∀ t ss cs' x, rec t = some ss → DataW.trod enc P w base spare held n t cs' = some x → Spots ss cs' → Opens E w ss cs') :
    ∀ (fs : List Field) (off : Nat) (ss : List Sh), Spots ss cs → shFs P rec off fs = some ss → (∀ f ∈ fs, ∃ x, DataW.trod enc P w base spare held n f.type ((cs.drop f.offset).take (P.cellsOf f.type)) = some x) → Opens E w ss ((cs.drop off).take ss.length)
  | [], off, ss, _, h, _ => by
    simp only [shFs, Option.some.injEq] at h
    subst h
    simpa using Opens.nil
  | f :: r, off, ss, hsp, h, hall => by
    simp only [shFs] at h
    split at h
    · rename_i s hs
      split at h
      · rename_i hc
        split at h
        · rename_i ss' hss
          simp only [Option.some.injEq] at h
          subst h
          obtain ⟨x, hx⟩ := hall f (by simp)
          have hf : (s ++ ss').all Sh.flat = true → s.all Sh.flat = true ∧ ss'.all Sh.flat = true := by
            intro h; rw [List.all_append, Bool.and_eq_true] at h; exact h
          have h1 := hrec _ _ _ _ hs hx (hsp.elim (fun h => .inl (hf h).1) fun h => .inr fun v hv => h v (List.mem_of_mem_drop (List.mem_of_mem_take hv)))
          have h2 := open_fs hrec r (off + s.length) ss' (hsp.elim (fun h => .inl (hf h).2) .inr) hss (fun g hg => hall g (by simp [hg]))
          rw [hc.1, ← hc.2] at h1
          have : (cs.drop off).take (s ++ ss').length = (cs.drop off).take s.length ++ (cs.drop (off + s.length)).take ss'.length := by
            rw [List.length_append, List.take_add, List.drop_drop]
          rw [this]
          exact h1.append h2
        · simp at h
      · simp at h
    · simp at h

theorem open_rep {es : List Sh} {n : Nat} {e : TypeId} {cs : List Value}
    (hrec : ∀ cs' x, DataW.trod enc P w base spare held n e cs' = some x → Spots es cs' → Opens E w es cs') (hl : es.length = P.cellsOf e) :
    ∀ (m k : Nat), Spots (shRep es m) cs → (∀ i, i < m → ∃ x, DataW.trod enc P w base spare held n e ((cs.drop ((k + i) * P.cellsOf e)).take (P.cellsOf e)) = some x) → Opens E w (shRep es m) ((cs.drop (k * P.cellsOf e)).take (m * P.cellsOf e))
  | 0, k, _, _ => by simpa [shRep] using Opens.nil
  | m + 1, k, hsp, hall => by
    have hf : (es ++ shRep es m).all Sh.flat = true → es.all Sh.flat = true ∧ (shRep es m).all Sh.flat = true := by
      intro h; rw [List.all_append, Bool.and_eq_true] at h; exact h
    obtain ⟨x, hx⟩ := hall 0 (by omega)
    have h1 := hrec _ _ hx (hsp.elim (fun h => .inl (hf h).1) fun h => .inr fun v hv => h v (List.mem_of_mem_drop (List.mem_of_mem_take hv)))
    have h2 := open_rep hrec hl m (k + 1) (hsp.elim (fun h => .inl (hf h).2) .inr) (fun i hi => by
      have := hall (i + 1) (by omega)
      rwa [show k + (i + 1) = k + 1 + i by omega] at this)
    have : (cs.drop (k * P.cellsOf e)).take ((m + 1) * P.cellsOf e) = (cs.drop (k * P.cellsOf e)).take (P.cellsOf e) ++ (cs.drop ((k + 1) * P.cellsOf e)).take (m * P.cellsOf e) := by
      rw [Nat.succ_mul, Nat.add_comm (m * P.cellsOf e), List.take_add, List.drop_drop, Nat.succ_mul]
    rw [this]
    exact h1.append h2

theorem add_at (b o n : Nat) : (⟨b, o, none⟩ : Addr).add n = ⟨b, o + n, none⟩ := by
  unfold Addr.add
  split
  · rename_i h; subst h; rfl
  · rfl
theorem open_elems {P : Program} {es : List Sh} {e : TypeId} {ab : Nat} (hlen : es.length = P.cellsOf e) :
    ∀ (len ao : Nat), (∀ i, i < len → ∃ cs', w.cells? base ((⟨ab, ao, none⟩ : Addr).add (i * P.cellsOf e)) (P.cellsOf e) = some cs' ∧ Opens E w es cs') →
      ∃ rows : List (List PV), rows.length = len ∧ (∀ r ∈ rows, FitsL es r) ∧ VElems E w (fun b => b < w.heap.size) rows ab ao (P.cellsOf e)
  | 0, ao, _ => ⟨[], rfl, by simp, by simp [VElems]⟩
  | len + 1, ao, h => by
    obtain ⟨cs', h1, ps, f1, v1, s1, _⟩ := h 0 (by omega)
    obtain ⟨rows, g1, g2, g3⟩ := open_elems hlen len (ao + P.cellsOf e) (fun i hi => by
      have := h (i + 1) (by omega)
      rw [add_at] at this ⊢
      rwa [Nat.succ_mul, Nat.add_comm (i * P.cellsOf e), ← Nat.add_assoc] at this)
    obtain ⟨_, c1, c2⟩ := World.cells?_some h1
    refine ⟨ps :: rows, by simp [g1], fun r hr => ?_, ?_⟩
    · rcases List.mem_cons.1 hr with rfl | hr
      · exact f1
      · exact g2 r hr
    · simp only [VElems]
      refine ⟨by rw [FitsL_length f1, hlen], ?_, g3⟩
      have hcell : ∀ i, i < P.cellsOf e → w.cell? ⟨ab, ao + i, none⟩ = cs'[i]? := fun i hi => by
        have := c2 i hi
        rwa [Nat.zero_mul, add_at, add_at, Nat.add_zero] at this
      clear f1 h1 c2 g3
      rw [← c1] at hcell
      have key : ∀ (ps : List PV) (cs' : List Value) (o : Nat), VPs E w (fun b => b < w.heap.size) ps cs' → (∀ v ∈ cs', Scalar v) → (∀ i, i < cs'.length → w.cell? ⟨ab, o + i, none⟩ = cs'[i]?) → VRun E w (fun b => b < w.heap.size) ps ab o := by
        intro ps
        induction ps with
        | nil => intro cs' o _ _ _; simp [VRun]
        | cons p r ih =>
          intro cs' o hv hs hc
          simp only [VPs] at hv
          obtain ⟨u, us, rfl, k1, k2⟩ := hv
          simp only [VRun]
          refine ⟨⟨u, ?_, hs u (by simp), k1⟩, ih us (o + 1) k2 (fun v hv => hs v (by simp [hv])) fun i hi => ?_⟩
          · have := hc 0 (by simp)
            simpa using this
          · have := hc (i + 1) (by simpa using hi)
            rw [show o + (i + 1) = o + 1 + i by omega] at this
            simpa using this
      exact key ps cs' ao v1 s1 hcell

theorem open_sh {P : Program} : ∀ (d : Nat) (t : TypeId) (ss : List Sh), shOf P d t = some ss → ∀ (n : Nat) (cs : List Value) (x : DataW H × List MemPlace), DataW.trod enc P w base spare held n t cs = some x → Spots ss cs → Opens E w ss cs
  | 0, t, ss, hs, _, _, _, _, _ => by simp [shOf] at hs
  | d + 1, t, ss, hs, n, cs, x, h, hsp => by
    simp only [shOf] at hs
    split at hs
    · rename_i ht
      simp at hs; subst hs
      obtain ⟨b, rfl, _⟩ := DataW.trod_bool ht h
      exact ⟨[.bool b], ⟨_, _, rfl, ⟨b, rfl⟩, rfl⟩, by simp [VPs, VP], by simp [Scalar], by simp⟩
    · rename_i k ht
      simp at hs; subst hs
      obtain ⟨m, rfl, _, hw⟩ := DataW.trod_int ht h
      exact ⟨[.int k m], ⟨_, _, rfl, ⟨m, rfl, hw⟩, rfl⟩, by simp [VPs, VP], by simp [Scalar], by simp⟩
    · rename_i ht
      simp at hs; subst hs
      obtain ⟨s, rfl, _, hw⟩ := DataW.trod_string ht h
      exact ⟨[.str s], ⟨_, _, rfl, ⟨s, rfl, hw⟩, rfl⟩, by simp [VPs, VP], by simp [Scalar], by simp⟩
    · rename_i e ht
      split at hs
      · rename_i es he
        split at hs
        · rename_i hc
          simp at hs; subst hs
          obtain ⟨hflat, hlen, hpos⟩ := hc
          rcases DataW.trod_slice ht h with ⟨rfl, _⟩ | ⟨a, len, cap, elems, rest, m, _, rfl, _, hb, hl, hm, hel, hcs, _⟩
          · exact ⟨[.slice []], ⟨_, _, rfl, ⟨[], rfl, by simp⟩, rfl⟩, ⟨_, _, rfl, ⟨none, 0, 0, rfl, rfl, Nat.le_refl _, fun h => by simp at h⟩, rfl⟩, by simp [Scalar], by simp [Sh.flat]⟩
          · have hspot : a.spot = none := by
              rcases hsp with h | h
              · simp [Sh.flat] at h
              · exact h _ (List.mem_singleton.2 rfl) a len cap rfl
            obtain ⟨ab, ao, asp⟩ := a
            simp only at hspot
            subst hspot
            have each : ∀ i, i < len → ∃ cs', w.cells? base ((⟨ab, ao, none⟩ : Addr).add (i * P.cellsOf e)) (P.cellsOf e) = some cs' ∧ Opens E w es cs' := by
              intro i hi
              have h1 := hcs i hi
              have : ∃ y, elems[i]? = some y := ⟨elems[i]'(by omega), by simp [hel, hi]⟩
              obtain ⟨y, hy⟩ := this
              rw [hy, Option.bind_eq_some_iff] at h1
              obtain ⟨cs', hc1, hc2⟩ := h1
              exact ⟨cs', hc1, open_sh d e es he _ _ _ hc2 (.inl hflat)⟩
            obtain ⟨rows, r1, r2, r3⟩ := open_elems hlen len ao each
            refine ⟨[.slice rows], ⟨_, _, rfl, ⟨rows, rfl, r2⟩, rfl⟩, ?_, by simp [Scalar], by simp [Sh.flat]⟩
            simp only [VPs, VP]
            refine ⟨_, _, rfl, ⟨some ⟨ab, ao, none⟩, len, cap, rfl, r1.symm, hl, fun hp => ⟨ab, ao, P.cellsOf e, rfl, ?_, r3⟩⟩, rfl⟩
            obtain ⟨cs', c1, _⟩ := each 0 (by omega)
            have := World.cells?_block c1 (by omega)
            rwa [add_at] at this
        · simp at hs
      · simp at hs
    · rename_i fs ht
      split at hs
      · rename_i ss' hss
        split at hs
        · rename_i hc
          simp at hs; subst hs
          obtain ⟨xs, m, rfl, _, hlen, hxl, hall⟩ := DataW.trod_struct ht h
          have h1 := open_fs (E := E) (cs := cs) (rec := shOf P d) (n := m) (enc := enc) (base := base) (spare := spare) (held := held) (fun t ss cs' x hr hx hsp' => open_sh d t ss hr m cs' x hx hsp') fs.toList 0 ss' hsp hss (fun f hf => by
            obtain ⟨i, hi, rfl⟩ := List.getElem_of_mem hf
            have hi' : i < fs.size := by simpa using hi
            have := hall i fs[i] (by simp [hi'])
            refine ⟨xs[i]'(by omega), ?_⟩
            rw [Array.getElem_toList, this]
            simp [hxl, hi'])
          rwa [hc, ← hlen, List.drop_zero, List.take_length] at h1
        · simp at hs
      · simp at hs
    · rename_i m e ht
      split at hs
      · rename_i es he
        split at hs
        · rename_i hc
          simp at hs; subst hs
          obtain ⟨xs, k, rfl, _, hlen, hxl, hall⟩ := DataW.trod_array ht h
          have h1 := open_rep (E := E) (cs := cs) (es := es) (e := e) (n := k) (enc := enc) (base := base) (spare := spare) (held := held) (fun cs' x hx hsp' => open_sh d e es he k cs' x hx hsp') hc.1 m 0 hsp (fun i hi => by
            have := hall i hi
            rw [Nat.zero_add]
            exact ⟨xs[i]'(by omega), by rw [this]; simp [hxl, hi]⟩)
          rwa [hc.2, ← hlen, Nat.zero_mul, List.drop_zero, List.take_length] at h1
        · simp at hs
      · simp at hs
    · simp at hs

theorem spot_of_cell {r : Reach} {base : Nat} {u : TypeId} {a : Addr} {l c : Nat} (h : Cell.okWide P w r base u (.slice (some a) l c)) : a.spot = none := by
  unfold Cell.okWide at h
  split at h <;> rename_i h2 <;> first | (simp at h2; done) | skip
  unfold Cell.ok at h
  split at h <;> rename_i h3 h4 <;> first | (simp at h4; done) | skip
  all_goals first | exact h.elim | (simp at h4; obtain ⟨rfl, rfl, rfl⟩ := h4; exact h.2.2.2.1)

/-- An argument that is a struct or an array. -/
theorem open_agg {r : Reach} {d : Nat} {t : TypeId} {v : Value} {ss : List Sh} {x : DataW H} {ps : List MemPlace} (hagg : (match P.underlying t with | some (.struct _) => true | some (.array _ _) => true | _ => false) = true)
    (hs : shOf P d t = some ss) (hval : Value.okWide P w r base t v) (h : DataW.Trod enc P w 0 (fun _ => true) true t v x ps) : ∃ l, FitsL ss l ∧ VP E w (fun b => b < w.heap.size) (.agg l) v := by
  obtain ⟨n, h⟩ := h
  have : ∃ cs, v = .agg cs ∧ Row.okWide P w r base t cs := by
    unfold Value.okWide at hval
    split at hagg
    · rename_i hu; rw [hu] at hval; obtain ⟨cs, h1, _, h2⟩ := hval; exact ⟨cs, h1, h2⟩
    · rename_i hu; rw [hu] at hval; obtain ⟨cs, h1, _, h2⟩ := hval; exact ⟨cs, h1, h2⟩
    · simp at hagg
  obtain ⟨cs, rfl, ts, _, _, hcell⟩ := this
  obtain ⟨l, h1, h2, _, _⟩ := open_sh (E := E) d t ss hs n _ _ h (.inr fun v hv a l c hvv => by
    obtain ⟨i, hi, hiv⟩ := List.getElem_of_mem (show v ∈ cs.toList from hv)
    obtain ⟨u, _, h5⟩ := hcell i v (by rw [← Array.getElem?_toList, List.getElem?_eq_getElem hi, hiv])
    rw [hvv] at h5
    exact spot_of_cell h5)
  refine ⟨l, h1, ?_⟩
  simp only [VP]
  exact ⟨cs.toList, by simp, h2⟩

/-- An argument of one cell. -/
theorem open_one {r : Reach} {d : Nat} {t : TypeId} {v : Value} {s : Sh} {x : DataW H} {ps : List MemPlace} (hagg : (match P.underlying t with | some (.struct _) => true | some (.array _ _) => true | _ => false) = false)
    (hs : shOf P d t = some [s]) (hval : Value.okWide P w r base t v) (h : DataW.Trod enc P w 0 (fun _ => true) true t v x ps) : ∃ p, Fits s p ∧ VP E w (fun b => b < w.heap.size) p v := by
  obtain ⟨n, h⟩ := h
  have hc : Cell.okWide P w r base t v := by
    unfold Value.okWide at hval
    split at hval
    · rename_i hu; simp [hu] at hagg
    · rename_i hu; simp [hu] at hagg
    · exact hval
  have hv : v.cells.toList = [v] := by
    cases v <;> first | rfl | skip
    unfold Cell.okWide at hc
    split at hc <;> rename_i h2 <;> first | (simp at h2; done) | skip
    unfold Cell.ok at hc
    split at hc <;> rename_i h3 h4 <;> first | (simp at h4; done) | exact hc.elim
  rw [hv] at h
  obtain ⟨l, h1, h2, _, _⟩ := open_sh (E := E) d t [s] hs n _ _ h (.inr fun u hu a l c hvv => by
    simp only [List.mem_singleton] at hu
    subst hu
    rw [hvv] at hc
    exact spot_of_cell hc)
  simp only [FitsL] at h1
  obtain ⟨p, q, rfl, h3, rfl⟩ := h1
  simp only [VPs] at h2
  obtain ⟨u, us, h4, h5, rfl⟩ := h2
  simp only [List.cons.injEq] at h4
  exact ⟨p, h3, h4.1 ▸ h5⟩
end
end Go.Proofs.YtmeigdjfcecidaaDoor.Ab
/- Environments and tables out of lists; from a law of the layer to the program's calls. -/
set_option linter.unusedVariables false
set_option linter.unusedSimpArgs false
namespace Go.Proofs.YtmeigdjfcecidaaDoor.Ab
open Go

def lkN : List (Nat × Nat) → Nat → Option Nat
  | [], _ => none
  | (a, b) :: r, n => cond (Nat.beq a n) (some b) (lkN r n)
def lkR : List (Nat × Nat) → Nat → Option Nat
  | [], _ => none
  | (a, b) :: r, n => cond (Nat.beq b n) (some a) (lkR r n)

/-- An environment: our numbers, the program's. -/
def envOf (P : Program) (fs ts : List (Nat × Nat)) (nt : Nat) (gl : List (Nat × Value)) : Env :=
  ⟨P, fun n => (lkN fs n).getD 1000000, fun n => (lkN ts n).getD (1000000 + n), lkR fs, lkR ts, nt, gl⟩

def okN (fs : List (Nat × Nat)) : Bool := fs.all fun p => Nat.beq ((lkN fs p.1).getD 1000000) p.2
def okT (ts : List (Nat × Nat)) (nt : Nat) : Bool := ts.all (fun p => Nat.beq ((lkN ts p.1).getD (1000000 + p.1)) p.2 && Nat.blt p.1 nt) &&
  (List.range nt).all fun n => (List.range nt).all fun m => Nat.beq n m || !(Nat.beq ((lkN ts n).getD (1000000 + n)) ((lkN ts m).getD (1000000 + m)))

theorem lkR_mem : ∀ {l : List (Nat × Nat)} {f n : Nat}, lkR l f = some n → (n, f) ∈ l
  | [], f, n, h => by simp [lkR] at h
  | (a, b) :: r, f, n, h => by
    simp only [lkR] at h
    by_cases hb : b = f
    · subst hb; rw [beq_self] at h; simp at h; subst h; simp
    · rw [beq_ne hb] at h; exact List.mem_cons_of_mem _ (lkR_mem h)

theorem envOf_ok {P : Program} {fs ts : List (Nat × Nat)} {nt : Nat} {gl : List (Nat × Value)} (h1 : okN fs = true) (h2 : okT ts nt = true) (h3 : P.follows .mixedOrders = true) : (envOf P fs ts nt gl).OK where
  rho := fun f n h => by
    have := List.all_eq_true.1 h1 _ (lkR_mem h)
    exact Nat.eq_of_beq_eq_true this
  tau := fun t n h => by
    unfold okT at h2
    rw [Bool.and_eq_true] at h2
    have := List.all_eq_true.1 h2.1 _ (lkR_mem h)
    rw [Bool.and_eq_true] at this
    exact ⟨Nat.eq_of_beq_eq_true this.1, Nat.le_of_ble_eq_true this.2⟩
  inj := fun n m hn hm h => by
    unfold okT at h2
    rw [Bool.and_eq_true] at h2
    have := List.all_eq_true.1 (List.all_eq_true.1 h2.2 n (List.mem_range.2 hn)) m (List.mem_range.2 hm)
    rw [Bool.or_eq_true] at this
    rcases this with h' | h'
    · exact Nat.eq_of_beq_eq_true h'
    · have h : (lkN ts n).getD (1000000 + n) = (lkN ts m).getD (1000000 + m) := h
      rw [h, beq_self] at h'
      simp at h'
  mixed := h3

abbrev Prm := List AV → Hl → Nat → Option (AV × Hl × Nat)
def lkF : List (Nat × AFunc) → Nat → Option AFunc
  | [], _ => none
  | (a, f) :: r, n => cond (Nat.beq a n) (some f) (lkF r n)
def lkP : List (Nat × Prm) → Nat → Option Prm
  | [], _ => none
  | (a, f) :: r, n => cond (Nat.beq a n) (some f) (lkP r n)
def inL (l : List Nat) (n : Nat) : Bool := l.any fun a => Nat.beq a n
/-- A table out of lists. -/
def tabOf (l : List (Nat × AFunc)) (raw flat own still : List Nat) (ps : List (Nat × Prm)) : Tab := ⟨lkF l, inL raw, inL flat, inL own, inL still, lkP ps⟩

theorem lkF_mem : ∀ {l : List (Nat × AFunc)} {n : Nat} {f : AFunc}, lkF l n = some f → (n, f) ∈ l
  | [], n, f, h => by simp [lkF] at h
  | (a, b) :: r, n, f, h => by
    simp only [lkF] at h
    by_cases hb : a = n
    · subst hb; rw [beq_self] at h; simp at h; subst h; simp
    · rw [beq_ne hb] at h; exact List.mem_cons_of_mem _ (lkF_mem h)
theorem lkP_mem : ∀ {l : List (Nat × Prm)} {n : Nat} {f : Prm}, lkP l n = some f → (n, f) ∈ l
  | [], n, f, h => by simp [lkP] at h
  | (a, b) :: r, n, f, h => by
    simp only [lkP] at h
    by_cases hb : a = n
    · subst hb; rw [beq_self] at h; simp at h; subst h; simp
    · rw [beq_ne hb] at h; exact List.mem_cons_of_mem _ (lkP_mem h)

/-- All of a list's functions are the program's. -/
def TiesL (E : Env) : List (Nat × AFunc) → Prop
  | [] => True
  | (n, f) :: r => cFunc E n = some f ∧ TiesL E r
def PrimsL (E : Env) : List (Nat × Prm) → Prop
  | [] => True
  | (n, g) :: r => (∀ args hp nx v hp' nx', g args hp nx = some (v, hp', nx') → RawC E n args hp nx v hp' nx') ∧ PrimsL E r
theorem TiesL.mem {E : Env} : ∀ {l : List (Nat × AFunc)}, TiesL E l → ∀ {n : Nat} {f : AFunc}, (n, f) ∈ l → cFunc E n = some f
  | (a, b) :: r, h, n, f, hm => by
    rcases List.mem_cons.1 hm with hm | hm
    · simp only [Prod.mk.injEq] at hm
      obtain ⟨rfl, rfl⟩ := hm
      exact h.1
    · exact TiesL.mem h.2 hm
theorem PrimsL.mem {E : Env} : ∀ {l : List (Nat × Prm)}, PrimsL E l → ∀ {n : Nat} {g : Prm}, (n, g) ∈ l → ∀ args hp nx v hp' nx', g args hp nx = some (v, hp', nx') → RawC E n args hp nx v hp' nx'
  | (a, b) :: r, h, n, f, hm => by
    rcases List.mem_cons.1 hm with hm | hm
    · simp only [Prod.mk.injEq] at hm
      obtain ⟨rfl, rfl⟩ := hm
      exact h.1
    · exact PrimsL.mem h.2 hm
theorem tied_of {E : Env} {l : List (Nat × AFunc)} {raw flat own still : List Nat} {ps : List (Nat × Prm)} (h1 : TiesL E l) (h2 : PrimsL E ps) : Tied E (tabOf l raw flat own still ps) where
  fn := fun n f _ h => h1.mem (lkF_mem h)
  prim := fun n g h => h2.mem (lkP_mem h)

/-- From a law to the program's call. -/
theorem law_calls {E : Env} {T : Tab} (hE : E.OK) (hT : Tied E T) {n : Nat} {ps : List PV} (h : Gives T n ps (.bool true)) {w : World} {vs : List Value} (hI : E.inv w) (hv : VPs E w (fun b => b < w.heap.size) ps vs) :
    Calls E.P (E.ρ n) vs.toArray w fun e w' => e = .returned (.bool true) ∧ Go.RowKit.Below w.heap.size w w' := by
  obtain ⟨_, _, o, hc⟩ := h
  obtain ⟨v, hp, nx, h1, h2, _⟩ := callP_spec hc
  have hP := (D_sound hE hT _ _ _ _ _ _ _ h1).pure h2
  refine (hP.2 (fun _ => False) w vs hI (fun b hb => hb.elim) (VPs_mono ⟨fun b hb => ⟨hb, fun h => h⟩, fun _ _ => rfl⟩ _ _ hv)).mono fun e w' hh => ?_
  obtain ⟨u, rfl, h3, h4⟩ := hh
  simp only [VP] at h3
  subst h3
  exact ⟨rfl, h4.os, h4.tape, h4.output, h4.size, fun k hk => h4.block k hk (fun h => h)⟩

/-! ### What the laws are handed -/
def inI (n : Int) : Prop := -9223372036854775808 ≤ n ∧ n ≤ 9223372036854775807
def inU (n : Int) : Prop := 0 ≤ n ∧ n ≤ 18446744073709551615
theorem wf_i64 {n : Int} (h : (Lit.int .i64 n).wf = true) : inI n := by
  simp only [Lit.wf, Bool.and_eq_true, decide_eq_true_eq] at h
  exact h
theorem wf_u64 {n : Int} (h : (Lit.int .u64 n).wf = true) : inU n := by
  simp only [Lit.wf, Bool.and_eq_true, decide_eq_true_eq] at h
  exact h
theorem rows_map {α : Type} {enc : α → List PV} {W : α → Prop} : ∀ {l : List (List PV)}, (∀ e ∈ l, ∃ x, e = enc x ∧ W x) → ∃ xs : List α, l = xs.map enc ∧ ∀ x ∈ xs, W x
  | [], _ => ⟨[], rfl, by simp⟩
  | e :: r, h => by
    obtain ⟨x, rfl, hx⟩ := h e (by simp)
    obtain ⟨xs, rfl, hxs⟩ := rows_map (fun e he => h e (List.mem_cons_of_mem _ he))
    exact ⟨x :: xs, rfl, by simpa using ⟨hx, hxs⟩⟩

def Vec.wf (v : Vec) : Prop := inU v.a ∧ inU v.b ∧ inU v.c ∧ inU v.d
def Node.wf (n : Node) : Prop := inI n.id ∧ inI n.zone ∧ n.cap.wf ∧ n.held.wf
def Load.wf (l : Load) : Prop := inI l.id ∧ inI l.skew ∧ inI l.min ∧ inI l.max
def Pod.wf (p : Pod) : Prop := inI p.id ∧ inI p.load ∧ inI p.prio ∧ p.req.wf ∧ inI p.node
def Want.wf (w : Want) : Prop := inI w.pod ∧ w.req.wf
def Move.wf (m : Move) : Prop := inI m.kind ∧ inI m.pod ∧ inI m.node ∧ inI m.over
def Snap.wf (s : Snap) : Prop := (∀ n ∈ s.nodes, n.wf) ∧ (∀ l ∈ s.loads, l.wf) ∧ ∀ p ∈ s.pods, p.wf
def Spec.wf (x : Spec) : Prop := (∀ w ∈ x.wants, w.wf) ∧ inI x.pre ∧ inI x.shi
def State.wf (t : State) : Prop := (∀ p ∈ t.pods, p.wf) ∧ inI t.pre ∧ inI t.shi

def nodeS : List Sh := [.nu .i64, .nu .i64, .nu .u64, .nu .u64, .nu .u64, .nu .u64, .nu .u64, .nu .u64, .nu .u64, .nu .u64]
def loadS : List Sh := [.nu .i64, .bo, .nu .i64, .nu .i64, .nu .i64]
def podS : List Sh := [.nu .i64, .nu .i64, .nu .i64, .nu .u64, .nu .u64, .nu .u64, .nu .u64, .nu .i64]
def wantS : List Sh := [.nu .i64, .nu .u64, .nu .u64, .nu .u64, .nu .u64, .bo]
def moveS : List Sh := [.nu .i64, .nu .i64, .nu .i64, .nu .i64]

theorem fits_node {e : List PV} (h : FitsL nodeS e) : ∃ n : Node, e = nodeC n ∧ n.wf := by
  simp only [nodeS, FitsL, Fits] at h
  obtain ⟨_, _, rfl, ⟨a, rfl, h1⟩, _, _, rfl, ⟨b, rfl, h2⟩, _, _, rfl, ⟨c, rfl, h3⟩, _, _, rfl, ⟨d, rfl, h4⟩, _, _, rfl, ⟨f, rfl, h5⟩, _, _, rfl, ⟨g, rfl, h6⟩, _, _, rfl, ⟨i, rfl, h7⟩, _, _, rfl, ⟨j, rfl, h8⟩, _, _, rfl, ⟨k, rfl, h9⟩, _, _, rfl, ⟨l, rfl, h10⟩, rfl⟩ := h
  exact ⟨⟨a, b, ⟨c, d, f, g⟩, ⟨i, j, k, l⟩⟩, rfl, wf_i64 h1, wf_i64 h2, ⟨wf_u64 h3, wf_u64 h4, wf_u64 h5, wf_u64 h6⟩, wf_u64 h7, wf_u64 h8, wf_u64 h9, wf_u64 h10⟩
theorem fits_load {e : List PV} (h : FitsL loadS e) : ∃ n : Load, e = loadC n ∧ n.wf := by
  simp only [loadS, FitsL, Fits] at h
  obtain ⟨_, _, rfl, ⟨a, rfl, h1⟩, _, _, rfl, ⟨b, rfl⟩, _, _, rfl, ⟨c, rfl, h3⟩, _, _, rfl, ⟨d, rfl, h4⟩, _, _, rfl, ⟨f, rfl, h5⟩, rfl⟩ := h
  exact ⟨⟨a, b, c, d, f⟩, rfl, wf_i64 h1, wf_i64 h3, wf_i64 h4, wf_i64 h5⟩
theorem fits_pod {e : List PV} (h : FitsL podS e) : ∃ n : Pod, e = podC n ∧ n.wf := by
  simp only [podS, FitsL, Fits] at h
  obtain ⟨_, _, rfl, ⟨a, rfl, h1⟩, _, _, rfl, ⟨b, rfl, h2⟩, _, _, rfl, ⟨c, rfl, h3⟩, _, _, rfl, ⟨d, rfl, h4⟩, _, _, rfl, ⟨f, rfl, h5⟩, _, _, rfl, ⟨g, rfl, h6⟩, _, _, rfl, ⟨i, rfl, h7⟩, _, _, rfl, ⟨j, rfl, h8⟩, rfl⟩ := h
  exact ⟨⟨a, b, c, ⟨d, f, g, i⟩, j⟩, rfl, wf_i64 h1, wf_i64 h2, wf_i64 h3, ⟨wf_u64 h4, wf_u64 h5, wf_u64 h6, wf_u64 h7⟩, wf_i64 h8⟩
theorem fits_want {e : List PV} (h : FitsL wantS e) : ∃ n : Want, e = wantC n ∧ n.wf := by
  simp only [wantS, FitsL, Fits] at h
  obtain ⟨_, _, rfl, ⟨a, rfl, h1⟩, _, _, rfl, ⟨b, rfl, h2⟩, _, _, rfl, ⟨c, rfl, h3⟩, _, _, rfl, ⟨d, rfl, h4⟩, _, _, rfl, ⟨f, rfl, h5⟩, _, _, rfl, ⟨g, rfl⟩, rfl⟩ := h
  exact ⟨⟨a, ⟨b, c, d, f⟩, g⟩, rfl, wf_i64 h1, wf_u64 h2, wf_u64 h3, wf_u64 h4, wf_u64 h5⟩
theorem fits_move {e : List PV} (h : FitsL moveS e) : ∃ n : Move, e = moveC n ∧ n.wf := by
  simp only [moveS, FitsL, Fits] at h
  obtain ⟨_, _, rfl, ⟨a, rfl, h1⟩, _, _, rfl, ⟨b, rfl, h2⟩, _, _, rfl, ⟨c, rfl, h3⟩, _, _, rfl, ⟨d, rfl, h4⟩, rfl⟩ := h
  exact ⟨⟨a, b, c, d⟩, rfl, wf_i64 h1, wf_i64 h2, wf_i64 h3, wf_i64 h4⟩
theorem fits_snap {e : List PV} (h : FitsL [.sl nodeS, .sl loadS, .sl podS] e) : ∃ s : Snap, .agg e = snapP s ∧ s.wf := by
  simp only [FitsL, Fits] at h
  obtain ⟨_, _, rfl, ⟨a, rfl, h1⟩, _, _, rfl, ⟨b, rfl, h2⟩, _, _, rfl, ⟨c, rfl, h3⟩, rfl⟩ := h
  obtain ⟨x, rfl, k1⟩ := rows_map (fun e he => fits_node (h1 e he))
  obtain ⟨y, rfl, k2⟩ := rows_map (fun e he => fits_load (h2 e he))
  obtain ⟨z, rfl, k3⟩ := rows_map (fun e he => fits_pod (h3 e he))
  exact ⟨⟨x, y, z⟩, rfl, k1, k2, k3⟩
theorem fits_spec {e : List PV} (h : FitsL [.sl wantS, .nu .i64, .nu .i64] e) : ∃ s : Spec, .agg e = specP s ∧ s.wf := by
  simp only [FitsL, Fits] at h
  obtain ⟨_, _, rfl, ⟨a, rfl, h1⟩, _, _, rfl, ⟨b, rfl, h2⟩, _, _, rfl, ⟨c, rfl, h3⟩, rfl⟩ := h
  obtain ⟨x, rfl, k1⟩ := rows_map (fun e he => fits_want (h1 e he))
  exact ⟨⟨x, b, c⟩, rfl, k1, wf_i64 h2, wf_i64 h3⟩
theorem fits_state {e : List PV} (h : FitsL [.sl podS, .nu .i64, .nu .i64] e) : ∃ s : State, .agg e = stateP s ∧ s.wf := by
  simp only [FitsL, Fits] at h
  obtain ⟨_, _, rfl, ⟨a, rfl, h1⟩, _, _, rfl, ⟨b, rfl, h2⟩, _, _, rfl, ⟨c, rfl, h3⟩, rfl⟩ := h
  obtain ⟨x, rfl, k1⟩ := rows_map (fun e he => fits_pod (h1 e he))
  exact ⟨⟨x, b, c⟩, rfl, k1, wf_i64 h2, wf_i64 h3⟩
theorem fits_int {p : PV} (h : Fits (.nu .i64) p) : ∃ n, p = .int .i64 n ∧ inI n := by
  simp only [Fits] at h
  obtain ⟨n, rfl, h⟩ := h
  exact ⟨n, rfl, wf_i64 h⟩
end Go.Proofs.YtmeigdjfcecidaaDoor.Ab
/- Comparisons of errors, run. -/
set_option linter.unusedVariables false
set_option linter.unusedSimpArgs false
namespace Go.Proofs.YtmeigdjfcecidaaDoor.Ab
open Go
section
variable {P : Program} {w : World} {t : TypeId}
theorem qp_pp (d : Nat) {e : TypeId} {n : Nat} {a : Addr} (h : P.underlying t = some (.pointer e)) (hz : (sizeOf e).run P w = .ok n w) (hn : n ≠ 0) : (Op.equalIn (d + 1) t (.pointer (some a)) (.pointer (some a))).run P w = .ok true w := by
  simp only [Op.equalIn]
  rw [rb (r_underlying h)]
  simp only
  rw [rb hz]
  rw [if_pos hn]
  unfold sameAddr
  simp [run_pure]
theorem qd_ii (d : Nat) {ms u v x y} (h : P.underlying t = some (.interface ms)) (hne : u ≠ v) : (Op.equalIn (d + 1) t (.iface u x) (.iface v y)).run P w = .ok false w := by
  simp only [Op.equalIn]
  rw [rb (r_underlying h)]
  simp only [ne_eq, hne, not_false_eq_true, if_true]
  rfl
theorem beql_of {x y : Value} {b : Bool} (h : (Op.equal t x y).run P w = .ok b w) (h1 : (∀ k n, x ≠ .int k n) ∧ (∀ s, x ≠ .string s) ∧ (∀ k n, x ≠ .float k n) ∧ ∀ k n m, x ≠ .complex k n m) :
    (binOp .eql t x y).run P w = .ok (.bool b) w ∧ (binOp .neq t x y).run P w = .ok (.bool (!b)) w := by
  obtain ⟨h2, h3, h4, h5⟩ := h1
  cases x <;> first | exact absurd rfl (h2 _ _) | exact absurd rfl (h3 _) | exact absurd rfl (h4 _ _) | exact absurd rfl (h5 _ _ _) |
    (constructor
     · simp only [binOp]; rw [rb h]; rfl
     · simp only [binOp]; rw [rb h]; rfl)
/-- Two errors of one type that compares, of two types. -/
theorem ie_same {ms : _} {u : TypeId} {x y : Value} {b : Bool} (h : P.underlying t = some (.interface ms)) (hc : (P.info? u).map (·.comparable) = some true) (hb : (Op.equalIn 9999 u x y).run P w = .ok b w) :
    (binOp .eql t (.iface u x) (.iface u y)).run P w = .ok (.bool b) w ∧ (binOp .neq t (.iface u x) (.iface u y)).run P w = .ok (.bool (!b)) w := by
  refine beql_of ?_ ⟨by simp, by simp, by simp, by simp⟩
  cases hi : P.info? u with
  | none => rw [hi] at hc; cases hc
  | some i =>
    rw [hi] at hc
    exact (qi_ii 9999 h hi (Option.some.inj hc)).trans hb
theorem ie_other {ms : _} {u v : TypeId} {x y : Value} (h : P.underlying t = some (.interface ms)) (hne : u ≠ v) :
    (binOp .eql t (.iface u x) (.iface v y)).run P w = .ok (.bool false) w ∧ (binOp .neq t (.iface u x) (.iface v y)).run P w = .ok (.bool true) w :=
  beql_of (qd_ii 9999 h hne) ⟨by simp, by simp, by simp, by simp⟩
theorem ie_int {k : IntKind} {n m : Int} (h : P.underlying t = some (.int k)) : (Op.equalIn 9999 t (.int k n) (.int k m)).run P w = .ok (decide (n = m)) w := by
  have := run_equalIn_int w 9998 t k k n m h
  exact this
end
end Go.Proofs.YtmeigdjfcecidaaDoor.Ab
/- The laws' Is: what its calls do, out of its walk. -/
set_option linter.unusedVariables false
set_option linter.unusedSimpArgs false
namespace Go.Proofs.YtmeigdjfcecidaaDoor.Ab
open Go

/-- Is(err, at, code). -/
def isP (args : List AV) (hp : Hl) (nx : Nat) : Option (AV × Hl × Nat) :=
  match args with
  | [.pv .nili, .pv (.int .i64 _), .pv (.int .i64 _)] => some (.pv (.bool false), hp, nx)
  | [.pv (.iface 0 (.int .i64 _)), .pv (.int .i64 _), .pv (.int .i64 _)] => some (.pv (.bool false), hp, nx)
  | [.pv (.iface 1 (.cptr [.int .i64 a, .int .i64 n] 0)), .pv (.int .i64 x), .pv (.int .i64 y)] => some (.pv (.bool (decide (a = x) && decide (n = y))), hp, nx)
  | _ => none

theorem keeps_of {w w' : World} (h : Go.RowKit.Below w.heap.size w w') : Keeps (fun _ => False) w w' := ⟨h.os, h.tape, h.output, h.size, fun b hb _ => h.block b hb⟩

theorem isP_raw {E : Env} {n : Nat} {g : Nat × Value} (hent : Ent E n) (hg : g ∈ E.gl)
    (h1 : ∀ (x y : Int) (w : World), Calls E.P (E.ρ n) #[.nilIface, .int .i64 x, .int .i64 y] w fun e w' => e = .returned (.bool false) ∧ Go.RowKit.Below w.heap.size w w')
    (h2 : ∀ (m x y : Int) (w : World), w.cell? ⟨g.1, 0, none⟩ = some g.2 → Calls E.P (E.ρ n) #[.iface (E.τ 0) (.int .i64 m), .int .i64 x, .int .i64 y] w fun e w' => e = .returned (.bool false) ∧ Go.RowKit.Below w.heap.size w w')
    (h3 : ∀ (b o : Nat) (a m x y : Int) (w : World), w.cell? ⟨g.1, 0, none⟩ = some g.2 → w.cell? ⟨b, o, none⟩ = some (.int .i64 a) → w.cell? ⟨b, o + 1, none⟩ = some (.int .i64 m) →
      Calls E.P (E.ρ n) #[.iface (E.τ 1) (.pointer (some ⟨b, o, none⟩)), .int .i64 x, .int .i64 y] w fun e w' => e = .returned (.bool (decide (a = x) && decide (m = y))) ∧ Go.RowKit.Below w.heap.size w w')
    (args : List AV) (hp : Hl) (nx : Nat) (v : AV) (hp' : Hl) (nx' : Nat) (h : isP args hp nx = some (v, hp', nx')) : RawC E n args hp nx v hp' nx' := by
  refine ⟨hent, fun X M F a w vs hX R hv => ?_⟩
  subst hX
  have hc := (R.inv g hg).2
  have fin : ∀ {b : Bool}, v = .pv (.bool b) → hp' = hp → nx' = nx → ∀ {e : Ending} {w' : World}, (e = .returned (.bool b) ∧ Go.RowKit.Below w.heap.size w w') →
      ∃ u M', e = .returned u ∧ Rel X M' F (blkAt hp') (fun i => i < nx') a w' ∧ VA (viewOf X w' (fun i => i < nx') M' (blkAt hp')) v u := by
    rintro b rfl rfl rfl e w' ⟨rfl, hb⟩
    exact ⟨_, M, rfl, R.grown (keeps_of hb), by simp only [VA, VP]⟩
  unfold isP at h
  split at h
  · rename_i x y
    simp only [Option.some.injEq, Prod.mk.injEq] at h
    obtain ⟨rfl, rfl, rfl⟩ := h
    simp only [VAs, VA, VP] at hv
    obtain ⟨_, _, rfl, rfl, _, _, rfl, rfl, _, _, rfl, rfl, rfl⟩ := hv
    exact (h1 x y w).mono fun e w' hh => fin rfl rfl rfl hh
  · rename_i m x y
    simp only [Option.some.injEq, Prod.mk.injEq] at h
    obtain ⟨rfl, rfl, rfl⟩ := h
    simp only [VAs, VA, VP] at hv
    obtain ⟨_, _, rfl, ⟨_, rfl, rfl⟩, _, _, rfl, rfl, _, _, rfl, rfl, rfl⟩ := hv
    exact (h2 m x y w hc).mono fun e w' hh => fin rfl rfl rfl hh
  · rename_i a' m x y
    simp only [Option.some.injEq, Prod.mk.injEq] at h
    obtain ⟨rfl, rfl, rfl⟩ := h
    simp only [VAs, VA, VP, VRun] at hv
    obtain ⟨_, _, rfl, ⟨_, rfl, b, o, rfl, _, ⟨_, c1, _, rfl⟩, ⟨_, c2, _, rfl⟩, _⟩, _, _, rfl, rfl, _, _, rfl, rfl, rfl⟩ := hv
    exact (h3 b o a' m x y w hc c1 c2).mono fun e w' hh => fin rfl rfl rfl hh
  · simp at h

/-- What Is tells. -/
def isV (at' code : Int) : PV → Option Bool
  | .nili => some false
  | .iface 0 (.int .i64 _) => some false
  | .iface 1 (.cptr [.int .i64 a, .int .i64 n] 0) => some (decide (a = at') && decide (n = code))
  | _ => none
structure StdP (T : Tab) (n : Nat) (g : Prm) : Prop where
  prim : T.prim n = some g
  raw : T.raw n = false
  own : T.own n = false
theorem is_ok {T : Tab} {n : Nat} (S : StdP T n isP) {e : PV} {x y : Int} {b : Bool} (h : isV x y e = some b) : Gives T n [e, .int .i64 x, .int .i64 y] (.bool b) := by
  refine ⟨S.raw, S.own, none, ?_⟩
  have : isP (pvs [e, .int .i64 x, .int .i64 y]) [] 0 = some (.pv (.bool b), [], 0) := by
    unfold isV at h
    split at h
    all_goals first | (simp at h; done) | skip
    all_goals
      simp only [Option.some.injEq] at h
      subst h
      simp only [pvs, isP]
  unfold callP
  rw [D_prim S.prim this]
  simp only [snapV, snapR, ownSz]
end Go.Proofs.YtmeigdjfcecidaaDoor.Ab
/- Layer 9 (budget): contracts. -/
set_option linter.unusedVariables false
set_option linter.unusedSimpArgs false
namespace Go.Proofs.YtmeigdjfcecidaaDoor.Ab
open Go

section
variable {T : Tab}

/-- How many pods of a load are somewhere. -/
def sizeN (load : Int) : List Pod → Nat
  | [] => 0
  | p :: r => (if p.load = load ∧ p.node ≠ 0 then 1 else 0) + sizeN load r
theorem sizeN_le (load : Int) : ∀ l, sizeN load l ≤ l.length
  | [] => Nat.le_refl _
  | p :: r => by
    have := sizeN_le load r
    simp only [sizeN, List.length_cons]
    split <;> omega

theorem size_loop (load : Int) (pods : List Pod) (hl : pods.length ≤ 2 ^ 30) (Q : Exit → St → Prop) (total : Nat) (hQ : ∀ fr hp nx, look fr 5 = .pv (.int .i64 total) → Q (.exit 0) ⟨fr, hp, nx⟩) :
    ∀ (rest : List Pod) (i k : Nat), pods.drop i = rest → i ≤ pods.length → k ≤ i → k + sizeN load rest = total → ∀ (fr : List (Nat × AV)) (hp : Hl) (nx : Nat), look fr 5 = .pv (.int .i64 k) → look fr 1 = .pv (.int .i64 load) →
      look fr 9 = .pv (.slice (pods.map podC)) → look fr 10 = .pv (.int .i64 pods.length) → look fr 11 = .pv (.int .i64 i) → Wp T false (.loop f71l0) ⟨fr, hp, nx⟩ Q := by
  intro rest
  induction rest with
  | nil =>
    intro i k hd hi hk ht fr hp nx h5 h1 h9 h10 h11
    have hlen := drop_nil hd hi
    simp only [sizeN, Nat.add_zero] at ht
    subst ht
    rw [Wp_loop, Wp_eq f71l0.eq_1]
    simp only [Wp_seq, Wp_ops, Wp_cond, Wp_skip, Wp_ret, Wp_exit, Wp_block, WpO_cons, WpO_nil, opQ, evOp, evO, evOs, evQ_some, guardV, guardQ_true, guardQ_false, boolQ_true, boolQ_false, argsA, pvs, putS, cellsOf, scals, scal, seqQ_normal, seqQ_ret, seqQ_exit, blkQ_normal, blkQ_ret, blkQ_exit, look_if, blkAt_if, if_true, if_false, Nat.reduceEqDiff, Nat.reduceAdd, true_implies, reduceCtorEq, false_implies, and_true, true_and, List.nil_append, List.cons_append, Bool.and_self, Nat.zero_add, Nat.add_zero, fieldA, nonNil, cellsAt, loadV_one, loadV_pvs, loadV_cons, mkAgg, allPV, List.drop_zero, List.drop_succ_cons, List.take_succ_cons, List.take_zero, List.length_cons, List.length_nil, Nat.beq_eq, storeB, patchL, beq_self_eq_true, ge_iff_le, gt_iff_lt, Int.reduceNeg, Int.reduceLE, Int.reduceLT, Int.reduceEq, extractV, List.getElem?_cons_zero, List.getElem?_cons_succ, mkAgg, Nat.add_eq_left, Nat.left_eq_add, Nat.one_ne_zero, ble_dec, beq_dec, decide_eq_true_eq, Nat.reduceLeDiff, Nat.le_refl, fillA, pureVs, pureV, beq_int, bne_int, Int.natCast_inj, eq_self, eqV, eqB, decide_true, decide_false, List.length_map, Int.toNat_natCast, List.getElem?_map, Option.map_some, Option.map_none, Int.natCast_nonneg, Option.some.injEq, lenV, binV, intBin, intV, idxA, ne_eq, not_true_eq_false, not_false_eq_true, List.drop, List.take, RetP, retP, resV, resOne, snapV, snapVs, snapR, snapRs, ownSz, pickV, cond_true, cond_false, bTT, bTF, bFT, bFF, Bool.not_true, Bool.not_false, AO.isC, Bool.or_true, Bool.true_or, Bool.or_false, Bool.false_or, WpE_cons, WpE_nil, opE, evE_some, guardE_true, guardE_false, WpD_cons, WpD_nil, opD, evD_some, guardD_true, guardD_false, h5, h1, h9, h10, h11, hlen, Int.lt_irrefl]
    exact hQ _ _ _ (by simp only [look_if, Nat.reduceEqDiff, if_false, h5])
  | cons p r ih =>
    intro i k hd hi hk ht fr hp nx h5 h1 h9 h10 h11
    obtain ⟨hget, hlt, hw, hd', hi', hb⟩ := drop_cons hd hl
    have hwk : IntKind.i64.wrap ((k : Int) + 1) = ((k + 1 : Nat) : Int) := by rw [wrap6] <;> omega
    rw [Wp_loop, Wp_eq f71l0.eq_1]
    by_cases hp1 : p.load = load
    · by_cases hp2 : p.node = 0
      · simp only [Wp_seq, Wp_ops, Wp_cond, Wp_skip, Wp_ret, Wp_exit, Wp_block, WpO_cons, WpO_nil, opQ, evOp, evO, evOs, evQ_some, guardV, guardQ_true, guardQ_false, boolQ_true, boolQ_false, argsA, pvs, putS, cellsOf, scals, scal, seqQ_normal, seqQ_ret, seqQ_exit, blkQ_normal, blkQ_ret, blkQ_exit, look_if, blkAt_if, if_true, if_false, Nat.reduceEqDiff, Nat.reduceAdd, true_implies, reduceCtorEq, false_implies, and_true, true_and, List.nil_append, List.cons_append, Bool.and_self, Nat.zero_add, Nat.add_zero, fieldA, nonNil, cellsAt, loadV_one, loadV_pvs, loadV_cons, mkAgg, allPV, List.drop_zero, List.drop_succ_cons, List.take_succ_cons, List.take_zero, List.length_cons, List.length_nil, Nat.beq_eq, storeB, patchL, beq_self_eq_true, ge_iff_le, gt_iff_lt, Int.reduceNeg, Int.reduceLE, Int.reduceLT, Int.reduceEq, extractV, List.getElem?_cons_zero, List.getElem?_cons_succ, mkAgg, Nat.add_eq_left, Nat.left_eq_add, Nat.one_ne_zero, ble_dec, beq_dec, decide_eq_true_eq, Nat.reduceLeDiff, Nat.le_refl, fillA, pureVs, pureV, beq_int, bne_int, Int.natCast_inj, eq_self, eqV, eqB, decide_true, decide_false, List.length_map, Int.toNat_natCast, List.getElem?_map, Option.map_some, Option.map_none, Int.natCast_nonneg, Option.some.injEq, lenV, binV, intBin, intV, idxA, ne_eq, not_true_eq_false, not_false_eq_true, List.drop, List.take, RetP, retP, resV, resOne, snapV, snapVs, snapR, snapRs, ownSz, pickV, cond_true, cond_false, bTT, bTF, bFT, bFF, Bool.not_true, Bool.not_false, AO.isC, Bool.or_true, Bool.true_or, Bool.or_false, Bool.false_or, WpE_cons, WpE_nil, opE, evE_some, guardE_true, guardE_false, WpD_cons, WpD_nil, opD, evD_some, guardD_true, guardD_false, h5, h1, h9, h10, h11, hlt, hget, podC, hp1, hp2, hw]
        refine ih (i + 1) k hd' hi' (by omega) (by simpa [sizeN, hp2] using ht) _ _ _ ?_ ?_ ?_ ?_ ?_
        all_goals simp only [look_if, Nat.reduceEqDiff, if_true, if_false, h5, h1, h9, h10]
      · simp only [Wp_seq, Wp_ops, Wp_cond, Wp_skip, Wp_ret, Wp_exit, Wp_block, WpO_cons, WpO_nil, opQ, evOp, evO, evOs, evQ_some, guardV, guardQ_true, guardQ_false, boolQ_true, boolQ_false, argsA, pvs, putS, cellsOf, scals, scal, seqQ_normal, seqQ_ret, seqQ_exit, blkQ_normal, blkQ_ret, blkQ_exit, look_if, blkAt_if, if_true, if_false, Nat.reduceEqDiff, Nat.reduceAdd, true_implies, reduceCtorEq, false_implies, and_true, true_and, List.nil_append, List.cons_append, Bool.and_self, Nat.zero_add, Nat.add_zero, fieldA, nonNil, cellsAt, loadV_one, loadV_pvs, loadV_cons, mkAgg, allPV, List.drop_zero, List.drop_succ_cons, List.take_succ_cons, List.take_zero, List.length_cons, List.length_nil, Nat.beq_eq, storeB, patchL, beq_self_eq_true, ge_iff_le, gt_iff_lt, Int.reduceNeg, Int.reduceLE, Int.reduceLT, Int.reduceEq, extractV, List.getElem?_cons_zero, List.getElem?_cons_succ, mkAgg, Nat.add_eq_left, Nat.left_eq_add, Nat.one_ne_zero, ble_dec, beq_dec, decide_eq_true_eq, Nat.reduceLeDiff, Nat.le_refl, fillA, pureVs, pureV, beq_int, bne_int, Int.natCast_inj, eq_self, eqV, eqB, decide_true, decide_false, List.length_map, Int.toNat_natCast, List.getElem?_map, Option.map_some, Option.map_none, Int.natCast_nonneg, Option.some.injEq, lenV, binV, intBin, intV, idxA, ne_eq, not_true_eq_false, not_false_eq_true, List.drop, List.take, RetP, retP, resV, resOne, snapV, snapVs, snapR, snapRs, ownSz, pickV, cond_true, cond_false, bTT, bTF, bFT, bFF, Bool.not_true, Bool.not_false, AO.isC, Bool.or_true, Bool.true_or, Bool.or_false, Bool.false_or, WpE_cons, WpE_nil, opE, evE_some, guardE_true, guardE_false, WpD_cons, WpD_nil, opD, evD_some, guardD_true, guardD_false, h5, h1, h9, h10, h11, hlt, hget, podC, hp1, hp2, hw, hwk]
        refine ih (i + 1) (k + 1) hd' hi' (by omega) (by simp [sizeN, hp1, hp2] at ht; omega) _ _ _ ?_ ?_ ?_ ?_ ?_
        all_goals simp only [look_if, Nat.reduceEqDiff, if_true, if_false, h5, h1, h9, h10]
    · simp only [Wp_seq, Wp_ops, Wp_cond, Wp_skip, Wp_ret, Wp_exit, Wp_block, WpO_cons, WpO_nil, opQ, evOp, evO, evOs, evQ_some, guardV, guardQ_true, guardQ_false, boolQ_true, boolQ_false, argsA, pvs, putS, cellsOf, scals, scal, seqQ_normal, seqQ_ret, seqQ_exit, blkQ_normal, blkQ_ret, blkQ_exit, look_if, blkAt_if, if_true, if_false, Nat.reduceEqDiff, Nat.reduceAdd, true_implies, reduceCtorEq, false_implies, and_true, true_and, List.nil_append, List.cons_append, Bool.and_self, Nat.zero_add, Nat.add_zero, fieldA, nonNil, cellsAt, loadV_one, loadV_pvs, loadV_cons, mkAgg, allPV, List.drop_zero, List.drop_succ_cons, List.take_succ_cons, List.take_zero, List.length_cons, List.length_nil, Nat.beq_eq, storeB, patchL, beq_self_eq_true, ge_iff_le, gt_iff_lt, Int.reduceNeg, Int.reduceLE, Int.reduceLT, Int.reduceEq, extractV, List.getElem?_cons_zero, List.getElem?_cons_succ, mkAgg, Nat.add_eq_left, Nat.left_eq_add, Nat.one_ne_zero, ble_dec, beq_dec, decide_eq_true_eq, Nat.reduceLeDiff, Nat.le_refl, fillA, pureVs, pureV, beq_int, bne_int, Int.natCast_inj, eq_self, eqV, eqB, decide_true, decide_false, List.length_map, Int.toNat_natCast, List.getElem?_map, Option.map_some, Option.map_none, Int.natCast_nonneg, Option.some.injEq, lenV, binV, intBin, intV, idxA, ne_eq, not_true_eq_false, not_false_eq_true, List.drop, List.take, RetP, retP, resV, resOne, snapV, snapVs, snapR, snapRs, ownSz, pickV, cond_true, cond_false, bTT, bTF, bFT, bFF, Bool.not_true, Bool.not_false, AO.isC, Bool.or_true, Bool.true_or, Bool.or_false, Bool.false_or, WpE_cons, WpE_nil, opE, evE_some, guardE_true, guardE_false, WpD_cons, WpD_nil, opD, evD_some, guardD_true, guardD_false, h5, h1, h9, h10, h11, hlt, hget, podC, hp1, hw]
      refine ih (i + 1) k hd' hi' (by omega) (by simpa [sizeN, hp1] using ht) _ _ _ ?_ ?_ ?_ ?_ ?_
      all_goals simp only [look_if, Nat.reduceEqDiff, if_true, if_false, h5, h1, h9, h10]
theorem size_ok (h71 : Std T 71 f71) (t : State) (load : Int) (h : t.pods.length ≤ 2 ^ 30) : Gives T 71 [stateP t, .int .i64 load] (.int .i64 (sizeN load t.pods)) := by
  refine gives h71 rfl ?_
  simp only [f71, Wp_seq, Wp_ops, Wp_cond, Wp_skip, Wp_ret, Wp_exit, Wp_block, WpO_cons, WpO_nil, opQ, evOp, evO, evOs, evQ_some, guardV, guardQ_true, guardQ_false, boolQ_true, boolQ_false, argsA, pvs, putS, cellsOf, scals, scal, seqQ_normal, seqQ_ret, seqQ_exit, blkQ_normal, blkQ_ret, blkQ_exit, look_if, blkAt_if, if_true, if_false, Nat.reduceEqDiff, Nat.reduceAdd, true_implies, reduceCtorEq, false_implies, and_true, true_and, List.nil_append, List.cons_append, Bool.and_self, Nat.zero_add, Nat.add_zero, fieldA, nonNil, cellsAt, loadV_one, loadV_pvs, loadV_cons, mkAgg, allPV, List.drop_zero, List.drop_succ_cons, List.take_succ_cons, List.take_zero, List.length_cons, List.length_nil, Nat.beq_eq, storeB, patchL, beq_self_eq_true, ge_iff_le, gt_iff_lt, Int.reduceNeg, Int.reduceLE, Int.reduceLT, Int.reduceEq, extractV, List.getElem?_cons_zero, List.getElem?_cons_succ, mkAgg, Nat.add_eq_left, Nat.left_eq_add, Nat.one_ne_zero, ble_dec, beq_dec, decide_eq_true_eq, Nat.reduceLeDiff, Nat.le_refl, fillA, pureVs, pureV, beq_int, bne_int, Int.natCast_inj, eq_self, eqV, eqB, decide_true, decide_false, List.length_map, Int.toNat_natCast, List.getElem?_map, Option.map_some, Option.map_none, Int.natCast_nonneg, Option.some.injEq, lenV, binV, intBin, intV, idxA, ne_eq, not_true_eq_false, not_false_eq_true, List.drop, List.take, RetP, retP, resV, resOne, snapV, snapVs, snapR, snapRs, ownSz, pickV, cond_true, cond_false, bTT, bTF, bFT, bFF, Bool.not_true, Bool.not_false, AO.isC, Bool.or_true, Bool.true_or, Bool.or_false, Bool.false_or, WpE_cons, WpE_nil, opE, evE_some, guardE_true, guardE_false, WpD_cons, WpD_nil, opD, evD_some, guardD_true, guardD_false, stateP]
  refine size_loop load t.pods h _ (sizeN load t.pods) (fun fr hp nx h5 => ?_) t.pods 0 0 rfl (Nat.zero_le _) (Nat.le_refl _) (Nat.zero_add _) _ _ _ rfl rfl rfl rfl rfl
  simp only [Wp_seq, Wp_ops, Wp_cond, Wp_skip, Wp_ret, Wp_exit, Wp_block, WpO_cons, WpO_nil, opQ, evOp, evO, evOs, evQ_some, guardV, guardQ_true, guardQ_false, boolQ_true, boolQ_false, argsA, pvs, putS, cellsOf, scals, scal, seqQ_normal, seqQ_ret, seqQ_exit, blkQ_normal, blkQ_ret, blkQ_exit, look_if, blkAt_if, if_true, if_false, Nat.reduceEqDiff, Nat.reduceAdd, true_implies, reduceCtorEq, false_implies, and_true, true_and, List.nil_append, List.cons_append, Bool.and_self, Nat.zero_add, Nat.add_zero, fieldA, nonNil, cellsAt, loadV_one, loadV_pvs, loadV_cons, mkAgg, allPV, List.drop_zero, List.drop_succ_cons, List.take_succ_cons, List.take_zero, List.length_cons, List.length_nil, Nat.beq_eq, storeB, patchL, beq_self_eq_true, ge_iff_le, gt_iff_lt, Int.reduceNeg, Int.reduceLE, Int.reduceLT, Int.reduceEq, extractV, List.getElem?_cons_zero, List.getElem?_cons_succ, mkAgg, Nat.add_eq_left, Nat.left_eq_add, Nat.one_ne_zero, ble_dec, beq_dec, decide_eq_true_eq, Nat.reduceLeDiff, Nat.le_refl, fillA, pureVs, pureV, beq_int, bne_int, Int.natCast_inj, eq_self, eqV, eqB, decide_true, decide_false, List.length_map, Int.toNat_natCast, List.getElem?_map, Option.map_some, Option.map_none, Int.natCast_nonneg, Option.some.injEq, lenV, binV, intBin, intV, idxA, ne_eq, not_true_eq_false, not_false_eq_true, List.drop, List.take, RetP, retP, resV, resOne, snapV, snapVs, snapR, snapRs, ownSz, pickV, cond_true, cond_false, bTT, bTF, bFT, bFF, Bool.not_true, Bool.not_false, AO.isC, Bool.or_true, Bool.true_or, Bool.or_false, Bool.false_or, WpE_cons, WpE_nil, opE, evE_some, guardE_true, guardE_false, WpD_cons, WpD_nil, opD, evD_some, guardD_true, guardD_false, h5]

theorem size2_loop (load : Int) (t : State) (hl : t.pods.length ≤ 2 ^ 30) (Q : Exit → St → Prop) (total : Nat) (hQ : ∀ fr hp nx, look fr 5 = .pv (.int .i64 total) → Q (.exit 0) ⟨fr, hp, nx⟩) :
    ∀ (rest : List Pod) (i k : Nat), t.pods.drop i = rest → i ≤ t.pods.length → k ≤ i → k + sizeN load rest = total → ∀ (fr : List (Nat × AV)) (hp : Hl) (nx : Nat), look fr 5 = .pv (.int .i64 k) → look fr 1 = .pv (.int .i64 load) →
      look fr 2 = .ptr 0 0 0 → blkAt hp 0 = .var [.pv (.slice (t.pods.map podC)), .pv (.int .i64 t.pre), .pv (.int .i64 t.shi)] → look fr 6 = .pv (.int .i64 i) → Wp T false (.loop f176l0) ⟨fr, hp, nx⟩ Q := by
  intro rest
  induction rest with
  | nil =>
    intro i k hd hi hk ht fr hp nx h5 h1 h2 b0 h6
    have hlen := drop_nil hd hi
    simp only [sizeN, Nat.add_zero] at ht
    subst ht
    rw [Wp_loop, Wp_eq f176l0.eq_1]
    simp only [Wp_seq, Wp_ops, Wp_cond, Wp_skip, Wp_ret, Wp_exit, Wp_block, WpO_cons, WpO_nil, opQ, evOp, evO, evOs, evQ_some, guardV, guardQ_true, guardQ_false, boolQ_true, boolQ_false, argsA, pvs, putS, cellsOf, scals, scal, seqQ_normal, seqQ_ret, seqQ_exit, blkQ_normal, blkQ_ret, blkQ_exit, look_if, blkAt_if, if_true, if_false, Nat.reduceEqDiff, Nat.reduceAdd, true_implies, reduceCtorEq, false_implies, and_true, true_and, List.nil_append, List.cons_append, Bool.and_self, Nat.zero_add, Nat.add_zero, fieldA, nonNil, cellsAt, loadV_one, loadV_pvs, loadV_cons, mkAgg, allPV, List.drop_zero, List.drop_succ_cons, List.take_succ_cons, List.take_zero, List.length_cons, List.length_nil, Nat.beq_eq, storeB, patchL, beq_self_eq_true, ge_iff_le, gt_iff_lt, Int.reduceNeg, Int.reduceLE, Int.reduceLT, Int.reduceEq, extractV, List.getElem?_cons_zero, List.getElem?_cons_succ, mkAgg, Nat.add_eq_left, Nat.left_eq_add, Nat.one_ne_zero, ble_dec, beq_dec, decide_eq_true_eq, Nat.reduceLeDiff, Nat.le_refl, fillA, pureVs, pureV, beq_int, bne_int, Int.natCast_inj, eq_self, eqV, eqB, decide_true, decide_false, List.length_map, Int.toNat_natCast, List.getElem?_map, Option.map_some, Option.map_none, Int.natCast_nonneg, Option.some.injEq, lenV, binV, intBin, intV, idxA, ne_eq, not_true_eq_false, not_false_eq_true, List.drop, List.take, RetP, retP, resV, resOne, snapV, snapVs, snapR, snapRs, ownSz, pickV, cond_true, cond_false, bTT, bTF, bFT, bFF, Bool.not_true, Bool.not_false, AO.isC, Bool.or_true, Bool.true_or, Bool.or_false, Bool.false_or, WpE_cons, WpE_nil, opE, evE_some, guardE_true, guardE_false, WpD_cons, WpD_nil, opD, evD_some, guardD_true, guardD_false, h5, h1, h2, b0, h6, hlen, Int.lt_irrefl]
    exact hQ _ _ _ (by simp only [look_if, Nat.reduceEqDiff, if_false, h5])
  | cons p r ih =>
    intro i k hd hi hk ht fr hp nx h5 h1 h2 b0 h6
    obtain ⟨hget, hlt, hw, hd', hi', hb⟩ := drop_cons hd hl
    have hwk : IntKind.i64.wrap ((k : Int) + 1) = ((k + 1 : Nat) : Int) := by rw [wrap6] <;> omega
    rw [Wp_loop, Wp_eq f176l0.eq_1]
    by_cases hp1 : p.load = load
    · by_cases hp2 : p.node = 0
      · simp only [Wp_seq, Wp_ops, Wp_cond, Wp_skip, Wp_ret, Wp_exit, Wp_block, WpO_cons, WpO_nil, opQ, evOp, evO, evOs, evQ_some, guardV, guardQ_true, guardQ_false, boolQ_true, boolQ_false, argsA, pvs, putS, cellsOf, scals, scal, seqQ_normal, seqQ_ret, seqQ_exit, blkQ_normal, blkQ_ret, blkQ_exit, look_if, blkAt_if, if_true, if_false, Nat.reduceEqDiff, Nat.reduceAdd, true_implies, reduceCtorEq, false_implies, and_true, true_and, List.nil_append, List.cons_append, Bool.and_self, Nat.zero_add, Nat.add_zero, fieldA, nonNil, cellsAt, loadV_one, loadV_pvs, loadV_cons, mkAgg, allPV, List.drop_zero, List.drop_succ_cons, List.take_succ_cons, List.take_zero, List.length_cons, List.length_nil, Nat.beq_eq, storeB, patchL, beq_self_eq_true, ge_iff_le, gt_iff_lt, Int.reduceNeg, Int.reduceLE, Int.reduceLT, Int.reduceEq, extractV, List.getElem?_cons_zero, List.getElem?_cons_succ, mkAgg, Nat.add_eq_left, Nat.left_eq_add, Nat.one_ne_zero, ble_dec, beq_dec, decide_eq_true_eq, Nat.reduceLeDiff, Nat.le_refl, fillA, pureVs, pureV, beq_int, bne_int, Int.natCast_inj, eq_self, eqV, eqB, decide_true, decide_false, List.length_map, Int.toNat_natCast, List.getElem?_map, Option.map_some, Option.map_none, Int.natCast_nonneg, Option.some.injEq, lenV, binV, intBin, intV, idxA, ne_eq, not_true_eq_false, not_false_eq_true, List.drop, List.take, RetP, retP, resV, resOne, snapV, snapVs, snapR, snapRs, ownSz, pickV, cond_true, cond_false, bTT, bTF, bFT, bFF, Bool.not_true, Bool.not_false, AO.isC, Bool.or_true, Bool.true_or, Bool.or_false, Bool.false_or, WpE_cons, WpE_nil, opE, evE_some, guardE_true, guardE_false, WpD_cons, WpD_nil, opD, evD_some, guardD_true, guardD_false, h5, h1, h2, b0, h6, hlt, hget, podC, hp1, hp2, hw]
        refine ih (i + 1) k hd' hi' (by omega) (by simpa [sizeN, hp2] using ht) _ _ _ ?_ ?_ ?_ b0 ?_
        all_goals simp only [look_if, Nat.reduceEqDiff, if_true, if_false, h5, h1, h2]
      · simp only [Wp_seq, Wp_ops, Wp_cond, Wp_skip, Wp_ret, Wp_exit, Wp_block, WpO_cons, WpO_nil, opQ, evOp, evO, evOs, evQ_some, guardV, guardQ_true, guardQ_false, boolQ_true, boolQ_false, argsA, pvs, putS, cellsOf, scals, scal, seqQ_normal, seqQ_ret, seqQ_exit, blkQ_normal, blkQ_ret, blkQ_exit, look_if, blkAt_if, if_true, if_false, Nat.reduceEqDiff, Nat.reduceAdd, true_implies, reduceCtorEq, false_implies, and_true, true_and, List.nil_append, List.cons_append, Bool.and_self, Nat.zero_add, Nat.add_zero, fieldA, nonNil, cellsAt, loadV_one, loadV_pvs, loadV_cons, mkAgg, allPV, List.drop_zero, List.drop_succ_cons, List.take_succ_cons, List.take_zero, List.length_cons, List.length_nil, Nat.beq_eq, storeB, patchL, beq_self_eq_true, ge_iff_le, gt_iff_lt, Int.reduceNeg, Int.reduceLE, Int.reduceLT, Int.reduceEq, extractV, List.getElem?_cons_zero, List.getElem?_cons_succ, mkAgg, Nat.add_eq_left, Nat.left_eq_add, Nat.one_ne_zero, ble_dec, beq_dec, decide_eq_true_eq, Nat.reduceLeDiff, Nat.le_refl, fillA, pureVs, pureV, beq_int, bne_int, Int.natCast_inj, eq_self, eqV, eqB, decide_true, decide_false, List.length_map, Int.toNat_natCast, List.getElem?_map, Option.map_some, Option.map_none, Int.natCast_nonneg, Option.some.injEq, lenV, binV, intBin, intV, idxA, ne_eq, not_true_eq_false, not_false_eq_true, List.drop, List.take, RetP, retP, resV, resOne, snapV, snapVs, snapR, snapRs, ownSz, pickV, cond_true, cond_false, bTT, bTF, bFT, bFF, Bool.not_true, Bool.not_false, AO.isC, Bool.or_true, Bool.true_or, Bool.or_false, Bool.false_or, WpE_cons, WpE_nil, opE, evE_some, guardE_true, guardE_false, WpD_cons, WpD_nil, opD, evD_some, guardD_true, guardD_false, h5, h1, h2, b0, h6, hlt, hget, podC, hp1, hp2, hw, hwk]
        refine ih (i + 1) (k + 1) hd' hi' (by omega) (by simp [sizeN, hp1, hp2] at ht; omega) _ _ _ ?_ ?_ ?_ b0 ?_
        all_goals simp only [look_if, Nat.reduceEqDiff, if_true, if_false, h5, h1, h2]
    · simp only [Wp_seq, Wp_ops, Wp_cond, Wp_skip, Wp_ret, Wp_exit, Wp_block, WpO_cons, WpO_nil, opQ, evOp, evO, evOs, evQ_some, guardV, guardQ_true, guardQ_false, boolQ_true, boolQ_false, argsA, pvs, putS, cellsOf, scals, scal, seqQ_normal, seqQ_ret, seqQ_exit, blkQ_normal, blkQ_ret, blkQ_exit, look_if, blkAt_if, if_true, if_false, Nat.reduceEqDiff, Nat.reduceAdd, true_implies, reduceCtorEq, false_implies, and_true, true_and, List.nil_append, List.cons_append, Bool.and_self, Nat.zero_add, Nat.add_zero, fieldA, nonNil, cellsAt, loadV_one, loadV_pvs, loadV_cons, mkAgg, allPV, List.drop_zero, List.drop_succ_cons, List.take_succ_cons, List.take_zero, List.length_cons, List.length_nil, Nat.beq_eq, storeB, patchL, beq_self_eq_true, ge_iff_le, gt_iff_lt, Int.reduceNeg, Int.reduceLE, Int.reduceLT, Int.reduceEq, extractV, List.getElem?_cons_zero, List.getElem?_cons_succ, mkAgg, Nat.add_eq_left, Nat.left_eq_add, Nat.one_ne_zero, ble_dec, beq_dec, decide_eq_true_eq, Nat.reduceLeDiff, Nat.le_refl, fillA, pureVs, pureV, beq_int, bne_int, Int.natCast_inj, eq_self, eqV, eqB, decide_true, decide_false, List.length_map, Int.toNat_natCast, List.getElem?_map, Option.map_some, Option.map_none, Int.natCast_nonneg, Option.some.injEq, lenV, binV, intBin, intV, idxA, ne_eq, not_true_eq_false, not_false_eq_true, List.drop, List.take, RetP, retP, resV, resOne, snapV, snapVs, snapR, snapRs, ownSz, pickV, cond_true, cond_false, bTT, bTF, bFT, bFF, Bool.not_true, Bool.not_false, AO.isC, Bool.or_true, Bool.true_or, Bool.or_false, Bool.false_or, WpE_cons, WpE_nil, opE, evE_some, guardE_true, guardE_false, WpD_cons, WpD_nil, opD, evD_some, guardD_true, guardD_false, h5, h1, h2, b0, h6, hlt, hget, podC, hp1, hw]
      refine ih (i + 1) k hd' hi' (by omega) (by simpa [sizeN, hp1] using ht) _ _ _ ?_ ?_ ?_ b0 ?_
      all_goals simp only [look_if, Nat.reduceEqDiff, if_true, if_false, h5, h1, h2]
theorem size2_ok (h176 : Std T 176 f176) (t : State) (load : Int) (h : t.pods.length ≤ 2 ^ 30) : Gives T 176 [stateP t, .int .i64 load] (.int .i64 (sizeN load t.pods)) := by
  refine gives h176 rfl ?_
  simp only [f176, Wp_seq, Wp_ops, Wp_cond, Wp_skip, Wp_ret, Wp_exit, Wp_block, WpO_cons, WpO_nil, opQ, evOp, evO, evOs, evQ_some, guardV, guardQ_true, guardQ_false, boolQ_true, boolQ_false, argsA, pvs, putS, cellsOf, scals, scal, seqQ_normal, seqQ_ret, seqQ_exit, blkQ_normal, blkQ_ret, blkQ_exit, look_if, blkAt_if, if_true, if_false, Nat.reduceEqDiff, Nat.reduceAdd, true_implies, reduceCtorEq, false_implies, and_true, true_and, List.nil_append, List.cons_append, Bool.and_self, Nat.zero_add, Nat.add_zero, fieldA, nonNil, cellsAt, loadV_one, loadV_pvs, loadV_cons, mkAgg, allPV, List.drop_zero, List.drop_succ_cons, List.take_succ_cons, List.take_zero, List.length_cons, List.length_nil, Nat.beq_eq, storeB, patchL, beq_self_eq_true, ge_iff_le, gt_iff_lt, Int.reduceNeg, Int.reduceLE, Int.reduceLT, Int.reduceEq, extractV, List.getElem?_cons_zero, List.getElem?_cons_succ, mkAgg, Nat.add_eq_left, Nat.left_eq_add, Nat.one_ne_zero, ble_dec, beq_dec, decide_eq_true_eq, Nat.reduceLeDiff, Nat.le_refl, fillA, pureVs, pureV, beq_int, bne_int, Int.natCast_inj, eq_self, eqV, eqB, decide_true, decide_false, List.length_map, Int.toNat_natCast, List.getElem?_map, Option.map_some, Option.map_none, Int.natCast_nonneg, Option.some.injEq, lenV, binV, intBin, intV, idxA, ne_eq, not_true_eq_false, not_false_eq_true, List.drop, List.take, RetP, retP, resV, resOne, snapV, snapVs, snapR, snapRs, ownSz, pickV, cond_true, cond_false, bTT, bTF, bFT, bFF, Bool.not_true, Bool.not_false, AO.isC, Bool.or_true, Bool.true_or, Bool.or_false, Bool.false_or, WpE_cons, WpE_nil, opE, evE_some, guardE_true, guardE_false, WpD_cons, WpD_nil, opD, evD_some, guardD_true, guardD_false, stateP]
  refine size2_loop load t h _ (sizeN load t.pods) (fun fr hp nx h5 => ?_) t.pods 0 0 rfl (Nat.zero_le _) (Nat.le_refl _) (Nat.zero_add _) _ _ _ rfl rfl rfl rfl rfl
  simp only [Wp_seq, Wp_ops, Wp_cond, Wp_skip, Wp_ret, Wp_exit, Wp_block, WpO_cons, WpO_nil, opQ, evOp, evO, evOs, evQ_some, guardV, guardQ_true, guardQ_false, boolQ_true, boolQ_false, argsA, pvs, putS, cellsOf, scals, scal, seqQ_normal, seqQ_ret, seqQ_exit, blkQ_normal, blkQ_ret, blkQ_exit, look_if, blkAt_if, if_true, if_false, Nat.reduceEqDiff, Nat.reduceAdd, true_implies, reduceCtorEq, false_implies, and_true, true_and, List.nil_append, List.cons_append, Bool.and_self, Nat.zero_add, Nat.add_zero, fieldA, nonNil, cellsAt, loadV_one, loadV_pvs, loadV_cons, mkAgg, allPV, List.drop_zero, List.drop_succ_cons, List.take_succ_cons, List.take_zero, List.length_cons, List.length_nil, Nat.beq_eq, storeB, patchL, beq_self_eq_true, ge_iff_le, gt_iff_lt, Int.reduceNeg, Int.reduceLE, Int.reduceLT, Int.reduceEq, extractV, List.getElem?_cons_zero, List.getElem?_cons_succ, mkAgg, Nat.add_eq_left, Nat.left_eq_add, Nat.one_ne_zero, ble_dec, beq_dec, decide_eq_true_eq, Nat.reduceLeDiff, Nat.le_refl, fillA, pureVs, pureV, beq_int, bne_int, Int.natCast_inj, eq_self, eqV, eqB, decide_true, decide_false, List.length_map, Int.toNat_natCast, List.getElem?_map, Option.map_some, Option.map_none, Int.natCast_nonneg, Option.some.injEq, lenV, binV, intBin, intV, idxA, ne_eq, not_true_eq_false, not_false_eq_true, List.drop, List.take, RetP, retP, resV, resOne, snapV, snapVs, snapR, snapRs, ownSz, pickV, cond_true, cond_false, bTT, bTF, bFT, bFF, Bool.not_true, Bool.not_false, AO.isC, Bool.or_true, Bool.true_or, Bool.or_false, Bool.false_or, WpE_cons, WpE_nil, opE, evE_some, guardE_true, guardE_false, WpD_cons, WpD_nil, opD, evD_some, guardD_true, guardD_false, h5]

/-- The first load at fault, from here on: the code, and the place. -/
def badLoad (pods : List Pod) : Nat → List Load → Option (Int × Int)
  | _, [] => none
  | i, l :: r => if (sizeN l.id pods : Int) < l.min then some (12, i) else if (sizeN l.id pods : Int) > l.max then some (13, i) else badLoad pods (i + 1) r

theorem check9_loop (s : Snap) (t : State) (ht : t.pods.length ≤ 2 ^ 30) (hl : s.loads.length ≤ 2 ^ 30) (h71 : Std T 71 f71) (Q : Exit → St → Prop) (o : Option (Int × Int))
    (hend : o = none → ∀ fr hp nx, Q (.exit 0) ⟨fr, hp, nx⟩)
    (hret : ∀ c i, o = some (c, i) → ∀ fr hp nx id, look fr 4 = .iface 1 (.ptr id 0 0) → blkAt hp id = .var [.pv (.int .i64 i), .pv (.int .i64 c)] → Q .ret ⟨fr, hp, nx⟩) :
    ∀ (rest : List Load) (i : Nat), s.loads.drop i = rest → i ≤ s.loads.length → badLoad t.pods i rest = o → ∀ (fr : List (Nat × AV)) (hp : Hl) (nx : Nat), 2 ≤ nx →
      look fr 3 = .ptr 1 0 0 → blkAt hp 1 = .var [.pv (.slice (t.pods.map podC)), .pv (.int .i64 t.pre), .pv (.int .i64 t.shi)] →
      look fr 9 = .pv (.slice (s.loads.map loadC)) → look fr 10 = .pv (.int .i64 s.loads.length) → look fr 11 = .pv (.int .i64 i) → Wp T false (.loop f70l0) ⟨fr, hp, nx⟩ Q := by
  intro rest
  induction rest with
  | nil =>
    intro i hd hi ho fr hp nx hn h3 b1 h9 h10 h11
    have hlen := drop_nil hd hi
    rw [Wp_loop, Wp_eq f70l0.eq_1]
    simp only [Wp_seq, Wp_ops, Wp_cond, Wp_skip, Wp_ret, Wp_exit, Wp_block, WpO_cons, WpO_nil, opQ, evOp, evO, evOs, evQ_some, guardV, guardQ_true, guardQ_false, boolQ_true, boolQ_false, argsA, pvs, putS, cellsOf, scals, scal, seqQ_normal, seqQ_ret, seqQ_exit, blkQ_normal, blkQ_ret, blkQ_exit, look_if, blkAt_if, if_true, if_false, Nat.reduceEqDiff, Nat.reduceAdd, true_implies, reduceCtorEq, false_implies, and_true, true_and, List.nil_append, List.cons_append, Bool.and_self, Nat.zero_add, Nat.add_zero, fieldA, nonNil, cellsAt, loadV_one, loadV_pvs, loadV_cons, mkAgg, allPV, List.drop_zero, List.drop_succ_cons, List.take_succ_cons, List.take_zero, List.length_cons, List.length_nil, Nat.beq_eq, storeB, patchL, beq_self_eq_true, ge_iff_le, gt_iff_lt, Int.reduceNeg, Int.reduceLE, Int.reduceLT, Int.reduceEq, extractV, List.getElem?_cons_zero, List.getElem?_cons_succ, mkAgg, Nat.add_eq_left, Nat.left_eq_add, Nat.one_ne_zero, ble_dec, beq_dec, decide_eq_true_eq, Nat.reduceLeDiff, Nat.le_refl, fillA, pureVs, pureV, beq_int, bne_int, Int.natCast_inj, eq_self, eqV, eqB, decide_true, decide_false, List.length_map, Int.toNat_natCast, List.getElem?_map, Option.map_some, Option.map_none, Int.natCast_nonneg, Option.some.injEq, lenV, binV, intBin, intV, idxA, ne_eq, not_true_eq_false, not_false_eq_true, List.drop, List.take, RetP, retP, resV, resOne, snapV, snapVs, snapR, snapRs, ownSz, pickV, cond_true, cond_false, bTT, bTF, bFT, bFF, Bool.not_true, Bool.not_false, AO.isC, Bool.or_true, Bool.true_or, Bool.or_false, Bool.false_or, WpE_cons, WpE_nil, opE, evE_some, guardE_true, guardE_false, WpD_cons, WpD_nil, opD, evD_some, guardD_true, guardD_false, h3, h9, h10, h11, hlen, Int.lt_irrefl]
    exact hend ho.symm _ _ _
  | cons l r ih =>
    intro i hd hi ho fr hp nx hn h3 b1 h9 h10 h11
    obtain ⟨hget, hlt, hw, hd', hi', hb⟩ := drop_cons hd hl
    have n1 : ¬ nx = 1 := by omega
    have k := size_ok h71 t l.id ht
    rw [Wp_loop, Wp_eq f70l0.eq_1]
    simp only [badLoad] at ho
    by_cases c1 : (sizeN l.id t.pods : Int) < l.min
    · rw [if_pos c1] at ho
      simp only [Wp_seq, Wp_ops, Wp_cond, Wp_skip, Wp_ret, Wp_exit, Wp_block, WpO_cons, WpO_nil, opQ, evOp, evO, evOs, evQ_some, guardV, guardQ_true, guardQ_false, boolQ_true, boolQ_false, argsA, pvs, putS, cellsOf, scals, scal, seqQ_normal, seqQ_ret, seqQ_exit, blkQ_normal, blkQ_ret, blkQ_exit, look_if, blkAt_if, if_true, if_false, Nat.reduceEqDiff, Nat.reduceAdd, true_implies, reduceCtorEq, false_implies, and_true, true_and, List.nil_append, List.cons_append, Bool.and_self, Nat.zero_add, Nat.add_zero, fieldA, nonNil, cellsAt, loadV_one, loadV_pvs, loadV_cons, mkAgg, allPV, List.drop_zero, List.drop_succ_cons, List.take_succ_cons, List.take_zero, List.length_cons, List.length_nil, Nat.beq_eq, storeB, patchL, beq_self_eq_true, ge_iff_le, gt_iff_lt, Int.reduceNeg, Int.reduceLE, Int.reduceLT, Int.reduceEq, extractV, List.getElem?_cons_zero, List.getElem?_cons_succ, mkAgg, Nat.add_eq_left, Nat.left_eq_add, Nat.one_ne_zero, ble_dec, beq_dec, decide_eq_true_eq, Nat.reduceLeDiff, Nat.le_refl, fillA, pureVs, pureV, beq_int, bne_int, Int.natCast_inj, eq_self, eqV, eqB, decide_true, decide_false, List.length_map, Int.toNat_natCast, List.getElem?_map, Option.map_some, Option.map_none, Int.natCast_nonneg, Option.some.injEq, lenV, binV, intBin, intV, idxA, ne_eq, not_true_eq_false, not_false_eq_true, List.drop, List.take, RetP, retP, resV, resOne, snapV, snapVs, snapR, snapRs, ownSz, pickV, cond_true, cond_false, bTT, bTF, bFT, bFF, Bool.not_true, Bool.not_false, AO.isC, Bool.or_true, Bool.true_or, Bool.or_false, Bool.false_or, WpE_cons, WpE_nil, opE, evE_some, guardE_true, guardE_false, WpD_cons, WpD_nil, opD, evD_some, guardD_true, guardD_false, h3, b1, h9, h10, h11, hlt, hget, loadC, n1, k.call, stateP, c1]
      refine hret 12 i ho.symm _ _ _ (nx + 1) ?_ ?_
      · simp only [look_if, Nat.reduceEqDiff, if_true, if_false]
      · simp only [blkAt_if, if_true]
    · rw [if_neg c1] at ho
      by_cases c2 : (sizeN l.id t.pods : Int) > l.max
      · rw [if_pos c2] at ho
        have c2' : l.max < (sizeN l.id t.pods : Int) := c2
        simp only [Wp_seq, Wp_ops, Wp_cond, Wp_skip, Wp_ret, Wp_exit, Wp_block, WpO_cons, WpO_nil, opQ, evOp, evO, evOs, evQ_some, guardV, guardQ_true, guardQ_false, boolQ_true, boolQ_false, argsA, pvs, putS, cellsOf, scals, scal, seqQ_normal, seqQ_ret, seqQ_exit, blkQ_normal, blkQ_ret, blkQ_exit, look_if, blkAt_if, if_true, if_false, Nat.reduceEqDiff, Nat.reduceAdd, true_implies, reduceCtorEq, false_implies, and_true, true_and, List.nil_append, List.cons_append, Bool.and_self, Nat.zero_add, Nat.add_zero, fieldA, nonNil, cellsAt, loadV_one, loadV_pvs, loadV_cons, mkAgg, allPV, List.drop_zero, List.drop_succ_cons, List.take_succ_cons, List.take_zero, List.length_cons, List.length_nil, Nat.beq_eq, storeB, patchL, beq_self_eq_true, ge_iff_le, gt_iff_lt, Int.reduceNeg, Int.reduceLE, Int.reduceLT, Int.reduceEq, extractV, List.getElem?_cons_zero, List.getElem?_cons_succ, mkAgg, Nat.add_eq_left, Nat.left_eq_add, Nat.one_ne_zero, ble_dec, beq_dec, decide_eq_true_eq, Nat.reduceLeDiff, Nat.le_refl, fillA, pureVs, pureV, beq_int, bne_int, Int.natCast_inj, eq_self, eqV, eqB, decide_true, decide_false, List.length_map, Int.toNat_natCast, List.getElem?_map, Option.map_some, Option.map_none, Int.natCast_nonneg, Option.some.injEq, lenV, binV, intBin, intV, idxA, ne_eq, not_true_eq_false, not_false_eq_true, List.drop, List.take, RetP, retP, resV, resOne, snapV, snapVs, snapR, snapRs, ownSz, pickV, cond_true, cond_false, bTT, bTF, bFT, bFF, Bool.not_true, Bool.not_false, AO.isC, Bool.or_true, Bool.true_or, Bool.or_false, Bool.false_or, WpE_cons, WpE_nil, opE, evE_some, guardE_true, guardE_false, WpD_cons, WpD_nil, opD, evD_some, guardD_true, guardD_false, h3, b1, h9, h10, h11, hlt, hget, loadC, n1, k.call, stateP, c1, c2']
        refine hret 13 i ho.symm _ _ _ (nx + 1) ?_ ?_
        · simp only [look_if, Nat.reduceEqDiff, if_true, if_false]
        · simp only [blkAt_if, if_true]
      · rw [if_neg c2] at ho
        have c2' : ¬ l.max < (sizeN l.id t.pods : Int) := c2
        simp only [Wp_seq, Wp_ops, Wp_cond, Wp_skip, Wp_ret, Wp_exit, Wp_block, WpO_cons, WpO_nil, opQ, evOp, evO, evOs, evQ_some, guardV, guardQ_true, guardQ_false, boolQ_true, boolQ_false, argsA, pvs, putS, cellsOf, scals, scal, seqQ_normal, seqQ_ret, seqQ_exit, blkQ_normal, blkQ_ret, blkQ_exit, look_if, blkAt_if, if_true, if_false, Nat.reduceEqDiff, Nat.reduceAdd, true_implies, reduceCtorEq, false_implies, and_true, true_and, List.nil_append, List.cons_append, Bool.and_self, Nat.zero_add, Nat.add_zero, fieldA, nonNil, cellsAt, loadV_one, loadV_pvs, loadV_cons, mkAgg, allPV, List.drop_zero, List.drop_succ_cons, List.take_succ_cons, List.take_zero, List.length_cons, List.length_nil, Nat.beq_eq, storeB, patchL, beq_self_eq_true, ge_iff_le, gt_iff_lt, Int.reduceNeg, Int.reduceLE, Int.reduceLT, Int.reduceEq, extractV, List.getElem?_cons_zero, List.getElem?_cons_succ, mkAgg, Nat.add_eq_left, Nat.left_eq_add, Nat.one_ne_zero, ble_dec, beq_dec, decide_eq_true_eq, Nat.reduceLeDiff, Nat.le_refl, fillA, pureVs, pureV, beq_int, bne_int, Int.natCast_inj, eq_self, eqV, eqB, decide_true, decide_false, List.length_map, Int.toNat_natCast, List.getElem?_map, Option.map_some, Option.map_none, Int.natCast_nonneg, Option.some.injEq, lenV, binV, intBin, intV, idxA, ne_eq, not_true_eq_false, not_false_eq_true, List.drop, List.take, RetP, retP, resV, resOne, snapV, snapVs, snapR, snapRs, ownSz, pickV, cond_true, cond_false, bTT, bTF, bFT, bFF, Bool.not_true, Bool.not_false, AO.isC, Bool.or_true, Bool.true_or, Bool.or_false, Bool.false_or, WpE_cons, WpE_nil, opE, evE_some, guardE_true, guardE_false, WpD_cons, WpD_nil, opD, evD_some, guardD_true, guardD_false, h3, b1, h9, h10, h11, hlt, hget, loadC, n1, k.call, stateP, c1, c2', hw]
        refine ih (i + 1) hd' hi' ho _ _ _ (by omega) ?_ ?_ ?_ ?_ ?_
        all_goals simp only [look_if, blkAt_if, Nat.reduceEqDiff, if_true, if_false, h3, b1, h9, h10, n1]
/-- An error, or none. -/
def errO : Option (Int × Int) → PV
  | none => .nili
  | some (c, i) => spotE i c
theorem check9_ok (h70 : Std T 70 f70) (h71 : Std T 71 f71) (s : Snap) (t : State) (ht : t.pods.length ≤ 2 ^ 30) (hl : s.loads.length ≤ 2 ^ 30) : Gives T 70 [snapP s, stateP t] (errO (badLoad t.pods 0 s.loads)) := by
  refine gives h70 rfl ?_
  simp only [f70, Wp_seq, Wp_ops, Wp_cond, Wp_skip, Wp_ret, Wp_exit, Wp_block, WpO_cons, WpO_nil, opQ, evOp, evO, evOs, evQ_some, guardV, guardQ_true, guardQ_false, boolQ_true, boolQ_false, argsA, pvs, putS, cellsOf, scals, scal, seqQ_normal, seqQ_ret, seqQ_exit, blkQ_normal, blkQ_ret, blkQ_exit, look_if, blkAt_if, if_true, if_false, Nat.reduceEqDiff, Nat.reduceAdd, true_implies, reduceCtorEq, false_implies, and_true, true_and, List.nil_append, List.cons_append, Bool.and_self, Nat.zero_add, Nat.add_zero, fieldA, nonNil, cellsAt, loadV_one, loadV_pvs, loadV_cons, mkAgg, allPV, List.drop_zero, List.drop_succ_cons, List.take_succ_cons, List.take_zero, List.length_cons, List.length_nil, Nat.beq_eq, storeB, patchL, beq_self_eq_true, ge_iff_le, gt_iff_lt, Int.reduceNeg, Int.reduceLE, Int.reduceLT, Int.reduceEq, extractV, List.getElem?_cons_zero, List.getElem?_cons_succ, mkAgg, Nat.add_eq_left, Nat.left_eq_add, Nat.one_ne_zero, ble_dec, beq_dec, decide_eq_true_eq, Nat.reduceLeDiff, Nat.le_refl, fillA, pureVs, pureV, beq_int, bne_int, Int.natCast_inj, eq_self, eqV, eqB, decide_true, decide_false, List.length_map, Int.toNat_natCast, List.getElem?_map, Option.map_some, Option.map_none, Int.natCast_nonneg, Option.some.injEq, lenV, binV, intBin, intV, idxA, ne_eq, not_true_eq_false, not_false_eq_true, List.drop, List.take, RetP, retP, resV, resOne, snapV, snapVs, snapR, snapRs, ownSz, pickV, cond_true, cond_false, bTT, bTF, bFT, bFF, Bool.not_true, Bool.not_false, AO.isC, Bool.or_true, Bool.true_or, Bool.or_false, Bool.false_or, WpE_cons, WpE_nil, opE, evE_some, guardE_true, guardE_false, WpD_cons, WpD_nil, opD, evD_some, guardD_true, guardD_false, snapP, stateP]
  refine check9_loop s t ht hl h71 _ (badLoad t.pods 0 s.loads) (fun ho fr hp nx => ?_) (fun c i ho fr hp nx id h4 hb => ?_) s.loads 0 rfl (Nat.zero_le _) rfl _ _ _ (Nat.le_refl _) rfl rfl rfl rfl rfl
  · simp only [Wp_seq, Wp_ops, Wp_cond, Wp_skip, Wp_ret, Wp_exit, Wp_block, WpO_cons, WpO_nil, opQ, evOp, evO, evOs, evQ_some, guardV, guardQ_true, guardQ_false, boolQ_true, boolQ_false, argsA, pvs, putS, cellsOf, scals, scal, seqQ_normal, seqQ_ret, seqQ_exit, blkQ_normal, blkQ_ret, blkQ_exit, look_if, blkAt_if, if_true, if_false, Nat.reduceEqDiff, Nat.reduceAdd, true_implies, reduceCtorEq, false_implies, and_true, true_and, List.nil_append, List.cons_append, Bool.and_self, Nat.zero_add, Nat.add_zero, fieldA, nonNil, cellsAt, loadV_one, loadV_pvs, loadV_cons, mkAgg, allPV, List.drop_zero, List.drop_succ_cons, List.take_succ_cons, List.take_zero, List.length_cons, List.length_nil, Nat.beq_eq, storeB, patchL, beq_self_eq_true, ge_iff_le, gt_iff_lt, Int.reduceNeg, Int.reduceLE, Int.reduceLT, Int.reduceEq, extractV, List.getElem?_cons_zero, List.getElem?_cons_succ, mkAgg, Nat.add_eq_left, Nat.left_eq_add, Nat.one_ne_zero, ble_dec, beq_dec, decide_eq_true_eq, Nat.reduceLeDiff, Nat.le_refl, fillA, pureVs, pureV, beq_int, bne_int, Int.natCast_inj, eq_self, eqV, eqB, decide_true, decide_false, List.length_map, Int.toNat_natCast, List.getElem?_map, Option.map_some, Option.map_none, Int.natCast_nonneg, Option.some.injEq, lenV, binV, intBin, intV, idxA, ne_eq, not_true_eq_false, not_false_eq_true, List.drop, List.take, RetP, retP, resV, resOne, snapV, snapVs, snapR, snapRs, ownSz, pickV, cond_true, cond_false, bTT, bTF, bFT, bFF, Bool.not_true, Bool.not_false, AO.isC, Bool.or_true, Bool.true_or, Bool.or_false, Bool.false_or, WpE_cons, WpE_nil, opE, evE_some, guardE_true, guardE_false, WpD_cons, WpD_nil, opD, evD_some, guardD_true, guardD_false, ho, errO]
  · simp only [Wp_seq, Wp_ops, Wp_cond, Wp_skip, Wp_ret, Wp_exit, Wp_block, WpO_cons, WpO_nil, opQ, evOp, evO, evOs, evQ_some, guardV, guardQ_true, guardQ_false, boolQ_true, boolQ_false, argsA, pvs, putS, cellsOf, scals, scal, seqQ_normal, seqQ_ret, seqQ_exit, blkQ_normal, blkQ_ret, blkQ_exit, look_if, blkAt_if, if_true, if_false, Nat.reduceEqDiff, Nat.reduceAdd, true_implies, reduceCtorEq, false_implies, and_true, true_and, List.nil_append, List.cons_append, Bool.and_self, Nat.zero_add, Nat.add_zero, fieldA, nonNil, cellsAt, loadV_one, loadV_pvs, loadV_cons, mkAgg, allPV, List.drop_zero, List.drop_succ_cons, List.take_succ_cons, List.take_zero, List.length_cons, List.length_nil, Nat.beq_eq, storeB, patchL, beq_self_eq_true, ge_iff_le, gt_iff_lt, Int.reduceNeg, Int.reduceLE, Int.reduceLT, Int.reduceEq, extractV, List.getElem?_cons_zero, List.getElem?_cons_succ, mkAgg, Nat.add_eq_left, Nat.left_eq_add, Nat.one_ne_zero, ble_dec, beq_dec, decide_eq_true_eq, Nat.reduceLeDiff, Nat.le_refl, fillA, pureVs, pureV, beq_int, bne_int, Int.natCast_inj, eq_self, eqV, eqB, decide_true, decide_false, List.length_map, Int.toNat_natCast, List.getElem?_map, Option.map_some, Option.map_none, Int.natCast_nonneg, Option.some.injEq, lenV, binV, intBin, intV, idxA, ne_eq, not_true_eq_false, not_false_eq_true, List.drop, List.take, RetP, retP, resV, resOne, snapV, snapVs, snapR, snapRs, ownSz, pickV, cond_true, cond_false, bTT, bTF, bFT, bFF, Bool.not_true, Bool.not_false, AO.isC, Bool.or_true, Bool.true_or, Bool.or_false, Bool.false_or, WpE_cons, WpE_nil, opE, evE_some, guardE_true, guardE_false, WpD_cons, WpD_nil, opD, evD_some, guardD_true, guardD_false, ho, errO, h4, hb, spotE]

/-- The document's answer: a code, and a place. -/
def badO : Option (Int × Int) → PV
  | none => .tuple [.int .i64 0, .int .i64 (-1)]
  | some (c, i) => .tuple [.int .i64 c, .int .i64 i]
theorem check9b_loop (s : Snap) (t : State) (ht : t.pods.length ≤ 2 ^ 30) (hl : s.loads.length ≤ 2 ^ 30) (h176 : Std T 176 f176) (Q : Exit → St → Prop) (o : Option (Int × Int))
    (hend : o = none → ∀ fr hp nx, Q (.exit 0) ⟨fr, hp, nx⟩)
    (hret : ∀ c i, o = some (c, i) → ∀ fr hp nx, look fr 4 = .pv (.int .i64 c) → look fr 5 = .pv (.int .i64 i) → Q .ret ⟨fr, hp, nx⟩) :
    ∀ (rest : List Load) (i : Nat), s.loads.drop i = rest → i ≤ s.loads.length → badLoad t.pods i rest = o → ∀ (fr : List (Nat × AV)) (hp : Hl) (nx : Nat),
      look fr 2 = .ptr 0 0 0 → blkAt hp 0 = .var [.pv (.slice (s.nodes.map nodeC)), .pv (.slice (s.loads.map loadC)), .pv (.slice (s.pods.map podC))] →
      look fr 3 = .ptr 1 0 0 → blkAt hp 1 = .var [.pv (.slice (t.pods.map podC)), .pv (.int .i64 t.pre), .pv (.int .i64 t.shi)] →
      look fr 6 = .pv (.int .i64 i) → Wp T false (.loop f173l0) ⟨fr, hp, nx⟩ Q := by
  intro rest
  induction rest with
  | nil =>
    intro i hd hi ho fr hp nx h2 b0 h3 b1 h6
    have hlen := drop_nil hd hi
    rw [Wp_loop, Wp_eq f173l0.eq_1]
    simp only [Wp_seq, Wp_ops, Wp_cond, Wp_skip, Wp_ret, Wp_exit, Wp_block, WpO_cons, WpO_nil, opQ, evOp, evO, evOs, evQ_some, guardV, guardQ_true, guardQ_false, boolQ_true, boolQ_false, argsA, pvs, putS, cellsOf, scals, scal, seqQ_normal, seqQ_ret, seqQ_exit, blkQ_normal, blkQ_ret, blkQ_exit, look_if, blkAt_if, if_true, if_false, Nat.reduceEqDiff, Nat.reduceAdd, true_implies, reduceCtorEq, false_implies, and_true, true_and, List.nil_append, List.cons_append, Bool.and_self, Nat.zero_add, Nat.add_zero, fieldA, nonNil, cellsAt, loadV_one, loadV_pvs, loadV_cons, mkAgg, allPV, List.drop_zero, List.drop_succ_cons, List.take_succ_cons, List.take_zero, List.length_cons, List.length_nil, Nat.beq_eq, storeB, patchL, beq_self_eq_true, ge_iff_le, gt_iff_lt, Int.reduceNeg, Int.reduceLE, Int.reduceLT, Int.reduceEq, extractV, List.getElem?_cons_zero, List.getElem?_cons_succ, mkAgg, Nat.add_eq_left, Nat.left_eq_add, Nat.one_ne_zero, ble_dec, beq_dec, decide_eq_true_eq, Nat.reduceLeDiff, Nat.le_refl, fillA, pureVs, pureV, beq_int, bne_int, Int.natCast_inj, eq_self, eqV, eqB, decide_true, decide_false, List.length_map, Int.toNat_natCast, List.getElem?_map, Option.map_some, Option.map_none, Int.natCast_nonneg, Option.some.injEq, lenV, binV, intBin, intV, idxA, ne_eq, not_true_eq_false, not_false_eq_true, List.drop, List.take, RetP, retP, resV, resOne, snapV, snapVs, snapR, snapRs, ownSz, pickV, cond_true, cond_false, bTT, bTF, bFT, bFF, Bool.not_true, Bool.not_false, AO.isC, Bool.or_true, Bool.true_or, Bool.or_false, Bool.false_or, WpE_cons, WpE_nil, opE, evE_some, guardE_true, guardE_false, WpD_cons, WpD_nil, opD, evD_some, guardD_true, guardD_false, h2, h3, b0, h6, hlen, Int.lt_irrefl]
    exact hend ho.symm _ _ _
  | cons l r ih =>
    intro i hd hi ho fr hp nx h2 b0 h3 b1 h6
    obtain ⟨hget, hlt, hw, hd', hi', hb⟩ := drop_cons hd hl
    have k := size2_ok h176 t l.id ht
    rw [Wp_loop, Wp_eq f173l0.eq_1]
    simp only [badLoad] at ho
    simp only [Wp_seq, Wp_ops, Wp_cond, Wp_skip, Wp_ret, Wp_exit, Wp_block, WpO_cons, WpO_nil, opQ, evOp, evO, evOs, evQ_some, guardV, guardQ_true, guardQ_false, boolQ_true, boolQ_false, argsA, pvs, putS, cellsOf, scals, scal, seqQ_normal, seqQ_ret, seqQ_exit, blkQ_normal, blkQ_ret, blkQ_exit, look_if, blkAt_if, if_true, if_false, Nat.reduceEqDiff, Nat.reduceAdd, true_implies, reduceCtorEq, false_implies, and_true, true_and, List.nil_append, List.cons_append, Bool.and_self, Nat.zero_add, Nat.add_zero, fieldA, nonNil, cellsAt, loadV_one, loadV_pvs, loadV_cons, mkAgg, allPV, List.drop_zero, List.drop_succ_cons, List.take_succ_cons, List.take_zero, List.length_cons, List.length_nil, Nat.beq_eq, storeB, patchL, beq_self_eq_true, ge_iff_le, gt_iff_lt, Int.reduceNeg, Int.reduceLE, Int.reduceLT, Int.reduceEq, extractV, List.getElem?_cons_zero, List.getElem?_cons_succ, mkAgg, Nat.add_eq_left, Nat.left_eq_add, Nat.one_ne_zero, ble_dec, beq_dec, decide_eq_true_eq, Nat.reduceLeDiff, Nat.le_refl, fillA, pureVs, pureV, beq_int, bne_int, Int.natCast_inj, eq_self, eqV, eqB, decide_true, decide_false, List.length_map, Int.toNat_natCast, List.getElem?_map, Option.map_some, Option.map_none, Int.natCast_nonneg, Option.some.injEq, lenV, binV, intBin, intV, idxA, ne_eq, not_true_eq_false, not_false_eq_true, List.drop, List.take, RetP, retP, resV, resOne, snapV, snapVs, snapR, snapRs, ownSz, pickV, cond_true, cond_false, bTT, bTF, bFT, bFF, Bool.not_true, Bool.not_false, AO.isC, Bool.or_true, Bool.true_or, Bool.or_false, Bool.false_or, WpE_cons, WpE_nil, opE, evE_some, guardE_true, guardE_false, WpD_cons, WpD_nil, opD, evD_some, guardD_true, guardD_false, h2, h3, b0, h6, hlt]
    refine (Wp_calm rfl).2 ?_
    by_cases c1 : (sizeN l.id t.pods : Int) < l.min
    · rw [if_pos c1] at ho
      simp only [Wp_seq, Wp_ops, Wp_cond, Wp_skip, Wp_ret, Wp_exit, Wp_block, WpO_cons, WpO_nil, opQ, evOp, evO, evOs, evQ_some, guardV, guardQ_true, guardQ_false, boolQ_true, boolQ_false, argsA, pvs, putS, cellsOf, scals, scal, seqQ_normal, seqQ_ret, seqQ_exit, blkQ_normal, blkQ_ret, blkQ_exit, look_if, blkAt_if, if_true, if_false, Nat.reduceEqDiff, Nat.reduceAdd, true_implies, reduceCtorEq, false_implies, and_true, true_and, List.nil_append, List.cons_append, Bool.and_self, Nat.zero_add, Nat.add_zero, fieldA, nonNil, cellsAt, loadV_one, loadV_pvs, loadV_cons, mkAgg, allPV, List.drop_zero, List.drop_succ_cons, List.take_succ_cons, List.take_zero, List.length_cons, List.length_nil, Nat.beq_eq, storeB, patchL, beq_self_eq_true, ge_iff_le, gt_iff_lt, Int.reduceNeg, Int.reduceLE, Int.reduceLT, Int.reduceEq, extractV, List.getElem?_cons_zero, List.getElem?_cons_succ, mkAgg, Nat.add_eq_left, Nat.left_eq_add, Nat.one_ne_zero, ble_dec, beq_dec, decide_eq_true_eq, Nat.reduceLeDiff, Nat.le_refl, fillA, pureVs, pureV, beq_int, bne_int, Int.natCast_inj, eq_self, eqV, eqB, decide_true, decide_false, List.length_map, Int.toNat_natCast, List.getElem?_map, Option.map_some, Option.map_none, Int.natCast_nonneg, Option.some.injEq, lenV, binV, intBin, intV, idxA, ne_eq, not_true_eq_false, not_false_eq_true, List.drop, List.take, RetP, retP, resV, resOne, snapV, snapVs, snapR, snapRs, ownSz, pickV, cond_true, cond_false, bTT, bTF, bFT, bFF, Bool.not_true, Bool.not_false, AO.isC, Bool.or_true, Bool.true_or, Bool.or_false, Bool.false_or, WpE_cons, WpE_nil, opE, evE_some, guardE_true, guardE_false, WpD_cons, WpD_nil, opD, evD_some, guardD_true, guardD_false, h2, h3, b0, b1, h6, hget, loadC, k.callD, stateP, c1]
      refine hret 12 i ho.symm _ _ _ ?_ ?_
      all_goals simp only [look_if, Nat.reduceEqDiff, if_true, if_false]
    · rw [if_neg c1] at ho
      by_cases c2 : (sizeN l.id t.pods : Int) > l.max
      · rw [if_pos c2] at ho
        have c2' : l.max < (sizeN l.id t.pods : Int) := c2
        simp only [Wp_seq, Wp_ops, Wp_cond, Wp_skip, Wp_ret, Wp_exit, Wp_block, WpO_cons, WpO_nil, opQ, evOp, evO, evOs, evQ_some, guardV, guardQ_true, guardQ_false, boolQ_true, boolQ_false, argsA, pvs, putS, cellsOf, scals, scal, seqQ_normal, seqQ_ret, seqQ_exit, blkQ_normal, blkQ_ret, blkQ_exit, look_if, blkAt_if, if_true, if_false, Nat.reduceEqDiff, Nat.reduceAdd, true_implies, reduceCtorEq, false_implies, and_true, true_and, List.nil_append, List.cons_append, Bool.and_self, Nat.zero_add, Nat.add_zero, fieldA, nonNil, cellsAt, loadV_one, loadV_pvs, loadV_cons, mkAgg, allPV, List.drop_zero, List.drop_succ_cons, List.take_succ_cons, List.take_zero, List.length_cons, List.length_nil, Nat.beq_eq, storeB, patchL, beq_self_eq_true, ge_iff_le, gt_iff_lt, Int.reduceNeg, Int.reduceLE, Int.reduceLT, Int.reduceEq, extractV, List.getElem?_cons_zero, List.getElem?_cons_succ, mkAgg, Nat.add_eq_left, Nat.left_eq_add, Nat.one_ne_zero, ble_dec, beq_dec, decide_eq_true_eq, Nat.reduceLeDiff, Nat.le_refl, fillA, pureVs, pureV, beq_int, bne_int, Int.natCast_inj, eq_self, eqV, eqB, decide_true, decide_false, List.length_map, Int.toNat_natCast, List.getElem?_map, Option.map_some, Option.map_none, Int.natCast_nonneg, Option.some.injEq, lenV, binV, intBin, intV, idxA, ne_eq, not_true_eq_false, not_false_eq_true, List.drop, List.take, RetP, retP, resV, resOne, snapV, snapVs, snapR, snapRs, ownSz, pickV, cond_true, cond_false, bTT, bTF, bFT, bFF, Bool.not_true, Bool.not_false, AO.isC, Bool.or_true, Bool.true_or, Bool.or_false, Bool.false_or, WpE_cons, WpE_nil, opE, evE_some, guardE_true, guardE_false, WpD_cons, WpD_nil, opD, evD_some, guardD_true, guardD_false, h2, h3, b0, b1, h6, hget, loadC, k.callD, stateP, c1, c2']
        refine hret 13 i ho.symm _ _ _ ?_ ?_
        all_goals simp only [look_if, Nat.reduceEqDiff, if_true, if_false]
      · rw [if_neg c2] at ho
        have c2' : ¬ l.max < (sizeN l.id t.pods : Int) := c2
        simp only [Wp_seq, Wp_ops, Wp_cond, Wp_skip, Wp_ret, Wp_exit, Wp_block, WpO_cons, WpO_nil, opQ, evOp, evO, evOs, evQ_some, guardV, guardQ_true, guardQ_false, boolQ_true, boolQ_false, argsA, pvs, putS, cellsOf, scals, scal, seqQ_normal, seqQ_ret, seqQ_exit, blkQ_normal, blkQ_ret, blkQ_exit, look_if, blkAt_if, if_true, if_false, Nat.reduceEqDiff, Nat.reduceAdd, true_implies, reduceCtorEq, false_implies, and_true, true_and, List.nil_append, List.cons_append, Bool.and_self, Nat.zero_add, Nat.add_zero, fieldA, nonNil, cellsAt, loadV_one, loadV_pvs, loadV_cons, mkAgg, allPV, List.drop_zero, List.drop_succ_cons, List.take_succ_cons, List.take_zero, List.length_cons, List.length_nil, Nat.beq_eq, storeB, patchL, beq_self_eq_true, ge_iff_le, gt_iff_lt, Int.reduceNeg, Int.reduceLE, Int.reduceLT, Int.reduceEq, extractV, List.getElem?_cons_zero, List.getElem?_cons_succ, mkAgg, Nat.add_eq_left, Nat.left_eq_add, Nat.one_ne_zero, ble_dec, beq_dec, decide_eq_true_eq, Nat.reduceLeDiff, Nat.le_refl, fillA, pureVs, pureV, beq_int, bne_int, Int.natCast_inj, eq_self, eqV, eqB, decide_true, decide_false, List.length_map, Int.toNat_natCast, List.getElem?_map, Option.map_some, Option.map_none, Int.natCast_nonneg, Option.some.injEq, lenV, binV, intBin, intV, idxA, ne_eq, not_true_eq_false, not_false_eq_true, List.drop, List.take, RetP, retP, resV, resOne, snapV, snapVs, snapR, snapRs, ownSz, pickV, cond_true, cond_false, bTT, bTF, bFT, bFF, Bool.not_true, Bool.not_false, AO.isC, Bool.or_true, Bool.true_or, Bool.or_false, Bool.false_or, WpE_cons, WpE_nil, opE, evE_some, guardE_true, guardE_false, WpD_cons, WpD_nil, opD, evD_some, guardD_true, guardD_false, h2, h3, b0, b1, h6, hget, loadC, k.callD, stateP, c1, c2', hw]
        refine ih (i + 1) hd' hi' ho _ _ _ ?_ b0 ?_ b1 ?_
        all_goals simp only [look_if, Nat.reduceEqDiff, if_true, if_false, h2, h3]
theorem check9b_ok (h173 : Std T 173 f173) (h176 : Std T 176 f176) (s : Snap) (t : State) (ht : t.pods.length ≤ 2 ^ 30) (hl : s.loads.length ≤ 2 ^ 30) : Gives T 173 [snapP s, stateP t] (badO (badLoad t.pods 0 s.loads)) := by
  refine gives h173 rfl ?_
  simp only [f173, Wp_seq, Wp_ops, Wp_cond, Wp_skip, Wp_ret, Wp_exit, Wp_block, WpO_cons, WpO_nil, opQ, evOp, evO, evOs, evQ_some, guardV, guardQ_true, guardQ_false, boolQ_true, boolQ_false, argsA, pvs, putS, cellsOf, scals, scal, seqQ_normal, seqQ_ret, seqQ_exit, blkQ_normal, blkQ_ret, blkQ_exit, look_if, blkAt_if, if_true, if_false, Nat.reduceEqDiff, Nat.reduceAdd, true_implies, reduceCtorEq, false_implies, and_true, true_and, List.nil_append, List.cons_append, Bool.and_self, Nat.zero_add, Nat.add_zero, fieldA, nonNil, cellsAt, loadV_one, loadV_pvs, loadV_cons, mkAgg, allPV, List.drop_zero, List.drop_succ_cons, List.take_succ_cons, List.take_zero, List.length_cons, List.length_nil, Nat.beq_eq, storeB, patchL, beq_self_eq_true, ge_iff_le, gt_iff_lt, Int.reduceNeg, Int.reduceLE, Int.reduceLT, Int.reduceEq, extractV, List.getElem?_cons_zero, List.getElem?_cons_succ, mkAgg, Nat.add_eq_left, Nat.left_eq_add, Nat.one_ne_zero, ble_dec, beq_dec, decide_eq_true_eq, Nat.reduceLeDiff, Nat.le_refl, fillA, pureVs, pureV, beq_int, bne_int, Int.natCast_inj, eq_self, eqV, eqB, decide_true, decide_false, List.length_map, Int.toNat_natCast, List.getElem?_map, Option.map_some, Option.map_none, Int.natCast_nonneg, Option.some.injEq, lenV, binV, intBin, intV, idxA, ne_eq, not_true_eq_false, not_false_eq_true, List.drop, List.take, RetP, retP, resV, resOne, snapV, snapVs, snapR, snapRs, ownSz, pickV, cond_true, cond_false, bTT, bTF, bFT, bFF, Bool.not_true, Bool.not_false, AO.isC, Bool.or_true, Bool.true_or, Bool.or_false, Bool.false_or, WpE_cons, WpE_nil, opE, evE_some, guardE_true, guardE_false, WpD_cons, WpD_nil, opD, evD_some, guardD_true, guardD_false, snapP, stateP]
  refine check9b_loop s t ht hl h176 _ (badLoad t.pods 0 s.loads) (fun ho fr hp nx => ?_) (fun c i ho fr hp nx h4 h5 => ?_) s.loads 0 rfl (Nat.zero_le _) rfl _ _ _ rfl rfl rfl rfl rfl
  · simp only [Wp_seq, Wp_ops, Wp_cond, Wp_skip, Wp_ret, Wp_exit, Wp_block, WpO_cons, WpO_nil, opQ, evOp, evO, evOs, evQ_some, guardV, guardQ_true, guardQ_false, boolQ_true, boolQ_false, argsA, pvs, putS, cellsOf, scals, scal, seqQ_normal, seqQ_ret, seqQ_exit, blkQ_normal, blkQ_ret, blkQ_exit, look_if, blkAt_if, if_true, if_false, Nat.reduceEqDiff, Nat.reduceAdd, true_implies, reduceCtorEq, false_implies, and_true, true_and, List.nil_append, List.cons_append, Bool.and_self, Nat.zero_add, Nat.add_zero, fieldA, nonNil, cellsAt, loadV_one, loadV_pvs, loadV_cons, mkAgg, allPV, List.drop_zero, List.drop_succ_cons, List.take_succ_cons, List.take_zero, List.length_cons, List.length_nil, Nat.beq_eq, storeB, patchL, beq_self_eq_true, ge_iff_le, gt_iff_lt, Int.reduceNeg, Int.reduceLE, Int.reduceLT, Int.reduceEq, extractV, List.getElem?_cons_zero, List.getElem?_cons_succ, mkAgg, Nat.add_eq_left, Nat.left_eq_add, Nat.one_ne_zero, ble_dec, beq_dec, decide_eq_true_eq, Nat.reduceLeDiff, Nat.le_refl, fillA, pureVs, pureV, beq_int, bne_int, Int.natCast_inj, eq_self, eqV, eqB, decide_true, decide_false, List.length_map, Int.toNat_natCast, List.getElem?_map, Option.map_some, Option.map_none, Int.natCast_nonneg, Option.some.injEq, lenV, binV, intBin, intV, idxA, ne_eq, not_true_eq_false, not_false_eq_true, List.drop, List.take, RetP, retP, resV, resOne, snapV, snapVs, snapR, snapRs, ownSz, pickV, cond_true, cond_false, bTT, bTF, bFT, bFF, Bool.not_true, Bool.not_false, AO.isC, Bool.or_true, Bool.true_or, Bool.or_false, Bool.false_or, WpE_cons, WpE_nil, opE, evE_some, guardE_true, guardE_false, WpD_cons, WpD_nil, opD, evD_some, guardD_true, guardD_false, ho, badO]
  · simp only [Wp_seq, Wp_ops, Wp_cond, Wp_skip, Wp_ret, Wp_exit, Wp_block, WpO_cons, WpO_nil, opQ, evOp, evO, evOs, evQ_some, guardV, guardQ_true, guardQ_false, boolQ_true, boolQ_false, argsA, pvs, putS, cellsOf, scals, scal, seqQ_normal, seqQ_ret, seqQ_exit, blkQ_normal, blkQ_ret, blkQ_exit, look_if, blkAt_if, if_true, if_false, Nat.reduceEqDiff, Nat.reduceAdd, true_implies, reduceCtorEq, false_implies, and_true, true_and, List.nil_append, List.cons_append, Bool.and_self, Nat.zero_add, Nat.add_zero, fieldA, nonNil, cellsAt, loadV_one, loadV_pvs, loadV_cons, mkAgg, allPV, List.drop_zero, List.drop_succ_cons, List.take_succ_cons, List.take_zero, List.length_cons, List.length_nil, Nat.beq_eq, storeB, patchL, beq_self_eq_true, ge_iff_le, gt_iff_lt, Int.reduceNeg, Int.reduceLE, Int.reduceLT, Int.reduceEq, extractV, List.getElem?_cons_zero, List.getElem?_cons_succ, mkAgg, Nat.add_eq_left, Nat.left_eq_add, Nat.one_ne_zero, ble_dec, beq_dec, decide_eq_true_eq, Nat.reduceLeDiff, Nat.le_refl, fillA, pureVs, pureV, beq_int, bne_int, Int.natCast_inj, eq_self, eqV, eqB, decide_true, decide_false, List.length_map, Int.toNat_natCast, List.getElem?_map, Option.map_some, Option.map_none, Int.natCast_nonneg, Option.some.injEq, lenV, binV, intBin, intV, idxA, ne_eq, not_true_eq_false, not_false_eq_true, List.drop, List.take, RetP, retP, resV, resOne, snapV, snapVs, snapR, snapRs, ownSz, pickV, cond_true, cond_false, bTT, bTF, bFT, bFF, Bool.not_true, Bool.not_false, AO.isC, Bool.or_true, Bool.true_or, Bool.or_false, Bool.false_or, WpE_cons, WpE_nil, opE, evE_some, guardE_true, guardE_false, WpD_cons, WpD_nil, opD, evD_some, guardD_true, guardD_false, ho, badO, h4, h5]

def usedB (x : Spec) (t : State) : Bool := decide (t.pre > x.pre) || decide (t.shi > x.shi)
theorem used9_ok (h72 : Std T 72 f72) (x : Spec) (t : State) : Gives T 72 [specP x, stateP t] (cond (usedB x t) (codeE 15) .nili) := by
  refine gives h72 rfl ?_
  unfold usedB
  by_cases c1 : x.pre < t.pre <;> by_cases c2 : x.shi < t.shi <;>
    simp only [f72, Wp_seq, Wp_ops, Wp_cond, Wp_skip, Wp_ret, Wp_exit, Wp_block, WpO_cons, WpO_nil, opQ, evOp, evO, evOs, evQ_some, guardV, guardQ_true, guardQ_false, boolQ_true, boolQ_false, argsA, pvs, putS, cellsOf, scals, scal, seqQ_normal, seqQ_ret, seqQ_exit, blkQ_normal, blkQ_ret, blkQ_exit, look_if, blkAt_if, if_true, if_false, Nat.reduceEqDiff, Nat.reduceAdd, true_implies, reduceCtorEq, false_implies, and_true, true_and, List.nil_append, List.cons_append, Bool.and_self, Nat.zero_add, Nat.add_zero, fieldA, nonNil, cellsAt, loadV_one, loadV_pvs, loadV_cons, mkAgg, allPV, List.drop_zero, List.drop_succ_cons, List.take_succ_cons, List.take_zero, List.length_cons, List.length_nil, Nat.beq_eq, storeB, patchL, beq_self_eq_true, ge_iff_le, gt_iff_lt, Int.reduceNeg, Int.reduceLE, Int.reduceLT, Int.reduceEq, extractV, List.getElem?_cons_zero, List.getElem?_cons_succ, mkAgg, Nat.add_eq_left, Nat.left_eq_add, Nat.one_ne_zero, ble_dec, beq_dec, decide_eq_true_eq, Nat.reduceLeDiff, Nat.le_refl, fillA, pureVs, pureV, beq_int, bne_int, Int.natCast_inj, eq_self, eqV, eqB, decide_true, decide_false, List.length_map, Int.toNat_natCast, List.getElem?_map, Option.map_some, Option.map_none, Int.natCast_nonneg, Option.some.injEq, lenV, binV, intBin, intV, idxA, ne_eq, not_true_eq_false, not_false_eq_true, List.drop, List.take, RetP, retP, resV, resOne, snapV, snapVs, snapR, snapRs, ownSz, pickV, cond_true, cond_false, bTT, bTF, bFT, bFF, Bool.not_true, Bool.not_false, AO.isC, Bool.or_true, Bool.true_or, Bool.or_false, Bool.false_or, WpE_cons, WpE_nil, opE, evE_some, guardE_true, guardE_false, WpD_cons, WpD_nil, opD, evD_some, guardD_true, guardD_false, specP, stateP, c1, c2, codeE, Bool.true_or, Bool.or_true, Bool.or_false, Bool.false_or]
theorem used9b_ok (h179 : Std T 179 f179) (x : Spec) (t : State) : Gives T 179 [specP x, stateP t] (.bool (usedB x t)) := by
  refine gives h179 rfl ?_
  unfold usedB
  by_cases c1 : x.pre < t.pre <;> by_cases c2 : x.shi < t.shi <;>
    simp only [f179, Wp_seq, Wp_ops, Wp_cond, Wp_skip, Wp_ret, Wp_exit, Wp_block, WpO_cons, WpO_nil, opQ, evOp, evO, evOs, evQ_some, guardV, guardQ_true, guardQ_false, boolQ_true, boolQ_false, argsA, pvs, putS, cellsOf, scals, scal, seqQ_normal, seqQ_ret, seqQ_exit, blkQ_normal, blkQ_ret, blkQ_exit, look_if, blkAt_if, if_true, if_false, Nat.reduceEqDiff, Nat.reduceAdd, true_implies, reduceCtorEq, false_implies, and_true, true_and, List.nil_append, List.cons_append, Bool.and_self, Nat.zero_add, Nat.add_zero, fieldA, nonNil, cellsAt, loadV_one, loadV_pvs, loadV_cons, mkAgg, allPV, List.drop_zero, List.drop_succ_cons, List.take_succ_cons, List.take_zero, List.length_cons, List.length_nil, Nat.beq_eq, storeB, patchL, beq_self_eq_true, ge_iff_le, gt_iff_lt, Int.reduceNeg, Int.reduceLE, Int.reduceLT, Int.reduceEq, extractV, List.getElem?_cons_zero, List.getElem?_cons_succ, mkAgg, Nat.add_eq_left, Nat.left_eq_add, Nat.one_ne_zero, ble_dec, beq_dec, decide_eq_true_eq, Nat.reduceLeDiff, Nat.le_refl, fillA, pureVs, pureV, beq_int, bne_int, Int.natCast_inj, eq_self, eqV, eqB, decide_true, decide_false, List.length_map, Int.toNat_natCast, List.getElem?_map, Option.map_some, Option.map_none, Int.natCast_nonneg, Option.some.injEq, lenV, binV, intBin, intV, idxA, ne_eq, not_true_eq_false, not_false_eq_true, List.drop, List.take, RetP, retP, resV, resOne, snapV, snapVs, snapR, snapRs, ownSz, pickV, cond_true, cond_false, bTT, bTF, bFT, bFF, Bool.not_true, Bool.not_false, AO.isC, Bool.or_true, Bool.true_or, Bool.or_false, Bool.false_or, WpE_cons, WpE_nil, opE, evE_some, guardE_true, guardE_false, WpD_cons, WpD_nil, opD, evD_some, guardD_true, guardD_false, specP, stateP, c1, c2, Bool.true_or, Bool.or_true, Bool.or_false, Bool.false_or]

/-! ### The laws' own helpers -/
theorem code_nil (h102 : Std T 102 f102) : Gives T 102 [.nili] (.int .i64 0) := by
  refine gives h102 rfl ?_
  simp only [f102, Wp_seq, Wp_ops, Wp_cond, Wp_skip, Wp_ret, Wp_exit, Wp_block, WpO_cons, WpO_nil, opQ, evOp, evO, evOs, evQ_some, guardV, guardQ_true, guardQ_false, boolQ_true, boolQ_false, argsA, pvs, putS, cellsOf, scals, scal, seqQ_normal, seqQ_ret, seqQ_exit, blkQ_normal, blkQ_ret, blkQ_exit, look_if, blkAt_if, if_true, if_false, Nat.reduceEqDiff, Nat.reduceAdd, true_implies, reduceCtorEq, false_implies, and_true, true_and, List.nil_append, List.cons_append, Bool.and_self, Nat.zero_add, Nat.add_zero, fieldA, nonNil, cellsAt, loadV_one, loadV_pvs, loadV_cons, mkAgg, allPV, List.drop_zero, List.drop_succ_cons, List.take_succ_cons, List.take_zero, List.length_cons, List.length_nil, Nat.beq_eq, storeB, patchL, beq_self_eq_true, ge_iff_le, gt_iff_lt, Int.reduceNeg, Int.reduceLE, Int.reduceLT, Int.reduceEq, extractV, List.getElem?_cons_zero, List.getElem?_cons_succ, mkAgg, Nat.add_eq_left, Nat.left_eq_add, Nat.one_ne_zero, ble_dec, beq_dec, decide_eq_true_eq, Nat.reduceLeDiff, Nat.le_refl, fillA, pureVs, pureV, beq_int, bne_int, Int.natCast_inj, eq_self, eqV, eqB, decide_true, decide_false, List.length_map, Int.toNat_natCast, List.getElem?_map, Option.map_some, Option.map_none, Int.natCast_nonneg, Option.some.injEq, lenV, binV, intBin, intV, idxA, ne_eq, not_true_eq_false, not_false_eq_true, List.drop, List.take, RetP, retP, resV, resOne, snapV, snapVs, snapR, snapRs, ownSz, pickV, cond_true, cond_false, bTT, bTF, bFT, bFF, Bool.not_true, Bool.not_false, AO.isC, Bool.or_true, Bool.true_or, Bool.or_false, Bool.false_or, WpE_cons, WpE_nil, opE, evE_some, guardE_true, guardE_false, WpD_cons, WpD_nil, opD, evD_some, guardD_true, guardD_false, AO.isC, Bool.or_true]
def bad1 : Option (Int × Int) → Int
  | none => 0
  | some (c, _) => c
def bad2 : Option (Int × Int) → Int
  | none => -1
  | some (_, i) => i
/-- Told, of what is told with a place. -/
theorem told_ok (h105 : Std T 105 f105) (h102 : Std T 102 f102) (h103 : StdP T 103 isP) (o : Option (Int × Int)) (h : ∀ c i, o = some (c, i) → 0 ≤ i) :
    Gives T 105 [errO o, .int .i64 (bad1 o), .int .i64 (bad2 o)] (.bool true) := by
  refine gives h105 rfl ?_
  cases o with
  | none => simp only [f105, Wp_seq, Wp_ops, Wp_cond, Wp_skip, Wp_ret, Wp_exit, Wp_block, WpO_cons, WpO_nil, opQ, evOp, evO, evOs, evQ_some, guardV, guardQ_true, guardQ_false, boolQ_true, boolQ_false, argsA, pvs, putS, cellsOf, scals, scal, seqQ_normal, seqQ_ret, seqQ_exit, blkQ_normal, blkQ_ret, blkQ_exit, look_if, blkAt_if, if_true, if_false, Nat.reduceEqDiff, Nat.reduceAdd, true_implies, reduceCtorEq, false_implies, and_true, true_and, List.nil_append, List.cons_append, Bool.and_self, Nat.zero_add, Nat.add_zero, fieldA, nonNil, cellsAt, loadV_one, loadV_pvs, loadV_cons, mkAgg, allPV, List.drop_zero, List.drop_succ_cons, List.take_succ_cons, List.take_zero, List.length_cons, List.length_nil, Nat.beq_eq, storeB, patchL, beq_self_eq_true, ge_iff_le, gt_iff_lt, Int.reduceNeg, Int.reduceLE, Int.reduceLT, Int.reduceEq, extractV, List.getElem?_cons_zero, List.getElem?_cons_succ, mkAgg, Nat.add_eq_left, Nat.left_eq_add, Nat.one_ne_zero, ble_dec, beq_dec, decide_eq_true_eq, Nat.reduceLeDiff, Nat.le_refl, fillA, pureVs, pureV, beq_int, bne_int, Int.natCast_inj, eq_self, eqV, eqB, decide_true, decide_false, List.length_map, Int.toNat_natCast, List.getElem?_map, Option.map_some, Option.map_none, Int.natCast_nonneg, Option.some.injEq, lenV, binV, intBin, intV, idxA, ne_eq, not_true_eq_false, not_false_eq_true, List.drop, List.take, RetP, retP, resV, resOne, snapV, snapVs, snapR, snapRs, ownSz, pickV, cond_true, cond_false, bTT, bTF, bFT, bFF, Bool.not_true, Bool.not_false, AO.isC, Bool.or_true, Bool.true_or, Bool.or_false, Bool.false_or, WpE_cons, WpE_nil, opE, evE_some, guardE_true, guardE_false, WpD_cons, WpD_nil, opD, evD_some, guardD_true, guardD_false, errO, bad1, bad2, (code_nil h102).call]
  | some q =>
    obtain ⟨c, i⟩ := q
    have hi : ¬ i < 0 := by have := h c i rfl; omega
    have k := is_ok h103 (e := spotE i c) (x := i) (y := c) (b := true) (by simp [isV, spotE])
    simp only [f105, Wp_seq, Wp_ops, Wp_cond, Wp_skip, Wp_ret, Wp_exit, Wp_block, WpO_cons, WpO_nil, opQ, evOp, evO, evOs, evQ_some, guardV, guardQ_true, guardQ_false, boolQ_true, boolQ_false, argsA, pvs, putS, cellsOf, scals, scal, seqQ_normal, seqQ_ret, seqQ_exit, blkQ_normal, blkQ_ret, blkQ_exit, look_if, blkAt_if, if_true, if_false, Nat.reduceEqDiff, Nat.reduceAdd, true_implies, reduceCtorEq, false_implies, and_true, true_and, List.nil_append, List.cons_append, Bool.and_self, Nat.zero_add, Nat.add_zero, fieldA, nonNil, cellsAt, loadV_one, loadV_pvs, loadV_cons, mkAgg, allPV, List.drop_zero, List.drop_succ_cons, List.take_succ_cons, List.take_zero, List.length_cons, List.length_nil, Nat.beq_eq, storeB, patchL, beq_self_eq_true, ge_iff_le, gt_iff_lt, Int.reduceNeg, Int.reduceLE, Int.reduceLT, Int.reduceEq, extractV, List.getElem?_cons_zero, List.getElem?_cons_succ, mkAgg, Nat.add_eq_left, Nat.left_eq_add, Nat.one_ne_zero, ble_dec, beq_dec, decide_eq_true_eq, Nat.reduceLeDiff, Nat.le_refl, fillA, pureVs, pureV, beq_int, bne_int, Int.natCast_inj, eq_self, eqV, eqB, decide_true, decide_false, List.length_map, Int.toNat_natCast, List.getElem?_map, Option.map_some, Option.map_none, Int.natCast_nonneg, Option.some.injEq, lenV, binV, intBin, intV, idxA, ne_eq, not_true_eq_false, not_false_eq_true, List.drop, List.take, RetP, retP, resV, resOne, snapV, snapVs, snapR, snapRs, ownSz, pickV, cond_true, cond_false, bTT, bTF, bFT, bFF, Bool.not_true, Bool.not_false, AO.isC, Bool.or_true, Bool.true_or, Bool.or_false, Bool.false_or, WpE_cons, WpE_nil, opE, evE_some, guardE_true, guardE_false, WpD_cons, WpD_nil, opD, evD_some, guardD_true, guardD_false, errO, bad1, bad2, spotE, hi]
    simp only [spotE] at k
    simp only [Wp_seq, Wp_ops, Wp_cond, Wp_skip, Wp_ret, Wp_exit, Wp_block, WpO_cons, WpO_nil, opQ, evOp, evO, evOs, evQ_some, guardV, guardQ_true, guardQ_false, boolQ_true, boolQ_false, argsA, pvs, putS, cellsOf, scals, scal, seqQ_normal, seqQ_ret, seqQ_exit, blkQ_normal, blkQ_ret, blkQ_exit, look_if, blkAt_if, if_true, if_false, Nat.reduceEqDiff, Nat.reduceAdd, true_implies, reduceCtorEq, false_implies, and_true, true_and, List.nil_append, List.cons_append, Bool.and_self, Nat.zero_add, Nat.add_zero, fieldA, nonNil, cellsAt, loadV_one, loadV_pvs, loadV_cons, mkAgg, allPV, List.drop_zero, List.drop_succ_cons, List.take_succ_cons, List.take_zero, List.length_cons, List.length_nil, Nat.beq_eq, storeB, patchL, beq_self_eq_true, ge_iff_le, gt_iff_lt, Int.reduceNeg, Int.reduceLE, Int.reduceLT, Int.reduceEq, extractV, List.getElem?_cons_zero, List.getElem?_cons_succ, mkAgg, Nat.add_eq_left, Nat.left_eq_add, Nat.one_ne_zero, ble_dec, beq_dec, decide_eq_true_eq, Nat.reduceLeDiff, Nat.le_refl, fillA, pureVs, pureV, beq_int, bne_int, Int.natCast_inj, eq_self, eqV, eqB, decide_true, decide_false, List.length_map, Int.toNat_natCast, List.getElem?_map, Option.map_some, Option.map_none, Int.natCast_nonneg, Option.some.injEq, lenV, binV, intBin, intV, idxA, ne_eq, not_true_eq_false, not_false_eq_true, List.drop, List.take, RetP, retP, resV, resOne, snapV, snapVs, snapR, snapRs, ownSz, pickV, cond_true, cond_false, bTT, bTF, bFT, bFF, Bool.not_true, Bool.not_false, AO.isC, Bool.or_true, Bool.true_or, Bool.or_false, Bool.false_or, WpE_cons, WpE_nil, opE, evE_some, guardE_true, guardE_false, WpD_cons, WpD_nil, opD, evD_some, guardD_true, guardD_false, k.call]
end
end Go.Proofs.YtmeigdjfcecidaaDoor.Ab
/- Layer 5: contracts of state. -/
set_option linter.unusedVariables false
set_option linter.unusedSimpArgs false
namespace Go.Proofs.YtmeigdjfcecidaaDoor.Ab
open Go

section
variable {T : Tab}

/-- The first one's place, from here on. -/
def findFrom (P : List PV → Bool) : Nat → List (List PV) → Int
  | _, [] => -1
  | i, e :: r => if P e = true then i else findFrom P (i + 1) r

theorem index_ok {n : Nat} {cs : List PV} (P : List PV → Bool) (h287 : Std T 287 f287) (es : List (List PV)) (h : es.length ≤ 2 ^ 30) (hl : ∀ e ∈ es, e.length = 8) (hP : ∀ e ∈ es, Gives T n (.agg e :: cs) (.bool (P e))) :
    Gives T 287 [.slice es, .func n [] cs] (.int .i64 (findFrom P 0 es)) := by
  refine gives h287 rfl ?_
  simp only [f287, Wp_seq, Wp_ops, Wp_cond, Wp_skip, Wp_ret, Wp_exit, Wp_block, WpO_cons, WpO_nil, opQ, evOp, evO, evOs, evQ_some, guardV, guardQ_true, guardQ_false, boolQ_true, boolQ_false, argsA, pvs, putS, cellsOf, scals, scal, seqQ_normal, seqQ_ret, seqQ_exit, blkQ_normal, blkQ_ret, blkQ_exit, look_if, blkAt_if, if_true, if_false, Nat.reduceEqDiff, Nat.reduceAdd, true_implies, reduceCtorEq, false_implies, and_true, true_and, List.nil_append, List.cons_append, Bool.and_self, Nat.zero_add, Nat.add_zero, fieldA, nonNil, cellsAt, loadV_one, loadV_pvs, loadV_cons, mkAgg, allPV, List.drop_zero, List.drop_succ_cons, List.take_succ_cons, List.take_zero, List.length_cons, List.length_nil, Nat.beq_eq, storeB, patchL, beq_self_eq_true, ge_iff_le, gt_iff_lt, Int.reduceNeg, Int.reduceLE, Int.reduceLT, Int.reduceEq, extractV, List.getElem?_cons_zero, List.getElem?_cons_succ, mkAgg, Nat.add_eq_left, Nat.left_eq_add, Nat.one_ne_zero, ble_dec, beq_dec, decide_eq_true_eq, Nat.reduceLeDiff, Nat.le_refl, fillA, pureVs, pureV, beq_int, bne_int, Int.natCast_inj, eq_self, eqV, eqB, decide_true, decide_false, List.length_map, Int.toNat_natCast, List.getElem?_map, Option.map_some, Option.map_none, Int.natCast_nonneg, Option.some.injEq, lenV, binV, intBin, intV, idxA, ne_eq, not_true_eq_false, not_false_eq_true, List.drop, List.take, RetP, retP, resV, resOne, snapV, snapVs, snapR, snapRs, ownSz, pickV, cond_true, cond_false, bTT, bTF, bFT, bFF, Bool.not_true, Bool.not_false, AO.isC, Bool.or_true, Bool.true_or, Bool.or_false, Bool.false_or, WpE_cons, WpE_nil, opE, evE_some, guardE_true, guardE_false, WpD_cons, WpD_nil, opD, evD_some, guardD_true, guardD_false]
  have loop : ∀ (rest : List (List PV)) (i : Nat) (fr : List (Nat × AV)), es.drop i = rest → i ≤ es.length → look fr 8 = .pv (.int .i64 i) → look fr 7 = .pv (.int .i64 es.length) → look fr 0 = .pv (.slice es) → look fr 1 = .pv (.func n [] cs) →
      Wp T false (.loop f287l0) ⟨fr, [], 0⟩
        (blkQ 0 (seqQ T false (.seq (.ops [⟨some 4, .mv (.c (.pv (.int .i64 (-1)))), none, []⟩]) .ret) (RetP [.t 4] (.int .i64 (findFrom P i rest))))) := by
    intro rest
    induction rest with
    | nil =>
      intro i fr hd hi h8 h7 h0 h1
      have hlen : es.length = i := by
        have := congrArg List.length hd
        simp at this
        omega
      rw [Wp_loop, Wp_eq f287l0.eq_1]
      simp only [Wp_seq, Wp_ops, Wp_cond, Wp_skip, Wp_ret, Wp_exit, Wp_block, WpO_cons, WpO_nil, opQ, evOp, evO, evOs, evQ_some, guardV, guardQ_true, guardQ_false, boolQ_true, boolQ_false, argsA, pvs, putS, cellsOf, scals, scal, seqQ_normal, seqQ_ret, seqQ_exit, blkQ_normal, blkQ_ret, blkQ_exit, look_if, blkAt_if, if_true, if_false, Nat.reduceEqDiff, Nat.reduceAdd, true_implies, reduceCtorEq, false_implies, and_true, true_and, List.nil_append, List.cons_append, Bool.and_self, Nat.zero_add, Nat.add_zero, fieldA, nonNil, cellsAt, loadV_one, loadV_pvs, loadV_cons, mkAgg, allPV, List.drop_zero, List.drop_succ_cons, List.take_succ_cons, List.take_zero, List.length_cons, List.length_nil, Nat.beq_eq, storeB, patchL, beq_self_eq_true, ge_iff_le, gt_iff_lt, Int.reduceNeg, Int.reduceLE, Int.reduceLT, Int.reduceEq, extractV, List.getElem?_cons_zero, List.getElem?_cons_succ, mkAgg, Nat.add_eq_left, Nat.left_eq_add, Nat.one_ne_zero, ble_dec, beq_dec, decide_eq_true_eq, Nat.reduceLeDiff, Nat.le_refl, fillA, pureVs, pureV, beq_int, bne_int, Int.natCast_inj, eq_self, eqV, eqB, decide_true, decide_false, List.length_map, Int.toNat_natCast, List.getElem?_map, Option.map_some, Option.map_none, Int.natCast_nonneg, Option.some.injEq, lenV, binV, intBin, intV, idxA, ne_eq, not_true_eq_false, not_false_eq_true, List.drop, List.take, RetP, retP, resV, resOne, snapV, snapVs, snapR, snapRs, ownSz, pickV, cond_true, cond_false, bTT, bTF, bFT, bFF, Bool.not_true, Bool.not_false, AO.isC, Bool.or_true, Bool.true_or, Bool.or_false, Bool.false_or, WpE_cons, WpE_nil, opE, evE_some, guardE_true, guardE_false, WpD_cons, WpD_nil, opD, evD_some, guardD_true, guardD_false, h8, h7, h0, h1, hlen, Int.lt_irrefl, findFrom]
    | cons e r ih =>
      intro i fr hd hi h8 h7 h0 h1
      have hget : es[i]? = some e := by
        have := congrArg (·[0]?) hd
        simpa using this
      have hmem : e ∈ es := List.mem_of_getElem? hget
      have hlt : i < es.length := (List.getElem?_eq_some_iff.1 hget).1
      have hlt' : (i : Int) < (es.length : Int) := by omega
      have hw : IntKind.i64.wrap ((i : Int) + 1) = ((i + 1 : Nat) : Int) := by rw [wrap6] <;> omega
      have hc : pureVs (.pv (.agg e) :: pvs cs) = some (.agg e :: cs) := by
        have : pureVs (pvs (.agg e :: cs)) = some (.agg e :: cs) := pureVs_pvs _
        exact this
      rw [Wp_loop, Wp_eq f287l0.eq_1]
      simp only [Wp_seq, Wp_ops, Wp_cond, Wp_skip, Wp_ret, Wp_exit, Wp_block, WpO_cons, WpO_nil, opQ, evOp, evO, evOs, evQ_some, guardV, guardQ_true, guardQ_false, boolQ_true, boolQ_false, argsA, pvs, putS, cellsOf, scals, scal, seqQ_normal, seqQ_ret, seqQ_exit, blkQ_normal, blkQ_ret, blkQ_exit, look_if, blkAt_if, if_true, if_false, Nat.reduceEqDiff, Nat.reduceAdd, true_implies, reduceCtorEq, false_implies, and_true, true_and, List.nil_append, List.cons_append, Bool.and_self, Nat.zero_add, Nat.add_zero, fieldA, nonNil, cellsAt, loadV_one, loadV_pvs, loadV_cons, mkAgg, allPV, List.drop_zero, List.drop_succ_cons, List.take_succ_cons, List.take_zero, List.length_cons, List.length_nil, Nat.beq_eq, storeB, patchL, beq_self_eq_true, ge_iff_le, gt_iff_lt, Int.reduceNeg, Int.reduceLE, Int.reduceLT, Int.reduceEq, extractV, List.getElem?_cons_zero, List.getElem?_cons_succ, mkAgg, Nat.add_eq_left, Nat.left_eq_add, Nat.one_ne_zero, ble_dec, beq_dec, decide_eq_true_eq, Nat.reduceLeDiff, Nat.le_refl, fillA, pureVs, pureV, beq_int, bne_int, Int.natCast_inj, eq_self, eqV, eqB, decide_true, decide_false, List.length_map, Int.toNat_natCast, List.getElem?_map, Option.map_some, Option.map_none, Int.natCast_nonneg, Option.some.injEq, lenV, binV, intBin, intV, idxA, ne_eq, not_true_eq_false, not_false_eq_true, List.drop, List.take, RetP, retP, resV, resOne, snapV, snapVs, snapR, snapRs, ownSz, pickV, cond_true, cond_false, bTT, bTF, bFT, bFF, Bool.not_true, Bool.not_false, AO.isC, Bool.or_true, Bool.true_or, Bool.or_false, Bool.false_or, WpE_cons, WpE_nil, opE, evE_some, guardE_true, guardE_false, WpD_cons, WpD_nil, opD, evD_some, guardD_true, guardD_false, h8, h7, h0, h1, hlt', hget, hl e hmem, funV, funQ_some, List.append_nil]
      rw [(hP e hmem).call _ _ _ _ _ (by simp only [hc])]
      cases hp : P e
      · simp only [Wp_seq, Wp_ops, Wp_cond, Wp_skip, Wp_ret, Wp_exit, Wp_block, WpO_cons, WpO_nil, opQ, evOp, evO, evOs, evQ_some, guardV, guardQ_true, guardQ_false, boolQ_true, boolQ_false, argsA, pvs, putS, cellsOf, scals, scal, seqQ_normal, seqQ_ret, seqQ_exit, blkQ_normal, blkQ_ret, blkQ_exit, look_if, blkAt_if, if_true, if_false, Nat.reduceEqDiff, Nat.reduceAdd, true_implies, reduceCtorEq, false_implies, and_true, true_and, List.nil_append, List.cons_append, Bool.and_self, Nat.zero_add, Nat.add_zero, fieldA, nonNil, cellsAt, loadV_one, loadV_pvs, loadV_cons, mkAgg, allPV, List.drop_zero, List.drop_succ_cons, List.take_succ_cons, List.take_zero, List.length_cons, List.length_nil, Nat.beq_eq, storeB, patchL, beq_self_eq_true, ge_iff_le, gt_iff_lt, Int.reduceNeg, Int.reduceLE, Int.reduceLT, Int.reduceEq, extractV, List.getElem?_cons_zero, List.getElem?_cons_succ, mkAgg, Nat.add_eq_left, Nat.left_eq_add, Nat.one_ne_zero, ble_dec, beq_dec, decide_eq_true_eq, Nat.reduceLeDiff, Nat.le_refl, fillA, pureVs, pureV, beq_int, bne_int, Int.natCast_inj, eq_self, eqV, eqB, decide_true, decide_false, List.length_map, Int.toNat_natCast, List.getElem?_map, Option.map_some, Option.map_none, Int.natCast_nonneg, Option.some.injEq, lenV, binV, intBin, intV, idxA, ne_eq, not_true_eq_false, not_false_eq_true, List.drop, List.take, RetP, retP, resV, resOne, snapV, snapVs, snapR, snapRs, ownSz, pickV, cond_true, cond_false, bTT, bTF, bFT, bFF, Bool.not_true, Bool.not_false, AO.isC, Bool.or_true, Bool.true_or, Bool.or_false, Bool.false_or, WpE_cons, WpE_nil, opE, evE_some, guardE_true, guardE_false, WpD_cons, WpD_nil, opD, evD_some, guardD_true, guardD_false, h8, h7, h0, h1, hw, findFrom, hp]
        refine ih (i + 1) _ ?_ (by omega) ?_ ?_ ?_ ?_
        · rw [← List.drop_drop, hd]; rfl
        all_goals simp only [look_if, Nat.reduceEqDiff, if_true, if_false, h7, h0, h1]
      · simp only [Wp_seq, Wp_ops, Wp_cond, Wp_skip, Wp_ret, Wp_exit, Wp_block, WpO_cons, WpO_nil, opQ, evOp, evO, evOs, evQ_some, guardV, guardQ_true, guardQ_false, boolQ_true, boolQ_false, argsA, pvs, putS, cellsOf, scals, scal, seqQ_normal, seqQ_ret, seqQ_exit, blkQ_normal, blkQ_ret, blkQ_exit, look_if, blkAt_if, if_true, if_false, Nat.reduceEqDiff, Nat.reduceAdd, true_implies, reduceCtorEq, false_implies, and_true, true_and, List.nil_append, List.cons_append, Bool.and_self, Nat.zero_add, Nat.add_zero, fieldA, nonNil, cellsAt, loadV_one, loadV_pvs, loadV_cons, mkAgg, allPV, List.drop_zero, List.drop_succ_cons, List.take_succ_cons, List.take_zero, List.length_cons, List.length_nil, Nat.beq_eq, storeB, patchL, beq_self_eq_true, ge_iff_le, gt_iff_lt, Int.reduceNeg, Int.reduceLE, Int.reduceLT, Int.reduceEq, extractV, List.getElem?_cons_zero, List.getElem?_cons_succ, mkAgg, Nat.add_eq_left, Nat.left_eq_add, Nat.one_ne_zero, ble_dec, beq_dec, decide_eq_true_eq, Nat.reduceLeDiff, Nat.le_refl, fillA, pureVs, pureV, beq_int, bne_int, Int.natCast_inj, eq_self, eqV, eqB, decide_true, decide_false, List.length_map, Int.toNat_natCast, List.getElem?_map, Option.map_some, Option.map_none, Int.natCast_nonneg, Option.some.injEq, lenV, binV, intBin, intV, idxA, ne_eq, not_true_eq_false, not_false_eq_true, List.drop, List.take, RetP, retP, resV, resOne, snapV, snapVs, snapR, snapRs, ownSz, pickV, cond_true, cond_false, bTT, bTF, bFT, bFF, Bool.not_true, Bool.not_false, AO.isC, Bool.or_true, Bool.true_or, Bool.or_false, Bool.false_or, WpE_cons, WpE_nil, opE, evE_some, guardE_true, guardE_false, WpD_cons, WpD_nil, opD, evD_some, guardD_true, guardD_false, h8, h7, h0, h1, hw, findFrom, hp]
  exact loop es 0 _ rfl (Nat.zero_le _) rfl rfl rfl rfl

theorem place1_ok (h245 : Std T 245 f245) (p : Pod) (id : Int) : Gives T 245 [podP p, .cptr [.int .i64 id] 0] (.bool (decide (p.id = id))) := by
  refine gives h245 rfl ?_
  simp only [f245, Wp_seq, Wp_ops, Wp_cond, Wp_skip, Wp_ret, Wp_exit, Wp_block, WpO_cons, WpO_nil, opQ, evOp, evO, evOs, evQ_some, guardV, guardQ_true, guardQ_false, boolQ_true, boolQ_false, argsA, pvs, putS, cellsOf, scals, scal, seqQ_normal, seqQ_ret, seqQ_exit, blkQ_normal, blkQ_ret, blkQ_exit, look_if, blkAt_if, if_true, if_false, Nat.reduceEqDiff, Nat.reduceAdd, true_implies, reduceCtorEq, false_implies, and_true, true_and, List.nil_append, List.cons_append, Bool.and_self, Nat.zero_add, Nat.add_zero, fieldA, nonNil, cellsAt, loadV_one, loadV_pvs, loadV_cons, mkAgg, allPV, List.drop_zero, List.drop_succ_cons, List.take_succ_cons, List.take_zero, List.length_cons, List.length_nil, Nat.beq_eq, storeB, patchL, beq_self_eq_true, ge_iff_le, gt_iff_lt, Int.reduceNeg, Int.reduceLE, Int.reduceLT, Int.reduceEq, extractV, List.getElem?_cons_zero, List.getElem?_cons_succ, mkAgg, Nat.add_eq_left, Nat.left_eq_add, Nat.one_ne_zero, ble_dec, beq_dec, decide_eq_true_eq, Nat.reduceLeDiff, Nat.le_refl, fillA, pureVs, pureV, beq_int, bne_int, Int.natCast_inj, eq_self, eqV, eqB, decide_true, decide_false, List.length_map, Int.toNat_natCast, List.getElem?_map, Option.map_some, Option.map_none, Int.natCast_nonneg, Option.some.injEq, lenV, binV, intBin, intV, idxA, ne_eq, not_true_eq_false, not_false_eq_true, List.drop, List.take, RetP, retP, resV, resOne, snapV, snapVs, snapR, snapRs, ownSz, pickV, cond_true, cond_false, bTT, bTF, bFT, bFF, Bool.not_true, Bool.not_false, AO.isC, Bool.or_true, Bool.true_or, Bool.or_false, Bool.false_or, WpE_cons, WpE_nil, opE, evE_some, guardE_true, guardE_false, WpD_cons, WpD_nil, opD, evD_some, guardD_true, guardD_false, podP, podC]

theorem findFrom_place (id : Int) : ∀ (l : List Pod) (i : Nat), findFrom (fun e => match e with | .int _ n :: _ => decide (n = id) | _ => false) i (l.map podC) = placeFrom id i l
  | [], i => rfl
  | p :: r, i => by
    simp only [List.map_cons, findFrom, podC, placeFrom, decide_eq_true_eq]
    split
    · rfl
    · exact findFrom_place id r (i + 1)

/-- What the library's IndexFunc needs. -/
structure Std5 (T : Tab) : Prop where
  h287 : Std T 287 f287
  flat287 : T.flat 287 = true
  h245 : Std T 245 f245
  h244 : Std T 244 f244

theorem place5_ok (S : Std5 T) (t : State) (id : Int) (h : t.pods.length ≤ 2 ^ 30) : Gives T 244 [stateP t, .int .i64 id] (.int .i64 (placeFrom id 0 t.pods)) := by
  refine gives S.h244 rfl ?_
  have k := index_ok (n := 245) (cs := [.cptr [.int .i64 id] 0]) (fun e => match e with | .int _ n :: _ => decide (n = id) | _ => false) S.h287 (t.pods.map podC) (by simpa using h) (fun e he => by
    obtain ⟨p, _, rfl⟩ := List.mem_map.1 he
    rfl) (fun e he => by
    obtain ⟨p, _, rfl⟩ := List.mem_map.1 he
    exact place1_ok S.h245 p id)
  rw [findFrom_place] at k
  simp only [f244, Wp_seq, Wp_ops, Wp_cond, Wp_skip, Wp_ret, Wp_exit, Wp_block, WpO_cons, WpO_nil, opQ, evOp, evO, evOs, evQ_some, guardV, guardQ_true, guardQ_false, boolQ_true, boolQ_false, argsA, pvs, putS, cellsOf, scals, scal, seqQ_normal, seqQ_ret, seqQ_exit, blkQ_normal, blkQ_ret, blkQ_exit, look_if, blkAt_if, if_true, if_false, Nat.reduceEqDiff, Nat.reduceAdd, true_implies, reduceCtorEq, false_implies, and_true, true_and, List.nil_append, List.cons_append, Bool.and_self, Nat.zero_add, Nat.add_zero, fieldA, nonNil, cellsAt, loadV_one, loadV_pvs, loadV_cons, mkAgg, allPV, List.drop_zero, List.drop_succ_cons, List.take_succ_cons, List.take_zero, List.length_cons, List.length_nil, Nat.beq_eq, storeB, patchL, beq_self_eq_true, ge_iff_le, gt_iff_lt, Int.reduceNeg, Int.reduceLE, Int.reduceLT, Int.reduceEq, extractV, List.getElem?_cons_zero, List.getElem?_cons_succ, mkAgg, Nat.add_eq_left, Nat.left_eq_add, Nat.one_ne_zero, ble_dec, beq_dec, decide_eq_true_eq, Nat.reduceLeDiff, Nat.le_refl, fillA, pureVs, pureV, beq_int, bne_int, Int.natCast_inj, eq_self, eqV, eqB, decide_true, decide_false, List.length_map, Int.toNat_natCast, List.getElem?_map, Option.map_some, Option.map_none, Int.natCast_nonneg, Option.some.injEq, lenV, binV, intBin, intV, idxA, ne_eq, not_true_eq_false, not_false_eq_true, List.drop, List.take, RetP, retP, resV, resOne, snapV, snapVs, snapR, snapRs, ownSz, pickV, cond_true, cond_false, bTT, bTF, bFT, bFF, Bool.not_true, Bool.not_false, AO.isC, Bool.or_true, Bool.true_or, Bool.or_false, Bool.false_or, WpE_cons, WpE_nil, opE, evE_some, guardE_true, guardE_false, WpD_cons, WpD_nil, opD, evD_some, guardD_true, guardD_false, stateP]
  rw [k.callF S.flat287 rfl _ _ _ _ _ (eq_true rfl) (eq_true rfl)]
  simp only [Wp_seq, Wp_ops, Wp_cond, Wp_skip, Wp_ret, Wp_exit, Wp_block, WpO_cons, WpO_nil, opQ, evOp, evO, evOs, evQ_some, guardV, guardQ_true, guardQ_false, boolQ_true, boolQ_false, argsA, pvs, putS, cellsOf, scals, scal, seqQ_normal, seqQ_ret, seqQ_exit, blkQ_normal, blkQ_ret, blkQ_exit, look_if, blkAt_if, if_true, if_false, Nat.reduceEqDiff, Nat.reduceAdd, true_implies, reduceCtorEq, false_implies, and_true, true_and, List.nil_append, List.cons_append, Bool.and_self, Nat.zero_add, Nat.add_zero, fieldA, nonNil, cellsAt, loadV_one, loadV_pvs, loadV_cons, mkAgg, allPV, List.drop_zero, List.drop_succ_cons, List.take_succ_cons, List.take_zero, List.length_cons, List.length_nil, Nat.beq_eq, storeB, patchL, beq_self_eq_true, ge_iff_le, gt_iff_lt, Int.reduceNeg, Int.reduceLE, Int.reduceLT, Int.reduceEq, extractV, List.getElem?_cons_zero, List.getElem?_cons_succ, mkAgg, Nat.add_eq_left, Nat.left_eq_add, Nat.one_ne_zero, ble_dec, beq_dec, decide_eq_true_eq, Nat.reduceLeDiff, Nat.le_refl, fillA, pureVs, pureV, beq_int, bne_int, Int.natCast_inj, eq_self, eqV, eqB, decide_true, decide_false, List.length_map, Int.toNat_natCast, List.getElem?_map, Option.map_some, Option.map_none, Int.natCast_nonneg, Option.some.injEq, lenV, binV, intBin, intV, idxA, ne_eq, not_true_eq_false, not_false_eq_true, List.drop, List.take, RetP, retP, resV, resOne, snapV, snapVs, snapR, snapRs, ownSz, pickV, cond_true, cond_false, bTT, bTF, bFT, bFF, Bool.not_true, Bool.not_false, AO.isC, Bool.or_true, Bool.true_or, Bool.or_false, Bool.false_or, WpE_cons, WpE_nil, opE, evE_some, guardE_true, guardE_false, WpD_cons, WpD_nil, opD, evD_some, guardD_true, guardD_false]

def podOf (id : Int) (l : List Pod) : Option Pod := l.find? (fun p => decide (p.id = id))
theorem placeFrom_cases (id : Int) : ∀ (l : List Pod) (i : Nat), (podOf id l = none ∧ placeFrom id i l = -1) ∨ ∃ j p, l[j]? = some p ∧ podOf id l = some p ∧ placeFrom id i l = ((i + j : Nat) : Int) ∧ j < l.length
  | [], i => .inl ⟨rfl, rfl⟩
  | q :: r, i => by
    by_cases h : q.id = id
    · refine .inr ⟨0, q, rfl, by simp [podOf, h], by simp [placeFrom, h], by simp⟩
    · rcases placeFrom_cases id r (i + 1) with ⟨h1, h2⟩ | ⟨j, p, h1, h2, h3, h4⟩
      · refine .inl ⟨?_, ?_⟩
        · simp only [podOf] at h1 ⊢; simp [h, h1]
        · simp only [placeFrom, h, if_false, h2]
      · refine .inr ⟨j + 1, p, by simpa using h1, ?_, ?_, by simp only [List.length_cons]; omega⟩
        · simp only [podOf] at h2 ⊢; simp [h, h2]
        · simp only [placeFrom, h, if_false, h3]; omega

def pod0 : Pod := ⟨0, 0, 0, ⟨0, 0, 0, 0⟩, 0⟩
def podR (o : Option Pod) : PV := match o with
  | some p => .tuple [podP p, .bool true]
  | none => .tuple [podP pod0, .bool false]

theorem pod5_ok (S : Std5 T) (h240 : Std T 240 f240) (t : State) (id : Int) (h : t.pods.length ≤ 2 ^ 30) : Gives T 240 [stateP t, .int .i64 id] (podR (podOf id t.pods)) := by
  refine gives h240 rfl ?_
  have k := place5_ok S t id h
  rcases placeFrom_cases id t.pods 0 with ⟨h1, h2⟩ | ⟨j, p, h1, h2, h3, h4⟩
  · rw [h2] at k
    simp only [f240, Wp_seq, Wp_ops, Wp_cond, Wp_skip, Wp_ret, Wp_exit, Wp_block, WpO_cons, WpO_nil, opQ, evOp, evO, evOs, evQ_some, guardV, guardQ_true, guardQ_false, boolQ_true, boolQ_false, argsA, pvs, putS, cellsOf, scals, scal, seqQ_normal, seqQ_ret, seqQ_exit, blkQ_normal, blkQ_ret, blkQ_exit, look_if, blkAt_if, if_true, if_false, Nat.reduceEqDiff, Nat.reduceAdd, true_implies, reduceCtorEq, false_implies, and_true, true_and, List.nil_append, List.cons_append, Bool.and_self, Nat.zero_add, Nat.add_zero, fieldA, nonNil, cellsAt, loadV_one, loadV_pvs, loadV_cons, mkAgg, allPV, List.drop_zero, List.drop_succ_cons, List.take_succ_cons, List.take_zero, List.length_cons, List.length_nil, Nat.beq_eq, storeB, patchL, beq_self_eq_true, ge_iff_le, gt_iff_lt, Int.reduceNeg, Int.reduceLE, Int.reduceLT, Int.reduceEq, extractV, List.getElem?_cons_zero, List.getElem?_cons_succ, mkAgg, Nat.add_eq_left, Nat.left_eq_add, Nat.one_ne_zero, ble_dec, beq_dec, decide_eq_true_eq, Nat.reduceLeDiff, Nat.le_refl, fillA, pureVs, pureV, beq_int, bne_int, Int.natCast_inj, eq_self, eqV, eqB, decide_true, decide_false, List.length_map, Int.toNat_natCast, List.getElem?_map, Option.map_some, Option.map_none, Int.natCast_nonneg, Option.some.injEq, lenV, binV, intBin, intV, idxA, ne_eq, not_true_eq_false, not_false_eq_true, List.drop, List.take, RetP, retP, resV, resOne, snapV, snapVs, snapR, snapRs, ownSz, pickV, cond_true, cond_false, bTT, bTF, bFT, bFF, Bool.not_true, Bool.not_false, AO.isC, Bool.or_true, Bool.true_or, Bool.or_false, Bool.false_or, WpE_cons, WpE_nil, opE, evE_some, guardE_true, guardE_false, WpD_cons, WpD_nil, opD, evD_some, guardD_true, guardD_false, stateP, k.call, h1, podR, podP, pod0, podC, Int.reduceNeg, Int.reduceLT, fillA]
  · rw [h3] at k
    have hj : ¬ ((j : Int) < 0) := by omega
    simp only [f240, Wp_seq, Wp_ops, Wp_cond, Wp_skip, Wp_ret, Wp_exit, Wp_block, WpO_cons, WpO_nil, opQ, evOp, evO, evOs, evQ_some, guardV, guardQ_true, guardQ_false, boolQ_true, boolQ_false, argsA, pvs, putS, cellsOf, scals, scal, seqQ_normal, seqQ_ret, seqQ_exit, blkQ_normal, blkQ_ret, blkQ_exit, look_if, blkAt_if, if_true, if_false, Nat.reduceEqDiff, Nat.reduceAdd, true_implies, reduceCtorEq, false_implies, and_true, true_and, List.nil_append, List.cons_append, Bool.and_self, Nat.zero_add, Nat.add_zero, fieldA, nonNil, cellsAt, loadV_one, loadV_pvs, loadV_cons, mkAgg, allPV, List.drop_zero, List.drop_succ_cons, List.take_succ_cons, List.take_zero, List.length_cons, List.length_nil, Nat.beq_eq, storeB, patchL, beq_self_eq_true, ge_iff_le, gt_iff_lt, Int.reduceNeg, Int.reduceLE, Int.reduceLT, Int.reduceEq, extractV, List.getElem?_cons_zero, List.getElem?_cons_succ, mkAgg, Nat.add_eq_left, Nat.left_eq_add, Nat.one_ne_zero, ble_dec, beq_dec, decide_eq_true_eq, Nat.reduceLeDiff, Nat.le_refl, fillA, pureVs, pureV, beq_int, bne_int, Int.natCast_inj, eq_self, eqV, eqB, decide_true, decide_false, List.length_map, Int.toNat_natCast, List.getElem?_map, Option.map_some, Option.map_none, Int.natCast_nonneg, Option.some.injEq, lenV, binV, intBin, intV, idxA, ne_eq, not_true_eq_false, not_false_eq_true, List.drop, List.take, RetP, retP, resV, resOne, snapV, snapVs, snapR, snapRs, ownSz, pickV, cond_true, cond_false, bTT, bTF, bFT, bFF, Bool.not_true, Bool.not_false, AO.isC, Bool.or_true, Bool.true_or, Bool.or_false, Bool.false_or, WpE_cons, WpE_nil, opE, evE_some, guardE_true, guardE_false, WpD_cons, WpD_nil, opD, evD_some, guardD_true, guardD_false, stateP, k.call, h2, podR, podP, podC, hj, h1]

/-- slices.Equal of pods. -/
theorem equal5_ok (h286 : Std T 286 f286) (a b : List Pod) (ha : a.length ≤ 2 ^ 30) : Gives T 286 [.slice (a.map podC), .slice (b.map podC)] (.bool (decide (a = b))) := by
  refine gives h286 rfl ?_
  have loop : ∀ (ra rb : List Pod) (i : Nat), a.length = b.length → a.drop i = ra → b.drop i = rb → i ≤ a.length → ∀ (fr : List (Nat × AV)), look fr 13 = .pv (.int .i64 i) → look fr 12 = .pv (.int .i64 a.length) → look fr 0 = .pv (.slice (a.map podC)) → look fr 1 = .pv (.slice (b.map podC)) →
      Wp T false (.loop f286l0) ⟨fr, [], 0⟩ (blkQ 0 (seqQ T false (.seq (.ops [⟨some 4, .mv (.c (.pv (.bool true))), none, []⟩]) .ret) (RetP [.t 4] (.bool (decide (ra = rb)))))) := by
    intro ra
    induction ra with
    | nil =>
      intro rb i hl hda hdb hi fr h5 h2 h0 h1
      have hlen : a.length = i := by
        have := congrArg List.length hda
        simp at this
        omega
      have : rb = [] := by
        rw [← hdb]
        exact List.drop_eq_nil_of_le (by omega)
      subst this
      rw [Wp_loop, Wp_eq f286l0.eq_1]
      simp only [Wp_seq, Wp_ops, Wp_cond, Wp_skip, Wp_ret, Wp_exit, Wp_block, WpO_cons, WpO_nil, opQ, evOp, evO, evOs, evQ_some, guardV, guardQ_true, guardQ_false, boolQ_true, boolQ_false, argsA, pvs, putS, cellsOf, scals, scal, seqQ_normal, seqQ_ret, seqQ_exit, blkQ_normal, blkQ_ret, blkQ_exit, look_if, blkAt_if, if_true, if_false, Nat.reduceEqDiff, Nat.reduceAdd, true_implies, reduceCtorEq, false_implies, and_true, true_and, List.nil_append, List.cons_append, Bool.and_self, Nat.zero_add, Nat.add_zero, fieldA, nonNil, cellsAt, loadV_one, loadV_pvs, loadV_cons, mkAgg, allPV, List.drop_zero, List.drop_succ_cons, List.take_succ_cons, List.take_zero, List.length_cons, List.length_nil, Nat.beq_eq, storeB, patchL, beq_self_eq_true, ge_iff_le, gt_iff_lt, Int.reduceNeg, Int.reduceLE, Int.reduceLT, Int.reduceEq, extractV, List.getElem?_cons_zero, List.getElem?_cons_succ, mkAgg, Nat.add_eq_left, Nat.left_eq_add, Nat.one_ne_zero, ble_dec, beq_dec, decide_eq_true_eq, Nat.reduceLeDiff, Nat.le_refl, fillA, pureVs, pureV, beq_int, bne_int, Int.natCast_inj, eq_self, eqV, eqB, decide_true, decide_false, List.length_map, Int.toNat_natCast, List.getElem?_map, Option.map_some, Option.map_none, Int.natCast_nonneg, Option.some.injEq, lenV, binV, intBin, intV, idxA, ne_eq, not_true_eq_false, not_false_eq_true, List.drop, List.take, RetP, retP, resV, resOne, snapV, snapVs, snapR, snapRs, ownSz, pickV, cond_true, cond_false, bTT, bTF, bFT, bFF, Bool.not_true, Bool.not_false, AO.isC, Bool.or_true, Bool.true_or, Bool.or_false, Bool.false_or, WpE_cons, WpE_nil, opE, evE_some, guardE_true, guardE_false, WpD_cons, WpD_nil, opD, evD_some, guardD_true, guardD_false, h5, h2, h0, h1, hlen, Int.lt_irrefl]
    | cons p r ih =>
      intro rb i hl hda hdb hi fr h5 h2 h0 h1
      have hga : a[i]? = some p := by
        have := congrArg (·[0]?) hda
        simpa using this
      have hlt : i < a.length := (List.getElem?_eq_some_iff.1 hga).1
      have hlt' : (i : Int) < (a.length : Int) := by omega
      cases rb with
      | nil =>
        have := congrArg List.length hdb
        simp at this
        omega
      | cons q rb =>
        have hgb : b[i]? = some q := by
          have := congrArg (·[0]?) hdb
          simpa using this
        rw [Wp_loop, Wp_eq f286l0.eq_1]
        simp only [Wp_seq, Wp_ops, Wp_cond, Wp_skip, Wp_ret, Wp_exit, Wp_block, WpO_cons, WpO_nil, opQ, evOp, evO, evOs, evQ_some, guardV, guardQ_true, guardQ_false, boolQ_true, boolQ_false, argsA, pvs, putS, cellsOf, scals, scal, seqQ_normal, seqQ_ret, seqQ_exit, blkQ_normal, blkQ_ret, blkQ_exit, look_if, blkAt_if, if_true, if_false, Nat.reduceEqDiff, Nat.reduceAdd, true_implies, reduceCtorEq, false_implies, and_true, true_and, List.nil_append, List.cons_append, Bool.and_self, Nat.zero_add, Nat.add_zero, fieldA, nonNil, cellsAt, loadV_one, loadV_pvs, loadV_cons, mkAgg, allPV, List.drop_zero, List.drop_succ_cons, List.take_succ_cons, List.take_zero, List.length_cons, List.length_nil, Nat.beq_eq, storeB, patchL, beq_self_eq_true, ge_iff_le, gt_iff_lt, Int.reduceNeg, Int.reduceLE, Int.reduceLT, Int.reduceEq, extractV, List.getElem?_cons_zero, List.getElem?_cons_succ, mkAgg, Nat.add_eq_left, Nat.left_eq_add, Nat.one_ne_zero, ble_dec, beq_dec, decide_eq_true_eq, Nat.reduceLeDiff, Nat.le_refl, fillA, pureVs, pureV, beq_int, bne_int, Int.natCast_inj, eq_self, eqV, eqB, decide_true, decide_false, List.length_map, Int.toNat_natCast, List.getElem?_map, Option.map_some, Option.map_none, Int.natCast_nonneg, Option.some.injEq, lenV, binV, intBin, intV, idxA, ne_eq, not_true_eq_false, not_false_eq_true, List.drop, List.take, RetP, retP, resV, resOne, snapV, snapVs, snapR, snapRs, ownSz, pickV, cond_true, cond_false, bTT, bTF, bFT, bFF, Bool.not_true, Bool.not_false, AO.isC, Bool.or_true, Bool.true_or, Bool.or_false, Bool.false_or, WpE_cons, WpE_nil, opE, evE_some, guardE_true, guardE_false, WpD_cons, WpD_nil, opD, evD_some, guardD_true, guardD_false, h5, h2, h0, h1, hlt']
        refine (Wp_calm rfl).2 ?_
        have hw : IntKind.i64.wrap ((i : Int) + 1) = ((i + 1 : Nat) : Int) := by rw [wrap6] <;> omega
        by_cases hpq : p = q
        · subst hpq
          simp only [Wp_seq, Wp_ops, Wp_cond, Wp_skip, Wp_ret, Wp_exit, Wp_block, WpO_cons, WpO_nil, opQ, evOp, evO, evOs, evQ_some, guardV, guardQ_true, guardQ_false, boolQ_true, boolQ_false, argsA, pvs, putS, cellsOf, scals, scal, seqQ_normal, seqQ_ret, seqQ_exit, blkQ_normal, blkQ_ret, blkQ_exit, look_if, blkAt_if, if_true, if_false, Nat.reduceEqDiff, Nat.reduceAdd, true_implies, reduceCtorEq, false_implies, and_true, true_and, List.nil_append, List.cons_append, Bool.and_self, Nat.zero_add, Nat.add_zero, fieldA, nonNil, cellsAt, loadV_one, loadV_pvs, loadV_cons, mkAgg, allPV, List.drop_zero, List.drop_succ_cons, List.take_succ_cons, List.take_zero, List.length_cons, List.length_nil, Nat.beq_eq, storeB, patchL, beq_self_eq_true, ge_iff_le, gt_iff_lt, Int.reduceNeg, Int.reduceLE, Int.reduceLT, Int.reduceEq, extractV, List.getElem?_cons_zero, List.getElem?_cons_succ, mkAgg, Nat.add_eq_left, Nat.left_eq_add, Nat.one_ne_zero, ble_dec, beq_dec, decide_eq_true_eq, Nat.reduceLeDiff, Nat.le_refl, fillA, pureVs, pureV, beq_int, bne_int, Int.natCast_inj, eq_self, eqV, eqB, decide_true, decide_false, List.length_map, Int.toNat_natCast, List.getElem?_map, Option.map_some, Option.map_none, Int.natCast_nonneg, Option.some.injEq, lenV, binV, intBin, intV, idxA, ne_eq, not_true_eq_false, not_false_eq_true, List.drop, List.take, RetP, retP, resV, resOne, snapV, snapVs, snapR, snapRs, ownSz, pickV, cond_true, cond_false, bTT, bTF, bFT, bFF, Bool.not_true, Bool.not_false, AO.isC, Bool.or_true, Bool.true_or, Bool.or_false, Bool.false_or, WpE_cons, WpE_nil, opE, evE_some, guardE_true, guardE_false, WpD_cons, WpD_nil, opD, evD_some, guardD_true, guardD_false, h5, h2, h0, h1, hga, hgb, podC_length, eqPods, hw, List.cons.injEq]
          refine ih rb (i + 1) hl ?_ ?_ (by omega) _ ?_ ?_ ?_ ?_
          · rw [← List.drop_drop, hda]; rfl
          · rw [← List.drop_drop, hdb]; rfl
          all_goals simp only [look_if, Nat.reduceEqDiff, if_true, if_false, h2, h0, h1]
        · simp only [Wp_seq, Wp_ops, Wp_cond, Wp_skip, Wp_ret, Wp_exit, Wp_block, WpO_cons, WpO_nil, opQ, evOp, evO, evOs, evQ_some, guardV, guardQ_true, guardQ_false, boolQ_true, boolQ_false, argsA, pvs, putS, cellsOf, scals, scal, seqQ_normal, seqQ_ret, seqQ_exit, blkQ_normal, blkQ_ret, blkQ_exit, look_if, blkAt_if, if_true, if_false, Nat.reduceEqDiff, Nat.reduceAdd, true_implies, reduceCtorEq, false_implies, and_true, true_and, List.nil_append, List.cons_append, Bool.and_self, Nat.zero_add, Nat.add_zero, fieldA, nonNil, cellsAt, loadV_one, loadV_pvs, loadV_cons, mkAgg, allPV, List.drop_zero, List.drop_succ_cons, List.take_succ_cons, List.take_zero, List.length_cons, List.length_nil, Nat.beq_eq, storeB, patchL, beq_self_eq_true, ge_iff_le, gt_iff_lt, Int.reduceNeg, Int.reduceLE, Int.reduceLT, Int.reduceEq, extractV, List.getElem?_cons_zero, List.getElem?_cons_succ, mkAgg, Nat.add_eq_left, Nat.left_eq_add, Nat.one_ne_zero, ble_dec, beq_dec, decide_eq_true_eq, Nat.reduceLeDiff, Nat.le_refl, fillA, pureVs, pureV, beq_int, bne_int, Int.natCast_inj, eq_self, eqV, eqB, decide_true, decide_false, List.length_map, Int.toNat_natCast, List.getElem?_map, Option.map_some, Option.map_none, Int.natCast_nonneg, Option.some.injEq, lenV, binV, intBin, intV, idxA, ne_eq, not_true_eq_false, not_false_eq_true, List.drop, List.take, RetP, retP, resV, resOne, snapV, snapVs, snapR, snapRs, ownSz, pickV, cond_true, cond_false, bTT, bTF, bFT, bFF, Bool.not_true, Bool.not_false, AO.isC, Bool.or_true, Bool.true_or, Bool.or_false, Bool.false_or, WpE_cons, WpE_nil, opE, evE_some, guardE_true, guardE_false, WpD_cons, WpD_nil, opD, evD_some, guardD_true, guardD_false, h5, h2, h0, h1, hga, hgb, podC_length, eqPods, hpq, hw, List.cons.injEq, false_and]
  simp only [f286, Wp_seq, Wp_ops, Wp_cond, Wp_skip, Wp_ret, Wp_exit, Wp_block, WpO_cons, WpO_nil, opQ, evOp, evO, evOs, evQ_some, guardV, guardQ_true, guardQ_false, boolQ_true, boolQ_false, argsA, pvs, putS, cellsOf, scals, scal, seqQ_normal, seqQ_ret, seqQ_exit, blkQ_normal, blkQ_ret, blkQ_exit, look_if, blkAt_if, if_true, if_false, Nat.reduceEqDiff, Nat.reduceAdd, true_implies, reduceCtorEq, false_implies, and_true, true_and, List.nil_append, List.cons_append, Bool.and_self, Nat.zero_add, Nat.add_zero, fieldA, nonNil, cellsAt, loadV_one, loadV_pvs, loadV_cons, mkAgg, allPV, List.drop_zero, List.drop_succ_cons, List.take_succ_cons, List.take_zero, List.length_cons, List.length_nil, Nat.beq_eq, storeB, patchL, beq_self_eq_true, ge_iff_le, gt_iff_lt, Int.reduceNeg, Int.reduceLE, Int.reduceLT, Int.reduceEq, extractV, List.getElem?_cons_zero, List.getElem?_cons_succ, mkAgg, Nat.add_eq_left, Nat.left_eq_add, Nat.one_ne_zero, ble_dec, beq_dec, decide_eq_true_eq, Nat.reduceLeDiff, Nat.le_refl, fillA, pureVs, pureV, beq_int, bne_int, Int.natCast_inj, eq_self, eqV, eqB, decide_true, decide_false, List.length_map, Int.toNat_natCast, List.getElem?_map, Option.map_some, Option.map_none, Int.natCast_nonneg, Option.some.injEq, lenV, binV, intBin, intV, idxA, ne_eq, not_true_eq_false, not_false_eq_true, List.drop, List.take, RetP, retP, resV, resOne, snapV, snapVs, snapR, snapRs, ownSz, pickV, cond_true, cond_false, bTT, bTF, bFT, bFF, Bool.not_true, Bool.not_false, AO.isC, Bool.or_true, Bool.true_or, Bool.or_false, Bool.false_or, WpE_cons, WpE_nil, opE, evE_some, guardE_true, guardE_false, WpD_cons, WpD_nil, opD, evD_some, guardD_true, guardD_false]
  by_cases hl : a.length = b.length
  · simp only [Wp_seq, Wp_ops, Wp_cond, Wp_skip, Wp_ret, Wp_exit, Wp_block, WpO_cons, WpO_nil, opQ, evOp, evO, evOs, evQ_some, guardV, guardQ_true, guardQ_false, boolQ_true, boolQ_false, argsA, pvs, putS, cellsOf, scals, scal, seqQ_normal, seqQ_ret, seqQ_exit, blkQ_normal, blkQ_ret, blkQ_exit, look_if, blkAt_if, if_true, if_false, Nat.reduceEqDiff, Nat.reduceAdd, true_implies, reduceCtorEq, false_implies, and_true, true_and, List.nil_append, List.cons_append, Bool.and_self, Nat.zero_add, Nat.add_zero, fieldA, nonNil, cellsAt, loadV_one, loadV_pvs, loadV_cons, mkAgg, allPV, List.drop_zero, List.drop_succ_cons, List.take_succ_cons, List.take_zero, List.length_cons, List.length_nil, Nat.beq_eq, storeB, patchL, beq_self_eq_true, ge_iff_le, gt_iff_lt, Int.reduceNeg, Int.reduceLE, Int.reduceLT, Int.reduceEq, extractV, List.getElem?_cons_zero, List.getElem?_cons_succ, mkAgg, Nat.add_eq_left, Nat.left_eq_add, Nat.one_ne_zero, ble_dec, beq_dec, decide_eq_true_eq, Nat.reduceLeDiff, Nat.le_refl, fillA, pureVs, pureV, beq_int, bne_int, Int.natCast_inj, eq_self, eqV, eqB, decide_true, decide_false, List.length_map, Int.toNat_natCast, List.getElem?_map, Option.map_some, Option.map_none, Int.natCast_nonneg, Option.some.injEq, lenV, binV, intBin, intV, idxA, ne_eq, not_true_eq_false, not_false_eq_true, List.drop, List.take, RetP, retP, resV, resOne, snapV, snapVs, snapR, snapRs, ownSz, pickV, cond_true, cond_false, bTT, bTF, bFT, bFF, Bool.not_true, Bool.not_false, AO.isC, Bool.or_true, Bool.true_or, Bool.or_false, Bool.false_or, WpE_cons, WpE_nil, opE, evE_some, guardE_true, guardE_false, WpD_cons, WpD_nil, opD, evD_some, guardD_true, guardD_false, hl]
    have := loop a b 0 hl rfl rfl (Nat.zero_le _)
    rw [hl] at this
    exact this _ rfl rfl rfl rfl
  · have hl' : ¬ a = b := fun h => hl (by rw [h])
    simp only [Wp_seq, Wp_ops, Wp_cond, Wp_skip, Wp_ret, Wp_exit, Wp_block, WpO_cons, WpO_nil, opQ, evOp, evO, evOs, evQ_some, guardV, guardQ_true, guardQ_false, boolQ_true, boolQ_false, argsA, pvs, putS, cellsOf, scals, scal, seqQ_normal, seqQ_ret, seqQ_exit, blkQ_normal, blkQ_ret, blkQ_exit, look_if, blkAt_if, if_true, if_false, Nat.reduceEqDiff, Nat.reduceAdd, true_implies, reduceCtorEq, false_implies, and_true, true_and, List.nil_append, List.cons_append, Bool.and_self, Nat.zero_add, Nat.add_zero, fieldA, nonNil, cellsAt, loadV_one, loadV_pvs, loadV_cons, mkAgg, allPV, List.drop_zero, List.drop_succ_cons, List.take_succ_cons, List.take_zero, List.length_cons, List.length_nil, Nat.beq_eq, storeB, patchL, beq_self_eq_true, ge_iff_le, gt_iff_lt, Int.reduceNeg, Int.reduceLE, Int.reduceLT, Int.reduceEq, extractV, List.getElem?_cons_zero, List.getElem?_cons_succ, mkAgg, Nat.add_eq_left, Nat.left_eq_add, Nat.one_ne_zero, ble_dec, beq_dec, decide_eq_true_eq, Nat.reduceLeDiff, Nat.le_refl, fillA, pureVs, pureV, beq_int, bne_int, Int.natCast_inj, eq_self, eqV, eqB, decide_true, decide_false, List.length_map, Int.toNat_natCast, List.getElem?_map, Option.map_some, Option.map_none, Int.natCast_nonneg, Option.some.injEq, lenV, binV, intBin, intV, idxA, ne_eq, not_true_eq_false, not_false_eq_true, List.drop, List.take, RetP, retP, resV, resOne, snapV, snapVs, snapR, snapRs, ownSz, pickV, cond_true, cond_false, bTT, bTF, bFT, bFF, Bool.not_true, Bool.not_false, AO.isC, Bool.or_true, Bool.true_or, Bool.or_false, Bool.false_or, WpE_cons, WpE_nil, opE, evE_some, guardE_true, guardE_false, WpD_cons, WpD_nil, opD, evD_some, guardD_true, guardD_false, hl, hl']

theorem same5b_ok (h241 : Std T 241 f241) (h286 : Std T 286 f286) (a b : State) (ha : a.pods.length ≤ 2 ^ 30) : Gives T 241 [stateP a, stateP b] (.bool (decide (a = b))) := by
  refine gives h241 rfl ?_
  have hab : a = b ↔ a.pre = b.pre ∧ a.shi = b.shi ∧ a.pods = b.pods := by cases a; cases b; simp; grind
  simp only [f241, Wp_seq, Wp_ops, Wp_cond, Wp_skip, Wp_ret, Wp_exit, Wp_block, WpO_cons, WpO_nil, opQ, evOp, evO, evOs, evQ_some, guardV, guardQ_true, guardQ_false, boolQ_true, boolQ_false, argsA, pvs, putS, cellsOf, scals, scal, seqQ_normal, seqQ_ret, seqQ_exit, blkQ_normal, blkQ_ret, blkQ_exit, look_if, blkAt_if, if_true, if_false, Nat.reduceEqDiff, Nat.reduceAdd, true_implies, reduceCtorEq, false_implies, and_true, true_and, List.nil_append, List.cons_append, Bool.and_self, Nat.zero_add, Nat.add_zero, fieldA, nonNil, cellsAt, loadV_one, loadV_pvs, loadV_cons, mkAgg, allPV, List.drop_zero, List.drop_succ_cons, List.take_succ_cons, List.take_zero, List.length_cons, List.length_nil, Nat.beq_eq, storeB, patchL, beq_self_eq_true, ge_iff_le, gt_iff_lt, Int.reduceNeg, Int.reduceLE, Int.reduceLT, Int.reduceEq, extractV, List.getElem?_cons_zero, List.getElem?_cons_succ, mkAgg, Nat.add_eq_left, Nat.left_eq_add, Nat.one_ne_zero, ble_dec, beq_dec, decide_eq_true_eq, Nat.reduceLeDiff, Nat.le_refl, fillA, pureVs, pureV, beq_int, bne_int, Int.natCast_inj, eq_self, eqV, eqB, decide_true, decide_false, List.length_map, Int.toNat_natCast, List.getElem?_map, Option.map_some, Option.map_none, Int.natCast_nonneg, Option.some.injEq, lenV, binV, intBin, intV, idxA, ne_eq, not_true_eq_false, not_false_eq_true, List.drop, List.take, RetP, retP, resV, resOne, snapV, snapVs, snapR, snapRs, ownSz, pickV, cond_true, cond_false, bTT, bTF, bFT, bFF, Bool.not_true, Bool.not_false, AO.isC, Bool.or_true, Bool.true_or, Bool.or_false, Bool.false_or, WpE_cons, WpE_nil, opE, evE_some, guardE_true, guardE_false, WpD_cons, WpD_nil, opD, evD_some, guardD_true, guardD_false, stateP]
  by_cases hp : a.pre = b.pre
  · by_cases hs : a.shi = b.shi
    · simp only [Wp_seq, Wp_ops, Wp_cond, Wp_skip, Wp_ret, Wp_exit, Wp_block, WpO_cons, WpO_nil, opQ, evOp, evO, evOs, evQ_some, guardV, guardQ_true, guardQ_false, boolQ_true, boolQ_false, argsA, pvs, putS, cellsOf, scals, scal, seqQ_normal, seqQ_ret, seqQ_exit, blkQ_normal, blkQ_ret, blkQ_exit, look_if, blkAt_if, if_true, if_false, Nat.reduceEqDiff, Nat.reduceAdd, true_implies, reduceCtorEq, false_implies, and_true, true_and, List.nil_append, List.cons_append, Bool.and_self, Nat.zero_add, Nat.add_zero, fieldA, nonNil, cellsAt, loadV_one, loadV_pvs, loadV_cons, mkAgg, allPV, List.drop_zero, List.drop_succ_cons, List.take_succ_cons, List.take_zero, List.length_cons, List.length_nil, Nat.beq_eq, storeB, patchL, beq_self_eq_true, ge_iff_le, gt_iff_lt, Int.reduceNeg, Int.reduceLE, Int.reduceLT, Int.reduceEq, extractV, List.getElem?_cons_zero, List.getElem?_cons_succ, mkAgg, Nat.add_eq_left, Nat.left_eq_add, Nat.one_ne_zero, ble_dec, beq_dec, decide_eq_true_eq, Nat.reduceLeDiff, Nat.le_refl, fillA, pureVs, pureV, beq_int, bne_int, Int.natCast_inj, eq_self, eqV, eqB, decide_true, decide_false, List.length_map, Int.toNat_natCast, List.getElem?_map, Option.map_some, Option.map_none, Int.natCast_nonneg, Option.some.injEq, lenV, binV, intBin, intV, idxA, ne_eq, not_true_eq_false, not_false_eq_true, List.drop, List.take, RetP, retP, resV, resOne, snapV, snapVs, snapR, snapRs, ownSz, pickV, cond_true, cond_false, bTT, bTF, bFT, bFF, Bool.not_true, Bool.not_false, AO.isC, Bool.or_true, Bool.true_or, Bool.or_false, Bool.false_or, WpE_cons, WpE_nil, opE, evE_some, guardE_true, guardE_false, WpD_cons, WpD_nil, opD, evD_some, guardD_true, guardD_false, hp, hs, hab, (equal5_ok h286 a.pods b.pods ha).call]
    · simp only [Wp_seq, Wp_ops, Wp_cond, Wp_skip, Wp_ret, Wp_exit, Wp_block, WpO_cons, WpO_nil, opQ, evOp, evO, evOs, evQ_some, guardV, guardQ_true, guardQ_false, boolQ_true, boolQ_false, argsA, pvs, putS, cellsOf, scals, scal, seqQ_normal, seqQ_ret, seqQ_exit, blkQ_normal, blkQ_ret, blkQ_exit, look_if, blkAt_if, if_true, if_false, Nat.reduceEqDiff, Nat.reduceAdd, true_implies, reduceCtorEq, false_implies, and_true, true_and, List.nil_append, List.cons_append, Bool.and_self, Nat.zero_add, Nat.add_zero, fieldA, nonNil, cellsAt, loadV_one, loadV_pvs, loadV_cons, mkAgg, allPV, List.drop_zero, List.drop_succ_cons, List.take_succ_cons, List.take_zero, List.length_cons, List.length_nil, Nat.beq_eq, storeB, patchL, beq_self_eq_true, ge_iff_le, gt_iff_lt, Int.reduceNeg, Int.reduceLE, Int.reduceLT, Int.reduceEq, extractV, List.getElem?_cons_zero, List.getElem?_cons_succ, mkAgg, Nat.add_eq_left, Nat.left_eq_add, Nat.one_ne_zero, ble_dec, beq_dec, decide_eq_true_eq, Nat.reduceLeDiff, Nat.le_refl, fillA, pureVs, pureV, beq_int, bne_int, Int.natCast_inj, eq_self, eqV, eqB, decide_true, decide_false, List.length_map, Int.toNat_natCast, List.getElem?_map, Option.map_some, Option.map_none, Int.natCast_nonneg, Option.some.injEq, lenV, binV, intBin, intV, idxA, ne_eq, not_true_eq_false, not_false_eq_true, List.drop, List.take, RetP, retP, resV, resOne, snapV, snapVs, snapR, snapRs, ownSz, pickV, cond_true, cond_false, bTT, bTF, bFT, bFF, Bool.not_true, Bool.not_false, AO.isC, Bool.or_true, Bool.true_or, Bool.or_false, Bool.false_or, WpE_cons, WpE_nil, opE, evE_some, guardE_true, guardE_false, WpD_cons, WpD_nil, opD, evD_some, guardD_true, guardD_false, hp, hs, hab, false_and]
  · simp only [Wp_seq, Wp_ops, Wp_cond, Wp_skip, Wp_ret, Wp_exit, Wp_block, WpO_cons, WpO_nil, opQ, evOp, evO, evOs, evQ_some, guardV, guardQ_true, guardQ_false, boolQ_true, boolQ_false, argsA, pvs, putS, cellsOf, scals, scal, seqQ_normal, seqQ_ret, seqQ_exit, blkQ_normal, blkQ_ret, blkQ_exit, look_if, blkAt_if, if_true, if_false, Nat.reduceEqDiff, Nat.reduceAdd, true_implies, reduceCtorEq, false_implies, and_true, true_and, List.nil_append, List.cons_append, Bool.and_self, Nat.zero_add, Nat.add_zero, fieldA, nonNil, cellsAt, loadV_one, loadV_pvs, loadV_cons, mkAgg, allPV, List.drop_zero, List.drop_succ_cons, List.take_succ_cons, List.take_zero, List.length_cons, List.length_nil, Nat.beq_eq, storeB, patchL, beq_self_eq_true, ge_iff_le, gt_iff_lt, Int.reduceNeg, Int.reduceLE, Int.reduceLT, Int.reduceEq, extractV, List.getElem?_cons_zero, List.getElem?_cons_succ, mkAgg, Nat.add_eq_left, Nat.left_eq_add, Nat.one_ne_zero, ble_dec, beq_dec, decide_eq_true_eq, Nat.reduceLeDiff, Nat.le_refl, fillA, pureVs, pureV, beq_int, bne_int, Int.natCast_inj, eq_self, eqV, eqB, decide_true, decide_false, List.length_map, Int.toNat_natCast, List.getElem?_map, Option.map_some, Option.map_none, Int.natCast_nonneg, Option.some.injEq, lenV, binV, intBin, intV, idxA, ne_eq, not_true_eq_false, not_false_eq_true, List.drop, List.take, RetP, retP, resV, resOne, snapV, snapVs, snapR, snapRs, ownSz, pickV, cond_true, cond_false, bTT, bTF, bFT, bFF, Bool.not_true, Bool.not_false, AO.isC, Bool.or_true, Bool.true_or, Bool.or_false, Bool.false_or, WpE_cons, WpE_nil, opE, evE_some, guardE_true, guardE_false, WpD_cons, WpD_nil, opD, evD_some, guardD_true, guardD_false, hp, hab, false_and]

/-- slices.Clone of pods. -/
structure Cln (T : Tab) (n sz : Nat) : Prop where
  prim : T.prim n = some (cloneP sz)
  raw : T.raw n = false
  own : T.own n = true
theorem Cln.call {n sz : Nat} (S : Cln T n sz) {es : List (List PV)} (h : allLen sz es = true) (hl : es.length ≤ 2 ^ 30) (d : Option Nat) (l : List AOper) (st : St) (K : St → Prop) :
    callQ T n [.pv (.slice es)] d l st K ↔ WpO T l (match es with | [] => ⟨putS st d (.pv (.slice [])), st.hp, st.nx⟩ | e :: r => ⟨putS st d (.ms st.nx), (st.nx, .row sz (e :: r)) :: st.hp, st.nx + 1⟩) K := by
  cases es with
  | nil =>
    have hc : callP (D T) n [.slice []] = some (none, .slice []) := by
      unfold callP
      rw [D_prim S.prim (show cloneP sz (pvs [.slice []]) [] 0 = some (.pv (.slice []), [], 2) from rfl)]
      rfl
    rw [callQ_pure S.raw rfl hc, S.own]
    rfl
  | cons e r =>
    have hc : callP (D T) n [.slice (e :: r)] = some (some sz, .slice (e :: r)) := by
      unfold callP
      rw [D_prim S.prim (show cloneP sz (pvs [.slice (e :: r)]) [] 0 = some (.ms 1, [(1, .row sz (e :: r))], 2) from by
        simp only [cloneP, pvs]; rw [if_pos ⟨h, hl⟩])]
      rfl
    rw [callQ_pure S.raw rfl hc, S.own]
    rfl
theorem allLen_pods (l : List Pod) : allLen 8 (l.map podC) = true := by
  simp [allLen, podC]

def firstOf (s : Snap) : State := ⟨s.pods, 0, 0⟩
theorem first5_ok (h237 : Std T 237 f237) (h279 : Cln T 279 8) (s : Snap) (h : s.pods.length ≤ 2 ^ 30) : Gives T 237 [snapP s] (stateP (firstOf s)) := by
  refine gives h237 rfl ?_
  simp only [f237, Wp_seq, Wp_ops, Wp_cond, Wp_skip, Wp_ret, Wp_exit, Wp_block, WpO_cons, WpO_nil, opQ, evOp, evO, evOs, evQ_some, guardV, guardQ_true, guardQ_false, boolQ_true, boolQ_false, argsA, pvs, putS, cellsOf, scals, scal, seqQ_normal, seqQ_ret, seqQ_exit, blkQ_normal, blkQ_ret, blkQ_exit, look_if, blkAt_if, if_true, if_false, Nat.reduceEqDiff, Nat.reduceAdd, true_implies, reduceCtorEq, false_implies, and_true, true_and, List.nil_append, List.cons_append, Bool.and_self, Nat.zero_add, Nat.add_zero, fieldA, nonNil, cellsAt, loadV_one, loadV_pvs, loadV_cons, mkAgg, allPV, List.drop_zero, List.drop_succ_cons, List.take_succ_cons, List.take_zero, List.length_cons, List.length_nil, Nat.beq_eq, storeB, patchL, beq_self_eq_true, ge_iff_le, gt_iff_lt, Int.reduceNeg, Int.reduceLE, Int.reduceLT, Int.reduceEq, extractV, List.getElem?_cons_zero, List.getElem?_cons_succ, mkAgg, Nat.add_eq_left, Nat.left_eq_add, Nat.one_ne_zero, ble_dec, beq_dec, decide_eq_true_eq, Nat.reduceLeDiff, Nat.le_refl, fillA, pureVs, pureV, beq_int, bne_int, Int.natCast_inj, eq_self, eqV, eqB, decide_true, decide_false, List.length_map, Int.toNat_natCast, List.getElem?_map, Option.map_some, Option.map_none, Int.natCast_nonneg, Option.some.injEq, lenV, binV, intBin, intV, idxA, ne_eq, not_true_eq_false, not_false_eq_true, List.drop, List.take, RetP, retP, resV, resOne, snapV, snapVs, snapR, snapRs, ownSz, pickV, cond_true, cond_false, bTT, bTF, bFT, bFF, Bool.not_true, Bool.not_false, AO.isC, Bool.or_true, Bool.true_or, Bool.or_false, Bool.false_or, WpE_cons, WpE_nil, opE, evE_some, guardE_true, guardE_false, WpD_cons, WpD_nil, opD, evD_some, guardD_true, guardD_false, snapP, stateP, firstOf]
  rw [h279.call (allLen_pods _) (by simpa using h)]
  cases hs : s.pods with
  | nil => simp only [Wp_seq, Wp_ops, Wp_cond, Wp_skip, Wp_ret, Wp_exit, Wp_block, WpO_cons, WpO_nil, opQ, evOp, evO, evOs, evQ_some, guardV, guardQ_true, guardQ_false, boolQ_true, boolQ_false, argsA, pvs, putS, cellsOf, scals, scal, seqQ_normal, seqQ_ret, seqQ_exit, blkQ_normal, blkQ_ret, blkQ_exit, look_if, blkAt_if, if_true, if_false, Nat.reduceEqDiff, Nat.reduceAdd, true_implies, reduceCtorEq, false_implies, and_true, true_and, List.nil_append, List.cons_append, Bool.and_self, Nat.zero_add, Nat.add_zero, fieldA, nonNil, cellsAt, loadV_one, loadV_pvs, loadV_cons, mkAgg, allPV, List.drop_zero, List.drop_succ_cons, List.take_succ_cons, List.take_zero, List.length_cons, List.length_nil, Nat.beq_eq, storeB, patchL, beq_self_eq_true, ge_iff_le, gt_iff_lt, Int.reduceNeg, Int.reduceLE, Int.reduceLT, Int.reduceEq, extractV, List.getElem?_cons_zero, List.getElem?_cons_succ, mkAgg, Nat.add_eq_left, Nat.left_eq_add, Nat.one_ne_zero, ble_dec, beq_dec, decide_eq_true_eq, Nat.reduceLeDiff, Nat.le_refl, fillA, pureVs, pureV, beq_int, bne_int, Int.natCast_inj, eq_self, eqV, eqB, decide_true, decide_false, List.length_map, Int.toNat_natCast, List.getElem?_map, Option.map_some, Option.map_none, Int.natCast_nonneg, Option.some.injEq, lenV, binV, intBin, intV, idxA, ne_eq, not_true_eq_false, not_false_eq_true, List.drop, List.take, RetP, retP, resV, resOne, snapV, snapVs, snapR, snapRs, ownSz, pickV, cond_true, cond_false, bTT, bTF, bFT, bFF, Bool.not_true, Bool.not_false, AO.isC, Bool.or_true, Bool.true_or, Bool.or_false, Bool.false_or, WpE_cons, WpE_nil, opE, evE_some, guardE_true, guardE_false, WpD_cons, WpD_nil, opD, evD_some, guardD_true, guardD_false, List.map_nil]
  | cons p r => simp only [Wp_seq, Wp_ops, Wp_cond, Wp_skip, Wp_ret, Wp_exit, Wp_block, WpO_cons, WpO_nil, opQ, evOp, evO, evOs, evQ_some, guardV, guardQ_true, guardQ_false, boolQ_true, boolQ_false, argsA, pvs, putS, cellsOf, scals, scal, seqQ_normal, seqQ_ret, seqQ_exit, blkQ_normal, blkQ_ret, blkQ_exit, look_if, blkAt_if, if_true, if_false, Nat.reduceEqDiff, Nat.reduceAdd, true_implies, reduceCtorEq, false_implies, and_true, true_and, List.nil_append, List.cons_append, Bool.and_self, Nat.zero_add, Nat.add_zero, fieldA, nonNil, cellsAt, loadV_one, loadV_pvs, loadV_cons, mkAgg, allPV, List.drop_zero, List.drop_succ_cons, List.take_succ_cons, List.take_zero, List.length_cons, List.length_nil, Nat.beq_eq, storeB, patchL, beq_self_eq_true, ge_iff_le, gt_iff_lt, Int.reduceNeg, Int.reduceLE, Int.reduceLT, Int.reduceEq, extractV, List.getElem?_cons_zero, List.getElem?_cons_succ, mkAgg, Nat.add_eq_left, Nat.left_eq_add, Nat.one_ne_zero, ble_dec, beq_dec, decide_eq_true_eq, Nat.reduceLeDiff, Nat.le_refl, fillA, pureVs, pureV, beq_int, bne_int, Int.natCast_inj, eq_self, eqV, eqB, decide_true, decide_false, List.length_map, Int.toNat_natCast, List.getElem?_map, Option.map_some, Option.map_none, Int.natCast_nonneg, Option.some.injEq, lenV, binV, intBin, intV, idxA, ne_eq, not_true_eq_false, not_false_eq_true, List.drop, List.take, RetP, retP, resV, resOne, snapV, snapVs, snapR, snapRs, ownSz, pickV, cond_true, cond_false, bTT, bTF, bFT, bFF, Bool.not_true, Bool.not_false, AO.isC, Bool.or_true, Bool.true_or, Bool.or_false, Bool.false_or, WpE_cons, WpE_nil, opE, evE_some, guardE_true, guardE_false, WpD_cons, WpD_nil, opD, evD_some, guardD_true, guardD_false, List.map_cons]
theorem first5b_ok (h164 : Std T 164 f164) (s : Snap) (h : s.pods.length ≤ 2 ^ 30) : Gives T 164 [snapP s] (stateP (firstOf s)) := by
  refine gives h164 rfl ?_
  simp only [f164, Wp_seq, Wp_ops, Wp_cond, Wp_skip, Wp_ret, Wp_exit, Wp_block, WpO_cons, WpO_nil, opQ, evOp, evO, evOs, evQ_some, guardV, guardQ_true, guardQ_false, boolQ_true, boolQ_false, argsA, pvs, putS, cellsOf, scals, scal, seqQ_normal, seqQ_ret, seqQ_exit, blkQ_normal, blkQ_ret, blkQ_exit, look_if, blkAt_if, if_true, if_false, Nat.reduceEqDiff, Nat.reduceAdd, true_implies, reduceCtorEq, false_implies, and_true, true_and, List.nil_append, List.cons_append, Bool.and_self, Nat.zero_add, Nat.add_zero, fieldA, nonNil, cellsAt, loadV_one, loadV_pvs, loadV_cons, mkAgg, allPV, List.drop_zero, List.drop_succ_cons, List.take_succ_cons, List.take_zero, List.length_cons, List.length_nil, Nat.beq_eq, storeB, patchL, beq_self_eq_true, ge_iff_le, gt_iff_lt, Int.reduceNeg, Int.reduceLE, Int.reduceLT, Int.reduceEq, extractV, List.getElem?_cons_zero, List.getElem?_cons_succ, mkAgg, Nat.add_eq_left, Nat.left_eq_add, Nat.one_ne_zero, ble_dec, beq_dec, decide_eq_true_eq, Nat.reduceLeDiff, Nat.le_refl, fillA, pureVs, pureV, beq_int, bne_int, Int.natCast_inj, eq_self, eqV, eqB, decide_true, decide_false, List.length_map, Int.toNat_natCast, List.getElem?_map, Option.map_some, Option.map_none, Int.natCast_nonneg, Option.some.injEq, lenV, binV, intBin, intV, idxA, ne_eq, not_true_eq_false, not_false_eq_true, List.drop, List.take, RetP, retP, resV, resOne, snapV, snapVs, snapR, snapRs, ownSz, pickV, cond_true, cond_false, bTT, bTF, bFT, bFF, Bool.not_true, Bool.not_false, AO.isC, Bool.or_true, Bool.true_or, Bool.or_false, Bool.false_or, WpE_cons, WpE_nil, opE, evE_some, guardE_true, guardE_false, WpD_cons, WpD_nil, opD, evD_some, guardD_true, guardD_false, snapP, stateP, firstOf, allLen_pods, partsScal, srcV, chunk, appV, baseV, h]

/-- A want is met. -/
def metB (w : Want) (l : List Pod) : Bool := match podOf w.pod l with
  | none => false
  | some p => if w.stay = true then decide (p.node ≠ 0) && decide (p.req = w.req) else decide (p.node = 0)
def goalB (ws : List Want) (l : List Pod) : Bool := ws.all (fun w => metB w l)

theorem eqVec (v v' : Vec) : eqCells [false, false, false, false] [.int .u64 v.a, .int .u64 v.b, .int .u64 v.c, .int .u64 v.d] [.int .u64 v'.a, .int .u64 v'.b, .int .u64 v'.c, .int .u64 v'.d] = some (decide (v = v')) := by
  obtain ⟨a, b, c, d⟩ := v
  obtain ⟨a', b', c', d'⟩ := v'
  simp only [eqCells, if_true, Option.some.injEq]
  rw [Bool.eq_iff_iff]
  simp

theorem goal5_ok (S : Std5 T) (h240 : Std T 240 f240) (h238 : Std T 238 f238) (x : Spec) (t : State) (hx : x.wants.length ≤ 2 ^ 30) (h : t.pods.length ≤ 2 ^ 30) : Gives T 238 [specP x, stateP t] (.bool (goalB x.wants t.pods)) := by
  refine gives h238 rfl ?_
  have loop : ∀ (rest : List Want) (i : Nat), x.wants.drop i = rest → i ≤ x.wants.length → ∀ (fr : List (Nat × AV)) (hp : Hl) (nx : Nat), 2 ≤ nx →
      blkAt hp 1 = .var [.pv (.slice (t.pods.map podC)), .pv (.int .i64 t.pre), .pv (.int .i64 t.shi)] → look fr 3 = .ptr 1 0 0 →
      look fr 12 = .pv (.int .i64 i) → look fr 11 = .pv (.int .i64 x.wants.length) → look fr 10 = .pv (.slice (x.wants.map wantC)) →
      Wp T false (.loop f238l0) ⟨fr, hp, nx⟩ (blkQ 0 (seqQ T false (.seq (.ops [⟨some 4, .mv (.c (.pv (.bool true))), none, []⟩]) .ret) (RetP [.t 4] (.bool (goalB rest t.pods))))) := by
    intro rest
    induction rest with
    | nil =>
      intro i hd hi fr hp nx hn b1 h3 h12 h11 h10
      have hlen : x.wants.length = i := by
        have := congrArg List.length hd
        simp at this
        omega
      rw [Wp_loop, Wp_eq f238l0.eq_1]
      simp only [Wp_seq, Wp_ops, Wp_cond, Wp_skip, Wp_ret, Wp_exit, Wp_block, WpO_cons, WpO_nil, opQ, evOp, evO, evOs, evQ_some, guardV, guardQ_true, guardQ_false, boolQ_true, boolQ_false, argsA, pvs, putS, cellsOf, scals, scal, seqQ_normal, seqQ_ret, seqQ_exit, blkQ_normal, blkQ_ret, blkQ_exit, look_if, blkAt_if, if_true, if_false, Nat.reduceEqDiff, Nat.reduceAdd, true_implies, reduceCtorEq, false_implies, and_true, true_and, List.nil_append, List.cons_append, Bool.and_self, Nat.zero_add, Nat.add_zero, fieldA, nonNil, cellsAt, loadV_one, loadV_pvs, loadV_cons, mkAgg, allPV, List.drop_zero, List.drop_succ_cons, List.take_succ_cons, List.take_zero, List.length_cons, List.length_nil, Nat.beq_eq, storeB, patchL, beq_self_eq_true, ge_iff_le, gt_iff_lt, Int.reduceNeg, Int.reduceLE, Int.reduceLT, Int.reduceEq, extractV, List.getElem?_cons_zero, List.getElem?_cons_succ, mkAgg, Nat.add_eq_left, Nat.left_eq_add, Nat.one_ne_zero, ble_dec, beq_dec, decide_eq_true_eq, Nat.reduceLeDiff, Nat.le_refl, fillA, pureVs, pureV, beq_int, bne_int, Int.natCast_inj, eq_self, eqV, eqB, decide_true, decide_false, List.length_map, Int.toNat_natCast, List.getElem?_map, Option.map_some, Option.map_none, Int.natCast_nonneg, Option.some.injEq, lenV, binV, intBin, intV, idxA, ne_eq, not_true_eq_false, not_false_eq_true, List.drop, List.take, RetP, retP, resV, resOne, snapV, snapVs, snapR, snapRs, ownSz, pickV, cond_true, cond_false, bTT, bTF, bFT, bFF, Bool.not_true, Bool.not_false, AO.isC, Bool.or_true, Bool.true_or, Bool.or_false, Bool.false_or, WpE_cons, WpE_nil, opE, evE_some, guardE_true, guardE_false, WpD_cons, WpD_nil, opD, evD_some, guardD_true, guardD_false, h3, h12, h11, h10, hlen, Int.lt_irrefl, goalB, List.all_nil]
    | cons w r ih =>
      intro i hd hi fr hp nx hn b1 h3 h12 h11 h10
      have hget : x.wants[i]? = some w := by
        have := congrArg (·[0]?) hd
        simpa using this
      have hlt : i < x.wants.length := (List.getElem?_eq_some_iff.1 hget).1
      have hlt' : (i : Int) < (x.wants.length : Int) := by omega
      have n1 : ¬ nx = 1 := by omega
      have n2 : ¬ nx + 1 = 1 := by omega
      have hw : IntKind.i64.wrap ((i : Int) + 1) = ((i + 1 : Nat) : Int) := by rw [wrap6] <;> omega
      have k := pod5_ok S h240 t w.pod h
      have next : metB w t.pods = true → ∀ (fr' : List (Nat × AV)) (hp' : Hl) (nx' : Nat), 2 ≤ nx' → blkAt hp' 1 = blkAt hp 1 → look fr' 3 = look fr 3 → look fr' 12 = .pv (.int .i64 ((i + 1 : Nat) : Int)) → look fr' 11 = look fr 11 → look fr' 10 = look fr 10 →
          Wp T false (.loop f238l0) ⟨fr', hp', nx'⟩ (blkQ 0 (seqQ T false (.seq (.ops [⟨some 4, .mv (.c (.pv (.bool true))), none, []⟩]) .ret) (RetP [.t 4] (.bool (goalB (w :: r) t.pods))))) := by
        intro hm fr' hp' nx' hn' b1' h3' h12' h11' h10'
        have : goalB (w :: r) t.pods = goalB r t.pods := by simp only [goalB, List.all_cons, hm, Bool.true_and]
        rw [this]
        exact ih (i + 1) (by rw [← List.drop_drop, hd]; rfl) (by omega) fr' hp' nx' hn' (b1'.trans b1) (h3'.trans h3) h12' (h11'.trans h11) (h10'.trans h10)
      have stop : metB w t.pods = false → goalB (w :: r) t.pods = false := by
        intro hm
        simp only [goalB, List.all_cons, hm, Bool.false_and]
      rw [Wp_loop, Wp_eq f238l0.eq_1]
      simp only [Wp_seq, Wp_ops, Wp_cond, Wp_skip, Wp_ret, Wp_exit, Wp_block, WpO_cons, WpO_nil, opQ, evOp, evO, evOs, evQ_some, guardV, guardQ_true, guardQ_false, boolQ_true, boolQ_false, argsA, pvs, putS, cellsOf, scals, scal, seqQ_normal, seqQ_ret, seqQ_exit, blkQ_normal, blkQ_ret, blkQ_exit, look_if, blkAt_if, if_true, if_false, Nat.reduceEqDiff, Nat.reduceAdd, true_implies, reduceCtorEq, false_implies, and_true, true_and, List.nil_append, List.cons_append, Bool.and_self, Nat.zero_add, Nat.add_zero, fieldA, nonNil, cellsAt, loadV_one, loadV_pvs, loadV_cons, mkAgg, allPV, List.drop_zero, List.drop_succ_cons, List.take_succ_cons, List.take_zero, List.length_cons, List.length_nil, Nat.beq_eq, storeB, patchL, beq_self_eq_true, ge_iff_le, gt_iff_lt, Int.reduceNeg, Int.reduceLE, Int.reduceLT, Int.reduceEq, extractV, List.getElem?_cons_zero, List.getElem?_cons_succ, mkAgg, Nat.add_eq_left, Nat.left_eq_add, Nat.one_ne_zero, ble_dec, beq_dec, decide_eq_true_eq, Nat.reduceLeDiff, Nat.le_refl, fillA, pureVs, pureV, beq_int, bne_int, Int.natCast_inj, eq_self, eqV, eqB, decide_true, decide_false, List.length_map, Int.toNat_natCast, List.getElem?_map, Option.map_some, Option.map_none, Int.natCast_nonneg, Option.some.injEq, lenV, binV, intBin, intV, idxA, ne_eq, not_true_eq_false, not_false_eq_true, List.drop, List.take, RetP, retP, resV, resOne, snapV, snapVs, snapR, snapRs, ownSz, pickV, cond_true, cond_false, bTT, bTF, bFT, bFF, Bool.not_true, Bool.not_false, AO.isC, Bool.or_true, Bool.true_or, Bool.or_false, Bool.false_or, WpE_cons, WpE_nil, opE, evE_some, guardE_true, guardE_false, WpD_cons, WpD_nil, opD, evD_some, guardD_true, guardD_false, h3, h12, h11, h10, hlt', hget, wantC, b1, n1, n2, k.call, stateP]
      cases hp0 : podOf w.pod t.pods with
      | none =>
        have := stop (by simp only [metB, hp0])
        simp only [Wp_seq, Wp_ops, Wp_cond, Wp_skip, Wp_ret, Wp_exit, Wp_block, WpO_cons, WpO_nil, opQ, evOp, evO, evOs, evQ_some, guardV, guardQ_true, guardQ_false, boolQ_true, boolQ_false, argsA, pvs, putS, cellsOf, scals, scal, seqQ_normal, seqQ_ret, seqQ_exit, blkQ_normal, blkQ_ret, blkQ_exit, look_if, blkAt_if, if_true, if_false, Nat.reduceEqDiff, Nat.reduceAdd, true_implies, reduceCtorEq, false_implies, and_true, true_and, List.nil_append, List.cons_append, Bool.and_self, Nat.zero_add, Nat.add_zero, fieldA, nonNil, cellsAt, loadV_one, loadV_pvs, loadV_cons, mkAgg, allPV, List.drop_zero, List.drop_succ_cons, List.take_succ_cons, List.take_zero, List.length_cons, List.length_nil, Nat.beq_eq, storeB, patchL, beq_self_eq_true, ge_iff_le, gt_iff_lt, Int.reduceNeg, Int.reduceLE, Int.reduceLT, Int.reduceEq, extractV, List.getElem?_cons_zero, List.getElem?_cons_succ, mkAgg, Nat.add_eq_left, Nat.left_eq_add, Nat.one_ne_zero, ble_dec, beq_dec, decide_eq_true_eq, Nat.reduceLeDiff, Nat.le_refl, fillA, pureVs, pureV, beq_int, bne_int, Int.natCast_inj, eq_self, eqV, eqB, decide_true, decide_false, List.length_map, Int.toNat_natCast, List.getElem?_map, Option.map_some, Option.map_none, Int.natCast_nonneg, Option.some.injEq, lenV, binV, intBin, intV, idxA, ne_eq, not_true_eq_false, not_false_eq_true, List.drop, List.take, RetP, retP, resV, resOne, snapV, snapVs, snapR, snapRs, ownSz, pickV, cond_true, cond_false, bTT, bTF, bFT, bFF, Bool.not_true, Bool.not_false, AO.isC, Bool.or_true, Bool.true_or, Bool.or_false, Bool.false_or, WpE_cons, WpE_nil, opE, evE_some, guardE_true, guardE_false, WpD_cons, WpD_nil, opD, evD_some, guardD_true, guardD_false, podR, podP, pod0, podC, n1, n2, this]
      | some p =>
        cases hst : w.stay
        · by_cases hn : p.node = 0
          · simp only [Wp_seq, Wp_ops, Wp_cond, Wp_skip, Wp_ret, Wp_exit, Wp_block, WpO_cons, WpO_nil, opQ, evOp, evO, evOs, evQ_some, guardV, guardQ_true, guardQ_false, boolQ_true, boolQ_false, argsA, pvs, putS, cellsOf, scals, scal, seqQ_normal, seqQ_ret, seqQ_exit, blkQ_normal, blkQ_ret, blkQ_exit, look_if, blkAt_if, if_true, if_false, Nat.reduceEqDiff, Nat.reduceAdd, true_implies, reduceCtorEq, false_implies, and_true, true_and, List.nil_append, List.cons_append, Bool.and_self, Nat.zero_add, Nat.add_zero, fieldA, nonNil, cellsAt, loadV_one, loadV_pvs, loadV_cons, mkAgg, allPV, List.drop_zero, List.drop_succ_cons, List.take_succ_cons, List.take_zero, List.length_cons, List.length_nil, Nat.beq_eq, storeB, patchL, beq_self_eq_true, ge_iff_le, gt_iff_lt, Int.reduceNeg, Int.reduceLE, Int.reduceLT, Int.reduceEq, extractV, List.getElem?_cons_zero, List.getElem?_cons_succ, mkAgg, Nat.add_eq_left, Nat.left_eq_add, Nat.one_ne_zero, ble_dec, beq_dec, decide_eq_true_eq, Nat.reduceLeDiff, Nat.le_refl, fillA, pureVs, pureV, beq_int, bne_int, Int.natCast_inj, eq_self, eqV, eqB, decide_true, decide_false, List.length_map, Int.toNat_natCast, List.getElem?_map, Option.map_some, Option.map_none, Int.natCast_nonneg, Option.some.injEq, lenV, binV, intBin, intV, idxA, ne_eq, not_true_eq_false, not_false_eq_true, List.drop, List.take, RetP, retP, resV, resOne, snapV, snapVs, snapR, snapRs, ownSz, pickV, cond_true, cond_false, bTT, bTF, bFT, bFF, Bool.not_true, Bool.not_false, AO.isC, Bool.or_true, Bool.true_or, Bool.or_false, Bool.false_or, WpE_cons, WpE_nil, opE, evE_some, guardE_true, guardE_false, WpD_cons, WpD_nil, opD, evD_some, guardD_true, guardD_false, podR, podP, podC, n1, n2, hst, hn, h12, hw]
            refine next (by simp [metB, hp0, hst, hn]) _ _ _ (by omega) ?_ ?_ ?_ ?_ ?_
            all_goals simp only [look_if, blkAt_if, Nat.reduceEqDiff, if_true, if_false, n1, n2]
          · have := stop (by simp [metB, hp0, hst, hn])
            simp only [Wp_seq, Wp_ops, Wp_cond, Wp_skip, Wp_ret, Wp_exit, Wp_block, WpO_cons, WpO_nil, opQ, evOp, evO, evOs, evQ_some, guardV, guardQ_true, guardQ_false, boolQ_true, boolQ_false, argsA, pvs, putS, cellsOf, scals, scal, seqQ_normal, seqQ_ret, seqQ_exit, blkQ_normal, blkQ_ret, blkQ_exit, look_if, blkAt_if, if_true, if_false, Nat.reduceEqDiff, Nat.reduceAdd, true_implies, reduceCtorEq, false_implies, and_true, true_and, List.nil_append, List.cons_append, Bool.and_self, Nat.zero_add, Nat.add_zero, fieldA, nonNil, cellsAt, loadV_one, loadV_pvs, loadV_cons, mkAgg, allPV, List.drop_zero, List.drop_succ_cons, List.take_succ_cons, List.take_zero, List.length_cons, List.length_nil, Nat.beq_eq, storeB, patchL, beq_self_eq_true, ge_iff_le, gt_iff_lt, Int.reduceNeg, Int.reduceLE, Int.reduceLT, Int.reduceEq, extractV, List.getElem?_cons_zero, List.getElem?_cons_succ, mkAgg, Nat.add_eq_left, Nat.left_eq_add, Nat.one_ne_zero, ble_dec, beq_dec, decide_eq_true_eq, Nat.reduceLeDiff, Nat.le_refl, fillA, pureVs, pureV, beq_int, bne_int, Int.natCast_inj, eq_self, eqV, eqB, decide_true, decide_false, List.length_map, Int.toNat_natCast, List.getElem?_map, Option.map_some, Option.map_none, Int.natCast_nonneg, Option.some.injEq, lenV, binV, intBin, intV, idxA, ne_eq, not_true_eq_false, not_false_eq_true, List.drop, List.take, RetP, retP, resV, resOne, snapV, snapVs, snapR, snapRs, ownSz, pickV, cond_true, cond_false, bTT, bTF, bFT, bFF, Bool.not_true, Bool.not_false, AO.isC, Bool.or_true, Bool.true_or, Bool.or_false, Bool.false_or, WpE_cons, WpE_nil, opE, evE_some, guardE_true, guardE_false, WpD_cons, WpD_nil, opD, evD_some, guardD_true, guardD_false, podR, podP, podC, n1, n2, hst, hn, this]
        · by_cases hn : p.node = 0
          · have := stop (by simp [metB, hp0, hst, hn])
            simp only [Wp_seq, Wp_ops, Wp_cond, Wp_skip, Wp_ret, Wp_exit, Wp_block, WpO_cons, WpO_nil, opQ, evOp, evO, evOs, evQ_some, guardV, guardQ_true, guardQ_false, boolQ_true, boolQ_false, argsA, pvs, putS, cellsOf, scals, scal, seqQ_normal, seqQ_ret, seqQ_exit, blkQ_normal, blkQ_ret, blkQ_exit, look_if, blkAt_if, if_true, if_false, Nat.reduceEqDiff, Nat.reduceAdd, true_implies, reduceCtorEq, false_implies, and_true, true_and, List.nil_append, List.cons_append, Bool.and_self, Nat.zero_add, Nat.add_zero, fieldA, nonNil, cellsAt, loadV_one, loadV_pvs, loadV_cons, mkAgg, allPV, List.drop_zero, List.drop_succ_cons, List.take_succ_cons, List.take_zero, List.length_cons, List.length_nil, Nat.beq_eq, storeB, patchL, beq_self_eq_true, ge_iff_le, gt_iff_lt, Int.reduceNeg, Int.reduceLE, Int.reduceLT, Int.reduceEq, extractV, List.getElem?_cons_zero, List.getElem?_cons_succ, mkAgg, Nat.add_eq_left, Nat.left_eq_add, Nat.one_ne_zero, ble_dec, beq_dec, decide_eq_true_eq, Nat.reduceLeDiff, Nat.le_refl, fillA, pureVs, pureV, beq_int, bne_int, Int.natCast_inj, eq_self, eqV, eqB, decide_true, decide_false, List.length_map, Int.toNat_natCast, List.getElem?_map, Option.map_some, Option.map_none, Int.natCast_nonneg, Option.some.injEq, lenV, binV, intBin, intV, idxA, ne_eq, not_true_eq_false, not_false_eq_true, List.drop, List.take, RetP, retP, resV, resOne, snapV, snapVs, snapR, snapRs, ownSz, pickV, cond_true, cond_false, bTT, bTF, bFT, bFF, Bool.not_true, Bool.not_false, AO.isC, Bool.or_true, Bool.true_or, Bool.or_false, Bool.false_or, WpE_cons, WpE_nil, opE, evE_some, guardE_true, guardE_false, WpD_cons, WpD_nil, opD, evD_some, guardD_true, guardD_false, podR, podP, podC, n1, n2, hst, hn, this]
          · by_cases hr : p.req = w.req
            · simp only [Wp_seq, Wp_ops, Wp_cond, Wp_skip, Wp_ret, Wp_exit, Wp_block, WpO_cons, WpO_nil, opQ, evOp, evO, evOs, evQ_some, guardV, guardQ_true, guardQ_false, boolQ_true, boolQ_false, argsA, pvs, putS, cellsOf, scals, scal, seqQ_normal, seqQ_ret, seqQ_exit, blkQ_normal, blkQ_ret, blkQ_exit, look_if, blkAt_if, if_true, if_false, Nat.reduceEqDiff, Nat.reduceAdd, true_implies, reduceCtorEq, false_implies, and_true, true_and, List.nil_append, List.cons_append, Bool.and_self, Nat.zero_add, Nat.add_zero, fieldA, nonNil, cellsAt, loadV_one, loadV_pvs, loadV_cons, mkAgg, allPV, List.drop_zero, List.drop_succ_cons, List.take_succ_cons, List.take_zero, List.length_cons, List.length_nil, Nat.beq_eq, storeB, patchL, beq_self_eq_true, ge_iff_le, gt_iff_lt, Int.reduceNeg, Int.reduceLE, Int.reduceLT, Int.reduceEq, extractV, List.getElem?_cons_zero, List.getElem?_cons_succ, mkAgg, Nat.add_eq_left, Nat.left_eq_add, Nat.one_ne_zero, ble_dec, beq_dec, decide_eq_true_eq, Nat.reduceLeDiff, Nat.le_refl, fillA, pureVs, pureV, beq_int, bne_int, Int.natCast_inj, eq_self, eqV, eqB, decide_true, decide_false, List.length_map, Int.toNat_natCast, List.getElem?_map, Option.map_some, Option.map_none, Int.natCast_nonneg, Option.some.injEq, lenV, binV, intBin, intV, idxA, ne_eq, not_true_eq_false, not_false_eq_true, List.drop, List.take, RetP, retP, resV, resOne, snapV, snapVs, snapR, snapRs, ownSz, pickV, cond_true, cond_false, bTT, bTF, bFT, bFF, Bool.not_true, Bool.not_false, AO.isC, Bool.or_true, Bool.true_or, Bool.or_false, Bool.false_or, WpE_cons, WpE_nil, opE, evE_some, guardE_true, guardE_false, WpD_cons, WpD_nil, opD, evD_some, guardD_true, guardD_false, podR, podP, podC, n1, n2, hst, hn, eqVec, hr, h12, hw]
              refine next (by simp [metB, hp0, hst, hn, hr]) _ _ _ (by omega) ?_ ?_ ?_ ?_ ?_
              all_goals simp only [look_if, blkAt_if, Nat.reduceEqDiff, if_true, if_false, n1, n2]
            · have := stop (by simp [metB, hp0, hst, hn, hr])
              simp only [Wp_seq, Wp_ops, Wp_cond, Wp_skip, Wp_ret, Wp_exit, Wp_block, WpO_cons, WpO_nil, opQ, evOp, evO, evOs, evQ_some, guardV, guardQ_true, guardQ_false, boolQ_true, boolQ_false, argsA, pvs, putS, cellsOf, scals, scal, seqQ_normal, seqQ_ret, seqQ_exit, blkQ_normal, blkQ_ret, blkQ_exit, look_if, blkAt_if, if_true, if_false, Nat.reduceEqDiff, Nat.reduceAdd, true_implies, reduceCtorEq, false_implies, and_true, true_and, List.nil_append, List.cons_append, Bool.and_self, Nat.zero_add, Nat.add_zero, fieldA, nonNil, cellsAt, loadV_one, loadV_pvs, loadV_cons, mkAgg, allPV, List.drop_zero, List.drop_succ_cons, List.take_succ_cons, List.take_zero, List.length_cons, List.length_nil, Nat.beq_eq, storeB, patchL, beq_self_eq_true, ge_iff_le, gt_iff_lt, Int.reduceNeg, Int.reduceLE, Int.reduceLT, Int.reduceEq, extractV, List.getElem?_cons_zero, List.getElem?_cons_succ, mkAgg, Nat.add_eq_left, Nat.left_eq_add, Nat.one_ne_zero, ble_dec, beq_dec, decide_eq_true_eq, Nat.reduceLeDiff, Nat.le_refl, fillA, pureVs, pureV, beq_int, bne_int, Int.natCast_inj, eq_self, eqV, eqB, decide_true, decide_false, List.length_map, Int.toNat_natCast, List.getElem?_map, Option.map_some, Option.map_none, Int.natCast_nonneg, Option.some.injEq, lenV, binV, intBin, intV, idxA, ne_eq, not_true_eq_false, not_false_eq_true, List.drop, List.take, RetP, retP, resV, resOne, snapV, snapVs, snapR, snapRs, ownSz, pickV, cond_true, cond_false, bTT, bTF, bFT, bFF, Bool.not_true, Bool.not_false, AO.isC, Bool.or_true, Bool.true_or, Bool.or_false, Bool.false_or, WpE_cons, WpE_nil, opE, evE_some, guardE_true, guardE_false, WpD_cons, WpD_nil, opD, evD_some, guardD_true, guardD_false, podR, podP, podC, n1, n2, hst, hn, eqVec, hr, this]
  simp only [f238, Wp_seq, Wp_ops, Wp_cond, Wp_skip, Wp_ret, Wp_exit, Wp_block, WpO_cons, WpO_nil, opQ, evOp, evO, evOs, evQ_some, guardV, guardQ_true, guardQ_false, boolQ_true, boolQ_false, argsA, pvs, putS, cellsOf, scals, scal, seqQ_normal, seqQ_ret, seqQ_exit, blkQ_normal, blkQ_ret, blkQ_exit, look_if, blkAt_if, if_true, if_false, Nat.reduceEqDiff, Nat.reduceAdd, true_implies, reduceCtorEq, false_implies, and_true, true_and, List.nil_append, List.cons_append, Bool.and_self, Nat.zero_add, Nat.add_zero, fieldA, nonNil, cellsAt, loadV_one, loadV_pvs, loadV_cons, mkAgg, allPV, List.drop_zero, List.drop_succ_cons, List.take_succ_cons, List.take_zero, List.length_cons, List.length_nil, Nat.beq_eq, storeB, patchL, beq_self_eq_true, ge_iff_le, gt_iff_lt, Int.reduceNeg, Int.reduceLE, Int.reduceLT, Int.reduceEq, extractV, List.getElem?_cons_zero, List.getElem?_cons_succ, mkAgg, Nat.add_eq_left, Nat.left_eq_add, Nat.one_ne_zero, ble_dec, beq_dec, decide_eq_true_eq, Nat.reduceLeDiff, Nat.le_refl, fillA, pureVs, pureV, beq_int, bne_int, Int.natCast_inj, eq_self, eqV, eqB, decide_true, decide_false, List.length_map, Int.toNat_natCast, List.getElem?_map, Option.map_some, Option.map_none, Int.natCast_nonneg, Option.some.injEq, lenV, binV, intBin, intV, idxA, ne_eq, not_true_eq_false, not_false_eq_true, List.drop, List.take, RetP, retP, resV, resOne, snapV, snapVs, snapR, snapRs, ownSz, pickV, cond_true, cond_false, bTT, bTF, bFT, bFF, Bool.not_true, Bool.not_false, AO.isC, Bool.or_true, Bool.true_or, Bool.or_false, Bool.false_or, WpE_cons, WpE_nil, opE, evE_some, guardE_true, guardE_false, WpD_cons, WpD_nil, opD, evD_some, guardD_true, guardD_false, specP, stateP]
  exact loop x.wants 0 rfl (Nat.zero_le _) _ _ 2 (Nat.le_refl _) rfl rfl rfl rfl rfl

theorem goal5b_ok (h165 : Std T 165 f165) (h167 : Std T 167 f167) (x : Spec) (t : State) (hx : x.wants.length ≤ 2 ^ 30) (h : t.pods.length ≤ 2 ^ 30) : Gives T 165 [specP x, stateP t] (.bool (goalB x.wants t.pods)) := by
  refine gives h165 rfl ?_
  have loop : ∀ (rest : List Want) (i : Nat), x.wants.drop i = rest → i ≤ x.wants.length → ∀ (fr : List (Nat × AV)) (hp : Hl) (nx : Nat), 2 ≤ nx →
      blkAt hp 0 = .var [.pv (.slice (x.wants.map wantC)), .pv (.int .i64 x.pre), .pv (.int .i64 x.shi)] →
      blkAt hp 1 = .var [.pv (.slice (t.pods.map podC)), .pv (.int .i64 t.pre), .pv (.int .i64 t.shi)] → look fr 2 = .ptr 0 0 0 → look fr 3 = .ptr 1 0 0 → look fr 5 = .pv (.int .i64 i) →
      Wp T false (.loop f165l0) ⟨fr, hp, nx⟩ (blkQ 0 (seqQ T false (.seq (.ops [⟨some 4, .mv (.c (.pv (.bool true))), none, []⟩]) .ret) (RetP [.t 4] (.bool (goalB rest t.pods))))) := by
    intro rest
    induction rest with
    | nil =>
      intro i hd hi fr hp nx hn b0 b1 h2 h3 h5
      have hlen : x.wants.length = i := by
        have := congrArg List.length hd
        simp at this
        omega
      rw [Wp_loop, Wp_eq f165l0.eq_1]
      simp only [Wp_seq, Wp_ops, Wp_cond, Wp_skip, Wp_ret, Wp_exit, Wp_block, WpO_cons, WpO_nil, opQ, evOp, evO, evOs, evQ_some, guardV, guardQ_true, guardQ_false, boolQ_true, boolQ_false, argsA, pvs, putS, cellsOf, scals, scal, seqQ_normal, seqQ_ret, seqQ_exit, blkQ_normal, blkQ_ret, blkQ_exit, look_if, blkAt_if, if_true, if_false, Nat.reduceEqDiff, Nat.reduceAdd, true_implies, reduceCtorEq, false_implies, and_true, true_and, List.nil_append, List.cons_append, Bool.and_self, Nat.zero_add, Nat.add_zero, fieldA, nonNil, cellsAt, loadV_one, loadV_pvs, loadV_cons, mkAgg, allPV, List.drop_zero, List.drop_succ_cons, List.take_succ_cons, List.take_zero, List.length_cons, List.length_nil, Nat.beq_eq, storeB, patchL, beq_self_eq_true, ge_iff_le, gt_iff_lt, Int.reduceNeg, Int.reduceLE, Int.reduceLT, Int.reduceEq, extractV, List.getElem?_cons_zero, List.getElem?_cons_succ, mkAgg, Nat.add_eq_left, Nat.left_eq_add, Nat.one_ne_zero, ble_dec, beq_dec, decide_eq_true_eq, Nat.reduceLeDiff, Nat.le_refl, fillA, pureVs, pureV, beq_int, bne_int, Int.natCast_inj, eq_self, eqV, eqB, decide_true, decide_false, List.length_map, Int.toNat_natCast, List.getElem?_map, Option.map_some, Option.map_none, Int.natCast_nonneg, Option.some.injEq, lenV, binV, intBin, intV, idxA, ne_eq, not_true_eq_false, not_false_eq_true, List.drop, List.take, RetP, retP, resV, resOne, snapV, snapVs, snapR, snapRs, ownSz, pickV, cond_true, cond_false, bTT, bTF, bFT, bFF, Bool.not_true, Bool.not_false, AO.isC, Bool.or_true, Bool.true_or, Bool.or_false, Bool.false_or, WpE_cons, WpE_nil, opE, evE_some, guardE_true, guardE_false, WpD_cons, WpD_nil, opD, evD_some, guardD_true, guardD_false, b0, h2, h3, h5, hlen, Int.lt_irrefl, goalB, List.all_nil]
    | cons w r ih =>
      intro i hd hi fr hp nx hn b0 b1 h2 h3 h5
      have hget : x.wants[i]? = some w := by
        have := congrArg (·[0]?) hd
        simpa using this
      have hlt : i < x.wants.length := (List.getElem?_eq_some_iff.1 hget).1
      have hlt' : (i : Int) < (x.wants.length : Int) := by omega
      have n0 : ¬ nx = 0 := by omega
      have n1 : ¬ nx = 1 := by omega
      have hw : IntKind.i64.wrap ((i : Int) + 1) = ((i + 1 : Nat) : Int) := by rw [wrap6] <;> omega
      have k := place_ok h167 t w.pod h
      have next : metB w t.pods = true → ∀ (fr' : List (Nat × AV)) (hp' : Hl) (nx' : Nat), 2 ≤ nx' → blkAt hp' 0 = blkAt hp 0 → blkAt hp' 1 = blkAt hp 1 → look fr' 2 = look fr 2 → look fr' 3 = look fr 3 → look fr' 5 = .pv (.int .i64 ((i + 1 : Nat) : Int)) →
          Wp T false (.loop f165l0) ⟨fr', hp', nx'⟩ (blkQ 0 (seqQ T false (.seq (.ops [⟨some 4, .mv (.c (.pv (.bool true))), none, []⟩]) .ret) (RetP [.t 4] (.bool (goalB (w :: r) t.pods))))) := by
        intro hm fr' hp' nx' hn' b0' b1' h2' h3' h5'
        have : goalB (w :: r) t.pods = goalB r t.pods := by simp only [goalB, List.all_cons, hm, Bool.true_and]
        rw [this]
        exact ih (i + 1) (by rw [← List.drop_drop, hd]; rfl) (by omega) fr' hp' nx' hn' (b0'.trans b0) (b1'.trans b1) (h2'.trans h2) (h3'.trans h3) h5'
      have stop : metB w t.pods = false → goalB (w :: r) t.pods = false := by
        intro hm
        simp only [goalB, List.all_cons, hm, Bool.false_and]
      rw [Wp_loop, Wp_eq f165l0.eq_1]
      simp only [Wp_seq, Wp_ops, Wp_cond, Wp_skip, Wp_ret, Wp_exit, Wp_block, WpO_cons, WpO_nil, opQ, evOp, evO, evOs, evQ_some, guardV, guardQ_true, guardQ_false, boolQ_true, boolQ_false, argsA, pvs, putS, cellsOf, scals, scal, seqQ_normal, seqQ_ret, seqQ_exit, blkQ_normal, blkQ_ret, blkQ_exit, look_if, blkAt_if, if_true, if_false, Nat.reduceEqDiff, Nat.reduceAdd, true_implies, reduceCtorEq, false_implies, and_true, true_and, List.nil_append, List.cons_append, Bool.and_self, Nat.zero_add, Nat.add_zero, fieldA, nonNil, cellsAt, loadV_one, loadV_pvs, loadV_cons, mkAgg, allPV, List.drop_zero, List.drop_succ_cons, List.take_succ_cons, List.take_zero, List.length_cons, List.length_nil, Nat.beq_eq, storeB, patchL, beq_self_eq_true, ge_iff_le, gt_iff_lt, Int.reduceNeg, Int.reduceLE, Int.reduceLT, Int.reduceEq, extractV, List.getElem?_cons_zero, List.getElem?_cons_succ, mkAgg, Nat.add_eq_left, Nat.left_eq_add, Nat.one_ne_zero, ble_dec, beq_dec, decide_eq_true_eq, Nat.reduceLeDiff, Nat.le_refl, fillA, pureVs, pureV, beq_int, bne_int, Int.natCast_inj, eq_self, eqV, eqB, decide_true, decide_false, List.length_map, Int.toNat_natCast, List.getElem?_map, Option.map_some, Option.map_none, Int.natCast_nonneg, Option.some.injEq, lenV, binV, intBin, intV, idxA, ne_eq, not_true_eq_false, not_false_eq_true, List.drop, List.take, RetP, retP, resV, resOne, snapV, snapVs, snapR, snapRs, ownSz, pickV, cond_true, cond_false, bTT, bTF, bFT, bFF, Bool.not_true, Bool.not_false, AO.isC, Bool.or_true, Bool.true_or, Bool.or_false, Bool.false_or, WpE_cons, WpE_nil, opE, evE_some, guardE_true, guardE_false, WpD_cons, WpD_nil, opD, evD_some, guardD_true, guardD_false, b0, h2, h3, h5, hlt']
      refine (Wp_calm rfl).2 ?_
      rcases placeFrom_cases w.pod t.pods 0 with ⟨e1, e2⟩ | ⟨j, p, e1, e2, e3, e4⟩
      · have := stop (by simp only [metB, e1])
        rw [e2] at k
        simp only [Wp_seq, Wp_ops, Wp_cond, Wp_skip, Wp_ret, Wp_exit, Wp_block, WpO_cons, WpO_nil, opQ, evOp, evO, evOs, evQ_some, guardV, guardQ_true, guardQ_false, boolQ_true, boolQ_false, argsA, pvs, putS, cellsOf, scals, scal, seqQ_normal, seqQ_ret, seqQ_exit, blkQ_normal, blkQ_ret, blkQ_exit, look_if, blkAt_if, if_true, if_false, Nat.reduceEqDiff, Nat.reduceAdd, true_implies, reduceCtorEq, false_implies, and_true, true_and, List.nil_append, List.cons_append, Bool.and_self, Nat.zero_add, Nat.add_zero, fieldA, nonNil, cellsAt, loadV_one, loadV_pvs, loadV_cons, mkAgg, allPV, List.drop_zero, List.drop_succ_cons, List.take_succ_cons, List.take_zero, List.length_cons, List.length_nil, Nat.beq_eq, storeB, patchL, beq_self_eq_true, ge_iff_le, gt_iff_lt, Int.reduceNeg, Int.reduceLE, Int.reduceLT, Int.reduceEq, extractV, List.getElem?_cons_zero, List.getElem?_cons_succ, mkAgg, Nat.add_eq_left, Nat.left_eq_add, Nat.one_ne_zero, ble_dec, beq_dec, decide_eq_true_eq, Nat.reduceLeDiff, Nat.le_refl, fillA, pureVs, pureV, beq_int, bne_int, Int.natCast_inj, eq_self, eqV, eqB, decide_true, decide_false, List.length_map, Int.toNat_natCast, List.getElem?_map, Option.map_some, Option.map_none, Int.natCast_nonneg, Option.some.injEq, lenV, binV, intBin, intV, idxA, ne_eq, not_true_eq_false, not_false_eq_true, List.drop, List.take, RetP, retP, resV, resOne, snapV, snapVs, snapR, snapRs, ownSz, pickV, cond_true, cond_false, bTT, bTF, bFT, bFF, Bool.not_true, Bool.not_false, AO.isC, Bool.or_true, Bool.true_or, Bool.or_false, Bool.false_or, WpE_cons, WpE_nil, opE, evE_some, guardE_true, guardE_false, WpD_cons, WpD_nil, opD, evD_some, guardD_true, guardD_false, b0, b1, h2, h3, h5, hget, wantC, k.callD, stateP, this, Int.reduceNeg, Int.reduceLT]
      · have hj : ¬ ((j : Int) < 0) := by omega
        rw [e3] at k
        simp only [Wp_seq, Wp_ops, Wp_cond, Wp_skip, Wp_ret, Wp_exit, Wp_block, WpO_cons, WpO_nil, opQ, evOp, evO, evOs, evQ_some, guardV, guardQ_true, guardQ_false, boolQ_true, boolQ_false, argsA, pvs, putS, cellsOf, scals, scal, seqQ_normal, seqQ_ret, seqQ_exit, blkQ_normal, blkQ_ret, blkQ_exit, look_if, blkAt_if, if_true, if_false, Nat.reduceEqDiff, Nat.reduceAdd, true_implies, reduceCtorEq, false_implies, and_true, true_and, List.nil_append, List.cons_append, Bool.and_self, Nat.zero_add, Nat.add_zero, fieldA, nonNil, cellsAt, loadV_one, loadV_pvs, loadV_cons, mkAgg, allPV, List.drop_zero, List.drop_succ_cons, List.take_succ_cons, List.take_zero, List.length_cons, List.length_nil, Nat.beq_eq, storeB, patchL, beq_self_eq_true, ge_iff_le, gt_iff_lt, Int.reduceNeg, Int.reduceLE, Int.reduceLT, Int.reduceEq, extractV, List.getElem?_cons_zero, List.getElem?_cons_succ, mkAgg, Nat.add_eq_left, Nat.left_eq_add, Nat.one_ne_zero, ble_dec, beq_dec, decide_eq_true_eq, Nat.reduceLeDiff, Nat.le_refl, fillA, pureVs, pureV, beq_int, bne_int, Int.natCast_inj, eq_self, eqV, eqB, decide_true, decide_false, List.length_map, Int.toNat_natCast, List.getElem?_map, Option.map_some, Option.map_none, Int.natCast_nonneg, Option.some.injEq, lenV, binV, intBin, intV, idxA, ne_eq, not_true_eq_false, not_false_eq_true, List.drop, List.take, RetP, retP, resV, resOne, snapV, snapVs, snapR, snapRs, ownSz, pickV, cond_true, cond_false, bTT, bTF, bFT, bFF, Bool.not_true, Bool.not_false, AO.isC, Bool.or_true, Bool.true_or, Bool.or_false, Bool.false_or, WpE_cons, WpE_nil, opE, evE_some, guardE_true, guardE_false, WpD_cons, WpD_nil, opD, evD_some, guardD_true, guardD_false, b0, b1, h2, h3, h5, hget, wantC, k.callD, stateP, hj, e1, podC]
        refine (Wp_calm rfl).2 ?_
        cases hst : w.stay
        · by_cases hn : p.node = 0
          · simp only [Wp_seq, Wp_ops, Wp_cond, Wp_skip, Wp_ret, Wp_exit, Wp_block, WpO_cons, WpO_nil, opQ, evOp, evO, evOs, evQ_some, guardV, guardQ_true, guardQ_false, boolQ_true, boolQ_false, argsA, pvs, putS, cellsOf, scals, scal, seqQ_normal, seqQ_ret, seqQ_exit, blkQ_normal, blkQ_ret, blkQ_exit, look_if, blkAt_if, if_true, if_false, Nat.reduceEqDiff, Nat.reduceAdd, true_implies, reduceCtorEq, false_implies, and_true, true_and, List.nil_append, List.cons_append, Bool.and_self, Nat.zero_add, Nat.add_zero, fieldA, nonNil, cellsAt, loadV_one, loadV_pvs, loadV_cons, mkAgg, allPV, List.drop_zero, List.drop_succ_cons, List.take_succ_cons, List.take_zero, List.length_cons, List.length_nil, Nat.beq_eq, storeB, patchL, beq_self_eq_true, ge_iff_le, gt_iff_lt, Int.reduceNeg, Int.reduceLE, Int.reduceLT, Int.reduceEq, extractV, List.getElem?_cons_zero, List.getElem?_cons_succ, mkAgg, Nat.add_eq_left, Nat.left_eq_add, Nat.one_ne_zero, ble_dec, beq_dec, decide_eq_true_eq, Nat.reduceLeDiff, Nat.le_refl, fillA, pureVs, pureV, beq_int, bne_int, Int.natCast_inj, eq_self, eqV, eqB, decide_true, decide_false, List.length_map, Int.toNat_natCast, List.getElem?_map, Option.map_some, Option.map_none, Int.natCast_nonneg, Option.some.injEq, lenV, binV, intBin, intV, idxA, ne_eq, not_true_eq_false, not_false_eq_true, List.drop, List.take, RetP, retP, resV, resOne, snapV, snapVs, snapR, snapRs, ownSz, pickV, cond_true, cond_false, bTT, bTF, bFT, bFF, Bool.not_true, Bool.not_false, AO.isC, Bool.or_true, Bool.true_or, Bool.or_false, Bool.false_or, WpE_cons, WpE_nil, opE, evE_some, guardE_true, guardE_false, WpD_cons, WpD_nil, opD, evD_some, guardD_true, guardD_false, podC, wantC, n0, n1, hst, hn, b0, h2, h5, hget, hw]
            refine next (by simp [metB, e2, hst, hn]) _ _ _ (by omega) ?_ ?_ ?_ ?_ ?_
            all_goals simp only [look_if, blkAt_if, Nat.reduceEqDiff, if_true, if_false, n0, n1]
          · have := stop (by simp [metB, e2, hst, hn])
            simp only [Wp_seq, Wp_ops, Wp_cond, Wp_skip, Wp_ret, Wp_exit, Wp_block, WpO_cons, WpO_nil, opQ, evOp, evO, evOs, evQ_some, guardV, guardQ_true, guardQ_false, boolQ_true, boolQ_false, argsA, pvs, putS, cellsOf, scals, scal, seqQ_normal, seqQ_ret, seqQ_exit, blkQ_normal, blkQ_ret, blkQ_exit, look_if, blkAt_if, if_true, if_false, Nat.reduceEqDiff, Nat.reduceAdd, true_implies, reduceCtorEq, false_implies, and_true, true_and, List.nil_append, List.cons_append, Bool.and_self, Nat.zero_add, Nat.add_zero, fieldA, nonNil, cellsAt, loadV_one, loadV_pvs, loadV_cons, mkAgg, allPV, List.drop_zero, List.drop_succ_cons, List.take_succ_cons, List.take_zero, List.length_cons, List.length_nil, Nat.beq_eq, storeB, patchL, beq_self_eq_true, ge_iff_le, gt_iff_lt, Int.reduceNeg, Int.reduceLE, Int.reduceLT, Int.reduceEq, extractV, List.getElem?_cons_zero, List.getElem?_cons_succ, mkAgg, Nat.add_eq_left, Nat.left_eq_add, Nat.one_ne_zero, ble_dec, beq_dec, decide_eq_true_eq, Nat.reduceLeDiff, Nat.le_refl, fillA, pureVs, pureV, beq_int, bne_int, Int.natCast_inj, eq_self, eqV, eqB, decide_true, decide_false, List.length_map, Int.toNat_natCast, List.getElem?_map, Option.map_some, Option.map_none, Int.natCast_nonneg, Option.some.injEq, lenV, binV, intBin, intV, idxA, ne_eq, not_true_eq_false, not_false_eq_true, List.drop, List.take, RetP, retP, resV, resOne, snapV, snapVs, snapR, snapRs, ownSz, pickV, cond_true, cond_false, bTT, bTF, bFT, bFF, Bool.not_true, Bool.not_false, AO.isC, Bool.or_true, Bool.true_or, Bool.or_false, Bool.false_or, WpE_cons, WpE_nil, opE, evE_some, guardE_true, guardE_false, WpD_cons, WpD_nil, opD, evD_some, guardD_true, guardD_false, podC, wantC, n0, n1, hst, hn, b0, h2, h5, hget, this]
        · by_cases hn : p.node = 0
          · have := stop (by simp [metB, e2, hst, hn])
            simp only [Wp_seq, Wp_ops, Wp_cond, Wp_skip, Wp_ret, Wp_exit, Wp_block, WpO_cons, WpO_nil, opQ, evOp, evO, evOs, evQ_some, guardV, guardQ_true, guardQ_false, boolQ_true, boolQ_false, argsA, pvs, putS, cellsOf, scals, scal, seqQ_normal, seqQ_ret, seqQ_exit, blkQ_normal, blkQ_ret, blkQ_exit, look_if, blkAt_if, if_true, if_false, Nat.reduceEqDiff, Nat.reduceAdd, true_implies, reduceCtorEq, false_implies, and_true, true_and, List.nil_append, List.cons_append, Bool.and_self, Nat.zero_add, Nat.add_zero, fieldA, nonNil, cellsAt, loadV_one, loadV_pvs, loadV_cons, mkAgg, allPV, List.drop_zero, List.drop_succ_cons, List.take_succ_cons, List.take_zero, List.length_cons, List.length_nil, Nat.beq_eq, storeB, patchL, beq_self_eq_true, ge_iff_le, gt_iff_lt, Int.reduceNeg, Int.reduceLE, Int.reduceLT, Int.reduceEq, extractV, List.getElem?_cons_zero, List.getElem?_cons_succ, mkAgg, Nat.add_eq_left, Nat.left_eq_add, Nat.one_ne_zero, ble_dec, beq_dec, decide_eq_true_eq, Nat.reduceLeDiff, Nat.le_refl, fillA, pureVs, pureV, beq_int, bne_int, Int.natCast_inj, eq_self, eqV, eqB, decide_true, decide_false, List.length_map, Int.toNat_natCast, List.getElem?_map, Option.map_some, Option.map_none, Int.natCast_nonneg, Option.some.injEq, lenV, binV, intBin, intV, idxA, ne_eq, not_true_eq_false, not_false_eq_true, List.drop, List.take, RetP, retP, resV, resOne, snapV, snapVs, snapR, snapRs, ownSz, pickV, cond_true, cond_false, bTT, bTF, bFT, bFF, Bool.not_true, Bool.not_false, AO.isC, Bool.or_true, Bool.true_or, Bool.or_false, Bool.false_or, WpE_cons, WpE_nil, opE, evE_some, guardE_true, guardE_false, WpD_cons, WpD_nil, opD, evD_some, guardD_true, guardD_false, podC, wantC, n0, n1, hst, hn, b0, h2, h5, hget, this]
          · by_cases hr : p.req = w.req
            · simp only [Wp_seq, Wp_ops, Wp_cond, Wp_skip, Wp_ret, Wp_exit, Wp_block, WpO_cons, WpO_nil, opQ, evOp, evO, evOs, evQ_some, guardV, guardQ_true, guardQ_false, boolQ_true, boolQ_false, argsA, pvs, putS, cellsOf, scals, scal, seqQ_normal, seqQ_ret, seqQ_exit, blkQ_normal, blkQ_ret, blkQ_exit, look_if, blkAt_if, if_true, if_false, Nat.reduceEqDiff, Nat.reduceAdd, true_implies, reduceCtorEq, false_implies, and_true, true_and, List.nil_append, List.cons_append, Bool.and_self, Nat.zero_add, Nat.add_zero, fieldA, nonNil, cellsAt, loadV_one, loadV_pvs, loadV_cons, mkAgg, allPV, List.drop_zero, List.drop_succ_cons, List.take_succ_cons, List.take_zero, List.length_cons, List.length_nil, Nat.beq_eq, storeB, patchL, beq_self_eq_true, ge_iff_le, gt_iff_lt, Int.reduceNeg, Int.reduceLE, Int.reduceLT, Int.reduceEq, extractV, List.getElem?_cons_zero, List.getElem?_cons_succ, mkAgg, Nat.add_eq_left, Nat.left_eq_add, Nat.one_ne_zero, ble_dec, beq_dec, decide_eq_true_eq, Nat.reduceLeDiff, Nat.le_refl, fillA, pureVs, pureV, beq_int, bne_int, Int.natCast_inj, eq_self, eqV, eqB, decide_true, decide_false, List.length_map, Int.toNat_natCast, List.getElem?_map, Option.map_some, Option.map_none, Int.natCast_nonneg, Option.some.injEq, lenV, binV, intBin, intV, idxA, ne_eq, not_true_eq_false, not_false_eq_true, List.drop, List.take, RetP, retP, resV, resOne, snapV, snapVs, snapR, snapRs, ownSz, pickV, cond_true, cond_false, bTT, bTF, bFT, bFF, Bool.not_true, Bool.not_false, AO.isC, Bool.or_true, Bool.true_or, Bool.or_false, Bool.false_or, WpE_cons, WpE_nil, opE, evE_some, guardE_true, guardE_false, WpD_cons, WpD_nil, opD, evD_some, guardD_true, guardD_false, podC, wantC, n0, n1, hst, hn, eqVec, hr, b0, h2, h5, hget, hw]
              refine next (by simp [metB, e2, hst, hn, hr]) _ _ _ (by omega) ?_ ?_ ?_ ?_ ?_
              all_goals simp only [look_if, blkAt_if, Nat.reduceEqDiff, if_true, if_false, n0, n1]
            · have := stop (by simp [metB, e2, hst, hn, hr])
              simp only [Wp_seq, Wp_ops, Wp_cond, Wp_skip, Wp_ret, Wp_exit, Wp_block, WpO_cons, WpO_nil, opQ, evOp, evO, evOs, evQ_some, guardV, guardQ_true, guardQ_false, boolQ_true, boolQ_false, argsA, pvs, putS, cellsOf, scals, scal, seqQ_normal, seqQ_ret, seqQ_exit, blkQ_normal, blkQ_ret, blkQ_exit, look_if, blkAt_if, if_true, if_false, Nat.reduceEqDiff, Nat.reduceAdd, true_implies, reduceCtorEq, false_implies, and_true, true_and, List.nil_append, List.cons_append, Bool.and_self, Nat.zero_add, Nat.add_zero, fieldA, nonNil, cellsAt, loadV_one, loadV_pvs, loadV_cons, mkAgg, allPV, List.drop_zero, List.drop_succ_cons, List.take_succ_cons, List.take_zero, List.length_cons, List.length_nil, Nat.beq_eq, storeB, patchL, beq_self_eq_true, ge_iff_le, gt_iff_lt, Int.reduceNeg, Int.reduceLE, Int.reduceLT, Int.reduceEq, extractV, List.getElem?_cons_zero, List.getElem?_cons_succ, mkAgg, Nat.add_eq_left, Nat.left_eq_add, Nat.one_ne_zero, ble_dec, beq_dec, decide_eq_true_eq, Nat.reduceLeDiff, Nat.le_refl, fillA, pureVs, pureV, beq_int, bne_int, Int.natCast_inj, eq_self, eqV, eqB, decide_true, decide_false, List.length_map, Int.toNat_natCast, List.getElem?_map, Option.map_some, Option.map_none, Int.natCast_nonneg, Option.some.injEq, lenV, binV, intBin, intV, idxA, ne_eq, not_true_eq_false, not_false_eq_true, List.drop, List.take, RetP, retP, resV, resOne, snapV, snapVs, snapR, snapRs, ownSz, pickV, cond_true, cond_false, bTT, bTF, bFT, bFF, Bool.not_true, Bool.not_false, AO.isC, Bool.or_true, Bool.true_or, Bool.or_false, Bool.false_or, WpE_cons, WpE_nil, opE, evE_some, guardE_true, guardE_false, WpD_cons, WpD_nil, opD, evD_some, guardD_true, guardD_false, podC, wantC, n0, n1, hst, hn, eqVec, hr, b0, h2, h5, hget, this]
  simp only [f165, Wp_seq, Wp_ops, Wp_cond, Wp_skip, Wp_ret, Wp_exit, Wp_block, WpO_cons, WpO_nil, opQ, evOp, evO, evOs, evQ_some, guardV, guardQ_true, guardQ_false, boolQ_true, boolQ_false, argsA, pvs, putS, cellsOf, scals, scal, seqQ_normal, seqQ_ret, seqQ_exit, blkQ_normal, blkQ_ret, blkQ_exit, look_if, blkAt_if, if_true, if_false, Nat.reduceEqDiff, Nat.reduceAdd, true_implies, reduceCtorEq, false_implies, and_true, true_and, List.nil_append, List.cons_append, Bool.and_self, Nat.zero_add, Nat.add_zero, fieldA, nonNil, cellsAt, loadV_one, loadV_pvs, loadV_cons, mkAgg, allPV, List.drop_zero, List.drop_succ_cons, List.take_succ_cons, List.take_zero, List.length_cons, List.length_nil, Nat.beq_eq, storeB, patchL, beq_self_eq_true, ge_iff_le, gt_iff_lt, Int.reduceNeg, Int.reduceLE, Int.reduceLT, Int.reduceEq, extractV, List.getElem?_cons_zero, List.getElem?_cons_succ, mkAgg, Nat.add_eq_left, Nat.left_eq_add, Nat.one_ne_zero, ble_dec, beq_dec, decide_eq_true_eq, Nat.reduceLeDiff, Nat.le_refl, fillA, pureVs, pureV, beq_int, bne_int, Int.natCast_inj, eq_self, eqV, eqB, decide_true, decide_false, List.length_map, Int.toNat_natCast, List.getElem?_map, Option.map_some, Option.map_none, Int.natCast_nonneg, Option.some.injEq, lenV, binV, intBin, intV, idxA, ne_eq, not_true_eq_false, not_false_eq_true, List.drop, List.take, RetP, retP, resV, resOne, snapV, snapVs, snapR, snapRs, ownSz, pickV, cond_true, cond_false, bTT, bTF, bFT, bFF, Bool.not_true, Bool.not_false, AO.isC, Bool.or_true, Bool.true_or, Bool.or_false, Bool.false_or, WpE_cons, WpE_nil, opE, evE_some, guardE_true, guardE_false, WpD_cons, WpD_nil, opD, evD_some, guardD_true, guardD_false, specP, stateP]
  exact loop x.wants 0 rfl (Nat.zero_le _) _ _ 2 (Nat.le_refl _) rfl rfl rfl rfl rfl
end
end Go.Proofs.YtmeigdjfcecidaaDoor.Ab
