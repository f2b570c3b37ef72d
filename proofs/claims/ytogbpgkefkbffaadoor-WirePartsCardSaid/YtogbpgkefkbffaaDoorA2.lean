/- The layer, part 2: Co02, Sp2, Sp2b, Sp2c, Sp2d, Sp2e, Sp2f, Ab51, Ab52, Sp2g. -/
import Derived.Test.YtogbpgkefkbffaaDoorA1
/- The code of functions, by our numbers. -/
set_option linter.unusedVariables false
namespace Go.Proofs.YtogbpgkefkbffaaDoor.Ab
open Go
def f146l0 : ACode :=
 (.seq (.seq (.ops [
   ⟨some 8, .mv (.t 5), none, []⟩,
   ⟨some 9, .mv (.t 0), none, []⟩,
   ⟨some 10, .len (.t 9), none, [1]⟩,
   ⟨some 11, .bin .lss none (.t 8) (.t 10), none, [0, 2]⟩])
  (.cond (.t 11)
   .skip
   (.exit 0)))
  (.block 1
   (.seq (.ops [
     ⟨some 13, .mv (.t 0), none, []⟩,
     ⟨some 14, .mv (.t 5), none, []⟩,
     ⟨some 15, .call 149 [(.t 13), (.t 14)], none, [0, 1]⟩,
     ⟨some 12, .mv (.t 15), none, [2]⟩,
     ⟨some 16, .extract (.t 12) 0, none, [3]⟩,
     ⟨some 17, .extract (.t 12) 1, none, [3]⟩,
     ⟨some 6, .mv (.t 16), none, [4, 2, 0, 1, 2, 3, 4]⟩,
     ⟨some 7, .mv (.t 17), none, [5, 6, 0, 1, 2, 3, 4, 5, 6]⟩])
    (.seq (.seq (.ops [
     ⟨some 18, .mv (.t 7), none, []⟩,
     ⟨some 19, .bin .lss none (.t 18) (.c (.pv (.int .i64 0))), none, [0]⟩])
    (.cond (.t 19)
     (.seq (.ops [
       ⟨some 20, .mv (.t 5), none, []⟩,
       ⟨some 2, .mv (.c .nils), none, []⟩,
       ⟨some 3, .mv (.t 20), none, [0, 1, 0, 1]⟩])
      .ret)
     .skip))
    (.seq (.ops [
     ⟨some 21, .mv (.t 4), none, []⟩,
     ⟨some 22, .mv (.t 6), none, []⟩,
     ⟨some 23, .bslice 1 1 [(.pv (.int .u64 0))] [(0, 1, (.t 22))], none, [1]⟩,
     ⟨some 24, .append 1 8 (.t 21) (.t 23), none, [0, 2]⟩,
     ⟨some 4, .mv (.t 24), none, [3, 3, 0, 1, 2, 3]⟩])
    (.ops [
     ⟨some 25, .mv (.t 7), none, []⟩,
     ⟨some 5, .mv (.t 25), none, [0, 0]⟩]))))))
/-- dunnage/dunnageref02.All -/
def f146 : AFunc := ⟨27, [.t 2, .t 3],
 (.seq (.ops [
   ⟨some 2, .mv (.c .nils), none, []⟩,
   ⟨some 3, .mv (.c (.pv (.int .i64 0))), none, [0]⟩])
  (.seq (.ops [
   ⟨some 4, .mv (.c .nils), none, []⟩])
  (.seq (.ops [
   ⟨some 5, .mv (.c (.pv (.int .i64 0))), none, []⟩])
  (.seq (.block 0
   (.loop f146l0))
  (.seq (.ops [
   ⟨some 26, .mv (.t 4), none, []⟩,
   ⟨some 2, .mv (.t 26), none, [0, 0]⟩,
   ⟨some 3, .mv (.c (.pv (.int .i64 (-1)))), none, [1, 0, 1]⟩])
  .ret)))))⟩

def f147l0 : ACode :=
 (.seq (.seq (.ops [
   ⟨some 11, .mv (.t 7), none, []⟩,
   ⟨some 12, .len (.t 11), none, [0]⟩,
   ⟨some 13, .mv (.t 1), none, []⟩,
   ⟨some 14, .bin .lss none (.t 12) (.t 13), none, [1, 2]⟩])
  (.cond (.t 14)
   .skip
   (.exit 0)))
  (.block 1
   (.seq (.ops [
     ⟨some 16, .mv (.t 0), none, []⟩,
     ⟨some 17, .mv (.t 8), none, []⟩,
     ⟨some 18, .call 149 [(.t 16), (.t 17)], none, [0, 1]⟩,
     ⟨some 15, .mv (.t 18), none, [2]⟩,
     ⟨some 19, .extract (.t 15) 0, none, [3]⟩,
     ⟨some 20, .extract (.t 15) 1, none, [3]⟩,
     ⟨some 9, .mv (.t 19), none, [4, 2, 0, 1, 2, 3, 4]⟩,
     ⟨some 10, .mv (.t 20), none, [5, 6, 0, 1, 2, 3, 4, 5, 6]⟩])
    (.seq (.seq (.ops [
     ⟨some 21, .mv (.t 10), none, []⟩,
     ⟨some 22, .bin .lss none (.t 21) (.c (.pv (.int .i64 0))), none, [0]⟩])
    (.cond (.t 22)
     (.seq (.ops [
       ⟨some 23, .mv (.t 8), none, []⟩,
       ⟨some 4, .mv (.c .nils), none, []⟩,
       ⟨some 5, .mv (.c (.pv (.int .i64 0))), none, [1, 1]⟩,
       ⟨some 6, .mv (.t 23), none, [0, 2, 0, 1, 2]⟩])
      .ret)
     .skip))
    (.seq (.ops [
     ⟨some 24, .mv (.t 7), none, []⟩,
     ⟨some 25, .mv (.t 9), none, []⟩,
     ⟨some 26, .bslice 1 1 [(.pv (.int .u64 0))] [(0, 1, (.t 25))], none, [1]⟩,
     ⟨some 27, .append 1 8 (.t 24) (.t 26), none, [0, 2]⟩,
     ⟨some 7, .mv (.t 27), none, [3, 3, 0, 1, 2, 3]⟩])
    (.ops [
     ⟨some 28, .mv (.t 10), none, []⟩,
     ⟨some 8, .mv (.t 28), none, [0, 0]⟩]))))))
/-- dunnage/dunnageref02.Get -/
def f147 : AFunc := ⟨31, [.t 4, .t 5, .t 6],
 (.seq (.ops [
   ⟨some 4, .mv (.c .nils), none, []⟩,
   ⟨some 5, .mv (.c (.pv (.int .i64 0))), none, [0]⟩,
   ⟨some 6, .mv (.c (.pv (.int .i64 0))), none, [1]⟩])
  (.seq (.ops [
   ⟨some 7, .mv (.c .nils), none, []⟩])
  (.seq (.ops [
   ⟨some 8, .mv (.c (.pv (.int .i64 0))), none, []⟩])
  (.seq (.block 0
   (.loop f147l0))
  (.seq (.ops [
   ⟨some 29, .mv (.t 7), none, []⟩,
   ⟨some 30, .mv (.t 8), none, []⟩,
   ⟨some 4, .mv (.t 29), none, [0, 0]⟩,
   ⟨some 5, .mv (.t 30), none, [1, 2, 0, 1, 2]⟩,
   ⟨some 6, .mv (.c (.pv (.int .i64 (-1)))), none, [3, 0, 1, 2, 3]⟩])
  .ret)))))⟩

def f148l0 : ACode :=
 (.seq (.seq (.ops [
   ⟨some 5, .mv (.t 4), none, []⟩,
   ⟨some 6, .mv (.t 0), none, []⟩,
   ⟨some 7, .len (.t 6), none, [1]⟩,
   ⟨some 8, .bin .lss none (.t 5) (.t 7), none, [0, 2]⟩])
  (.cond (.t 8)
   .skip
   (.exit 0)))
  (.seq (.block 1
   (.ops [
     ⟨some 11, .mv (.t 3), none, []⟩,
     ⟨some 12, .mv (.t 0), none, []⟩,
     ⟨some 13, .mv (.t 4), none, []⟩,
     ⟨some 14, .idxAddr 1 (.t 12) (.t 13), none, [1, 2]⟩,
     ⟨some 15, .load false 1 (.t 14), none, [3]⟩,
     ⟨some 16, .call 150 [(.t 15)], none, [4]⟩,
     ⟨some 17, .append 1 1 (.t 11) (.t 16), none, [0, 5, 5]⟩,
     ⟨some 3, .mv (.t 17), none, [6, 6, 0, 1, 2, 3, 4, 5, 6]⟩]))
  (.ops [
   ⟨some 9, .mv (.t 4), none, []⟩,
   ⟨some 10, .bin .add none (.t 9) (.c (.pv (.int .i64 1))), none, [0]⟩,
   ⟨some 4, .mv (.t 10), none, [1, 0, 1]⟩])))
/-- dunnage/dunnageref02.Put -/
def f148 : AFunc := ⟨19, [.t 2],
 (.seq (.ops [
   ⟨some 2, .mv (.c .nils), none, []⟩])
  (.seq (.ops [
   ⟨some 3, .mv (.c .nils), none, []⟩])
  (.seq (.seq (.ops [
   ⟨some 4, .mv (.c (.pv (.int .i64 0))), none, []⟩])
  (.block 0
   (.loop f148l0)))
  (.seq (.ops [
   ⟨some 18, .mv (.t 3), none, []⟩,
   ⟨some 2, .mv (.t 18), none, [0, 0]⟩])
  .ret))))⟩

def f149l0 : ACode :=
 (.seq (.seq (.ops [
   ⟨some 11, .mv (.t 8), none, []⟩,
   ⟨some 12, .mv (.t 0), none, []⟩,
   ⟨some 13, .len (.t 12), none, [1]⟩,
   ⟨some 14, .bin .lss none (.t 11) (.t 13), none, [0, 2]⟩,
   ⟨some 15, .mv (.t 14), none, [3]⟩,
   ⟨some 16, .mv (.t 8), some (15, true), [4]⟩,
   ⟨some 17, .mv (.t 1), some (15, true), [4]⟩,
   ⟨some 18, .bin .add none (.t 17) (.c (.pv (.int .i64 10))), some (15, true), [6, 4]⟩,
   ⟨some 19, .bin .lss none (.t 16) (.t 18), some (15, true), [5, 7, 4]⟩,
   ⟨some 20, .pick (.t 15) (.t 19) (.c (.pv (.bool false))), none, [4, 8]⟩])
  (.cond (.t 20)
   .skip
   (.exit 0)))
  (.seq (.block 1
   (.seq (.ops [
     ⟨some 23, .mv (.t 0), none, []⟩,
     ⟨some 24, .mv (.t 8), none, []⟩,
     ⟨some 25, .idxAddr 1 (.t 23) (.t 24), none, [0, 1]⟩,
     ⟨some 26, .load false 1 (.t 25), none, [2]⟩,
     ⟨some 27, .bin .rem none (.t 26) (.c (.pv (.int .u8 128))), none, [3]⟩,
     ⟨some 28, .conv .u64 (.t 27), none, [4]⟩,
     ⟨some 9, .mv (.t 28), none, [5, 0, 1, 2, 3, 4, 5]⟩])
    (.seq (.seq (.ops [
     ⟨some 29, .mv (.t 8), none, []⟩,
     ⟨some 30, .mv (.t 1), none, []⟩,
     ⟨some 31, .bin .add none (.t 30) (.c (.pv (.int .i64 9))), none, [1]⟩,
     ⟨some 32, .bin .eql none (.t 29) (.t 31), none, [0, 2]⟩,
     ⟨some 33, .mv (.t 32), none, [3]⟩,
     ⟨some 34, .mv (.t 9), some (33, true), [4]⟩,
     ⟨some 35, .bin .gtr none (.t 34) (.c (.pv (.int .u64 1))), some (33, true), [5, 4]⟩,
     ⟨some 36, .pick (.t 33) (.t 35) (.c (.pv (.bool false))), none, [4, 6]⟩])
    (.cond (.t 36)
     (.seq (.ops [
       ⟨some 4, .mv (.c (.pv (.int .u64 0))), none, []⟩,
       ⟨some 5, .mv (.c (.pv (.int .i64 (-1)))), none, [0, 0]⟩])
      .ret)
     .skip))
    (.seq (.ops [
     ⟨some 37, .mv (.t 6), none, []⟩,
     ⟨some 38, .mv (.t 9), none, []⟩,
     ⟨some 39, .mv (.t 7), none, []⟩,
     ⟨some 40, .bin .mul none (.t 38) (.t 39), none, [1, 2]⟩,
     ⟨some 41, .bin .add none (.t 37) (.t 40), none, [0, 3]⟩,
     ⟨some 6, .mv (.t 41), none, [4, 0, 1, 2, 3, 4]⟩])
    (.seq (.ops [
     ⟨some 42, .mv (.t 7), none, []⟩,
     ⟨some 43, .bin .mul none (.t 42) (.c (.pv (.int .u64 128))), none, [0]⟩,
     ⟨some 7, .mv (.t 43), none, [1, 0, 1]⟩])
    (.seq (.ops [
     ⟨some 44, .mv (.t 0), none, []⟩,
     ⟨some 45, .mv (.t 8), none, []⟩,
     ⟨some 46, .idxAddr 1 (.t 44) (.t 45), none, [0, 1]⟩,
     ⟨some 47, .load false 1 (.t 46), none, [2]⟩,
     ⟨some 48, .bin .lss none (.t 47) (.c (.pv (.int .u8 128))), none, [3]⟩])
    (.cond (.t 48)
     (.seq (.seq (.ops [
       ⟨some 49, .mv (.t 6), none, []⟩,
       ⟨some 50, .call 150 [(.t 49)], none, [0]⟩,
       ⟨some 51, .len (.t 50), none, [1]⟩,
       ⟨some 52, .mv (.t 8), none, []⟩,
       ⟨some 53, .bin .add none (.t 52) (.c (.pv (.int .i64 1))), none, [3]⟩,
       ⟨some 54, .mv (.t 1), none, []⟩,
       ⟨some 55, .bin .sub none (.t 53) (.t 54), none, [4, 5]⟩,
       ⟨some 56, .bin .neq none (.t 51) (.t 55), none, [2, 6]⟩])
      (.cond (.t 56)
       (.seq (.ops [
         ⟨some 4, .mv (.c (.pv (.int .u64 0))), none, []⟩,
         ⟨some 5, .mv (.c (.pv (.int .i64 (-1)))), none, [0, 0]⟩])
        .ret)
       .skip))
      (.seq (.ops [
       ⟨some 57, .mv (.t 6), none, []⟩,
       ⟨some 58, .mv (.t 8), none, []⟩,
       ⟨some 59, .bin .add none (.t 58) (.c (.pv (.int .i64 1))), none, [1]⟩,
       ⟨some 4, .mv (.t 57), none, [0, 0]⟩,
       ⟨some 5, .mv (.t 59), none, [2, 3, 0, 1, 2, 3]⟩])
      .ret))
     .skip)))))))
  (.ops [
   ⟨some 21, .mv (.t 8), none, []⟩,
   ⟨some 22, .bin .add none (.t 21) (.c (.pv (.int .i64 1))), none, [0]⟩,
   ⟨some 8, .mv (.t 22), none, [1, 0, 1]⟩])))
/-- dunnage/dunnageref02.one -/
def f149 : AFunc := ⟨60, [.t 4, .t 5],
 (.seq (.ops [
   ⟨some 4, .mv (.c (.pv (.int .u64 0))), none, []⟩,
   ⟨some 5, .mv (.c (.pv (.int .i64 0))), none, [0]⟩])
  (.seq (.ops [
   ⟨some 6, .mv (.c (.pv (.int .u64 0))), none, []⟩])
  (.seq (.ops [
   ⟨some 7, .mv (.c (.pv (.int .u64 1))), none, []⟩])
  (.seq (.seq (.ops [
   ⟨some 10, .mv (.t 1), none, []⟩,
   ⟨some 8, .mv (.t 10), none, [0, 0]⟩])
  (.block 0
   (.loop f149l0)))
  (.seq (.ops [
   ⟨some 4, .mv (.c (.pv (.int .u64 0))), none, []⟩,
   ⟨some 5, .mv (.c (.pv (.int .i64 (-1)))), none, [0, 0]⟩])
  .ret)))))⟩

def f150l0 : ACode :=
 (.seq (.seq (.ops [
   ⟨some 4, .mv (.t 0), none, []⟩,
   ⟨some 5, .bin .gtr none (.t 4) (.c (.pv (.int .u64 127))), none, [0]⟩])
  (.cond (.t 5)
   .skip
   (.exit 0)))
  (.block 1
   (.seq (.ops [
     ⟨some 6, .mv (.t 3), none, []⟩,
     ⟨some 7, .mv (.t 0), none, []⟩,
     ⟨some 8, .bin .rem none (.t 7) (.c (.pv (.int .u64 128))), none, [1]⟩,
     ⟨some 9, .conv .u8 (.t 8), none, [2]⟩,
     ⟨some 10, .bin .add none (.t 9) (.c (.pv (.int .u8 128))), none, [3]⟩,
     ⟨some 11, .bslice 1 1 [(.pv (.int .u8 0))] [(0, 1, (.t 10))], none, [4]⟩,
     ⟨some 12, .append 1 1 (.t 6) (.t 11), none, [0, 5]⟩,
     ⟨some 3, .mv (.t 12), none, [6, 6, 0, 1, 2, 3, 4, 5, 6]⟩])
    (.ops [
     ⟨some 13, .mv (.t 0), none, []⟩,
     ⟨some 14, .bin .quo none (.t 13) (.c (.pv (.int .u64 128))), none, [0]⟩,
     ⟨some 0, .mv (.t 14), none, [1, 0, 1]⟩]))))
/-- dunnage/dunnageref02.put -/
def f150 : AFunc := ⟨20, [.t 2],
 (.seq (.ops [
   ⟨some 2, .mv (.c .nils), none, []⟩])
  (.seq (.ops [
   ⟨some 3, .mv (.c .nils), none, []⟩])
  (.seq (.block 0
   (.loop f150l0))
  (.seq (.ops [
   ⟨some 15, .mv (.t 3), none, []⟩,
   ⟨some 16, .mv (.t 0), none, []⟩,
   ⟨some 17, .conv .u8 (.t 16), none, [1]⟩,
   ⟨some 18, .bslice 1 1 [(.pv (.int .u8 0))] [(0, 1, (.t 17))], none, [2]⟩,
   ⟨some 19, .append 1 1 (.t 15) (.t 18), none, [0, 3]⟩,
   ⟨some 2, .mv (.t 19), none, [4, 4, 0, 1, 2, 3, 4]⟩])
  .ret))))⟩

def f262l0 : ACode :=
 (.seq (.seq (.ops [
   ⟨some 9, .mv (.t 5), none, []⟩,
   ⟨some 10, .mv (.t 0), none, []⟩,
   ⟨some 11, .len (.t 10), none, [1]⟩,
   ⟨some 12, .bin .lss none (.t 9) (.t 11), none, [0, 2]⟩])
  (.cond (.t 12)
   .skip
   (.exit 0)))
  (.block 1
   (.seq (.ops [
     ⟨some 14, .mv (.t 0), none, []⟩,
     ⟨some 15, .mv (.t 5), none, []⟩,
     ⟨some 16, .call 265 [(.t 14), (.t 15)], none, [0, 1]⟩,
     ⟨some 13, .mv (.t 16), none, [2]⟩,
     ⟨some 17, .extract (.t 13) 0, none, [3]⟩,
     ⟨some 18, .extract (.t 13) 1, none, [3]⟩,
     ⟨some 19, .extract (.t 13) 2, none, [3]⟩,
     ⟨some 6, .mv (.t 17), none, [4, 2, 0, 1, 2, 3, 4]⟩,
     ⟨some 7, .mv (.t 18), none, [5, 7, 0, 1, 2, 3, 4, 5, 7]⟩,
     ⟨some 8, .mv (.t 19), none, [6, 8, 0, 1, 2, 3, 4, 5, 6, 7, 8]⟩])
    (.seq (.seq (.ops [
     ⟨some 20, .mv (.t 8), none, []⟩,
     ⟨some 21, .not (.t 20), none, [0]⟩])
    (.cond (.t 21)
     (.seq (.ops [
       ⟨some 22, .mv (.t 5), none, []⟩,
       ⟨some 23, .build [(.pv (.int .i64 0)), (.pv (.int .i64 0))] [(0, 1, (.t 22)), (1, 1, (.c (.pv (.int .i64 2))))], none, [0]⟩,
       ⟨some 24, .box (.t 23), none, [1]⟩,
       ⟨some 25, .mkI 1 (.t 24), none, [2]⟩,
       ⟨some 2, .mv (.c .nils), none, []⟩,
       ⟨some 3, .mv (.t 25), none, [3, 4, 0, 1, 2, 3, 4]⟩])
      .ret)
     .skip))
    (.ops [
     ⟨some 26, .mv (.t 4), none, []⟩,
     ⟨some 27, .mv (.t 6), none, []⟩,
     ⟨some 28, .bslice 1 1 [(.pv (.int .u64 0))] [(0, 1, (.t 27))], none, [1]⟩,
     ⟨some 29, .append 1 8 (.t 26) (.t 28), none, [0, 2]⟩,
     ⟨some 30, .mv (.t 7), none, []⟩,
     ⟨some 4, .mv (.t 29), none, [3, 3, 0, 1, 2, 3]⟩,
     ⟨some 5, .mv (.t 30), none, [4, 5, 0, 1, 2, 3, 4, 5]⟩])))))
/-- dunnage/wire.All -/
def f262 : AFunc := ⟨32, [.t 2, .t 3],
 (.seq (.ops [
   ⟨some 2, .mv (.c .nils), none, []⟩,
   ⟨some 3, .mv (.c (.pv .nili)), none, [0]⟩])
  (.seq (.ops [
   ⟨some 4, .mv (.c .nils), none, []⟩])
  (.seq (.seq (.ops [
   ⟨some 5, .mv (.c (.pv (.int .i64 0))), none, []⟩])
  (.block 0
   (.loop f262l0)))
  (.seq (.ops [
   ⟨some 31, .mv (.t 4), none, []⟩,
   ⟨some 2, .mv (.t 31), none, [0, 0]⟩,
   ⟨some 3, .mv (.c (.pv .nili)), none, [1, 0, 1]⟩])
  .ret))))⟩

def f263l0 : ACode :=
 (.seq (.seq (.ops [
   ⟨some 12, .mv (.t 7), none, []⟩,
   ⟨some 13, .len (.t 12), none, [0]⟩,
   ⟨some 14, .mv (.t 1), none, []⟩,
   ⟨some 15, .bin .lss none (.t 13) (.t 14), none, [1, 2]⟩])
  (.cond (.t 15)
   .skip
   (.exit 0)))
  (.block 1
   (.seq (.ops [
     ⟨some 17, .mv (.t 0), none, []⟩,
     ⟨some 18, .mv (.t 8), none, []⟩,
     ⟨some 19, .call 265 [(.t 17), (.t 18)], none, [0, 1]⟩,
     ⟨some 16, .mv (.t 19), none, [2]⟩,
     ⟨some 20, .extract (.t 16) 0, none, [3]⟩,
     ⟨some 21, .extract (.t 16) 1, none, [3]⟩,
     ⟨some 22, .extract (.t 16) 2, none, [3]⟩,
     ⟨some 9, .mv (.t 20), none, [4, 2, 0, 1, 2, 3, 4]⟩,
     ⟨some 10, .mv (.t 21), none, [5, 7, 0, 1, 2, 3, 4, 5, 7]⟩,
     ⟨some 11, .mv (.t 22), none, [6, 8, 0, 1, 2, 3, 4, 5, 6, 7, 8]⟩])
    (.seq (.seq (.ops [
     ⟨some 23, .mv (.t 11), none, []⟩,
     ⟨some 24, .not (.t 23), none, [0]⟩])
    (.cond (.t 24)
     (.seq (.ops [
       ⟨some 25, .mv (.t 8), none, []⟩,
       ⟨some 26, .build [(.pv (.int .i64 0)), (.pv (.int .i64 0))] [(0, 1, (.t 25)), (1, 1, (.c (.pv (.int .i64 2))))], none, [0]⟩,
       ⟨some 27, .box (.t 26), none, [1]⟩,
       ⟨some 28, .mkI 1 (.t 27), none, [2]⟩,
       ⟨some 4, .mv (.c .nils), none, []⟩,
       ⟨some 5, .mv (.c (.pv (.int .i64 0))), none, [4, 4]⟩,
       ⟨some 6, .mv (.t 28), none, [3, 5, 0, 1, 2, 3, 4, 5]⟩])
      .ret)
     .skip))
    (.ops [
     ⟨some 29, .mv (.t 7), none, []⟩,
     ⟨some 30, .mv (.t 9), none, []⟩,
     ⟨some 31, .bslice 1 1 [(.pv (.int .u64 0))] [(0, 1, (.t 30))], none, [1]⟩,
     ⟨some 32, .append 1 8 (.t 29) (.t 31), none, [0, 2]⟩,
     ⟨some 33, .mv (.t 10), none, []⟩,
     ⟨some 7, .mv (.t 32), none, [3, 3, 0, 1, 2, 3]⟩,
     ⟨some 8, .mv (.t 33), none, [4, 5, 0, 1, 2, 3, 4, 5]⟩])))))
/-- dunnage/wire.Get -/
def f263 : AFunc := ⟨36, [.t 4, .t 5, .t 6],
 (.seq (.ops [
   ⟨some 4, .mv (.c .nils), none, []⟩,
   ⟨some 5, .mv (.c (.pv (.int .i64 0))), none, [0]⟩,
   ⟨some 6, .mv (.c (.pv .nili)), none, [1]⟩])
  (.seq (.ops [
   ⟨some 7, .mv (.c .nils), none, []⟩])
  (.seq (.ops [
   ⟨some 8, .mv (.c (.pv (.int .i64 0))), none, []⟩])
  (.seq (.block 0
   (.loop f263l0))
  (.seq (.ops [
   ⟨some 34, .mv (.t 7), none, []⟩,
   ⟨some 35, .mv (.t 8), none, []⟩,
   ⟨some 4, .mv (.t 34), none, [0, 0]⟩,
   ⟨some 5, .mv (.t 35), none, [1, 2, 0, 1, 2]⟩,
   ⟨some 6, .mv (.c (.pv .nili)), none, [3, 0, 1, 2, 3]⟩])
  .ret)))))⟩

def f264l0 : ACode :=
 (.seq (.seq (.ops [
   ⟨some 12, .mv (.t 5), none, []⟩,
   ⟨some 13, .bin .geq none (.t 12) (.c (.pv (.int .u64 128))), none, [0]⟩])
  (.cond (.t 13)
   .skip
   (.exit 2)))
  (.seq (.block 3
   (.ops [
     ⟨some 16, .mv (.t 3), none, []⟩,
     ⟨some 17, .mv (.t 5), none, []⟩,
     ⟨some 18, .conv .u8 (.t 17), none, [1]⟩,
     ⟨some 19, .bin .or none (.t 18) (.c (.pv (.int .u8 128))), none, [2]⟩,
     ⟨some 20, .bslice 1 1 [(.pv (.int .u8 0))] [(0, 1, (.t 19))], none, [3]⟩,
     ⟨some 21, .append 1 1 (.t 16) (.t 20), none, [0, 4]⟩,
     ⟨some 3, .mv (.t 21), none, [5, 5, 0, 1, 2, 3, 4, 5]⟩]))
  (.ops [
   ⟨some 14, .mv (.t 5), none, []⟩,
   ⟨some 15, .bin .shr none (.t 14) (.c (.pv (.int .u64 7))), none, [0]⟩,
   ⟨some 5, .mv (.t 15), none, [1, 0, 1]⟩])))
def f264l1 : ACode :=
 (.seq (.ops [
   ⟨some 9, .bin .lss none (.t 8) (.t 7), none, []⟩])
  (.seq (.cond (.t 9)
   .skip
   (.exit 0))
  (.seq (.block 1
   (.seq (.ops [
     ⟨some 10, .idxAddr 1 (.t 6) (.t 8), none, []⟩,
     ⟨some 11, .load false 1 (.t 10), none, [0]⟩,
     ⟨some 5, .mv (.t 11), none, [1, 0, 1]⟩])
    (.seq (.block 2
     (.loop f264l0))
    (.ops [
     ⟨some 22, .mv (.t 3), none, []⟩,
     ⟨some 23, .mv (.t 5), none, []⟩,
     ⟨some 24, .conv .u8 (.t 23), none, [1]⟩,
     ⟨some 25, .bslice 1 1 [(.pv (.int .u8 0))] [(0, 1, (.t 24))], none, [2]⟩,
     ⟨some 26, .append 1 1 (.t 22) (.t 25), none, [0, 3]⟩,
     ⟨some 3, .mv (.t 26), none, [4, 4, 0, 1, 2, 3, 4]⟩]))))
  (.ops [
   ⟨some 27, .bin .add none (.t 8) (.c (.pv (.int .i64 1))), none, []⟩,
   ⟨some 8, .mv (.t 27), none, [0]⟩]))))
/-- dunnage/wire.Put -/
def f264 : AFunc := ⟨29, [.t 2],
 (.seq (.ops [
   ⟨some 2, .mv (.c .nils), none, []⟩])
  (.seq (.ops [
   ⟨some 3, .mv (.c .nils), none, []⟩])
  (.seq (.seq (.ops [
   ⟨some 6, .mv (.t 0), none, []⟩,
   ⟨some 7, .len (.t 6), none, [0]⟩,
   ⟨some 8, .mv (.c (.pv (.int .i64 0))), none, []⟩])
  (.block 0
   (.loop f264l1)))
  (.seq (.ops [
   ⟨some 28, .mv (.t 3), none, []⟩,
   ⟨some 2, .mv (.t 28), none, [0, 0]⟩])
  .ret))))⟩

def f265l0 : ACode :=
 (.seq (.seq (.ops [
   ⟨some 12, .mv (.t 8), none, []⟩,
   ⟨some 13, .mv (.t 0), none, []⟩,
   ⟨some 14, .len (.t 13), none, [1]⟩,
   ⟨some 15, .bin .lss none (.t 12) (.t 14), none, [0, 2]⟩])
  (.cond (.t 15)
   .skip
   (.exit 0)))
  (.seq (.block 1
   (.seq (.ops [
     ⟨some 20, .mv (.t 0), none, []⟩,
     ⟨some 21, .mv (.t 8), none, []⟩,
     ⟨some 22, .idxAddr 1 (.t 20) (.t 21), none, [0, 1]⟩,
     ⟨some 23, .load false 1 (.t 22), none, [2]⟩,
     ⟨some 24, .conv .u64 (.t 23), none, [3]⟩,
     ⟨some 10, .mv (.t 24), none, [4, 0, 1, 2, 3, 4]⟩])
    (.seq (.seq (.ops [
     ⟨some 25, .mv (.t 9), none, []⟩,
     ⟨some 26, .bin .eql none (.t 25) (.c (.pv (.int .i64 63))), none, [0]⟩,
     ⟨some 27, .mv (.t 26), none, [1]⟩,
     ⟨some 28, .mv (.t 10), some (27, true), [2]⟩,
     ⟨some 29, .bin .gtr none (.t 28) (.c (.pv (.int .u64 1))), some (27, true), [3, 2]⟩,
     ⟨some 30, .pick (.t 27) (.t 29) (.c (.pv (.bool false))), none, [2, 4]⟩,
     ⟨some 31, .mv (.t 30), none, [5, 2]⟩,
     ⟨some 32, .mv (.t 8), some (31, false), [6]⟩,
     ⟨some 33, .mv (.t 1), some (31, false), [6]⟩,
     ⟨some 34, .bin .gtr none (.t 32) (.t 33), some (31, false), [7, 8, 6]⟩,
     ⟨some 35, .mv (.t 34), some (31, false), [9, 6, 6]⟩,
     ⟨some 36, .mv (.t 10), some (35, true), [10]⟩,
     ⟨some 37, .bin .eql none (.t 36) (.c (.pv (.int .u64 0))), some (35, true), [11, 10]⟩,
     ⟨some 38, .pick (.t 35) (.t 37) (.c (.pv (.bool false))), some (31, false), [10, 12, 6]⟩,
     ⟨some 39, .pick (.t 31) (.c (.pv (.bool true))) (.t 38), none, [6, 13]⟩])
    (.cond (.t 39)
     (.seq (.ops [
       ⟨some 4, .mv (.c (.pv (.int .u64 0))), none, []⟩,
       ⟨some 5, .mv (.c (.pv (.int .i64 0))), none, [0, 0]⟩,
       ⟨some 6, .mv (.c (.pv (.bool false))), none, [1, 0, 1]⟩])
      .ret)
     .skip))
    (.seq (.ops [
     ⟨some 40, .mv (.t 7), none, []⟩,
     ⟨some 41, .mv (.t 10), none, []⟩,
     ⟨some 42, .bin .andNot none (.t 41) (.c (.pv (.int .u64 128))), none, [1]⟩,
     ⟨some 43, .mv (.t 9), none, []⟩,
     ⟨some 44, .bin .shl none (.t 42) (.t 43), none, [2, 3]⟩,
     ⟨some 45, .bin .or none (.t 40) (.t 44), none, [0, 4]⟩,
     ⟨some 7, .mv (.t 45), none, [5, 0, 1, 2, 3, 4, 5]⟩])
    (.seq (.ops [
     ⟨some 46, .mv (.t 10), none, []⟩,
     ⟨some 47, .bin .lss none (.t 46) (.c (.pv (.int .u64 128))), none, [0]⟩])
    (.cond (.t 47)
     (.seq (.ops [
       ⟨some 48, .mv (.t 7), none, []⟩,
       ⟨some 49, .mv (.t 8), none, []⟩,
       ⟨some 50, .bin .add none (.t 49) (.c (.pv (.int .i64 1))), none, [1]⟩,
       ⟨some 4, .mv (.t 48), none, [0, 0]⟩,
       ⟨some 5, .mv (.t 50), none, [2, 3, 0, 1, 2, 3]⟩,
       ⟨some 6, .mv (.c (.pv (.bool true))), none, [4, 0, 1, 2, 3, 4]⟩])
      .ret)
     .skip))))))
  (.ops [
   ⟨some 16, .mv (.t 8), none, []⟩,
   ⟨some 17, .bin .add none (.t 16) (.c (.pv (.int .i64 1))), none, [0]⟩,
   ⟨some 18, .mv (.t 9), none, []⟩,
   ⟨some 19, .bin .add none (.t 18) (.c (.pv (.int .i64 7))), none, [2]⟩,
   ⟨some 8, .mv (.t 17), none, [1, 0, 1]⟩,
   ⟨some 9, .mv (.t 19), none, [3, 4, 0, 1, 2, 3, 4]⟩])))
/-- dunnage/wire.one -/
def f265 : AFunc := ⟨51, [.t 4, .t 5, .t 6],
 (.seq (.ops [
   ⟨some 4, .mv (.c (.pv (.int .u64 0))), none, []⟩,
   ⟨some 5, .mv (.c (.pv (.int .i64 0))), none, [0]⟩,
   ⟨some 6, .mv (.c (.pv (.bool false))), none, [1]⟩])
  (.seq (.ops [
   ⟨some 7, .mv (.c (.pv (.int .u64 0))), none, []⟩])
  (.seq (.seq (.ops [
   ⟨some 11, .mv (.t 1), none, []⟩,
   ⟨some 8, .mv (.t 11), none, [0, 0]⟩,
   ⟨some 9, .mv (.c (.pv (.int .i64 0))), none, [1, 0, 1]⟩])
  (.block 0
   (.loop f265l0)))
  (.seq (.ops [
   ⟨some 4, .mv (.c (.pv (.int .u64 0))), none, []⟩,
   ⟨some 5, .mv (.c (.pv (.int .i64 0))), none, [0, 0]⟩,
   ⟨some 6, .mv (.c (.pv (.bool false))), none, [1, 0, 1]⟩])
  .ret))))⟩

/-- dunnage/dunnagelaw02.WirePuts -/
def f327 : AFunc := ⟨19, [.t 2],
 (.seq (.ops [
   ⟨some 2, .mv (.c (.pv (.bool false))), none, []⟩])
  (.seq (.ops [
   ⟨some 4, .call 339 [], none, []⟩,
   ⟨some 3, .mv (.t 4), none, [0, 0, 0]⟩])
  (.seq (.seq (.ops [
   ⟨some 5, .mv (.t 0), none, []⟩,
   ⟨some 6, .len (.t 5), none, [0]⟩,
   ⟨some 7, .bin .gtr none (.t 6) (.c (.pv (.int .i64 1000))), none, [1]⟩])
  (.cond (.t 7)
   (.seq (.ops [
     ⟨some 8, .mv (.t 3), none, []⟩,
     ⟨some 2, .mv (.t 8), none, [0, 0]⟩])
    .ret)
   .skip))
  (.seq (.draw [
   ⟨some 9, .mv (.t 3), none, []⟩,
   ⟨some 10, .mv (.t 9), none, [0]⟩,
   ⟨some 11, .mv (.t 0), some (10, true), [1]⟩,
   ⟨some 12, .call 264 [(.t 11)], some (10, true), [2, 1, 1]⟩,
   ⟨some 13, .b2s (.t 12), some (10, true), [3, 1]⟩,
   ⟨some 14, .mv (.t 0), some (10, true), [1]⟩,
   ⟨some 15, .call 148 [(.t 14)], some (10, true), [5, 3, 1]⟩,
   ⟨some 16, .b2s (.t 15), some (10, true), [6, 1]⟩,
   ⟨some 17, .bin .eql (some .str) (.t 13) (.t 16), some (10, true), [4, 7, 1]⟩,
   ⟨some 18, .pick (.t 10) (.t 17) (.c (.pv (.bool false))), none, [1, 8]⟩,
   ⟨some 2, .mv (.t 18), none, [9, 6, 0, 1, 2, 3, 4, 5, 6, 7, 8, 9]⟩])
  .ret))))⟩

/-- dunnage/dunnagelaw02.WireAlls -/
def f328 : AFunc := ⟨46, [.t 2],
 (.seq (.ops [
   ⟨some 2, .mv (.c (.pv (.bool false))), none, []⟩])
  (.seq (.ops [
   ⟨some 8, .call 339 [], none, []⟩,
   ⟨some 3, .mv (.t 8), none, [0, 0, 0]⟩])
  (.seq (.seq (.ops [
   ⟨some 9, .mv (.t 0), none, []⟩,
   ⟨some 10, .len (.t 9), none, [0]⟩,
   ⟨some 11, .bin .gtr none (.t 10) (.c (.pv (.int .i64 5000))), none, [1]⟩])
  (.cond (.t 11)
   (.seq (.ops [
     ⟨some 12, .mv (.t 3), none, []⟩,
     ⟨some 2, .mv (.t 12), none, [0, 0]⟩])
    .ret)
   .skip))
  (.seq (.ops [
   ⟨some 14, .mv (.t 0), none, []⟩,
   ⟨some 15, .call 262 [(.t 14)], none, [0]⟩,
   ⟨some 13, .mv (.t 15), none, [1]⟩,
   ⟨some 16, .extract (.t 13) 0, none, [2]⟩,
   ⟨some 17, .extract (.t 13) 1, none, [2]⟩,
   ⟨some 4, .mv (.t 16), none, [3, 1, 0, 1, 2, 3]⟩,
   ⟨some 5, .mv (.t 17), none, [4, 5, 0, 1, 2, 3, 4, 5]⟩])
  (.seq (.ops [
   ⟨some 19, .mv (.t 0), none, []⟩,
   ⟨some 20, .call 146 [(.t 19)], none, [0]⟩,
   ⟨some 18, .mv (.t 20), none, [1]⟩,
   ⟨some 21, .extract (.t 18) 0, none, [2]⟩,
   ⟨some 22, .extract (.t 18) 1, none, [2]⟩,
   ⟨some 6, .mv (.t 21), none, [3, 1, 0, 1, 2, 3]⟩,
   ⟨some 7, .mv (.t 22), none, [4, 5, 0, 1, 2, 3, 4, 5]⟩])
  (.seq (.seq (.ops [
   ⟨some 23, .mv (.t 7), none, []⟩,
   ⟨some 24, .bin .geq none (.t 23) (.c (.pv (.int .i64 0))), none, [0]⟩])
  (.cond (.t 24)
   (.seq (.ops [
     ⟨some 25, .mv (.t 3), none, []⟩,
     ⟨some 26, .mv (.t 25), none, [0]⟩,
     ⟨some 27, .mv (.t 5), some (26, true), [1]⟩,
     ⟨some 28, .mv (.t 7), some (26, true), [1]⟩,
     ⟨some 29, .call 103 [(.t 27), (.t 28), (.c (.pv (.int .i64 2)))], some (26, true), [2, 3, 1, 1]⟩,
     ⟨some 30, .pick (.t 26) (.t 29) (.c (.pv (.bool false))), none, [1, 4]⟩,
     ⟨some 31, .mv (.t 30), none, [5, 4]⟩,
     ⟨some 32, .mv (.t 4), some (31, true), [6]⟩,
     ⟨some 33, .len (.t 32), some (31, true), [7, 6]⟩,
     ⟨some 34, .bin .eql none (.t 33) (.c (.pv (.int .i64 0))), some (31, true), [8, 6]⟩,
     ⟨some 35, .pick (.t 31) (.t 34) (.c (.pv (.bool false))), none, [6, 9]⟩,
     ⟨some 2, .mv (.t 35), none, [10, 6, 0, 1, 2, 3, 4, 5, 6, 7, 8, 9, 10]⟩])
    .ret)
   .skip))
  (.seq (.ops [
   ⟨some 36, .mv (.t 3), none, []⟩,
   ⟨some 37, .mv (.t 36), none, [0]⟩,
   ⟨some 38, .mv (.t 5), some (37, true), [1]⟩,
   ⟨some 39, .bin .eql (some (.iface true)) (.t 38) (.c (.pv .nili)), some (37, true), [2, 1]⟩,
   ⟨some 40, .pick (.t 37) (.t 39) (.c (.pv (.bool false))), none, [1, 3]⟩,
   ⟨some 41, .mv (.t 40), none, [4, 1]⟩,
   ⟨some 42, .mv (.t 4), some (41, true), [5]⟩,
   ⟨some 43, .mv (.t 6), some (41, true), [5]⟩,
   ⟨some 44, .call 340 [(.t 42), (.t 43)], some (41, true), [6, 7, 5, 5]⟩,
   ⟨some 45, .pick (.t 41) (.t 44) (.c (.pv (.bool false))), none, [5, 8]⟩,
   ⟨some 2, .mv (.t 45), none, [9, 8, 0, 1, 2, 3, 4, 5, 6, 7, 8, 9]⟩])
  .ret)))))))⟩

/-- dunnage/dunnagelaw02.WireBack -/
def f329 : AFunc := ⟨61, [.t 4],
 (.seq (.ops [
   ⟨some 4, .mv (.c (.pv (.bool false))), none, []⟩])
  (.seq (.ops [
   ⟨some 11, .call 339 [], none, []⟩,
   ⟨some 5, .mv (.t 11), none, [0, 0, 0]⟩])
  (.seq (.seq (.ops [
   ⟨some 12, .mv (.t 0), none, []⟩,
   ⟨some 13, .len (.t 12), none, [0]⟩,
   ⟨some 14, .bin .gtr none (.t 13) (.c (.pv (.int .i64 1000))), none, [1]⟩,
   ⟨some 15, .mv (.t 14), none, [2]⟩,
   ⟨some 16, .mv (.t 1), some (15, false), [3]⟩,
   ⟨some 17, .len (.t 16), some (15, false), [4, 3]⟩,
   ⟨some 18, .bin .gtr none (.t 17) (.c (.pv (.int .i64 5000))), some (15, false), [5, 3]⟩,
   ⟨some 19, .pick (.t 15) (.c (.pv (.bool true))) (.t 18), none, [3, 6]⟩])
  (.cond (.t 19)
   (.seq (.ops [
     ⟨some 20, .mv (.t 5), none, []⟩,
     ⟨some 4, .mv (.t 20), none, [0, 0]⟩])
    .ret)
   .skip))
  (.seq (.ops [
   ⟨some 22, .mv (.t 0), none, []⟩,
   ⟨some 23, .call 264 [(.t 22)], none, [0]⟩,
   ⟨some 24, .call 262 [(.t 23)], none, [1, 1]⟩,
   ⟨some 21, .mv (.t 24), none, [2]⟩,
   ⟨some 25, .extract (.t 21) 0, none, [3]⟩,
   ⟨some 26, .extract (.t 21) 1, none, [3]⟩,
   ⟨some 6, .mv (.t 25), none, [4, 2, 0, 1, 2, 3, 4]⟩,
   ⟨some 7, .mv (.t 26), none, [5, 6, 0, 1, 2, 3, 4, 5, 6]⟩])
  (.seq (.seq (.ops [
   ⟨some 27, .mv (.t 7), none, []⟩,
   ⟨some 28, .bin .neq (some (.iface true)) (.t 27) (.c (.pv .nili)), none, [0]⟩,
   ⟨some 29, .mv (.t 28), none, [1]⟩,
   ⟨some 30, .mv (.t 6), some (29, false), [2]⟩,
   ⟨some 31, .mv (.t 0), some (29, false), [2]⟩,
   ⟨some 32, .call 340 [(.t 30), (.t 31)], some (29, false), [3, 4, 2, 2]⟩,
   ⟨some 33, .not (.t 32), some (29, false), [5, 2]⟩,
   ⟨some 34, .pick (.t 29) (.c (.pv (.bool true))) (.t 33), none, [2, 6]⟩])
  (.cond (.t 34)
   (.seq (.ops [
     ⟨some 4, .mv (.c (.pv (.bool false))), none, []⟩])
    .ret)
   .skip))
  (.seq (.ops [
   ⟨some 35, .bslice 1 0 [] [], none, []⟩,
   ⟨some 36, .mv (.t 1), none, []⟩,
   ⟨some 37, .append 1 1 (.t 35) (.t 36), none, [0, 1]⟩,
   ⟨some 8, .mv (.t 37), none, [2, 2, 0, 1, 2]⟩])
  (.seq (.ops [
   ⟨some 39, .mv (.t 8), none, []⟩,
   ⟨some 40, .call 262 [(.t 39)], none, [0]⟩,
   ⟨some 38, .mv (.t 40), none, [1]⟩,
   ⟨some 41, .extract (.t 38) 0, none, [2]⟩,
   ⟨some 42, .extract (.t 38) 1, none, [2]⟩,
   ⟨some 9, .mv (.t 41), none, [3, 1, 0, 1, 2, 3]⟩,
   ⟨some 10, .mv (.t 42), none, [4, 5, 0, 1, 2, 3, 4, 5]⟩])
  (.seq (.seq (.ops [
   ⟨some 43, .mv (.t 8), none, []⟩,
   ⟨some 44, .b2s (.t 43), none, [0]⟩,
   ⟨some 45, .mv (.t 1), none, []⟩,
   ⟨some 46, .b2s (.t 45), none, [2]⟩,
   ⟨some 47, .bin .neq (some .str) (.t 44) (.t 46), none, [1, 3]⟩])
  (.cond (.t 47)
   (.seq (.ops [
     ⟨some 4, .mv (.c (.pv (.bool false))), none, []⟩])
    .ret)
   .skip))
  (.seq (.draw [
   ⟨some 48, .mv (.t 5), none, []⟩,
   ⟨some 49, .mv (.t 48), none, [0]⟩,
   ⟨some 50, .mv (.t 10), some (49, true), [1]⟩,
   ⟨some 51, .bin .neq (some (.iface true)) (.t 50) (.c (.pv .nili)), some (49, true), [2, 1]⟩,
   ⟨some 52, .mv (.t 51), some (49, true), [3, 1, 1]⟩,
   ⟨some 53, .mv (.t 9), some (52, false), [4]⟩,
   ⟨some 54, .call 264 [(.t 53)], some (52, false), [5, 4, 4]⟩,
   ⟨some 55, .b2s (.t 54), some (52, false), [6, 4]⟩,
   ⟨some 56, .mv (.t 1), some (52, false), [4]⟩,
   ⟨some 57, .b2s (.t 56), some (52, false), [8, 4]⟩,
   ⟨some 58, .bin .eql (some .str) (.t 55) (.t 57), some (52, false), [7, 9, 4]⟩,
   ⟨some 59, .pick (.t 52) (.c (.pv (.bool true))) (.t 58), some (49, true), [4, 10, 1]⟩,
   ⟨some 60, .pick (.t 49) (.t 59) (.c (.pv (.bool false))), none, [1, 11]⟩,
   ⟨some 4, .mv (.t 60), none, [12, 6, 0, 1, 2, 3, 4, 5, 6, 7, 8, 9, 10, 11, 12]⟩])
  .ret)))))))))⟩

/-- dunnage/dunnagelaw02.WireGets -/
def f330 : AFunc := ⟨63, [.t 4],
 (.seq (.ops [
   ⟨some 4, .mv (.c (.pv (.bool false))), none, []⟩])
  (.seq (.ops [
   ⟨some 12, .call 339 [], none, []⟩,
   ⟨some 5, .mv (.t 12), none, [0, 0, 0]⟩])
  (.seq (.seq (.ops [
   ⟨some 13, .mv (.t 0), none, []⟩,
   ⟨some 14, .len (.t 13), none, [0]⟩,
   ⟨some 15, .bin .gtr none (.t 14) (.c (.pv (.int .i64 5000))), none, [1]⟩])
  (.cond (.t 15)
   (.seq (.ops [
     ⟨some 16, .mv (.t 5), none, []⟩,
     ⟨some 4, .mv (.t 16), none, [0, 0]⟩])
    .ret)
   .skip))
  (.seq (.ops [
   ⟨some 18, .mv (.t 0), none, []⟩,
   ⟨some 19, .mv (.t 1), none, []⟩,
   ⟨some 20, .call 263 [(.t 18), (.t 19)], none, [0, 1]⟩,
   ⟨some 17, .mv (.t 20), none, [2]⟩,
   ⟨some 21, .extract (.t 17) 0, none, [3]⟩,
   ⟨some 22, .extract (.t 17) 1, none, [3]⟩,
   ⟨some 23, .extract (.t 17) 2, none, [3]⟩,
   ⟨some 6, .mv (.t 21), none, [4, 2, 0, 1, 2, 3, 4]⟩,
   ⟨some 7, .mv (.t 22), none, [5, 7, 0, 1, 2, 3, 4, 5, 7]⟩,
   ⟨some 8, .mv (.t 23), none, [6, 8, 0, 1, 2, 3, 4, 5, 6, 7, 8]⟩])
  (.seq (.ops [
   ⟨some 25, .mv (.t 0), none, []⟩,
   ⟨some 26, .mv (.t 1), none, []⟩,
   ⟨some 27, .call 147 [(.t 25), (.t 26)], none, [0, 1]⟩,
   ⟨some 24, .mv (.t 27), none, [2]⟩,
   ⟨some 28, .extract (.t 24) 0, none, [3]⟩,
   ⟨some 29, .extract (.t 24) 1, none, [3]⟩,
   ⟨some 30, .extract (.t 24) 2, none, [3]⟩,
   ⟨some 9, .mv (.t 28), none, [4, 2, 0, 1, 2, 3, 4]⟩,
   ⟨some 10, .mv (.t 29), none, [5, 7, 0, 1, 2, 3, 4, 5, 7]⟩,
   ⟨some 11, .mv (.t 30), none, [6, 8, 0, 1, 2, 3, 4, 5, 6, 7, 8]⟩])
  (.seq (.seq (.ops [
   ⟨some 31, .mv (.t 11), none, []⟩,
   ⟨some 32, .bin .geq none (.t 31) (.c (.pv (.int .i64 0))), none, [0]⟩])
  (.cond (.t 32)
   (.seq (.ops [
     ⟨some 33, .mv (.t 5), none, []⟩,
     ⟨some 34, .mv (.t 33), none, [0]⟩,
     ⟨some 35, .mv (.t 8), some (34, true), [1]⟩,
     ⟨some 36, .mv (.t 11), some (34, true), [1]⟩,
     ⟨some 37, .call 103 [(.t 35), (.t 36), (.c (.pv (.int .i64 2)))], some (34, true), [2, 3, 1, 1]⟩,
     ⟨some 38, .pick (.t 34) (.t 37) (.c (.pv (.bool false))), none, [1, 4]⟩,
     ⟨some 39, .mv (.t 38), none, [5, 4]⟩,
     ⟨some 40, .mv (.t 6), some (39, true), [6]⟩,
     ⟨some 41, .len (.t 40), some (39, true), [7, 6]⟩,
     ⟨some 42, .bin .eql none (.t 41) (.c (.pv (.int .i64 0))), some (39, true), [8, 6]⟩,
     ⟨some 43, .pick (.t 39) (.t 42) (.c (.pv (.bool false))), none, [6, 9]⟩,
     ⟨some 44, .mv (.t 43), none, [10, 6]⟩,
     ⟨some 45, .mv (.t 7), some (44, true), [11]⟩,
     ⟨some 46, .bin .eql none (.t 45) (.c (.pv (.int .i64 0))), some (44, true), [12, 11]⟩,
     ⟨some 47, .pick (.t 44) (.t 46) (.c (.pv (.bool false))), none, [11, 13]⟩,
     ⟨some 4, .mv (.t 47), none, [14, 11, 0, 1, 2, 3, 4, 5, 6, 7, 8, 9, 10, 11, 12, 13, 14]⟩])
    .ret)
   .skip))
  (.seq (.ops [
   ⟨some 48, .mv (.t 5), none, []⟩,
   ⟨some 49, .mv (.t 48), none, [0]⟩,
   ⟨some 50, .mv (.t 8), some (49, true), [1]⟩,
   ⟨some 51, .bin .eql (some (.iface true)) (.t 50) (.c (.pv .nili)), some (49, true), [2, 1]⟩,
   ⟨some 52, .pick (.t 49) (.t 51) (.c (.pv (.bool false))), none, [1, 3]⟩,
   ⟨some 53, .mv (.t 52), none, [4, 1]⟩,
   ⟨some 54, .mv (.t 7), some (53, true), [5]⟩,
   ⟨some 55, .mv (.t 10), some (53, true), [5]⟩,
   ⟨some 56, .bin .eql none (.t 54) (.t 55), some (53, true), [6, 7, 5]⟩,
   ⟨some 57, .pick (.t 53) (.t 56) (.c (.pv (.bool false))), none, [5, 8]⟩,
   ⟨some 58, .mv (.t 57), none, [9, 5]⟩,
   ⟨some 59, .mv (.t 6), some (58, true), [10]⟩,
   ⟨some 60, .mv (.t 9), some (58, true), [10]⟩,
   ⟨some 61, .call 340 [(.t 59), (.t 60)], some (58, true), [11, 12, 10, 10]⟩,
   ⟨some 62, .pick (.t 58) (.t 61) (.c (.pv (.bool false))), none, [10, 13]⟩,
   ⟨some 4, .mv (.t 62), none, [14, 13, 0, 1, 2, 3, 4, 5, 6, 7, 8, 9, 10, 11, 12, 13, 14]⟩])
  .ret)))))))⟩

/-- dunnage/dunnagelaw02.WireParts -/
def f331 : AFunc := ⟨112, [.t 6],
 (.seq (.ops [
   ⟨some 6, .mv (.c (.pv (.bool false))), none, []⟩])
  (.seq (.ops [
   ⟨some 19, .call 339 [], none, []⟩,
   ⟨some 7, .mv (.t 19), none, [0, 0, 0]⟩])
  (.seq (.seq (.ops [
   ⟨some 20, .mv (.t 0), none, []⟩,
   ⟨some 21, .len (.t 20), none, [0]⟩,
   ⟨some 22, .bin .gtr none (.t 21) (.c (.pv (.int .i64 500))), none, [1]⟩,
   ⟨some 23, .mv (.t 22), none, [2]⟩,
   ⟨some 24, .mv (.t 1), some (23, false), [3]⟩,
   ⟨some 25, .len (.t 24), some (23, false), [4, 3]⟩,
   ⟨some 26, .bin .gtr none (.t 25) (.c (.pv (.int .i64 500))), some (23, false), [5, 3]⟩,
   ⟨some 27, .pick (.t 23) (.c (.pv (.bool true))) (.t 26), none, [3, 6]⟩,
   ⟨some 28, .mv (.t 27), none, [7, 3]⟩,
   ⟨some 29, .mv (.t 2), some (28, false), [8]⟩,
   ⟨some 30, .bin .lss none (.t 29) (.c (.pv (.int .i64 0))), some (28, false), [9, 8]⟩,
   ⟨some 31, .pick (.t 28) (.c (.pv (.bool true))) (.t 30), none, [8, 10]⟩,
   ⟨some 32, .mv (.t 31), none, [11, 8]⟩,
   ⟨some 33, .mv (.t 2), some (32, false), [12]⟩,
   ⟨some 34, .mv (.t 0), some (32, false), [12]⟩,
   ⟨some 35, .len (.t 34), some (32, false), [14, 12]⟩,
   ⟨some 36, .bin .gtr none (.t 33) (.t 35), some (32, false), [13, 15, 12]⟩,
   ⟨some 37, .pick (.t 32) (.c (.pv (.bool true))) (.t 36), none, [12, 16]⟩])
  (.cond (.t 37)
   (.seq (.ops [
     ⟨some 38, .mv (.t 7), none, []⟩,
     ⟨some 6, .mv (.t 38), none, [0, 0]⟩])
    .ret)
   .skip))
  (.seq (.ops [
   ⟨some 39, .bslice 1 0 [] [], none, []⟩,
   ⟨some 40, .mv (.t 0), none, []⟩,
   ⟨some 41, .append 1 8 (.t 39) (.t 40), none, [0, 1]⟩,
   ⟨some 42, .mv (.t 1), none, []⟩,
   ⟨some 43, .append 1 8 (.t 41) (.t 42), none, [2, 3, 2]⟩,
   ⟨some 8, .mv (.t 43), none, [4, 4, 0, 1, 2, 3, 4]⟩])
  (.seq (.ops [
   ⟨some 44, .mv (.t 0), none, []⟩,
   ⟨some 45, .call 264 [(.t 44)], none, [0]⟩,
   ⟨some 9, .mv (.t 45), none, [1, 1, 0, 1]⟩])
  (.seq (.ops [
   ⟨some 46, .mv (.t 1), none, []⟩,
   ⟨some 47, .call 264 [(.t 46)], none, [0]⟩,
   ⟨some 10, .mv (.t 47), none, [1, 1, 0, 1]⟩])
  (.seq (.ops [
   ⟨some 49, .bslice 1 0 [] [], none, []⟩,
   ⟨some 50, .mv (.t 9), none, []⟩,
   ⟨some 51, .append 1 1 (.t 49) (.t 50), none, [0, 1]⟩,
   ⟨some 52, .mv (.t 10), none, []⟩,
   ⟨some 53, .append 1 1 (.t 51) (.t 52), none, [2, 3, 2]⟩,
   ⟨some 54, .mv (.t 0), none, []⟩,
   ⟨some 55, .len (.t 54), none, [5]⟩,
   ⟨some 56, .call 263 [(.t 53), (.t 55)], none, [4, 6, 4]⟩,
   ⟨some 48, .mv (.t 56), none, [7]⟩,
   ⟨some 57, .extract (.t 48) 0, none, [8]⟩,
   ⟨some 58, .extract (.t 48) 1, none, [8]⟩,
   ⟨some 59, .extract (.t 48) 2, none, [8]⟩,
   ⟨some 11, .mv (.t 57), none, [9, 7, 0, 1, 2, 3, 4, 5, 6, 7, 8, 9]⟩,
   ⟨some 12, .mv (.t 58), none, [10, 12, 0, 1, 2, 3, 4, 5, 6, 7, 8, 9, 10, 12]⟩,
   ⟨some 13, .mv (.t 59), none, [11, 13, 0, 1, 2, 3, 4, 5, 6, 7, 8, 9, 10, 11, 12, 13]⟩])
  (.seq (.ops [
   ⟨some 61, .bslice 1 0 [] [], none, []⟩,
   ⟨some 62, .mv (.t 9), none, []⟩,
   ⟨some 63, .append 1 1 (.t 61) (.t 62), none, [0, 1]⟩,
   ⟨some 64, .mv (.t 10), none, []⟩,
   ⟨some 65, .append 1 1 (.t 63) (.t 64), none, [2, 3, 2]⟩,
   ⟨some 66, .call 262 [(.t 65)], none, [4, 4]⟩,
   ⟨some 60, .mv (.t 66), none, [5]⟩,
   ⟨some 67, .extract (.t 60) 0, none, [6]⟩,
   ⟨some 68, .extract (.t 60) 1, none, [6]⟩,
   ⟨some 14, .mv (.t 67), none, [7, 5, 0, 1, 2, 3, 4, 5, 6, 7]⟩,
   ⟨some 15, .mv (.t 68), none, [8, 9, 0, 1, 2, 3, 4, 5, 6, 7, 8, 9]⟩])
  (.seq (.ops [
   ⟨some 70, .mv (.t 9), none, []⟩,
   ⟨some 71, .mv (.t 2), none, []⟩,
   ⟨some 72, .call 263 [(.t 70), (.t 71)], none, [0, 1]⟩,
   ⟨some 69, .mv (.t 72), none, [2]⟩,
   ⟨some 73, .extract (.t 69) 0, none, [3]⟩,
   ⟨some 74, .extract (.t 69) 1, none, [3]⟩,
   ⟨some 75, .extract (.t 69) 2, none, [3]⟩,
   ⟨some 16, .mv (.t 73), none, [4, 2, 0, 1, 2, 3, 4]⟩,
   ⟨some 17, .mv (.t 74), none, [5, 7, 0, 1, 2, 3, 4, 5, 7]⟩,
   ⟨some 18, .mv (.t 75), none, [6, 8, 0, 1, 2, 3, 4, 5, 6, 7, 8]⟩])
  (.seq (.ops [
   ⟨some 76, .mv (.t 7), none, []⟩,
   ⟨some 77, .mv (.t 76), none, [0]⟩,
   ⟨some 78, .mv (.t 13), some (77, true), [1]⟩,
   ⟨some 79, .bin .eql (some (.iface true)) (.t 78) (.c (.pv .nili)), some (77, true), [2, 1]⟩,
   ⟨some 80, .pick (.t 77) (.t 79) (.c (.pv (.bool false))), none, [1, 3]⟩,
   ⟨some 81, .mv (.t 80), none, [4, 1]⟩,
   ⟨some 82, .mv (.t 15), some (81, true), [5]⟩,
   ⟨some 83, .bin .eql (some (.iface true)) (.t 82) (.c (.pv .nili)), some (81, true), [6, 5]⟩,
   ⟨some 84, .pick (.t 81) (.t 83) (.c (.pv (.bool false))), none, [5, 7]⟩,
   ⟨some 85, .mv (.t 84), none, [8, 5]⟩,
   ⟨some 86, .mv (.t 18), some (85, true), [9]⟩,
   ⟨some 87, .bin .eql (some (.iface true)) (.t 86) (.c (.pv .nili)), some (85, true), [10, 9]⟩,
   ⟨some 88, .pick (.t 85) (.t 87) (.c (.pv (.bool false))), none, [9, 11]⟩,
   ⟨some 89, .mv (.t 88), none, [12, 9]⟩,
   ⟨some 90, .mv (.t 12), some (89, true), [13]⟩,
   ⟨some 91, .mv (.t 9), some (89, true), [13]⟩,
   ⟨some 92, .len (.t 91), some (89, true), [15, 13]⟩,
   ⟨some 93, .bin .eql none (.t 90) (.t 92), some (89, true), [14, 16, 13]⟩,
   ⟨some 94, .pick (.t 89) (.t 93) (.c (.pv (.bool false))), none, [13, 17]⟩,
   ⟨some 95, .mv (.t 94), none, [18, 13]⟩,
   ⟨some 96, .mv (.t 11), some (95, true), [19]⟩,
   ⟨some 97, .mv (.t 0), some (95, true), [19]⟩,
   ⟨some 98, .call 340 [(.t 96), (.t 97)], some (95, true), [20, 21, 19, 19]⟩,
   ⟨some 99, .pick (.t 95) (.t 98) (.c (.pv (.bool false))), none, [19, 22]⟩,
   ⟨some 100, .mv (.t 99), none, [23, 22]⟩,
   ⟨some 101, .mv (.t 14), some (100, true), [24]⟩,
   ⟨some 102, .mv (.t 8), some (100, true), [24]⟩,
   ⟨some 103, .call 340 [(.t 101), (.t 102)], some (100, true), [25, 26, 24, 24]⟩,
   ⟨some 104, .pick (.t 100) (.t 103) (.c (.pv (.bool false))), none, [24, 27]⟩,
   ⟨some 105, .mv (.t 104), none, [28, 27]⟩,
   ⟨some 106, .mv (.t 16), some (105, true), [29]⟩,
   ⟨some 107, .mv (.t 0), some (105, true), [29]⟩,
   ⟨some 108, .mv (.t 2), some (105, true), [29]⟩,
   ⟨some 109, .slice 1 (.t 107) none (some (.t 108)), some (105, true), [31, 32, 29]⟩,
   ⟨some 110, .call 340 [(.t 106), (.t 109)], some (105, true), [30, 33, 29, 29]⟩,
   ⟨some 111, .pick (.t 105) (.t 110) (.c (.pv (.bool false))), none, [29, 34]⟩,
   ⟨some 6, .mv (.t 111), none, [35, 34, 0, 1, 2, 3, 4, 5, 6, 7, 8, 9, 10, 11, 12, 13, 14, 15, 16, 17, 18, 19, 20, 21, 22, 23, 24, 25, 26, 27, 28, 29, 30, 31, 32, 33, 34, 35]⟩])
  .ret))))))))))⟩

/-- dunnage/dunnagelaw02.up -/
def f339 : AFunc := ⟨18, [.t 0],
 (.seq (.ops [
   ⟨some 0, .mv (.c (.pv (.bool false))), none, []⟩])
  (.seq (.ops [
   ⟨some 4, .bslice 1 1 [(.pv (.int .u64 0))] [(0, 1, (.c (.pv (.int .u64 300))))], none, []⟩,
   ⟨some 5, .call 264 [(.t 4)], none, [0]⟩,
   ⟨some 1, .mv (.t 5), none, [1, 1, 0, 1]⟩])
  (.seq (.ops [
   ⟨some 7, .bslice 1 3 [(.pv (.int .u8 0)), (.pv (.int .u8 0)), (.pv (.int .u8 0))] [(0, 1, (.c (.pv (.int .u8 1)))), (1, 1, (.c (.pv (.int .u8 128)))), (2, 1, (.c (.pv (.int .u8 0))))], none, []⟩,
   ⟨some 8, .call 262 [(.t 7)], none, [0]⟩,
   ⟨some 6, .mv (.t 8), none, [1]⟩,
   ⟨some 9, .extract (.t 6) 0, none, [2]⟩,
   ⟨some 10, .extract (.t 6) 1, none, [2]⟩,
   ⟨some 2, .mv (.t 9), none, [3, 1, 0, 1, 2, 3]⟩,
   ⟨some 3, .mv (.t 10), none, [4, 5, 0, 1, 2, 3, 4, 5]⟩])
  (.seq (.ops [
   ⟨some 11, .mv (.t 1), none, []⟩,
   ⟨some 12, .b2s (.t 11), none, [0]⟩,
   ⟨some 13, .bin .eql (some .str) (.t 12) (.c (.pv (.str ⟨#[172, 2]⟩))), none, [1]⟩,
   ⟨some 14, .mv (.t 13), none, [2]⟩,
   ⟨some 15, .mv (.t 3), some (14, true), [3]⟩,
   ⟨some 16, .call 103 [(.t 15), (.c (.pv (.int .i64 1))), (.c (.pv (.int .i64 2)))], some (14, true), [4, 3, 3]⟩,
   ⟨some 17, .pick (.t 14) (.t 16) (.c (.pv (.bool false))), none, [3, 5]⟩,
   ⟨some 0, .mv (.t 17), none, [6, 5, 0, 1, 2, 3, 4, 5, 6]⟩])
  .ret))))⟩

def f340l0 : ACode :=
 (.seq (.seq (.ops [
   ⟨some 11, .mv (.t 5), none, []⟩,
   ⟨some 12, .mv (.t 0), none, []⟩,
   ⟨some 13, .len (.t 12), none, [1]⟩,
   ⟨some 14, .bin .lss none (.t 11) (.t 13), none, [0, 2]⟩])
  (.cond (.t 14)
   .skip
   (.exit 0)))
  (.seq (.block 1
   (.seq (.draw [
     ⟨some 17, .mv (.t 0), none, []⟩,
     ⟨some 18, .mv (.t 5), none, []⟩,
     ⟨some 19, .idxAddr 1 (.t 17) (.t 18), none, [0, 1]⟩,
     ⟨some 20, .load false 1 (.t 19), none, [2]⟩,
     ⟨some 21, .mv (.t 1), none, []⟩,
     ⟨some 22, .mv (.t 5), none, []⟩,
     ⟨some 23, .idxAddr 1 (.t 21) (.t 22), none, [4, 5]⟩,
     ⟨some 24, .load false 1 (.t 23), none, [6]⟩,
     ⟨some 25, .bin .neq none (.t 20) (.t 24), none, [3, 7]⟩])
    (.cond (.t 25)
     (.seq (.ops [
       ⟨some 4, .mv (.c (.pv (.bool false))), none, []⟩])
      .ret)
     .skip)))
  (.ops [
   ⟨some 15, .mv (.t 5), none, []⟩,
   ⟨some 16, .bin .add none (.t 15) (.c (.pv (.int .i64 1))), none, [0]⟩,
   ⟨some 5, .mv (.t 16), none, [1, 0, 1]⟩])))
/-- dunnage/dunnageref02.Same -/
def f340 : AFunc := ⟨26, [.t 4],
 (.seq (.ops [
   ⟨some 4, .mv (.c (.pv (.bool false))), none, []⟩])
  (.seq (.seq (.ops [
   ⟨some 6, .mv (.t 0), none, []⟩,
   ⟨some 7, .len (.t 6), none, [0]⟩,
   ⟨some 8, .mv (.t 1), none, []⟩,
   ⟨some 9, .len (.t 8), none, [2]⟩,
   ⟨some 10, .bin .neq none (.t 7) (.t 9), none, [1, 3]⟩])
  (.cond (.t 10)
   (.seq (.ops [
     ⟨some 4, .mv (.c (.pv (.bool false))), none, []⟩])
    .ret)
   .skip))
  (.seq (.seq (.ops [
   ⟨some 5, .mv (.c (.pv (.int .i64 0))), none, []⟩])
  (.block 0
   (.loop f340l0)))
  (.seq (.ops [
   ⟨some 4, .mv (.c (.pv (.bool true))), none, []⟩])
  .ret))))⟩
end Go.Proofs.YtogbpgkefkbffaaDoor.Ab
/- (rn) Layer 2 (wire): bytes of numbers: the plain functions, and contracts of Put. -/
set_option linter.unusedVariables false
set_option linter.unusedSimpArgs false
namespace Go.Proofs.YtogbpgkefkbffaaDoor.Ab
open Go

def u64C (n : Nat) : List PV := [.int .u64 (n : Int)]
def u8C (n : Nat) : List PV := [.int .u8 (n : Int)]
def u64s (l : List Nat) : PV := .slice (l.map u64C)
def bytesP (l : List Nat) : PV := .slice (l.map u8C)
def U64 (l : List Nat) : Prop := ∀ n ∈ l, n < 18446744073709551616
def U8 (l : List Nat) : Prop := ∀ n ∈ l, n < 256
theorem u64C_length (n : Nat) : (u64C n).length = 1 := rfl
theorem u8C_length (n : Nat) : (u8C n).length = 1 := rfl

/-! ### A number's bytes -/
def putN (n : Nat) : List Nat := if n < 128 then [n] else (n % 128 + 128) :: putN (n / 128)
termination_by n
decreasing_by omega
theorem putN_lt {n : Nat} (h : n < 128) : putN n = [n] := by rw [putN, if_pos h]
theorem putN_ge {n : Nat} (h : ¬ n < 128) : putN n = (n % 128 + 128) :: putN (n / 128) := by rw [putN, if_neg h]
def putL : List Nat → List Nat
  | [] => []
  | n :: r => putN n ++ putL r
theorem putL_append (a b : List Nat) : putL (a ++ b) = putL a ++ putL b := by
  induction a with
  | nil => rfl
  | cons n r ih => simp only [List.cons_append, putL, ih, List.append_assoc]
theorem putN_u8 : ∀ n : Nat, U8 (putN n) := by
  intro n
  induction n using Nat.strongRecOn with
  | _ n ih =>
    by_cases h : n < 128
    · rw [putN_lt h]
      intro m hm
      simp at hm
      omega
    · rw [putN_ge h]
      intro m hm
      rcases List.mem_cons.1 hm with rfl | hm
      · omega
      · exact ih (n / 128) (by omega) m hm
theorem putL_u8 : ∀ l : List Nat, U8 (putL l)
  | [] => fun m hm => by simp [putL] at hm
  | n :: r => fun m hm => by
    simp only [putL, List.mem_append] at hm
    rcases hm with hm | hm
    · exact putN_u8 n m hm
    · exact putL_u8 r m hm
theorem putN_ne (n : Nat) : putN n ≠ [] := by
  by_cases h : n < 128
  · rw [putN_lt h]; simp
  · rw [putN_ge h]; simp
/-- How many bytes a number has. -/
theorem putN_len : ∀ (k n : Nat), 128 ^ k ≤ n → n < 128 ^ (k + 1) → (putN n).length = k + 1 := by
  intro k
  induction k with
  | zero =>
    intro n _ h
    rw [putN_lt (by simpa using h)]
    rfl
  | succ k ih =>
    intro n h1 h2
    have h3 : ¬ n < 128 := by
      have : 128 ^ 1 ≤ 128 ^ (k + 1) := Nat.pow_le_pow_right (by omega) (by omega)
      omega
    rw [putN_ge h3, List.length_cons, ih (n / 128)]
    · rw [Nat.le_div_iff_mul_le (by omega)]
      rw [Nat.pow_succ] at h1
      exact h1
    · rw [Nat.div_lt_iff_lt_mul (by omega)]
      rw [Nat.pow_succ] at h2
      exact h2
theorem putN_le : ∀ (k n : Nat), n < 128 ^ (k + 1) → (putN n).length ≤ k + 1 := by
  intro k
  induction k with
  | zero =>
    intro n h
    rw [putN_lt (by simpa using h)]
    exact Nat.le_refl _
  | succ k ih =>
    intro n h2
    by_cases h3 : n < 128
    · rw [putN_lt h3]; simp
    · rw [putN_ge h3, List.length_cons]
      have := ih (n / 128) (by
        rw [Nat.div_lt_iff_lt_mul (by omega)]
        rw [Nat.pow_succ] at h2
        exact h2)
      omega
theorem putN_ten {n : Nat} (h : n < 18446744073709551616) : (putN n).length ≤ 10 := putN_le 9 n (by simp; omega)
theorem putL_length : ∀ l : List Nat, U64 l → (putL l).length ≤ 10 * l.length
  | [], _ => by simp [putL]
  | n :: r, h => by
    have h1 := putN_ten (h n (List.mem_cons_self ..))
    have h2 := putL_length r fun m hm => h m (List.mem_cons_of_mem _ hm)
    simp only [putL, List.length_append, List.length_cons]
    omega

/-! ### The document's -/
theorem e_mod (n : Nat) : (n : Int).tmod (Int.ofNat 128) = ((n % 128 : Nat) : Int) := by
  rw [Int.tmod_eq_emod_of_nonneg (by omega)]
  show (n : Int) % 128 = _
  omega
theorem e_div (n : Nat) : (n : Int).tdiv (Int.ofNat 128) = ((n / 128 : Nat) : Int) := by
  rw [Int.tdiv_eq_ediv_of_nonneg (by omega)]
  show (n : Int) / 128 = _
  omega
section
variable {T : Tab}
theorem put1r_loop (tot : List Nat) (htot : tot.length ≤ 100) (Q : Exit → St → Prop)
    (hend : ∀ fr hp nx (n : Nat) acc, n < 128 → look fr 0 = .pv (.int .u64 n) → Own (look fr 3) hp 1 (acc.map u8C) 0 nx → acc ++ [n] = tot → Q (.exit 0) ⟨fr, hp, nx⟩) :
    ∀ (n : Nat) (acc : List Nat), n < 18446744073709551616 → acc ++ putN n = tot → ∀ (fr : List (Nat × AV)) (hp : Hl) (nx : Nat), look fr 0 = .pv (.int .u64 n) → Own (look fr 3) hp 1 (acc.map u8C) 0 nx → Wp T false (.loop f150l0) ⟨fr, hp, nx⟩ Q := by
  intro n
  induction n using Nat.strongRecOn with
  | _ n ih =>
    intro acc hn ho fr hp nx h0 h3
    have hlen : acc.length + 1 ≤ 100 := by
      have := congrArg List.length ho
      have h2 : 0 < (putN n).length := List.length_pos_iff.2 (putN_ne n)
      rw [List.length_append] at this
      omega
    rw [Wp_loop, Wp_eq f150l0.eq_1]
    by_cases hc : n < 128
    · have hc' : ¬ (127 : Int) < n := by omega
      rw [putN_lt hc] at ho
      simp only [runL, opQ, evOp, evO, evOs, guardV, argsA, pvs, putS, cellsOf, scals, scal, Nat.reduceEqDiff, Nat.reduceAdd, reduceCtorEq, fieldA, nonNil, cellsAt, mkAgg, allPV, storeB, patchL, Int.reduceToNat, Nat.reduceMul, Nat.reduceLT, stepA, Int.reduceNeg, Int.reduceLE, Int.reduceLT, Int.reduceEq, extractV, mkAgg, Nat.reduceLeDiff, fillA, pureVs, pureV, eqV, eqB, lenV.eq_1, lenV.eq_2, lenV.eq_3, lenV.eq_4, binV, intBin, intV, idxA, List.drop, List.take, RetP, retP, resV, resOne, snapV, snapVs, snapR, snapRs, ownSz, pickV, AO.isC, opE, opD, funV, h0, hc']
      refine hend _ _ _ n acc hc ?_ ?_ ho
      all_goals simp only [look_if, Nat.reduceEqDiff, if_false, h0, h3]
    · have hc' : (127 : Int) < n := by omega
      rw [putN_ge hc] at ho
      have w1 : IntKind.u8.wrap ((n % 128 : Nat) : Int) = ((n % 128 : Nat) : Int) := wrapB (by omega) (by omega)
      have w2 : IntKind.u8.wrap (((n % 128 : Nat) : Int) + 128) = ((n % 128 + 128 : Nat) : Int) := by rw [wrapB (by omega) (by omega)]; omega
      have w3 : IntKind.u64.wrap ((n / 128 : Nat) : Int) = ((n / 128 : Nat) : Int) := wrapU' (by omega) (by omega)
      have w0 : IntKind.u64.wrap ((n % 128 : Nat) : Int) = ((n % 128 : Nat) : Int) := wrapU' (by omega) (by omega)
      obtain ⟨v', W, k, a1, a2, a3⟩ := h3.app1 (Nat.zero_le _) (u8C (n % 128 + 128)) (by rw [List.length_map]; omega)
      simp only [u8C] at a1 a3
      simp only [runL, opQ, evOp, evO, evOs, guardV, argsA, pvs, putS, cellsOf, scals, scal, Nat.reduceEqDiff, Nat.reduceAdd, reduceCtorEq, fieldA, nonNil, cellsAt, mkAgg, allPV, storeB, patchL, Int.reduceToNat, Nat.reduceMul, Nat.reduceLT, stepA, Int.reduceNeg, Int.reduceLE, Int.reduceLT, Int.reduceEq, extractV, mkAgg, Nat.reduceLeDiff, fillA, pureVs, pureV, eqV, eqB, lenV.eq_1, lenV.eq_2, lenV.eq_3, lenV.eq_4, binV, intBin, intV, idxA, List.drop, List.take, RetP, retP, resV, resOne, snapV, snapVs, snapR, snapRs, ownSz, pickV, AO.isC, opE, opD, funV, h0, hc', e_mod, e_div, w0, w1, w2, w3, partsScal, srcV, chunk, allLen, List.all_cons, List.all_nil, a1]
      refine ih (n / 128) (by omega) (acc ++ [n % 128 + 128]) (by omega) (by rw [← ho]; simp) _ _ _ ?_ ?_
      · simp only [look_if, blkAt_if, Nat.reduceEqDiff, if_true, if_false]
      · simp only [look_if, blkAt_if, Nat.reduceEqDiff, if_true, if_false]
        simpa only [List.map_append, List.map_cons, List.map_nil, u8C] using a3
theorem put1r_ok (h : Std T 150 f150) (n : Nat) (hn : n < 18446744073709551616) : Gives T 150 [.int .u64 n] (bytesP (putN n)) := by
  refine gives h rfl ?_
  simp only [f150, runL, opQ, evOp, evO, evOs, guardV, argsA, pvs, putS, cellsOf, scals, scal, Nat.reduceEqDiff, Nat.reduceAdd, reduceCtorEq, fieldA, nonNil, cellsAt, mkAgg, allPV, storeB, patchL, Int.reduceToNat, Nat.reduceMul, Nat.reduceLT, stepA, Int.reduceNeg, Int.reduceLE, Int.reduceLT, Int.reduceEq, extractV, mkAgg, Nat.reduceLeDiff, fillA, pureVs, pureV, eqV, eqB, lenV.eq_1, lenV.eq_2, lenV.eq_3, lenV.eq_4, binV, intBin, intV, idxA, List.drop, List.take, RetP, retP, resV, resOne, snapV, snapVs, snapR, snapRs, ownSz, pickV, AO.isC, opE, opD, funV]
  refine put1r_loop (putN n) (Nat.le_trans (putN_ten hn) (by omega)) _ (fun fr hp nx m acc hm h0 h3 ho => ?_) n [] hn rfl _ _ _ rfl Own.nil
  have w : IntKind.u8.wrap (m : Int) = m := wrapB (by omega) (by omega)
  have hlen : acc.length + 1 ≤ 10 := by
    have := congrArg List.length ho
    have h2 := putN_ten hn
    rw [List.length_append] at this
    simp at this
    omega
  obtain ⟨v', W, k, a1, a2, a3⟩ := h3.app1 (Nat.zero_le _) (u8C m) (by rw [List.length_map]; omega)
  have a4 := a3.snap
  simp only [u8C] at a1 a4
  simp only [runL, opQ, evOp, evO, evOs, guardV, argsA, pvs, putS, cellsOf, scals, scal, Nat.reduceEqDiff, Nat.reduceAdd, reduceCtorEq, fieldA, nonNil, cellsAt, mkAgg, allPV, storeB, patchL, Int.reduceToNat, Nat.reduceMul, Nat.reduceLT, stepA, Int.reduceNeg, Int.reduceLE, Int.reduceLT, Int.reduceEq, extractV, mkAgg, Nat.reduceLeDiff, fillA, pureVs, pureV, eqV, eqB, lenV.eq_1, lenV.eq_2, lenV.eq_3, lenV.eq_4, binV, intBin, intV, idxA, List.drop, List.take, RetP, retP, resV, resOne, snapV, snapVs, snapR, snapRs, ownSz, pickV, AO.isC, opE, opD, funV, h0, w, partsScal, srcV, chunk, allLen, List.all_cons, List.all_nil, a1, a4]
  rw [← ho]
  simp only [bytesP, List.map_append, List.map_cons, List.map_nil, u8C]
end
end Go.Proofs.YtogbpgkefkbffaaDoor.Ab
/- (rn) Layer 2 (wire): contracts of Put, of both texts. -/
set_option linter.unusedVariables false
set_option linter.unusedSimpArgs false
namespace Go.Proofs.YtogbpgkefkbffaaDoor.Ab
open Go
section
variable {T : Tab}
theorem putr_loop (h150 : Std T 150 f150) (l : List Nat) (hu : U64 l) (hl : l.length ≤ 1000000) (Q : Exit → St → Prop)
    (hend : ∀ fr hp nx, Own (look fr 3) hp 1 ((putL l).map u8C) 0 nx → Q (.exit 0) ⟨fr, hp, nx⟩) :
    ∀ (rest : List Nat) (i : Nat) (acc : List Nat), l.drop i = rest → i ≤ l.length → acc ++ putL rest = putL l → ∀ (fr : List (Nat × AV)) (hp : Hl) (nx : Nat), look fr 0 = .pv (u64s l) → look fr 4 = .pv (.int .i64 i) →
      Own (look fr 3) hp 1 (acc.map u8C) 0 nx → Wp T false (.loop f148l0) ⟨fr, hp, nx⟩ Q := by
  intro rest
  induction rest with
  | nil =>
    intro i acc hd hi ho fr hp nx h0 h4 h3
    have hlen := drop_nil hd hi
    simp only [putL, List.append_nil] at ho
    subst ho
    rw [Wp_loop, Wp_eq f148l0.eq_1]
    simp only [runL, opQ, evOp, evO, evOs, guardV, argsA, pvs, putS, cellsOf, scals, scal, Nat.reduceEqDiff, Nat.reduceAdd, reduceCtorEq, fieldA, nonNil, cellsAt, mkAgg, allPV, storeB, patchL, Int.reduceToNat, Nat.reduceMul, Nat.reduceLT, stepA, Int.reduceNeg, Int.reduceLE, Int.reduceLT, Int.reduceEq, extractV, mkAgg, Nat.reduceLeDiff, fillA, pureVs, pureV, eqV, eqB, lenV.eq_1, lenV.eq_2, lenV.eq_3, lenV.eq_4, binV, intBin, intV, idxA, List.drop, List.take, RetP, retP, resV, resOne, snapV, snapVs, snapR, snapRs, ownSz, pickV, AO.isC, opE, opD, funV, h0, h4, u64s, hlen, Int.lt_irrefl]
    exact hend _ _ _ (by simp only [look_if, blkAt_if, Nat.reduceEqDiff, if_true, if_false]; exact h3)
  | cons n r ih =>
    intro i acc hd hi ho fr hp nx h0 h4 h3
    obtain ⟨hget, hlt, hw, hd', hi', hb⟩ := drop_cons hd (by omega)
    have hn : n < 18446744073709551616 := hu n (List.mem_iff_getElem?.2 ⟨i, hget⟩)
    have k := put1r_ok h150 n hn
    have hlen : acc.length + (putN n).length ≤ 2 ^ 30 := by
      have h1 := congrArg List.length ho
      have h2 := putL_length l hu
      simp only [putL, List.length_append] at h1
      omega
    obtain ⟨v', W, m, a1, a2, a3⟩ := h3.app (Nat.zero_le _) ((putN n).map u8C) (by rw [List.length_map, List.length_map]; exact hlen)
    have hall : allLen 1 ((putN n).map u8C) = true := by simp [allLen, u8C]
    rw [Wp_loop, Wp_eq f148l0.eq_1]
    simp only [runL, opQ, evOp, evO, evOs, guardV, argsA, pvs, putS, cellsOf, scals, scal, Nat.reduceEqDiff, Nat.reduceAdd, reduceCtorEq, fieldA, nonNil, cellsAt, mkAgg, allPV, storeB, patchL, Int.reduceToNat, Nat.reduceMul, Nat.reduceLT, stepA, Int.reduceNeg, Int.reduceLE, Int.reduceLT, Int.reduceEq, extractV, mkAgg, Nat.reduceLeDiff, fillA, pureVs, pureV, eqV, eqB, lenV.eq_1, lenV.eq_2, lenV.eq_3, lenV.eq_4, binV, intBin, intV, idxA, List.drop, List.take, RetP, retP, resV, resOne, snapV, snapVs, snapR, snapRs, ownSz, pickV, AO.isC, opE, opD, funV, h0, h4, u64s, hlt, hget, u64C, k.call, bytesP, srcV, hall, a1, hw]
    refine ih (i + 1) (acc ++ putN n) hd' hi' (by rw [← ho]; simp [putL]) _ _ _ ?_ ?_ ?_
    · simp only [look_if, blkAt_if, Nat.reduceEqDiff, if_true, if_false, h0]
    · simp only [look_if, blkAt_if, Nat.reduceEqDiff, if_true, if_false]
    · simp only [look_if, blkAt_if, Nat.reduceEqDiff, if_true, if_false, List.map_append]
      exact a3
theorem putr_ok (h150 : Std T 150 f150) (h148 : Std T 148 f148) (l : List Nat) (hu : U64 l) (hl : l.length ≤ 1000000) : Gives T 148 [u64s l] (bytesP (putL l)) := by
  refine gives h148 rfl ?_
  simp only [f148, runL, opQ, evOp, evO, evOs, guardV, argsA, pvs, putS, cellsOf, scals, scal, Nat.reduceEqDiff, Nat.reduceAdd, reduceCtorEq, fieldA, nonNil, cellsAt, mkAgg, allPV, storeB, patchL, Int.reduceToNat, Nat.reduceMul, Nat.reduceLT, stepA, Int.reduceNeg, Int.reduceLE, Int.reduceLT, Int.reduceEq, extractV, mkAgg, Nat.reduceLeDiff, fillA, pureVs, pureV, eqV, eqB, lenV.eq_1, lenV.eq_2, lenV.eq_3, lenV.eq_4, binV, intBin, intV, idxA, List.drop, List.take, RetP, retP, resV, resOne, snapV, snapVs, snapR, snapRs, ownSz, pickV, AO.isC, opE, opD, funV]
  refine putr_loop h150 l hu hl _ (fun fr hp nx h3 => ?_) l 0 [] rfl (Nat.zero_le _) rfl _ _ _ rfl rfl Own.nil
  simp only [runL, opQ, evOp, evO, evOs, guardV, argsA, pvs, putS, cellsOf, scals, scal, Nat.reduceEqDiff, Nat.reduceAdd, reduceCtorEq, fieldA, nonNil, cellsAt, mkAgg, allPV, storeB, patchL, Int.reduceToNat, Nat.reduceMul, Nat.reduceLT, stepA, Int.reduceNeg, Int.reduceLE, Int.reduceLT, Int.reduceEq, extractV, mkAgg, Nat.reduceLeDiff, fillA, pureVs, pureV, eqV, eqB, lenV.eq_1, lenV.eq_2, lenV.eq_3, lenV.eq_4, binV, intBin, intV, idxA, List.drop, List.take, RetP, retP, resV, resOne, snapV, snapVs, snapR, snapRs, ownSz, pickV, AO.isC, opE, opD, funV, h3.snap, bytesP]

theorem e_or : ∀ m : Fin 256, IntKind.u8.wrap ((BitVec.ofInt IntKind.u8.bits ((m.val : Nat) : Int) ||| BitVec.ofInt IntKind.u8.bits 128).toNat : Int) = ((m.val % 128 + 128 : Nat) : Int) := by decide +kernel
theorem e_or' (n : Nat) : IntKind.u8.wrap ((BitVec.ofInt IntKind.u8.bits (IntKind.u8.wrap (n : Int)) ||| BitVec.ofInt IntKind.u8.bits 128).toNat : Int) = ((n % 128 + 128 : Nat) : Int) := by
  have := e_or ⟨n % 256, by omega⟩
  simp only at this
  rw [wrapB_mod (n : Int), show (n : Int) % 256 = ((n % 256 : Nat) : Int) by omega, this]
  omega
theorem e_shr (n : Nat) : (n : Int).fdiv (2 ^ (min 7 IntKind.u64.bits)) = ((n / 128 : Nat) : Int) := by
  show (n : Int).fdiv (2 ^ 7) = _
  rw [Int.fdiv_eq_ediv_of_nonneg _ (by decide)]
  show (n : Int) / 128 = _
  omega
theorem put1_loop (tot : List Nat) (htot : tot.length ≤ 20000000) (Q : Exit → St → Prop) (fr0 : List (Nat × AV))
    (hend : ∀ fr hp nx (n : Nat) acc, n < 128 → look fr 5 = .pv (.int .u64 n) → look fr 6 = look fr0 6 → look fr 7 = look fr0 7 → look fr 8 = look fr0 8 → Own (look fr 3) hp 1 (acc.map u8C) 0 nx → acc ++ [n] = tot → Q (.exit 2) ⟨fr, hp, nx⟩) :
    ∀ (n : Nat) (acc : List Nat), n < 18446744073709551616 → acc ++ putN n = tot → ∀ (fr : List (Nat × AV)) (hp : Hl) (nx : Nat), look fr 5 = .pv (.int .u64 n) → look fr 6 = look fr0 6 → look fr 7 = look fr0 7 → look fr 8 = look fr0 8 → Own (look fr 3) hp 1 (acc.map u8C) 0 nx →
      Wp T false (.loop f264l0) ⟨fr, hp, nx⟩ Q := by
  intro n
  induction n using Nat.strongRecOn with
  | _ n ih =>
    intro acc hn ho fr hp nx h5 h6 h7 h8 h3
    have hlen : acc.length + 1 ≤ 20000000 := by
      have := congrArg List.length ho
      have h2 : 0 < (putN n).length := List.length_pos_iff.2 (putN_ne n)
      rw [List.length_append] at this
      omega
    rw [Wp_loop, Wp_eq f264l0.eq_1]
    by_cases hc : n < 128
    · have hc' : ¬ (128 : Int) ≤ n := by omega
      rw [putN_lt hc] at ho
      simp only [runL, opQ, evOp, evO, evOs, guardV, argsA, pvs, putS, cellsOf, scals, scal, Nat.reduceEqDiff, Nat.reduceAdd, reduceCtorEq, fieldA, nonNil, cellsAt, mkAgg, allPV, storeB, patchL, Int.reduceToNat, Nat.reduceMul, Nat.reduceLT, stepA, Int.reduceNeg, Int.reduceLE, Int.reduceLT, Int.reduceEq, extractV, mkAgg, Nat.reduceLeDiff, fillA, pureVs, pureV, eqV, eqB, lenV.eq_1, lenV.eq_2, lenV.eq_3, lenV.eq_4, binV, intBin, intV, idxA, List.drop, List.take, RetP, retP, resV, resOne, snapV, snapVs, snapR, snapRs, ownSz, pickV, AO.isC, opE, opD, funV, h5, hc']
      refine hend _ _ _ n acc hc ?_ ?_ ?_ ?_ ?_ ho
      all_goals try simp only [look_if, blkAt_if, Nat.reduceEqDiff, if_true, if_false, h5, h6, h7, h8, h3]
    · have hc' : (128 : Int) ≤ n := by omega
      rw [putN_ge hc] at ho
      have w3 : IntKind.u64.wrap ((n / 128 : Nat) : Int) = ((n / 128 : Nat) : Int) := wrapU' (by omega) (by omega)
      obtain ⟨v', W, k, a1, a2, a3⟩ := h3.app1 (Nat.zero_le _) (u8C (n % 128 + 128)) (by rw [List.length_map]; omega)
      simp only [u8C] at a1 a3
      simp only [runL, opQ, evOp, evO, evOs, guardV, argsA, pvs, putS, cellsOf, scals, scal, Nat.reduceEqDiff, Nat.reduceAdd, reduceCtorEq, fieldA, nonNil, cellsAt, mkAgg, allPV, storeB, patchL, Int.reduceToNat, Nat.reduceMul, Nat.reduceLT, stepA, Int.reduceNeg, Int.reduceLE, Int.reduceLT, Int.reduceEq, extractV, mkAgg, Nat.reduceLeDiff, fillA, pureVs, pureV, eqV, eqB, lenV.eq_1, lenV.eq_2, lenV.eq_3, lenV.eq_4, binV, intBin, intV, idxA, List.drop, List.take, RetP, retP, resV, resOne, snapV, snapVs, snapR, snapRs, ownSz, pickV, AO.isC, opE, opD, funV, h5, hc', e_or', e_shr, w3, partsScal, srcV, chunk, allLen, List.all_cons, List.all_nil, a1]
      refine ih (n / 128) (by omega) (acc ++ [n % 128 + 128]) (by omega) (by rw [← ho]; simp) _ _ _ ?_ ?_ ?_ ?_ ?_
      all_goals try simp only [look_if, blkAt_if, Nat.reduceEqDiff, if_true, if_false, h6, h7, h8]
      simpa only [List.map_append, List.map_cons, List.map_nil, u8C] using a3
theorem put_loop (l : List Nat) (hu : U64 l) (hl : l.length ≤ 1000000) (Q : Exit → St → Prop)
    (hend : ∀ fr hp nx, Own (look fr 3) hp 1 ((putL l).map u8C) 0 nx → Q (.exit 0) ⟨fr, hp, nx⟩) :
    ∀ (rest : List Nat) (i : Nat) (acc : List Nat), l.drop i = rest → i ≤ l.length → acc ++ putL rest = putL l → ∀ (fr : List (Nat × AV)) (hp : Hl) (nx : Nat), look fr 6 = .pv (u64s l) → look fr 7 = .pv (.int .i64 l.length) → look fr 8 = .pv (.int .i64 i) →
      Own (look fr 3) hp 1 (acc.map u8C) 0 nx → Wp T false (.loop f264l1) ⟨fr, hp, nx⟩ Q := by
  intro rest
  induction rest with
  | nil =>
    intro i acc hd hi ho fr hp nx h6 h7 h8 h3
    have hlen := drop_nil hd hi
    simp only [putL, List.append_nil] at ho
    subst ho
    rw [Wp_loop, Wp_eq f264l1.eq_1]
    simp only [runL, opQ, evOp, evO, evOs, guardV, argsA, pvs, putS, cellsOf, scals, scal, Nat.reduceEqDiff, Nat.reduceAdd, reduceCtorEq, fieldA, nonNil, cellsAt, mkAgg, allPV, storeB, patchL, Int.reduceToNat, Nat.reduceMul, Nat.reduceLT, stepA, Int.reduceNeg, Int.reduceLE, Int.reduceLT, Int.reduceEq, extractV, mkAgg, Nat.reduceLeDiff, fillA, pureVs, pureV, eqV, eqB, lenV.eq_1, lenV.eq_2, lenV.eq_3, lenV.eq_4, binV, intBin, intV, idxA, List.drop, List.take, RetP, retP, resV, resOne, snapV, snapVs, snapR, snapRs, ownSz, pickV, AO.isC, opE, opD, funV, h6, h7, h8, hlen, Int.lt_irrefl]
    exact hend _ _ _ (by simp only [look_if, blkAt_if, Nat.reduceEqDiff, if_true, if_false]; exact h3)
  | cons n r ih =>
    intro i acc hd hi ho fr hp nx h6 h7 h8 h3
    obtain ⟨hget, hlt, hw, hd', hi', hb⟩ := drop_cons hd (by omega)
    have hn : n < 18446744073709551616 := hu n (List.mem_iff_getElem?.2 ⟨i, hget⟩)
    have hlen : (acc ++ putN n).length ≤ 10000000 := by
      have h1 := congrArg List.length ho
      have h2 := putL_length l hu
      simp only [putL, List.length_append] at h1 ⊢
      omega
    rw [Wp_loop, Wp_eq f264l1.eq_1]
    simp only [runL, opQ, evOp, evO, evOs, guardV, argsA, pvs, putS, cellsOf, scals, scal, Nat.reduceEqDiff, Nat.reduceAdd, reduceCtorEq, fieldA, nonNil, cellsAt, mkAgg, allPV, storeB, patchL, Int.reduceToNat, Nat.reduceMul, Nat.reduceLT, stepA, Int.reduceNeg, Int.reduceLE, Int.reduceLT, Int.reduceEq, extractV, mkAgg, Nat.reduceLeDiff, fillA, pureVs, pureV, eqV, eqB, lenV.eq_1, lenV.eq_2, lenV.eq_3, lenV.eq_4, binV, intBin, intV, idxA, List.drop, List.take, RetP, retP, resV, resOne, snapV, snapVs, snapR, snapRs, ownSz, pickV, AO.isC, opE, opD, funV, h6, h7, h8, u64s, hlt, hget, u64C]
    refine put1_loop (acc ++ putN n) (by omega) _ fr (fun fr' hp' nx' m acc' hm g5 g6 g7 g8 g3 go => ?_) n acc hn rfl _ _ _ ?_ ?_ ?_ ?_ ?_
    · have w : IntKind.u8.wrap (m : Int) = m := wrapB (by omega) (by omega)
      have hlen' : acc'.length + 1 ≤ 10000000 := by
        have := congrArg List.length go
        simp only [List.length_append, List.length_cons, List.length_nil] at this hlen
        omega
      obtain ⟨v', W, k, a1, a2, a3⟩ := g3.app1 (Nat.zero_le _) (u8C m) (by rw [List.length_map]; omega)
      simp only [u8C] at a1 a3
      rw [h6] at g6
      rw [h7] at g7
      rw [h8] at g8
      simp only [runL, opQ, evOp, evO, evOs, guardV, argsA, pvs, putS, cellsOf, scals, scal, Nat.reduceEqDiff, Nat.reduceAdd, reduceCtorEq, fieldA, nonNil, cellsAt, mkAgg, allPV, storeB, patchL, Int.reduceToNat, Nat.reduceMul, Nat.reduceLT, stepA, Int.reduceNeg, Int.reduceLE, Int.reduceLT, Int.reduceEq, extractV, mkAgg, Nat.reduceLeDiff, fillA, pureVs, pureV, eqV, eqB, lenV.eq_1, lenV.eq_2, lenV.eq_3, lenV.eq_4, binV, intBin, intV, idxA, List.drop, List.take, RetP, retP, resV, resOne, snapV, snapVs, snapR, snapRs, ownSz, pickV, AO.isC, opE, opD, funV, g5, g8, w, partsScal, srcV, chunk, allLen, List.all_cons, List.all_nil, a1, hw]
      refine ih (i + 1) (acc ++ putN n) hd' hi' (by rw [← ho]; simp [putL]) _ _ _ ?_ ?_ ?_ ?_
      all_goals try simp only [look_if, blkAt_if, Nat.reduceEqDiff, if_true, if_false, g6, g7]
      rw [← go]
      simpa only [List.map_append, List.map_cons, List.map_nil, u8C] using a3
    all_goals try simp only [look_if, blkAt_if, Nat.reduceEqDiff, if_true, if_false, h6, h7, h8, h3]
theorem put_ok (h264 : Std T 264 f264) (l : List Nat) (hu : U64 l) (hl : l.length ≤ 1000000) : Gives T 264 [u64s l] (bytesP (putL l)) := by
  refine gives h264 rfl ?_
  simp only [f264, runL, opQ, evOp, evO, evOs, guardV, argsA, pvs, putS, cellsOf, scals, scal, Nat.reduceEqDiff, Nat.reduceAdd, reduceCtorEq, fieldA, nonNil, cellsAt, mkAgg, allPV, storeB, patchL, Int.reduceToNat, Nat.reduceMul, Nat.reduceLT, stepA, Int.reduceNeg, Int.reduceLE, Int.reduceLT, Int.reduceEq, extractV, mkAgg, Nat.reduceLeDiff, fillA, pureVs, pureV, eqV, eqB, lenV.eq_1, lenV.eq_2, lenV.eq_3, lenV.eq_4, binV, intBin, intV, idxA, List.drop, List.take, RetP, retP, resV, resOne, snapV, snapVs, snapR, snapRs, ownSz, pickV, AO.isC, opE, opD, funV, u64s]
  refine put_loop l hu hl _ (fun fr hp nx h3 => ?_) l 0 [] rfl (Nat.zero_le _) rfl _ _ _ ?_ ?_ ?_ ?_
  · simp only [runL, opQ, evOp, evO, evOs, guardV, argsA, pvs, putS, cellsOf, scals, scal, Nat.reduceEqDiff, Nat.reduceAdd, reduceCtorEq, fieldA, nonNil, cellsAt, mkAgg, allPV, storeB, patchL, Int.reduceToNat, Nat.reduceMul, Nat.reduceLT, stepA, Int.reduceNeg, Int.reduceLE, Int.reduceLT, Int.reduceEq, extractV, mkAgg, Nat.reduceLeDiff, fillA, pureVs, pureV, eqV, eqB, lenV.eq_1, lenV.eq_2, lenV.eq_3, lenV.eq_4, binV, intBin, intV, idxA, List.drop, List.take, RetP, retP, resV, resOne, snapV, snapVs, snapR, snapRs, ownSz, pickV, AO.isC, opE, opD, funV, h3.snap, bytesP]
  · rfl
  · rfl
  · rfl
  · exact Own.nil
end
end Go.Proofs.YtogbpgkefkbffaaDoor.Ab
/- (rn) Layer 2 (wire): one number of bytes: of both texts. -/
set_option linter.unusedVariables false
set_option linter.unusedSimpArgs false
namespace Go.Proofs.YtogbpgkefkbffaaDoor.Ab
open Go

/-- The number that bytes begin with, behind k bytes that came to n; and of how many bytes it is. -/
def rd : Nat → Nat → List Nat → Option (Nat × Nat)
  | _, _, [] => none
  | k, n, x :: r => if 10 ≤ k ∨ (k = 9 ∧ 1 < x) ∨ (0 < k ∧ x = 0) then none else if x < 128 then some (n + x * 128 ^ k, k + 1) else rd (k + 1) (n + x % 128 * 128 ^ k) r
def rd0 (l : List Nat) : Option (Nat × Nat) := rd 0 0 l
def oneR (a : Nat) : Option (Nat × Nat) → PV
  | some (v, c) => .tuple [.int .u64 (v : Int), .int .i64 ((a + c : Nat) : Int), .bool true]
  | none => .tuple [.int .u64 0, .int .i64 0, .bool false]
def oneRr (a : Nat) : Option (Nat × Nat) → PV
  | some (v, c) => .tuple [.int .u64 (v : Int), .int .i64 ((a + c : Nat) : Int)]
  | none => .tuple [.int .u64 0, .int .i64 (-1)]

theorem pow_step (k : Nat) : 128 ^ (k + 1) = 128 ^ k * 128 := Nat.pow_succ ..
theorem rd_lt : ∀ (l : List Nat) (k n v c : Nat), U8 l → n < 128 ^ k → rd k n l = some (v, c) → v < 18446744073709551616 ∧ k < c ∧ c ≤ k + l.length ∧ c ≤ 10
  | [], k, n, v, c, _, _, h => by simp [rd] at h
  | x :: r, k, n, v, c, hu, hn, h => by
    have hx : x < 256 := hu x (List.mem_cons_self ..)
    simp only [rd] at h
    split at h
    · simp at h
    · rename_i hc
      simp only [not_or, not_and, Nat.not_lt, Nat.not_le] at hc
      obtain ⟨c1, c2, c3⟩ := hc
      split at h
      · rename_i h1
        simp only [Option.some.injEq, Prod.mk.injEq] at h
        obtain ⟨rfl, rfl⟩ := h
        refine ⟨?_, by omega, by simp, by omega⟩
        by_cases h9 : k = 9
        · subst h9
          have := c2 rfl
          have : x * 128 ^ 9 ≤ 1 * 128 ^ 9 := Nat.mul_le_mul_right _ this
          omega
        · have h3 : x * 128 ^ k ≤ 127 * 128 ^ k := Nat.mul_le_mul_right _ (by omega)
          have h4 : 128 ^ k ≤ 128 ^ 8 := Nat.pow_le_pow_right (by omega) (by omega)
          omega
      · have h3 : x % 128 * 128 ^ k ≤ 127 * 128 ^ k := Nat.mul_le_mul_right _ (by omega)
        have := rd_lt r (k + 1) _ v c (fun y hy => hu y (List.mem_cons_of_mem _ hy)) (by rw [pow_step]; omega) h
        simp only [List.length_cons]
        omega

section
variable {T : Tab}
theorem e_andNot : ∀ m : Fin 256, IntKind.u64.wrap ((BitVec.ofInt IntKind.u64.bits ((m.val : Nat) : Int) &&& ~~~ BitVec.ofInt IntKind.u64.bits 128).toNat : Int) = ((m.val % 128 : Nat) : Int) := by decide +kernel
theorem e_shl (x k : Nat) (hk : k ≤ 9) : (x : Int) * 2 ^ (min (7 * k) IntKind.u64.bits) = ((x * 128 ^ k : Nat) : Int) := by
  have : min (7 * k) IntKind.u64.bits = 7 * k := by
    show min (7 * k) 64 = 7 * k
    omega
  rw [this]
  have e : (128 : Nat) ^ k = 2 ^ (7 * k) := by rw [show (128 : Nat) = 2 ^ 7 from rfl, ← Nat.pow_mul]
  rw [e]
  simp
theorem e_or64 (n x k : Nat) (hk : k ≤ 9) (hn : n < 128 ^ k) (ht : n + x * 128 ^ k < 18446744073709551616) :
    IntKind.u64.wrap ((BitVec.ofInt IntKind.u64.bits (n : Int) ||| BitVec.ofInt IntKind.u64.bits ((x * 128 ^ k : Nat) : Int)).toNat : Int) = ((n + x * 128 ^ k : Nat) : Int) := by
  have e : (128 : Nat) ^ k = 2 ^ (7 * k) := by rw [show (128 : Nat) = 2 ^ 7 from rfl, ← Nat.pow_mul]
  have h1 : (BitVec.ofInt IntKind.u64.bits (n : Int) ||| BitVec.ofInt IntKind.u64.bits ((x * 128 ^ k : Nat) : Int)).toNat = n + x * 128 ^ k := by
    rw [BitVec.toNat_or, BitVec.ofInt_natCast, BitVec.ofInt_natCast, BitVec.toNat_ofNat, BitVec.toNat_ofNat]
    show (n % 2 ^ 64) ||| (x * 128 ^ k % 2 ^ 64) = _
    rw [Nat.mod_eq_of_lt (by omega), Nat.mod_eq_of_lt (by omega), e, Nat.or_comm, Nat.mul_comm, ← Nat.two_pow_add_eq_or_of_lt (by rw [← e]; exact hn), Nat.add_comm]
  rw [h1]
  exact wrapU' (by omega) (by omega)

theorem one2_loop (b : List Nat) (hb : U8 b) (hl : b.length ≤ 2 ^ 30) (a : Nat) (Q : Exit → St → Prop) (o : Option (Nat × Nat))
    (hend : o = none → ∀ fr hp nx, Q (.exit 0) ⟨fr, hp, nx⟩) (hret : ∀ fr hp nx, resV (look fr) (blkAt hp) [.t 4, .t 5, .t 6] = some (match o with | some (v, c) => [.pv (.int .u64 (v : Int)), .pv (.int .i64 ((a + c : Nat) : Int)), .pv (.bool true)] | none => [.pv (.int .u64 0), .pv (.int .i64 0), .pv (.bool false)]) → Q .ret ⟨fr, hp, nx⟩) :
    ∀ (rest : List Nat) (k n : Nat), b.drop (a + k) = rest → a + k ≤ b.length → k ≤ 9 → n < 128 ^ k → rd k n rest = o → ∀ (fr : List (Nat × AV)) (hp : Hl) (nx : Nat), look fr 0 = .pv (bytesP b) → look fr 1 = .pv (.int .i64 a) →
      look fr 7 = .pv (.int .u64 n) → look fr 8 = .pv (.int .i64 ((a + k : Nat) : Int)) → look fr 9 = .pv (.int .i64 (Int.ofNat (7 * k))) → Wp T false (.loop f265l0) ⟨fr, hp, nx⟩ Q := by
  intro rest
  induction rest with
  | nil =>
    intro k n hd hi hk hn ho fr hp nx h0 h1 h7 h8 h9
    have hlen := drop_nil hd hi
    rw [Wp_loop, Wp_eq f265l0.eq_1]
    simp only [runL, opQ, evOp, evO, evOs, guardV, argsA, pvs, putS, cellsOf, scals, scal, Nat.reduceEqDiff, Nat.reduceAdd, reduceCtorEq, fieldA, nonNil, cellsAt, mkAgg, allPV, storeB, patchL, Int.reduceToNat, Nat.reduceMul, Nat.reduceLT, stepA, Int.reduceNeg, Int.reduceLE, Int.reduceLT, Int.reduceEq, extractV, mkAgg, Nat.reduceLeDiff, fillA, pureVs, pureV, eqV, eqB, lenV.eq_1, lenV.eq_2, lenV.eq_3, lenV.eq_4, binV, intBin, intV, idxA, List.drop, List.take, RetP, retP, resV, resOne, snapV, snapVs, snapR, snapRs, ownSz, pickV, AO.isC, opE, opD, funV, h0, h8, bytesP, hlen, Int.lt_irrefl]
    exact hend ho.symm _ _ _
  | cons x r ih =>
    intro k n hd hi hk hn ho fr hp nx h0 h1 h7 h8 h9
    obtain ⟨hget, hlt, hw, hd', hi', hbb⟩ := drop_cons hd hl
    have hx : x < 256 := hb x (List.mem_iff_getElem?.2 ⟨_, hget⟩)
    have w0 : IntKind.u64.wrap (x : Int) = x := wrapU' (by omega) (by omega)
    have w1 := e_andNot ⟨x, hx⟩
    simp only at w1
    have h10 : ¬ 10 ≤ k := by omega
    simp only [rd, h10, false_or] at ho
    rw [Wp_loop, Wp_eq f265l0.eq_1]
    have fin : ¬ (k = 9 ∧ 1 < x ∨ 0 < k ∧ x = 0) → n + x % 128 * 128 ^ k < 18446744073709551616 := by
      intro h
      by_cases h9 : k = 9
      · subst h9
        have : x % 128 * 128 ^ 9 ≤ 1 * 128 ^ 9 := Nat.mul_le_mul_right _ (by omega)
        omega
      · have h3 : x % 128 * 128 ^ k ≤ 127 * 128 ^ k := Nat.mul_le_mul_right _ (by omega)
        have h4 : 128 ^ k ≤ 128 ^ 8 := Nat.pow_le_pow_right (by omega) (by omega)
        omega
    by_cases hbad : k = 9 ∧ 1 < x ∨ 0 < k ∧ x = 0
    · rw [if_pos hbad] at ho
      subst ho
      by_cases c9 : k = 9
      · have q1 : decide (Int.ofNat (7 * k) = 63) = true := by subst c9; rfl
        by_cases c1 : 1 < x
        · have q2 : (1 : Int) < x := by omega
          simp only [runL, opQ, evOp, evO, evOs, guardV, argsA, pvs, putS, cellsOf, scals, scal, Nat.reduceEqDiff, Nat.reduceAdd, reduceCtorEq, fieldA, nonNil, cellsAt, mkAgg, allPV, storeB, patchL, Int.reduceToNat, Nat.reduceMul, Nat.reduceLT, stepA, Int.reduceNeg, Int.reduceLE, Int.reduceLT, Int.reduceEq, extractV, mkAgg, Nat.reduceLeDiff, fillA, pureVs, pureV, eqV, eqB, lenV.eq_1, lenV.eq_2, lenV.eq_3, lenV.eq_4, binV, intBin, intV, idxA, List.drop, List.take, RetP, retP, resV, resOne, snapV, snapVs, snapR, snapRs, ownSz, pickV, AO.isC, opE, opD, funV, h0, h1, h7, h8, h9, bytesP, u8C, hlt, hget, w0, q1, q2]
          refine hret _ _ _ ?_
          simp only [runL, opQ, evOp, evO, evOs, guardV, argsA, pvs, putS, cellsOf, scals, scal, Nat.reduceEqDiff, Nat.reduceAdd, reduceCtorEq, fieldA, nonNil, cellsAt, mkAgg, allPV, storeB, patchL, Int.reduceToNat, Nat.reduceMul, Nat.reduceLT, stepA, Int.reduceNeg, Int.reduceLE, Int.reduceLT, Int.reduceEq, extractV, mkAgg, Nat.reduceLeDiff, fillA, pureVs, pureV, eqV, eqB, lenV.eq_1, lenV.eq_2, lenV.eq_3, lenV.eq_4, binV, intBin, intV, idxA, List.drop, List.take, RetP, retP, resV, resOne, snapV, snapVs, snapR, snapRs, ownSz, pickV, AO.isC, opE, opD, funV]
        · have q2 : ¬ (1 : Int) < x := by omega
          have q3 : (a : Int) < ((a + k : Nat) : Int) := by omega
          have q4 : decide ((x : Int) = 0) = true := by rw [decide_eq_true_eq]; omega
          simp only [runL, opQ, evOp, evO, evOs, guardV, argsA, pvs, putS, cellsOf, scals, scal, Nat.reduceEqDiff, Nat.reduceAdd, reduceCtorEq, fieldA, nonNil, cellsAt, mkAgg, allPV, storeB, patchL, Int.reduceToNat, Nat.reduceMul, Nat.reduceLT, stepA, Int.reduceNeg, Int.reduceLE, Int.reduceLT, Int.reduceEq, extractV, mkAgg, Nat.reduceLeDiff, fillA, pureVs, pureV, eqV, eqB, lenV.eq_1, lenV.eq_2, lenV.eq_3, lenV.eq_4, binV, intBin, intV, idxA, List.drop, List.take, RetP, retP, resV, resOne, snapV, snapVs, snapR, snapRs, ownSz, pickV, AO.isC, opE, opD, funV, h0, h1, h7, h8, h9, bytesP, u8C, hlt, hget, w0, q1, q2, q3, q4]
          refine hret _ _ _ ?_
          simp only [runL, opQ, evOp, evO, evOs, guardV, argsA, pvs, putS, cellsOf, scals, scal, Nat.reduceEqDiff, Nat.reduceAdd, reduceCtorEq, fieldA, nonNil, cellsAt, mkAgg, allPV, storeB, patchL, Int.reduceToNat, Nat.reduceMul, Nat.reduceLT, stepA, Int.reduceNeg, Int.reduceLE, Int.reduceLT, Int.reduceEq, extractV, mkAgg, Nat.reduceLeDiff, fillA, pureVs, pureV, eqV, eqB, lenV.eq_1, lenV.eq_2, lenV.eq_3, lenV.eq_4, binV, intBin, intV, idxA, List.drop, List.take, RetP, retP, resV, resOne, snapV, snapVs, snapR, snapRs, ownSz, pickV, AO.isC, opE, opD, funV]
      · have q1 : ¬ Int.ofNat (7 * k) = 63 := by intro h; simp at h; omega
        have q3 : (a : Int) < ((a + k : Nat) : Int) := by omega
        have q4 : decide ((x : Int) = 0) = true := by rw [decide_eq_true_eq]; omega
        simp only [runL, opQ, evOp, evO, evOs, guardV, argsA, pvs, putS, cellsOf, scals, scal, Nat.reduceEqDiff, Nat.reduceAdd, reduceCtorEq, fieldA, nonNil, cellsAt, mkAgg, allPV, storeB, patchL, Int.reduceToNat, Nat.reduceMul, Nat.reduceLT, stepA, Int.reduceNeg, Int.reduceLE, Int.reduceLT, Int.reduceEq, extractV, mkAgg, Nat.reduceLeDiff, fillA, pureVs, pureV, eqV, eqB, lenV.eq_1, lenV.eq_2, lenV.eq_3, lenV.eq_4, binV, intBin, intV, idxA, List.drop, List.take, RetP, retP, resV, resOne, snapV, snapVs, snapR, snapRs, ownSz, pickV, AO.isC, opE, opD, funV, h0, h1, h7, h8, h9, bytesP, u8C, hlt, hget, w0, q1, q3, q4]
        refine hret _ _ _ ?_
        simp only [runL, opQ, evOp, evO, evOs, guardV, argsA, pvs, putS, cellsOf, scals, scal, Nat.reduceEqDiff, Nat.reduceAdd, reduceCtorEq, fieldA, nonNil, cellsAt, mkAgg, allPV, storeB, patchL, Int.reduceToNat, Nat.reduceMul, Nat.reduceLT, stepA, Int.reduceNeg, Int.reduceLE, Int.reduceLT, Int.reduceEq, extractV, mkAgg, Nat.reduceLeDiff, fillA, pureVs, pureV, eqV, eqB, lenV.eq_1, lenV.eq_2, lenV.eq_3, lenV.eq_4, binV, intBin, intV, idxA, List.drop, List.take, RetP, retP, resV, resOne, snapV, snapVs, snapR, snapRs, ownSz, pickV, AO.isC, opE, opD, funV]
    · rw [if_neg hbad] at ho
      have hf := fin hbad
      have e1 := e_shl (x % 128) k hk
      have e2 := e_or64 n (x % 128) k hk hn hf
      have e3 : IntKind.u64.wrap ((x % 128 * 128 ^ k : Nat) : Int) = ((x % 128 * 128 ^ k : Nat) : Int) := wrapU' (by omega) (by omega)
      have hw' : IntKind.i64.wrap (((a + k : Nat) : Int) + 1) = ((a + (k + 1) : Nat) : Int) := by rw [hw]; omega
      have hw7 : IntKind.i64.wrap (Int.ofNat (7 * k) + 7) = Int.ofNat (7 * (k + 1)) := by rw [wrap6 (by simp; omega) (by simp; omega)]; simp; omega
      have last : x < 128 → ∀ fr hp nx, resV (look fr) (blkAt hp) [.t 4, .t 5, .t 6] = some [.pv (.int .u64 ((n + x % 128 * 128 ^ k : Nat) : Int)), .pv (.int .i64 ((a + (k + 1) : Nat) : Int)), .pv (.bool true)] → Q .ret ⟨fr, hp, nx⟩ := by
        intro h fr hp nx hr
        rw [if_pos h] at ho
        refine hret _ _ _ ?_
        rw [hr, ← ho]
        simp only [show x % 128 = x by omega]
      have step : ¬ x < 128 → ∀ fr' hp' nx', look fr' 0 = look fr 0 → look fr' 1 = look fr 1 → look fr' 7 = .pv (.int .u64 ((n + x % 128 * 128 ^ k : Nat) : Int)) → look fr' 8 = .pv (.int .i64 ((a + (k + 1) : Nat) : Int)) → look fr' 9 = .pv (.int .i64 (Int.ofNat (7 * (k + 1)))) → Wp T false (.loop f265l0) ⟨fr', hp', nx'⟩ Q := by
        intro h fr' hp' nx' g0 g1 g7 g8 g9
        rw [if_neg h] at ho
        have hxm : x % 128 * 128 ^ k ≤ 127 * 128 ^ k := Nat.mul_le_mul_right _ (by omega)
        exact ih (k + 1) (n + x % 128 * 128 ^ k) (by rw [← Nat.add_assoc]; exact hd') (by omega) (by omega) (by rw [pow_step]; omega) ho _ _ _ (g0.trans h0) (g1.trans h1) g7 g8 g9
      by_cases c9 : k = 9
      · have q1 : decide (Int.ofNat (7 * k) = 63) = true := by subst c9; rfl
        have q2 : ¬ (1 : Int) < x := by omega
        have q3 : (a : Int) < ((a + k : Nat) : Int) := by omega
        have q4 : ¬ (x : Int) = 0 := by omega
        have q5 : (x : Int) < 128 := by omega
        simp only [runL, opQ, evOp, evO, evOs, guardV, argsA, pvs, putS, cellsOf, scals, scal, Nat.reduceEqDiff, Nat.reduceAdd, reduceCtorEq, fieldA, nonNil, cellsAt, mkAgg, allPV, storeB, patchL, Int.reduceToNat, Nat.reduceMul, Nat.reduceLT, stepA, Int.reduceNeg, Int.reduceLE, Int.reduceLT, Int.reduceEq, extractV, mkAgg, Nat.reduceLeDiff, fillA, pureVs, pureV, eqV, eqB, lenV.eq_1, lenV.eq_2, lenV.eq_3, lenV.eq_4, binV, intBin, intV, idxA, List.drop, List.take, RetP, retP, resV, resOne, snapV, snapVs, snapR, snapRs, ownSz, pickV, AO.isC, opE, opD, funV, h0, h1, h7, h8, h9, bytesP, u8C, hlt, hget, w0, q1, q2, q3, q4, q5, w1, e1, e2, e3, hw']
        refine last (by omega) _ _ _ ?_
        simp only [runL, opQ, evOp, evO, evOs, guardV, argsA, pvs, putS, cellsOf, scals, scal, Nat.reduceEqDiff, Nat.reduceAdd, reduceCtorEq, fieldA, nonNil, cellsAt, mkAgg, allPV, storeB, patchL, Int.reduceToNat, Nat.reduceMul, Nat.reduceLT, stepA, Int.reduceNeg, Int.reduceLE, Int.reduceLT, Int.reduceEq, extractV, mkAgg, Nat.reduceLeDiff, fillA, pureVs, pureV, eqV, eqB, lenV.eq_1, lenV.eq_2, lenV.eq_3, lenV.eq_4, binV, intBin, intV, idxA, List.drop, List.take, RetP, retP, resV, resOne, snapV, snapVs, snapR, snapRs, ownSz, pickV, AO.isC, opE, opD, funV]
      · have q1 : ¬ Int.ofNat (7 * k) = 63 := by intro h; simp at h; omega
        by_cases c3 : 0 < k
        · have q3 : (a : Int) < ((a + k : Nat) : Int) := by omega
          have q4 : ¬ (x : Int) = 0 := by omega
          by_cases c5 : x < 128
          · have q5 : (x : Int) < 128 := by omega
            simp only [runL, opQ, evOp, evO, evOs, guardV, argsA, pvs, putS, cellsOf, scals, scal, Nat.reduceEqDiff, Nat.reduceAdd, reduceCtorEq, fieldA, nonNil, cellsAt, mkAgg, allPV, storeB, patchL, Int.reduceToNat, Nat.reduceMul, Nat.reduceLT, stepA, Int.reduceNeg, Int.reduceLE, Int.reduceLT, Int.reduceEq, extractV, mkAgg, Nat.reduceLeDiff, fillA, pureVs, pureV, eqV, eqB, lenV.eq_1, lenV.eq_2, lenV.eq_3, lenV.eq_4, binV, intBin, intV, idxA, List.drop, List.take, RetP, retP, resV, resOne, snapV, snapVs, snapR, snapRs, ownSz, pickV, AO.isC, opE, opD, funV, h0, h1, h7, h8, h9, bytesP, u8C, hlt, hget, w0, q1, q3, q4, q5, w1, e1, e2, e3, hw']
            refine last c5 _ _ _ ?_
            simp only [runL, opQ, evOp, evO, evOs, guardV, argsA, pvs, putS, cellsOf, scals, scal, Nat.reduceEqDiff, Nat.reduceAdd, reduceCtorEq, fieldA, nonNil, cellsAt, mkAgg, allPV, storeB, patchL, Int.reduceToNat, Nat.reduceMul, Nat.reduceLT, stepA, Int.reduceNeg, Int.reduceLE, Int.reduceLT, Int.reduceEq, extractV, mkAgg, Nat.reduceLeDiff, fillA, pureVs, pureV, eqV, eqB, lenV.eq_1, lenV.eq_2, lenV.eq_3, lenV.eq_4, binV, intBin, intV, idxA, List.drop, List.take, RetP, retP, resV, resOne, snapV, snapVs, snapR, snapRs, ownSz, pickV, AO.isC, opE, opD, funV]
          · have q5 : ¬ (x : Int) < 128 := by omega
            simp only [runL, opQ, evOp, evO, evOs, guardV, argsA, pvs, putS, cellsOf, scals, scal, Nat.reduceEqDiff, Nat.reduceAdd, reduceCtorEq, fieldA, nonNil, cellsAt, mkAgg, allPV, storeB, patchL, Int.reduceToNat, Nat.reduceMul, Nat.reduceLT, stepA, Int.reduceNeg, Int.reduceLE, Int.reduceLT, Int.reduceEq, extractV, mkAgg, Nat.reduceLeDiff, fillA, pureVs, pureV, eqV, eqB, lenV.eq_1, lenV.eq_2, lenV.eq_3, lenV.eq_4, binV, intBin, intV, idxA, List.drop, List.take, RetP, retP, resV, resOne, snapV, snapVs, snapR, snapRs, ownSz, pickV, AO.isC, opE, opD, funV, h0, h1, h7, h8, h9, bytesP, u8C, hlt, hget, w0, q1, q3, q4, q5, w1, e1, e2, e3, hw', hw7]
            refine step c5 _ _ _ ?_ ?_ ?_ ?_ ?_
            all_goals try simp only [look_if, blkAt_if, Nat.reduceEqDiff, if_true, if_false, h0, h1]
        · have q3 : ¬ (a : Int) < ((a + k : Nat) : Int) := by omega
          by_cases c5 : x < 128
          · have q5 : (x : Int) < 128 := by omega
            simp only [runL, opQ, evOp, evO, evOs, guardV, argsA, pvs, putS, cellsOf, scals, scal, Nat.reduceEqDiff, Nat.reduceAdd, reduceCtorEq, fieldA, nonNil, cellsAt, mkAgg, allPV, storeB, patchL, Int.reduceToNat, Nat.reduceMul, Nat.reduceLT, stepA, Int.reduceNeg, Int.reduceLE, Int.reduceLT, Int.reduceEq, extractV, mkAgg, Nat.reduceLeDiff, fillA, pureVs, pureV, eqV, eqB, lenV.eq_1, lenV.eq_2, lenV.eq_3, lenV.eq_4, binV, intBin, intV, idxA, List.drop, List.take, RetP, retP, resV, resOne, snapV, snapVs, snapR, snapRs, ownSz, pickV, AO.isC, opE, opD, funV, h0, h1, h7, h8, h9, bytesP, u8C, hlt, hget, w0, q1, q3, q5, w1, e1, e2, e3, hw']
            refine last c5 _ _ _ ?_
            simp only [runL, opQ, evOp, evO, evOs, guardV, argsA, pvs, putS, cellsOf, scals, scal, Nat.reduceEqDiff, Nat.reduceAdd, reduceCtorEq, fieldA, nonNil, cellsAt, mkAgg, allPV, storeB, patchL, Int.reduceToNat, Nat.reduceMul, Nat.reduceLT, stepA, Int.reduceNeg, Int.reduceLE, Int.reduceLT, Int.reduceEq, extractV, mkAgg, Nat.reduceLeDiff, fillA, pureVs, pureV, eqV, eqB, lenV.eq_1, lenV.eq_2, lenV.eq_3, lenV.eq_4, binV, intBin, intV, idxA, List.drop, List.take, RetP, retP, resV, resOne, snapV, snapVs, snapR, snapRs, ownSz, pickV, AO.isC, opE, opD, funV]
          · have q5 : ¬ (x : Int) < 128 := by omega
            simp only [runL, opQ, evOp, evO, evOs, guardV, argsA, pvs, putS, cellsOf, scals, scal, Nat.reduceEqDiff, Nat.reduceAdd, reduceCtorEq, fieldA, nonNil, cellsAt, mkAgg, allPV, storeB, patchL, Int.reduceToNat, Nat.reduceMul, Nat.reduceLT, stepA, Int.reduceNeg, Int.reduceLE, Int.reduceLT, Int.reduceEq, extractV, mkAgg, Nat.reduceLeDiff, fillA, pureVs, pureV, eqV, eqB, lenV.eq_1, lenV.eq_2, lenV.eq_3, lenV.eq_4, binV, intBin, intV, idxA, List.drop, List.take, RetP, retP, resV, resOne, snapV, snapVs, snapR, snapRs, ownSz, pickV, AO.isC, opE, opD, funV, h0, h1, h7, h8, h9, bytesP, u8C, hlt, hget, w0, q1, q3, q5, w1, e1, e2, e3, hw', hw7]
            refine step c5 _ _ _ ?_ ?_ ?_ ?_ ?_
            all_goals try simp only [look_if, blkAt_if, Nat.reduceEqDiff, if_true, if_false, h0, h1]
end
end Go.Proofs.YtogbpgkefkbffaaDoor.Ab
/- (rn) Layer 2 (wire): all numbers of bytes: of both texts. -/
set_option linter.unusedVariables false
set_option linter.unusedSimpArgs false
namespace Go.Proofs.YtogbpgkefkbffaaDoor.Ab
open Go

theorem rd0_lt {l : List Nat} {v c : Nat} (hu : U8 l) (h : rd0 l = some (v, c)) : v < 18446744073709551616 ∧ 0 < c ∧ c ≤ l.length ∧ c ≤ 10 := by
  obtain ⟨h1, h2, h3, h4⟩ := rd_lt l 0 0 v c hu (by simp) h
  exact ⟨h1, h2, by omega, h4⟩
/-- The numbers of all bytes, or where the first one is none. -/
def allN (l : List Nat) : Sum Nat (List Nat) :=
  if h : l = [] then .inr [] else match rd0 l with
    | none => .inl 0
    | some (v, c) => match allN (l.drop (c - 1 + 1)) with
      | .inl e => .inl (c + e)
      | .inr r => .inr (v :: r)
termination_by l.length
decreasing_by
  have : 0 < l.length := List.length_pos_iff.2 h
  simp
  omega
def joinA (a : Nat) (acc : List Nat) : Sum Nat (List Nat) → Sum Nat (List Nat)
  | .inl e => .inl (a + e)
  | .inr r => .inr (acc ++ r)
theorem allN_nil : allN [] = .inr [] := by rw [allN, dif_pos rfl]
theorem allN_none {l : List Nat} (h : l ≠ []) (hr : rd0 l = none) : allN l = .inl 0 := by
  rw [allN, dif_neg h, hr]
theorem allN_some {l : List Nat} (hu : U8 l) {v c : Nat} (hr : rd0 l = some (v, c)) : allN l = joinA c [v] (allN (l.drop c)) := by
  obtain ⟨h1, h2, h3, h4⟩ := rd0_lt hu hr
  have hne : l ≠ [] := by
    intro h
    subst h
    simp at h3
    omega
  rw [allN, dif_neg hne, hr]
  have e : c - 1 + 1 = c := by omega
  simp only [e]
  cases allN (l.drop c) <;> rfl
theorem joinA_joinA (a c : Nat) (acc l : List Nat) (o : Sum Nat (List Nat)) : joinA a acc (joinA c l o) = joinA (a + c) (acc ++ l) o := by
  cases o <;> simp [joinA, Nat.add_assoc]
theorem U8.drop {l : List Nat} (h : U8 l) (n : Nat) : U8 (l.drop n) := fun m hm => h m (List.mem_of_mem_drop hm)

/-- Numbers, so many, and of how many bytes; or where one is none. -/
def getN : Nat → List Nat → Sum Nat (List Nat × Nat)
  | 0, _ => .inr ([], 0)
  | k + 1, l => match rd0 l with
    | none => .inl 0
    | some (v, c) => match getN k (l.drop c) with
      | .inl e => .inl (c + e)
      | .inr (r, d) => .inr (v :: r, c + d)
def joinG (a : Nat) (acc : List Nat) : Sum Nat (List Nat × Nat) → Sum Nat (List Nat × Nat)
  | .inl e => .inl (a + e)
  | .inr (r, d) => .inr (acc ++ r, a + d)
theorem getN_some {k : Nat} {l : List Nat} {v c : Nat} (hr : rd0 l = some (v, c)) : getN (k + 1) l = joinG c [v] (getN k (l.drop c)) := by
  simp only [getN, hr]
  cases getN k (l.drop c) <;> rfl
theorem joinG_joinG (a c : Nat) (acc l : List Nat) (o : Sum Nat (List Nat × Nat)) : joinG a acc (joinG c l o) = joinG (a + c) (acc ++ l) o := by
  rcases o with e | ⟨r, d⟩ <;> simp [joinG, Nat.add_assoc]

section
variable {T : Tab}
theorem one2_ok (h265 : Std T 265 f265) (b : List Nat) (hb : U8 b) (hl : b.length ≤ 2 ^ 30) (a : Nat) (ha : a ≤ b.length) : Gives T 265 [bytesP b, .int .i64 (a : Int)] (oneR a (rd0 (b.drop a))) := by
  refine gives h265 rfl ?_
  simp only [f265, runL, opQ, evOp, evO, evOs, guardV, argsA, pvs, putS, cellsOf, scals, scal, Nat.reduceEqDiff, Nat.reduceAdd, reduceCtorEq, fieldA, nonNil, cellsAt, mkAgg, allPV, storeB, patchL, Int.reduceToNat, Nat.reduceMul, Nat.reduceLT, stepA, Int.reduceNeg, Int.reduceLE, Int.reduceLT, Int.reduceEq, extractV, mkAgg, Nat.reduceLeDiff, fillA, pureVs, pureV, eqV, eqB, lenV.eq_1, lenV.eq_2, lenV.eq_3, lenV.eq_4, binV, intBin, intV, idxA, List.drop, List.take, RetP, retP, resV, resOne, snapV, snapVs, snapR, snapRs, ownSz, pickV, AO.isC, opE, opD, funV]
  refine one2_loop b hb hl a _ (rd0 (b.drop a)) (fun ho fr hp nx => ?_) (fun fr hp nx hr => ?_) (b.drop a) 0 0 rfl ha (by omega) (by simp) rfl _ _ _ rfl rfl rfl rfl rfl
  · simp only [runL, opQ, evOp, evO, evOs, guardV, argsA, pvs, putS, cellsOf, scals, scal, Nat.reduceEqDiff, Nat.reduceAdd, reduceCtorEq, fieldA, nonNil, cellsAt, mkAgg, allPV, storeB, patchL, Int.reduceToNat, Nat.reduceMul, Nat.reduceLT, stepA, Int.reduceNeg, Int.reduceLE, Int.reduceLT, Int.reduceEq, extractV, mkAgg, Nat.reduceLeDiff, fillA, pureVs, pureV, eqV, eqB, lenV.eq_1, lenV.eq_2, lenV.eq_3, lenV.eq_4, binV, intBin, intV, idxA, List.drop, List.take, RetP, retP, resV, resOne, snapV, snapVs, snapR, snapRs, ownSz, pickV, AO.isC, opE, opD, funV, ho, oneR]
  · simp only [blkQ_ret, seqQ_ret, RetP, retP, hr]
    cases rd0 (b.drop a) with
    | none => rfl
    | some q => rfl

theorem all2_loop (h265 : Std T 265 f265) (b : List Nat) (hb : U8 b) (hl : b.length ≤ 2 ^ 30) (Q : Exit → St → Prop) (o : Sum Nat (List Nat))
    (hend : ∀ l, o = .inr l → ∀ fr hp nx, Own (look fr 4) hp 1 (l.map u64C) 0 nx → Q (.exit 0) ⟨fr, hp, nx⟩)
    (hret : ∀ e, o = .inl e → ∀ fr hp nx, retP [.t 2, .t 3] ⟨fr, hp, nx⟩ = some (.tuple [.slice [], spotE e 2]) → Q .ret ⟨fr, hp, nx⟩) :
    ∀ (m a : Nat) (acc : List Nat), b.length - a ≤ m → a ≤ b.length → acc.length ≤ a → joinA a acc (allN (b.drop a)) = o → ∀ (fr : List (Nat × AV)) (hp : Hl) (nx : Nat), look fr 0 = .pv (bytesP b) →
      look fr 5 = .pv (.int .i64 a) → Own (look fr 4) hp 1 (acc.map u64C) 0 nx → Wp T false (.loop f262l0) ⟨fr, hp, nx⟩ Q := by
  intro m
  induction m with
  | zero =>
    intro a acc hm ha hc ho fr hp nx h0 h5 h4
    have e : b.drop a = [] := List.drop_eq_nil_of_le (by omega)
    rw [e, allN_nil] at ho
    simp only [joinA, List.append_nil] at ho
    have hn : ¬ (a : Int) < (b.length : Int) := by omega
    rw [Wp_loop, Wp_eq f262l0.eq_1]
    simp only [runL, opQ, evOp, evO, evOs, guardV, argsA, pvs, putS, cellsOf, scals, scal, Nat.reduceEqDiff, Nat.reduceAdd, reduceCtorEq, fieldA, nonNil, cellsAt, mkAgg, allPV, storeB, patchL, Int.reduceToNat, Nat.reduceMul, Nat.reduceLT, stepA, Int.reduceNeg, Int.reduceLE, Int.reduceLT, Int.reduceEq, extractV, mkAgg, Nat.reduceLeDiff, fillA, pureVs, pureV, eqV, eqB, lenV.eq_1, lenV.eq_2, lenV.eq_3, lenV.eq_4, binV, intBin, intV, idxA, List.drop, List.take, RetP, retP, resV, resOne, snapV, snapVs, snapR, snapRs, ownSz, pickV, AO.isC, opE, opD, funV, h0, h5, bytesP, hn]
    exact hend acc ho.symm _ _ _ (by simp only [look_if, blkAt_if, Nat.reduceEqDiff, if_true, if_false]; exact h4)
  | succ m ih =>
    intro a acc hm ha hc ho fr hp nx h0 h5 h4
    by_cases hlt : a < b.length
    · have hlt' : (a : Int) < (b.length : Int) := by omega
      have k := one2_ok h265 b hb hl a ha
      have hne : b.drop a ≠ [] := by
        intro h
        have := congrArg List.length h
        simp at this
        omega
      have h0' := h0
      simp only [bytesP] at h0' k
      rw [Wp_loop, Wp_eq f262l0.eq_1]
      cases hr : rd0 (b.drop a) with
      | none =>
        rw [allN_none hne hr] at ho
        simp only [joinA, Nat.add_zero] at ho
        rw [hr] at k
        simp only [oneR] at k
        simp only [runL, opQ, evOp, evO, evOs, guardV, argsA, pvs, putS, cellsOf, scals, scal, Nat.reduceEqDiff, Nat.reduceAdd, reduceCtorEq, fieldA, nonNil, cellsAt, mkAgg, allPV, storeB, patchL, Int.reduceToNat, Nat.reduceMul, Nat.reduceLT, stepA, Int.reduceNeg, Int.reduceLE, Int.reduceLT, Int.reduceEq, extractV, mkAgg, Nat.reduceLeDiff, fillA, pureVs, pureV, eqV, eqB, lenV.eq_1, lenV.eq_2, lenV.eq_3, lenV.eq_4, binV, intBin, intV, idxA, List.drop, List.take, RetP, retP, resV, resOne, snapV, snapVs, snapR, snapRs, ownSz, pickV, AO.isC, opE, opD, funV, h0', h5, hlt', k.call]
        refine hret a ho.symm _ _ _ ?_
        simp only [runL, opQ, evOp, evO, evOs, guardV, argsA, pvs, putS, cellsOf, scals, scal, Nat.reduceEqDiff, Nat.reduceAdd, reduceCtorEq, fieldA, nonNil, cellsAt, mkAgg, allPV, storeB, patchL, Int.reduceToNat, Nat.reduceMul, Nat.reduceLT, stepA, Int.reduceNeg, Int.reduceLE, Int.reduceLT, Int.reduceEq, extractV, mkAgg, Nat.reduceLeDiff, fillA, pureVs, pureV, eqV, eqB, lenV.eq_1, lenV.eq_2, lenV.eq_3, lenV.eq_4, binV, intBin, intV, idxA, List.drop, List.take, RetP, retP, resV, resOne, snapV, snapVs, snapR, snapRs, ownSz, pickV, AO.isC, opE, opD, funV, spotE]
      | some q =>
        obtain ⟨v, c⟩ := q
        obtain ⟨q1, q2, q3, q4⟩ := rd0_lt (hb.drop a) hr
        rw [List.length_drop] at q3
        rw [allN_some (hb.drop a) hr, joinA_joinA, List.drop_drop] at ho
        rw [hr] at k
        simp only [oneR] at k
        obtain ⟨v', W, n, a1, a2, a3⟩ := h4.app1 (Nat.zero_le _) (u64C v) (by rw [List.length_map]; omega)
        simp only [u64C] at a1 a3
        simp only [runL, opQ, evOp, evO, evOs, guardV, argsA, pvs, putS, cellsOf, scals, scal, Nat.reduceEqDiff, Nat.reduceAdd, reduceCtorEq, fieldA, nonNil, cellsAt, mkAgg, allPV, storeB, patchL, Int.reduceToNat, Nat.reduceMul, Nat.reduceLT, stepA, Int.reduceNeg, Int.reduceLE, Int.reduceLT, Int.reduceEq, extractV, mkAgg, Nat.reduceLeDiff, fillA, pureVs, pureV, eqV, eqB, lenV.eq_1, lenV.eq_2, lenV.eq_3, lenV.eq_4, binV, intBin, intV, idxA, List.drop, List.take, RetP, retP, resV, resOne, snapV, snapVs, snapR, snapRs, ownSz, pickV, AO.isC, opE, opD, funV, h0', h5, hlt', k.call, partsScal, srcV, chunk, allLen, List.all_cons, List.all_nil, a1]
        refine ih (a + c) (acc ++ [v]) (by omega) (by omega) (by simp; omega) ho _ _ _ ?_ ?_ ?_
        all_goals try simp only [look_if, blkAt_if, Nat.reduceEqDiff, if_true, if_false, h0]
        simpa only [List.map_append, List.map_cons, List.map_nil, u64C] using a3
    · have e : b.drop a = [] := List.drop_eq_nil_of_le (by omega)
      rw [e, allN_nil] at ho
      simp only [joinA, List.append_nil] at ho
      have hn : ¬ (a : Int) < (b.length : Int) := by omega
      rw [Wp_loop, Wp_eq f262l0.eq_1]
      simp only [runL, opQ, evOp, evO, evOs, guardV, argsA, pvs, putS, cellsOf, scals, scal, Nat.reduceEqDiff, Nat.reduceAdd, reduceCtorEq, fieldA, nonNil, cellsAt, mkAgg, allPV, storeB, patchL, Int.reduceToNat, Nat.reduceMul, Nat.reduceLT, stepA, Int.reduceNeg, Int.reduceLE, Int.reduceLT, Int.reduceEq, extractV, mkAgg, Nat.reduceLeDiff, fillA, pureVs, pureV, eqV, eqB, lenV.eq_1, lenV.eq_2, lenV.eq_3, lenV.eq_4, binV, intBin, intV, idxA, List.drop, List.take, RetP, retP, resV, resOne, snapV, snapVs, snapR, snapRs, ownSz, pickV, AO.isC, opE, opD, funV, h0, h5, bytesP, hn]
      exact hend acc ho.symm _ _ _ (by simp only [look_if, blkAt_if, Nat.reduceEqDiff, if_true, if_false]; exact h4)
def allR : Sum Nat (List Nat) → PV
  | .inr l => .tuple [u64s l, .nili]
  | .inl e => .tuple [.slice [], spotE e 2]
theorem all2_ok (h262 : Std T 262 f262) (h265 : Std T 265 f265) (b : List Nat) (hb : U8 b) (hl : b.length ≤ 2 ^ 30) : Gives T 262 [bytesP b] (allR (allN b)) := by
  refine gives h262 rfl ?_
  simp only [f262, runL, opQ, evOp, evO, evOs, guardV, argsA, pvs, putS, cellsOf, scals, scal, Nat.reduceEqDiff, Nat.reduceAdd, reduceCtorEq, fieldA, nonNil, cellsAt, mkAgg, allPV, storeB, patchL, Int.reduceToNat, Nat.reduceMul, Nat.reduceLT, stepA, Int.reduceNeg, Int.reduceLE, Int.reduceLT, Int.reduceEq, extractV, mkAgg, Nat.reduceLeDiff, fillA, pureVs, pureV, eqV, eqB, lenV.eq_1, lenV.eq_2, lenV.eq_3, lenV.eq_4, binV, intBin, intV, idxA, List.drop, List.take, RetP, retP, resV, resOne, snapV, snapVs, snapR, snapRs, ownSz, pickV, AO.isC, opE, opD, funV]
  refine all2_loop h265 b hb hl _ (allN b) (fun l ho fr hp nx h4 => ?_) (fun e ho fr hp nx hr => ?_) b.length 0 [] (by omega) (Nat.zero_le _) (Nat.le_refl _) ?_ _ _ _ rfl rfl Own.nil
  · simp only [runL, opQ, evOp, evO, evOs, guardV, argsA, pvs, putS, cellsOf, scals, scal, Nat.reduceEqDiff, Nat.reduceAdd, reduceCtorEq, fieldA, nonNil, cellsAt, mkAgg, allPV, storeB, patchL, Int.reduceToNat, Nat.reduceMul, Nat.reduceLT, stepA, Int.reduceNeg, Int.reduceLE, Int.reduceLT, Int.reduceEq, extractV, mkAgg, Nat.reduceLeDiff, fillA, pureVs, pureV, eqV, eqB, lenV.eq_1, lenV.eq_2, lenV.eq_3, lenV.eq_4, binV, intBin, intV, idxA, List.drop, List.take, RetP, retP, resV, resOne, snapV, snapVs, snapR, snapRs, ownSz, pickV, AO.isC, opE, opD, funV, ho, allR, h4.snap, u64s]
  · simp only [blkQ_ret, seqQ_ret, RetP, hr, ho, allR]
  · rw [List.drop_zero]
    cases allN b <;> simp [joinA]

theorem get2_loop (h265 : Std T 265 f265) (b : List Nat) (hb : U8 b) (hl : b.length ≤ 2 ^ 30) (many : Int) (Q : Exit → St → Prop) (o : Sum Nat (List Nat × Nat))
    (hend : ∀ l d, o = .inr (l, d) → ∀ fr hp nx, Own (look fr 7) hp 1 (l.map u64C) 0 nx → look fr 8 = .pv (.int .i64 d) → Q (.exit 0) ⟨fr, hp, nx⟩)
    (hret : ∀ e, o = .inl e → ∀ fr hp nx, retP [.t 4, .t 5, .t 6] ⟨fr, hp, nx⟩ = some (.tuple [.slice [], .int .i64 0, spotE e 2]) → Q .ret ⟨fr, hp, nx⟩) :
    ∀ (m a : Nat) (acc : List Nat), b.length - a ≤ m → a ≤ b.length → acc.length ≤ a → joinG a acc (getN (many.toNat - acc.length) (b.drop a)) = o → ∀ (fr : List (Nat × AV)) (hp : Hl) (nx : Nat), look fr 0 = .pv (bytesP b) → look fr 1 = .pv (.int .i64 many) →
      look fr 8 = .pv (.int .i64 a) → Own (look fr 7) hp 1 (acc.map u64C) 0 nx → Wp T false (.loop f263l0) ⟨fr, hp, nx⟩ Q := by
  intro m
  induction m with
  | zero =>
    intro a acc hm ha hc ho fr hp nx h0 h1 h8 h7
    have e : b.drop a = [] := List.drop_eq_nil_of_le (by omega)
    have hl7 := h7.len
    rw [List.length_map] at hl7
    rw [e] at ho
    rw [Wp_loop, Wp_eq f263l0.eq_1]
    by_cases hk : (acc.length : Int) < many
    · obtain ⟨j, hj⟩ : ∃ j, many.toNat - acc.length = j + 1 := ⟨many.toNat - acc.length - 1, by omega⟩
      rw [hj] at ho
      have k := one2_ok h265 b hb hl a ha
      rw [e] at k
      simp only [rd0, rd, oneR, bytesP] at k
      have h0' := h0
      simp only [bytesP] at h0'
      simp only [getN, rd0, rd, joinG, Nat.add_zero] at ho
      simp only [runL, opQ, evOp, evO, evOs, guardV, argsA, pvs, putS, cellsOf, scals, scal, Nat.reduceEqDiff, Nat.reduceAdd, reduceCtorEq, fieldA, nonNil, cellsAt, mkAgg, allPV, storeB, patchL, Int.reduceToNat, Nat.reduceMul, Nat.reduceLT, stepA, Int.reduceNeg, Int.reduceLE, Int.reduceLT, Int.reduceEq, extractV, mkAgg, Nat.reduceLeDiff, fillA, pureVs, pureV, eqV, eqB, lenV.eq_1, lenV.eq_2, lenV.eq_3, lenV.eq_4, binV, intBin, intV, idxA, List.drop, List.take, RetP, retP, resV, resOne, snapV, snapVs, snapR, snapRs, ownSz, pickV, AO.isC, opE, opD, funV, h0', h1, h8, hl7, hk, k.call]
      refine hret a ho.symm _ _ _ ?_
      simp only [runL, opQ, evOp, evO, evOs, guardV, argsA, pvs, putS, cellsOf, scals, scal, Nat.reduceEqDiff, Nat.reduceAdd, reduceCtorEq, fieldA, nonNil, cellsAt, mkAgg, allPV, storeB, patchL, Int.reduceToNat, Nat.reduceMul, Nat.reduceLT, stepA, Int.reduceNeg, Int.reduceLE, Int.reduceLT, Int.reduceEq, extractV, mkAgg, Nat.reduceLeDiff, fillA, pureVs, pureV, eqV, eqB, lenV.eq_1, lenV.eq_2, lenV.eq_3, lenV.eq_4, binV, intBin, intV, idxA, List.drop, List.take, RetP, retP, resV, resOne, snapV, snapVs, snapR, snapRs, ownSz, pickV, AO.isC, opE, opD, funV, spotE]
    · have hj : many.toNat - acc.length = 0 := by omega
      rw [hj] at ho
      simp only [getN, joinG, List.append_nil, Nat.add_zero] at ho
      simp only [runL, opQ, evOp, evO, evOs, guardV, argsA, pvs, putS, cellsOf, scals, scal, Nat.reduceEqDiff, Nat.reduceAdd, reduceCtorEq, fieldA, nonNil, cellsAt, mkAgg, allPV, storeB, patchL, Int.reduceToNat, Nat.reduceMul, Nat.reduceLT, stepA, Int.reduceNeg, Int.reduceLE, Int.reduceLT, Int.reduceEq, extractV, mkAgg, Nat.reduceLeDiff, fillA, pureVs, pureV, eqV, eqB, lenV.eq_1, lenV.eq_2, lenV.eq_3, lenV.eq_4, binV, intBin, intV, idxA, List.drop, List.take, RetP, retP, resV, resOne, snapV, snapVs, snapR, snapRs, ownSz, pickV, AO.isC, opE, opD, funV, h1, hl7, hk]
      refine hend acc a ho.symm _ _ _ ?_ ?_
      all_goals try simp only [look_if, blkAt_if, Nat.reduceEqDiff, if_true, if_false, h8]
      exact h7
  | succ m ih =>
    intro a acc hm ha hc ho fr hp nx h0 h1 h8 h7
    have hl7 := h7.len
    rw [List.length_map] at hl7
    rw [Wp_loop, Wp_eq f263l0.eq_1]
    by_cases hk : (acc.length : Int) < many
    · obtain ⟨j, hj⟩ : ∃ j, many.toNat - acc.length = j + 1 := ⟨many.toNat - acc.length - 1, by omega⟩
      rw [hj] at ho
      have k := one2_ok h265 b hb hl a ha
      have h0' := h0
      simp only [bytesP] at h0' k
      cases hr : rd0 (b.drop a) with
      | none =>
        simp only [getN, hr, joinG, Nat.add_zero] at ho
        rw [hr] at k
        simp only [oneR] at k
        simp only [runL, opQ, evOp, evO, evOs, guardV, argsA, pvs, putS, cellsOf, scals, scal, Nat.reduceEqDiff, Nat.reduceAdd, reduceCtorEq, fieldA, nonNil, cellsAt, mkAgg, allPV, storeB, patchL, Int.reduceToNat, Nat.reduceMul, Nat.reduceLT, stepA, Int.reduceNeg, Int.reduceLE, Int.reduceLT, Int.reduceEq, extractV, mkAgg, Nat.reduceLeDiff, fillA, pureVs, pureV, eqV, eqB, lenV.eq_1, lenV.eq_2, lenV.eq_3, lenV.eq_4, binV, intBin, intV, idxA, List.drop, List.take, RetP, retP, resV, resOne, snapV, snapVs, snapR, snapRs, ownSz, pickV, AO.isC, opE, opD, funV, h0', h1, h8, hl7, hk, k.call]
        refine hret a ho.symm _ _ _ ?_
        simp only [runL, opQ, evOp, evO, evOs, guardV, argsA, pvs, putS, cellsOf, scals, scal, Nat.reduceEqDiff, Nat.reduceAdd, reduceCtorEq, fieldA, nonNil, cellsAt, mkAgg, allPV, storeB, patchL, Int.reduceToNat, Nat.reduceMul, Nat.reduceLT, stepA, Int.reduceNeg, Int.reduceLE, Int.reduceLT, Int.reduceEq, extractV, mkAgg, Nat.reduceLeDiff, fillA, pureVs, pureV, eqV, eqB, lenV.eq_1, lenV.eq_2, lenV.eq_3, lenV.eq_4, binV, intBin, intV, idxA, List.drop, List.take, RetP, retP, resV, resOne, snapV, snapVs, snapR, snapRs, ownSz, pickV, AO.isC, opE, opD, funV, spotE]
      | some q =>
        obtain ⟨v, c⟩ := q
        obtain ⟨q1, q2, q3, q4⟩ := rd0_lt (hb.drop a) hr
        rw [List.length_drop] at q3
        rw [getN_some hr, joinG_joinG, List.drop_drop] at ho
        rw [hr] at k
        simp only [oneR] at k
        obtain ⟨v', W, n, a1, a2, a3⟩ := h7.app1 (Nat.zero_le _) (u64C v) (by rw [List.length_map]; omega)
        simp only [u64C] at a1 a3
        simp only [runL, opQ, evOp, evO, evOs, guardV, argsA, pvs, putS, cellsOf, scals, scal, Nat.reduceEqDiff, Nat.reduceAdd, reduceCtorEq, fieldA, nonNil, cellsAt, mkAgg, allPV, storeB, patchL, Int.reduceToNat, Nat.reduceMul, Nat.reduceLT, stepA, Int.reduceNeg, Int.reduceLE, Int.reduceLT, Int.reduceEq, extractV, mkAgg, Nat.reduceLeDiff, fillA, pureVs, pureV, eqV, eqB, lenV.eq_1, lenV.eq_2, lenV.eq_3, lenV.eq_4, binV, intBin, intV, idxA, List.drop, List.take, RetP, retP, resV, resOne, snapV, snapVs, snapR, snapRs, ownSz, pickV, AO.isC, opE, opD, funV, h0', h1, h8, hl7, hk, k.call, partsScal, srcV, chunk, allLen, List.all_cons, List.all_nil, a1]
        refine ih (a + c) (acc ++ [v]) (by omega) (by omega) (by simp; omega) ?_ _ _ _ ?_ ?_ ?_ ?_
        · rw [← ho, show many.toNat - (acc ++ [v]).length = j by simp; omega]
        all_goals try simp only [look_if, blkAt_if, Nat.reduceEqDiff, if_true, if_false, h0, h1]
        simpa only [List.map_append, List.map_cons, List.map_nil, u64C] using a3
    · have hj : many.toNat - acc.length = 0 := by omega
      rw [hj] at ho
      simp only [getN, joinG, List.append_nil, Nat.add_zero] at ho
      simp only [runL, opQ, evOp, evO, evOs, guardV, argsA, pvs, putS, cellsOf, scals, scal, Nat.reduceEqDiff, Nat.reduceAdd, reduceCtorEq, fieldA, nonNil, cellsAt, mkAgg, allPV, storeB, patchL, Int.reduceToNat, Nat.reduceMul, Nat.reduceLT, stepA, Int.reduceNeg, Int.reduceLE, Int.reduceLT, Int.reduceEq, extractV, mkAgg, Nat.reduceLeDiff, fillA, pureVs, pureV, eqV, eqB, lenV.eq_1, lenV.eq_2, lenV.eq_3, lenV.eq_4, binV, intBin, intV, idxA, List.drop, List.take, RetP, retP, resV, resOne, snapV, snapVs, snapR, snapRs, ownSz, pickV, AO.isC, opE, opD, funV, h1, hl7, hk]
      refine hend acc a ho.symm _ _ _ ?_ ?_
      all_goals try simp only [look_if, blkAt_if, Nat.reduceEqDiff, if_true, if_false, h8]
      exact h7
def getR : Sum Nat (List Nat × Nat) → PV
  | .inr (l, d) => .tuple [u64s l, .int .i64 (d : Int), .nili]
  | .inl e => .tuple [.slice [], .int .i64 0, spotE e 2]
theorem get2_ok (h263 : Std T 263 f263) (h265 : Std T 265 f265) (b : List Nat) (hb : U8 b) (hl : b.length ≤ 2 ^ 30) (many : Int) : Gives T 263 [bytesP b, .int .i64 many] (getR (getN many.toNat b)) := by
  refine gives h263 rfl ?_
  simp only [f263, runL, opQ, evOp, evO, evOs, guardV, argsA, pvs, putS, cellsOf, scals, scal, Nat.reduceEqDiff, Nat.reduceAdd, reduceCtorEq, fieldA, nonNil, cellsAt, mkAgg, allPV, storeB, patchL, Int.reduceToNat, Nat.reduceMul, Nat.reduceLT, stepA, Int.reduceNeg, Int.reduceLE, Int.reduceLT, Int.reduceEq, extractV, mkAgg, Nat.reduceLeDiff, fillA, pureVs, pureV, eqV, eqB, lenV.eq_1, lenV.eq_2, lenV.eq_3, lenV.eq_4, binV, intBin, intV, idxA, List.drop, List.take, RetP, retP, resV, resOne, snapV, snapVs, snapR, snapRs, ownSz, pickV, AO.isC, opE, opD, funV]
  refine get2_loop h265 b hb hl many _ (getN many.toNat b) (fun l d ho fr hp nx h7 h8 => ?_) (fun e ho fr hp nx hr => ?_) b.length 0 [] (by omega) (Nat.zero_le _) (Nat.le_refl _) ?_ _ _ _ rfl rfl rfl Own.nil
  · simp only [runL, opQ, evOp, evO, evOs, guardV, argsA, pvs, putS, cellsOf, scals, scal, Nat.reduceEqDiff, Nat.reduceAdd, reduceCtorEq, fieldA, nonNil, cellsAt, mkAgg, allPV, storeB, patchL, Int.reduceToNat, Nat.reduceMul, Nat.reduceLT, stepA, Int.reduceNeg, Int.reduceLE, Int.reduceLT, Int.reduceEq, extractV, mkAgg, Nat.reduceLeDiff, fillA, pureVs, pureV, eqV, eqB, lenV.eq_1, lenV.eq_2, lenV.eq_3, lenV.eq_4, binV, intBin, intV, idxA, List.drop, List.take, RetP, retP, resV, resOne, snapV, snapVs, snapR, snapRs, ownSz, pickV, AO.isC, opE, opD, funV, ho, getR, h7.snap, h8, u64s]
  · simp only [blkQ_ret, seqQ_ret, RetP, hr, ho, getR]
  · simp only [List.drop_zero, List.length_nil, Nat.sub_zero]
    rcases getN many.toNat b with e | ⟨r, d⟩ <;> simp [joinG]
end
end Go.Proofs.YtogbpgkefkbffaaDoor.Ab
/- (rn) Layer 2 (wire): the document's numbers of bytes. -/
set_option linter.unusedVariables false
set_option linter.unusedSimpArgs false
namespace Go.Proofs.YtogbpgkefkbffaaDoor.Ab
open Go
section
variable {T : Tab}
theorem e_mod8 (x : Nat) : (x : Int).tmod (Int.ofNat 128) = ((x % 128 : Nat) : Int) := e_mod x
theorem one2r_loop (h150 : Std T 150 f150) (b : List Nat) (hb : U8 b) (hl : b.length ≤ 2 ^ 30) (a : Nat) (Q : Exit → St → Prop) (o : Option (Nat × Nat))
    (hend : o = none → ∀ fr hp nx, Q (.exit 0) ⟨fr, hp, nx⟩) (hret : ∀ fr hp nx, resV (look fr) (blkAt hp) [.t 4, .t 5] = some (match o with | some (v, c) => [.pv (.int .u64 (v : Int)), .pv (.int .i64 ((a + c : Nat) : Int))] | none => [.pv (.int .u64 0), .pv (.int .i64 (-1))]) → Q .ret ⟨fr, hp, nx⟩) :
    ∀ (rest : List Nat) (k n : Nat) (p : Int), b.drop (a + k) = rest → a + k ≤ b.length → k ≤ 10 → (k ≤ 9 → n < 128 ^ k ∧ p = ((128 ^ k : Nat) : Int)) → (k = 10 → o = none) → (k ≤ 9 → rd k n rest = o) → ∀ (fr : List (Nat × AV)) (hp : Hl) (nx : Nat), look fr 0 = .pv (bytesP b) → look fr 1 = .pv (.int .i64 a) →
      look fr 6 = .pv (.int .u64 n) → look fr 7 = .pv (.int .u64 p) → look fr 8 = .pv (.int .i64 ((a + k : Nat) : Int)) → Wp T false (.loop f149l0) ⟨fr, hp, nx⟩ Q := by
  intro rest
  have w10 : ∀ k, a + k ≤ b.length → IntKind.i64.wrap ((a : Int) + 10) = (a : Int) + 10 := fun k hk => by rw [wrap6] <;> omega
  have w9 : ∀ k, a + k ≤ b.length → IntKind.i64.wrap ((a : Int) + 9) = (a : Int) + 9 := fun k hk => by rw [wrap6] <;> omega
  induction rest with
  | nil =>
    intro k n p hd hi hk hn h10 ho fr hp nx h0 h1 h6 h7 h8
    have hlen := drop_nil hd hi
    have hon : o = none := by
      by_cases hk9 : k ≤ 9
      · rw [← ho hk9]; rfl
      · exact h10 (by omega)
    rw [Wp_loop, Wp_eq f149l0.eq_1]
    simp only [runL, opQ, evOp, evO, evOs, guardV, argsA, pvs, putS, cellsOf, scals, scal, Nat.reduceEqDiff, Nat.reduceAdd, reduceCtorEq, fieldA, nonNil, cellsAt, mkAgg, allPV, storeB, patchL, Int.reduceToNat, Nat.reduceMul, Nat.reduceLT, stepA, Int.reduceNeg, Int.reduceLE, Int.reduceLT, Int.reduceEq, extractV, mkAgg, Nat.reduceLeDiff, fillA, pureVs, pureV, eqV, eqB, lenV.eq_1, lenV.eq_2, lenV.eq_3, lenV.eq_4, binV, intBin, intV, idxA, List.drop, List.take, RetP, retP, resV, resOne, snapV, snapVs, snapR, snapRs, ownSz, pickV, AO.isC, opE, opD, funV, h0, h8, bytesP, hlen, Int.lt_irrefl]
    exact hend hon _ _ _
  | cons x r ih =>
    intro k n p hd hi hk hn h10 ho fr hp nx h0 h1 h6 h7 h8
    obtain ⟨hget, hlt, hw, hd', hi', hbb⟩ := drop_cons hd hl
    have hx : x < 256 := hb x (List.mem_iff_getElem?.2 ⟨_, hget⟩)
    rw [Wp_loop, Wp_eq f149l0.eq_1]
    by_cases hk9 : k ≤ 9
    · obtain ⟨hnn, rfl⟩ := hn hk9
      replace ho := ho hk9
      have hw' : IntKind.i64.wrap (((a + k : Nat) : Int) + 1) = ((a + (k + 1) : Nat) : Int) := by rw [hw]; omega
      have w0 : IntKind.u8.wrap ((x % 128 : Nat) : Int) = ((x % 128 : Nat) : Int) := wrapB (by omega) (by omega)
      have w1 : IntKind.u64.wrap ((x % 128 : Nat) : Int) = ((x % 128 : Nat) : Int) := wrapU' (by omega) (by omega)
      have c0 : ((a + k : Nat) : Int) < (a : Int) + 10 := by omega
      have hN : ¬ 10 ≤ k := by omega
      simp only [rd, hN, false_or] at ho
      by_cases cA : k = 9 ∧ 1 < x % 128
      · obtain ⟨c9, c1⟩ := cA
        have q1 : decide (((a + k : Nat) : Int) = (a : Int) + 9) = true := by rw [decide_eq_true_eq]; omega
        have q2 : (1 : Int) < ((x % 128 : Nat) : Int) := by omega
        have hon : o = none := by
          rw [← ho, if_pos (.inl ⟨c9, by omega⟩)]
        simp only [runL, opQ, evOp, evO, evOs, guardV, argsA, pvs, putS, cellsOf, scals, scal, Nat.reduceEqDiff, Nat.reduceAdd, reduceCtorEq, fieldA, nonNil, cellsAt, mkAgg, allPV, storeB, patchL, Int.reduceToNat, Nat.reduceMul, Nat.reduceLT, stepA, Int.reduceNeg, Int.reduceLE, Int.reduceLT, Int.reduceEq, extractV, mkAgg, Nat.reduceLeDiff, fillA, pureVs, pureV, eqV, eqB, lenV.eq_1, lenV.eq_2, lenV.eq_3, lenV.eq_4, binV, intBin, intV, idxA, List.drop, List.take, RetP, retP, resV, resOne, snapV, snapVs, snapR, snapRs, ownSz, pickV, AO.isC, opE, opD, funV, h0, h1, h6, h7, h8, bytesP, u8C, hlt, hget, w10 k hi, w9 k hi, c0, e_mod8, w0, w1, q1, q2]
        refine hret _ _ _ ?_
        simp only [runL, opQ, evOp, evO, evOs, guardV, argsA, pvs, putS, cellsOf, scals, scal, Nat.reduceEqDiff, Nat.reduceAdd, reduceCtorEq, fieldA, nonNil, cellsAt, mkAgg, allPV, storeB, patchL, Int.reduceToNat, Nat.reduceMul, Nat.reduceLT, stepA, Int.reduceNeg, Int.reduceLE, Int.reduceLT, Int.reduceEq, extractV, mkAgg, Nat.reduceLeDiff, fillA, pureVs, pureV, eqV, eqB, lenV.eq_1, lenV.eq_2, lenV.eq_3, lenV.eq_4, binV, intBin, intV, idxA, List.drop, List.take, RetP, retP, resV, resOne, snapV, snapVs, snapR, snapRs, ownSz, pickV, AO.isC, opE, opD, funV, hon]
      · have hf : n + x % 128 * 128 ^ k < 18446744073709551616 := by
          by_cases h9 : k = 9
          · subst h9
            have : x % 128 * 128 ^ 9 ≤ 1 * 128 ^ 9 := Nat.mul_le_mul_right _ (by omega)
            omega
          · have h3 : x % 128 * 128 ^ k ≤ 127 * 128 ^ k := Nat.mul_le_mul_right _ (by omega)
            have h4 : 128 ^ k ≤ 128 ^ 8 := Nat.pow_le_pow_right (by omega) (by omega)
            omega
        have e1 : IntKind.u64.wrap (((x % 128 : Nat) : Int) * ((128 ^ k : Nat) : Int)) = ((x % 128 * 128 ^ k : Nat) : Int) := by
          rw [← Int.natCast_mul, wrapU'] <;> omega
        have e2 : IntKind.u64.wrap ((n : Int) + ((x % 128 * 128 ^ k : Nat) : Int)) = ((n + x % 128 * 128 ^ k : Nat) : Int) := by
          rw [← Int.natCast_add, wrapU'] <;> omega
        have q12 : (decide (((a + k : Nat) : Int) = (a : Int) + 9) = true ∧ ¬ (1 : Int) < ((x % 128 : Nat) : Int)) ∨ ¬ ((a + k : Nat) : Int) = (a : Int) + 9 := by
          by_cases h9 : k = 9
          · exact .inl ⟨by rw [decide_eq_true_eq]; omega, by omega⟩
          · exact .inr (by omega)
        have key : ∀ (K : Prop), (decide (((a + k : Nat) : Int) = (a : Int) + 9) = true → ¬ (1 : Int) < ((x % 128 : Nat) : Int) → K) → (¬ ((a + k : Nat) : Int) = (a : Int) + 9 → K) → K := fun K f g => by
          rcases q12 with ⟨h1, h2⟩ | h1
          · exact f h1 h2
          · exact g h1
        by_cases c5 : x < 128
        · have q5 : (x : Int) < 128 := by omega
          have kp := put1r_ok h150 (n + x % 128 * 128 ^ k) hf
          simp only [bytesP] at kp
          have w3 : IntKind.i64.wrap (((a + (k + 1) : Nat) : Int) - (a : Int)) = ((k + 1 : Nat) : Int) := by rw [wrap6] <;> omega
          have hx' : x % 128 = x := by omega
          have lenE : (putN (n + x % 128 * 128 ^ k)).length = k + 1 ↔ ¬ (k = 9 ∧ 1 < x ∨ 0 < k ∧ x = 0) := by
            rw [hx'] at hf ⊢
            by_cases z : x = 0
            · subst z
              simp only [Nat.zero_mul, Nat.add_zero]
              by_cases k0 : k = 0
              · subst k0
                have : n = 0 := by simpa using hnn
                subst this
                rw [putN_lt (by omega)]
                simp
              · obtain ⟨j, rfl⟩ : ∃ j, k = j + 1 := ⟨k - 1, by omega⟩
                have := putN_le j n hnn
                constructor
                · intro h; omega
                · intro h; exact absurd (.inr ⟨by omega, by trivial⟩) h
            · have h1 : 1 * 128 ^ k ≤ x * 128 ^ k := Nat.mul_le_mul_right _ (by omega)
              have h2 : x * 128 ^ k ≤ 127 * 128 ^ k := Nat.mul_le_mul_right _ (by omega)
              have := putN_len k (n + x * 128 ^ k) (by omega) (by rw [pow_step]; omega)
              constructor
              · intro _ h; omega
              · intro _; exact this
          by_cases cg : (putN (n + x % 128 * 128 ^ k)).length = k + 1
          · rw [if_neg (lenE.1 cg), if_pos c5] at ho
            have q6 : decide (((putN (n + x % 128 * 128 ^ k)).length : Int) = ((k + 1 : Nat) : Int)) = true := by rw [decide_eq_true_eq, cg]
            refine key _ (fun q1 q2 => ?_) (fun q1 => ?_)
            · simp only [runL, opQ, evOp, evO, evOs, guardV, argsA, pvs, putS, cellsOf, scals, scal, Nat.reduceEqDiff, Nat.reduceAdd, reduceCtorEq, fieldA, nonNil, cellsAt, mkAgg, allPV, storeB, patchL, Int.reduceToNat, Nat.reduceMul, Nat.reduceLT, stepA, Int.reduceNeg, Int.reduceLE, Int.reduceLT, Int.reduceEq, extractV, mkAgg, Nat.reduceLeDiff, fillA, pureVs, pureV, eqV, eqB, lenV.eq_1, lenV.eq_2, lenV.eq_3, lenV.eq_4, binV, intBin, intV, idxA, List.drop, List.take, RetP, retP, resV, resOne, snapV, snapVs, snapR, snapRs, ownSz, pickV, AO.isC, opE, opD, funV, h0, h1, h6, h7, h8, bytesP, u8C, hlt, hget, w10 k hi, w9 k hi, c0, e_mod8, w0, w1, q1, q2, e1, e2, q5, kp.call, hw', w3, q6, cg]
              refine hret _ _ _ ?_
              simp only [runL, opQ, evOp, evO, evOs, guardV, argsA, pvs, putS, cellsOf, scals, scal, Nat.reduceEqDiff, Nat.reduceAdd, reduceCtorEq, fieldA, nonNil, cellsAt, mkAgg, allPV, storeB, patchL, Int.reduceToNat, Nat.reduceMul, Nat.reduceLT, stepA, Int.reduceNeg, Int.reduceLE, Int.reduceLT, Int.reduceEq, extractV, mkAgg, Nat.reduceLeDiff, fillA, pureVs, pureV, eqV, eqB, lenV.eq_1, lenV.eq_2, lenV.eq_3, lenV.eq_4, binV, intBin, intV, idxA, List.drop, List.take, RetP, retP, resV, resOne, snapV, snapVs, snapR, snapRs, ownSz, pickV, AO.isC, opE, opD, funV, ← ho, hx']
            · simp only [runL, opQ, evOp, evO, evOs, guardV, argsA, pvs, putS, cellsOf, scals, scal, Nat.reduceEqDiff, Nat.reduceAdd, reduceCtorEq, fieldA, nonNil, cellsAt, mkAgg, allPV, storeB, patchL, Int.reduceToNat, Nat.reduceMul, Nat.reduceLT, stepA, Int.reduceNeg, Int.reduceLE, Int.reduceLT, Int.reduceEq, extractV, mkAgg, Nat.reduceLeDiff, fillA, pureVs, pureV, eqV, eqB, lenV.eq_1, lenV.eq_2, lenV.eq_3, lenV.eq_4, binV, intBin, intV, idxA, List.drop, List.take, RetP, retP, resV, resOne, snapV, snapVs, snapR, snapRs, ownSz, pickV, AO.isC, opE, opD, funV, h0, h1, h6, h7, h8, bytesP, u8C, hlt, hget, w10 k hi, w9 k hi, c0, e_mod8, w0, w1, q1, e1, e2, q5, kp.call, hw', w3, q6, cg]
              refine hret _ _ _ ?_
              simp only [runL, opQ, evOp, evO, evOs, guardV, argsA, pvs, putS, cellsOf, scals, scal, Nat.reduceEqDiff, Nat.reduceAdd, reduceCtorEq, fieldA, nonNil, cellsAt, mkAgg, allPV, storeB, patchL, Int.reduceToNat, Nat.reduceMul, Nat.reduceLT, stepA, Int.reduceNeg, Int.reduceLE, Int.reduceLT, Int.reduceEq, extractV, mkAgg, Nat.reduceLeDiff, fillA, pureVs, pureV, eqV, eqB, lenV.eq_1, lenV.eq_2, lenV.eq_3, lenV.eq_4, binV, intBin, intV, idxA, List.drop, List.take, RetP, retP, resV, resOne, snapV, snapVs, snapR, snapRs, ownSz, pickV, AO.isC, opE, opD, funV, ← ho, hx']
          · rw [if_pos (Classical.not_not.1 fun h => cg (lenE.2 h))] at ho
            refine key _ (fun q1 q2 => ?_) (fun q1 => ?_)
            · simp only [runL, opQ, evOp, evO, evOs, guardV, argsA, pvs, putS, cellsOf, scals, scal, Nat.reduceEqDiff, Nat.reduceAdd, reduceCtorEq, fieldA, nonNil, cellsAt, mkAgg, allPV, storeB, patchL, Int.reduceToNat, Nat.reduceMul, Nat.reduceLT, stepA, Int.reduceNeg, Int.reduceLE, Int.reduceLT, Int.reduceEq, extractV, mkAgg, Nat.reduceLeDiff, fillA, pureVs, pureV, eqV, eqB, lenV.eq_1, lenV.eq_2, lenV.eq_3, lenV.eq_4, binV, intBin, intV, idxA, List.drop, List.take, RetP, retP, resV, resOne, snapV, snapVs, snapR, snapRs, ownSz, pickV, AO.isC, opE, opD, funV, h0, h1, h6, h7, h8, bytesP, u8C, hlt, hget, w10 k hi, w9 k hi, c0, e_mod8, w0, w1, q1, q2, e1, e2, q5, kp.call, hw', w3, cg]
              refine hret _ _ _ ?_
              simp only [runL, opQ, evOp, evO, evOs, guardV, argsA, pvs, putS, cellsOf, scals, scal, Nat.reduceEqDiff, Nat.reduceAdd, reduceCtorEq, fieldA, nonNil, cellsAt, mkAgg, allPV, storeB, patchL, Int.reduceToNat, Nat.reduceMul, Nat.reduceLT, stepA, Int.reduceNeg, Int.reduceLE, Int.reduceLT, Int.reduceEq, extractV, mkAgg, Nat.reduceLeDiff, fillA, pureVs, pureV, eqV, eqB, lenV.eq_1, lenV.eq_2, lenV.eq_3, lenV.eq_4, binV, intBin, intV, idxA, List.drop, List.take, RetP, retP, resV, resOne, snapV, snapVs, snapR, snapRs, ownSz, pickV, AO.isC, opE, opD, funV, ← ho]
            · simp only [runL, opQ, evOp, evO, evOs, guardV, argsA, pvs, putS, cellsOf, scals, scal, Nat.reduceEqDiff, Nat.reduceAdd, reduceCtorEq, fieldA, nonNil, cellsAt, mkAgg, allPV, storeB, patchL, Int.reduceToNat, Nat.reduceMul, Nat.reduceLT, stepA, Int.reduceNeg, Int.reduceLE, Int.reduceLT, Int.reduceEq, extractV, mkAgg, Nat.reduceLeDiff, fillA, pureVs, pureV, eqV, eqB, lenV.eq_1, lenV.eq_2, lenV.eq_3, lenV.eq_4, binV, intBin, intV, idxA, List.drop, List.take, RetP, retP, resV, resOne, snapV, snapVs, snapR, snapRs, ownSz, pickV, AO.isC, opE, opD, funV, h0, h1, h6, h7, h8, bytesP, u8C, hlt, hget, w10 k hi, w9 k hi, c0, e_mod8, w0, w1, q1, e1, e2, q5, kp.call, hw', w3, cg]
              refine hret _ _ _ ?_
              simp only [runL, opQ, evOp, evO, evOs, guardV, argsA, pvs, putS, cellsOf, scals, scal, Nat.reduceEqDiff, Nat.reduceAdd, reduceCtorEq, fieldA, nonNil, cellsAt, mkAgg, allPV, storeB, patchL, Int.reduceToNat, Nat.reduceMul, Nat.reduceLT, stepA, Int.reduceNeg, Int.reduceLE, Int.reduceLT, Int.reduceEq, extractV, mkAgg, Nat.reduceLeDiff, fillA, pureVs, pureV, eqV, eqB, lenV.eq_1, lenV.eq_2, lenV.eq_3, lenV.eq_4, binV, intBin, intV, idxA, List.drop, List.take, RetP, retP, resV, resOne, snapV, snapVs, snapR, snapRs, ownSz, pickV, AO.isC, opE, opD, funV, ← ho]
        · have q5 : ¬ (x : Int) < 128 := by omega
          have step : ∀ fr' hp' nx' (p' : Int), (k + 1 ≤ 9 → p' = ((128 ^ (k + 1) : Nat) : Int)) → look fr' 0 = look fr 0 → look fr' 1 = look fr 1 → look fr' 6 = .pv (.int .u64 ((n + x % 128 * 128 ^ k : Nat) : Int)) → look fr' 7 = .pv (.int .u64 p') → look fr' 8 = .pv (.int .i64 ((a + (k + 1) : Nat) : Int)) → Wp T false (.loop f149l0) ⟨fr', hp', nx'⟩ Q := by
            intro fr' hp' nx' p' hp2 g0 g1 g6 g7 g8
            have hxm : x % 128 * 128 ^ k ≤ 127 * 128 ^ k := Nat.mul_le_mul_right _ (by omega)
            refine ih (k + 1) (n + x % 128 * 128 ^ k) p' (by rw [← Nat.add_assoc]; exact hd') (by omega) (by omega) (fun h => ⟨by rw [pow_step]; omega, hp2 h⟩) (fun h => ?_) (fun h => ?_) _ _ _ (g0.trans h0) (g1.trans h1) g6 g7 g8
            · rw [← ho, if_pos (.inl ⟨by omega, by omega⟩)]
            · rw [if_neg (by omega), if_neg c5] at ho
              exact ho
          have hp3 : k + 1 ≤ 9 → IntKind.u64.wrap (((128 ^ k : Nat) : Int) * 128) = ((128 ^ (k + 1) : Nat) : Int) := fun h => by
            have h4 : 128 ^ k ≤ 128 ^ 8 := Nat.pow_le_pow_right (by omega) (by omega)
            rw [pow_step, Int.natCast_mul, wrapU']
            · rfl
            · omega
            · omega
          refine key _ (fun q1 q2 => ?_) (fun q1 => ?_)
          · simp only [runL, opQ, evOp, evO, evOs, guardV, argsA, pvs, putS, cellsOf, scals, scal, Nat.reduceEqDiff, Nat.reduceAdd, reduceCtorEq, fieldA, nonNil, cellsAt, mkAgg, allPV, storeB, patchL, Int.reduceToNat, Nat.reduceMul, Nat.reduceLT, stepA, Int.reduceNeg, Int.reduceLE, Int.reduceLT, Int.reduceEq, extractV, mkAgg, Nat.reduceLeDiff, fillA, pureVs, pureV, eqV, eqB, lenV.eq_1, lenV.eq_2, lenV.eq_3, lenV.eq_4, binV, intBin, intV, idxA, List.drop, List.take, RetP, retP, resV, resOne, snapV, snapVs, snapR, snapRs, ownSz, pickV, AO.isC, opE, opD, funV, h0, h1, h6, h7, h8, bytesP, u8C, hlt, hget, w10 k hi, w9 k hi, c0, e_mod8, w0, w1, q1, q2, e1, e2, q5, hw']
            refine step _ _ _ _ hp3 ?_ ?_ ?_ ?_ ?_
            all_goals try simp only [look_if, blkAt_if, Nat.reduceEqDiff, if_true, if_false, h0, h1]
          · simp only [runL, opQ, evOp, evO, evOs, guardV, argsA, pvs, putS, cellsOf, scals, scal, Nat.reduceEqDiff, Nat.reduceAdd, reduceCtorEq, fieldA, nonNil, cellsAt, mkAgg, allPV, storeB, patchL, Int.reduceToNat, Nat.reduceMul, Nat.reduceLT, stepA, Int.reduceNeg, Int.reduceLE, Int.reduceLT, Int.reduceEq, extractV, mkAgg, Nat.reduceLeDiff, fillA, pureVs, pureV, eqV, eqB, lenV.eq_1, lenV.eq_2, lenV.eq_3, lenV.eq_4, binV, intBin, intV, idxA, List.drop, List.take, RetP, retP, resV, resOne, snapV, snapVs, snapR, snapRs, ownSz, pickV, AO.isC, opE, opD, funV, h0, h1, h6, h7, h8, bytesP, u8C, hlt, hget, w10 k hi, w9 k hi, c0, e_mod8, w0, w1, q1, e1, e2, q5, hw']
            refine step _ _ _ _ hp3 ?_ ?_ ?_ ?_ ?_
            all_goals try simp only [look_if, blkAt_if, Nat.reduceEqDiff, if_true, if_false, h0, h1]
    · have c0 : ¬ ((a + k : Nat) : Int) < (a : Int) + 10 := by omega
      simp only [runL, opQ, evOp, evO, evOs, guardV, argsA, pvs, putS, cellsOf, scals, scal, Nat.reduceEqDiff, Nat.reduceAdd, reduceCtorEq, fieldA, nonNil, cellsAt, mkAgg, allPV, storeB, patchL, Int.reduceToNat, Nat.reduceMul, Nat.reduceLT, stepA, Int.reduceNeg, Int.reduceLE, Int.reduceLT, Int.reduceEq, extractV, mkAgg, Nat.reduceLeDiff, fillA, pureVs, pureV, eqV, eqB, lenV.eq_1, lenV.eq_2, lenV.eq_3, lenV.eq_4, binV, intBin, intV, idxA, List.drop, List.take, RetP, retP, resV, resOne, snapV, snapVs, snapR, snapRs, ownSz, pickV, AO.isC, opE, opD, funV, h0, h1, h8, bytesP, hlt, w10 k hi, c0]
      exact hend (h10 (by omega)) _ _ _
theorem one2r_ok (h149 : Std T 149 f149) (h150 : Std T 150 f150) (b : List Nat) (hb : U8 b) (hl : b.length ≤ 2 ^ 30) (a : Nat) (ha : a ≤ b.length) : Gives T 149 [bytesP b, .int .i64 (a : Int)] (oneRr a (rd0 (b.drop a))) := by
  refine gives h149 rfl ?_
  simp only [f149, runL, opQ, evOp, evO, evOs, guardV, argsA, pvs, putS, cellsOf, scals, scal, Nat.reduceEqDiff, Nat.reduceAdd, reduceCtorEq, fieldA, nonNil, cellsAt, mkAgg, allPV, storeB, patchL, Int.reduceToNat, Nat.reduceMul, Nat.reduceLT, stepA, Int.reduceNeg, Int.reduceLE, Int.reduceLT, Int.reduceEq, extractV, mkAgg, Nat.reduceLeDiff, fillA, pureVs, pureV, eqV, eqB, lenV.eq_1, lenV.eq_2, lenV.eq_3, lenV.eq_4, binV, intBin, intV, idxA, List.drop, List.take, RetP, retP, resV, resOne, snapV, snapVs, snapR, snapRs, ownSz, pickV, AO.isC, opE, opD, funV]
  refine one2r_loop h150 b hb hl a _ (rd0 (b.drop a)) (fun ho fr hp nx => ?_) (fun fr hp nx hr => ?_) (b.drop a) 0 0 1 rfl ha (by omega) (fun _ => ⟨by simp, by simp⟩) (fun h => by omega) (fun _ => rfl) _ _ _ rfl rfl rfl rfl rfl
  · simp only [runL, opQ, evOp, evO, evOs, guardV, argsA, pvs, putS, cellsOf, scals, scal, Nat.reduceEqDiff, Nat.reduceAdd, reduceCtorEq, fieldA, nonNil, cellsAt, mkAgg, allPV, storeB, patchL, Int.reduceToNat, Nat.reduceMul, Nat.reduceLT, stepA, Int.reduceNeg, Int.reduceLE, Int.reduceLT, Int.reduceEq, extractV, mkAgg, Nat.reduceLeDiff, fillA, pureVs, pureV, eqV, eqB, lenV.eq_1, lenV.eq_2, lenV.eq_3, lenV.eq_4, binV, intBin, intV, idxA, List.drop, List.take, RetP, retP, resV, resOne, snapV, snapVs, snapR, snapRs, ownSz, pickV, AO.isC, opE, opD, funV, ho, oneRr]
  · simp only [blkQ_ret, seqQ_ret, RetP, retP, hr]
    cases rd0 (b.drop a) with
    | none => rfl
    | some q => rfl
end
end Go.Proofs.YtogbpgkefkbffaaDoor.Ab
/- (rn) Layer 2 (wire): the document's numbers of all bytes; two rows of numbers that are the same. -/
set_option linter.unusedVariables false
set_option linter.unusedSimpArgs false
namespace Go.Proofs.YtogbpgkefkbffaaDoor.Ab
open Go
section
variable {T : Tab}
theorem all2r_loop (h149 : Std T 149 f149) (h150 : Std T 150 f150) (b : List Nat) (hb : U8 b) (hl : b.length ≤ 2 ^ 30) (Q : Exit → St → Prop) (o : Sum Nat (List Nat))
    (hend : ∀ l, o = .inr l → ∀ fr hp nx, Own (look fr 4) hp 1 (l.map u64C) 0 nx → Q (.exit 0) ⟨fr, hp, nx⟩)
    (hret : ∀ e : Nat, o = .inl e → ∀ fr hp nx, retP [.t 2, .t 3] ⟨fr, hp, nx⟩ = some (.tuple [.slice [], .int .i64 (e : Int)]) → Q .ret ⟨fr, hp, nx⟩) :
    ∀ (m a : Nat) (acc : List Nat), b.length - a ≤ m → a ≤ b.length → acc.length ≤ a → joinA a acc (allN (b.drop a)) = o → ∀ (fr : List (Nat × AV)) (hp : Hl) (nx : Nat), look fr 0 = .pv (bytesP b) →
      look fr 5 = .pv (.int .i64 a) → Own (look fr 4) hp 1 (acc.map u64C) 0 nx → Wp T false (.loop f146l0) ⟨fr, hp, nx⟩ Q := by
  intro m
  have stop : ∀ (a : Nat) (acc : List Nat), b.length ≤ a → joinA a acc (allN (b.drop a)) = o → ∀ (fr : List (Nat × AV)) (hp : Hl) (nx : Nat), look fr 0 = .pv (bytesP b) →
      look fr 5 = .pv (.int .i64 a) → Own (look fr 4) hp 1 (acc.map u64C) 0 nx → Wp T false (.loop f146l0) ⟨fr, hp, nx⟩ Q := by
    intro a acc ha ho fr hp nx h0 h5 h4
    have e : b.drop a = [] := List.drop_eq_nil_of_le ha
    rw [e, allN_nil] at ho
    simp only [joinA, List.append_nil] at ho
    have hn : ¬ (a : Int) < (b.length : Int) := by omega
    rw [Wp_loop, Wp_eq f146l0.eq_1]
    simp only [runL, opQ, evOp, evO, evOs, guardV, argsA, pvs, putS, cellsOf, scals, scal, Nat.reduceEqDiff, Nat.reduceAdd, reduceCtorEq, fieldA, nonNil, cellsAt, mkAgg, allPV, storeB, patchL, Int.reduceToNat, Nat.reduceMul, Nat.reduceLT, stepA, Int.reduceNeg, Int.reduceLE, Int.reduceLT, Int.reduceEq, extractV, mkAgg, Nat.reduceLeDiff, fillA, pureVs, pureV, eqV, eqB, lenV.eq_1, lenV.eq_2, lenV.eq_3, lenV.eq_4, binV, intBin, intV, idxA, List.drop, List.take, RetP, retP, resV, resOne, snapV, snapVs, snapR, snapRs, ownSz, pickV, AO.isC, opE, opD, funV, h0, h5, bytesP, hn]
    exact hend acc ho.symm _ _ _ (by simp only [look_if, blkAt_if, Nat.reduceEqDiff, if_true, if_false]; exact h4)
  induction m with
  | zero =>
    intro a acc hm ha hc ho fr hp nx h0 h5 h4
    exact stop a acc (by omega) ho fr hp nx h0 h5 h4
  | succ m ih =>
    intro a acc hm ha hc ho fr hp nx h0 h5 h4
    by_cases hlt : a < b.length
    · have hlt' : (a : Int) < (b.length : Int) := by omega
      have k := one2r_ok h149 h150 b hb hl a ha
      have hne : b.drop a ≠ [] := by
        intro h
        have := congrArg List.length h
        simp at this
        omega
      have h0' := h0
      simp only [bytesP] at h0' k
      rw [Wp_loop, Wp_eq f146l0.eq_1]
      cases hr : rd0 (b.drop a) with
      | none =>
        rw [allN_none hne hr] at ho
        simp only [joinA, Nat.add_zero] at ho
        rw [hr] at k
        simp only [oneRr] at k
        simp only [runL, opQ, evOp, evO, evOs, guardV, argsA, pvs, putS, cellsOf, scals, scal, Nat.reduceEqDiff, Nat.reduceAdd, reduceCtorEq, fieldA, nonNil, cellsAt, mkAgg, allPV, storeB, patchL, Int.reduceToNat, Nat.reduceMul, Nat.reduceLT, stepA, Int.reduceNeg, Int.reduceLE, Int.reduceLT, Int.reduceEq, extractV, mkAgg, Nat.reduceLeDiff, fillA, pureVs, pureV, eqV, eqB, lenV.eq_1, lenV.eq_2, lenV.eq_3, lenV.eq_4, binV, intBin, intV, idxA, List.drop, List.take, RetP, retP, resV, resOne, snapV, snapVs, snapR, snapRs, ownSz, pickV, AO.isC, opE, opD, funV, h0', h5, hlt', k.call, Int.reduceNeg, Int.reduceLT]
        refine hret a ho.symm _ _ _ ?_
        simp only [runL, opQ, evOp, evO, evOs, guardV, argsA, pvs, putS, cellsOf, scals, scal, Nat.reduceEqDiff, Nat.reduceAdd, reduceCtorEq, fieldA, nonNil, cellsAt, mkAgg, allPV, storeB, patchL, Int.reduceToNat, Nat.reduceMul, Nat.reduceLT, stepA, Int.reduceNeg, Int.reduceLE, Int.reduceLT, Int.reduceEq, extractV, mkAgg, Nat.reduceLeDiff, fillA, pureVs, pureV, eqV, eqB, lenV.eq_1, lenV.eq_2, lenV.eq_3, lenV.eq_4, binV, intBin, intV, idxA, List.drop, List.take, RetP, retP, resV, resOne, snapV, snapVs, snapR, snapRs, ownSz, pickV, AO.isC, opE, opD, funV]
      | some q =>
        obtain ⟨v, c⟩ := q
        obtain ⟨q1, q2, q3, q4⟩ := rd0_lt (hb.drop a) hr
        rw [List.length_drop] at q3
        rw [allN_some (hb.drop a) hr, joinA_joinA, List.drop_drop] at ho
        rw [hr] at k
        simp only [oneRr] at k
        have hj : ¬ ((a + c : Nat) : Int) < 0 := by omega
        obtain ⟨v', W, n, a1, a2, a3⟩ := h4.app1 (Nat.zero_le _) (u64C v) (by rw [List.length_map]; omega)
        simp only [u64C] at a1 a3
        simp only [runL, opQ, evOp, evO, evOs, guardV, argsA, pvs, putS, cellsOf, scals, scal, Nat.reduceEqDiff, Nat.reduceAdd, reduceCtorEq, fieldA, nonNil, cellsAt, mkAgg, allPV, storeB, patchL, Int.reduceToNat, Nat.reduceMul, Nat.reduceLT, stepA, Int.reduceNeg, Int.reduceLE, Int.reduceLT, Int.reduceEq, extractV, mkAgg, Nat.reduceLeDiff, fillA, pureVs, pureV, eqV, eqB, lenV.eq_1, lenV.eq_2, lenV.eq_3, lenV.eq_4, binV, intBin, intV, idxA, List.drop, List.take, RetP, retP, resV, resOne, snapV, snapVs, snapR, snapRs, ownSz, pickV, AO.isC, opE, opD, funV, h0', h5, hlt', k.call, hj, partsScal, srcV, chunk, allLen, List.all_cons, List.all_nil, a1]
        refine ih (a + c) (acc ++ [v]) (by omega) (by omega) (by simp; omega) ho _ _ _ ?_ ?_ ?_
        all_goals try simp only [look_if, blkAt_if, Nat.reduceEqDiff, if_true, if_false, h0]
        simpa only [List.map_append, List.map_cons, List.map_nil, u64C] using a3
    · exact stop a acc (by omega) ho fr hp nx h0 h5 h4
def allRr : Sum Nat (List Nat) → PV
  | .inr l => .tuple [u64s l, .int .i64 (-1)]
  | .inl e => .tuple [.slice [], .int .i64 (e : Int)]
theorem all2r_ok (h146 : Std T 146 f146) (h149 : Std T 149 f149) (h150 : Std T 150 f150) (b : List Nat) (hb : U8 b) (hl : b.length ≤ 2 ^ 30) : Gives T 146 [bytesP b] (allRr (allN b)) := by
  refine gives h146 rfl ?_
  simp only [f146, runL, opQ, evOp, evO, evOs, guardV, argsA, pvs, putS, cellsOf, scals, scal, Nat.reduceEqDiff, Nat.reduceAdd, reduceCtorEq, fieldA, nonNil, cellsAt, mkAgg, allPV, storeB, patchL, Int.reduceToNat, Nat.reduceMul, Nat.reduceLT, stepA, Int.reduceNeg, Int.reduceLE, Int.reduceLT, Int.reduceEq, extractV, mkAgg, Nat.reduceLeDiff, fillA, pureVs, pureV, eqV, eqB, lenV.eq_1, lenV.eq_2, lenV.eq_3, lenV.eq_4, binV, intBin, intV, idxA, List.drop, List.take, RetP, retP, resV, resOne, snapV, snapVs, snapR, snapRs, ownSz, pickV, AO.isC, opE, opD, funV]
  refine all2r_loop h149 h150 b hb hl _ (allN b) (fun l ho fr hp nx h4 => ?_) (fun e ho fr hp nx hr => ?_) b.length 0 [] (by omega) (Nat.zero_le _) (Nat.le_refl _) ?_ _ _ _ rfl rfl Own.nil
  · simp only [runL, opQ, evOp, evO, evOs, guardV, argsA, pvs, putS, cellsOf, scals, scal, Nat.reduceEqDiff, Nat.reduceAdd, reduceCtorEq, fieldA, nonNil, cellsAt, mkAgg, allPV, storeB, patchL, Int.reduceToNat, Nat.reduceMul, Nat.reduceLT, stepA, Int.reduceNeg, Int.reduceLE, Int.reduceLT, Int.reduceEq, extractV, mkAgg, Nat.reduceLeDiff, fillA, pureVs, pureV, eqV, eqB, lenV.eq_1, lenV.eq_2, lenV.eq_3, lenV.eq_4, binV, intBin, intV, idxA, List.drop, List.take, RetP, retP, resV, resOne, snapV, snapVs, snapR, snapRs, ownSz, pickV, AO.isC, opE, opD, funV, ho, allRr, h4.snap, u64s]
  · simp only [blkQ_ret, seqQ_ret, RetP, hr, ho, allRr]
  · rw [List.drop_zero]
    cases allN b <;> simp [joinA]

theorem get2r_loop (h149 : Std T 149 f149) (h150 : Std T 150 f150) (b : List Nat) (hb : U8 b) (hl : b.length ≤ 2 ^ 30) (many : Int) (Q : Exit → St → Prop) (o : Sum Nat (List Nat × Nat))
    (hend : ∀ l d, o = .inr (l, d) → ∀ fr hp nx, Own (look fr 7) hp 1 (l.map u64C) 0 nx → look fr 8 = .pv (.int .i64 d) → Q (.exit 0) ⟨fr, hp, nx⟩)
    (hret : ∀ e : Nat, o = .inl e → ∀ fr hp nx, retP [.t 4, .t 5, .t 6] ⟨fr, hp, nx⟩ = some (.tuple [.slice [], .int .i64 0, .int .i64 (e : Int)]) → Q .ret ⟨fr, hp, nx⟩) :
    ∀ (m a : Nat) (acc : List Nat), b.length - a < m → a ≤ b.length → acc.length ≤ a → joinG a acc (getN (many.toNat - acc.length) (b.drop a)) = o → ∀ (fr : List (Nat × AV)) (hp : Hl) (nx : Nat), look fr 0 = .pv (bytesP b) → look fr 1 = .pv (.int .i64 many) →
      look fr 8 = .pv (.int .i64 a) → Own (look fr 7) hp 1 (acc.map u64C) 0 nx → Wp T false (.loop f147l0) ⟨fr, hp, nx⟩ Q := by
  intro m
  induction m with
  | zero =>
    intro a acc hm
    omega
  | succ m ih =>
    intro a acc hm ha hc ho fr hp nx h0 h1 h8 h7
    have hl7 := h7.len
    rw [List.length_map] at hl7
    rw [Wp_loop, Wp_eq f147l0.eq_1]
    by_cases hk : (acc.length : Int) < many
    · obtain ⟨j, hj⟩ : ∃ j, many.toNat - acc.length = j + 1 := ⟨many.toNat - acc.length - 1, by omega⟩
      rw [hj] at ho
      have k := one2r_ok h149 h150 b hb hl a ha
      have h0' := h0
      simp only [bytesP] at h0' k
      cases hr : rd0 (b.drop a) with
      | none =>
        simp only [getN, hr, joinG, Nat.add_zero] at ho
        rw [hr] at k
        simp only [oneRr] at k
        simp only [runL, opQ, evOp, evO, evOs, guardV, argsA, pvs, putS, cellsOf, scals, scal, Nat.reduceEqDiff, Nat.reduceAdd, reduceCtorEq, fieldA, nonNil, cellsAt, mkAgg, allPV, storeB, patchL, Int.reduceToNat, Nat.reduceMul, Nat.reduceLT, stepA, Int.reduceNeg, Int.reduceLE, Int.reduceLT, Int.reduceEq, extractV, mkAgg, Nat.reduceLeDiff, fillA, pureVs, pureV, eqV, eqB, lenV.eq_1, lenV.eq_2, lenV.eq_3, lenV.eq_4, binV, intBin, intV, idxA, List.drop, List.take, RetP, retP, resV, resOne, snapV, snapVs, snapR, snapRs, ownSz, pickV, AO.isC, opE, opD, funV, h0', h1, h8, hl7, hk, k.call, Int.reduceNeg, Int.reduceLT]
        refine hret a ho.symm _ _ _ ?_
        simp only [runL, opQ, evOp, evO, evOs, guardV, argsA, pvs, putS, cellsOf, scals, scal, Nat.reduceEqDiff, Nat.reduceAdd, reduceCtorEq, fieldA, nonNil, cellsAt, mkAgg, allPV, storeB, patchL, Int.reduceToNat, Nat.reduceMul, Nat.reduceLT, stepA, Int.reduceNeg, Int.reduceLE, Int.reduceLT, Int.reduceEq, extractV, mkAgg, Nat.reduceLeDiff, fillA, pureVs, pureV, eqV, eqB, lenV.eq_1, lenV.eq_2, lenV.eq_3, lenV.eq_4, binV, intBin, intV, idxA, List.drop, List.take, RetP, retP, resV, resOne, snapV, snapVs, snapR, snapRs, ownSz, pickV, AO.isC, opE, opD, funV]
      | some q =>
        obtain ⟨v, c⟩ := q
        obtain ⟨q1, q2, q3, q4⟩ := rd0_lt (hb.drop a) hr
        rw [List.length_drop] at q3
        rw [getN_some hr, joinG_joinG, List.drop_drop] at ho
        rw [hr] at k
        simp only [oneRr] at k
        have hj0 : ¬ ((a + c : Nat) : Int) < 0 := by omega
        obtain ⟨v', W, n, a1, a2, a3⟩ := h7.app1 (Nat.zero_le _) (u64C v) (by rw [List.length_map]; omega)
        simp only [u64C] at a1 a3
        simp only [runL, opQ, evOp, evO, evOs, guardV, argsA, pvs, putS, cellsOf, scals, scal, Nat.reduceEqDiff, Nat.reduceAdd, reduceCtorEq, fieldA, nonNil, cellsAt, mkAgg, allPV, storeB, patchL, Int.reduceToNat, Nat.reduceMul, Nat.reduceLT, stepA, Int.reduceNeg, Int.reduceLE, Int.reduceLT, Int.reduceEq, extractV, mkAgg, Nat.reduceLeDiff, fillA, pureVs, pureV, eqV, eqB, lenV.eq_1, lenV.eq_2, lenV.eq_3, lenV.eq_4, binV, intBin, intV, idxA, List.drop, List.take, RetP, retP, resV, resOne, snapV, snapVs, snapR, snapRs, ownSz, pickV, AO.isC, opE, opD, funV, h0', h1, h8, hl7, hk, k.call, hj0, partsScal, srcV, chunk, allLen, List.all_cons, List.all_nil, a1]
        refine ih (a + c) (acc ++ [v]) (by omega) (by omega) (by simp; omega) ?_ _ _ _ ?_ ?_ ?_ ?_
        · rw [← ho, show many.toNat - (acc ++ [v]).length = j by simp; omega]
        all_goals try simp only [look_if, blkAt_if, Nat.reduceEqDiff, if_true, if_false, h0, h1]
        simpa only [List.map_append, List.map_cons, List.map_nil, u64C] using a3
    · have hj : many.toNat - acc.length = 0 := by omega
      rw [hj] at ho
      simp only [getN, joinG, List.append_nil, Nat.add_zero] at ho
      simp only [runL, opQ, evOp, evO, evOs, guardV, argsA, pvs, putS, cellsOf, scals, scal, Nat.reduceEqDiff, Nat.reduceAdd, reduceCtorEq, fieldA, nonNil, cellsAt, mkAgg, allPV, storeB, patchL, Int.reduceToNat, Nat.reduceMul, Nat.reduceLT, stepA, Int.reduceNeg, Int.reduceLE, Int.reduceLT, Int.reduceEq, extractV, mkAgg, Nat.reduceLeDiff, fillA, pureVs, pureV, eqV, eqB, lenV.eq_1, lenV.eq_2, lenV.eq_3, lenV.eq_4, binV, intBin, intV, idxA, List.drop, List.take, RetP, retP, resV, resOne, snapV, snapVs, snapR, snapRs, ownSz, pickV, AO.isC, opE, opD, funV, h1, hl7, hk]
      refine hend acc a ho.symm _ _ _ ?_ ?_
      all_goals try simp only [look_if, blkAt_if, Nat.reduceEqDiff, if_true, if_false, h8]
      exact h7
def getRr : Sum Nat (List Nat × Nat) → PV
  | .inr (l, d) => .tuple [u64s l, .int .i64 (d : Int), .int .i64 (-1)]
  | .inl e => .tuple [.slice [], .int .i64 0, .int .i64 (e : Int)]
theorem get2r_ok (h147 : Std T 147 f147) (h149 : Std T 149 f149) (h150 : Std T 150 f150) (b : List Nat) (hb : U8 b) (hl : b.length ≤ 2 ^ 30) (many : Int) : Gives T 147 [bytesP b, .int .i64 many] (getRr (getN many.toNat b)) := by
  refine gives h147 rfl ?_
  simp only [f147, runL, opQ, evOp, evO, evOs, guardV, argsA, pvs, putS, cellsOf, scals, scal, Nat.reduceEqDiff, Nat.reduceAdd, reduceCtorEq, fieldA, nonNil, cellsAt, mkAgg, allPV, storeB, patchL, Int.reduceToNat, Nat.reduceMul, Nat.reduceLT, stepA, Int.reduceNeg, Int.reduceLE, Int.reduceLT, Int.reduceEq, extractV, mkAgg, Nat.reduceLeDiff, fillA, pureVs, pureV, eqV, eqB, lenV.eq_1, lenV.eq_2, lenV.eq_3, lenV.eq_4, binV, intBin, intV, idxA, List.drop, List.take, RetP, retP, resV, resOne, snapV, snapVs, snapR, snapRs, ownSz, pickV, AO.isC, opE, opD, funV]
  refine get2r_loop h149 h150 b hb hl many _ (getN many.toNat b) (fun l d ho fr hp nx h7 h8 => ?_) (fun e ho fr hp nx hr => ?_) (b.length + 1) 0 [] (by omega) (Nat.zero_le _) (Nat.le_refl _) ?_ _ _ _ rfl rfl rfl Own.nil
  · simp only [runL, opQ, evOp, evO, evOs, guardV, argsA, pvs, putS, cellsOf, scals, scal, Nat.reduceEqDiff, Nat.reduceAdd, reduceCtorEq, fieldA, nonNil, cellsAt, mkAgg, allPV, storeB, patchL, Int.reduceToNat, Nat.reduceMul, Nat.reduceLT, stepA, Int.reduceNeg, Int.reduceLE, Int.reduceLT, Int.reduceEq, extractV, mkAgg, Nat.reduceLeDiff, fillA, pureVs, pureV, eqV, eqB, lenV.eq_1, lenV.eq_2, lenV.eq_3, lenV.eq_4, binV, intBin, intV, idxA, List.drop, List.take, RetP, retP, resV, resOne, snapV, snapVs, snapR, snapRs, ownSz, pickV, AO.isC, opE, opD, funV, ho, getRr, h7.snap, h8, u64s]
  · simp only [blkQ_ret, seqQ_ret, RetP, hr, ho, getRr]
  · simp only [List.drop_zero, List.length_nil, Nat.sub_zero]
    rcases getN many.toNat b with e | ⟨r, d⟩ <;> simp [joinG]

/-- Two rows of numbers. -/
theorem same2_ok (h340 : Std T 340 f340) (a b : List Nat) (ha : a.length ≤ 2 ^ 30) : Gives T 340 [u64s a, u64s b] (.bool (decide (a = b))) := by
  refine gives h340 rfl ?_
  have loop : ∀ (ra rb : List Nat) (i : Nat), a.length = b.length → a.drop i = ra → b.drop i = rb → i ≤ a.length → ∀ (fr : List (Nat × AV)) (hp : Hl) (nx : Nat), look fr 5 = .pv (.int .i64 i) → look fr 0 = .pv (u64s a) → look fr 1 = .pv (u64s b) →
      Wp T false (.loop f340l0) ⟨fr, hp, nx⟩ (blkQ 0 (seqQ T false (.seq (.ops [⟨some 4, .mv (.c (.pv (.bool true))), none, []⟩]) .ret) (RetP [.t 4] (.bool (decide (ra = rb)))))) := by
    intro ra
    induction ra with
    | nil =>
      intro rb i hl hda hdb hi fr hp nx h5 h0 h1
      have hlen := drop_nil hda hi
      have : rb = [] := by
        rw [← hdb]
        exact List.drop_eq_nil_of_le (by omega)
      subst this
      rw [Wp_loop, Wp_eq f340l0.eq_1]
      simp only [runL, opQ, evOp, evO, evOs, guardV, argsA, pvs, putS, cellsOf, scals, scal, Nat.reduceEqDiff, Nat.reduceAdd, reduceCtorEq, fieldA, nonNil, cellsAt, mkAgg, allPV, storeB, patchL, Int.reduceToNat, Nat.reduceMul, Nat.reduceLT, stepA, Int.reduceNeg, Int.reduceLE, Int.reduceLT, Int.reduceEq, extractV, mkAgg, Nat.reduceLeDiff, fillA, pureVs, pureV, eqV, eqB, lenV.eq_1, lenV.eq_2, lenV.eq_3, lenV.eq_4, binV, intBin, intV, idxA, List.drop, List.take, RetP, retP, resV, resOne, snapV, snapVs, snapR, snapRs, ownSz, pickV, AO.isC, opE, opD, funV, h5, h0, h1, u64s, hlen, Int.lt_irrefl]
    | cons p r ih =>
      intro rb i hl hda hdb hi fr hp nx h5 h0 h1
      obtain ⟨hga, hlt, hw, hd', hi', hbb⟩ := drop_cons hda ha
      cases rb with
      | nil =>
        have := congrArg List.length hdb
        simp at this
        omega
      | cons q rb =>
        obtain ⟨hgb, _, _, hdb', _, _⟩ := drop_cons hdb (by omega)
        rw [Wp_loop, Wp_eq f340l0.eq_1]
        simp only [runL, opQ, evOp, evO, evOs, guardV, argsA, pvs, putS, cellsOf, scals, scal, Nat.reduceEqDiff, Nat.reduceAdd, reduceCtorEq, fieldA, nonNil, cellsAt, mkAgg, allPV, storeB, patchL, Int.reduceToNat, Nat.reduceMul, Nat.reduceLT, stepA, Int.reduceNeg, Int.reduceLE, Int.reduceLT, Int.reduceEq, extractV, mkAgg, Nat.reduceLeDiff, fillA, pureVs, pureV, eqV, eqB, lenV.eq_1, lenV.eq_2, lenV.eq_3, lenV.eq_4, binV, intBin, intV, idxA, List.drop, List.take, RetP, retP, resV, resOne, snapV, snapVs, snapR, snapRs, ownSz, pickV, AO.isC, opE, opD, funV, h5, h0, h1, u64s, hlt]
        refine (Wp_calm rfl).2 ?_
        by_cases hpq : p = q
        · subst hpq
          simp only [runL, opQ, evOp, evO, evOs, guardV, argsA, pvs, putS, cellsOf, scals, scal, Nat.reduceEqDiff, Nat.reduceAdd, reduceCtorEq, fieldA, nonNil, cellsAt, mkAgg, allPV, storeB, patchL, Int.reduceToNat, Nat.reduceMul, Nat.reduceLT, stepA, Int.reduceNeg, Int.reduceLE, Int.reduceLT, Int.reduceEq, extractV, mkAgg, Nat.reduceLeDiff, fillA, pureVs, pureV, eqV, eqB, lenV.eq_1, lenV.eq_2, lenV.eq_3, lenV.eq_4, binV, intBin, intV, idxA, List.drop, List.take, RetP, retP, resV, resOne, snapV, snapVs, snapR, snapRs, ownSz, pickV, AO.isC, opE, opD, funV, h5, h0, h1, u64s, hga, hgb, u64C, hw, List.cons.injEq]
          refine ih rb (i + 1) hl hd' hdb' hi' _ _ _ ?_ ?_ ?_
          all_goals try simp only [look_if, blkAt_if, Nat.reduceEqDiff, if_true, if_false, h0, h1, u64s, u64C]
        · have hpq' : ¬ (p : Int) = (q : Int) := by omega
          simp only [runL, opQ, evOp, evO, evOs, guardV, argsA, pvs, putS, cellsOf, scals, scal, Nat.reduceEqDiff, Nat.reduceAdd, reduceCtorEq, fieldA, nonNil, cellsAt, mkAgg, allPV, storeB, patchL, Int.reduceToNat, Nat.reduceMul, Nat.reduceLT, stepA, Int.reduceNeg, Int.reduceLE, Int.reduceLT, Int.reduceEq, extractV, mkAgg, Nat.reduceLeDiff, fillA, pureVs, pureV, eqV, eqB, lenV.eq_1, lenV.eq_2, lenV.eq_3, lenV.eq_4, binV, intBin, intV, idxA, List.drop, List.take, RetP, retP, resV, resOne, snapV, snapVs, snapR, snapRs, ownSz, pickV, AO.isC, opE, opD, funV, h5, h0, h1, u64s, hga, hgb, u64C, hw, List.cons.injEq, hpq, hpq', false_and]
  simp only [f340, runL, opQ, evOp, evO, evOs, guardV, argsA, pvs, putS, cellsOf, scals, scal, Nat.reduceEqDiff, Nat.reduceAdd, reduceCtorEq, fieldA, nonNil, cellsAt, mkAgg, allPV, storeB, patchL, Int.reduceToNat, Nat.reduceMul, Nat.reduceLT, stepA, Int.reduceNeg, Int.reduceLE, Int.reduceLT, Int.reduceEq, extractV, mkAgg, Nat.reduceLeDiff, fillA, pureVs, pureV, eqV, eqB, lenV.eq_1, lenV.eq_2, lenV.eq_3, lenV.eq_4, binV, intBin, intV, idxA, List.drop, List.take, RetP, retP, resV, resOne, snapV, snapVs, snapR, snapRs, ownSz, pickV, AO.isC, opE, opD, funV, u64s, List.length_map]
  by_cases hl : a.length = b.length
  · simp only [runL, opQ, evOp, evO, evOs, guardV, argsA, pvs, putS, cellsOf, scals, scal, Nat.reduceEqDiff, Nat.reduceAdd, reduceCtorEq, fieldA, nonNil, cellsAt, mkAgg, allPV, storeB, patchL, Int.reduceToNat, Nat.reduceMul, Nat.reduceLT, stepA, Int.reduceNeg, Int.reduceLE, Int.reduceLT, Int.reduceEq, extractV, mkAgg, Nat.reduceLeDiff, fillA, pureVs, pureV, eqV, eqB, lenV.eq_1, lenV.eq_2, lenV.eq_3, lenV.eq_4, binV, intBin, intV, idxA, List.drop, List.take, RetP, retP, resV, resOne, snapV, snapVs, snapR, snapRs, ownSz, pickV, AO.isC, opE, opD, funV, hl]
    have := loop a b 0 hl rfl rfl (Nat.zero_le _)
    exact this _ _ _ rfl rfl rfl
  · have hl' : ¬ a = b := fun h => hl (by rw [h])
    simp only [runL, opQ, evOp, evO, evOs, guardV, argsA, pvs, putS, cellsOf, scals, scal, Nat.reduceEqDiff, Nat.reduceAdd, reduceCtorEq, fieldA, nonNil, cellsAt, mkAgg, allPV, storeB, patchL, Int.reduceToNat, Nat.reduceMul, Nat.reduceLT, stepA, Int.reduceNeg, Int.reduceLE, Int.reduceLT, Int.reduceEq, extractV, mkAgg, Nat.reduceLeDiff, fillA, pureVs, pureV, eqV, eqB, lenV.eq_1, lenV.eq_2, lenV.eq_3, lenV.eq_4, binV, intBin, intV, idxA, List.drop, List.take, RetP, retP, resV, resOne, snapV, snapVs, snapR, snapRs, ownSz, pickV, AO.isC, opE, opD, funV, hl, hl']
end
end Go.Proofs.YtogbpgkefkbffaaDoor.Ab
/- Comparisons of errors, run. -/
set_option linter.unusedVariables false
set_option linter.unusedSimpArgs false
namespace Go.Proofs.YtogbpgkefkbffaaDoor.Ab
open Go
section
variable {P : Program} {w : World} {t : TypeId}
theorem qp_pp (d : Nat) {e : TypeId} {n : Nat} {a : Addr} (h : P.underlying t = some (.pointer e)) (hz : (sizeOf e).run P w = .ok n w) (hn : n ≠ 0) : (Op.equalIn (d + 1) t (.pointer (some a)) (.pointer (some a))).run P w = .ok true w := by
  simp only [Op.equalIn]
  rw [rb (r_underlying h)]
  simp only
  rw [rb hz]
  rw [if_pos hn]
  unfold sameAddr
  simp [run_pure]
theorem qd_ii (d : Nat) {ms u v x y} (h : P.underlying t = some (.interface ms)) (hne : u ≠ v) : (Op.equalIn (d + 1) t (.iface u x) (.iface v y)).run P w = .ok false w := by
  simp only [Op.equalIn]
  rw [rb (r_underlying h)]
  simp only [ne_eq, hne, not_false_eq_true, if_true]
  rfl
theorem beql_of {x y : Value} {b : Bool} (h : (Op.equal t x y).run P w = .ok b w) (h1 : (∀ k n, x ≠ .int k n) ∧ (∀ s, x ≠ .string s) ∧ (∀ k n, x ≠ .float k n) ∧ ∀ k n m, x ≠ .complex k n m) :
    (binOp .eql t x y).run P w = .ok (.bool b) w ∧ (binOp .neq t x y).run P w = .ok (.bool (!b)) w := by
  obtain ⟨h2, h3, h4, h5⟩ := h1
  cases x <;> first | exact absurd rfl (h2 _ _) | exact absurd rfl (h3 _) | exact absurd rfl (h4 _ _) | exact absurd rfl (h5 _ _ _) |
    (constructor
     · simp only [binOp]; rw [rb h]; rfl
     · simp only [binOp]; rw [rb h]; rfl)
/-- Two errors of one type that compares, of two types. -/
theorem ie_same {ms : _} {u : TypeId} {x y : Value} {b : Bool} (h : P.underlying t = some (.interface ms)) (hc : (P.info? u).map (·.comparable) = some true) (hb : (Op.equalIn 9999 u x y).run P w = .ok b w) :
    (binOp .eql t (.iface u x) (.iface u y)).run P w = .ok (.bool b) w ∧ (binOp .neq t (.iface u x) (.iface u y)).run P w = .ok (.bool (!b)) w := by
  refine beql_of ?_ ⟨by simp, by simp, by simp, by simp⟩
  cases hi : P.info? u with
  | none => rw [hi] at hc; cases hc
  | some i =>
    rw [hi] at hc
    exact (qi_ii 9999 h hi (Option.some.inj hc)).trans hb
theorem ie_other {ms : _} {u v : TypeId} {x y : Value} (h : P.underlying t = some (.interface ms)) (hne : u ≠ v) :
    (binOp .eql t (.iface u x) (.iface v y)).run P w = .ok (.bool false) w ∧ (binOp .neq t (.iface u x) (.iface v y)).run P w = .ok (.bool true) w :=
  beql_of (qd_ii 9999 h hne) ⟨by simp, by simp, by simp, by simp⟩
theorem ie_int {k : IntKind} {n m : Int} (h : P.underlying t = some (.int k)) : (Op.equalIn 9999 t (.int k n) (.int k m)).run P w = .ok (decide (n = m)) w := by
  have := run_equalIn_int w 9998 t k k n m h
  exact this
end
end Go.Proofs.YtogbpgkefkbffaaDoor.Ab
/- The laws' Is: what its calls do, out of its walk. -/
set_option linter.unusedVariables false
set_option linter.unusedSimpArgs false
namespace Go.Proofs.YtogbpgkefkbffaaDoor.Ab
open Go

/-- Is(err, at, code). -/
def isP (args : List AV) (hp : Hl) (nx : Nat) : Option (AV × Hl × Nat) :=
  match args with
  | [.pv .nili, .pv (.int .i64 _), .pv (.int .i64 _)] => some (.pv (.bool false), hp, nx)
  | [.pv (.iface 0 (.int .i64 _)), .pv (.int .i64 _), .pv (.int .i64 _)] => some (.pv (.bool false), hp, nx)
  | [.pv (.iface 1 (.cptr [.int .i64 a, .int .i64 n] 0)), .pv (.int .i64 x), .pv (.int .i64 y)] => some (.pv (.bool (decide (a = x) && decide (n = y))), hp, nx)
  | _ => none

theorem keeps_of {w w' : World} (h : Go.RowKit.Below w.heap.size w w') : Keeps (fun _ => False) w w' := ⟨h.os, h.tape, h.output, h.size, fun b hb _ => h.block b hb⟩

theorem isP_raw {E : Env} {n : Nat} {g : Nat × Value} (hent : Ent E n) (hg : g ∈ E.gl)
    (h1 : ∀ (x y : Int) (w : World), Calls E.P (E.ρ n) #[.nilIface, .int .i64 x, .int .i64 y] w fun e w' => e = .returned (.bool false) ∧ Go.RowKit.Below w.heap.size w w')
    (h2 : ∀ (m x y : Int) (w : World), w.cell? ⟨g.1, 0, none⟩ = some g.2 → Calls E.P (E.ρ n) #[.iface (E.τ 0) (.int .i64 m), .int .i64 x, .int .i64 y] w fun e w' => e = .returned (.bool false) ∧ Go.RowKit.Below w.heap.size w w')
    (h3 : ∀ (b o : Nat) (a m x y : Int) (w : World), w.cell? ⟨g.1, 0, none⟩ = some g.2 → w.cell? ⟨b, o, none⟩ = some (.int .i64 a) → w.cell? ⟨b, o + 1, none⟩ = some (.int .i64 m) →
      Calls E.P (E.ρ n) #[.iface (E.τ 1) (.pointer (some ⟨b, o, none⟩)), .int .i64 x, .int .i64 y] w fun e w' => e = .returned (.bool (decide (a = x) && decide (m = y))) ∧ Go.RowKit.Below w.heap.size w w')
    (args : List AV) (hp : Hl) (nx : Nat) (v : AV) (hp' : Hl) (nx' : Nat) (h : isP args hp nx = some (v, hp', nx')) : RawC E n args hp nx v hp' nx' := by
  refine ⟨hent, fun X M F a w vs hX R hv => ?_⟩
  subst hX
  have hc := (R.inv g hg).2
  have fin : ∀ {b : Bool}, v = .pv (.bool b) → hp' = hp → nx' = nx → ∀ {e : Ending} {w' : World}, (e = .returned (.bool b) ∧ Go.RowKit.Below w.heap.size w w') →
      ∃ u M', e = .returned u ∧ Rel X M' F (blkAt hp') (fun i => i < nx') a w' ∧ VA (viewOf X w' (fun i => i < nx') M' (blkAt hp')) v u := by
    rintro b rfl rfl rfl e w' ⟨rfl, hb⟩
    exact ⟨_, M, rfl, R.grown (keeps_of hb), by simp only [VA, VP]⟩
  unfold isP at h
  split at h
  · rename_i x y
    simp only [Option.some.injEq, Prod.mk.injEq] at h
    obtain ⟨rfl, rfl, rfl⟩ := h
    simp only [VAs, VA, VP] at hv
    obtain ⟨_, _, rfl, rfl, _, _, rfl, rfl, _, _, rfl, rfl, rfl⟩ := hv
    exact (h1 x y w).mono fun e w' hh => fin rfl rfl rfl hh
  · rename_i m x y
    simp only [Option.some.injEq, Prod.mk.injEq] at h
    obtain ⟨rfl, rfl, rfl⟩ := h
    simp only [VAs, VA, VP] at hv
    obtain ⟨_, _, rfl, ⟨_, rfl, rfl⟩, _, _, rfl, rfl, _, _, rfl, rfl, rfl⟩ := hv
    exact (h2 m x y w hc).mono fun e w' hh => fin rfl rfl rfl hh
  · rename_i a' m x y
    simp only [Option.some.injEq, Prod.mk.injEq] at h
    obtain ⟨rfl, rfl, rfl⟩ := h
    simp only [VAs, VA, VP, VRun] at hv
    obtain ⟨_, _, rfl, ⟨_, rfl, b, o, rfl, _, ⟨_, c1, _, rfl⟩, ⟨_, c2, _, rfl⟩, _⟩, _, _, rfl, rfl, _, _, rfl, rfl, rfl⟩ := hv
    exact (h3 b o a' m x y w hc c1 c2).mono fun e w' hh => fin rfl rfl rfl hh
  · simp at h

/-- What Is tells. -/
def isV (at' code : Int) : PV → Option Bool
  | .nili => some false
  | .iface 0 (.int .i64 _) => some false
  | .iface 1 (.cptr [.int .i64 a, .int .i64 n] 0) => some (decide (a = at') && decide (n = code))
  | _ => none
structure StdP (T : Tab) (n : Nat) (g : Prm) : Prop where
  prim : T.prim n = some g
  raw : T.raw n = false
  own : T.own n = false
theorem is_ok {T : Tab} {n : Nat} (S : StdP T n isP) {e : PV} {x y : Int} {b : Bool} (h : isV x y e = some b) : Gives T n [e, .int .i64 x, .int .i64 y] (.bool b) := by
  refine ⟨S.raw, S.own, none, ?_⟩
  have : isP (pvs [e, .int .i64 x, .int .i64 y]) [] 0 = some (.pv (.bool b), [], 0) := by
    unfold isV at h
    split at h
    all_goals first | (simp at h; done) | skip
    all_goals
      simp only [Option.some.injEq] at h
      subst h
      simp only [pvs, isP]
  unfold callP
  rw [D_prim S.prim this]
  simp only [snapV, snapR, ownSz]
end Go.Proofs.YtogbpgkefkbffaaDoor.Ab
/- (rn) Layer 2 (wire): what is put is got; the laws. -/
set_option linter.unusedVariables false
set_option linter.unusedSimpArgs false
namespace Go.Proofs.YtogbpgkefkbffaaDoor.Ab
open Go

/-! ### Plain -/
theorem rd_put (r : List Nat) : ∀ (m k n : Nat), (0 < k → 0 < m) → n < 128 ^ k → n + m * 128 ^ k < 18446744073709551616 → rd k n (putN m ++ r) = some (n + m * 128 ^ k, k + (putN m).length) := by
  intro m
  induction m using Nat.strongRecOn with
  | _ m ih =>
    intro k n hk hn ht
    have hk9 : ¬ 10 ≤ k := by
      intro h
      have h1 : 128 ^ 10 ≤ 128 ^ k := Nat.pow_le_pow_right (by omega) h
      have h2 : 1 * 128 ^ k ≤ m * 128 ^ k := Nat.mul_le_mul_right _ (hk (by omega))
      omega
    have h9 : k = 9 → m ≤ 1 := by
      intro h
      subst h
      by_cases h : m ≤ 1
      · exact h
      · have h2 : 2 * 128 ^ 9 ≤ m * 128 ^ 9 := Nat.mul_le_mul_right _ (by omega)
        omega
    by_cases hm : m < 128
    · rw [putN_lt hm]
      simp only [List.cons_append, List.nil_append, rd, hm, if_true, List.length_cons, List.length_nil, Nat.zero_add]
      rw [if_neg]
      intro h
      rcases h with h | h | h
      · exact hk9 h
      · have := h9 h.1; omega
      · have := hk h.1; omega
    · rw [putN_ge hm]
      have e1 : ¬ (m % 128 + 128 < 128) := by omega
      have e2 : (m % 128 + 128) % 128 = m % 128 := by omega
      have e3 : n + m % 128 * 128 ^ k + m / 128 * 128 ^ (k + 1) = n + m * 128 ^ k := by
        have : m * 128 ^ k = (128 * (m / 128) + m % 128) * 128 ^ k := by rw [Nat.div_add_mod]
        rw [this, pow_step, Nat.add_mul]
        have : m / 128 * (128 ^ k * 128) = 128 * (m / 128) * 128 ^ k := by
          rw [Nat.mul_comm (128 ^ k) 128, ← Nat.mul_assoc, Nat.mul_comm (m / 128) 128]
        omega
      simp only [List.cons_append, rd, e1, if_false, e2]
      rw [if_neg, ih (m / 128) (by omega) (k + 1) _ (fun _ => by omega) ?_ (by rw [e3]; exact ht), e3]
      · simp only [List.length_cons, Option.some.injEq, Prod.mk.injEq, true_and]
        omega
      · have : m % 128 * 128 ^ k ≤ 127 * 128 ^ k := Nat.mul_le_mul_right _ (by omega)
        rw [pow_step]
        omega
      · intro h
        rcases h with h | h | h
        · exact hk9 h
        · have := h9 h.1; omega
        · omega
theorem rd0_put (n : Nat) (r : List Nat) (hn : n < 18446744073709551616) : rd0 (putN n ++ r) = some (n, (putN n).length) := by
  have := rd_put r n 0 0 (fun h => by omega) (by simp) (by simpa using hn)
  unfold rd0
  simpa using this
theorem drop_put (n : Nat) (r : List Nat) : (putN n ++ r).drop (putN n).length = r := by simp
theorem allN_put : ∀ l : List Nat, U64 l → allN (putL l) = .inr l
  | [], _ => allN_nil
  | n :: r, h => by
    rw [putL, allN_some ?_ (rd0_put n (putL r) (h n (List.mem_cons_self ..))), drop_put, allN_put r fun m hm => h m (List.mem_cons_of_mem _ hm)]
    · rfl
    · exact fun m hm => putL_u8 (n :: r) m (by simpa [putL] using hm)
theorem getN_put (q : List Nat) : ∀ (k : Nat) (l : List Nat), U64 l → k ≤ l.length → getN k (putL l ++ q) = .inr (l.take k, (putL (l.take k)).length)
  | 0, l, _, _ => by simp [getN, putL]
  | k + 1, [], _, h => by simp at h
  | k + 1, n :: r, hu, h => by
    rw [putL, List.append_assoc, getN_some (rd0_put n _ (hu n (List.mem_cons_self ..))), drop_put, getN_put q k r (fun m hm => hu m (List.mem_cons_of_mem _ hm)) (by simpa using h)]
    simp [joinG, putL]
theorem rd_back : ∀ (l : List Nat) (k n v c : Nat), U8 l → rd k n l = some (v, c) → ∃ m, v = n + m * 128 ^ k ∧ k < c ∧ putN m = l.take (c - k) ∧ (0 < k → 0 < m)
  | [], k, n, v, c, _, h => by simp [rd] at h
  | x :: r, k, n, v, c, hu, h => by
    have hx : x < 256 := hu x (List.mem_cons_self ..)
    simp only [rd] at h
    split at h
    · simp at h
    · rename_i hc
      simp only [not_or, not_and] at hc
      split at h
      · rename_i h1
        simp only [Option.some.injEq, Prod.mk.injEq] at h
        obtain ⟨rfl, rfl⟩ := h
        exact ⟨x, rfl, by omega, by rw [putN_lt h1, show k + 1 - k = 1 by omega]; rfl, fun hk => by have := hc.2.2 hk; omega⟩
      · rename_i h1
        obtain ⟨m, e1, e2, e3, e4⟩ := rd_back r (k + 1) _ v c (fun y hy => hu y (List.mem_cons_of_mem _ hy)) h
        have hm := e4 (by omega)
        refine ⟨x % 128 + 128 * m, ?_, by omega, ?_, fun _ => by omega⟩
        · rw [e1, pow_step, Nat.add_mul]
          have : m * (128 ^ k * 128) = 128 * m * 128 ^ k := by
            rw [Nat.mul_comm (128 ^ k) 128, ← Nat.mul_assoc, Nat.mul_comm m 128]
          omega
        · rw [putN_ge (by omega), show (x % 128 + 128 * m) % 128 + 128 = x by omega, show (x % 128 + 128 * m) / 128 = m by omega, e3, show c - k = (c - (k + 1)) + 1 by omega]
          rfl
theorem rd0_back {l : List Nat} {v c : Nat} (hu : U8 l) (h : rd0 l = some (v, c)) : putN v = l.take c := by
  obtain ⟨m, e1, e2, e3, e4⟩ := rd_back l 0 0 v c hu h
  simp at e1 e3
  rw [e1, e3]
theorem allN_back : ∀ (k : Nat) (b l : List Nat), b.length ≤ k → U8 b → allN b = .inr l → putL l = b ∧ U64 l := by
  intro k
  induction k with
  | zero =>
    intro b l hk hu h
    have : b = [] := List.eq_nil_of_length_eq_zero (by omega)
    subst this
    rw [allN_nil] at h
    simp at h
    subst h
    exact ⟨rfl, fun m hm => by simp at hm⟩
  | succ k ih =>
    intro b l hk hu h
    by_cases hb : b = []
    · subst hb
      rw [allN_nil] at h
      simp at h
      subst h
      exact ⟨rfl, fun m hm => by simp at hm⟩
    · cases hr : rd0 b with
      | none => rw [allN_none hb hr] at h; simp at h
      | some q =>
        obtain ⟨v, c⟩ := q
        obtain ⟨q1, q2, q3, q4⟩ := rd0_lt hu hr
        rw [allN_some hu hr] at h
        cases ho : allN (b.drop c) with
        | inl e => rw [ho] at h; simp [joinA] at h
        | inr r =>
          rw [ho] at h
          simp [joinA] at h
          subst h
          obtain ⟨f1, f2⟩ := ih (b.drop c) r (by rw [List.length_drop]; omega) (hu.drop c) ho
          refine ⟨by rw [putL, f1, rd0_back hu hr, List.take_append_drop], fun m hm => ?_⟩
          rcases List.mem_cons.1 hm with rfl | hm
          · exact q1
          · exact f2 m hm
theorem allN_len {b l : List Nat} (hu : U8 b) (h : allN b = .inr l) : l.length ≤ b.length := by
  obtain ⟨f1, f2⟩ := allN_back b.length b l (Nat.le_refl _) hu h
  rw [← f1]
  clear f1 f2 h hu
  induction l with
  | nil => simp
  | cons n r ih =>
    have : 0 < (putN n).length := List.length_pos_iff.2 (putN_ne n)
    simp only [putL, List.length_append, List.length_cons]
    omega

theorem getN_len : ∀ (k : Nat) (b : List Nat) (l : List Nat) (d : Nat), U8 b → getN k b = .inr (l, d) → l.length ≤ b.length
  | 0, b, l, d, _, h => by simp [getN] at h; simp [h.1]
  | k + 1, b, l, d, hu, h => by
    cases hr : rd0 b with
    | none => simp [getN, hr] at h
    | some q =>
      obtain ⟨v, c⟩ := q
      obtain ⟨q1, q2, q3, q4⟩ := rd0_lt hu hr
      rw [getN_some hr] at h
      cases ho : getN k (b.drop c) with
      | inl e => rw [ho] at h; simp [joinG] at h
      | inr p =>
        obtain ⟨r, d'⟩ := p
        rw [ho] at h
        simp [joinG] at h
        have := getN_len k _ r d' (hu.drop c) ho
        rw [List.length_drop] at this
        rw [← h.1, List.length_cons]
        omega

theorem wf_u8 {n : Int} (h : (Lit.int .u8 n).wf = true) : 0 ≤ n ∧ n ≤ 255 := by
  simp only [Lit.wf, Bool.and_eq_true, decide_eq_true_eq] at h
  exact h
theorem fits_u64s {p : PV} (h : Fits (.sl [.nu .u64]) p) : ∃ l : List Nat, p = u64s l ∧ U64 l := by
  simp only [Fits] at h
  obtain ⟨l, rfl, h⟩ := h
  obtain ⟨x, rfl, k⟩ := rows_map (enc := u64C) (W := fun n => n < 18446744073709551616) (fun e he => by
    have := h e he
    simp only [FitsL, Fits] at this
    obtain ⟨_, _, rfl, ⟨n, rfl, hn⟩, rfl⟩ := this
    obtain ⟨h1, h2⟩ := wf_u64 hn
    exact ⟨n.toNat, by simp only [u64C, Int.toNat_of_nonneg h1], by omega⟩)
  exact ⟨x, rfl, k⟩
theorem fits_bytes {p : PV} (h : Fits (.sl [.nu .u8]) p) : ∃ l : List Nat, p = bytesP l ∧ U8 l := by
  simp only [Fits] at h
  obtain ⟨l, rfl, h⟩ := h
  obtain ⟨x, rfl, k⟩ := rows_map (enc := u8C) (W := fun n => n < 256) (fun e he => by
    have := h e he
    simp only [FitsL, Fits] at this
    obtain ⟨_, _, rfl, ⟨n, rfl, hn⟩, rfl⟩ := this
    obtain ⟨h1, h2⟩ := wf_u8 hn
    exact ⟨n.toNat, by simp only [u8C, Int.toNat_of_nonneg h1], by omega⟩)
  exact ⟨x, rfl, k⟩

/-! ### The laws -/
def l02 : List (Nat × AFunc) := [(146, f146), (147, f147), (148, f148), (149, f149), (150, f150), (262, f262), (263, f263), (264, f264), (265, f265), (327, f327), (328, f328), (329, f329), (330, f330), (331, f331), (339, f339), (340, f340)]
def p02 : List (Nat × Prm) := [(103, isP)]
theorem allLen_u8 (l : List Nat) : allLen 1 (l.map u8C) = true := by simp [allLen, u8C]
theorem allLen_u64 (l : List Nat) : allLen 1 (l.map u64C) = true := by simp [allLen, u64C]
theorem bytesV_u8 (l : List Nat) : bytesV (l.map u8C) = some (l.map Int.ofNat) := by
  induction l with
  | nil => rfl
  | cons n r ih => simp only [List.map_cons, bytesV, u8C, ih]; rfl
def T02 : Tab := tabOf l02 [] [] [] [339] p02
theorem up02 : Gives T02 339 [] (.bool true) := ⟨rfl, rfl, none, callP_true (k := 60) (by decide +kernel)⟩

theorem law02a (l : List Nat) (hu : U64 l) : Gives T02 327 [u64s l] (.bool true) := by
  refine gives (f := f327) ⟨rfl, rfl, rfl, rfl, rfl⟩ rfl ?_
  by_cases hl : (1000 : Int) < (l.length : Int)
  · simp only [f327, runL, opQ, evOp, evO, evOs, guardV, argsA, pvs, putS, cellsOf, scals, scal, Nat.reduceEqDiff, Nat.reduceAdd, reduceCtorEq, fieldA, nonNil, cellsAt, mkAgg, allPV, storeB, patchL, Int.reduceToNat, Nat.reduceMul, Nat.reduceLT, stepA, Int.reduceNeg, Int.reduceLE, Int.reduceLT, Int.reduceEq, extractV, mkAgg, Nat.reduceLeDiff, fillA, pureVs, pureV, eqV, eqB, lenV.eq_1, lenV.eq_2, lenV.eq_3, lenV.eq_4, binV, intBin, intV, idxA, List.drop, List.take, RetP, retP, resV, resOne, snapV, snapVs, snapR, snapRs, ownSz, pickV, AO.isC, opE, opD, funV, up02.call, u64s, hl]
  · have k1 := put_ok (T := T02) ⟨rfl, rfl, rfl, rfl, rfl⟩ l hu (by omega)
    have k2 := putr_ok (T := T02) ⟨rfl, rfl, rfl, rfl, rfl⟩ ⟨rfl, rfl, rfl, rfl, rfl⟩ l hu (by omega)
    simp only [u64s, bytesP] at k1 k2
    simp only [f327, runL, opQ, evOp, evO, evOs, guardV, argsA, pvs, putS, cellsOf, scals, scal, Nat.reduceEqDiff, Nat.reduceAdd, reduceCtorEq, fieldA, nonNil, cellsAt, mkAgg, allPV, storeB, patchL, Int.reduceToNat, Nat.reduceMul, Nat.reduceLT, stepA, Int.reduceNeg, Int.reduceLE, Int.reduceLT, Int.reduceEq, extractV, mkAgg, Nat.reduceLeDiff, fillA, pureVs, pureV, eqV, eqB, lenV.eq_1, lenV.eq_2, lenV.eq_3, lenV.eq_4, binV, intBin, intV, idxA, List.drop, List.take, RetP, retP, resV, resOne, snapV, snapVs, snapR, snapRs, ownSz, pickV, AO.isC, opE, opD, funV, up02.call, u64s, hl]
    refine (Wp_calm rfl).2 ?_
    simp only [runL, opQ, evOp, evO, evOs, guardV, argsA, pvs, putS, cellsOf, scals, scal, Nat.reduceEqDiff, Nat.reduceAdd, reduceCtorEq, fieldA, nonNil, cellsAt, mkAgg, allPV, storeB, patchL, Int.reduceToNat, Nat.reduceMul, Nat.reduceLT, stepA, Int.reduceNeg, Int.reduceLE, Int.reduceLT, Int.reduceEq, extractV, mkAgg, Nat.reduceLeDiff, fillA, pureVs, pureV, eqV, eqB, lenV.eq_1, lenV.eq_2, lenV.eq_3, lenV.eq_4, binV, intBin, intV, idxA, List.drop, List.take, RetP, retP, resV, resOne, snapV, snapVs, snapR, snapRs, ownSz, pickV, AO.isC, opE, opD, funV, k1.callD, k2.callD, srcV, bytesV_u8]
theorem law02b (b : List Nat) (hu : U8 b) : Gives T02 328 [bytesP b] (.bool true) := by
  refine gives (f := f328) ⟨rfl, rfl, rfl, rfl, rfl⟩ rfl ?_
  by_cases hl : (5000 : Int) < (b.length : Int)
  · simp only [f328, runL, opQ, evOp, evO, evOs, guardV, argsA, pvs, putS, cellsOf, scals, scal, Nat.reduceEqDiff, Nat.reduceAdd, reduceCtorEq, fieldA, nonNil, cellsAt, mkAgg, allPV, storeB, patchL, Int.reduceToNat, Nat.reduceMul, Nat.reduceLT, stepA, Int.reduceNeg, Int.reduceLE, Int.reduceLT, Int.reduceEq, extractV, mkAgg, Nat.reduceLeDiff, fillA, pureVs, pureV, eqV, eqB, lenV.eq_1, lenV.eq_2, lenV.eq_3, lenV.eq_4, binV, intBin, intV, idxA, List.drop, List.take, RetP, retP, resV, resOne, snapV, snapVs, snapR, snapRs, ownSz, pickV, AO.isC, opE, opD, funV, up02.call, bytesP, hl]
  · have k1 := all2_ok (T := T02) ⟨rfl, rfl, rfl, rfl, rfl⟩ ⟨rfl, rfl, rfl, rfl, rfl⟩ b hu (by omega)
    have k2 := all2r_ok (T := T02) ⟨rfl, rfl, rfl, rfl, rfl⟩ ⟨rfl, rfl, rfl, rfl, rfl⟩ ⟨rfl, rfl, rfl, rfl, rfl⟩ b hu (by omega)
    cases ho : allN b with
    | inl e =>
      have he : (0 : Int) ≤ e := by omega
      have z0 : ((0 : Nat) : Int) = 0 := rfl
      have k3 := is_ok (T := T02) (n := 103) ⟨rfl, rfl, rfl⟩ (e := spotE e 2) (x := e) (y := 2) (b := true) (by simp [isV, spotE])
      rw [ho] at k1 k2
      simp only [allR, allRr, bytesP, spotE] at k1 k2 k3
      simp only [f328, runL, opQ, evOp, evO, evOs, guardV, argsA, pvs, putS, cellsOf, scals, scal, Nat.reduceEqDiff, Nat.reduceAdd, reduceCtorEq, fieldA, nonNil, cellsAt, mkAgg, allPV, storeB, patchL, Int.reduceToNat, Nat.reduceMul, Nat.reduceLT, stepA, Int.reduceNeg, Int.reduceLE, Int.reduceLT, Int.reduceEq, extractV, mkAgg, Nat.reduceLeDiff, fillA, pureVs, pureV, eqV, eqB, lenV.eq_1, lenV.eq_2, lenV.eq_3, lenV.eq_4, binV, intBin, intV, idxA, List.drop, List.take, RetP, retP, resV, resOne, snapV, snapVs, snapR, snapRs, ownSz, pickV, AO.isC, opE, opD, funV, up02.call, bytesP, hl, k1.call, k2.call, he, k3.call, z0]
    | inr l =>
      have hl2 := allN_len hu ho
      have k3 := same2_ok (T := T02) ⟨rfl, rfl, rfl, rfl, rfl⟩ l l (by omega)
      rw [ho] at k1 k2
      simp only [allR, allRr, bytesP, u64s] at k1 k2 k3
      simp only [f328, runL, opQ, evOp, evO, evOs, guardV, argsA, pvs, putS, cellsOf, scals, scal, Nat.reduceEqDiff, Nat.reduceAdd, reduceCtorEq, fieldA, nonNil, cellsAt, mkAgg, allPV, storeB, patchL, Int.reduceToNat, Nat.reduceMul, Nat.reduceLT, stepA, Int.reduceNeg, Int.reduceLE, Int.reduceLT, Int.reduceEq, extractV, mkAgg, Nat.reduceLeDiff, fillA, pureVs, pureV, eqV, eqB, lenV.eq_1, lenV.eq_2, lenV.eq_3, lenV.eq_4, binV, intBin, intV, idxA, List.drop, List.take, RetP, retP, resV, resOne, snapV, snapVs, snapR, snapRs, ownSz, pickV, AO.isC, opE, opD, funV, up02.call, bytesP, hl, k1.call, k2.call, k3.call]
theorem law02d (b : List Nat) (many : Int) (hu : U8 b) (_ : inI many) : Gives T02 330 [bytesP b, .int .i64 many] (.bool true) := by
  refine gives (f := f330) ⟨rfl, rfl, rfl, rfl, rfl⟩ rfl ?_
  by_cases hl : (5000 : Int) < (b.length : Int)
  · simp only [f330, runL, opQ, evOp, evO, evOs, guardV, argsA, pvs, putS, cellsOf, scals, scal, Nat.reduceEqDiff, Nat.reduceAdd, reduceCtorEq, fieldA, nonNil, cellsAt, mkAgg, allPV, storeB, patchL, Int.reduceToNat, Nat.reduceMul, Nat.reduceLT, stepA, Int.reduceNeg, Int.reduceLE, Int.reduceLT, Int.reduceEq, extractV, mkAgg, Nat.reduceLeDiff, fillA, pureVs, pureV, eqV, eqB, lenV.eq_1, lenV.eq_2, lenV.eq_3, lenV.eq_4, binV, intBin, intV, idxA, List.drop, List.take, RetP, retP, resV, resOne, snapV, snapVs, snapR, snapRs, ownSz, pickV, AO.isC, opE, opD, funV, up02.call, bytesP, hl]
  · have k1 := get2_ok (T := T02) ⟨rfl, rfl, rfl, rfl, rfl⟩ ⟨rfl, rfl, rfl, rfl, rfl⟩ b hu (by omega) many
    have k2 := get2r_ok (T := T02) ⟨rfl, rfl, rfl, rfl, rfl⟩ ⟨rfl, rfl, rfl, rfl, rfl⟩ ⟨rfl, rfl, rfl, rfl, rfl⟩ b hu (by omega) many
    cases ho : getN many.toNat b with
    | inl e =>
      have he : (0 : Int) ≤ e := by omega
      have z0 : ((0 : Nat) : Int) = 0 := rfl
      have k3 := is_ok (T := T02) (n := 103) ⟨rfl, rfl, rfl⟩ (e := spotE e 2) (x := e) (y := 2) (b := true) (by simp [isV, spotE])
      rw [ho] at k1 k2
      simp only [getR, getRr, bytesP, spotE] at k1 k2 k3
      simp only [f330, runL, opQ, evOp, evO, evOs, guardV, argsA, pvs, putS, cellsOf, scals, scal, Nat.reduceEqDiff, Nat.reduceAdd, reduceCtorEq, fieldA, nonNil, cellsAt, mkAgg, allPV, storeB, patchL, Int.reduceToNat, Nat.reduceMul, Nat.reduceLT, stepA, Int.reduceNeg, Int.reduceLE, Int.reduceLT, Int.reduceEq, extractV, mkAgg, Nat.reduceLeDiff, fillA, pureVs, pureV, eqV, eqB, lenV.eq_1, lenV.eq_2, lenV.eq_3, lenV.eq_4, binV, intBin, intV, idxA, List.drop, List.take, RetP, retP, resV, resOne, snapV, snapVs, snapR, snapRs, ownSz, pickV, AO.isC, opE, opD, funV, up02.call, bytesP, hl, k1.call, k2.call, he, k3.call, z0]
    | inr q =>
      obtain ⟨l, d⟩ := q
      have hl2 : l.length ≤ 2 ^ 30 := Nat.le_trans (getN_len _ b l d hu ho) (by omega)
      have k3 := same2_ok (T := T02) ⟨rfl, rfl, rfl, rfl, rfl⟩ l l hl2
      rw [ho] at k1 k2
      simp only [getR, getRr, bytesP, u64s] at k1 k2 k3
      simp only [f330, runL, opQ, evOp, evO, evOs, guardV, argsA, pvs, putS, cellsOf, scals, scal, Nat.reduceEqDiff, Nat.reduceAdd, reduceCtorEq, fieldA, nonNil, cellsAt, mkAgg, allPV, storeB, patchL, Int.reduceToNat, Nat.reduceMul, Nat.reduceLT, stepA, Int.reduceNeg, Int.reduceLE, Int.reduceLT, Int.reduceEq, extractV, mkAgg, Nat.reduceLeDiff, fillA, pureVs, pureV, eqV, eqB, lenV.eq_1, lenV.eq_2, lenV.eq_3, lenV.eq_4, binV, intBin, intV, idxA, List.drop, List.take, RetP, retP, resV, resOne, snapV, snapVs, snapR, snapRs, ownSz, pickV, AO.isC, opE, opD, funV, up02.call, bytesP, hl, k1.call, k2.call, k3.call]

set_option maxRecDepth 100000 in
set_option maxHeartbeats 4000000 in
theorem law02c (l b : List Nat) (hl : U64 l) (hu : U8 b) : Gives T02 329 [u64s l, bytesP b] (.bool true) := by
  refine gives (f := f329) ⟨rfl, rfl, rfl, rfl, rfl⟩ rfl ?_
  by_cases h1 : (1000 : Int) < (l.length : Int)
  · simp only [f329, runL, opQ, evOp, evO, evOs, guardV, argsA, pvs, putS, cellsOf, scals, scal, Nat.reduceEqDiff, Nat.reduceAdd, reduceCtorEq, fieldA, nonNil, cellsAt, mkAgg, allPV, storeB, patchL, Int.reduceToNat, Nat.reduceMul, Nat.reduceLT, stepA, Int.reduceNeg, Int.reduceLE, Int.reduceLT, Int.reduceEq, extractV, mkAgg, Nat.reduceLeDiff, fillA, pureVs, pureV, eqV, eqB, lenV.eq_1, lenV.eq_2, lenV.eq_3, lenV.eq_4, binV, intBin, intV, idxA, List.drop, List.take, RetP, retP, resV, resOne, snapV, snapVs, snapR, snapRs, ownSz, pickV, AO.isC, opE, opD, funV, up02.call, u64s, bytesP, h1]
  · by_cases h2 : (5000 : Int) < (b.length : Int)
    · simp only [f329, runL, opQ, evOp, evO, evOs, guardV, argsA, pvs, putS, cellsOf, scals, scal, Nat.reduceEqDiff, Nat.reduceAdd, reduceCtorEq, fieldA, nonNil, cellsAt, mkAgg, allPV, storeB, patchL, Int.reduceToNat, Nat.reduceMul, Nat.reduceLT, stepA, Int.reduceNeg, Int.reduceLE, Int.reduceLT, Int.reduceEq, extractV, mkAgg, Nat.reduceLeDiff, fillA, pureVs, pureV, eqV, eqB, lenV.eq_1, lenV.eq_2, lenV.eq_3, lenV.eq_4, binV, intBin, intV, idxA, List.drop, List.take, RetP, retP, resV, resOne, snapV, snapVs, snapR, snapRs, ownSz, pickV, AO.isC, opE, opD, funV, up02.call, u64s, bytesP, h1, h2]
    · have k1 := put_ok (T := T02) ⟨rfl, rfl, rfl, rfl, rfl⟩ l hl (by omega)
      have hlen := putL_length l hl
      have k2 := all2_ok (T := T02) ⟨rfl, rfl, rfl, rfl, rfl⟩ ⟨rfl, rfl, rfl, rfl, rfl⟩ (putL l) (putL_u8 l) (by omega)
      rw [allN_put l hl] at k2
      have k3 := same2_ok (T := T02) ⟨rfl, rfl, rfl, rfl, rfl⟩ l l (by omega)
      have k4 := all2_ok (T := T02) ⟨rfl, rfl, rfl, rfl, rfl⟩ ⟨rfl, rfl, rfl, rfl, rfl⟩ b hu (by omega)
      simp only [allR, u64s, bytesP] at k1 k2 k3 k4
      have hA : b.length ≤ 2 ^ 30 := by omega
      have hall := allLen_u8 b
      simp only [f329, runL, opQ, evOp, evO, evOs, guardV, argsA, pvs, putS, cellsOf, scals, scal, Nat.reduceEqDiff, Nat.reduceAdd, reduceCtorEq, fieldA, nonNil, cellsAt, mkAgg, allPV, storeB, patchL, Int.reduceToNat, Nat.reduceMul, Nat.reduceLT, stepA, Int.reduceNeg, Int.reduceLE, Int.reduceLT, Int.reduceEq, extractV, mkAgg, Nat.reduceLeDiff, fillA, pureVs, pureV, eqV, eqB, lenV.eq_1, lenV.eq_2, lenV.eq_3, lenV.eq_4, binV, intBin, intV, idxA, List.drop, List.take, RetP, retP, resV, resOne, snapV, snapVs, snapR, snapRs, ownSz, pickV, AO.isC, opE, opD, funV, up02.call, u64s, bytesP, h1, h2, k1.call, k2.call, k3.call, partsScal, srcV, chunk, hall, appV, baseV, hA]
      refine k4.callY rfl rfl ?_ ?_
      · simp only [frzAll, rowKeys, frzSs, frzS, frzF, frzH, frzB, frzV, frzVs, mkFun, blkAt, cond_true, cond_false, beq_self, runL, opQ, evOp, evO, evOs, guardV, argsA, pvs, putS, cellsOf, scals, scal, Nat.reduceEqDiff, Nat.reduceAdd, reduceCtorEq, fieldA, nonNil, cellsAt, mkAgg, allPV, storeB, patchL, Int.reduceToNat, Nat.reduceMul, Nat.reduceLT, stepA, Int.reduceNeg, Int.reduceLE, Int.reduceLT, Int.reduceEq, extractV, mkAgg, Nat.reduceLeDiff, fillA, pureVs, pureV, eqV, eqB, lenV.eq_1, lenV.eq_2, lenV.eq_3, lenV.eq_4, binV, intBin, intV, idxA, List.drop, List.take, RetP, retP, resV, resOne, snapV, snapVs, snapR, snapRs, ownSz, pickV, AO.isC, opE, opD, funV, rowIdsL, rowIds, frzA]
      · simp only [frzAll, rowKeys, frzSs, frzS, frzF, frzH, frzB, frzV, frzVs, mkFun, blkAt, cond_true, cond_false, beq_self, runL, opQ, evOp, evO, evOs, guardV, argsA, pvs, putS, cellsOf, scals, scal, Nat.reduceEqDiff, Nat.reduceAdd, reduceCtorEq, fieldA, nonNil, cellsAt, mkAgg, allPV, storeB, patchL, Int.reduceToNat, Nat.reduceMul, Nat.reduceLT, stepA, Int.reduceNeg, Int.reduceLE, Int.reduceLT, Int.reduceEq, extractV, mkAgg, Nat.reduceLeDiff, fillA, pureVs, pureV, eqV, eqB, lenV.eq_1, lenV.eq_2, lenV.eq_3, lenV.eq_4, binV, intBin, intV, idxA, List.drop, List.take, RetP, retP, resV, resOne, snapV, snapVs, snapR, snapRs, ownSz, pickV, AO.isC, opE, opD, funV, rowIdsL, rowIds, frzA]
        cases ho : allN b with
        | inl e =>
          simp only [allR, spotE]
          simp only [runL, opQ, evOp, evO, evOs, guardV, argsA, pvs, putS, cellsOf, scals, scal, Nat.reduceEqDiff, Nat.reduceAdd, reduceCtorEq, fieldA, nonNil, cellsAt, mkAgg, allPV, storeB, patchL, Int.reduceToNat, Nat.reduceMul, Nat.reduceLT, stepA, Int.reduceNeg, Int.reduceLE, Int.reduceLT, Int.reduceEq, extractV, mkAgg, Nat.reduceLeDiff, fillA, pureVs, pureV, eqV, eqB, lenV.eq_1, lenV.eq_2, lenV.eq_3, lenV.eq_4, binV, intBin, intV, idxA, List.drop, List.take, RetP, retP, resV, resOne, snapV, snapVs, snapR, snapRs, ownSz, pickV, AO.isC, opE, opD, funV, srcV, bytesV_u8]
          refine (Wp_calm rfl).2 ?_
          simp only [runL, opQ, evOp, evO, evOs, guardV, argsA, pvs, putS, cellsOf, scals, scal, Nat.reduceEqDiff, Nat.reduceAdd, reduceCtorEq, fieldA, nonNil, cellsAt, mkAgg, allPV, storeB, patchL, Int.reduceToNat, Nat.reduceMul, Nat.reduceLT, stepA, Int.reduceNeg, Int.reduceLE, Int.reduceLT, Int.reduceEq, extractV, mkAgg, Nat.reduceLeDiff, fillA, pureVs, pureV, eqV, eqB, lenV.eq_1, lenV.eq_2, lenV.eq_3, lenV.eq_4, binV, intBin, intV, idxA, List.drop, List.take, RetP, retP, resV, resOne, snapV, snapVs, snapR, snapRs, ownSz, pickV, AO.isC, opE, opD, funV]
        | inr y =>
          obtain ⟨f1, f2⟩ := allN_back b.length b y (Nat.le_refl _) hu ho
          have k5 := put_ok (T := T02) ⟨rfl, rfl, rfl, rfl, rfl⟩ y f2 (by have := allN_len hu ho; omega)
          rw [f1] at k5
          simp only [u64s, bytesP] at k5
          simp only [allR, u64s]
          simp only [runL, opQ, evOp, evO, evOs, guardV, argsA, pvs, putS, cellsOf, scals, scal, Nat.reduceEqDiff, Nat.reduceAdd, reduceCtorEq, fieldA, nonNil, cellsAt, mkAgg, allPV, storeB, patchL, Int.reduceToNat, Nat.reduceMul, Nat.reduceLT, stepA, Int.reduceNeg, Int.reduceLE, Int.reduceLT, Int.reduceEq, extractV, mkAgg, Nat.reduceLeDiff, fillA, pureVs, pureV, eqV, eqB, lenV.eq_1, lenV.eq_2, lenV.eq_3, lenV.eq_4, binV, intBin, intV, idxA, List.drop, List.take, RetP, retP, resV, resOne, snapV, snapVs, snapR, snapRs, ownSz, pickV, AO.isC, opE, opD, funV, srcV, bytesV_u8]
          refine (Wp_calm rfl).2 ?_
          simp only [runL, opQ, evOp, evO, evOs, guardV, argsA, pvs, putS, cellsOf, scals, scal, Nat.reduceEqDiff, Nat.reduceAdd, reduceCtorEq, fieldA, nonNil, cellsAt, mkAgg, allPV, storeB, patchL, Int.reduceToNat, Nat.reduceMul, Nat.reduceLT, stepA, Int.reduceNeg, Int.reduceLE, Int.reduceLT, Int.reduceEq, extractV, mkAgg, Nat.reduceLeDiff, fillA, pureVs, pureV, eqV, eqB, lenV.eq_1, lenV.eq_2, lenV.eq_3, lenV.eq_4, binV, intBin, intV, idxA, List.drop, List.take, RetP, retP, resV, resOne, snapV, snapVs, snapR, snapRs, ownSz, pickV, AO.isC, opE, opD, funV, k5.callD, srcV, bytesV_u8]

set_option maxRecDepth 100000 in
set_option maxHeartbeats 4000000 in
theorem law02e (a b : List Nat) (many : Int) (ha : U64 a) (hb : U64 b) (_ : inI many) : Gives T02 331 [u64s a, u64s b, .int .i64 many] (.bool true) := by
  refine gives (f := f331) ⟨rfl, rfl, rfl, rfl, rfl⟩ rfl ?_
  by_cases h1 : (500 : Int) < (a.length : Int)
  · simp only [f331, runL, opQ, evOp, evO, evOs, guardV, argsA, pvs, putS, cellsOf, scals, scal, Nat.reduceEqDiff, Nat.reduceAdd, reduceCtorEq, fieldA, nonNil, cellsAt, mkAgg, allPV, storeB, patchL, Int.reduceToNat, Nat.reduceMul, Nat.reduceLT, stepA, Int.reduceNeg, Int.reduceLE, Int.reduceLT, Int.reduceEq, extractV, mkAgg, Nat.reduceLeDiff, fillA, pureVs, pureV, eqV, eqB, lenV.eq_1, lenV.eq_2, lenV.eq_3, lenV.eq_4, binV, intBin, intV, idxA, List.drop, List.take, RetP, retP, resV, resOne, snapV, snapVs, snapR, snapRs, ownSz, pickV, AO.isC, opE, opD, funV, up02.call, u64s, h1]
  · by_cases h2 : (500 : Int) < (b.length : Int)
    · simp only [f331, runL, opQ, evOp, evO, evOs, guardV, argsA, pvs, putS, cellsOf, scals, scal, Nat.reduceEqDiff, Nat.reduceAdd, reduceCtorEq, fieldA, nonNil, cellsAt, mkAgg, allPV, storeB, patchL, Int.reduceToNat, Nat.reduceMul, Nat.reduceLT, stepA, Int.reduceNeg, Int.reduceLE, Int.reduceLT, Int.reduceEq, extractV, mkAgg, Nat.reduceLeDiff, fillA, pureVs, pureV, eqV, eqB, lenV.eq_1, lenV.eq_2, lenV.eq_3, lenV.eq_4, binV, intBin, intV, idxA, List.drop, List.take, RetP, retP, resV, resOne, snapV, snapVs, snapR, snapRs, ownSz, pickV, AO.isC, opE, opD, funV, up02.call, u64s, h1, h2]
    · by_cases h3 : many < 0
      · simp only [f331, runL, opQ, evOp, evO, evOs, guardV, argsA, pvs, putS, cellsOf, scals, scal, Nat.reduceEqDiff, Nat.reduceAdd, reduceCtorEq, fieldA, nonNil, cellsAt, mkAgg, allPV, storeB, patchL, Int.reduceToNat, Nat.reduceMul, Nat.reduceLT, stepA, Int.reduceNeg, Int.reduceLE, Int.reduceLT, Int.reduceEq, extractV, mkAgg, Nat.reduceLeDiff, fillA, pureVs, pureV, eqV, eqB, lenV.eq_1, lenV.eq_2, lenV.eq_3, lenV.eq_4, binV, intBin, intV, idxA, List.drop, List.take, RetP, retP, resV, resOne, snapV, snapVs, snapR, snapRs, ownSz, pickV, AO.isC, opE, opD, funV, up02.call, u64s, h1, h2, h3]
      · by_cases h4 : (a.length : Int) < many
        · simp only [f331, runL, opQ, evOp, evO, evOs, guardV, argsA, pvs, putS, cellsOf, scals, scal, Nat.reduceEqDiff, Nat.reduceAdd, reduceCtorEq, fieldA, nonNil, cellsAt, mkAgg, allPV, storeB, patchL, Int.reduceToNat, Nat.reduceMul, Nat.reduceLT, stepA, Int.reduceNeg, Int.reduceLE, Int.reduceLT, Int.reduceEq, extractV, mkAgg, Nat.reduceLeDiff, fillA, pureVs, pureV, eqV, eqB, lenV.eq_1, lenV.eq_2, lenV.eq_3, lenV.eq_4, binV, intBin, intV, idxA, List.drop, List.take, RetP, retP, resV, resOne, snapV, snapVs, snapR, snapRs, ownSz, pickV, AO.isC, opE, opD, funV, up02.call, u64s, h1, h2, h3, h4]
        · obtain ⟨m, rfl⟩ : ∃ m : Nat, many = m := ⟨many.toNat, by omega⟩
          have hm : m ≤ a.length := by omega
          have hab : U64 (a ++ b) := fun n hn => by
            rcases List.mem_append.1 hn with h | h
            · exact ha n h
            · exact hb n h
          have la := putL_length a ha
          have lb := putL_length b hb
          have k1 := put_ok (T := T02) ⟨rfl, rfl, rfl, rfl, rfl⟩ a ha (by omega)
          have k2 := put_ok (T := T02) ⟨rfl, rfl, rfl, rfl, rfl⟩ b hb (by omega)
          have hpq : putL a ++ putL b = putL (a ++ b) := (putL_append a b).symm
          have hu : U8 (putL a ++ putL b) := by rw [hpq]; exact putL_u8 _
          have hl : (putL a ++ putL b).length ≤ 2 ^ 30 := by rw [List.length_append]; omega
          have k3 := get2_ok (T := T02) ⟨rfl, rfl, rfl, rfl, rfl⟩ ⟨rfl, rfl, rfl, rfl, rfl⟩ (putL a ++ putL b) hu hl (a.length : Int)
          have k4 := all2_ok (T := T02) ⟨rfl, rfl, rfl, rfl, rfl⟩ ⟨rfl, rfl, rfl, rfl, rfl⟩ (putL a ++ putL b) hu hl
          have k5 := get2_ok (T := T02) ⟨rfl, rfl, rfl, rfl, rfl⟩ ⟨rfl, rfl, rfl, rfl, rfl⟩ (putL a) (putL_u8 a) (by omega) (m : Int)
          have e5 := getN_put [] m a ha hm
          rw [Int.toNat_natCast, getN_put (putL b) a.length a ha (Nat.le_refl _)] at k3
          rw [hpq, allN_put _ hab] at k4
          rw [List.append_nil] at e5
          rw [Int.toNat_natCast, e5] at k5
          have k6 := same2_ok (T := T02) ⟨rfl, rfl, rfl, rfl, rfl⟩ a a (by omega)
          have k7 := same2_ok (T := T02) ⟨rfl, rfl, rfl, rfl, rfl⟩ (a ++ b) (a ++ b) (by rw [List.length_append]; omega)
          have k8 := same2_ok (T := T02) ⟨rfl, rfl, rfl, rfl, rfl⟩ (a.take m) (a.take m) (by rw [List.length_take]; omega)
          have z1 : a.length ≤ 2 ^ 30 := by omega
          have z2 : a.length + b.length ≤ 2 ^ 30 := by omega
          have z3 : (putL a).length ≤ 2 ^ 30 := by omega
          have z4 : (putL a).length + (putL b).length ≤ 2 ^ 30 := by omega
          have e1 : List.map u8C (putL a) ++ List.map u8C (putL b) = List.map u8C (putL a ++ putL b) := by simp
          have e2 : List.map u64C a ++ List.map u64C b = List.map u64C (a ++ b) := by simp
          rw [List.take_length] at k3
          rw [← hpq] at k4
          simp only [getR, allR, u64s, bytesP] at k1 k2 k3 k4 k5 k6 k7 k8
          simp only [f331, runL, opQ, evOp, evO, evOs, guardV, argsA, pvs, putS, cellsOf, scals, scal, Nat.reduceEqDiff, Nat.reduceAdd, reduceCtorEq, fieldA, nonNil, cellsAt, mkAgg, allPV, storeB, patchL, Int.reduceToNat, Nat.reduceMul, Nat.reduceLT, stepA, Int.reduceNeg, Int.reduceLE, Int.reduceLT, Int.reduceEq, extractV, mkAgg, Nat.reduceLeDiff, fillA, pureVs, pureV, eqV, eqB, lenV.eq_1, lenV.eq_2, lenV.eq_3, lenV.eq_4, binV, intBin, intV, idxA, List.drop, List.take, RetP, retP, resV, resOne, snapV, snapVs, snapR, snapRs, ownSz, pickV, AO.isC, opE, opD, funV, up02.call, u64s, bytesP, h1, h2, h3, h4, k1.call, k2.call, partsScal, srcV, chunk, allLen_u8, allLen_u64, appV, baseV, z1, z2, z3, z4, e1, e2]
          refine k3.callY rfl rfl ?_ ?_
          · simp only [frzAll, rowKeys, frzSs, frzS, frzF, frzH, frzB, frzV, frzVs, mkFun, blkAt, cond_true, cond_false, beq_self, runL, opQ, evOp, evO, evOs, guardV, argsA, pvs, putS, cellsOf, scals, scal, Nat.reduceEqDiff, Nat.reduceAdd, reduceCtorEq, fieldA, nonNil, cellsAt, mkAgg, allPV, storeB, patchL, Int.reduceToNat, Nat.reduceMul, Nat.reduceLT, stepA, Int.reduceNeg, Int.reduceLE, Int.reduceLT, Int.reduceEq, extractV, mkAgg, Nat.reduceLeDiff, fillA, pureVs, pureV, eqV, eqB, lenV.eq_1, lenV.eq_2, lenV.eq_3, lenV.eq_4, binV, intBin, intV, idxA, List.drop, List.take, RetP, retP, resV, resOne, snapV, snapVs, snapR, snapRs, ownSz, pickV, AO.isC, opE, opD, funV, rowIdsL, rowIds, frzA]
          · simp only [frzAll, rowKeys, frzSs, frzS, frzF, frzH, frzB, frzV, frzVs, mkFun, blkAt, cond_true, cond_false, beq_self, runL, opQ, evOp, evO, evOs, guardV, argsA, pvs, putS, cellsOf, scals, scal, Nat.reduceEqDiff, Nat.reduceAdd, reduceCtorEq, fieldA, nonNil, cellsAt, mkAgg, allPV, storeB, patchL, Int.reduceToNat, Nat.reduceMul, Nat.reduceLT, stepA, Int.reduceNeg, Int.reduceLE, Int.reduceLT, Int.reduceEq, extractV, mkAgg, Nat.reduceLeDiff, fillA, pureVs, pureV, eqV, eqB, lenV.eq_1, lenV.eq_2, lenV.eq_3, lenV.eq_4, binV, intBin, intV, idxA, List.drop, List.take, RetP, retP, resV, resOne, snapV, snapVs, snapR, snapRs, ownSz, pickV, AO.isC, opE, opD, funV, rowIdsL, rowIds, frzA, partsScal, srcV, chunk, allLen_u8, appV, baseV, z3, z4, e1]
            refine k4.callY rfl rfl ?_ ?_
            · simp only [frzAll, rowKeys, frzSs, frzS, frzF, frzH, frzB, frzV, frzVs, mkFun, blkAt, cond_true, cond_false, beq_self, runL, opQ, evOp, evO, evOs, guardV, argsA, pvs, putS, cellsOf, scals, scal, Nat.reduceEqDiff, Nat.reduceAdd, reduceCtorEq, fieldA, nonNil, cellsAt, mkAgg, allPV, storeB, patchL, Int.reduceToNat, Nat.reduceMul, Nat.reduceLT, stepA, Int.reduceNeg, Int.reduceLE, Int.reduceLT, Int.reduceEq, extractV, mkAgg, Nat.reduceLeDiff, fillA, pureVs, pureV, eqV, eqB, lenV.eq_1, lenV.eq_2, lenV.eq_3, lenV.eq_4, binV, intBin, intV, idxA, List.drop, List.take, RetP, retP, resV, resOne, snapV, snapVs, snapR, snapRs, ownSz, pickV, AO.isC, opE, opD, funV, rowIdsL, rowIds, frzA]
            · simp only [frzAll, rowKeys, frzSs, frzS, frzF, frzH, frzB, frzV, frzVs, mkFun, blkAt, cond_true, cond_false, beq_self, runL, opQ, evOp, evO, evOs, guardV, argsA, pvs, putS, cellsOf, scals, scal, Nat.reduceEqDiff, Nat.reduceAdd, reduceCtorEq, fieldA, nonNil, cellsAt, mkAgg, allPV, storeB, patchL, Int.reduceToNat, Nat.reduceMul, Nat.reduceLT, stepA, Int.reduceNeg, Int.reduceLE, Int.reduceLT, Int.reduceEq, extractV, mkAgg, Nat.reduceLeDiff, fillA, pureVs, pureV, eqV, eqB, lenV.eq_1, lenV.eq_2, lenV.eq_3, lenV.eq_4, binV, intBin, intV, idxA, List.drop, List.take, RetP, retP, resV, resOne, snapV, snapVs, snapR, snapRs, ownSz, pickV, AO.isC, opE, opD, funV, rowIdsL, rowIds, frzA, k5.call, k6.call]
              refine k7.callY rfl rfl ?_ ?_
              · simp only [frzAll, rowKeys, frzSs, frzS, frzF, frzH, frzB, frzV, frzVs, mkFun, blkAt, cond_true, cond_false, beq_self, runL, opQ, evOp, evO, evOs, guardV, argsA, pvs, putS, cellsOf, scals, scal, Nat.reduceEqDiff, Nat.reduceAdd, reduceCtorEq, fieldA, nonNil, cellsAt, mkAgg, allPV, storeB, patchL, Int.reduceToNat, Nat.reduceMul, Nat.reduceLT, stepA, Int.reduceNeg, Int.reduceLE, Int.reduceLT, Int.reduceEq, extractV, mkAgg, Nat.reduceLeDiff, fillA, pureVs, pureV, eqV, eqB, lenV.eq_1, lenV.eq_2, lenV.eq_3, lenV.eq_4, binV, intBin, intV, idxA, List.drop, List.take, RetP, retP, resV, resOne, snapV, snapVs, snapR, snapRs, ownSz, pickV, AO.isC, opE, opD, funV, rowIdsL, rowIds, frzA]
              · have hmt : (a.map u64C).take m = (a.take m).map u64C := by rw [List.map_take]
                simp only [frzAll, rowKeys, frzSs, frzS, frzF, frzH, frzB, frzV, frzVs, mkFun, blkAt, cond_true, cond_false, beq_self, runL, opQ, evOp, evO, evOs, guardV, argsA, pvs, putS, cellsOf, scals, scal, Nat.reduceEqDiff, Nat.reduceAdd, reduceCtorEq, fieldA, nonNil, cellsAt, mkAgg, allPV, storeB, patchL, Int.reduceToNat, Nat.reduceMul, Nat.reduceLT, stepA, Int.reduceNeg, Int.reduceLE, Int.reduceLT, Int.reduceEq, extractV, mkAgg, Nat.reduceLeDiff, fillA, pureVs, pureV, eqV, eqB, lenV.eq_1, lenV.eq_2, lenV.eq_3, lenV.eq_4, binV, intBin, intV, idxA, List.drop, List.take, RetP, retP, resV, resOne, snapV, snapVs, snapR, snapRs, ownSz, pickV, AO.isC, opE, opD, funV, rowIdsL, rowIds, frzA, bndO, subV, allLen_u64, Option.getD_none, Option.getD_some, Nat.zero_le, hm, Nat.sub_zero, hmt, k8.call]
end Go.Proofs.YtogbpgkefkbffaaDoor.Ab
