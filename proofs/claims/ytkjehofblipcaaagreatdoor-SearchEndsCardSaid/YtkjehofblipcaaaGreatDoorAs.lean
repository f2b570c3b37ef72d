/- errors.As and errors.Is at the dynamic types that the program has: by the walk of Go's own text. Printed by asgen.py. -/
import Derived.Test.YtkjehofblipcaaaGreatDoorProg
import Derived.WalkKit
import Derived.LaidEql
import Derived.Stop.Asserts
import Derived.RowKitTokens
import Derived.KernelRfl
set_option linter.unusedVariables false
set_option linter.unusedSimpArgs false
namespace Go.Proofs.YtkjehofblipcaaaGreatDoor.AsW
open Go.RowKit Go.Extern.Stop Go.Stop Go.Extern

theorem rlm (z : Sem Value) (f : TypeId → Addr → Nat → Nat → Sem Value) (v : Value) : ReflectliteValue.method z f #[v] = (do match ← ReflectliteValue.parts v with | none => z | some (t, a, fl) => f t a fl (fl % 32)) := rfl
theorem rls (v x : Value) : ReflectliteValue.set #[v, x] = (do
    let (some (dst, a, fl), some (src, b, _)) := (← ReflectliteValue.parts v, ← ReflectliteValue.parts x)
      | unsupported (.noEntry "extern/(internal/reflectlite.Value).Set.zeroValue")
    if fl / ReflectliteValue.flagAddr % 2 == 0 then unsupported (.noEntry "extern/(internal/reflectlite.Value).Set.unaddressable")
    let val ← loadVar src b
    if ← Rtype.directlyAssignable dst src then storeVar dst a val
    else if ← Rtype.implements dst src then
      if (← Rtype.kind src) == 20 then
        match val with
        | .nilIface => unsupported (.noEntry "extern/reflectlite: a nil value of one interface type handed on as a value of another")
        | _ => storeVar dst a val
      else storeVar dst a (.iface src val)
    else panicString ("reflectlite.Set: value of type " ++ (← Rtype.spelt src) ++ " is not assignable to type " ++ (← Rtype.spelt dst))
    pure (.tuple #[])) := rfl
theorem methodKind (h : Value) (w : World) : (Go.method 367 176 (.agg #[h]) "Kind").run Tryz.prog w = .ok (175, h) w := by kernel_rfl
theorem methodElem (h : Value) (w : World) : (Go.method 367 176 (.agg #[h]) "Elem").run Tryz.prog w = .ok (187, .agg #[h]) w := by kernel_rfl
theorem methodImplements (h : Value) (w : World) : (Go.method 367 176 (.agg #[h]) "Implements").run Tryz.prog w = .ok (188, .agg #[h]) w := by kernel_rfl
theorem methodAssignableTo (h : Value) (w : World) : (Go.method 367 176 (.agg #[h]) "AssignableTo").run Tryz.prog w = .ok (185, .agg #[h]) w := by kernel_rfl
theorem methodComparable (h : Value) (w : World) : (Go.method 367 176 (.agg #[h]) "Comparable").run Tryz.prog w = .ok (186, .agg #[h]) w := by kernel_rfl
theorem typeOfC (v : Value) (w : World) : (ReflectliteType.typeOf #[.iface 52 v]).run Tryz.prog w = .ok (.iface 176 (.agg #[.pointer (some ⟨1, 52, none⟩)])) w := by kernel_rfl
theorem valueOfC (n : Int) (w : World) : (ReflectliteValue.unpack (.iface 52 (.int .i64 n))).run Tryz.prog w = .ok (.agg #[.pointer (some ⟨1, 52, none⟩), .pointer (some ⟨w.heap.size, 0, none⟩), .int .u64 130]) (w.alloc (.cells #[.int .i64 n] 52)) := by kernel_rfl
theorem kindOfC (w : World) : ((ReflectliteType.abiMethod fun t => (fun a : Nat => Value.int IntKind.u8 (a : Int)) <$> Rtype.kind t) #[.pointer (some ⟨1, 52, none⟩)]).run Tryz.prog w = .ok (.int .u8 2) w := by kernel_rfl
theorem partsC (a : Addr) (w : World) : (ReflectliteValue.parts (.agg #[.pointer (some ⟨1, 52, none⟩), .pointer (some a), .int .u64 130])).run Tryz.prog w = .ok (some (52, a, 130)) w := by kernel_rfl
theorem partsCa (a : Addr) (w : World) : (ReflectliteValue.parts (.agg #[.pointer (some ⟨1, 52, none⟩), .pointer (some a), .int .u64 386])).run Tryz.prog w = .ok (some (52, a, 386)) w := by kernel_rfl
theorem directC (w : World) : (Rtype.directlyAssignable 52 52).run Tryz.prog w = .ok true w := by kernel_rfl
theorem mkC (p : Addr) (w : World) : (ReflectliteValue.mk 52 p ReflectliteValue.flagAddr).run Tryz.prog w = .ok (.agg #[.pointer (some ⟨1, 52, none⟩), .pointer (some p), .int .u64 386]) w := by kernel_rfl
theorem implementsC (w : World) : (ReflectliteType.relation "Implements" ReflectliteType.implements_ #[.agg #[.pointer (some ⟨1, 52, none⟩)], .iface 176 (.agg #[.pointer (some ⟨1, 38, none⟩)])]).run Tryz.prog w = .ok (.bool true) w := by kernel_rfl
theorem assignCC (w : World) : (ReflectliteType.relation "AssignableTo" ReflectliteType.assignableTo #[.agg #[.pointer (some ⟨1, 52, none⟩)], .iface 176 (.agg #[.pointer (some ⟨1, 52, none⟩)])]).run Tryz.prog w = .ok (.bool true) w := by kernel_rfl
theorem assignCS (w : World) : (ReflectliteType.relation "AssignableTo" ReflectliteType.assignableTo #[.agg #[.pointer (some ⟨1, 52, none⟩)], .iface 176 (.agg #[.pointer (some ⟨1, 104, none⟩)])]).run Tryz.prog w = .ok (.bool false) w := by kernel_rfl
theorem setC (ta b : Addr) (n : Int) (old : Value) (W : World) (hb : W.cell? b = some (.int .i64 n)) (ht : W.cell? ta = some old) (hf : W.frozen? ta = false) :
    (ReflectliteValue.set #[.agg #[.pointer (some ⟨1, 52, none⟩), .pointer (some ta), .int .u64 386], .agg #[.pointer (some ⟨1, 52, none⟩), .pointer (some b), .int .u64 130]]).run Tryz.prog W = .ok (.tuple #[]) (W.setCell ta (.int .i64 n)) := by
  rw [rls]
  simp only [Sem.run_bind, partsCa, partsC, Result.andThen]
  simp [ReflectliteValue.flagAddr, loadVar, isAgg, underlying, Tryz.underlying52, hb, Result.andThen, directC, storeVar, Value.cells, storeCells, Addr.add]
  rw [run_store Tryz.prog W ta _ _ (by rfl)]
  simp [ht, hf]
theorem noAsC (v : Value) (w : World) : (Instr.typeAssert (.iface 52 v) 38 180 true).run Tryz.prog w = .ok (.tuple #[.nilIface, .bool false]) w := run_typeAssert_lacksB Tryz.underlying180 (by kernel_rfl) (by kernel_rfl) v 38 w
theorem noIsC (v : Value) (w : World) : (Instr.typeAssert (.iface 52 v) 38 199 true).run Tryz.prog w = .ok (.tuple #[.nilIface, .bool false]) w := run_typeAssert_lacksB Tryz.underlying199 (by kernel_rfl) (by kernel_rfl) v 38 w
theorem noUnC (v : Value) (w : World) : (Instr.typeAssert (.iface 52 v) 38 183 true).run Tryz.prog w = .ok (.tuple #[.nilIface, .bool false]) w := run_typeAssert_lacksB Tryz.underlying183 (by kernel_rfl) (by kernel_rfl) v 38 w
theorem noUsC (v : Value) (w : World) : (Instr.typeAssert (.iface 52 v) 38 184 true).run Tryz.prog w = .ok (.tuple #[.nilIface, .bool false]) w := run_typeAssert_lacksB Tryz.underlying184 (by kernel_rfl) (by kernel_rfl) v 38 w
theorem typeOfS (v : Value) (w : World) : (ReflectliteType.typeOf #[.iface 104 v]).run Tryz.prog w = .ok (.iface 176 (.agg #[.pointer (some ⟨1, 104, none⟩)])) w := by kernel_rfl
theorem valueOfS (e : Addr) (w : World) : (ReflectliteValue.unpack (.iface 104 (.pointer (some e)))).run Tryz.prog w = .ok (.agg #[.pointer (some ⟨1, 104, none⟩), .pointer (some ⟨w.heap.size, 0, none⟩), .int .u64 150]) (w.alloc (.cells #[.pointer (some e)] 104)) := by kernel_rfl
theorem kindOfS (w : World) : ((ReflectliteType.abiMethod fun t => (fun a : Nat => Value.int IntKind.u8 (a : Int)) <$> Rtype.kind t) #[.pointer (some ⟨1, 104, none⟩)]).run Tryz.prog w = .ok (.int .u8 22) w := by kernel_rfl
theorem partsS (a : Addr) (w : World) : (ReflectliteValue.parts (.agg #[.pointer (some ⟨1, 104, none⟩), .pointer (some a), .int .u64 150])).run Tryz.prog w = .ok (some (104, a, 150)) w := by kernel_rfl
theorem partsSa (a : Addr) (w : World) : (ReflectliteValue.parts (.agg #[.pointer (some ⟨1, 104, none⟩), .pointer (some a), .int .u64 406])).run Tryz.prog w = .ok (some (104, a, 406)) w := by kernel_rfl
theorem directS (w : World) : (Rtype.directlyAssignable 104 104).run Tryz.prog w = .ok true w := by kernel_rfl
theorem mkS (p : Addr) (w : World) : (ReflectliteValue.mk 104 p ReflectliteValue.flagAddr).run Tryz.prog w = .ok (.agg #[.pointer (some ⟨1, 104, none⟩), .pointer (some p), .int .u64 406]) w := by kernel_rfl
theorem implementsS (w : World) : (ReflectliteType.relation "Implements" ReflectliteType.implements_ #[.agg #[.pointer (some ⟨1, 104, none⟩)], .iface 176 (.agg #[.pointer (some ⟨1, 38, none⟩)])]).run Tryz.prog w = .ok (.bool true) w := by kernel_rfl
theorem assignSC (w : World) : (ReflectliteType.relation "AssignableTo" ReflectliteType.assignableTo #[.agg #[.pointer (some ⟨1, 104, none⟩)], .iface 176 (.agg #[.pointer (some ⟨1, 52, none⟩)])]).run Tryz.prog w = .ok (.bool false) w := by kernel_rfl
theorem assignSS (w : World) : (ReflectliteType.relation "AssignableTo" ReflectliteType.assignableTo #[.agg #[.pointer (some ⟨1, 104, none⟩)], .iface 176 (.agg #[.pointer (some ⟨1, 104, none⟩)])]).run Tryz.prog w = .ok (.bool true) w := by kernel_rfl
theorem setS (ta b : Addr) (e : Addr) (old : Value) (W : World) (hb : W.cell? b = some (.pointer (some e))) (ht : W.cell? ta = some old) (hf : W.frozen? ta = false) :
    (ReflectliteValue.set #[.agg #[.pointer (some ⟨1, 104, none⟩), .pointer (some ta), .int .u64 406], .agg #[.pointer (some ⟨1, 104, none⟩), .pointer (some b), .int .u64 150]]).run Tryz.prog W = .ok (.tuple #[]) (W.setCell ta (.pointer (some e))) := by
  rw [rls]
  simp only [Sem.run_bind, partsSa, partsS, Result.andThen]
  simp [ReflectliteValue.flagAddr, loadVar, isAgg, underlying, Tryz.underlying104, hb, Result.andThen, directS, storeVar, Value.cells, storeCells, Addr.add]
  rw [run_store Tryz.prog W ta _ _ (by rfl)]
  simp [ht, hf]
theorem noAsS (v : Value) (w : World) : (Instr.typeAssert (.iface 104 v) 38 180 true).run Tryz.prog w = .ok (.tuple #[.nilIface, .bool false]) w := run_typeAssert_lacksB Tryz.underlying180 (by kernel_rfl) (by kernel_rfl) v 38 w
theorem noIsS (v : Value) (w : World) : (Instr.typeAssert (.iface 104 v) 38 199 true).run Tryz.prog w = .ok (.tuple #[.nilIface, .bool false]) w := run_typeAssert_lacksB Tryz.underlying199 (by kernel_rfl) (by kernel_rfl) v 38 w
theorem hasUnS (v : Value) (w : World) : (Instr.typeAssert (.iface 104 v) 38 183 true).run Tryz.prog w = .ok (.tuple #[.iface 104 v, .bool true]) w := run_typeAssert_hasB Tryz.underlying183 (by kernel_rfl) v 38 w
theorem methodUnwrap (e : Addr) (w : World) : (Go.method 367 104 (.pointer (some e)) "Unwrap").run Tryz.prog w = .ok (180, .pointer (some e)) w := by kernel_rfl
theorem valueOfPC (t : Addr) (w : World) : (ReflectliteValue.unpack (.iface 103 (.pointer (some t)))).run Tryz.prog w = .ok (.agg #[.pointer (some ⟨1, 103, none⟩), .pointer (some ⟨w.heap.size, 0, none⟩), .int .u64 150]) (w.alloc (.cells #[.pointer (some t)] 103)) := by kernel_rfl
theorem typePC (a : Addr) (w : World) : (ReflectliteValue.methodAny (ReflectliteValue.valueError "reflectlite.Value.Type" 0) (fun t _ _ _ => ReflectliteType.toType t) #[.agg #[.pointer (some ⟨1, 103, none⟩), .pointer (some a), .int .u64 150]]).run Tryz.prog w = .ok (.iface 176 (.agg #[.pointer (some ⟨1, 103, none⟩)])) w := by kernel_rfl
theorem kindPC (w : World) : ((ReflectliteType.abiMethod fun t => (fun a : Nat => Value.int IntKind.u8 (a : Int)) <$> Rtype.kind t) #[.pointer (some ⟨1, 103, none⟩)]).run Tryz.prog w = .ok (.int .u8 22) w := by kernel_rfl
theorem partsPC (a : Addr) (w : World) : (ReflectliteValue.parts (.agg #[.pointer (some ⟨1, 103, none⟩), .pointer (some a), .int .u64 150])).run Tryz.prog w = .ok (some (103, a, 150)) w := by kernel_rfl
theorem isNilPC (a p : Addr) (W : World) (ha : W.cell? a = some (.pointer (some p))) :
    (ReflectliteValue.method (ReflectliteValue.valueError "reflectlite.Value.IsNil" 0) ReflectliteValue.isNil #[.agg #[.pointer (some ⟨1, 103, none⟩), .pointer (some a), .int .u64 150]]).run Tryz.prog W = .ok (.bool false) W := by
  rw [rlm]
  simp only [Sem.run_bind, partsPC, Result.andThen]
  simp [ReflectliteValue.isNil, loadVar, isAgg, underlying, Tryz.underlying103, ha, Result.andThen]
theorem elemPC (w : World) : (ReflectliteType.method ReflectliteType.elem #[.agg #[.pointer (some ⟨1, 103, none⟩)]]).run Tryz.prog w = .ok (.iface 176 (.agg #[.pointer (some ⟨1, 52, none⟩)])) w := by kernel_rfl
theorem elemOfPC (w : World) : (Rtype.elem? 103).run Tryz.prog w = .ok (some 52) w := by kernel_rfl
theorem elemVPC (a p : Addr) (W : World) (ha : W.cell? a = some (.pointer (some p))) :
    (ReflectliteValue.method (ReflectliteValue.valueError "reflectlite.Value.Elem" 0) ReflectliteValue.elem #[.agg #[.pointer (some ⟨1, 103, none⟩), .pointer (some a), .int .u64 150]]).run Tryz.prog W = .ok (.agg #[.pointer (some ⟨1, 52, none⟩), .pointer (some p), .int .u64 386]) W := by
  rw [rlm]
  simp only [Sem.run_bind, partsPC, Result.andThen]
  simp [ReflectliteValue.elem, loadVar, isAgg, underlying, Tryz.underlying103, ha, Result.andThen, elemOfPC, mkC]
theorem valueOfPS (t : Addr) (w : World) : (ReflectliteValue.unpack (.iface 128 (.pointer (some t)))).run Tryz.prog w = .ok (.agg #[.pointer (some ⟨1, 128, none⟩), .pointer (some ⟨w.heap.size, 0, none⟩), .int .u64 150]) (w.alloc (.cells #[.pointer (some t)] 128)) := by kernel_rfl
theorem typePS (a : Addr) (w : World) : (ReflectliteValue.methodAny (ReflectliteValue.valueError "reflectlite.Value.Type" 0) (fun t _ _ _ => ReflectliteType.toType t) #[.agg #[.pointer (some ⟨1, 128, none⟩), .pointer (some a), .int .u64 150]]).run Tryz.prog w = .ok (.iface 176 (.agg #[.pointer (some ⟨1, 128, none⟩)])) w := by kernel_rfl
theorem kindPS (w : World) : ((ReflectliteType.abiMethod fun t => (fun a : Nat => Value.int IntKind.u8 (a : Int)) <$> Rtype.kind t) #[.pointer (some ⟨1, 128, none⟩)]).run Tryz.prog w = .ok (.int .u8 22) w := by kernel_rfl
theorem partsPS (a : Addr) (w : World) : (ReflectliteValue.parts (.agg #[.pointer (some ⟨1, 128, none⟩), .pointer (some a), .int .u64 150])).run Tryz.prog w = .ok (some (128, a, 150)) w := by kernel_rfl
theorem isNilPS (a p : Addr) (W : World) (ha : W.cell? a = some (.pointer (some p))) :
    (ReflectliteValue.method (ReflectliteValue.valueError "reflectlite.Value.IsNil" 0) ReflectliteValue.isNil #[.agg #[.pointer (some ⟨1, 128, none⟩), .pointer (some a), .int .u64 150]]).run Tryz.prog W = .ok (.bool false) W := by
  rw [rlm]
  simp only [Sem.run_bind, partsPS, Result.andThen]
  simp [ReflectliteValue.isNil, loadVar, isAgg, underlying, Tryz.underlying128, ha, Result.andThen]
theorem elemPS (w : World) : (ReflectliteType.method ReflectliteType.elem #[.agg #[.pointer (some ⟨1, 128, none⟩)]]).run Tryz.prog w = .ok (.iface 176 (.agg #[.pointer (some ⟨1, 104, none⟩)])) w := by kernel_rfl
theorem elemOfPS (w : World) : (Rtype.elem? 128).run Tryz.prog w = .ok (some 104) w := by kernel_rfl
theorem elemVPS (a p : Addr) (W : World) (ha : W.cell? a = some (.pointer (some p))) :
    (ReflectliteValue.method (ReflectliteValue.valueError "reflectlite.Value.Elem" 0) ReflectliteValue.elem #[.agg #[.pointer (some ⟨1, 128, none⟩), .pointer (some a), .int .u64 150]]).run Tryz.prog W = .ok (.agg #[.pointer (some ⟨1, 104, none⟩), .pointer (some p), .int .u64 406]) W := by
  rw [rlm]
  simp only [Sem.run_bind, partsPS, Result.andThen]
  simp [ReflectliteValue.elem, loadVar, isAgg, underlying, Tryz.underlying128, ha, Result.andThen, elemOfPS, mkS]
/-- errors.As(nil, target). -/
theorem as_nil (t : Value) (w : World) : Calls Tryz.prog 40 #[.nilIface, t] w fun e w' => e = .returned (.bool false) ∧ w' = w := by
  go_enter Tryz.func40, Tryz.ntmps40
  go_wp2
  go_ret
  exact ⟨rfl, rfl⟩
set_option maxRecDepth 100000 in
set_option maxHeartbeats 4000000 in
theorem as_CC (t : Addr) (old : Value) (w : World) (n : Int) (hg : w.cell? ⟨0, 0, none⟩ = some (.iface 176 (.agg #[.pointer (some ⟨1, 38, none⟩)]))) (ht0 : w.cell? t = some old) (hf0 : w.frozen? t = false) :
    Calls Tryz.prog 40 #[.iface 52 (.int .i64 n), .iface 103 (.pointer (some t))] w fun ev w' => ev = .returned (.bool true) ∧ w' = (((((w.alloc (.cells #[.pointer (some t)] 103)).alloc (.cells #[.pointer (some ⟨1, 103, none⟩), .pointer (some ⟨w.heap.size, 0, none⟩), .int .u64 150] 141)).alloc (.cells #[.pointer (some ⟨1, 103, none⟩), .pointer (some ⟨w.heap.size, 0, none⟩), .int .u64 150] 141)).alloc (.cells #[.int .i64 n] 52))).setCell t (.int .i64 n) := by
  have h1 := @run_callFunc_extern Tryz.prog 73 _ (fun args => ReflectliteValue.unpack (args.getD 0 (.tuple #[]))) Tryz.func73 (by kernel_rfl) (by kernel_rfl) (by kernel_rfl) (by kernel_rfl)
  have h2 := @run_callFunc_extern Tryz.prog 74 _ (ReflectliteValue.methodAny (ReflectliteValue.valueError "reflectlite.Value.Type" 0) (fun t _ _ _ => ReflectliteType.toType t)) Tryz.func74 (by kernel_rfl) (by kernel_rfl) (by kernel_rfl) (by kernel_rfl)
  have h3 := @run_callFunc_extern Tryz.prog 75 _ (ReflectliteValue.method (ReflectliteValue.valueError "reflectlite.Value.IsNil" 0) ReflectliteValue.isNil) Tryz.func75 (by kernel_rfl) (by kernel_rfl) (by kernel_rfl) (by kernel_rfl)
  have h4 := @run_callFunc_extern Tryz.prog 175 _ (ReflectliteType.abiMethod fun t => do pure (.int .u8 (← Rtype.kind t))) Tryz.func175 (by kernel_rfl) (by kernel_rfl) (by kernel_rfl) (by kernel_rfl)
  have h5 := @run_callFunc_extern Tryz.prog 187 _ (ReflectliteType.method ReflectliteType.elem) Tryz.func187 (by kernel_rfl) (by kernel_rfl) (by kernel_rfl) (by kernel_rfl)
  have h6 := @run_callFunc_extern Tryz.prog 188 _ (ReflectliteType.relation "Implements" ReflectliteType.implements_) Tryz.func188 (by kernel_rfl) (by kernel_rfl) (by kernel_rfl) (by kernel_rfl)
  have h7 := @run_callFunc_extern Tryz.prog 102 _ ReflectliteType.typeOf Tryz.func102 (by kernel_rfl) (by kernel_rfl) (by kernel_rfl) (by kernel_rfl)
  have h8 := @run_callFunc_extern Tryz.prog 185 _ (ReflectliteType.relation "AssignableTo" ReflectliteType.assignableTo) Tryz.func185 (by kernel_rfl) (by kernel_rfl) (by kernel_rfl) (by kernel_rfl)
  have h9 := @run_callFunc_extern Tryz.prog 109 _ (ReflectliteValue.method (ReflectliteValue.valueError "reflectlite.Value.Elem" 0) ReflectliteValue.elem) Tryz.func109 (by kernel_rfl) (by kernel_rfl) (by kernel_rfl) (by kernel_rfl)
  have h10 := @run_callFunc_extern Tryz.prog 110 _ ReflectliteValue.set Tryz.func110 (by kernel_rfl) (by kernel_rfl) (by kernel_rfl) (by kernel_rfl)
  have k0 := @typeOfC
  have k1 := @typeOfS
  have k2 := @methodKind
  have k3 := @methodElem
  have k4 := @methodImplements
  have k5 := @methodAssignableTo
  have k6 := @valueOfPC
  have k7 := @typePC
  have k8 := @kindPC
  have k9 := @kindOfC
  have k10 := @elemPC
  have k11 := @implementsC
  have k12 := @assignCC
  have k13 := @valueOfC
  have k14 := @noAsC
  have k15 := @noAsS
  have k16 := @noUnC
  have k17 := @noUsC
  have k18 := @hasUnS
  have k19 := @methodUnwrap
  have n8 := isNilPC ⟨w.heap.size, 0, none⟩ t ((w.alloc (.cells #[.pointer (some t)] 103)).alloc (.cells #[.pointer (some ⟨1, 103, none⟩), .pointer (some ⟨w.heap.size, 0, none⟩), .int .u64 150] 141)) (by simp)
  have hlt : 0 < w.heap.size := by
    rcases Nat.lt_or_ge 0 w.heap.size with h | h
    · exact h
    · simp [World.cell?, Array.getElem?_eq_none h] at hg
  have hg2 : ((w.alloc (.cells #[.pointer (some t)] 103)).alloc (.cells #[.pointer (some ⟨1, 103, none⟩), .pointer (some ⟨w.heap.size, 0, none⟩), .int .u64 150] 141)).cell? ⟨0, 0, none⟩ = some (.iface 176 (.agg #[.pointer (some ⟨1, 38, none⟩)])) := by
    rw [World.cell?_alloc_lt _ _ ⟨0, 0, none⟩ (by first | (simp; done) | (simp; omega)), World.cell?_alloc_lt _ _ ⟨0, 0, none⟩ hlt]; exact hg
  have htl : t.block < w.heap.size := by
    rcases Nat.lt_or_ge t.block w.heap.size with h | h
    · exact h
    · simp [World.cell?, Array.getElem?_eq_none h] at ht0
  have el := elemVPC ⟨w.heap.size, 0, none⟩ t (((w.alloc (.cells #[.pointer (some t)] 103)).alloc (.cells #[.pointer (some ⟨1, 103, none⟩), .pointer (some ⟨w.heap.size, 0, none⟩), .int .u64 150] 141)).alloc (.cells #[.pointer (some ⟨1, 103, none⟩), .pointer (some ⟨w.heap.size, 0, none⟩), .int .u64 150] 141)) (by rw [World.cell?_alloc_lt _ _ ⟨w.heap.size, 0, none⟩ (by simp; omega)]; simp)
  have st := setC t ⟨w.heap.size + 1 + 1 + 1, 0, none⟩ n old ((((w.alloc (.cells #[.pointer (some t)] 103)).alloc (.cells #[.pointer (some ⟨1, 103, none⟩), .pointer (some ⟨w.heap.size, 0, none⟩), .int .u64 150] 141)).alloc (.cells #[.pointer (some ⟨1, 103, none⟩), .pointer (some ⟨w.heap.size, 0, none⟩), .int .u64 150] 141)).alloc (.cells #[.int .i64 n] 52))
    (by rw [World.cell?_alloc_at _ _ _ _ (by simp)]; rfl)
    (by rw [World.cell?_alloc_lt _ _ t (by simp; omega), World.cell?_alloc_lt _ _ t (by simp; omega), World.cell?_alloc_lt _ _ t (by simp; omega), World.cell?_alloc_lt _ _ t htl]; exact ht0)
    (by rw [World.frozen?_alloc_old _ _ t (by simp; omega), World.frozen?_alloc_old _ _ t (by simp; omega), World.frozen?_alloc_old _ _ t (by simp; omega), World.frozen?_alloc_old _ _ t (Nat.ne_of_lt htl)]; exact hf0)
  go_enter Tryz.func40, Tryz.ntmps40
  go_wp2
  refine wp_loop_rounds 1 ?_
  rw [rounds_succ]
  go_wp2
  go_ret
  exact ⟨rfl, rfl⟩
set_option maxRecDepth 100000 in
set_option maxHeartbeats 4000000 in
theorem as_SC (t : Addr) (old : Value) (w : World) (b o : Nat) (a n : Int) (he0 : w.cell? ⟨b, o, none⟩ = some (.int .i64 a)) (he1 : w.cell? ⟨b, o + 1, none⟩ = some (.int .i64 n)) (hg : w.cell? ⟨0, 0, none⟩ = some (.iface 176 (.agg #[.pointer (some ⟨1, 38, none⟩)]))) (ht0 : w.cell? t = some old) (hf0 : w.frozen? t = false) :
    Calls Tryz.prog 40 #[.iface 104 (.pointer (some ⟨b, o, none⟩)), .iface 103 (.pointer (some t))] w fun ev w' => ev = .returned (.bool true) ∧ w' = (((((w.alloc (.cells #[.pointer (some t)] 103)).alloc (.cells #[.pointer (some ⟨1, 103, none⟩), .pointer (some ⟨w.heap.size, 0, none⟩), .int .u64 150] 141)).alloc (.cells #[.pointer (some ⟨1, 103, none⟩), .pointer (some ⟨w.heap.size, 0, none⟩), .int .u64 150] 141)).alloc (.cells #[.int .i64 n] 52))).setCell t (.int .i64 n) := by
  have h1 := @run_callFunc_extern Tryz.prog 73 _ (fun args => ReflectliteValue.unpack (args.getD 0 (.tuple #[]))) Tryz.func73 (by kernel_rfl) (by kernel_rfl) (by kernel_rfl) (by kernel_rfl)
  have h2 := @run_callFunc_extern Tryz.prog 74 _ (ReflectliteValue.methodAny (ReflectliteValue.valueError "reflectlite.Value.Type" 0) (fun t _ _ _ => ReflectliteType.toType t)) Tryz.func74 (by kernel_rfl) (by kernel_rfl) (by kernel_rfl) (by kernel_rfl)
  have h3 := @run_callFunc_extern Tryz.prog 75 _ (ReflectliteValue.method (ReflectliteValue.valueError "reflectlite.Value.IsNil" 0) ReflectliteValue.isNil) Tryz.func75 (by kernel_rfl) (by kernel_rfl) (by kernel_rfl) (by kernel_rfl)
  have h4 := @run_callFunc_extern Tryz.prog 175 _ (ReflectliteType.abiMethod fun t => do pure (.int .u8 (← Rtype.kind t))) Tryz.func175 (by kernel_rfl) (by kernel_rfl) (by kernel_rfl) (by kernel_rfl)
  have h5 := @run_callFunc_extern Tryz.prog 187 _ (ReflectliteType.method ReflectliteType.elem) Tryz.func187 (by kernel_rfl) (by kernel_rfl) (by kernel_rfl) (by kernel_rfl)
  have h6 := @run_callFunc_extern Tryz.prog 188 _ (ReflectliteType.relation "Implements" ReflectliteType.implements_) Tryz.func188 (by kernel_rfl) (by kernel_rfl) (by kernel_rfl) (by kernel_rfl)
  have h7 := @run_callFunc_extern Tryz.prog 102 _ ReflectliteType.typeOf Tryz.func102 (by kernel_rfl) (by kernel_rfl) (by kernel_rfl) (by kernel_rfl)
  have h8 := @run_callFunc_extern Tryz.prog 185 _ (ReflectliteType.relation "AssignableTo" ReflectliteType.assignableTo) Tryz.func185 (by kernel_rfl) (by kernel_rfl) (by kernel_rfl) (by kernel_rfl)
  have h9 := @run_callFunc_extern Tryz.prog 109 _ (ReflectliteValue.method (ReflectliteValue.valueError "reflectlite.Value.Elem" 0) ReflectliteValue.elem) Tryz.func109 (by kernel_rfl) (by kernel_rfl) (by kernel_rfl) (by kernel_rfl)
  have h10 := @run_callFunc_extern Tryz.prog 110 _ ReflectliteValue.set Tryz.func110 (by kernel_rfl) (by kernel_rfl) (by kernel_rfl) (by kernel_rfl)
  have k0 := @typeOfC
  have k1 := @typeOfS
  have k2 := @methodKind
  have k3 := @methodElem
  have k4 := @methodImplements
  have k5 := @methodAssignableTo
  have k6 := @valueOfPC
  have k7 := @typePC
  have k8 := @kindPC
  have k9 := @kindOfC
  have k10 := @elemPC
  have k11 := @implementsC
  have k12 := @assignSC
  have k13 := @assignCC
  have k14 := @valueOfC
  have k15 := @noAsC
  have k16 := @noAsS
  have k17 := @noUnC
  have k18 := @noUsC
  have k19 := @hasUnS
  have k20 := @methodUnwrap
  have n8 := isNilPC ⟨w.heap.size, 0, none⟩ t ((w.alloc (.cells #[.pointer (some t)] 103)).alloc (.cells #[.pointer (some ⟨1, 103, none⟩), .pointer (some ⟨w.heap.size, 0, none⟩), .int .u64 150] 141)) (by simp)
  have hlt : 0 < w.heap.size := by
    rcases Nat.lt_or_ge 0 w.heap.size with h | h
    · exact h
    · simp [World.cell?, Array.getElem?_eq_none h] at hg
  have hg2 : ((w.alloc (.cells #[.pointer (some t)] 103)).alloc (.cells #[.pointer (some ⟨1, 103, none⟩), .pointer (some ⟨w.heap.size, 0, none⟩), .int .u64 150] 141)).cell? ⟨0, 0, none⟩ = some (.iface 176 (.agg #[.pointer (some ⟨1, 38, none⟩)])) := by
    rw [World.cell?_alloc_lt _ _ ⟨0, 0, none⟩ (by first | (simp; done) | (simp; omega)), World.cell?_alloc_lt _ _ ⟨0, 0, none⟩ hlt]; exact hg
  have htl : t.block < w.heap.size := by
    rcases Nat.lt_or_ge t.block w.heap.size with h | h
    · exact h
    · simp [World.cell?, Array.getElem?_eq_none h] at ht0
  have hel : b < w.heap.size := by
    rcases Nat.lt_or_ge b w.heap.size with h | h
    · exact h
    · simp [World.cell?, Array.getElem?_eq_none h] at he0
  have he2 : (((w.alloc (.cells #[.pointer (some t)] 103)).alloc (.cells #[.pointer (some ⟨1, 103, none⟩), .pointer (some ⟨w.heap.size, 0, none⟩), .int .u64 150] 141)).alloc (.cells #[.pointer (some ⟨1, 103, none⟩), .pointer (some ⟨w.heap.size, 0, none⟩), .int .u64 150] 141)).cell? ⟨b, o + 1, none⟩ = some (.int .i64 n) := by
    rw [World.cell?_alloc_lt _ _ ⟨b, o + 1, none⟩ (by simp; omega), World.cell?_alloc_lt _ _ ⟨b, o + 1, none⟩ (by simp; omega), World.cell?_alloc_lt _ _ ⟨b, o + 1, none⟩ hel]; exact he1
  have el := elemVPC ⟨w.heap.size, 0, none⟩ t (((w.alloc (.cells #[.pointer (some t)] 103)).alloc (.cells #[.pointer (some ⟨1, 103, none⟩), .pointer (some ⟨w.heap.size, 0, none⟩), .int .u64 150] 141)).alloc (.cells #[.pointer (some ⟨1, 103, none⟩), .pointer (some ⟨w.heap.size, 0, none⟩), .int .u64 150] 141)) (by rw [World.cell?_alloc_lt _ _ ⟨w.heap.size, 0, none⟩ (by simp; omega)]; simp)
  have st := setC t ⟨w.heap.size + 1 + 1 + 1, 0, none⟩ n old ((((w.alloc (.cells #[.pointer (some t)] 103)).alloc (.cells #[.pointer (some ⟨1, 103, none⟩), .pointer (some ⟨w.heap.size, 0, none⟩), .int .u64 150] 141)).alloc (.cells #[.pointer (some ⟨1, 103, none⟩), .pointer (some ⟨w.heap.size, 0, none⟩), .int .u64 150] 141)).alloc (.cells #[.int .i64 n] 52))
    (by rw [World.cell?_alloc_at _ _ _ _ (by simp)]; rfl)
    (by rw [World.cell?_alloc_lt _ _ t (by simp; omega), World.cell?_alloc_lt _ _ t (by simp; omega), World.cell?_alloc_lt _ _ t (by simp; omega), World.cell?_alloc_lt _ _ t htl]; exact ht0)
    (by rw [World.frozen?_alloc_old _ _ t (by simp; omega), World.frozen?_alloc_old _ _ t (by simp; omega), World.frozen?_alloc_old _ _ t (by simp; omega), World.frozen?_alloc_old _ _ t (Nat.ne_of_lt htl)]; exact hf0)
  go_enter Tryz.func40, Tryz.ntmps40
  go_wp2
  refine wp_loop_rounds 2 ?_
  rw [rounds_succ]
  go_wp2
  rw [rounds_succ]
  go_wp2
  go_ret
  exact ⟨rfl, rfl⟩
set_option maxRecDepth 100000 in
set_option maxHeartbeats 4000000 in
theorem as_CS (t : Addr) (old : Value) (w : World) (n : Int) (hg : w.cell? ⟨0, 0, none⟩ = some (.iface 176 (.agg #[.pointer (some ⟨1, 38, none⟩)]))) (ht0 : w.cell? t = some old) (hf0 : w.frozen? t = false) :
    Calls Tryz.prog 40 #[.iface 52 (.int .i64 n), .iface 128 (.pointer (some t))] w fun ev w' => ev = .returned (.bool false) ∧ w' = (((w.alloc (.cells #[.pointer (some t)] 128)).alloc (.cells #[.pointer (some ⟨1, 128, none⟩), .pointer (some ⟨w.heap.size, 0, none⟩), .int .u64 150] 141)).alloc (.cells #[.pointer (some ⟨1, 128, none⟩), .pointer (some ⟨w.heap.size, 0, none⟩), .int .u64 150] 141)) := by
  have h1 := @run_callFunc_extern Tryz.prog 73 _ (fun args => ReflectliteValue.unpack (args.getD 0 (.tuple #[]))) Tryz.func73 (by kernel_rfl) (by kernel_rfl) (by kernel_rfl) (by kernel_rfl)
  have h2 := @run_callFunc_extern Tryz.prog 74 _ (ReflectliteValue.methodAny (ReflectliteValue.valueError "reflectlite.Value.Type" 0) (fun t _ _ _ => ReflectliteType.toType t)) Tryz.func74 (by kernel_rfl) (by kernel_rfl) (by kernel_rfl) (by kernel_rfl)
  have h3 := @run_callFunc_extern Tryz.prog 75 _ (ReflectliteValue.method (ReflectliteValue.valueError "reflectlite.Value.IsNil" 0) ReflectliteValue.isNil) Tryz.func75 (by kernel_rfl) (by kernel_rfl) (by kernel_rfl) (by kernel_rfl)
  have h4 := @run_callFunc_extern Tryz.prog 175 _ (ReflectliteType.abiMethod fun t => do pure (.int .u8 (← Rtype.kind t))) Tryz.func175 (by kernel_rfl) (by kernel_rfl) (by kernel_rfl) (by kernel_rfl)
  have h5 := @run_callFunc_extern Tryz.prog 187 _ (ReflectliteType.method ReflectliteType.elem) Tryz.func187 (by kernel_rfl) (by kernel_rfl) (by kernel_rfl) (by kernel_rfl)
  have h6 := @run_callFunc_extern Tryz.prog 188 _ (ReflectliteType.relation "Implements" ReflectliteType.implements_) Tryz.func188 (by kernel_rfl) (by kernel_rfl) (by kernel_rfl) (by kernel_rfl)
  have h7 := @run_callFunc_extern Tryz.prog 102 _ ReflectliteType.typeOf Tryz.func102 (by kernel_rfl) (by kernel_rfl) (by kernel_rfl) (by kernel_rfl)
  have h8 := @run_callFunc_extern Tryz.prog 185 _ (ReflectliteType.relation "AssignableTo" ReflectliteType.assignableTo) Tryz.func185 (by kernel_rfl) (by kernel_rfl) (by kernel_rfl) (by kernel_rfl)
  have h9 := @run_callFunc_extern Tryz.prog 109 _ (ReflectliteValue.method (ReflectliteValue.valueError "reflectlite.Value.Elem" 0) ReflectliteValue.elem) Tryz.func109 (by kernel_rfl) (by kernel_rfl) (by kernel_rfl) (by kernel_rfl)
  have h10 := @run_callFunc_extern Tryz.prog 110 _ ReflectliteValue.set Tryz.func110 (by kernel_rfl) (by kernel_rfl) (by kernel_rfl) (by kernel_rfl)
  have k0 := @typeOfC
  have k1 := @typeOfS
  have k2 := @methodKind
  have k3 := @methodElem
  have k4 := @methodImplements
  have k5 := @methodAssignableTo
  have k6 := @valueOfPS
  have k7 := @typePS
  have k8 := @kindPS
  have k9 := @kindOfS
  have k10 := @elemPS
  have k11 := @implementsS
  have k12 := @assignCS
  have k13 := @assignSS
  have k14 := @valueOfS
  have k15 := @noAsC
  have k16 := @noAsS
  have k17 := @noUnC
  have k18 := @noUsC
  have k19 := @hasUnS
  have k20 := @methodUnwrap
  have n8 := isNilPS ⟨w.heap.size, 0, none⟩ t ((w.alloc (.cells #[.pointer (some t)] 128)).alloc (.cells #[.pointer (some ⟨1, 128, none⟩), .pointer (some ⟨w.heap.size, 0, none⟩), .int .u64 150] 141)) (by simp)
  have hlt : 0 < w.heap.size := by
    rcases Nat.lt_or_ge 0 w.heap.size with h | h
    · exact h
    · simp [World.cell?, Array.getElem?_eq_none h] at hg
  have hg2 : ((w.alloc (.cells #[.pointer (some t)] 128)).alloc (.cells #[.pointer (some ⟨1, 128, none⟩), .pointer (some ⟨w.heap.size, 0, none⟩), .int .u64 150] 141)).cell? ⟨0, 0, none⟩ = some (.iface 176 (.agg #[.pointer (some ⟨1, 38, none⟩)])) := by
    rw [World.cell?_alloc_lt _ _ ⟨0, 0, none⟩ (by first | (simp; done) | (simp; omega)), World.cell?_alloc_lt _ _ ⟨0, 0, none⟩ hlt]; exact hg
  have htl : t.block < w.heap.size := by
    rcases Nat.lt_or_ge t.block w.heap.size with h | h
    · exact h
    · simp [World.cell?, Array.getElem?_eq_none h] at ht0
  go_enter Tryz.func40, Tryz.ntmps40
  go_wp2
  refine wp_loop_rounds 1 ?_
  rw [rounds_succ]
  go_wp2
  go_ret
  exact ⟨rfl, rfl⟩
set_option maxRecDepth 100000 in
set_option maxHeartbeats 4000000 in
theorem as_SS (t : Addr) (old : Value) (w : World) (e : Addr) (hg : w.cell? ⟨0, 0, none⟩ = some (.iface 176 (.agg #[.pointer (some ⟨1, 38, none⟩)]))) (ht0 : w.cell? t = some old) (hf0 : w.frozen? t = false) :
    Calls Tryz.prog 40 #[.iface 104 (.pointer (some e)), .iface 128 (.pointer (some t))] w fun ev w' => ev = .returned (.bool true) ∧ w' = (((((w.alloc (.cells #[.pointer (some t)] 128)).alloc (.cells #[.pointer (some ⟨1, 128, none⟩), .pointer (some ⟨w.heap.size, 0, none⟩), .int .u64 150] 141)).alloc (.cells #[.pointer (some ⟨1, 128, none⟩), .pointer (some ⟨w.heap.size, 0, none⟩), .int .u64 150] 141)).alloc (.cells #[.pointer (some e)] 104))).setCell t (.pointer (some e)) := by
  have h1 := @run_callFunc_extern Tryz.prog 73 _ (fun args => ReflectliteValue.unpack (args.getD 0 (.tuple #[]))) Tryz.func73 (by kernel_rfl) (by kernel_rfl) (by kernel_rfl) (by kernel_rfl)
  have h2 := @run_callFunc_extern Tryz.prog 74 _ (ReflectliteValue.methodAny (ReflectliteValue.valueError "reflectlite.Value.Type" 0) (fun t _ _ _ => ReflectliteType.toType t)) Tryz.func74 (by kernel_rfl) (by kernel_rfl) (by kernel_rfl) (by kernel_rfl)
  have h3 := @run_callFunc_extern Tryz.prog 75 _ (ReflectliteValue.method (ReflectliteValue.valueError "reflectlite.Value.IsNil" 0) ReflectliteValue.isNil) Tryz.func75 (by kernel_rfl) (by kernel_rfl) (by kernel_rfl) (by kernel_rfl)
  have h4 := @run_callFunc_extern Tryz.prog 175 _ (ReflectliteType.abiMethod fun t => do pure (.int .u8 (← Rtype.kind t))) Tryz.func175 (by kernel_rfl) (by kernel_rfl) (by kernel_rfl) (by kernel_rfl)
  have h5 := @run_callFunc_extern Tryz.prog 187 _ (ReflectliteType.method ReflectliteType.elem) Tryz.func187 (by kernel_rfl) (by kernel_rfl) (by kernel_rfl) (by kernel_rfl)
  have h6 := @run_callFunc_extern Tryz.prog 188 _ (ReflectliteType.relation "Implements" ReflectliteType.implements_) Tryz.func188 (by kernel_rfl) (by kernel_rfl) (by kernel_rfl) (by kernel_rfl)
  have h7 := @run_callFunc_extern Tryz.prog 102 _ ReflectliteType.typeOf Tryz.func102 (by kernel_rfl) (by kernel_rfl) (by kernel_rfl) (by kernel_rfl)
  have h8 := @run_callFunc_extern Tryz.prog 185 _ (ReflectliteType.relation "AssignableTo" ReflectliteType.assignableTo) Tryz.func185 (by kernel_rfl) (by kernel_rfl) (by kernel_rfl) (by kernel_rfl)
  have h9 := @run_callFunc_extern Tryz.prog 109 _ (ReflectliteValue.method (ReflectliteValue.valueError "reflectlite.Value.Elem" 0) ReflectliteValue.elem) Tryz.func109 (by kernel_rfl) (by kernel_rfl) (by kernel_rfl) (by kernel_rfl)
  have h10 := @run_callFunc_extern Tryz.prog 110 _ ReflectliteValue.set Tryz.func110 (by kernel_rfl) (by kernel_rfl) (by kernel_rfl) (by kernel_rfl)
  have k0 := @typeOfC
  have k1 := @typeOfS
  have k2 := @methodKind
  have k3 := @methodElem
  have k4 := @methodImplements
  have k5 := @methodAssignableTo
  have k6 := @valueOfPS
  have k7 := @typePS
  have k8 := @kindPS
  have k9 := @kindOfS
  have k10 := @elemPS
  have k11 := @implementsS
  have k12 := @assignSS
  have k13 := @valueOfS
  have k14 := @noAsC
  have k15 := @noAsS
  have k16 := @noUnC
  have k17 := @noUsC
  have k18 := @hasUnS
  have k19 := @methodUnwrap
  have n8 := isNilPS ⟨w.heap.size, 0, none⟩ t ((w.alloc (.cells #[.pointer (some t)] 128)).alloc (.cells #[.pointer (some ⟨1, 128, none⟩), .pointer (some ⟨w.heap.size, 0, none⟩), .int .u64 150] 141)) (by simp)
  have hlt : 0 < w.heap.size := by
    rcases Nat.lt_or_ge 0 w.heap.size with h | h
    · exact h
    · simp [World.cell?, Array.getElem?_eq_none h] at hg
  have hg2 : ((w.alloc (.cells #[.pointer (some t)] 128)).alloc (.cells #[.pointer (some ⟨1, 128, none⟩), .pointer (some ⟨w.heap.size, 0, none⟩), .int .u64 150] 141)).cell? ⟨0, 0, none⟩ = some (.iface 176 (.agg #[.pointer (some ⟨1, 38, none⟩)])) := by
    rw [World.cell?_alloc_lt _ _ ⟨0, 0, none⟩ (by first | (simp; done) | (simp; omega)), World.cell?_alloc_lt _ _ ⟨0, 0, none⟩ hlt]; exact hg
  have htl : t.block < w.heap.size := by
    rcases Nat.lt_or_ge t.block w.heap.size with h | h
    · exact h
    · simp [World.cell?, Array.getElem?_eq_none h] at ht0
  have el := elemVPS ⟨w.heap.size, 0, none⟩ t (((w.alloc (.cells #[.pointer (some t)] 128)).alloc (.cells #[.pointer (some ⟨1, 128, none⟩), .pointer (some ⟨w.heap.size, 0, none⟩), .int .u64 150] 141)).alloc (.cells #[.pointer (some ⟨1, 128, none⟩), .pointer (some ⟨w.heap.size, 0, none⟩), .int .u64 150] 141)) (by rw [World.cell?_alloc_lt _ _ ⟨w.heap.size, 0, none⟩ (by simp; omega)]; simp)
  have st := setS t ⟨w.heap.size + 1 + 1 + 1, 0, none⟩ e old ((((w.alloc (.cells #[.pointer (some t)] 128)).alloc (.cells #[.pointer (some ⟨1, 128, none⟩), .pointer (some ⟨w.heap.size, 0, none⟩), .int .u64 150] 141)).alloc (.cells #[.pointer (some ⟨1, 128, none⟩), .pointer (some ⟨w.heap.size, 0, none⟩), .int .u64 150] 141)).alloc (.cells #[.pointer (some e)] 104))
    (by rw [World.cell?_alloc_at _ _ _ _ (by simp)]; rfl)
    (by rw [World.cell?_alloc_lt _ _ t (by simp; omega), World.cell?_alloc_lt _ _ t (by simp; omega), World.cell?_alloc_lt _ _ t (by simp; omega), World.cell?_alloc_lt _ _ t htl]; exact ht0)
    (by rw [World.frozen?_alloc_old _ _ t (by simp; omega), World.frozen?_alloc_old _ _ t (by simp; omega), World.frozen?_alloc_old _ _ t (by simp; omega), World.frozen?_alloc_old _ _ t (Nat.ne_of_lt htl)]; exact hf0)
  go_enter Tryz.func40, Tryz.ntmps40
  go_wp2
  refine wp_loop_rounds 1 ?_
  rw [rounds_succ]
  go_wp2
  go_ret
  exact ⟨rfl, rfl⟩
end Go.Proofs.YtkjehofblipcaaaGreatDoor.AsW
