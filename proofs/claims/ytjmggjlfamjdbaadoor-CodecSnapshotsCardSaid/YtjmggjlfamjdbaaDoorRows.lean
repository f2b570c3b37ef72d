/-
  NARROWER THAN 'FOR EVERY INPUT', by the rows' own cells (each row's printed sentence says how): CodecMoves: laid · CodecBack: laid · CodecOnce: laid · CodecSnapshots: laid · CodecSpecs: laid.
  DERIVED. THE GIVEN ROWS OF THIS SEAT. 5 by the template 'for every input the law returns true; each argument reads behind the call as it read before'; 0 by the template 'total and deterministic' (their statements: YtjmggjlfamjdbaaDoorTotals.lean).
  GIVEN WITH THE SEED: the statements are not yours to turn. If you find one false, say at which input.
  Laid BY PROGRAM, IN A SANDBOX (cutbox-rows.mjs): the forced cells as the released guide's own fill.sh prints them over the translation 754c36424080512b… (all of the seat's roots in one cut). By AI agents, Wed Nov 11 2026. No macro, syntax, notation, axiom, sorry.
-/
import Derived.Test.YtjmggjlfamjdbaaDoorChecked
import GoSem.Claim
import GoSem.ClaimJoined
import GoSem.ClaimMapViews
import Derived.JoinedTies
import Derived.KernelRfl
namespace Go.Proofs.YtjmggjlfamjdbaaDoor
/- THE CELL 'sum', in the pinned program and in every row, IS THE sha256 OF THE DUMP (.gsa) THAT YtjmggjlfamjdbaaDoorProg.lean LOADS. Nothing in Lean hashes anything: it is a label: what it is worth is what the hold of that sum in a sandbox is worth. -/
noncomputable def Tryd.pinned : Pinned := { name := "ytjmggjlfamjdbaadoor", sum := "754c36424080512ba3916022143f0075729b65f5bb01d4243528099cc8f1a888", checked := Tryd.checked }
namespace Rows
def none {H : Type} : Left H := { results := [], args := [] }

/- WHAT THE LISTED PACKAGE-LEVEL VARIABLES READ AS WHEN THE CALL BEGINS. Each datum BY PROGRAM (the guide's laid-datum.mjs) off the statement by which the dump's own 'gosem.cut.vars' lays the variable. In a bare row this is a premise. The card (YtjmggjlfamjdbaaDoorCards.lean) ties it to the program's text. -/
def laid_errors_errorType {H : Type} : DataW H := .iface "internal/reflectlite.rtype" (.agg [.ptr (.lit (.string [101, 114, 114, 111, 114]))])

/-- 'dunnagelaw04.CodecMoves': WHATEVER THE INPUT: true; the input reads as it did. -/
def codecMovesSpec : ChangeSpec := { name := "codecMoves", fn := fun _ => fun
  | [d1, d2] => { results := [.lit (.bool true)], args := [d1, d2] }
  | _ => none }
def codecMovesRow : OpenClaim := { program := "ytjmggjlfamjdbaadoor", sum := "754c36424080512ba3916022143f0075729b65f5bb01d4243528099cc8f1a888", func := "dunnage/dunnagelaw04.CodecMoves", spec := "codecMoves", inPlace := ["internal/reflectlite.ValueOf", "(internal/reflectlite.Value).Type", "(internal/reflectlite.Value).IsNil", "internal/reflectlite.TypeOf", "(internal/reflectlite.Value).Elem", "(internal/reflectlite.Value).Set"], unfollowed := true, recurses := true, named := ["errors.errorType"], apart := false, laid := [("errors.errorType", laid_errors_errorType)] }
def CodecMovesSaid : Prop := codecMovesRow.holds Tryd.pinned (OpenSpec.ofChange codecMovesSpec)

/-- ITS FALSE NEIGHBOUR: 'it returns false'. Refute it at one input. -/
def codecMovesWrong : ChangeSpec := { name := "codecMoves", fn := fun _ => fun
  | [d1, d2] => { results := [.lit (.bool false)], args := [d1, d2] }
  | _ => none }
def CodecMovesWrongFalsely : Prop := codecMovesRow.holds Tryd.pinned (OpenSpec.ofChange codecMovesWrong)

/-- 'dunnagelaw04.CodecBack': WHATEVER THE INPUT: true; the input reads as it did. -/
def codecBackSpec : ChangeSpec := { name := "codecBack", fn := fun _ => fun
  | [d1, d2, d3] => { results := [.lit (.bool true)], args := [d1, d2, d3] }
  | _ => none }
def codecBackRow : OpenClaim := { program := "ytjmggjlfamjdbaadoor", sum := "754c36424080512ba3916022143f0075729b65f5bb01d4243528099cc8f1a888", func := "dunnage/dunnagelaw04.CodecBack", spec := "codecBack", inPlace := ["internal/reflectlite.ValueOf", "(internal/reflectlite.Value).Type", "(internal/reflectlite.Value).IsNil", "internal/reflectlite.TypeOf", "(internal/reflectlite.Value).Elem", "(internal/reflectlite.Value).Set"], unfollowed := true, recurses := true, named := ["errors.errorType"], apart := false, laid := [("errors.errorType", laid_errors_errorType)] }
def CodecBackSaid : Prop := codecBackRow.holds Tryd.pinned (OpenSpec.ofChange codecBackSpec)

/-- ITS FALSE NEIGHBOUR: 'it returns false'. Refute it at one input. -/
def codecBackWrong : ChangeSpec := { name := "codecBack", fn := fun _ => fun
  | [d1, d2, d3] => { results := [.lit (.bool false)], args := [d1, d2, d3] }
  | _ => none }
def CodecBackWrongFalsely : Prop := codecBackRow.holds Tryd.pinned (OpenSpec.ofChange codecBackWrong)

/-- 'dunnagelaw04.CodecOnce': WHATEVER THE INPUT: true; the input reads as it did. -/
def codecOnceSpec : ChangeSpec := { name := "codecOnce", fn := fun _ => fun
  | [d] => { results := [.lit (.bool true)], args := [d] }
  | _ => none }
def codecOnceRow : OpenClaim := { program := "ytjmggjlfamjdbaadoor", sum := "754c36424080512ba3916022143f0075729b65f5bb01d4243528099cc8f1a888", func := "dunnage/dunnagelaw04.CodecOnce", spec := "codecOnce", inPlace := ["internal/reflectlite.ValueOf", "(internal/reflectlite.Value).Type", "(internal/reflectlite.Value).IsNil", "internal/reflectlite.TypeOf", "(internal/reflectlite.Value).Elem", "(internal/reflectlite.Value).Set"], unfollowed := true, recurses := true, named := ["errors.errorType"], apart := false, laid := [("errors.errorType", laid_errors_errorType)] }
def CodecOnceSaid : Prop := codecOnceRow.holds Tryd.pinned (OpenSpec.ofChange codecOnceSpec)

/-- ITS FALSE NEIGHBOUR: 'it returns false'. Refute it at one input. -/
def codecOnceWrong : ChangeSpec := { name := "codecOnce", fn := fun _ => fun
  | [d] => { results := [.lit (.bool false)], args := [d] }
  | _ => none }
def CodecOnceWrongFalsely : Prop := codecOnceRow.holds Tryd.pinned (OpenSpec.ofChange codecOnceWrong)

/-- 'dunnagelaw04.CodecSnapshots': WHATEVER THE INPUT: true; the input reads as it did. -/
def codecSnapshotsSpec : ChangeSpec := { name := "codecSnapshots", fn := fun _ => fun
  | [d1, d2] => { results := [.lit (.bool true)], args := [d1, d2] }
  | _ => none }
def codecSnapshotsRow : OpenClaim := { program := "ytjmggjlfamjdbaadoor", sum := "754c36424080512ba3916022143f0075729b65f5bb01d4243528099cc8f1a888", func := "dunnage/dunnagelaw04.CodecSnapshots", spec := "codecSnapshots", inPlace := ["internal/reflectlite.ValueOf", "(internal/reflectlite.Value).Type", "(internal/reflectlite.Value).IsNil", "internal/reflectlite.TypeOf", "(internal/reflectlite.Value).Elem", "(internal/reflectlite.Value).Set"], unfollowed := true, recurses := true, named := ["errors.errorType"], apart := false, laid := [("errors.errorType", laid_errors_errorType)] }
def CodecSnapshotsSaid : Prop := codecSnapshotsRow.holds Tryd.pinned (OpenSpec.ofChange codecSnapshotsSpec)

/-- ITS FALSE NEIGHBOUR: 'it returns false'. Refute it at one input. -/
def codecSnapshotsWrong : ChangeSpec := { name := "codecSnapshots", fn := fun _ => fun
  | [d1, d2] => { results := [.lit (.bool false)], args := [d1, d2] }
  | _ => none }
def CodecSnapshotsWrongFalsely : Prop := codecSnapshotsRow.holds Tryd.pinned (OpenSpec.ofChange codecSnapshotsWrong)

/-- 'dunnagelaw04.CodecSpecs': WHATEVER THE INPUT: true; the input reads as it did. -/
def codecSpecsSpec : ChangeSpec := { name := "codecSpecs", fn := fun _ => fun
  | [d1, d2] => { results := [.lit (.bool true)], args := [d1, d2] }
  | _ => none }
def codecSpecsRow : OpenClaim := { program := "ytjmggjlfamjdbaadoor", sum := "754c36424080512ba3916022143f0075729b65f5bb01d4243528099cc8f1a888", func := "dunnage/dunnagelaw04.CodecSpecs", spec := "codecSpecs", inPlace := ["internal/reflectlite.ValueOf", "(internal/reflectlite.Value).Type", "(internal/reflectlite.Value).IsNil", "internal/reflectlite.TypeOf", "(internal/reflectlite.Value).Elem", "(internal/reflectlite.Value).Set"], unfollowed := true, recurses := true, named := ["errors.errorType"], apart := false, laid := [("errors.errorType", laid_errors_errorType)] }
def CodecSpecsSaid : Prop := codecSpecsRow.holds Tryd.pinned (OpenSpec.ofChange codecSpecsSpec)

/-- ITS FALSE NEIGHBOUR: 'it returns false'. Refute it at one input. -/
def codecSpecsWrong : ChangeSpec := { name := "codecSpecs", fn := fun _ => fun
  | [d1, d2] => { results := [.lit (.bool false)], args := [d1, d2] }
  | _ => none }
def CodecSpecsWrongFalsely : Prop := codecSpecsRow.holds Tryd.pinned (OpenSpec.ofChange codecSpecsWrong)

/- THE SECOND FORM. 'bulk': how many values and letters a reading holds, each counted each time it is reached (what is shared counts as often as it is met; a slice's spare places count too). A statement '..UptoSaid' is the law's where the arguments, and the package variables that the reading takes, are together of bulk at most 1048576: NARROWER than '..Said'. Prove '..Said' where nothing that the law and all that it calls make is longer than what came in: it says more and counts as full. Else prove '..UptoSaid'. A law counts once. -/
mutual
def uptoBulk {H : Type} : DataW H → Nat
  | .lit (.string bytes) => bytes.length + 1
  | .lit _ => 1
  | .nil => 1
  | .ptr d => uptoBulk d + 1
  | .slice elems spare => uptoBulkAll elems + uptoBulkAll spare + 1
  | .agg parts => uptoBulkAll parts + 1
  | .iface _ d => uptoBulk d + 1
  | .map entries => uptoBulkEntries entries + 1
  | .held _ => 1
def uptoBulkAll {H : Type} : List (DataW H) → Nat
  | [] => 0
  | d :: r => uptoBulk d + uptoBulkAll r
def uptoBulkEntries {H : Type} : List (Lit × DataW H) → Nat
  | [] => 0
  | x :: r => uptoBulkEntry x + uptoBulkEntries r
def uptoBulkEntry {H : Type} : Lit × DataW H → Nat
  | (.string bytes, d) => bytes.length + uptoBulk d + 1
  | (_, d) => uptoBulk d + 1
 end
def uptoSmall : (H : Type) → List (DataW H) → Bool := fun _ ds => decide (uptoBulkAll ds ≤ 1048576)
def OpenSpec.upto (s : _root_.Go.ChangeSpec) : _root_.Go.OpenSpec := { _root_.Go.OpenSpec.ofChange s with cond := some uptoSmall }

/-- 'dunnagelaw04.CodecMoves', WHERE WHAT IT READS IS OF BULK AT MOST 1048576: true; the input reads as it did. -/
def codecMovesUptoRow : OpenClaim := { program := "ytjmggjlfamjdbaadoor", sum := "754c36424080512ba3916022143f0075729b65f5bb01d4243528099cc8f1a888", func := "dunnage/dunnagelaw04.CodecMoves", spec := "codecMoves", inPlace := ["internal/reflectlite.ValueOf", "(internal/reflectlite.Value).Type", "(internal/reflectlite.Value).IsNil", "internal/reflectlite.TypeOf", "(internal/reflectlite.Value).Elem", "(internal/reflectlite.Value).Set"], unfollowed := true, recurses := true, named := ["errors.errorType"], apart := false, laid := [("errors.errorType", laid_errors_errorType)], narrowed := true }
def CodecMovesUptoSaid : Prop := codecMovesUptoRow.holds Tryd.pinned (OpenSpec.upto codecMovesSpec)

/-- 'dunnagelaw04.CodecBack', WHERE WHAT IT READS IS OF BULK AT MOST 1048576: true; the input reads as it did. -/
def codecBackUptoRow : OpenClaim := { program := "ytjmggjlfamjdbaadoor", sum := "754c36424080512ba3916022143f0075729b65f5bb01d4243528099cc8f1a888", func := "dunnage/dunnagelaw04.CodecBack", spec := "codecBack", inPlace := ["internal/reflectlite.ValueOf", "(internal/reflectlite.Value).Type", "(internal/reflectlite.Value).IsNil", "internal/reflectlite.TypeOf", "(internal/reflectlite.Value).Elem", "(internal/reflectlite.Value).Set"], unfollowed := true, recurses := true, named := ["errors.errorType"], apart := false, laid := [("errors.errorType", laid_errors_errorType)], narrowed := true }
def CodecBackUptoSaid : Prop := codecBackUptoRow.holds Tryd.pinned (OpenSpec.upto codecBackSpec)

/-- 'dunnagelaw04.CodecOnce', WHERE WHAT IT READS IS OF BULK AT MOST 1048576: true; the input reads as it did. -/
def codecOnceUptoRow : OpenClaim := { program := "ytjmggjlfamjdbaadoor", sum := "754c36424080512ba3916022143f0075729b65f5bb01d4243528099cc8f1a888", func := "dunnage/dunnagelaw04.CodecOnce", spec := "codecOnce", inPlace := ["internal/reflectlite.ValueOf", "(internal/reflectlite.Value).Type", "(internal/reflectlite.Value).IsNil", "internal/reflectlite.TypeOf", "(internal/reflectlite.Value).Elem", "(internal/reflectlite.Value).Set"], unfollowed := true, recurses := true, named := ["errors.errorType"], apart := false, laid := [("errors.errorType", laid_errors_errorType)], narrowed := true }
def CodecOnceUptoSaid : Prop := codecOnceUptoRow.holds Tryd.pinned (OpenSpec.upto codecOnceSpec)

/-- 'dunnagelaw04.CodecSnapshots', WHERE WHAT IT READS IS OF BULK AT MOST 1048576: true; the input reads as it did. -/
def codecSnapshotsUptoRow : OpenClaim := { program := "ytjmggjlfamjdbaadoor", sum := "754c36424080512ba3916022143f0075729b65f5bb01d4243528099cc8f1a888", func := "dunnage/dunnagelaw04.CodecSnapshots", spec := "codecSnapshots", inPlace := ["internal/reflectlite.ValueOf", "(internal/reflectlite.Value).Type", "(internal/reflectlite.Value).IsNil", "internal/reflectlite.TypeOf", "(internal/reflectlite.Value).Elem", "(internal/reflectlite.Value).Set"], unfollowed := true, recurses := true, named := ["errors.errorType"], apart := false, laid := [("errors.errorType", laid_errors_errorType)], narrowed := true }
def CodecSnapshotsUptoSaid : Prop := codecSnapshotsUptoRow.holds Tryd.pinned (OpenSpec.upto codecSnapshotsSpec)

/-- 'dunnagelaw04.CodecSpecs', WHERE WHAT IT READS IS OF BULK AT MOST 1048576: true; the input reads as it did. -/
def codecSpecsUptoRow : OpenClaim := { program := "ytjmggjlfamjdbaadoor", sum := "754c36424080512ba3916022143f0075729b65f5bb01d4243528099cc8f1a888", func := "dunnage/dunnagelaw04.CodecSpecs", spec := "codecSpecs", inPlace := ["internal/reflectlite.ValueOf", "(internal/reflectlite.Value).Type", "(internal/reflectlite.Value).IsNil", "internal/reflectlite.TypeOf", "(internal/reflectlite.Value).Elem", "(internal/reflectlite.Value).Set"], unfollowed := true, recurses := true, named := ["errors.errorType"], apart := false, laid := [("errors.errorType", laid_errors_errorType)], narrowed := true }
def CodecSpecsUptoSaid : Prop := codecSpecsUptoRow.holds Tryd.pinned (OpenSpec.upto codecSpecsSpec)

end Rows
end Go.Proofs.YtjmggjlfamjdbaaDoor
