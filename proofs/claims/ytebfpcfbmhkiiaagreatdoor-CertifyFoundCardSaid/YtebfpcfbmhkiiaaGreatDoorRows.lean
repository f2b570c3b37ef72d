/-
  NARROWER THAN 'FOR EVERY INPUT', by the rows' own cells (each row's printed sentence says how): CertifyChecks: laid · CertifyReplays: laid · CertifyOnly: laid · CertifyFound: laid.
  DERIVED. THE GIVEN ROWS OF THIS SEAT. 4 by the template 'for every input the law returns true; each argument reads behind the call as it read before'; 0 by the template 'total and deterministic' (their statements: YtebfpcfbmhkiiaaGreatDoorTotals.lean).
  GIVEN WITH THE SEED: the statements are not yours to turn. If you find one false, say at which input.
  Laid BY PROGRAM, IN A SANDBOX (cutbox-rows.mjs): the forced cells as the released guide's own fill.sh prints them over the translation ba959b9f13a52021… (all of the seat's roots in one cut). By AI agents, Wed Nov 11 2026. No macro, syntax, notation, axiom, sorry.
-/
import Derived.Test.YtebfpcfbmhkiiaaGreatDoorChecked
import GoSem.Claim
import GoSem.ClaimJoined
import GoSem.ClaimMapViews
import Derived.JoinedTies
import Derived.KernelRfl
namespace Go.Proofs.YtebfpcfbmhkiiaaGreatDoor
/- THE CELL 'sum', in the pinned program and in every row, IS THE sha256 OF THE DUMP (.gsa) THAT YtebfpcfbmhkiiaaGreatDoorProg.lean LOADS. Nothing in Lean hashes anything: it is a label: what it is worth is what the hold of that sum in a sandbox is worth. -/
noncomputable def Tryz.pinned : Pinned := { name := "ytebfpcfbmhkiiaagreatdoor", sum := "ba959b9f13a5202119e57240d6119c70b068f998020434ac20f13023e8d48284", checked := Tryz.checked }
namespace Rows
def none {H : Type} : Left H := { results := [], args := [] }

/- WHAT THE LISTED PACKAGE-LEVEL VARIABLES READ AS WHEN THE CALL BEGINS. Each datum BY PROGRAM (the guide's laid-datum.mjs) off the statement by which the dump's own 'gosem.cut.vars' lays the variable. In a bare row this is a premise. The card (YtebfpcfbmhkiiaaGreatDoorCards.lean) ties it to the program's text. -/
def laid_errors_errorType {H : Type} : DataW H := .iface "internal/reflectlite.rtype" (.agg [.ptr (.lit (.string [101, 114, 114, 111, 114]))])

/-- 'dunnagelaw20.CertifyChecks': WHATEVER THE INPUT: true; the input reads as it did. -/
def certifyChecksSpec : ChangeSpec := { name := "certifyChecks", fn := fun _ => fun
  | [d1, d2, d3, d4] => { results := [.lit (.bool true)], args := [d1, d2, d3, d4] }
  | _ => none }
def certifyChecksRow : OpenClaim := { program := "ytebfpcfbmhkiiaagreatdoor", sum := "ba959b9f13a5202119e57240d6119c70b068f998020434ac20f13023e8d48284", func := "dunnage/dunnagelaw20.CertifyChecks", spec := "certifyChecks", inPlace := ["internal/reflectlite.ValueOf", "(internal/reflectlite.Value).Type", "(internal/reflectlite.Value).IsNil", "internal/reflectlite.TypeOf", "(internal/reflectlite.Value).Elem", "(internal/reflectlite.Value).Set", "math/bits.Add64"], unfollowed := true, recurses := true, named := ["errors.errorType"], apart := false, laid := [("errors.errorType", laid_errors_errorType)] }
def CertifyChecksSaid : Prop := certifyChecksRow.holds Tryz.pinned (OpenSpec.ofChange certifyChecksSpec)

/-- ITS FALSE NEIGHBOUR: 'it returns false'. Refute it at one input. -/
def certifyChecksWrong : ChangeSpec := { name := "certifyChecks", fn := fun _ => fun
  | [d1, d2, d3, d4] => { results := [.lit (.bool false)], args := [d1, d2, d3, d4] }
  | _ => none }
def CertifyChecksWrongFalsely : Prop := certifyChecksRow.holds Tryz.pinned (OpenSpec.ofChange certifyChecksWrong)

/-- 'dunnagelaw20.CertifyReplays': WHATEVER THE INPUT: true; the input reads as it did. -/
def certifyReplaysSpec : ChangeSpec := { name := "certifyReplays", fn := fun _ => fun
  | [d1, d2, d3] => { results := [.lit (.bool true)], args := [d1, d2, d3] }
  | _ => none }
def certifyReplaysRow : OpenClaim := { program := "ytebfpcfbmhkiiaagreatdoor", sum := "ba959b9f13a5202119e57240d6119c70b068f998020434ac20f13023e8d48284", func := "dunnage/dunnagelaw20.CertifyReplays", spec := "certifyReplays", inPlace := ["internal/reflectlite.ValueOf", "(internal/reflectlite.Value).Type", "(internal/reflectlite.Value).IsNil", "internal/reflectlite.TypeOf", "(internal/reflectlite.Value).Elem", "(internal/reflectlite.Value).Set", "math/bits.Add64"], unfollowed := true, recurses := true, named := ["errors.errorType"], apart := false, laid := [("errors.errorType", laid_errors_errorType)] }
def CertifyReplaysSaid : Prop := certifyReplaysRow.holds Tryz.pinned (OpenSpec.ofChange certifyReplaysSpec)

/-- ITS FALSE NEIGHBOUR: 'it returns false'. Refute it at one input. -/
def certifyReplaysWrong : ChangeSpec := { name := "certifyReplays", fn := fun _ => fun
  | [d1, d2, d3] => { results := [.lit (.bool false)], args := [d1, d2, d3] }
  | _ => none }
def CertifyReplaysWrongFalsely : Prop := certifyReplaysRow.holds Tryz.pinned (OpenSpec.ofChange certifyReplaysWrong)

/-- 'dunnagelaw20.CertifyOnly': WHATEVER THE INPUT: true; the input reads as it did. -/
def certifyOnlySpec : ChangeSpec := { name := "certifyOnly", fn := fun _ => fun
  | [d1, d2, d3, d4] => { results := [.lit (.bool true)], args := [d1, d2, d3, d4] }
  | _ => none }
def certifyOnlyRow : OpenClaim := { program := "ytebfpcfbmhkiiaagreatdoor", sum := "ba959b9f13a5202119e57240d6119c70b068f998020434ac20f13023e8d48284", func := "dunnage/dunnagelaw20.CertifyOnly", spec := "certifyOnly", inPlace := ["internal/reflectlite.ValueOf", "(internal/reflectlite.Value).Type", "(internal/reflectlite.Value).IsNil", "internal/reflectlite.TypeOf", "(internal/reflectlite.Value).Elem", "(internal/reflectlite.Value).Set", "math/bits.Add64"], unfollowed := true, recurses := true, named := ["errors.errorType"], apart := false, laid := [("errors.errorType", laid_errors_errorType)] }
def CertifyOnlySaid : Prop := certifyOnlyRow.holds Tryz.pinned (OpenSpec.ofChange certifyOnlySpec)

/-- ITS FALSE NEIGHBOUR: 'it returns false'. Refute it at one input. -/
def certifyOnlyWrong : ChangeSpec := { name := "certifyOnly", fn := fun _ => fun
  | [d1, d2, d3, d4] => { results := [.lit (.bool false)], args := [d1, d2, d3, d4] }
  | _ => none }
def CertifyOnlyWrongFalsely : Prop := certifyOnlyRow.holds Tryz.pinned (OpenSpec.ofChange certifyOnlyWrong)

/-- 'dunnagelaw20.CertifyFound': WHATEVER THE INPUT: true; the input reads as it did. -/
def certifyFoundSpec : ChangeSpec := { name := "certifyFound", fn := fun _ => fun
  | [d1, d2, d3, d4] => { results := [.lit (.bool true)], args := [d1, d2, d3, d4] }
  | _ => none }
def certifyFoundRow : OpenClaim := { program := "ytebfpcfbmhkiiaagreatdoor", sum := "ba959b9f13a5202119e57240d6119c70b068f998020434ac20f13023e8d48284", func := "dunnage/dunnagelaw20.CertifyFound", spec := "certifyFound", inPlace := ["internal/reflectlite.ValueOf", "(internal/reflectlite.Value).Type", "(internal/reflectlite.Value).IsNil", "internal/reflectlite.TypeOf", "(internal/reflectlite.Value).Elem", "(internal/reflectlite.Value).Set", "math/bits.Add64"], unfollowed := true, recurses := true, named := ["errors.errorType"], apart := false, laid := [("errors.errorType", laid_errors_errorType)] }
def CertifyFoundSaid : Prop := certifyFoundRow.holds Tryz.pinned (OpenSpec.ofChange certifyFoundSpec)

/-- ITS FALSE NEIGHBOUR: 'it returns false'. Refute it at one input. -/
def certifyFoundWrong : ChangeSpec := { name := "certifyFound", fn := fun _ => fun
  | [d1, d2, d3, d4] => { results := [.lit (.bool false)], args := [d1, d2, d3, d4] }
  | _ => none }
def CertifyFoundWrongFalsely : Prop := certifyFoundRow.holds Tryz.pinned (OpenSpec.ofChange certifyFoundWrong)

/- THE SECOND FORM. 'bulk': how many values and letters a reading holds, each counted each time it is reached (what is shared counts as often as it is met; a slice's spare places count too). A statement '..UptoSaid' is the law's where the arguments, and the package variables that the reading takes, are together of bulk at most 1048576: NARROWER than '..Said'. Prove '..Said' where nothing that the law and all that it calls make is longer than what came in: it says more and counts as full. Else prove '..UptoSaid'. A law counts once. -/
mutual
def uptoBulk {H : Type} : DataW H → Nat
  | .lit (.string bytes) => bytes.length + 1
  | .lit _ => 1
  | .nil => 1
  | .ptr d => uptoBulk d + 1
  | .slice elems spare => uptoBulkAll elems + uptoBulkAll spare + 1
  | .agg parts => uptoBulkAll parts + 1
  | .iface _ d => uptoBulk d + 1
  | .map entries => uptoBulkEntries entries + 1
  | .held _ => 1
def uptoBulkAll {H : Type} : List (DataW H) → Nat
  | [] => 0
  | d :: r => uptoBulk d + uptoBulkAll r
def uptoBulkEntries {H : Type} : List (Lit × DataW H) → Nat
  | [] => 0
  | x :: r => uptoBulkEntry x + uptoBulkEntries r
def uptoBulkEntry {H : Type} : Lit × DataW H → Nat
  | (.string bytes, d) => bytes.length + uptoBulk d + 1
  | (_, d) => uptoBulk d + 1
 end
def uptoSmall : (H : Type) → List (DataW H) → Bool := fun _ ds => decide (uptoBulkAll ds ≤ 1048576)
def OpenSpec.upto (s : _root_.Go.ChangeSpec) : _root_.Go.OpenSpec := { _root_.Go.OpenSpec.ofChange s with cond := some uptoSmall }

/-- 'dunnagelaw20.CertifyChecks', WHERE WHAT IT READS IS OF BULK AT MOST 1048576: true; the input reads as it did. -/
def certifyChecksUptoRow : OpenClaim := { program := "ytebfpcfbmhkiiaagreatdoor", sum := "ba959b9f13a5202119e57240d6119c70b068f998020434ac20f13023e8d48284", func := "dunnage/dunnagelaw20.CertifyChecks", spec := "certifyChecks", inPlace := ["internal/reflectlite.ValueOf", "(internal/reflectlite.Value).Type", "(internal/reflectlite.Value).IsNil", "internal/reflectlite.TypeOf", "(internal/reflectlite.Value).Elem", "(internal/reflectlite.Value).Set", "math/bits.Add64"], unfollowed := true, recurses := true, named := ["errors.errorType"], apart := false, laid := [("errors.errorType", laid_errors_errorType)], narrowed := true }
def CertifyChecksUptoSaid : Prop := certifyChecksUptoRow.holds Tryz.pinned (OpenSpec.upto certifyChecksSpec)

/-- 'dunnagelaw20.CertifyReplays', WHERE WHAT IT READS IS OF BULK AT MOST 1048576: true; the input reads as it did. -/
def certifyReplaysUptoRow : OpenClaim := { program := "ytebfpcfbmhkiiaagreatdoor", sum := "ba959b9f13a5202119e57240d6119c70b068f998020434ac20f13023e8d48284", func := "dunnage/dunnagelaw20.CertifyReplays", spec := "certifyReplays", inPlace := ["internal/reflectlite.ValueOf", "(internal/reflectlite.Value).Type", "(internal/reflectlite.Value).IsNil", "internal/reflectlite.TypeOf", "(internal/reflectlite.Value).Elem", "(internal/reflectlite.Value).Set", "math/bits.Add64"], unfollowed := true, recurses := true, named := ["errors.errorType"], apart := false, laid := [("errors.errorType", laid_errors_errorType)], narrowed := true }
def CertifyReplaysUptoSaid : Prop := certifyReplaysUptoRow.holds Tryz.pinned (OpenSpec.upto certifyReplaysSpec)

/-- 'dunnagelaw20.CertifyOnly', WHERE WHAT IT READS IS OF BULK AT MOST 1048576: true; the input reads as it did. -/
def certifyOnlyUptoRow : OpenClaim := { program := "ytebfpcfbmhkiiaagreatdoor", sum := "ba959b9f13a5202119e57240d6119c70b068f998020434ac20f13023e8d48284", func := "dunnage/dunnagelaw20.CertifyOnly", spec := "certifyOnly", inPlace := ["internal/reflectlite.ValueOf", "(internal/reflectlite.Value).Type", "(internal/reflectlite.Value).IsNil", "internal/reflectlite.TypeOf", "(internal/reflectlite.Value).Elem", "(internal/reflectlite.Value).Set", "math/bits.Add64"], unfollowed := true, recurses := true, named := ["errors.errorType"], apart := false, laid := [("errors.errorType", laid_errors_errorType)], narrowed := true }
def CertifyOnlyUptoSaid : Prop := certifyOnlyUptoRow.holds Tryz.pinned (OpenSpec.upto certifyOnlySpec)

/-- 'dunnagelaw20.CertifyFound', WHERE WHAT IT READS IS OF BULK AT MOST 1048576: true; the input reads as it did. -/
def certifyFoundUptoRow : OpenClaim := { program := "ytebfpcfbmhkiiaagreatdoor", sum := "ba959b9f13a5202119e57240d6119c70b068f998020434ac20f13023e8d48284", func := "dunnage/dunnagelaw20.CertifyFound", spec := "certifyFound", inPlace := ["internal/reflectlite.ValueOf", "(internal/reflectlite.Value).Type", "(internal/reflectlite.Value).IsNil", "internal/reflectlite.TypeOf", "(internal/reflectlite.Value).Elem", "(internal/reflectlite.Value).Set", "math/bits.Add64"], unfollowed := true, recurses := true, named := ["errors.errorType"], apart := false, laid := [("errors.errorType", laid_errors_errorType)], narrowed := true }
def CertifyFoundUptoSaid : Prop := certifyFoundUptoRow.holds Tryz.pinned (OpenSpec.upto certifyFoundSpec)

end Rows
end Go.Proofs.YtebfpcfbmhkiiaaGreatDoor
