/-
  DERIVED. GIVEN WITH THE SEED: THE CARDS: each row of YtebfpcfbmhkiiaaGreatDoorRows.lean that lists a variable, with what it lists TIED to the program's text (the seventh form; the later family's looks); each row that meets fmt, with fmt's text TOLD by the authors' own Lean function (tested against real Go, not proved from fmt's source: count such statements apart). THE CARD IS WHAT COUNTS. Prove the row's statement (the work); the ties are given (YtebfpcfbmhkiiaaGreatDoorTie.lean); close each card by the builder's one call (the guide's Derived/Test/ToyasCard.lean, 'card_holds'). Laid BY PROGRAM, IN A SANDBOX (cutbox-door.mjs). By AI agents, Wed Nov 11 2026. No macro, syntax, notation, axiom, sorry.
-/
import Derived.Test.YtebfpcfbmhkiiaaGreatDoorRows
import GoSem.ClaimSeven
namespace Go.Proofs.YtebfpcfbmhkiiaaGreatDoor
namespace Rows

/-- THE TIED CARD OF 'dunnagelaw20.CertifyChecks'. -/
def certifyChecksCard : Claim7 := { stood := { row := certifyChecksRow, standIns := [], harness := (true, "6c2ef91825658f55e9be4519fae94a085362d8825e4511b26349d2e29d548632"), looks := true }, kinds := [], alts := [], laidByText := true, laidKinds := [.handle], laidTests := true, laidLooks := .later }
def CertifyChecksCardSaid : Prop := Claim7.holds Tryz.pinned (.plain (OpenSpec.ofChange certifyChecksSpec)) certifyChecksCard

/-- THE TIED CARD OF 'dunnagelaw20.CertifyReplays'. -/
def certifyReplaysCard : Claim7 := { stood := { row := certifyReplaysRow, standIns := [], harness := (true, "6c2ef91825658f55e9be4519fae94a085362d8825e4511b26349d2e29d548632"), looks := true }, kinds := [], alts := [], laidByText := true, laidKinds := [.handle], laidTests := true, laidLooks := .later }
def CertifyReplaysCardSaid : Prop := Claim7.holds Tryz.pinned (.plain (OpenSpec.ofChange certifyReplaysSpec)) certifyReplaysCard

/-- THE TIED CARD OF 'dunnagelaw20.CertifyOnly'. -/
def certifyOnlyCard : Claim7 := { stood := { row := certifyOnlyRow, standIns := [], harness := (true, "6c2ef91825658f55e9be4519fae94a085362d8825e4511b26349d2e29d548632"), looks := true }, kinds := [], alts := [], laidByText := true, laidKinds := [.handle], laidTests := true, laidLooks := .later }
def CertifyOnlyCardSaid : Prop := Claim7.holds Tryz.pinned (.plain (OpenSpec.ofChange certifyOnlySpec)) certifyOnlyCard

/-- THE TIED CARD OF 'dunnagelaw20.CertifyFound'. -/
def certifyFoundCard : Claim7 := { stood := { row := certifyFoundRow, standIns := [], harness := (true, "6c2ef91825658f55e9be4519fae94a085362d8825e4511b26349d2e29d548632"), looks := true }, kinds := [], alts := [], laidByText := true, laidKinds := [.handle], laidTests := true, laidLooks := .later }
def CertifyFoundCardSaid : Prop := Claim7.holds Tryz.pinned (.plain (OpenSpec.ofChange certifyFoundSpec)) certifyFoundCard

/-- THE SECOND FORM's CARD OF 'dunnagelaw20.CertifyChecks'. -/
def certifyChecksUptoCard : Claim7 := { stood := { row := certifyChecksUptoRow, standIns := [], harness := (true, "6c2ef91825658f55e9be4519fae94a085362d8825e4511b26349d2e29d548632"), looks := true }, kinds := [], alts := [], laidByText := true, laidKinds := [.handle], laidTests := true, laidLooks := .later }
def CertifyChecksUptoCardSaid : Prop := Claim7.holds Tryz.pinned (.plain (OpenSpec.upto certifyChecksSpec)) certifyChecksUptoCard

/-- THE SECOND FORM's CARD OF 'dunnagelaw20.CertifyReplays'. -/
def certifyReplaysUptoCard : Claim7 := { stood := { row := certifyReplaysUptoRow, standIns := [], harness := (true, "6c2ef91825658f55e9be4519fae94a085362d8825e4511b26349d2e29d548632"), looks := true }, kinds := [], alts := [], laidByText := true, laidKinds := [.handle], laidTests := true, laidLooks := .later }
def CertifyReplaysUptoCardSaid : Prop := Claim7.holds Tryz.pinned (.plain (OpenSpec.upto certifyReplaysSpec)) certifyReplaysUptoCard

/-- THE SECOND FORM's CARD OF 'dunnagelaw20.CertifyOnly'. -/
def certifyOnlyUptoCard : Claim7 := { stood := { row := certifyOnlyUptoRow, standIns := [], harness := (true, "6c2ef91825658f55e9be4519fae94a085362d8825e4511b26349d2e29d548632"), looks := true }, kinds := [], alts := [], laidByText := true, laidKinds := [.handle], laidTests := true, laidLooks := .later }
def CertifyOnlyUptoCardSaid : Prop := Claim7.holds Tryz.pinned (.plain (OpenSpec.upto certifyOnlySpec)) certifyOnlyUptoCard

/-- THE SECOND FORM's CARD OF 'dunnagelaw20.CertifyFound'. -/
def certifyFoundUptoCard : Claim7 := { stood := { row := certifyFoundUptoRow, standIns := [], harness := (true, "6c2ef91825658f55e9be4519fae94a085362d8825e4511b26349d2e29d548632"), looks := true }, kinds := [], alts := [], laidByText := true, laidKinds := [.handle], laidTests := true, laidLooks := .later }
def CertifyFoundUptoCardSaid : Prop := Claim7.holds Tryz.pinned (.plain (OpenSpec.upto certifyFoundSpec)) certifyFoundUptoCard
end Rows
end Go.Proofs.YtebfpcfbmhkiiaaGreatDoor
