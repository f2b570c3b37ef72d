/-
  DERIVED. GIVEN WITH THE SEED: THE CARDS: each row of YtogbpgkefkbffaaDoorRows.lean that lists a variable, with what it lists TIED to the program's text (the seventh form; the later family's looks); each row that meets fmt, with fmt's text TOLD by the authors' own Lean function (tested against real Go, not proved from fmt's source: count such statements apart). THE CARD IS WHAT COUNTS. Prove the row's statement (the work); the ties are given (YtogbpgkefkbffaaDoorTie.lean); close each card by the builder's one call (the guide's Derived/Test/ToyasCard.lean, 'card_holds'). Laid BY PROGRAM, IN A SANDBOX (cutbox-door.mjs). By AI agents, Wed Nov 11 2026. No macro, syntax, notation, axiom, sorry.
-/
import Derived.Test.YtogbpgkefkbffaaDoorRows
import GoSem.ClaimSeven
namespace Go.Proofs.YtogbpgkefkbffaaDoor
namespace Rows

/-- THE TIED CARD OF 'dunnagelaw02.WirePuts'. -/
def wirePutsCard : Claim7 := { stood := { row := wirePutsRow, standIns := [], harness := (true, "d143721b430ce15ece3e9d2eb21e19d9764e1b95e1a8cec0e112eb9b1fe3fadf"), looks := true }, kinds := [], alts := [], laidByText := true, laidKinds := [.handle], laidTests := true, laidLooks := .later }
def WirePutsCardSaid : Prop := Claim7.holds Tryd.pinned (.plain (OpenSpec.ofChange wirePutsSpec)) wirePutsCard

/-- THE TIED CARD OF 'dunnagelaw02.WireAlls'. -/
def wireAllsCard : Claim7 := { stood := { row := wireAllsRow, standIns := [], harness := (true, "d143721b430ce15ece3e9d2eb21e19d9764e1b95e1a8cec0e112eb9b1fe3fadf"), looks := true }, kinds := [], alts := [], laidByText := true, laidKinds := [.handle], laidTests := true, laidLooks := .later }
def WireAllsCardSaid : Prop := Claim7.holds Tryd.pinned (.plain (OpenSpec.ofChange wireAllsSpec)) wireAllsCard

/-- THE TIED CARD OF 'dunnagelaw02.WireBack'. -/
def wireBackCard : Claim7 := { stood := { row := wireBackRow, standIns := [], harness := (true, "d143721b430ce15ece3e9d2eb21e19d9764e1b95e1a8cec0e112eb9b1fe3fadf"), looks := true }, kinds := [], alts := [], laidByText := true, laidKinds := [.handle], laidTests := true, laidLooks := .later }
def WireBackCardSaid : Prop := Claim7.holds Tryd.pinned (.plain (OpenSpec.ofChange wireBackSpec)) wireBackCard

/-- THE TIED CARD OF 'dunnagelaw02.WireGets'. -/
def wireGetsCard : Claim7 := { stood := { row := wireGetsRow, standIns := [], harness := (true, "d143721b430ce15ece3e9d2eb21e19d9764e1b95e1a8cec0e112eb9b1fe3fadf"), looks := true }, kinds := [], alts := [], laidByText := true, laidKinds := [.handle], laidTests := true, laidLooks := .later }
def WireGetsCardSaid : Prop := Claim7.holds Tryd.pinned (.plain (OpenSpec.ofChange wireGetsSpec)) wireGetsCard

/-- THE TIED CARD OF 'dunnagelaw02.WireParts'. -/
def wirePartsCard : Claim7 := { stood := { row := wirePartsRow, standIns := [], harness := (true, "d143721b430ce15ece3e9d2eb21e19d9764e1b95e1a8cec0e112eb9b1fe3fadf"), looks := true }, kinds := [], alts := [], laidByText := true, laidKinds := [.handle], laidTests := true, laidLooks := .later }
def WirePartsCardSaid : Prop := Claim7.holds Tryd.pinned (.plain (OpenSpec.ofChange wirePartsSpec)) wirePartsCard

/-- THE SECOND FORM's CARD OF 'dunnagelaw02.WirePuts'. -/
def wirePutsUptoCard : Claim7 := { stood := { row := wirePutsUptoRow, standIns := [], harness := (true, "d143721b430ce15ece3e9d2eb21e19d9764e1b95e1a8cec0e112eb9b1fe3fadf"), looks := true }, kinds := [], alts := [], laidByText := true, laidKinds := [.handle], laidTests := true, laidLooks := .later }
def WirePutsUptoCardSaid : Prop := Claim7.holds Tryd.pinned (.plain (OpenSpec.upto wirePutsSpec)) wirePutsUptoCard

/-- THE SECOND FORM's CARD OF 'dunnagelaw02.WireAlls'. -/
def wireAllsUptoCard : Claim7 := { stood := { row := wireAllsUptoRow, standIns := [], harness := (true, "d143721b430ce15ece3e9d2eb21e19d9764e1b95e1a8cec0e112eb9b1fe3fadf"), looks := true }, kinds := [], alts := [], laidByText := true, laidKinds := [.handle], laidTests := true, laidLooks := .later }
def WireAllsUptoCardSaid : Prop := Claim7.holds Tryd.pinned (.plain (OpenSpec.upto wireAllsSpec)) wireAllsUptoCard

/-- THE SECOND FORM's CARD OF 'dunnagelaw02.WireBack'. -/
def wireBackUptoCard : Claim7 := { stood := { row := wireBackUptoRow, standIns := [], harness := (true, "d143721b430ce15ece3e9d2eb21e19d9764e1b95e1a8cec0e112eb9b1fe3fadf"), looks := true }, kinds := [], alts := [], laidByText := true, laidKinds := [.handle], laidTests := true, laidLooks := .later }
def WireBackUptoCardSaid : Prop := Claim7.holds Tryd.pinned (.plain (OpenSpec.upto wireBackSpec)) wireBackUptoCard

/-- THE SECOND FORM's CARD OF 'dunnagelaw02.WireGets'. -/
def wireGetsUptoCard : Claim7 := { stood := { row := wireGetsUptoRow, standIns := [], harness := (true, "d143721b430ce15ece3e9d2eb21e19d9764e1b95e1a8cec0e112eb9b1fe3fadf"), looks := true }, kinds := [], alts := [], laidByText := true, laidKinds := [.handle], laidTests := true, laidLooks := .later }
def WireGetsUptoCardSaid : Prop := Claim7.holds Tryd.pinned (.plain (OpenSpec.upto wireGetsSpec)) wireGetsUptoCard

/-- THE SECOND FORM's CARD OF 'dunnagelaw02.WireParts'. -/
def wirePartsUptoCard : Claim7 := { stood := { row := wirePartsUptoRow, standIns := [], harness := (true, "d143721b430ce15ece3e9d2eb21e19d9764e1b95e1a8cec0e112eb9b1fe3fadf"), looks := true }, kinds := [], alts := [], laidByText := true, laidKinds := [.handle], laidTests := true, laidLooks := .later }
def WirePartsUptoCardSaid : Prop := Claim7.holds Tryd.pinned (.plain (OpenSpec.upto wirePartsSpec)) wirePartsUptoCard
end Rows
end Go.Proofs.YtogbpgkefkbffaaDoor
