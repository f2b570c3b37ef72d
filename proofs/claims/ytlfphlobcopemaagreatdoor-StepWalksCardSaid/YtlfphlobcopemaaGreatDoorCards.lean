/-
  DERIVED. GIVEN WITH THE SEED: THE CARDS: each row of YtlfphlobcopemaaGreatDoorRows.lean that lists a variable, with what it lists TIED to the program's text (the seventh form; the later family's looks); each row that meets fmt, with fmt's text TOLD by the authors' own Lean function (tested against real Go, not proved from fmt's source: count such statements apart). THE CARD IS WHAT COUNTS. Prove the row's statement (the work); the ties are given (YtlfphlobcopemaaGreatDoorTie.lean); close each card by the builder's one call (the guide's Derived/Test/ToyasCard.lean, 'card_holds'). Laid BY PROGRAM, IN A SANDBOX (cutbox-door.mjs). By AI agents, Wed Nov 11 2026. No macro, syntax, notation, axiom, sorry.
-/
import Derived.Test.YtlfphlobcopemaaGreatDoorRows
import GoSem.ClaimSeven
namespace Go.Proofs.YtlfphlobcopemaaGreatDoor
namespace Rows

/-- THE TIED CARD OF 'dunnagelaw18.MovesFar'. -/
def movesFarCard : Claim7 := { stood := { row := movesFarRow, standIns := [], harness := (true, "b0d5f4dd3890747611f6f1543c5dc770d9a8876bf28b193c5f879802aaba5f8c"), looks := true }, kinds := [], alts := [], laidByText := true, laidKinds := [.handle], laidTests := true, laidLooks := .later }
def MovesFarCardSaid : Prop := Claim7.holds Tryz.pinned (.plain (OpenSpec.ofChange movesFarSpec)) movesFarCard

/-- THE TIED CARD OF 'dunnagelaw12.StepSafe'. -/
def stepSafeCard : Claim7 := { stood := { row := stepSafeRow, standIns := [], harness := (true, "b0d5f4dd3890747611f6f1543c5dc770d9a8876bf28b193c5f879802aaba5f8c"), looks := true }, kinds := [], alts := [], laidByText := true, laidKinds := [.handle], laidTests := true, laidLooks := .later }
def StepSafeCardSaid : Prop := Claim7.holds Tryz.pinned (.plain (OpenSpec.ofChange stepSafeSpec)) stepSafeCard

/-- THE TIED CARD OF 'dunnagelaw12.StepWalks'. -/
def stepWalksCard : Claim7 := { stood := { row := stepWalksRow, standIns := [], harness := (true, "b0d5f4dd3890747611f6f1543c5dc770d9a8876bf28b193c5f879802aaba5f8c"), looks := true }, kinds := [], alts := [], laidByText := true, laidKinds := [.handle], laidTests := true, laidLooks := .later }
def StepWalksCardSaid : Prop := Claim7.holds Tryz.pinned (.plain (OpenSpec.ofChange stepWalksSpec)) stepWalksCard

/-- THE SECOND FORM's CARD OF 'dunnagelaw18.MovesFar'. -/
def movesFarUptoCard : Claim7 := { stood := { row := movesFarUptoRow, standIns := [], harness := (true, "b0d5f4dd3890747611f6f1543c5dc770d9a8876bf28b193c5f879802aaba5f8c"), looks := true }, kinds := [], alts := [], laidByText := true, laidKinds := [.handle], laidTests := true, laidLooks := .later }
def MovesFarUptoCardSaid : Prop := Claim7.holds Tryz.pinned (.plain (OpenSpec.upto movesFarSpec)) movesFarUptoCard

/-- THE SECOND FORM's CARD OF 'dunnagelaw12.StepSafe'. -/
def stepSafeUptoCard : Claim7 := { stood := { row := stepSafeUptoRow, standIns := [], harness := (true, "b0d5f4dd3890747611f6f1543c5dc770d9a8876bf28b193c5f879802aaba5f8c"), looks := true }, kinds := [], alts := [], laidByText := true, laidKinds := [.handle], laidTests := true, laidLooks := .later }
def StepSafeUptoCardSaid : Prop := Claim7.holds Tryz.pinned (.plain (OpenSpec.upto stepSafeSpec)) stepSafeUptoCard

/-- THE SECOND FORM's CARD OF 'dunnagelaw12.StepWalks'. -/
def stepWalksUptoCard : Claim7 := { stood := { row := stepWalksUptoRow, standIns := [], harness := (true, "b0d5f4dd3890747611f6f1543c5dc770d9a8876bf28b193c5f879802aaba5f8c"), looks := true }, kinds := [], alts := [], laidByText := true, laidKinds := [.handle], laidTests := true, laidLooks := .later }
def StepWalksUptoCardSaid : Prop := Claim7.holds Tryz.pinned (.plain (OpenSpec.upto stepWalksSpec)) stepWalksUptoCard
end Rows
end Go.Proofs.YtlfphlobcopemaaGreatDoor
