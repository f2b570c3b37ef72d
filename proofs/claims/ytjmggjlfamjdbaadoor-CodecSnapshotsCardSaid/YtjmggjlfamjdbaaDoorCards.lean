/-
  DERIVED. GIVEN WITH THE SEED: THE CARDS: each row of YtjmggjlfamjdbaaDoorRows.lean that lists a variable, with what it lists TIED to the program's text (the seventh form; the later family's looks); each row that meets fmt, with fmt's text TOLD by the authors' own Lean function (tested against real Go, not proved from fmt's source: count such statements apart). THE CARD IS WHAT COUNTS. Prove the row's statement (the work); the ties are given (YtjmggjlfamjdbaaDoorTie.lean); close each card by the builder's one call (the guide's Derived/Test/ToyasCard.lean, 'card_holds'). Laid BY PROGRAM, IN A SANDBOX (cutbox-door.mjs). By AI agents, Wed Nov 11 2026. No macro, syntax, notation, axiom, sorry.
-/
import Derived.Test.YtjmggjlfamjdbaaDoorRows
import GoSem.ClaimSeven
namespace Go.Proofs.YtjmggjlfamjdbaaDoor
namespace Rows

/-- THE TIED CARD OF 'dunnagelaw04.CodecMoves'. -/
def codecMovesCard : Claim7 := { stood := { row := codecMovesRow, standIns := [], harness := (true, "bfc8ffafa6577f0fa77a79c87cd86b9fbcdf58490a3fcaf3c1aa68f6fca13dd0"), looks := true }, kinds := [], alts := [], laidByText := true, laidKinds := [.handle], laidTests := true, laidLooks := .later }
def CodecMovesCardSaid : Prop := Claim7.holds Tryd.pinned (.plain (OpenSpec.ofChange codecMovesSpec)) codecMovesCard

/-- THE TIED CARD OF 'dunnagelaw04.CodecBack'. -/
def codecBackCard : Claim7 := { stood := { row := codecBackRow, standIns := [], harness := (true, "bfc8ffafa6577f0fa77a79c87cd86b9fbcdf58490a3fcaf3c1aa68f6fca13dd0"), looks := true }, kinds := [], alts := [], laidByText := true, laidKinds := [.handle], laidTests := true, laidLooks := .later }
def CodecBackCardSaid : Prop := Claim7.holds Tryd.pinned (.plain (OpenSpec.ofChange codecBackSpec)) codecBackCard

/-- THE TIED CARD OF 'dunnagelaw04.CodecOnce'. -/
def codecOnceCard : Claim7 := { stood := { row := codecOnceRow, standIns := [], harness := (true, "bfc8ffafa6577f0fa77a79c87cd86b9fbcdf58490a3fcaf3c1aa68f6fca13dd0"), looks := true }, kinds := [], alts := [], laidByText := true, laidKinds := [.handle], laidTests := true, laidLooks := .later }
def CodecOnceCardSaid : Prop := Claim7.holds Tryd.pinned (.plain (OpenSpec.ofChange codecOnceSpec)) codecOnceCard

/-- THE TIED CARD OF 'dunnagelaw04.CodecSnapshots'. -/
def codecSnapshotsCard : Claim7 := { stood := { row := codecSnapshotsRow, standIns := [], harness := (true, "bfc8ffafa6577f0fa77a79c87cd86b9fbcdf58490a3fcaf3c1aa68f6fca13dd0"), looks := true }, kinds := [], alts := [], laidByText := true, laidKinds := [.handle], laidTests := true, laidLooks := .later }
def CodecSnapshotsCardSaid : Prop := Claim7.holds Tryd.pinned (.plain (OpenSpec.ofChange codecSnapshotsSpec)) codecSnapshotsCard

/-- THE TIED CARD OF 'dunnagelaw04.CodecSpecs'. -/
def codecSpecsCard : Claim7 := { stood := { row := codecSpecsRow, standIns := [], harness := (true, "bfc8ffafa6577f0fa77a79c87cd86b9fbcdf58490a3fcaf3c1aa68f6fca13dd0"), looks := true }, kinds := [], alts := [], laidByText := true, laidKinds := [.handle], laidTests := true, laidLooks := .later }
def CodecSpecsCardSaid : Prop := Claim7.holds Tryd.pinned (.plain (OpenSpec.ofChange codecSpecsSpec)) codecSpecsCard

/-- THE SECOND FORM's CARD OF 'dunnagelaw04.CodecMoves'. -/
def codecMovesUptoCard : Claim7 := { stood := { row := codecMovesUptoRow, standIns := [], harness := (true, "bfc8ffafa6577f0fa77a79c87cd86b9fbcdf58490a3fcaf3c1aa68f6fca13dd0"), looks := true }, kinds := [], alts := [], laidByText := true, laidKinds := [.handle], laidTests := true, laidLooks := .later }
def CodecMovesUptoCardSaid : Prop := Claim7.holds Tryd.pinned (.plain (OpenSpec.upto codecMovesSpec)) codecMovesUptoCard

/-- THE SECOND FORM's CARD OF 'dunnagelaw04.CodecBack'. -/
def codecBackUptoCard : Claim7 := { stood := { row := codecBackUptoRow, standIns := [], harness := (true, "bfc8ffafa6577f0fa77a79c87cd86b9fbcdf58490a3fcaf3c1aa68f6fca13dd0"), looks := true }, kinds := [], alts := [], laidByText := true, laidKinds := [.handle], laidTests := true, laidLooks := .later }
def CodecBackUptoCardSaid : Prop := Claim7.holds Tryd.pinned (.plain (OpenSpec.upto codecBackSpec)) codecBackUptoCard

/-- THE SECOND FORM's CARD OF 'dunnagelaw04.CodecOnce'. -/
def codecOnceUptoCard : Claim7 := { stood := { row := codecOnceUptoRow, standIns := [], harness := (true, "bfc8ffafa6577f0fa77a79c87cd86b9fbcdf58490a3fcaf3c1aa68f6fca13dd0"), looks := true }, kinds := [], alts := [], laidByText := true, laidKinds := [.handle], laidTests := true, laidLooks := .later }
def CodecOnceUptoCardSaid : Prop := Claim7.holds Tryd.pinned (.plain (OpenSpec.upto codecOnceSpec)) codecOnceUptoCard

/-- THE SECOND FORM's CARD OF 'dunnagelaw04.CodecSnapshots'. -/
def codecSnapshotsUptoCard : Claim7 := { stood := { row := codecSnapshotsUptoRow, standIns := [], harness := (true, "bfc8ffafa6577f0fa77a79c87cd86b9fbcdf58490a3fcaf3c1aa68f6fca13dd0"), looks := true }, kinds := [], alts := [], laidByText := true, laidKinds := [.handle], laidTests := true, laidLooks := .later }
def CodecSnapshotsUptoCardSaid : Prop := Claim7.holds Tryd.pinned (.plain (OpenSpec.upto codecSnapshotsSpec)) codecSnapshotsUptoCard

/-- THE SECOND FORM's CARD OF 'dunnagelaw04.CodecSpecs'. -/
def codecSpecsUptoCard : Claim7 := { stood := { row := codecSpecsUptoRow, standIns := [], harness := (true, "bfc8ffafa6577f0fa77a79c87cd86b9fbcdf58490a3fcaf3c1aa68f6fca13dd0"), looks := true }, kinds := [], alts := [], laidByText := true, laidKinds := [.handle], laidTests := true, laidLooks := .later }
def CodecSpecsUptoCardSaid : Prop := Claim7.holds Tryd.pinned (.plain (OpenSpec.upto codecSpecsSpec)) codecSpecsUptoCard
end Rows
end Go.Proofs.YtjmggjlfamjdbaaDoor
