/-
  DERIVED. GIVEN WITH THE SEED: THE CARDS: each row of YtmeigdjfcecidaaDoorRows.lean that lists a variable, with what it lists TIED to the program's text (the seventh form; the later family's looks); each row that meets fmt, with fmt's text TOLD by the authors' own Lean function (tested against real Go, not proved from fmt's source: count such statements apart). THE CARD IS WHAT COUNTS. Prove the row's statement (the work); the ties are given (YtmeigdjfcecidaaDoorTie.lean); close each card by the builder's one call (the guide's Derived/Test/ToyasCard.lean, 'card_holds'). Laid BY PROGRAM, IN A SANDBOX (cutbox-door.mjs). By AI agents, Wed Nov 11 2026. No macro, syntax, notation, axiom, sorry.
-/
import Derived.Test.YtmeigdjfcecidaaDoorRows
import GoSem.ClaimSeven
namespace Go.Proofs.YtmeigdjfcecidaaDoor
namespace Rows

/-- THE TIED CARD OF 'dunnagelaw07.ApartLess'. -/
def apartLessCard : Claim7 := { stood := { row := apartLessRow, standIns := [], harness := (true, "28ec17172d9deccf04e1aa8c3213d88b50f2c17f40ae0961ac8870fda7f41888"), looks := true }, kinds := [], alts := [], laidByText := true, laidKinds := [.handle], laidTests := true, laidLooks := .later }
def ApartLessCardSaid : Prop := Claim7.holds Tryd.pinned (.plain (OpenSpec.ofChange apartLessSpec)) apartLessCard

/-- THE TIED CARD OF 'dunnagelaw07.ApartBoth'. -/
def apartBothCard : Claim7 := { stood := { row := apartBothRow, standIns := [], harness := (true, "28ec17172d9deccf04e1aa8c3213d88b50f2c17f40ae0961ac8870fda7f41888"), looks := true }, kinds := [], alts := [], laidByText := true, laidKinds := [.handle], laidTests := true, laidLooks := .later }
def ApartBothCardSaid : Prop := Claim7.holds Tryd.pinned (.plain (OpenSpec.ofChange apartBothSpec)) apartBothCard

/-- THE TIED CARD OF 'dunnagelaw06.RoomTells'. -/
def roomTellsCard : Claim7 := { stood := { row := roomTellsRow, standIns := [], harness := (true, "28ec17172d9deccf04e1aa8c3213d88b50f2c17f40ae0961ac8870fda7f41888"), looks := true }, kinds := [], alts := [], laidByText := true, laidKinds := [.handle], laidTests := true, laidLooks := .later }
def RoomTellsCardSaid : Prop := Claim7.holds Tryd.pinned (.plain (OpenSpec.ofChange roomTellsSpec)) roomTellsCard

/-- THE TIED CARD OF 'dunnagelaw06.RoomWhole'. -/
def roomWholeCard : Claim7 := { stood := { row := roomWholeRow, standIns := [], harness := (true, "28ec17172d9deccf04e1aa8c3213d88b50f2c17f40ae0961ac8870fda7f41888"), looks := true }, kinds := [], alts := [], laidByText := true, laidKinds := [.handle], laidTests := true, laidLooks := .later }
def RoomWholeCardSaid : Prop := Claim7.holds Tryd.pinned (.plain (OpenSpec.ofChange roomWholeSpec)) roomWholeCard

/-- THE TIED CARD OF 'dunnagelaw06.RoomLess'. -/
def roomLessCard : Claim7 := { stood := { row := roomLessRow, standIns := [], harness := (true, "28ec17172d9deccf04e1aa8c3213d88b50f2c17f40ae0961ac8870fda7f41888"), looks := true }, kinds := [], alts := [], laidByText := true, laidKinds := [.handle], laidTests := true, laidLooks := .later }
def RoomLessCardSaid : Prop := Claim7.holds Tryd.pinned (.plain (OpenSpec.ofChange roomLessSpec)) roomLessCard

/-- THE TIED CARD OF 'dunnagelaw09.BudgetMoves'. -/
def budgetMovesCard : Claim7 := { stood := { row := budgetMovesRow, standIns := [], harness := (true, "28ec17172d9deccf04e1aa8c3213d88b50f2c17f40ae0961ac8870fda7f41888"), looks := true }, kinds := [], alts := [], laidByText := true, laidKinds := [.handle], laidTests := true, laidLooks := .later }
def BudgetMovesCardSaid : Prop := Claim7.holds Tryd.pinned (.plain (OpenSpec.ofChange budgetMovesSpec)) budgetMovesCard

/-- THE SECOND FORM's CARD OF 'dunnagelaw07.ApartLess'. -/
def apartLessUptoCard : Claim7 := { stood := { row := apartLessUptoRow, standIns := [], harness := (true, "28ec17172d9deccf04e1aa8c3213d88b50f2c17f40ae0961ac8870fda7f41888"), looks := true }, kinds := [], alts := [], laidByText := true, laidKinds := [.handle], laidTests := true, laidLooks := .later }
def ApartLessUptoCardSaid : Prop := Claim7.holds Tryd.pinned (.plain (OpenSpec.upto apartLessSpec)) apartLessUptoCard

/-- THE SECOND FORM's CARD OF 'dunnagelaw07.ApartBoth'. -/
def apartBothUptoCard : Claim7 := { stood := { row := apartBothUptoRow, standIns := [], harness := (true, "28ec17172d9deccf04e1aa8c3213d88b50f2c17f40ae0961ac8870fda7f41888"), looks := true }, kinds := [], alts := [], laidByText := true, laidKinds := [.handle], laidTests := true, laidLooks := .later }
def ApartBothUptoCardSaid : Prop := Claim7.holds Tryd.pinned (.plain (OpenSpec.upto apartBothSpec)) apartBothUptoCard

/-- THE SECOND FORM's CARD OF 'dunnagelaw06.RoomTells'. -/
def roomTellsUptoCard : Claim7 := { stood := { row := roomTellsUptoRow, standIns := [], harness := (true, "28ec17172d9deccf04e1aa8c3213d88b50f2c17f40ae0961ac8870fda7f41888"), looks := true }, kinds := [], alts := [], laidByText := true, laidKinds := [.handle], laidTests := true, laidLooks := .later }
def RoomTellsUptoCardSaid : Prop := Claim7.holds Tryd.pinned (.plain (OpenSpec.upto roomTellsSpec)) roomTellsUptoCard

/-- THE SECOND FORM's CARD OF 'dunnagelaw06.RoomWhole'. -/
def roomWholeUptoCard : Claim7 := { stood := { row := roomWholeUptoRow, standIns := [], harness := (true, "28ec17172d9deccf04e1aa8c3213d88b50f2c17f40ae0961ac8870fda7f41888"), looks := true }, kinds := [], alts := [], laidByText := true, laidKinds := [.handle], laidTests := true, laidLooks := .later }
def RoomWholeUptoCardSaid : Prop := Claim7.holds Tryd.pinned (.plain (OpenSpec.upto roomWholeSpec)) roomWholeUptoCard

/-- THE SECOND FORM's CARD OF 'dunnagelaw06.RoomLess'. -/
def roomLessUptoCard : Claim7 := { stood := { row := roomLessUptoRow, standIns := [], harness := (true, "28ec17172d9deccf04e1aa8c3213d88b50f2c17f40ae0961ac8870fda7f41888"), looks := true }, kinds := [], alts := [], laidByText := true, laidKinds := [.handle], laidTests := true, laidLooks := .later }
def RoomLessUptoCardSaid : Prop := Claim7.holds Tryd.pinned (.plain (OpenSpec.upto roomLessSpec)) roomLessUptoCard

/-- THE SECOND FORM's CARD OF 'dunnagelaw09.BudgetMoves'. -/
def budgetMovesUptoCard : Claim7 := { stood := { row := budgetMovesUptoRow, standIns := [], harness := (true, "28ec17172d9deccf04e1aa8c3213d88b50f2c17f40ae0961ac8870fda7f41888"), looks := true }, kinds := [], alts := [], laidByText := true, laidKinds := [.handle], laidTests := true, laidLooks := .later }
def BudgetMovesUptoCardSaid : Prop := Claim7.holds Tryd.pinned (.plain (OpenSpec.upto budgetMovesSpec)) budgetMovesUptoCard
end Rows
end Go.Proofs.YtmeigdjfcecidaaDoor
