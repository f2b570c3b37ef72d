/-
  DERIVED. GIVEN WITH THE SEED: THE CARDS: each row of YtlgfanbdjigmiaaDoorRows.lean that lists a variable, with what it lists TIED to the program's text (the seventh form; the later family's looks); each row that meets fmt, with fmt's text TOLD by the authors' own Lean function (tested against real Go, not proved from fmt's source: count such statements apart). THE CARD IS WHAT COUNTS. Prove the row's statement (the work); the ties are given (YtlgfanbdjigmiaaDoorTie.lean); close each card by the builder's one call (the guide's Derived/Test/ToyasCard.lean, 'card_holds'). Laid BY PROGRAM, IN A SANDBOX (cutbox-door.mjs). By AI agents, Wed Nov 11 2026. No macro, syntax, notation, axiom, sorry.
-/
import Derived.Test.YtlgfanbdjigmiaaDoorRows
import GoSem.ClaimSeven
namespace Go.Proofs.YtlgfanbdjigmiaaDoor
namespace Rows

/-- THE TIED CARD OF 'dunnagelaw09.BudgetTells'. -/
def budgetTellsCard : Claim7 := { stood := { row := budgetTellsRow, standIns := [], harness := (true, "212840b37fb298c162db51e551e1010cb63e87da830aa36c091aaa9f4195af99"), looks := true }, kinds := [], alts := [], laidByText := true, laidKinds := [.handle], laidTests := true, laidLooks := .later }
def BudgetTellsCardSaid : Prop := Claim7.holds Tryd.pinned (.plain (OpenSpec.ofChange budgetTellsSpec)) budgetTellsCard

/-- THE SECOND FORM's CARD OF 'dunnagelaw09.BudgetTells'. -/
def budgetTellsUptoCard : Claim7 := { stood := { row := budgetTellsUptoRow, standIns := [], harness := (true, "212840b37fb298c162db51e551e1010cb63e87da830aa36c091aaa9f4195af99"), looks := true }, kinds := [], alts := [], laidByText := true, laidKinds := [.handle], laidTests := true, laidLooks := .later }
def BudgetTellsUptoCardSaid : Prop := Claim7.holds Tryd.pinned (.plain (OpenSpec.upto budgetTellsSpec)) budgetTellsUptoCard
end Rows
end Go.Proofs.YtlgfanbdjigmiaaDoor
