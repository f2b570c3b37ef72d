/-
  DERIVED. GIVEN WITH THE SEED: THE CARDS: each row of YtdjpeonignkheaaDoorRows.lean that lists a variable, with what it lists TIED to the program's text (the seventh form; the later family's looks); each row that meets fmt, with fmt's text TOLD by the authors' own Lean function (tested against real Go, not proved from fmt's source: count such statements apart). THE CARD IS WHAT COUNTS. Prove the row's statement (the work); the ties are given (YtdjpeonignkheaaDoorTie.lean); close each card by the builder's one call (the guide's Derived/Test/ToyasCard.lean, 'card_holds'). Laid BY PROGRAM, IN A SANDBOX (cutbox-door.mjs). By AI agents, Wed Nov 11 2026. No macro, syntax, notation, axiom, sorry.
-/
import Derived.Test.YtdjpeonignkheaaDoorRows
import GoSem.ClaimSeven
namespace Go.Proofs.YtdjpeonignkheaaDoor
namespace Rows

/-- THE TIED CARD OF 'dunnagelaw03.ClusterChecks'. -/
def clusterChecksCard : Claim7 := { stood := { row := clusterChecksRow, standIns := [], harness := (true, "b28b6d9b5b8281f2496b5ef4460aff73311bbef2cd9fffd7d8c355e469cb1b16"), looks := true }, kinds := [], alts := [], laidByText := true, laidKinds := [.handle], laidTests := true, laidLooks := .later }
def ClusterChecksCardSaid : Prop := Claim7.holds Tryd.pinned (.plain (OpenSpec.ofChange clusterChecksSpec)) clusterChecksCard

/-- THE TIED CARD OF 'dunnagelaw03.ClusterFewer'. -/
def clusterFewerCard : Claim7 := { stood := { row := clusterFewerRow, standIns := [], harness := (true, "b28b6d9b5b8281f2496b5ef4460aff73311bbef2cd9fffd7d8c355e469cb1b16"), looks := true }, kinds := [], alts := [], laidByText := true, laidKinds := [.handle], laidTests := true, laidLooks := .later }
def ClusterFewerCardSaid : Prop := Claim7.holds Tryd.pinned (.plain (OpenSpec.ofChange clusterFewerSpec)) clusterFewerCard

/-- THE SECOND FORM's CARD OF 'dunnagelaw03.ClusterChecks'. -/
def clusterChecksUptoCard : Claim7 := { stood := { row := clusterChecksUptoRow, standIns := [], harness := (true, "b28b6d9b5b8281f2496b5ef4460aff73311bbef2cd9fffd7d8c355e469cb1b16"), looks := true }, kinds := [], alts := [], laidByText := true, laidKinds := [.handle], laidTests := true, laidLooks := .later }
def ClusterChecksUptoCardSaid : Prop := Claim7.holds Tryd.pinned (.plain (OpenSpec.upto clusterChecksSpec)) clusterChecksUptoCard

/-- THE SECOND FORM's CARD OF 'dunnagelaw03.ClusterFewer'. -/
def clusterFewerUptoCard : Claim7 := { stood := { row := clusterFewerUptoRow, standIns := [], harness := (true, "b28b6d9b5b8281f2496b5ef4460aff73311bbef2cd9fffd7d8c355e469cb1b16"), looks := true }, kinds := [], alts := [], laidByText := true, laidKinds := [.handle], laidTests := true, laidLooks := .later }
def ClusterFewerUptoCardSaid : Prop := Claim7.holds Tryd.pinned (.plain (OpenSpec.upto clusterFewerSpec)) clusterFewerUptoCard
end Rows
end Go.Proofs.YtdjpeonignkheaaDoor
