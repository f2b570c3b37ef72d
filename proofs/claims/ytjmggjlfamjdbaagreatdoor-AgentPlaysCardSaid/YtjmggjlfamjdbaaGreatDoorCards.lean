/-
  DERIVED. GIVEN WITH THE SEED: THE CARDS: each row of YtjmggjlfamjdbaaGreatDoorRows.lean that lists a variable, with what it lists TIED to the program's text (the seventh form; the later family's looks); each row that meets fmt, with fmt's text TOLD by the authors' own Lean function (tested against real Go, not proved from fmt's source: count such statements apart). THE CARD IS WHAT COUNTS. Prove the row's statement (the work); the ties are given (YtjmggjlfamjdbaaGreatDoorTie.lean); close each card by the builder's one call (the guide's Derived/Test/ToyasCard.lean, 'card_holds'). Laid BY PROGRAM, IN A SANDBOX (cutbox-door.mjs). By AI agents, Wed Nov 11 2026. No macro, syntax, notation, axiom, sorry.
-/
import Derived.Test.YtjmggjlfamjdbaaGreatDoorRows
import GoSem.ClaimSeven
namespace Go.Proofs.YtjmggjlfamjdbaaGreatDoor
namespace Rows

/-- THE TIED CARD OF 'dunnagelaw23.AgentOnce'. -/
def agentOnceCard : Claim7 := { stood := { row := agentOnceRow, standIns := [], harness := (true, "9b87c07deead181d364ba096fad1ea87a6df5a65f62d57264bc15044a29becf9"), looks := true }, kinds := [], alts := [], laidByText := true, laidKinds := [.handle], laidTests := true, laidLooks := .later }
def AgentOnceCardSaid : Prop := Claim7.holds Tryz.pinned (.plain (OpenSpec.ofChange agentOnceSpec)) agentOnceCard

/-- THE TIED CARD OF 'dunnagelaw23.AgentPlays'. -/
def agentPlaysCard : Claim7 := { stood := { row := agentPlaysRow, standIns := [], harness := (true, "9b87c07deead181d364ba096fad1ea87a6df5a65f62d57264bc15044a29becf9"), looks := true }, kinds := [], alts := [], laidByText := true, laidKinds := [.handle], laidTests := true, laidLooks := .later }
def AgentPlaysCardSaid : Prop := Claim7.holds Tryz.pinned (.plain (OpenSpec.ofChange agentPlaysSpec)) agentPlaysCard

/-- THE SECOND FORM's CARD OF 'dunnagelaw23.AgentOnce'. -/
def agentOnceUptoCard : Claim7 := { stood := { row := agentOnceUptoRow, standIns := [], harness := (true, "9b87c07deead181d364ba096fad1ea87a6df5a65f62d57264bc15044a29becf9"), looks := true }, kinds := [], alts := [], laidByText := true, laidKinds := [.handle], laidTests := true, laidLooks := .later }
def AgentOnceUptoCardSaid : Prop := Claim7.holds Tryz.pinned (.plain (OpenSpec.upto agentOnceSpec)) agentOnceUptoCard

/-- THE SECOND FORM's CARD OF 'dunnagelaw23.AgentPlays'. -/
def agentPlaysUptoCard : Claim7 := { stood := { row := agentPlaysUptoRow, standIns := [], harness := (true, "9b87c07deead181d364ba096fad1ea87a6df5a65f62d57264bc15044a29becf9"), looks := true }, kinds := [], alts := [], laidByText := true, laidKinds := [.handle], laidTests := true, laidLooks := .later }
def AgentPlaysUptoCardSaid : Prop := Claim7.holds Tryz.pinned (.plain (OpenSpec.upto agentPlaysSpec)) agentPlaysUptoCard
end Rows
end Go.Proofs.YtjmggjlfamjdbaaGreatDoor
