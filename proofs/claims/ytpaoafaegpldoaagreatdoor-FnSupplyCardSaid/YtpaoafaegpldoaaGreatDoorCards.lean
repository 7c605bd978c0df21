/-
  DERIVED. GIVEN WITH THE SEED: THE CARDS: each row of YtpaoafaegpldoaaGreatDoorRows.lean that lists a variable, with what it lists TIED to the program's text (the seventh form; the later family's looks); each row that meets fmt, with fmt's text TOLD by the authors' own Lean function (tested against real Go, not proved from fmt's source: count such statements apart). THE CARD IS WHAT COUNTS. Prove the row's statement (the work); the ties are given (YtpaoafaegpldoaaGreatDoorTie.lean); close each card by the builder's one call (the guide's Derived/Test/ToyasCard.lean, 'card_holds'). Laid BY PROGRAM, IN A SANDBOX (cutbox-door.mjs). By AI agents, Wed Nov 11 2026. No macro, syntax, notation, axiom, sorry.
-/
import Derived.Test.YtpaoafaegpldoaaGreatDoorRows
import GoSem.ClaimSeven
namespace Go.Proofs.YtpaoafaegpldoaaGreatDoor
namespace Rows

/-- THE TIED CARD OF 'laws.FnSupply'. -/
def fnSupplyCard : Claim7 := { stood := { row := fnSupplyRow, standIns := [], harness := (true, "08a2f4ede85e90063d2d2a524ec17dfaf86e1cc7a1f406e91878031a1f0f5cb6"), looks := false }, kinds := [], alts := [], laidByText := true, laidKinds := [.data], laidTests := true, laidLooks := .later }
def FnSupplyCardSaid : Prop := Claim7.holds Tryz.pinned (.plain (OpenSpec.ofChange fnSupplySpec)) fnSupplyCard

/-- THE SECOND FORM's CARD OF 'laws.FnSupply'. -/
def fnSupplyUptoCard : Claim7 := { stood := { row := fnSupplyUptoRow, standIns := [], harness := (true, "08a2f4ede85e90063d2d2a524ec17dfaf86e1cc7a1f406e91878031a1f0f5cb6"), looks := false }, kinds := [], alts := [], laidByText := true, laidKinds := [.data], laidTests := true, laidLooks := .later }
def FnSupplyUptoCardSaid : Prop := Claim7.holds Tryz.pinned (.plain (OpenSpec.upto fnSupplySpec)) fnSupplyUptoCard
end Rows
end Go.Proofs.YtpaoafaegpldoaaGreatDoor
