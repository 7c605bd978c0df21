/-
  DERIVED. GIVEN WITH THE SEED: THE CARDS: each row of YtgkcaabkejbidaaGreatDoorRows.lean that lists a variable, with what it lists TIED to the program's text (the seventh form; the later family's looks); each row that meets fmt, with fmt's text TOLD by the authors' own Lean function (tested against real Go, not proved from fmt's source: count such statements apart). THE CARD IS WHAT COUNTS. Prove the row's statement (the work); the ties are given (YtgkcaabkejbidaaGreatDoorTie.lean); close each card by the builder's one call (the guide's Derived/Test/ToyasCard.lean, 'card_holds'). Laid BY PROGRAM, IN A SANDBOX (cutbox-door.mjs). By AI agents, Wed Nov 11 2026. No macro, syntax, notation, axiom, sorry.
-/
import Derived.Test.YtgkcaabkejbidaaGreatDoorRows
import GoSem.ClaimSeven
namespace Go.Proofs.YtgkcaabkejbidaaGreatDoor
namespace Rows

/-- THE TIED CARD OF 'laws.FnRestoring'. -/
def fnRestoringCard : Claim7 := { stood := { row := fnRestoringRow, standIns := [], harness := (true, "27064c2f12ec75804de8c41541501a8bd8771bd4aa114285b1d9de0c71c15788"), looks := false }, kinds := [], alts := [], laidByText := true, laidKinds := [.data], laidTests := true, laidLooks := .later }
def FnRestoringCardSaid : Prop := Claim7.holds Tryz.pinned (.plain (OpenSpec.ofChange fnRestoringSpec)) fnRestoringCard

/-- THE SECOND FORM's CARD OF 'laws.FnRestoring'. -/
def fnRestoringUptoCard : Claim7 := { stood := { row := fnRestoringUptoRow, standIns := [], harness := (true, "27064c2f12ec75804de8c41541501a8bd8771bd4aa114285b1d9de0c71c15788"), looks := false }, kinds := [], alts := [], laidByText := true, laidKinds := [.data], laidTests := true, laidLooks := .later }
def FnRestoringUptoCardSaid : Prop := Claim7.holds Tryz.pinned (.plain (OpenSpec.upto fnRestoringSpec)) fnRestoringUptoCard
end Rows
end Go.Proofs.YtgkcaabkejbidaaGreatDoor
