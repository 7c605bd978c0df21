/-
  DERIVED. GIVEN WITH THE SEED: THE CARDS: each row of YtollnbaidgncgaaGreatDoorRows.lean that lists a variable, with what it lists TIED to the program's text (the seventh form; the later family's looks); each row that meets fmt, with fmt's text TOLD by the authors' own Lean function (tested against real Go, not proved from fmt's source: count such statements apart). THE CARD IS WHAT COUNTS. Prove the row's statement (the work); the ties are given (YtollnbaidgncgaaGreatDoorTie.lean); close each card by the builder's one call (the guide's Derived/Test/ToyasCard.lean, 'card_holds'). Laid BY PROGRAM, IN A SANDBOX (cutbox-door.mjs). By AI agents, Wed Nov 11 2026. No macro, syntax, notation, axiom, sorry.
-/
import Derived.Test.YtollnbaidgncgaaGreatDoorRows
import GoSem.ClaimSeven
namespace Go.Proofs.YtollnbaidgncgaaGreatDoor
namespace Rows

/-- THE TIED CARD OF 'laws.FnAdvances'. -/
def fnAdvancesCard : Claim7 := { stood := { row := fnAdvancesRow, standIns := [], harness := (true, "8c2900ab000c5cb49dc9c65b452c0837204917bb4847d7f610f72c41a41c7a67"), looks := false }, kinds := [], alts := [], laidByText := true, laidKinds := [.data], laidTests := true, laidLooks := .later }
def FnAdvancesCardSaid : Prop := Claim7.holds Tryz.pinned (.plain (OpenSpec.ofChange fnAdvancesSpec)) fnAdvancesCard

/-- THE SECOND FORM's CARD OF 'laws.FnAdvances'. -/
def fnAdvancesUptoCard : Claim7 := { stood := { row := fnAdvancesUptoRow, standIns := [], harness := (true, "8c2900ab000c5cb49dc9c65b452c0837204917bb4847d7f610f72c41a41c7a67"), looks := false }, kinds := [], alts := [], laidByText := true, laidKinds := [.data], laidTests := true, laidLooks := .later }
def FnAdvancesUptoCardSaid : Prop := Claim7.holds Tryz.pinned (.plain (OpenSpec.upto fnAdvancesSpec)) fnAdvancesUptoCard
end Rows
end Go.Proofs.YtollnbaidgncgaaGreatDoor
