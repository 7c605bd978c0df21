/-
  DERIVED. GIVEN WITH THE SEED: THE CARDS: each row of YtmjhmlbmglkbcaaGreatDoorRows.lean that lists a variable, with what it lists TIED to the program's text (the seventh form; the later family's looks); each row that meets fmt, with fmt's text TOLD by the authors' own Lean function (tested against real Go, not proved from fmt's source: count such statements apart). THE CARD IS WHAT COUNTS. Prove the row's statement (the work); the ties are given (YtmjhmlbmglkbcaaGreatDoorTie.lean); close each card by the builder's one call (the guide's Derived/Test/ToyasCard.lean, 'card_holds'). Laid BY PROGRAM, IN A SANDBOX (cutbox-door.mjs). By AI agents, Wed Nov 11 2026. No macro, syntax, notation, axiom, sorry.
-/
import Derived.Test.YtmjhmlbmglkbcaaGreatDoorRows
import GoSem.ClaimSeven
namespace Go.Proofs.YtmjhmlbmglkbcaaGreatDoor
namespace Rows

/-- THE TIED CARD OF 'laws.FnVictory'. -/
def fnVictoryCard : Claim7 := { stood := { row := fnVictoryRow, standIns := [], harness := (true, "08400bade12bf1b4bd0b0ab4d5bb4aa07bad7707749ec2f932704f042ce54a6d"), looks := false }, kinds := [], alts := [], laidByText := true, laidKinds := [.data], laidTests := true, laidLooks := .later }
def FnVictoryCardSaid : Prop := Claim7.holds Tryz.pinned (.plain (OpenSpec.ofChange fnVictorySpec)) fnVictoryCard

/-- THE SECOND FORM's CARD OF 'laws.FnVictory'. -/
def fnVictoryUptoCard : Claim7 := { stood := { row := fnVictoryUptoRow, standIns := [], harness := (true, "08400bade12bf1b4bd0b0ab4d5bb4aa07bad7707749ec2f932704f042ce54a6d"), looks := false }, kinds := [], alts := [], laidByText := true, laidKinds := [.data], laidTests := true, laidLooks := .later }
def FnVictoryUptoCardSaid : Prop := Claim7.holds Tryz.pinned (.plain (OpenSpec.upto fnVictorySpec)) fnVictoryUptoCard
end Rows
end Go.Proofs.YtmjhmlbmglkbcaaGreatDoor
