/-
  DERIVED. GIVEN WITH THE SEED: THE CARDS: each row of YtebfdfiffaolhaaGreatDoorRows.lean that lists a variable, with what it lists TIED to the program's text (the seventh form; the later family's looks); each row that meets fmt, with fmt's text TOLD by the authors' own Lean function (tested against real Go, not proved from fmt's source: count such statements apart). THE CARD IS WHAT COUNTS. Prove the row's statement (the work); the ties are given (YtebfdfiffaolhaaGreatDoorTie.lean); close each card by the builder's one call (the guide's Derived/Test/ToyasCard.lean, 'card_holds'). Laid BY PROGRAM, IN A SANDBOX (cutbox-door.mjs). By AI agents, Wed Nov 11 2026. No macro, syntax, notation, axiom, sorry.
-/
import Derived.Test.YtebfdfiffaolhaaGreatDoorRows
import GoSem.ClaimSeven
namespace Go.Proofs.YtebfdfiffaolhaaGreatDoor
namespace Rows

/-- THE TIED CARD OF 'laws.FnRetreats'. -/
def fnRetreatsCard : Claim7 := { stood := { row := fnRetreatsRow, standIns := [], harness := (true, "2b5e157a7aa43613b4e132ecbeae17457f7e20d4ef306e4e5e04112ae33a9832"), looks := false }, kinds := [], alts := [], laidByText := true, laidKinds := [.data], laidTests := true, laidLooks := .later }
def FnRetreatsCardSaid : Prop := Claim7.holds Tryz.pinned (.plain (OpenSpec.ofChange fnRetreatsSpec)) fnRetreatsCard

/-- THE SECOND FORM's CARD OF 'laws.FnRetreats'. -/
def fnRetreatsUptoCard : Claim7 := { stood := { row := fnRetreatsUptoRow, standIns := [], harness := (true, "2b5e157a7aa43613b4e132ecbeae17457f7e20d4ef306e4e5e04112ae33a9832"), looks := false }, kinds := [], alts := [], laidByText := true, laidKinds := [.data], laidTests := true, laidLooks := .later }
def FnRetreatsUptoCardSaid : Prop := Claim7.holds Tryz.pinned (.plain (OpenSpec.upto fnRetreatsSpec)) fnRetreatsUptoCard
end Rows
end Go.Proofs.YtebfdfiffaolhaaGreatDoor
