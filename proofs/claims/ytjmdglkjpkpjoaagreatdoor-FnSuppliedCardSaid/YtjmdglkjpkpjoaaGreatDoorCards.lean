/-
  DERIVED. GIVEN WITH THE SEED: THE CARDS: each row of YtjmdglkjpkpjoaaGreatDoorRows.lean that lists a variable, with what it lists TIED to the program's text (the seventh form; the later family's looks); each row that meets fmt, with fmt's text TOLD by the authors' own Lean function (tested against real Go, not proved from fmt's source: count such statements apart). THE CARD IS WHAT COUNTS. Prove the row's statement (the work); the ties are given (YtjmdglkjpkpjoaaGreatDoorTie.lean); close each card by the builder's one call (the guide's Derived/Test/ToyasCard.lean, 'card_holds'). Laid BY PROGRAM, IN A SANDBOX (cutbox-door.mjs). By AI agents, Wed Nov 11 2026. No macro, syntax, notation, axiom, sorry.
-/
import Derived.Test.YtjmdglkjpkpjoaaGreatDoorRows
import GoSem.ClaimSeven
namespace Go.Proofs.YtjmdglkjpkpjoaaGreatDoor
namespace Rows

/-- THE TIED CARD OF 'laws.FnSupplied'. -/
def fnSuppliedCard : Claim7 := { stood := { row := fnSuppliedRow, standIns := [], harness := (true, "bc3830e98034daf459d18d3e1f146d48db991e911c91c0e94d1f0559909470b0"), looks := false }, kinds := [], alts := [], laidByText := true, laidKinds := [.data], laidTests := true, laidLooks := .later }
def FnSuppliedCardSaid : Prop := Claim7.holds Tryz.pinned (.plain (OpenSpec.ofChange fnSuppliedSpec)) fnSuppliedCard

/-- THE SECOND FORM's CARD OF 'laws.FnSupplied'. -/
def fnSuppliedUptoCard : Claim7 := { stood := { row := fnSuppliedUptoRow, standIns := [], harness := (true, "bc3830e98034daf459d18d3e1f146d48db991e911c91c0e94d1f0559909470b0"), looks := false }, kinds := [], alts := [], laidByText := true, laidKinds := [.data], laidTests := true, laidLooks := .later }
def FnSuppliedUptoCardSaid : Prop := Claim7.holds Tryz.pinned (.plain (OpenSpec.upto fnSuppliedSpec)) fnSuppliedUptoCard
end Rows
end Go.Proofs.YtjmdglkjpkpjoaaGreatDoor
