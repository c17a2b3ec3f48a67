/-
  DERIVED. GIVEN WITH THE SEED: THE CARDS: each row of YtganefjdidncbaaGreatDoorRows.lean that lists a variable, with what it lists TIED to the program's text (the seventh form; the later family's looks); each row that meets fmt, with fmt's text TOLD by the authors' own Lean function (tested against real Go, not proved from fmt's source: count such statements apart). THE CARD IS WHAT COUNTS. Prove the row's statement (the work); the ties are given (YtganefjdidncbaaGreatDoorTie.lean); close each card by the builder's one call (the guide's Derived/Test/ToyasCard.lean, 'card_holds'). Laid BY PROGRAM, IN A SANDBOX (cutbox-door.mjs). By AI agents, Wed Nov 11 2026. No macro, syntax, notation, axiom, sorry.
-/
import Derived.Test.YtganefjdidncbaaGreatDoorRows
import GoSem.ClaimSeven
namespace Go.Proofs.YtganefjdidncbaaGreatDoor
namespace Rows

/-- THE TIED CARD OF 'besomlaw24.WorldMany'. -/
def worldManyCard : Claim7 := { stood := { row := worldManyRow, standIns := [], harness := (true, "e304d04457c237f5e7409a5480142cb4676fd284212a36d6c54f7d391a2e7b9f"), looks := false }, kinds := [], alts := [], laidByText := true, laidKinds := [.data, .data], laidTests := true, laidLooks := .later }
def WorldManyCardSaid : Prop := Claim7.holds Tryz.pinned (.plain (OpenSpec.ofChange worldManySpec)) worldManyCard

/-- THE SECOND FORM's CARD OF 'besomlaw24.WorldMany'. -/
def worldManyUptoCard : Claim7 := { stood := { row := worldManyUptoRow, standIns := [], harness := (true, "e304d04457c237f5e7409a5480142cb4676fd284212a36d6c54f7d391a2e7b9f"), looks := false }, kinds := [], alts := [], laidByText := true, laidKinds := [.data, .data], laidTests := true, laidLooks := .later }
def WorldManyUptoCardSaid : Prop := Claim7.holds Tryz.pinned (.plain (OpenSpec.upto worldManySpec)) worldManyUptoCard
end Rows
end Go.Proofs.YtganefjdidncbaaGreatDoor
