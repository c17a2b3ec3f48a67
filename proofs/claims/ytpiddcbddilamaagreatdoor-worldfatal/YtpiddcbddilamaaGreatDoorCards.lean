/-
  DERIVED. GIVEN WITH THE SEED: THE CARDS: each row of YtpiddcbddilamaaGreatDoorRows.lean that lists a variable, with what it lists TIED to the program's text (the seventh form; the later family's looks); each row that meets fmt, with fmt's text TOLD by the authors' own Lean function (tested against real Go, not proved from fmt's source: count such statements apart). THE CARD IS WHAT COUNTS. Prove the row's statement (the work); the ties are given (YtpiddcbddilamaaGreatDoorTie.lean); close each card by the builder's one call (the guide's Derived/Test/ToyasCard.lean, 'card_holds'). Laid BY PROGRAM, IN A SANDBOX (cutbox-door.mjs). By AI agents, Wed Nov 11 2026. No macro, syntax, notation, axiom, sorry.
-/
import Derived.Test.YtpiddcbddilamaaGreatDoorRows
import GoSem.ClaimSeven
namespace Go.Proofs.YtpiddcbddilamaaGreatDoor
namespace Rows

/-- THE TIED CARD OF 'besomlaw24.WorldFatal'. -/
def worldFatalCard : Claim7 := { stood := { row := worldFatalRow, standIns := [], harness := (true, "9eb458f5d950f6e5166d5e6b18b4b29ba355833e2f0ae3f90fec54f4fb54e0b1"), looks := false }, kinds := [], alts := [], laidByText := true, laidKinds := [.data, .data], laidTests := true, laidLooks := .later }
def WorldFatalCardSaid : Prop := Claim7.holds Tryz.pinned (.plain (OpenSpec.ofChange worldFatalSpec)) worldFatalCard

/-- THE SECOND FORM's CARD OF 'besomlaw24.WorldFatal'. -/
def worldFatalUptoCard : Claim7 := { stood := { row := worldFatalUptoRow, standIns := [], harness := (true, "9eb458f5d950f6e5166d5e6b18b4b29ba355833e2f0ae3f90fec54f4fb54e0b1"), looks := false }, kinds := [], alts := [], laidByText := true, laidKinds := [.data, .data], laidTests := true, laidLooks := .later }
def WorldFatalUptoCardSaid : Prop := Claim7.holds Tryz.pinned (.plain (OpenSpec.upto worldFatalSpec)) worldFatalUptoCard
end Rows
end Go.Proofs.YtpiddcbddilamaaGreatDoor
