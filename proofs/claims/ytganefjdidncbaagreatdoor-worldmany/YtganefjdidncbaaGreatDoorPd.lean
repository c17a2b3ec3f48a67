/- This text proves that WorldMany answers true on the ideal machine, whatever its arguments. No conditions. -/
import Derived.Test.YtganefjdidncbaaGreatDoorPc
namespace Go.Ideal
set_option maxRecDepth 1000000
def loopN (n : Nat) (x : List Value × IHeap) : Option (J × IHeap) := iloop (Body (F7 1100) (F8 1100) 0 w195) n x.1 x.2
theorem step {k n m : Nat} {x y : List Value × IHeap} (h : k + n = m) (hc : chk k x y = true) : loopN m x = loopN n y := by
  subst h
  exact rounds_loop (chk_rounds hc)
theorem last : isOk (.bool true) (TailF (F9 1100) 0 w195 (.bool true) (loopN 99 (at_ 499))) = true := by kernel_rfl
theorem all : loopN 1100 ([.int .i64 0], st) = loopN 99 (at_ 499) :=
  (step (n := 1097) rfl first).trans <|
  (step (n := 1047) rfl chunk0).trans <|
  (step (n := 997) rfl chunk1).trans <|
  (step (n := 947) rfl chunk2).trans <|
  (step (n := 897) rfl chunk3).trans <|
  (step (n := 847) rfl chunk4).trans <|
  (step (n := 797) rfl chunk5).trans <|
  (step (n := 747) rfl chunk6).trans <|
  (step (n := 697) rfl chunk7).trans <|
  (step (n := 647) rfl chunk8).trans <|
  (step (n := 597) rfl chunk9).trans <|
  (step (n := 547) rfl chunk10).trans <|
  (step (n := 497) rfl chunk11).trans <|
  (step (n := 447) rfl chunk12).trans <|
  (step (n := 397) rfl chunk13).trans <|
  (step (n := 347) rfl chunk14).trans <|
  (step (n := 297) rfl chunk15).trans <|
  (step (n := 247) rfl chunk16).trans <|
  (step (n := 197) rfl chunk17).trans <|
  (step (n := 147) rfl chunk18).trans <|
  (step (n := 99) rfl chunk19)
theorem f3_out : ∃ H', F3 1100 0 (.bool true) ⟨0, .nil⟩ = some (.bool true, H') := by
  obtain ⟨H, h⟩ := isOk_some last
  rw [← all] at h
  exact ⟨H, (red 1100 (F9 1100)).trans h⟩
theorem f3_plain : isOk (.bool true) (F3 1100 0 (.bool false) ⟨0, .nil⟩) = true := by kernel_rfl
def fuel : Nat := 1100
theorem G3_eq (N lim : Nat) (v : Value) (H : IHeap) : G3 N lim [v] H = F3 N lim v H := rfl
theorem f3_all (a0 : Bool) : ∃ H', F3 1100 0 (.bool a0) ⟨0, .nil⟩ = some (.bool true, H') := by
  cases a0
  · exact isOk_some f3_plain
  · exact f3_out
theorem law_true (a0 : Bool) : ∃ H', G3 fuel 0 [.bool a0] ⟨0, .nil⟩ = some (.bool true, H') := by
  obtain ⟨H, h⟩ := f3_all a0
  exact ⟨H, (G3_eq 1100 0 (.bool a0) ⟨0, .nil⟩).trans h⟩
end Go.Ideal
