/- This text proves that WorldMany answers true on the ideal machine, whatever its arguments. No conditions. -/
import Derived.Test.YtganefjdidncbaaGreatDoorPa
namespace Go.Ideal
set_option maxRecDepth 1000000
theorem first : chk 3 ([.int .i64 0], st) (at_ 0) = true := by kernel_rfl
theorem chunk0 : chk 50 (at_ 0) (at_ 25) = true := by kernel_rfl
theorem chunk1 : chk 50 (at_ 25) (at_ 50) = true := by kernel_rfl
theorem chunk2 : chk 50 (at_ 50) (at_ 75) = true := by kernel_rfl
theorem chunk3 : chk 50 (at_ 75) (at_ 100) = true := by kernel_rfl
theorem chunk4 : chk 50 (at_ 100) (at_ 125) = true := by kernel_rfl
theorem chunk5 : chk 50 (at_ 125) (at_ 150) = true := by kernel_rfl
theorem chunk6 : chk 50 (at_ 150) (at_ 175) = true := by kernel_rfl
theorem chunk7 : chk 50 (at_ 175) (at_ 200) = true := by kernel_rfl
theorem chunk8 : chk 50 (at_ 200) (at_ 225) = true := by kernel_rfl
theorem chunk9 : chk 50 (at_ 225) (at_ 250) = true := by kernel_rfl
end Go.Ideal
