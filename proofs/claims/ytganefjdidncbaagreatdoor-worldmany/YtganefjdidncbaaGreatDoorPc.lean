/- This text proves that WorldMany answers true on the ideal machine, whatever its arguments. No conditions. -/
import Derived.Test.YtganefjdidncbaaGreatDoorPb
namespace Go.Ideal
set_option maxRecDepth 1000000
theorem chunk10 : chk 50 (at_ 250) (at_ 275) = true := by kernel_rfl
theorem chunk11 : chk 50 (at_ 275) (at_ 300) = true := by kernel_rfl
theorem chunk12 : chk 50 (at_ 300) (at_ 325) = true := by kernel_rfl
theorem chunk13 : chk 50 (at_ 325) (at_ 350) = true := by kernel_rfl
theorem chunk14 : chk 50 (at_ 350) (at_ 375) = true := by kernel_rfl
theorem chunk15 : chk 50 (at_ 375) (at_ 400) = true := by kernel_rfl
theorem chunk16 : chk 50 (at_ 400) (at_ 425) = true := by kernel_rfl
theorem chunk17 : chk 50 (at_ 425) (at_ 450) = true := by kernel_rfl
theorem chunk18 : chk 50 (at_ 450) (at_ 475) = true := by kernel_rfl
theorem chunk19 : chk 48 (at_ 475) (at_ 499) = true := by kernel_rfl
end Go.Ideal
