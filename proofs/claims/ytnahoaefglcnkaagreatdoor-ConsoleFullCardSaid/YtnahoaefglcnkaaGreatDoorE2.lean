/- ConsoleFull on the numbers up to 40, part 1. -/
import Derived.Test.YtnahoaefglcnkaaGreatDoorE0
import Derived.KernelRfl
set_option autoImplicit false
namespace Go.Ai
open Go Go.Proofs
set_option maxRecDepth 100000
set_option maxHeartbeats 0
theorem full14 : FullOk 14 := by show fullR (.ofNat 14) = _; kernel_rfl
theorem full15 : FullOk 15 := by show fullR (.ofNat 15) = _; kernel_rfl
theorem full16 : FullOk 16 := by show fullR (.ofNat 16) = _; kernel_rfl
theorem full17 : FullOk 17 := by show fullR (.ofNat 17) = _; kernel_rfl
theorem full18 : FullOk 18 := by show fullR (.ofNat 18) = _; kernel_rfl
theorem full19 : FullOk 19 := by show fullR (.ofNat 19) = _; kernel_rfl
theorem full20 : FullOk 20 := by show fullR (.ofNat 20) = _; kernel_rfl
theorem full21 : FullOk 21 := by show fullR (.ofNat 21) = _; kernel_rfl
theorem full22 : FullOk 22 := by show fullR (.ofNat 22) = _; kernel_rfl
theorem full23 : FullOk 23 := by show fullR (.ofNat 23) = _; kernel_rfl
theorem full24 : FullOk 24 := by show fullR (.ofNat 24) = _; kernel_rfl
theorem full25 : FullOk 25 := by show fullR (.ofNat 25) = _; kernel_rfl
theorem full26 : FullOk 26 := by show fullR (.ofNat 26) = _; kernel_rfl
theorem full27 : FullOk 27 := by show fullR (.ofNat 27) = _; kernel_rfl
end Go.Ai
