/- ConsoleFull on the numbers up to 40, part 2. -/
import Derived.Test.YtnahoaefglcnkaaGreatDoorE0
import Derived.KernelRfl
set_option autoImplicit false
namespace Go.Ai
open Go Go.Proofs
set_option maxRecDepth 100000
set_option maxHeartbeats 0
theorem full28 : FullOk 28 := by show fullR (.ofNat 28) = _; kernel_rfl
theorem full29 : FullOk 29 := by show fullR (.ofNat 29) = _; kernel_rfl
theorem full30 : FullOk 30 := by show fullR (.ofNat 30) = _; kernel_rfl
theorem full31 : FullOk 31 := by show fullR (.ofNat 31) = _; kernel_rfl
theorem full32 : FullOk 32 := by show fullR (.ofNat 32) = _; kernel_rfl
theorem full33 : FullOk 33 := by show fullR (.ofNat 33) = _; kernel_rfl
theorem full34 : FullOk 34 := by show fullR (.ofNat 34) = _; kernel_rfl
theorem full35 : FullOk 35 := by show fullR (.ofNat 35) = _; kernel_rfl
theorem full36 : FullOk 36 := by show fullR (.ofNat 36) = _; kernel_rfl
theorem full37 : FullOk 37 := by show fullR (.ofNat 37) = _; kernel_rfl
theorem full38 : FullOk 38 := by show fullR (.ofNat 38) = _; kernel_rfl
theorem full39 : FullOk 39 := by show fullR (.ofNat 39) = _; kernel_rfl
theorem full40 : FullOk 40 := by show fullR (.ofNat 40) = _; kernel_rfl
end Go.Ai
