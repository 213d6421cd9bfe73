/- ConsoleFull on the numbers up to 40, part 0. -/
import Derived.Test.YtnahoaefglcnkaaGreatDoorE0
import Derived.KernelRfl
set_option autoImplicit false
namespace Go.Ai
open Go Go.Proofs
set_option maxRecDepth 100000
set_option maxHeartbeats 0
theorem full0 : FullOk 0 := by show fullR (.ofNat 0) = _; kernel_rfl
theorem full1 : FullOk 1 := by show fullR (.ofNat 1) = _; kernel_rfl
theorem full2 : FullOk 2 := by show fullR (.ofNat 2) = _; kernel_rfl
theorem full3 : FullOk 3 := by show fullR (.ofNat 3) = _; kernel_rfl
theorem full4 : FullOk 4 := by show fullR (.ofNat 4) = _; kernel_rfl
theorem full5 : FullOk 5 := by show fullR (.ofNat 5) = _; kernel_rfl
theorem full6 : FullOk 6 := by show fullR (.ofNat 6) = _; kernel_rfl
theorem full7 : FullOk 7 := by show fullR (.ofNat 7) = _; kernel_rfl
theorem full8 : FullOk 8 := by show fullR (.ofNat 8) = _; kernel_rfl
theorem full9 : FullOk 9 := by show fullR (.ofNat 9) = _; kernel_rfl
theorem full10 : FullOk 10 := by show fullR (.ofNat 10) = _; kernel_rfl
theorem full11 : FullOk 11 := by show fullR (.ofNat 11) = _; kernel_rfl
theorem full12 : FullOk 12 := by show fullR (.ofNat 12) = _; kernel_rfl
theorem full13 : FullOk 13 := by show fullR (.ofNat 13) = _; kernel_rfl
end Go.Ai
