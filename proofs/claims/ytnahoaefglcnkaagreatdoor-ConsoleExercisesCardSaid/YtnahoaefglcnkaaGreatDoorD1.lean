/- The closed facts of the row, part 1. -/
import Derived.Test.YtnahoaefglcnkaaGreatDoorC
import Derived.JoinedOf
import Derived.JoinedCond
import Derived.KernelRfl
set_option autoImplicit false
namespace Go.Proofs.YtnahoaefglcnkaaGreatDoor
open Go Go.Proofs
set_option maxRecDepth 100000
set_option maxHeartbeats 0
theorem j2 : (mapsRowed Tryz.prog) = true := by kernel_rfl
theorem j9 : ((Rows.consoleExercisesRow.inPlace == Tryz.prog.inPlace 3)) = true := by
  unfold Program.inPlace
  rw [clos3]
  kernel_rfl
end Go.Proofs.YtnahoaefglcnkaaGreatDoor
