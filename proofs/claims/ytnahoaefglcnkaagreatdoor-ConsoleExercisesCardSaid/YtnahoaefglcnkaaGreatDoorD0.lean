/- The closed facts of the row, part 0. -/
import Derived.Test.YtnahoaefglcnkaaGreatDoorC
import Derived.JoinedOf
import Derived.JoinedCond
import Derived.KernelRfl
set_option autoImplicit false
namespace Go.Proofs.YtnahoaefglcnkaaGreatDoor
open Go Go.Proofs
set_option maxRecDepth 100000
set_option maxHeartbeats 0
theorem j12 : ((Rows.consoleExercisesRow.named == Tryz.prog.varsNamed 3)) = true := by
  unfold Program.varsNamed
  rw [clos3]
  kernel_rfl
end Go.Proofs.YtnahoaefglcnkaaGreatDoor
