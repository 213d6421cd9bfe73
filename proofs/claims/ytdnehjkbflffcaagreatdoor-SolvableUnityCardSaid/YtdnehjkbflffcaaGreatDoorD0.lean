/- The closed facts of the row, part 0. -/
import Derived.Test.YtdnehjkbflffcaaGreatDoorC
import Derived.JoinedOf
import Derived.JoinedCond
import Derived.KernelRfl
set_option autoImplicit false
namespace Go.Proofs.YtdnehjkbflffcaaGreatDoor
open Go Go.Proofs
set_option maxRecDepth 100000
set_option maxHeartbeats 0
theorem j12:((Rows.solvableUnityRow.named == Tryz.prog.varsNamed 3))=true:=by
 unfold Program.varsNamed
 rw[Id]
 kernel_rfl
end Go.Proofs.YtdnehjkbflffcaaGreatDoor
