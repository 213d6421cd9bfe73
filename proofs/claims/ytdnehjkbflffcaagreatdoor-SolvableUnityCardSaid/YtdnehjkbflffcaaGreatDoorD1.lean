/- The closed facts of the row, part 1. -/
import Derived.Test.YtdnehjkbflffcaaGreatDoorC
import Derived.JoinedOf
import Derived.JoinedCond
import Derived.KernelRfl
set_option autoImplicit false
namespace Go.Proofs.YtdnehjkbflffcaaGreatDoor
open Go Go.Proofs
set_option maxRecDepth 100000
set_option maxHeartbeats 0
theorem j2:(mapsRowed Tryz.prog)=true:=by kernel_rfl
theorem j9:((Rows.solvableUnityRow.inPlace == Tryz.prog.inPlace 3))=true:=by
 unfold Program.inPlace
 rw[Id]
 kernel_rfl
end Go.Proofs.YtdnehjkbflffcaaGreatDoor
