/- The closed facts of the row, part 2. -/
import Derived.Test.YtdnehjkbflffcaaGreatDoorC
import Derived.JoinedOf
import Derived.JoinedCond
import Derived.KernelRfl
set_option autoImplicit false
namespace Go.Proofs.YtdnehjkbflffcaaGreatDoor
open Go Go.Proofs
set_option maxRecDepth 100000
set_option maxHeartbeats 0
theorem j22:((Rows.solvableUnityRow.plainKeys == Tryz.prog.plainKeys))=true:=by kernel_rfl
theorem j24:(Tryz.prog.stopsHeard)=true:=by kernel_rfl
end Go.Proofs.YtdnehjkbflffcaaGreatDoor
