/- The program's tie, fact by fact (after the given text of the tie). -/
import Derived.Test.YtnahoaefglcnkaaGreatDoorU0
import Derived.KernelRfl
set_option autoImplicit false
namespace Go.Proofs.YtnahoaefglcnkaaGreatDoor.ex
open Go Go.Proofs Go.Proofs.YtnahoaefglcnkaaGreatDoor
set_option maxRecDepth 100000
set_option maxHeartbeats 0
theorem t6 : varsNamedLaterB Tryz.prog (varsId Tryz.prog) laidL = true := by kernel_rfl
end Go.Proofs.YtnahoaefglcnkaaGreatDoor.ex
