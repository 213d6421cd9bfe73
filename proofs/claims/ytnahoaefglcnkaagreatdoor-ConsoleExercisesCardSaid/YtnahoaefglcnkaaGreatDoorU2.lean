/- The program's tie, fact by fact (after the given text of the tie). -/
import Derived.Test.YtnahoaefglcnkaaGreatDoorU0
import Derived.KernelRfl
set_option autoImplicit false
namespace Go.Proofs.YtnahoaefglcnkaaGreatDoor.ex
open Go Go.Proofs Go.Proofs.YtnahoaefglcnkaaGreatDoor
set_option maxRecDepth 100000
set_option maxHeartbeats 0
theorem t7 : ∀ os tape, doorLeaves Tryz.prog 72 8 65 laidL os tape = some (laidL.filter fun x => x.2.handleName?.isNone, (funcsListed laidL).map (·.2.funcsOut)) := fun _ _ => by kernel_rfl
end Go.Proofs.YtnahoaefglcnkaaGreatDoor.ex
