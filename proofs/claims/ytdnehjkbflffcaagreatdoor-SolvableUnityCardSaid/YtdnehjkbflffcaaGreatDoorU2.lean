/- The program's tie, fact by fact (after the given text of the tie). -/
import Derived.Test.YtdnehjkbflffcaaGreatDoorU0
import Derived.KernelRfl
set_option autoImplicit false
namespace Go.Proofs.YtdnehjkbflffcaaGreatDoor.un
open Go Go.Proofs Go.Proofs.YtdnehjkbflffcaaGreatDoor
set_option maxRecDepth 100000
set_option maxHeartbeats 0
theorem t7:∀ os tape,doorLeaves Tryz.prog 62 8 65 vC os tape=some (vC.filter λx=>x.2.handleName?.isNone,(funcsListed vC).map (·.2.funcsOut)):=λ_ _=>by kernel_rfl
end Go.Proofs.YtdnehjkbflffcaaGreatDoor.un
