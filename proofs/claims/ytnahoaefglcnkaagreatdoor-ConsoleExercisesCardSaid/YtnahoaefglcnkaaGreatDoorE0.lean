/- The chapter's examples, evaluated: the law's table does what it says. -/
import Derived.Test.YtnahoaefglcnkaaGreatDoorT
import Derived.Test.YtnahoaefglcnkaaGreatDoorJ
import Derived.KernelRfl
set_option autoImplicit false
namespace Go.Ai
set_option linter.unusedSectionVars false
variable [Nu]
open Go Go.Proofs
set_option maxRecDepth 100000
set_option maxHeartbeats 0
theorem ev6 : calls (TT s6) 400 (pathOf 6) [] (.mk .leaf .e) (fun v _ => .fin v (.mk .leaf .e)) = .fin (.bool true) (.mk .leaf .e) := by kernel_rfl
theorem K6 : Known Tryz.prog (pathOf 6) [] (.bool true) := known_fin (calls_good hD (TT_ok w6) 400) rfl rfl ev6
theorem C1 : CallGood Tryz.prog (calls T1 400) := calls_good hD (TT_ok (kn0_good K6)) 400
end Go.Ai
