/- A remembered call, evaluated. -/
import Derived.Test.YtdnehjkbflffcaaGreatDoorM
import Derived.KernelRfl
set_option linter.unusedVariables false
set_option autoImplicit false
namespace Go.Ai
open Go Go.Proofs
set_option maxRecDepth 100000
set_option maxHeartbeats 0
theorem nE2:Sp nA2 = .fin Yu (.mk .leaf .e):=by show Sp _=_;kernel_rfl
end Go.Ai
