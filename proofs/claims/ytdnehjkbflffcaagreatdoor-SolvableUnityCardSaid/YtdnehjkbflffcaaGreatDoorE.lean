/- The chapter's examples, evaluated. -/
import Derived.Test.YtdnehjkbflffcaaGreatDoorM
import Derived.KernelRfl
set_option linter.unusedVariables false
set_option autoImplicit false
namespace Go.Ai
open Go Go.Proofs
set_option maxRecDepth 100000
set_option maxHeartbeats 0
theorem evA:d6 TA 400 (ae 7) [] (.mk .leaf .e) (λv _=>.fin v (.mk .leaf .e)) = .fin (.bool true) (.mk .leaf .e):=by kernel_rfl
end Go.Ai
