/- SolvableUnity at some numbers, part 1. -/
import Derived.Test.YtdnehjkbflffcaaGreatDoorM
import Derived.KernelRfl
set_option linter.unusedVariables false
set_option autoImplicit false
namespace Go.Ai
open Go Go.Proofs
set_option maxRecDepth 100000
set_option maxHeartbeats 0
theorem un9:mc (.ofNat 9):=by show Bz _=_;kernel_rfl
end Go.Ai
