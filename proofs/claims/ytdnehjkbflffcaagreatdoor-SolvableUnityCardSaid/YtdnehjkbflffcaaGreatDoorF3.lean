/- SolvableUnity at some numbers, part 3. -/
import Derived.Test.YtdnehjkbflffcaaGreatDoorM
import Derived.KernelRfl
set_option linter.unusedVariables false
set_option autoImplicit false
namespace Go.Ai
open Go Go.Proofs
set_option maxRecDepth 100000
set_option maxHeartbeats 0
theorem ae4:mc (.ofNat 10):=by show Bz _=_;kernel_rfl
theorem un6:mc (.ofNat 6):=by show Bz _=_;kernel_rfl
end Go.Ai
