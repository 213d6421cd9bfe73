/- SolvableUnity at some numbers, part 2. -/
import Derived.Test.YtdnehjkbflffcaaGreatDoorM
import Derived.KernelRfl
set_option linter.unusedVariables false
set_option autoImplicit false
namespace Go.Ai
open Go Go.Proofs
set_option maxRecDepth 100000
set_option maxHeartbeats 0
theorem un5:mc (.ofNat 5):=by show Bz _=_;kernel_rfl
theorem un4:mc (.ofNat 4):=by show Bz _=_;kernel_rfl
end Go.Ai
