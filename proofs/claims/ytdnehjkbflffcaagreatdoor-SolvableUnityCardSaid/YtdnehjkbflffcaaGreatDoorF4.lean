/- SolvableUnity at some numbers, part 4. -/
import Derived.Test.YtdnehjkbflffcaaGreatDoorM
import Derived.KernelRfl
set_option linter.unusedVariables false
set_option autoImplicit false
namespace Go.Ai
open Go Go.Proofs
set_option maxRecDepth 100000
set_option maxHeartbeats 0
theorem ab6:mc (.ofNat 12):=by show Bz _=_;kernel_rfl
theorem un8:mc (.ofNat 8):=by show Bz _=_;kernel_rfl
end Go.Ai
