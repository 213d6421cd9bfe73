/- SolvableUnity at some numbers, part 0. -/
import Derived.Test.YtdnehjkbflffcaaGreatDoorM
import Derived.KernelRfl
set_option linter.unusedVariables false
set_option autoImplicit false
namespace Go.Ai
open Go Go.Proofs
set_option maxRecDepth 100000
set_option maxHeartbeats 0
theorem Qf(m:Nat):mc (.negSucc m):=by show Bz _=_;kernel_rfl
theorem Qi(m:Nat):mc (.ofNat (m+13)):=by show Bz _=_;kernel_rfl
theorem un0:mc (.ofNat 0):=by show Bz _=_;kernel_rfl
theorem un7:mc (.ofNat 7):=by show Bz _=_;kernel_rfl
theorem aeB:mc (.ofNat 11):=by show Bz _=_;kernel_rfl
theorem un1:mc (.ofNat 1):=by show Bz _=_;kernel_rfl
theorem un2:mc (.ofNat 2):=by show Bz _=_;kernel_rfl
theorem un3:mc (.ofNat 3):=by show Bz _=_;kernel_rfl
end Go.Ai
