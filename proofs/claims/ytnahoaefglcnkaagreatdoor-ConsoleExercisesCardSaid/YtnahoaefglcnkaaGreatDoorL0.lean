/- ConsoleExercises on the numbers 0 to 8. -/
import Derived.Test.YtnahoaefglcnkaaGreatDoorJ
import Derived.KernelRfl
set_option autoImplicit false
namespace Go.Ai
open Go
set_option maxRecDepth 100000
set_option maxHeartbeats 0
def names0 : List (List Nat) := [[67,49],[67,50],[67,50],[67,50],[67,50],[67,51],[67,51],[83,51],[83,51]]
theorem lo0 : loAll names0 0 done = done := by kernel_rfl
end Go.Ai
