/- ConsoleExercises on the numbers 9 to 17. -/
import Derived.Test.YtnahoaefglcnkaaGreatDoorJ
import Derived.KernelRfl
set_option autoImplicit false
namespace Go.Ai
open Go
set_option maxRecDepth 100000
set_option maxHeartbeats 0
def names1 : List (List Nat) := [[67,52],[67,52],[86,52],[86,52],[68,52],[68,52],[65,52],[83,52],[83,52]]
theorem lo1 : loAll names1 9 done = done := by kernel_rfl
end Go.Ai
