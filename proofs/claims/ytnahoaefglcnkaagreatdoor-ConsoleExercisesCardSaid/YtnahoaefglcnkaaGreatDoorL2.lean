/- ConsoleExercises on the numbers 18 to 26. -/
import Derived.Test.YtnahoaefglcnkaaGreatDoorJ
import Derived.KernelRfl
set_option autoImplicit false
namespace Go.Ai
open Go
set_option maxRecDepth 100000
set_option maxHeartbeats 0
def names2 : List (List Nat) := [[67,53],[68,53],[70,50,48],[65,53],[83,53],[83,53],[67,54],[67,54],[83,51,40,54,41]]
theorem lo2 : loAll names2 18 done = done := by kernel_rfl
end Go.Ai
