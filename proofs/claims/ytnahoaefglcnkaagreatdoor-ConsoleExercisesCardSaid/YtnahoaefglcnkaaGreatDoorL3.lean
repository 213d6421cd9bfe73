/- ConsoleExercises on the numbers 27 to 34. -/
import Derived.Test.YtnahoaefglcnkaaGreatDoorJ
import Derived.KernelRfl
set_option autoImplicit false
namespace Go.Ai
open Go
set_option maxRecDepth 100000
set_option maxHeartbeats 0
def names3 : List (List Nat) := [[83,51,40,54,41],[68,54],[65,52,40,54,41],[50,65,52],[83,54],[70,52,50],[80,83,76,40,51,44,50,41],[83,55]]
theorem lo3 : loAll names3 27 done = done := by kernel_rfl
end Go.Ai
