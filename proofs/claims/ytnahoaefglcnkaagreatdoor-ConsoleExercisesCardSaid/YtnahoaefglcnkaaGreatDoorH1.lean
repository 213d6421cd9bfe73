/- ConsoleExercises on more numbers without a name. -/
import Derived.Test.YtnahoaefglcnkaaGreatDoorJ
import Derived.KernelRfl
set_option autoImplicit false
namespace Go.Ai
open Go
set_option maxRecDepth 100000
set_option maxHeartbeats 0
theorem hi1 : forR 32 hiR 68 done = done := by kernel_rfl
end Go.Ai
