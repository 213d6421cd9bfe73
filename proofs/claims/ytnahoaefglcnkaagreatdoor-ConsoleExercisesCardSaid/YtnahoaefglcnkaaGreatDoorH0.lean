/- ConsoleExercises on numbers without a name. -/
import Derived.Test.YtnahoaefglcnkaaGreatDoorJ
import Derived.KernelRfl
set_option autoImplicit false
namespace Go.Ai
open Go
set_option maxRecDepth 100000
set_option maxHeartbeats 0
theorem hi0 : forR 33 hiR 35 done = done := by kernel_rfl
end Go.Ai
