/- ConsoleExercises on words with a blank. -/
import Derived.Test.YtnahoaefglcnkaaGreatDoorJ
import Derived.KernelRfl
set_option autoImplicit false
namespace Go.Ai
open Go
set_option maxRecDepth 100000
set_option maxHeartbeats 0
theorem sp0 (x : Nat → Nat) : forR 50 (spR x) 0 done = done := by kernel_rfl
end Go.Ai
