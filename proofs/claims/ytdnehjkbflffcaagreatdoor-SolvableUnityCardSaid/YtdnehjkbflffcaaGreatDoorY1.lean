/- The law's number. -/
import Derived.Test.YtdnehjkbflffcaaGreatDoorRows
import Derived.KernelRfl
set_option maxRecDepth 100000
set_option maxHeartbeats 0
namespace Go.Proofs.YtdnehjkbflffcaaGreatDoor.un
open Go Go.Proofs Go.Proofs.YtdnehjkbflffcaaGreatDoor
theorem named_is : Tryz.prog.funcNamed "galois/galoislaw54.SolvableUnity" = some 3 := by kernel_rfl
end Go.Proofs.YtdnehjkbflffcaaGreatDoor.un
