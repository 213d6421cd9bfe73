/- What the program's text looks at. -/
import Derived.Test.YtdnehjkbflffcaaGreatDoorCards
import Derived.KernelRfl
set_option maxRecDepth 100000
set_option maxHeartbeats 0
namespace Go.Proofs.YtdnehjkbflffcaaGreatDoor.un
open Go Go.Proofs Go.Proofs.YtdnehjkbflffcaaGreatDoor
theorem looks_is : true = Tryz.pinned.checked.prog.looks [] := by kernel_rfl
end Go.Proofs.YtdnehjkbflffcaaGreatDoor.un
