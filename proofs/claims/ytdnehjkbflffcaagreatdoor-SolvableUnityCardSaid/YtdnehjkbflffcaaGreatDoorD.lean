/- The closed facts of the row. -/
import Derived.Test.YtdnehjkbflffcaaGreatDoorD0
import Derived.Test.YtdnehjkbflffcaaGreatDoorD1
import Derived.Test.YtdnehjkbflffcaaGreatDoorD2
import Derived.Test.YtdnehjkbflffcaaGreatDoorD3
set_option autoImplicit false
namespace Go.Proofs.YtdnehjkbflffcaaGreatDoor
open Go Go.Proofs
set_option maxRecDepth 100000
set_option maxHeartbeats 0
theorem UV:joinedFacts Tryz.pinned.checked.prog 3 Tryz.f3 (OpenSpec.ofChange Rows.solvableUnitySpec).bare Rows.solvableUnityRow=true:=(Bool.and_eq_true_iff.2 ⟨(Bool.and_eq_true_iff.2 ⟨(Bool.and_eq_true_iff.2 ⟨(Bool.and_eq_true_iff.2 ⟨(Bool.and_eq_true_iff.2 ⟨(Bool.and_eq_true_iff.2 ⟨(Bool.and_eq_true_iff.2 ⟨(Bool.and_eq_true_iff.2 ⟨(Bool.and_eq_true_iff.2 ⟨(Bool.and_eq_true_iff.2 ⟨(Bool.and_eq_true_iff.2 ⟨(Bool.and_eq_true_iff.2 ⟨(Bool.and_eq_true_iff.2 ⟨(Bool.and_eq_true_iff.2 ⟨(Bool.and_eq_true_iff.2 ⟨(Bool.and_eq_true_iff.2 ⟨(Bool.and_eq_true_iff.2 ⟨(Bool.and_eq_true_iff.2 ⟨(Bool.and_eq_true_iff.2 ⟨(Bool.and_eq_true_iff.2 ⟨(Bool.and_eq_true_iff.2 ⟨(Bool.and_eq_true_iff.2 ⟨(Bool.and_eq_true_iff.2 ⟨(Bool.and_eq_true_iff.2 ⟨(Bool.and_eq_true_iff.2 ⟨(Bool.and_eq_true_iff.2 ⟨(Bool.and_eq_true_iff.2 ⟨(Bool.and_eq_true_iff.2 ⟨(Bool.and_eq_true_iff.2 ⟨(Bool.and_eq_true_iff.2 ⟨(Bool.and_eq_true_iff.2 ⟨j0,j1⟩),j2⟩),j3⟩),j4⟩),j5⟩),j6⟩),j7⟩),j8⟩),j9⟩),j10⟩),j11⟩),j12⟩),j13⟩),j14⟩),j15⟩),j16⟩),j17⟩),j18⟩),j19⟩),j20⟩),j21⟩),j22⟩),j23⟩),j24⟩),j25⟩),j26⟩),j27⟩),j28⟩),j29⟩),j30⟩),j31⟩)
end Go.Proofs.YtdnehjkbflffcaaGreatDoor
