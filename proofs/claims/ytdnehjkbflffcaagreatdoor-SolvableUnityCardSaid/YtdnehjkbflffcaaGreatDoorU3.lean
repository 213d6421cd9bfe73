/- The program's tie, fact by fact (after the given text of the tie). -/
import Derived.Test.YtdnehjkbflffcaaGreatDoorU1
import Derived.Test.YtdnehjkbflffcaaGreatDoorU2
set_option autoImplicit false
namespace Go.Proofs.YtdnehjkbflffcaaGreatDoor.un
open Go Go.Proofs Go.Proofs.YtdnehjkbflffcaaGreatDoor
set_option maxRecDepth 100000
set_option maxHeartbeats 0
theorem Is:Tryz.prog.laidByTextLater vC Jl true:=Program.laidByTextLater_by_one 62 8 65 t1 t2 t3 t4 t5 t6 t7
theorem zS:Tryz.pinned.checked.prog.headLifts.contains "ownunsafe" = false:=by kernel_rfl
theorem tie:Tryz.prog.laidByTextLater [("math/bits.deBruijn32tab",Rows.laid_math_bits_deBruijn32tab),("math/bits.deBruijn64tab",Rows.laid_math_bits_deBruijn64tab),("internal/strconv.uint64pow10",Rows.laid_internal_strconv_uint64pow10),("strconv.ErrRange",Rows.laid_strconv_ErrRange),("strconv.ErrSyntax",Rows.laid_strconv_ErrSyntax)] [.data,.data,.data,.sentinel,.sentinel] true :=
 Program.laidByTextLater.sub Is ["math/bits.deBruijn32tab", "math/bits.deBruijn64tab", "internal/strconv.uint64pow10", "strconv.ErrRange", "strconv.ErrSyntax"] (by kernel_rfl) (by kernel_rfl)
theorem lp:Rows.solvableUnityRow.laidByTextAt .later Tryz.pinned [.data,.data,.data,.sentinel,.sentinel] true :=
 OpenClaim.laidByTextAt_later rfl rfl tie zS
end Go.Proofs.YtdnehjkbflffcaaGreatDoor.un
