/- The program's tie, fact by fact (after the given text of the tie). -/
import Derived.Test.YtdnehjkbflffcaaGreatDoorRows
import Derived.LaidByTextLater
import Derived.SevenTiedAt
import Derived.LaidSub
import Derived.LaidOnce
import Derived.KernelRfl
set_option autoImplicit false
namespace Go.Proofs.YtdnehjkbflffcaaGreatDoor.un
open Go Go.Proofs Go.Proofs.YtdnehjkbflffcaaGreatDoor
set_option maxRecDepth 100000
set_option maxHeartbeats 0
def vC:List (String × DataW Unit):=[("math/bits.deBruijn32tab",Rows.laid_math_bits_deBruijn32tab),("math/bits.deBruijn64tab",Rows.laid_math_bits_deBruijn64tab),("internal/strconv.uint64pow10",Rows.laid_internal_strconv_uint64pow10),("strconv.ErrRange",Rows.laid_strconv_ErrRange),("strconv.ErrSyntax",Rows.laid_strconv_ErrSyntax)]
def Jl:List LaidKind:=[.data,.data,.data,.sentinel,.sentinel]
theorem t1:Tryz.prog.worded (varsWordLater true)=true:=by kernel_rfl
theorem t2:Tryz.prog.worded (varsWordLater !true)=false:=by kernel_rfl
theorem t3:Tryz.prog.worded rootWordLater=true:=by kernel_rfl
theorem t4:vC.map (λx=>Tryz.prog.kindOfLater x.1)=Jl.map some:=by kernel_rfl
theorem t5:(Tryz.prog.funcNamed "gosem.cut.vars").isSome=true:=by kernel_rfl
end Go.Proofs.YtdnehjkbflffcaaGreatDoor.un
