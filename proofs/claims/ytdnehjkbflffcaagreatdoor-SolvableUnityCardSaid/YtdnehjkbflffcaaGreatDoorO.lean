/- The printed functions are the program's. -/
import Derived.Test.YtdnehjkbflffcaaGreatDoorI
import Derived.Test.YtdnehjkbflffcaaGreatDoorProg
set_option linter.unusedVariables false
set_option autoImplicit false
namespace Go.Ai
set_option linter.unusedSectionVars false
variable [Nu]
open Go Go.Proofs
set_option maxRecDepth 100000
set_option maxHeartbeats 0
theorem hD:cK Tryz.prog:=Co (by kernel_rfl)
theorem aed:ac Tryz.prog (ae 326) TD:=BZ ⟨by decide,_,Tryz.func326,by kernel_rfl,by kernel_rfl,by kernel_rfl,by kernel_rfl⟩ λ_=>rfl
theorem abq:ac Tryz.prog (ae 327) Vg:=DL ⟨by decide,_,Tryz.func327,by kernel_rfl,by kernel_rfl,by kernel_rfl,by kernel_rfl⟩ λ_=>rfl
end Go.Ai
