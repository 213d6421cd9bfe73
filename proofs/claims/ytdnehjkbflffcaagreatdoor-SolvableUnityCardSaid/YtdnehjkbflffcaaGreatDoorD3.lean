/- The closed facts of the row, part 3. -/
import Derived.Test.YtdnehjkbflffcaaGreatDoorC
import Derived.JoinedOf
import Derived.JoinedCond
import Derived.KernelRfl
set_option autoImplicit false
namespace Go.Proofs.YtdnehjkbflffcaaGreatDoor
open Go Go.Proofs
set_option maxRecDepth 100000
set_option maxHeartbeats 0
theorem j0:(Rows.solvableUnityRow.wf (OpenSpec.ofChange (OpenSpec.ofChange Rows.solvableUnitySpec).bare))=true:=by kernel_rfl
theorem j1:(laidOutB Tryz.prog)=true:=MJ
theorem j3:(Tryz.f3.params.all (Tryz.prog.readableRec ·))=true:=by kernel_rfl
theorem j4:(namedTie Tryz.prog Rows.solvableUnityRow.named (OpenSpec.ofChange Rows.solvableUnitySpec).bare.vars)=true:=by kernel_rfl
theorem j5:((Rows.solvableUnityRow.stops == []))=true:=by kernel_rfl
theorem j6:((Tryz.prog.stops == []))=true:=by kernel_rfl
theorem j7:((Rows.solvableUnityRow.knobs == []))=true:=by kernel_rfl
theorem j8:((Tryz.prog.stopKnobs == []))=true:=by kernel_rfl
theorem j10:((Rows.solvableUnityRow.unfollowed == Tryz.prog.unfollowed 3))=true:=by
 unfold Program.unfollowed
 rw[Id]
 kernel_rfl
theorem j11:((Rows.solvableUnityRow.recurses == Tryz.prog.recurses 3))=true:=by
 have h:Tryz.prog.unfollowed 3=true:=(beq_iff_eq.1 j10).symm
 unfold Program.recurses
 rw[h]
 rfl
theorem j13:((Rows.solvableUnityRow.maps == (Tryz.f3.params.toList++(OpenSpec.ofChange Rows.solvableUnitySpec).bare.plain.varTypes Tryz.prog).any (Tryz.prog.mapsRec ·)))=true:=by kernel_rfl
theorem j14:((Rows.solvableUnityRow.ifaces == (Tryz.f3.params.toList++(OpenSpec.ofChange Rows.solvableUnitySpec).bare.plain.varTypes Tryz.prog).any (Tryz.prog.ifacesRec ·)))=true:=by kernel_rfl
theorem j15:((Rows.solvableUnityRow.mapsOut == Tryz.prog.mapsAmong Tryz.f3.resultTypes.toList))=true:=by kernel_rfl
theorem j16:((Rows.solvableUnityRow.loops == (Tryz.f3.params.toList++(OpenSpec.ofChange Rows.solvableUnitySpec).bare.plain.varTypes Tryz.prog).any (Tryz.prog.loopsFrom ·)))=true:=by kernel_rfl
theorem j17:((Rows.solvableUnityRow.wideKeys == (Tryz.f3.params.toList++(OpenSpec.ofChange Rows.solvableUnitySpec).bare.plain.varTypes Tryz.prog++Tryz.f3.resultTypes.toList).any (Tryz.prog.wideKeysFrom ·)))=true:=by kernel_rfl
theorem j18:((OpenSpec.ofChange Rows.solvableUnitySpec).bare.vars.all (Tryz.prog.varReadable ·))=true:=by kernel_rfl
theorem j19:(Tryz.f3.resultTypes.all (λt=>Tryz.prog.readableRec t&&decide (t<Tryz.prog.types.size)))=true:=by kernel_rfl
theorem j20:((Rows.solvableUnityRow.ifacesOut == Tryz.f3.resultTypes.toList.any (Tryz.prog.ifacesRec ·)))=true:=by kernel_rfl
theorem j21:((Rows.solvableUnityRow.loopsOut == Tryz.f3.resultTypes.toList.any (Tryz.prog.loopsFrom ·)))=true:=by kernel_rfl
theorem j23:(Rows.solvableUnityRow.shortTexts.isNone)=true:=by kernel_rfl
theorem j25:(Tryz.prog.mayEnter)=true:=by kernel_rfl
theorem j26:((Rows.solvableUnityRow.lifted == Tryz.prog.liftsFinal))=true:=by kernel_rfl
theorem j27:((Tryz.prog.make == some Rows.solvableUnityRow.make))=true:=by kernel_rfl
theorem j28:((Rows.solvableUnityRow.kinds == (if Rows.solvableUnityRow.domain.isEmpty then [] else Tryz.f3.params.toList.map λt=>match Tryz.prog.underlying t with | some (.int k)=>some k | _=>none)))=true:=by kernel_rfl
theorem j29:((Rows.solvableUnityRow.pinned == Rows.solvableUnityRow.pinnedBy))=true:=by kernel_rfl
theorem j30:((Rows.solvableUnityRow.veiled == (Tryz.f3.params.toList++(OpenSpec.ofChange Rows.solvableUnitySpec).bare.plain.varTypes Tryz.prog++Tryz.f3.resultTypes.toList).any (Tryz.prog.veiledRec ·)))=true:=by kernel_rfl
theorem j31:(Rows.solvableUnityRow.veiledFits Tryz.prog Tryz.f3.params.toList (Tryz.f3.params.toList++(OpenSpec.ofChange Rows.solvableUnitySpec).bare.plain.varTypes Tryz.prog++Tryz.f3.resultTypes.toList))=true:=by kernel_rfl
end Go.Proofs.YtdnehjkbflffcaaGreatDoor
