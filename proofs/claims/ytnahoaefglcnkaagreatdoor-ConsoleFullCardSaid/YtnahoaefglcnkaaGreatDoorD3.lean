/- The closed facts of the row, part 3. -/
import Derived.Test.YtnahoaefglcnkaaGreatDoorC
import Derived.JoinedOf
import Derived.JoinedCond
import Derived.KernelRfl
set_option autoImplicit false
namespace Go.Proofs.YtnahoaefglcnkaaGreatDoor
open Go Go.Proofs
set_option maxRecDepth 100000
set_option maxHeartbeats 0
theorem j0 : (Rows.consoleFullRow.wf (OpenSpec.ofChange (OpenSpec.ofChange Rows.consoleFullSpec).bare)) = true := by kernel_rfl
theorem j1 : (laidOutB Tryz.prog) = true := laidOut
theorem j3 : (Tryz.f4.params.all (Tryz.prog.readableRec ·)) = true := by kernel_rfl
theorem j4 : (namedTie Tryz.prog Rows.consoleFullRow.named (OpenSpec.ofChange Rows.consoleFullSpec).bare.vars) = true := by kernel_rfl
theorem j5 : ((Rows.consoleFullRow.stops == [])) = true := by kernel_rfl
theorem j6 : ((Tryz.prog.stops == [])) = true := by kernel_rfl
theorem j7 : ((Rows.consoleFullRow.knobs == [])) = true := by kernel_rfl
theorem j8 : ((Tryz.prog.stopKnobs == [])) = true := by kernel_rfl
theorem j10 : ((Rows.consoleFullRow.unfollowed == Tryz.prog.unfollowed 4)) = true := by
  unfold Program.unfollowed
  rw [clos4]
  kernel_rfl
theorem j11 : ((Rows.consoleFullRow.recurses == Tryz.prog.recurses 4)) = true := by
  have h : Tryz.prog.unfollowed 4 = true := (beq_iff_eq.1 j10).symm
  unfold Program.recurses
  rw [h]
  rfl
theorem j13 : ((Rows.consoleFullRow.maps == (Tryz.f4.params.toList ++ (OpenSpec.ofChange Rows.consoleFullSpec).bare.plain.varTypes Tryz.prog).any (Tryz.prog.mapsRec ·))) = true := by kernel_rfl
theorem j14 : ((Rows.consoleFullRow.ifaces == (Tryz.f4.params.toList ++ (OpenSpec.ofChange Rows.consoleFullSpec).bare.plain.varTypes Tryz.prog).any (Tryz.prog.ifacesRec ·))) = true := by kernel_rfl
theorem j15 : ((Rows.consoleFullRow.mapsOut == Tryz.prog.mapsAmong Tryz.f4.resultTypes.toList)) = true := by kernel_rfl
theorem j16 : ((Rows.consoleFullRow.loops == (Tryz.f4.params.toList ++ (OpenSpec.ofChange Rows.consoleFullSpec).bare.plain.varTypes Tryz.prog).any (Tryz.prog.loopsFrom ·))) = true := by kernel_rfl
theorem j17 : ((Rows.consoleFullRow.wideKeys == (Tryz.f4.params.toList ++ (OpenSpec.ofChange Rows.consoleFullSpec).bare.plain.varTypes Tryz.prog ++ Tryz.f4.resultTypes.toList).any (Tryz.prog.wideKeysFrom ·))) = true := by kernel_rfl
theorem j18 : ((OpenSpec.ofChange Rows.consoleFullSpec).bare.vars.all (Tryz.prog.varReadable ·)) = true := by kernel_rfl
theorem j19 : (Tryz.f4.resultTypes.all (fun t => Tryz.prog.readableRec t && decide (t < Tryz.prog.types.size))) = true := by kernel_rfl
theorem j20 : ((Rows.consoleFullRow.ifacesOut == Tryz.f4.resultTypes.toList.any (Tryz.prog.ifacesRec ·))) = true := by kernel_rfl
theorem j21 : ((Rows.consoleFullRow.loopsOut == Tryz.f4.resultTypes.toList.any (Tryz.prog.loopsFrom ·))) = true := by kernel_rfl
theorem j23 : (Rows.consoleFullRow.shortTexts.isNone) = true := by kernel_rfl
theorem j25 : (Tryz.prog.mayEnter) = true := by kernel_rfl
theorem j26 : ((Rows.consoleFullRow.lifted == Tryz.prog.liftsFinal)) = true := by kernel_rfl
theorem j27 : ((Tryz.prog.make == some Rows.consoleFullRow.make)) = true := by kernel_rfl
theorem j28 : ((Rows.consoleFullRow.kinds == (if Rows.consoleFullRow.domain.isEmpty then [] else Tryz.f4.params.toList.map fun t => match Tryz.prog.underlying t with | some (.int k) => some k | _ => none))) = true := by kernel_rfl
theorem j29 : ((Rows.consoleFullRow.pinned == Rows.consoleFullRow.pinnedBy)) = true := by kernel_rfl
theorem j30 : ((Rows.consoleFullRow.veiled == (Tryz.f4.params.toList ++ (OpenSpec.ofChange Rows.consoleFullSpec).bare.plain.varTypes Tryz.prog ++ Tryz.f4.resultTypes.toList).any (Tryz.prog.veiledRec ·))) = true := by kernel_rfl
theorem j31 : (Rows.consoleFullRow.veiledFits Tryz.prog Tryz.f4.params.toList (Tryz.f4.params.toList ++ (OpenSpec.ofChange Rows.consoleFullSpec).bare.plain.varTypes Tryz.prog ++ Tryz.f4.resultTypes.toList)) = true := by kernel_rfl
end Go.Proofs.YtnahoaefglcnkaaGreatDoor
