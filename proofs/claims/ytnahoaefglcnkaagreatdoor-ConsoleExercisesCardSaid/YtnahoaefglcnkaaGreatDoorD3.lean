/- The closed facts of the row, part 3. -/
import Derived.Test.YtnahoaefglcnkaaGreatDoorC
import Derived.JoinedOf
import Derived.JoinedCond
import Derived.KernelRfl
set_option autoImplicit false
namespace Go.Proofs.YtnahoaefglcnkaaGreatDoor
open Go Go.Proofs
set_option maxRecDepth 100000
set_option maxHeartbeats 0
theorem j0 : (Rows.consoleExercisesRow.wf (OpenSpec.ofChange (OpenSpec.ofChange Rows.consoleExercisesSpec).bare)) = true := by kernel_rfl
theorem j1 : (laidOutB Tryz.prog) = true := laidOut
theorem j3 : (Tryz.f3.params.all (Tryz.prog.readableRec ·)) = true := by kernel_rfl
theorem j4 : (namedTie Tryz.prog Rows.consoleExercisesRow.named (OpenSpec.ofChange Rows.consoleExercisesSpec).bare.vars) = true := by kernel_rfl
theorem j5 : ((Rows.consoleExercisesRow.stops == [])) = true := by kernel_rfl
theorem j6 : ((Tryz.prog.stops == [])) = true := by kernel_rfl
theorem j7 : ((Rows.consoleExercisesRow.knobs == [])) = true := by kernel_rfl
theorem j8 : ((Tryz.prog.stopKnobs == [])) = true := by kernel_rfl
theorem j10 : ((Rows.consoleExercisesRow.unfollowed == Tryz.prog.unfollowed 3)) = true := by
  unfold Program.unfollowed
  rw [clos3]
  kernel_rfl
theorem j11 : ((Rows.consoleExercisesRow.recurses == Tryz.prog.recurses 3)) = true := by
  have h : Tryz.prog.unfollowed 3 = true := (beq_iff_eq.1 j10).symm
  unfold Program.recurses
  rw [h]
  rfl
theorem j13 : ((Rows.consoleExercisesRow.maps == (Tryz.f3.params.toList ++ (OpenSpec.ofChange Rows.consoleExercisesSpec).bare.plain.varTypes Tryz.prog).any (Tryz.prog.mapsRec ·))) = true := by kernel_rfl
theorem j14 : ((Rows.consoleExercisesRow.ifaces == (Tryz.f3.params.toList ++ (OpenSpec.ofChange Rows.consoleExercisesSpec).bare.plain.varTypes Tryz.prog).any (Tryz.prog.ifacesRec ·))) = true := by kernel_rfl
theorem j15 : ((Rows.consoleExercisesRow.mapsOut == Tryz.prog.mapsAmong Tryz.f3.resultTypes.toList)) = true := by kernel_rfl
theorem j16 : ((Rows.consoleExercisesRow.loops == (Tryz.f3.params.toList ++ (OpenSpec.ofChange Rows.consoleExercisesSpec).bare.plain.varTypes Tryz.prog).any (Tryz.prog.loopsFrom ·))) = true := by kernel_rfl
theorem j17 : ((Rows.consoleExercisesRow.wideKeys == (Tryz.f3.params.toList ++ (OpenSpec.ofChange Rows.consoleExercisesSpec).bare.plain.varTypes Tryz.prog ++ Tryz.f3.resultTypes.toList).any (Tryz.prog.wideKeysFrom ·))) = true := by kernel_rfl
theorem j18 : ((OpenSpec.ofChange Rows.consoleExercisesSpec).bare.vars.all (Tryz.prog.varReadable ·)) = true := by kernel_rfl
theorem j19 : (Tryz.f3.resultTypes.all (fun t => Tryz.prog.readableRec t && decide (t < Tryz.prog.types.size))) = true := by kernel_rfl
theorem j20 : ((Rows.consoleExercisesRow.ifacesOut == Tryz.f3.resultTypes.toList.any (Tryz.prog.ifacesRec ·))) = true := by kernel_rfl
theorem j21 : ((Rows.consoleExercisesRow.loopsOut == Tryz.f3.resultTypes.toList.any (Tryz.prog.loopsFrom ·))) = true := by kernel_rfl
theorem j23 : (Rows.consoleExercisesRow.shortTexts.isNone) = true := by kernel_rfl
theorem j25 : (Tryz.prog.mayEnter) = true := by kernel_rfl
theorem j26 : ((Rows.consoleExercisesRow.lifted == Tryz.prog.liftsFinal)) = true := by kernel_rfl
theorem j27 : ((Tryz.prog.make == some Rows.consoleExercisesRow.make)) = true := by kernel_rfl
theorem j28 : ((Rows.consoleExercisesRow.kinds == (if Rows.consoleExercisesRow.domain.isEmpty then [] else Tryz.f3.params.toList.map fun t => match Tryz.prog.underlying t with | some (.int k) => some k | _ => none))) = true := by kernel_rfl
theorem j29 : ((Rows.consoleExercisesRow.pinned == Rows.consoleExercisesRow.pinnedBy)) = true := by kernel_rfl
theorem j30 : ((Rows.consoleExercisesRow.veiled == (Tryz.f3.params.toList ++ (OpenSpec.ofChange Rows.consoleExercisesSpec).bare.plain.varTypes Tryz.prog ++ Tryz.f3.resultTypes.toList).any (Tryz.prog.veiledRec ·))) = true := by kernel_rfl
theorem j31 : (Rows.consoleExercisesRow.veiledFits Tryz.prog Tryz.f3.params.toList (Tryz.f3.params.toList ++ (OpenSpec.ofChange Rows.consoleExercisesSpec).bare.plain.varTypes Tryz.prog ++ Tryz.f3.resultTypes.toList)) = true := by kernel_rfl
end Go.Proofs.YtnahoaefglcnkaaGreatDoor
