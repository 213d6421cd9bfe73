/-
  DERIVED. GIVEN WITH THE SEED: THE CARDS: each row of YtnahoaefglcnkaaGreatDoorRows.lean that lists a variable, with what it lists TIED to the program's text (the seventh form; the later family's looks); each row that meets fmt, with fmt's text TOLD by the authors' own Lean function (tested against real Go, not proved from fmt's source: count such statements apart). THE CARD IS WHAT COUNTS. Prove the row's statement (the work); the ties are given (YtnahoaefglcnkaaGreatDoorTie.lean); close each card by the builder's one call (the guide's Derived/Test/ToyasCard.lean, 'card_holds'). Laid BY PROGRAM, IN A SANDBOX (cutbox-door.mjs). By AI agents, Wed Nov 11 2026. No macro, syntax, notation, axiom, sorry.
-/
import Derived.Test.YtnahoaefglcnkaaGreatDoorRows
import GoSem.ClaimSeven
namespace Go.Proofs.YtnahoaefglcnkaaGreatDoor
namespace Rows

/-- THE TIED CARD OF 'galoislaw61.ConsoleExercises'. -/
def consoleExercisesCard : Claim7 := { stood := { row := consoleExercisesRow, standIns := [], harness := (true, "90f96365d1c448d14ba55a194a92ce2637ea3cfb03d822dc154e7779407c8b39"), looks := true }, kinds := [], alts := [], laidByText := true, laidKinds := [.data, .data, .data, .data, .sentinel, .sentinel, .pinned], laidTests := true, laidLooks := .later }
def ConsoleExercisesCardSaid : Prop := Claim7.holds Tryz.pinned (.plain (OpenSpec.ofChange consoleExercisesSpec)) consoleExercisesCard

/-- THE TIED CARD OF 'galoislaw61.ConsoleFull'. -/
def consoleFullCard : Claim7 := { stood := { row := consoleFullRow, standIns := [], harness := (true, "90f96365d1c448d14ba55a194a92ce2637ea3cfb03d822dc154e7779407c8b39"), looks := true }, kinds := [], alts := [], laidByText := true, laidKinds := [.data, .data, .data, .data, .sentinel, .sentinel, .pinned], laidTests := true, laidLooks := .later }
def ConsoleFullCardSaid : Prop := Claim7.holds Tryz.pinned (.plain (OpenSpec.ofChange consoleFullSpec)) consoleFullCard

/-- THE SECOND FORM's CARD OF 'galoislaw61.ConsoleExercises'. -/
def consoleExercisesUptoCard : Claim7 := { stood := { row := consoleExercisesUptoRow, standIns := [], harness := (true, "90f96365d1c448d14ba55a194a92ce2637ea3cfb03d822dc154e7779407c8b39"), looks := true }, kinds := [], alts := [], laidByText := true, laidKinds := [.data, .data, .data, .data, .sentinel, .sentinel, .pinned], laidTests := true, laidLooks := .later }
def ConsoleExercisesUptoCardSaid : Prop := Claim7.holds Tryz.pinned (.plain (OpenSpec.upto consoleExercisesSpec)) consoleExercisesUptoCard

/-- THE SECOND FORM's CARD OF 'galoislaw61.ConsoleFull'. -/
def consoleFullUptoCard : Claim7 := { stood := { row := consoleFullUptoRow, standIns := [], harness := (true, "90f96365d1c448d14ba55a194a92ce2637ea3cfb03d822dc154e7779407c8b39"), looks := true }, kinds := [], alts := [], laidByText := true, laidKinds := [.data, .data, .data, .data, .sentinel, .sentinel, .pinned], laidTests := true, laidLooks := .later }
def ConsoleFullUptoCardSaid : Prop := Claim7.holds Tryz.pinned (.plain (OpenSpec.upto consoleFullSpec)) consoleFullUptoCard
end Rows
end Go.Proofs.YtnahoaefglcnkaaGreatDoor
