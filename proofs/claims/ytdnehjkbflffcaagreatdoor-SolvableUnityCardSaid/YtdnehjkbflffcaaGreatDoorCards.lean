/-
  DERIVED. GIVEN WITH THE SEED: THE CARDS: each row of YtdnehjkbflffcaaGreatDoorRows.lean that lists a variable, with what it lists TIED to the program's text (the seventh form; the later family's looks); each row that meets fmt, with fmt's text TOLD by the authors' own Lean function (tested against real Go, not proved from fmt's source: count such statements apart). THE CARD IS WHAT COUNTS. Prove the row's statement (the work); the ties are given (YtdnehjkbflffcaaGreatDoorTie.lean); close each card by the builder's one call (the guide's Derived/Test/ToyasCard.lean, 'card_holds'). Laid BY PROGRAM, IN A SANDBOX (cutbox-door.mjs). By AI agents, Wed Nov 11 2026. No macro, syntax, notation, axiom, sorry.
-/
import Derived.Test.YtdnehjkbflffcaaGreatDoorRows
import GoSem.ClaimSeven
namespace Go.Proofs.YtdnehjkbflffcaaGreatDoor
namespace Rows

/-- THE TIED CARD OF 'galoislaw54.SolvableUnity'. -/
def solvableUnityCard : Claim7 := { stood := { row := solvableUnityRow, standIns := [], harness := (true, "6f43aeec9f11058440a700a2d3ab1a3fa981849a38013f6c96c60d0f39d3768c"), looks := true }, kinds := [], alts := [], laidByText := true, laidKinds := [.data, .data, .data, .sentinel, .sentinel], laidTests := true, laidLooks := .later }
def SolvableUnityCardSaid : Prop := Claim7.holds Tryz.pinned (.plain (OpenSpec.ofChange solvableUnitySpec)) solvableUnityCard

/-- THE SECOND FORM's CARD OF 'galoislaw54.SolvableUnity'. -/
def solvableUnityUptoCard : Claim7 := { stood := { row := solvableUnityUptoRow, standIns := [], harness := (true, "6f43aeec9f11058440a700a2d3ab1a3fa981849a38013f6c96c60d0f39d3768c"), looks := true }, kinds := [], alts := [], laidByText := true, laidKinds := [.data, .data, .data, .sentinel, .sentinel], laidTests := true, laidLooks := .later }
def SolvableUnityUptoCardSaid : Prop := Claim7.holds Tryz.pinned (.plain (OpenSpec.upto solvableUnitySpec)) solvableUnityUptoCard
end Rows
end Go.Proofs.YtdnehjkbflffcaaGreatDoor
