/- The functions without a body. -/
import Derived.Test.YtnahoaefglcnkaaGreatDoorA4
import Derived.Test.YtnahoaefglcnkaaGreatDoorI1
import Derived.Test.YtnahoaefglcnkaaGreatDoorProg
import Derived.KernelRfl
set_option autoImplicit false
namespace Go.Ai
set_option linter.unusedSectionVars false
variable [Nu]
open Go Go.Proofs
set_option maxRecDepth 100000
theorem hD : DrawnGood Tryz.prog := drawn_good (by kernel_rfl)
theorem bad_good {P : Program} {p : Path} : IntrGood P p (fun _ _ _ _ => .bad 61) := fun _ _ _ _ => .inl fun _ => ⟨61, rfl⟩
theorem w90 : IntrGood Tryz.prog (pathOf 90) z90 := same_good ⟨by decide, _, Tryz.func90, by kernel_rfl, by kernel_rfl, by kernel_rfl, by kernel_rfl⟩
theorem w258 : IntrGood Tryz.prog (pathOf 258) z258 := count_good ⟨by decide, _, Tryz.func258, by kernel_rfl, by kernel_rfl, by kernel_rfl, by kernel_rfl⟩
theorem w260 : IntrGood Tryz.prog (pathOf 260) z260 := bad_good
theorem w377 : IntrGood Tryz.prog (pathOf 377) z377 := add64_good ⟨by decide, _, Tryz.func377, by kernel_rfl, by kernel_rfl, by kernel_rfl, by kernel_rfl⟩ fun _ => rfl
theorem w380 : IntrGood Tryz.prog (pathOf 380) z380 := sub64_good ⟨by decide, _, Tryz.func380, by kernel_rfl, by kernel_rfl, by kernel_rfl, by kernel_rfl⟩ fun _ => rfl
theorem w386 : IntrGood Tryz.prog (pathOf 386) z386 := index_good ⟨by decide, _, Tryz.func386, by kernel_rfl, by kernel_rfl, by kernel_rfl, by kernel_rfl⟩
theorem w472 : IntrGood Tryz.prog (pathOf 472) z472 := makeRow_good (elem := 5) (t := (Tryz.f472.resultTypes.getD 0 0)) (ps := Tryz.f472.params) ⟨by decide, _, Tryz.func472, by kernel_rfl, by kernel_rfl, by kernel_rfl, by kernel_rfl⟩ (by kernel_rfl) (by decide)
end Go.Ai
