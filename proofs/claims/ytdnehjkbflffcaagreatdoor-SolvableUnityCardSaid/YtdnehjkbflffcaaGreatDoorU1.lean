/- The program's tie, fact by fact (after the given text of the tie). -/
import Derived.Test.YtdnehjkbflffcaaGreatDoorU0
import Derived.KernelRfl
namespace Go.Proofs.YtdnehjkbflffcaaGreatDoor.un
open Go Go.Proofs Go.Proofs.YtdnehjkbflffcaaGreatDoor
set_option maxRecDepth 100000
set_option maxHeartbeats 0
theorem hasB : Tryz.f854.body.isSome = true := by kernel_rfl
noncomputable def codeV : Code := Tryz.f854.body.get hasB
theorem bodyV : (Tryz.prog.funcs[854]?).bind (·.body) = some codeV := by rw [Tryz.func854]; exact (Option.some_get hasB).symm
theorem hasS : (codeV.laysInOrder []).isSome = true := by kernel_rfl
noncomputable def storedV : List Nat := (codeV.laysInOrder []).get hasS
theorem laysV : codeV.laysInOrder [] = some storedV := (Option.some_get hasS).symm
theorem s1 : (storedV.eraseDups.length == storedV.length) = true := by kernel_rfl
theorem s2 : Tryz.prog.callsLaidAlone 854 codeV = true := by kernel_rfl
theorem sh : codeV.storedByHandle Tryz.prog = [] := by kernel_rfl
theorem vid : varsId Tryz.prog = 854 := by kernel_rfl
theorem k0 : Tryz.prog.kindBase "math/bits.deBruijn32tab" = some .data := by kernel_rfl
theorem g0 : Tryz.prog.globalNamed "math/bits.deBruijn32tab" = some 5 := by kernel_rfl
theorem c0 : storedV.contains 5 = true := by kernel_rfl
theorem d0 : callsFit codeV 5 (some .data) = true := by kernel_rfl
theorem k1 : Tryz.prog.kindBase "math/bits.deBruijn64tab" = some .data := by kernel_rfl
theorem g1 : Tryz.prog.globalNamed "math/bits.deBruijn64tab" = some 6 := by kernel_rfl
theorem c1 : storedV.contains 6 = true := by kernel_rfl
theorem d1 : callsFit codeV 6 (some .data) = true := by kernel_rfl
theorem k2 : Tryz.prog.kindBase "internal/strconv.uint64pow10" = some .data := by kernel_rfl
theorem g2 : Tryz.prog.globalNamed "internal/strconv.uint64pow10" = some 4 := by kernel_rfl
theorem c2 : storedV.contains 4 = true := by kernel_rfl
theorem d2 : callsFit codeV 4 (some .data) = true := by kernel_rfl
theorem k3 : Tryz.prog.kindBase "strconv.ErrRange" = some .sentinel := by kernel_rfl
theorem g3 : Tryz.prog.globalNamed "strconv.ErrRange" = some 3 := by kernel_rfl
theorem c3 : storedV.contains 3 = true := by kernel_rfl
theorem d3 : callsFit codeV 3 (some .sentinel) = true := by kernel_rfl
theorem k4 : Tryz.prog.kindBase "strconv.ErrSyntax" = some .sentinel := by kernel_rfl
theorem g4 : Tryz.prog.globalNamed "strconv.ErrSyntax" = some 2 := by kernel_rfl
theorem c4 : storedV.contains 2 = true := by kernel_rfl
theorem d4 : callsFit codeV 2 (some .sentinel) = true := by kernel_rfl
theorem xs : (vC.all fun x => (Tryz.prog.globalNamed x.1).any fun v => (storedV.contains v == (Tryz.prog.kindBase x.1 != some .zero)) && callsFit codeV v (Tryz.prog.kindBase x.1) &&
    ((codeV.storedByHandle Tryz.prog).contains v == (Tryz.prog.kindBase x.1 == some .handle)) && (x.2.handleName?.isSome == (Tryz.prog.kindBase x.1 == some .handle || Tryz.prog.kindBase x.1 == some .funcs)) &&
    (Tryz.prog.kindBase x.1 != some .handle || handlePair x) && (x.2.funcsIn?.isSome == (Tryz.prog.kindBase x.1 == some .funcs)) && mapsFit codeV v x.2 (Tryz.prog.kindBase x.1)) = true := by
  simp only [vC, List.all_cons, List.all_nil, Option.any_some, sh, k0, g0, c0, d0, k1, g1, c1, d1, k2, g2, c2, d2, k3, g3, c3, d3, k4, g4, c4, d4]
  kernel_rfl
theorem t6 : varsNamedLaterB Tryz.prog (varsId Tryz.prog) vC = true := by
  rw [vid]
  unfold varsNamedLaterB
  rw [bodyV]
  simp only [laysV, s1, s2, Bool.and_self, Bool.true_and]
  exact xs
end Go.Proofs.YtdnehjkbflffcaaGreatDoor.un
