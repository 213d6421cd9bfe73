/- ConsoleFull returns true for every number. -/
import Derived.Test.YtnahoaefglcnkaaGreatDoorE1
import Derived.Test.YtnahoaefglcnkaaGreatDoorE2
import Derived.Test.YtnahoaefglcnkaaGreatDoorE3
set_option autoImplicit false
namespace Go.Ai
open Go Go.Proofs
set_option maxRecDepth 100000
set_option maxHeartbeats 0
theorem full_small : ∀ m : Nat, m < 41 → FullOk (.ofNat m)
  | 0, _ => full0
  | 1, _ => full1
  | 2, _ => full2
  | 3, _ => full3
  | 4, _ => full4
  | 5, _ => full5
  | 6, _ => full6
  | 7, _ => full7
  | 8, _ => full8
  | 9, _ => full9
  | 10, _ => full10
  | 11, _ => full11
  | 12, _ => full12
  | 13, _ => full13
  | 14, _ => full14
  | 15, _ => full15
  | 16, _ => full16
  | 17, _ => full17
  | 18, _ => full18
  | 19, _ => full19
  | 20, _ => full20
  | 21, _ => full21
  | 22, _ => full22
  | 23, _ => full23
  | 24, _ => full24
  | 25, _ => full25
  | 26, _ => full26
  | 27, _ => full27
  | 28, _ => full28
  | 29, _ => full29
  | 30, _ => full30
  | 31, _ => full31
  | 32, _ => full32
  | 33, _ => full33
  | 34, _ => full34
  | 35, _ => full35
  | 36, _ => full36
  | 37, _ => full37
  | 38, _ => full38
  | 39, _ => full39
  | 40, _ => full40
  | m + 41, h => absurd h (by omega)
theorem full_ok : ∀ n : Int, FullOk n
  | .negSucc m => full_neg m
  | .ofNat m => if h : m < 41 then full_small m h else by
    have e : m = (m - 41) + 41 := by omega
    rw [e]; exact full_big (m - 41)
theorem full_known (n : Int) : Known Tryz.prog (pathOf 4) [.int .i64 n] (.bool true) := known_fin C1 rfl rfl (full_ok n)
end Go.Ai
