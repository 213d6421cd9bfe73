/- SolvableUnity returns true for every number. -/
import Derived.Test.YtdnehjkbflffcaaGreatDoorM0
import Derived.Test.YtdnehjkbflffcaaGreatDoorM1
import Derived.Test.YtdnehjkbflffcaaGreatDoorM2
import Derived.Test.YtdnehjkbflffcaaGreatDoorE
import Derived.Test.YtdnehjkbflffcaaGreatDoorF0
import Derived.Test.YtdnehjkbflffcaaGreatDoorF1
import Derived.Test.YtdnehjkbflffcaaGreatDoorF2
import Derived.Test.YtdnehjkbflffcaaGreatDoorF3
import Derived.Test.YtdnehjkbflffcaaGreatDoorF4
set_option linter.unusedVariables false
set_option autoImplicit false
namespace Go.Ai
open Go Go.Proofs
set_option maxRecDepth 100000
set_option maxHeartbeats 0
section
variable [Nu]
theorem nK0:jc Tryz.prog (ae 133) nA0 Ys∧Ys.plain=true:=yV (et hD Ki 400) rfl nE0
theorem nK1:jc Tryz.prog (ae 133) Zf YH∧YH.plain=true:=yV (et hD Ki 400) rfl nE1
theorem nK2:jc Tryz.prog (ae 133) nA2 Yu∧Yu.plain=true:=yV (et hD Ki 400) rfl nE2
theorem nKs:∀ m ∈ VJ,jc Tryz.prog (ae 133) m.1 m.2∧m.2.plain=true:=λm hm=>by
 simp only[VJ,List.mem_cons,List.not_mem_nil,or_false]at hm
 rcases hm with rfl|rfl|rfl
 ·exact nK0
 ·exact nK1
 ·exact nK2
theorem nG:ac Tryz.prog (ae 133) (VE VJ (dI Tryz.f133 [0,1,2,4,9,26,8,10,40,39,41,38,13,11,55,6,7])):=HB (m64 Tryz.func133 _) nKs
theorem KA:jc Tryz.prog (ae 7) [] (.bool true):=vL (et hD (Jt (m8 Tryz.func7 _) nG) 400) rfl rfl evA
theorem CU:aC Tryz.prog (d6 TU 400):=et hD (Jt (IX KA) nG) 400
end
theorem KH:∀ m:Nat,m<13→mc (.ofNat m)
 | 0,_=>un0
 | 1,_=>un1
 | 2,_=>un2
 | 3,_=>un3
 | 4,_=>un4
 | 5,_=>un5
 | 6,_=>un6
 | 7,_=>un7
 | 8,_=>un8
 | 9,_=>un9
 | 10,_=>ae4
 | 11,_=>aeB
 | 12,_=>ab6
 | m+13,h=>absurd h (by omega)
theorem RI(n:Int):mc n:=by
 cases n with
 | negSucc m=>exact Qf m
 | ofNat m =>
  by_cases h:m<13
  ·exact KH m h
  ·obtain⟨d,rfl⟩ : ∃ d,m=d+13:=⟨m-13,by omega⟩
   exact Qi d
theorem un_known[Nu](n:Int):jc Tryz.prog (ae 3) [.int .i64 n] (.bool true):=vL CU rfl rfl (RI n)
end Go.Ai
