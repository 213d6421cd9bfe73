/- The chapter's examples, evaluated. ConsoleFull on a number, as the interpreter runs it; numbers that are out of range. -/
import Derived.Test.YtnahoaefglcnkaaGreatDoorT
import Derived.KernelRfl
set_option autoImplicit false
namespace Go.Ai
open Go Go.Proofs
set_option maxRecDepth 100000
set_option maxHeartbeats 0
theorem ev6 : calls (TT s6) 400 (pathOf 6) [] (.mk .leaf .e) (fun v _ => .fin v (.mk .leaf .e)) = .fin (.bool true) (.mk .leaf .e) := by kernel_rfl
theorem K6 : Known Tryz.prog (pathOf 6) [] (.bool true) := known_fin (calls_good hD (TT_ok w6) 400) rfl rfl ev6
/-- the table in which the examples are known -/
noncomputable def T1 : Tb := TT (kn0 (.bool true))
theorem C1 : CallGood Tryz.prog (calls T1 400) := calls_good hD (TT_ok (kn0_good K6)) 400
end Go.Ai
set_option autoImplicit false
namespace Go.Ai
open Go Go.Proofs
set_option maxRecDepth 100000
set_option maxHeartbeats 0
noncomputable def fullR (n : Int) : Res := calls T1 400 (pathOf 4) [.int .i64 n] (.mk .leaf .e) fun v _ => .fin v (.mk .leaf .e)
def FullOk (n : Int) : Prop := fullR n = .fin (.bool true) (.mk .leaf .e)
theorem full_neg (m : Nat) : FullOk (.negSucc m) := by show fullR _ = _; kernel_rfl
theorem full_big (m : Nat) : FullOk (.ofNat (m + 41)) := by show fullR _ = _; kernel_rfl
end Go.Ai
