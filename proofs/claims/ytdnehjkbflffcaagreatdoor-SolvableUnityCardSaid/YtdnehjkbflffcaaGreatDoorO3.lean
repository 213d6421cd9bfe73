/- The printed functions are the program's, part 3. -/
import Derived.Test.YtdnehjkbflffcaaGreatDoorO
set_option linter.unusedVariables false
set_option autoImplicit false
namespace Go.Ai
set_option linter.unusedSectionVars false
variable [Nu]
open Go Go.Proofs
set_option maxRecDepth 100000
set_option maxHeartbeats 0
theorem YC:ac Tryz.prog (ae 27) Yz:=ag (S:=[q0,q2]) ak hD (by decide) Tryz.func27 (by kernel_rfl) (by kernel_rfl)
theorem Y0:ac Tryz.prog (ae 32) YG:=ag (S:=[q0,q1,q2]) ak hD (by decide) Tryz.func32 (by kernel_rfl) (by kernel_rfl)
theorem w37:ac Tryz.prog (ae 37) s37:=ag (S:=[q0,q1,q2]) ak hD (by decide) Tryz.func37 (by kernel_rfl) (by kernel_rfl)
theorem w60:ac Tryz.prog (ae 60) YN:=ag (S:=[q0,q1,q2,q3,m7,qx,q4,q5]) ak hD (by decide) Tryz.func60 (by kernel_rfl) (by kernel_rfl)
theorem Y3:ac Tryz.prog (ae 64) Y1:=ag (S:=[q0,q1,q2]) ak hD (by decide) Tryz.func64 (by kernel_rfl) (by kernel_rfl)
theorem YO:ac Tryz.prog (ae 75) YS:=ag (S:=[q0,q1,q2]) ak hD (by decide) Tryz.func75 (by kernel_rfl) (by kernel_rfl)
theorem w91:ac Tryz.prog (ae 91) s91:=ag (S:=[q0,q1,q2,q3,q4]) ak hD (by decide) Tryz.func91 (by kernel_rfl) (by kernel_rfl)
theorem ZD:ac Tryz.prog (ae 108) TR:=ag (S:=[q0,q1,q3,q2,q4]) ak hD (by decide) Tryz.func108 (by kernel_rfl) (by kernel_rfl)
theorem aep:ac Tryz.prog (ae 110) UK:=ag (S:=[q0,q1,q6,oZ,q5,q8,q4]) ak hD (by decide) Tryz.func110 (by kernel_rfl) (by kernel_rfl)
theorem ac3:ac Tryz.prog (ae 111) Tc:=ag (S:=[q0,q1,q6,q7,q4,q5]) ak hD (by decide) Tryz.func111 (by kernel_rfl) (by kernel_rfl)
theorem ae5:ac Tryz.prog (ae 132) Uo:=ag (S:=[q0]) ak hD (by decide) Tryz.func132 (by kernel_rfl) (by kernel_rfl)
theorem abi:ac Tryz.prog (ae 173) Ub:=ag (S:=[q0,q2]) ak hD (by decide) Tryz.func173 (by kernel_rfl) (by kernel_rfl)
theorem adr:ac Tryz.prog (ae 177) TW:=ag (S:=[q0,q1,qx,q8,q5,Mq,q7,q6,MM,q9,Yq,q4]) aL hD (by decide) Tryz.func177 (by kernel_rfl) (by kernel_rfl)
theorem Z8:ac Tryz.prog (ae 178) SW:=ag (S:=[q0,q1,q5,q6,q8,YM,m7,LU,q7,q9,oh,q4]) aL hD (by decide) Tryz.func178 (by kernel_rfl) (by kernel_rfl)
theorem acL:ac Tryz.prog (ae 207) U6:=ag (S:=[q0,q1,q2,q3,q4]) ak hD (by decide) Tryz.func207 (by kernel_rfl) (by kernel_rfl)
theorem abN:ac Tryz.prog (ae 218) Xx:=ag (S:=[q0,q1,Hw,KS,q8,LU,q7,q6,q9,m7,mT,yU,Tx,qx,oh,q97,q96,q98,oZ,uS,q4,q5]) aL hD (by decide) Tryz.func218 (by kernel_rfl) (by kernel_rfl)
theorem ae7:ac Tryz.prog (ae 221) S9:=ag (S:=[q0,q1,q5,KS,q4]) ak hD (by decide) Tryz.func221 (by kernel_rfl) (by kernel_rfl)
theorem aaS:ac Tryz.prog (ae 222) Ut:=ag (S:=[q0,q1,q5,DD,oZ,GS,q8,q6,PF,q9,q7,q4]) aL hD (by decide) Tryz.func222 (by kernel_rfl) (by kernel_rfl)
theorem ac9:ac Tryz.prog (ae 229) Ux:=ag (S:=[q0,q1,q2,q3,q4]) ak hD (by decide) Tryz.func229 (by kernel_rfl) (by kernel_rfl)
theorem aee:ac Tryz.prog (ae 231) Tt:=ag (S:=[q0,q1,q2,q3,q4]) ak hD (by decide) Tryz.func231 (by kernel_rfl) (by kernel_rfl)
theorem PW:ac Tryz.prog (ae 234) MH:=ag (S:=[q0,q1,q2,q3,q9,q4]) ak hD (by decide) Tryz.func234 (by kernel_rfl) (by kernel_rfl)
theorem acT:ac Tryz.prog (ae 240) Tp:=ag (S:=[q0,q1,q2,mT,oh,qx,q7,q3,q6]) aL hD (by decide) Tryz.func240 (by kernel_rfl) (by kernel_rfl)
theorem M5:ac Tryz.prog (ae 243) Lr:=ag (S:=[q0,q1,q3,q2]) ak hD (by decide) Tryz.func243 (by kernel_rfl) (by kernel_rfl)
theorem abx:ac Tryz.prog (ae 244) UA:=ag (S:=[q0,q1,q2]) ak hD (by decide) Tryz.func244 (by kernel_rfl) (by kernel_rfl)
theorem aeN:ac Tryz.prog (ae 247) XE:=ag (S:=[q0,q4,q8,q3,q2]) ak hD (by decide) Tryz.func247 (by kernel_rfl) (by kernel_rfl)
theorem Y8:ac Tryz.prog (ae 249) Wf:=ag (S:=[q0,q1,q7,Mq,q6,q8,LU,Q2,Eh,q9,oh,q50,m7,mT,Zp,q70,YY,q71,qx,q4,q5]) aL hD (by decide) Tryz.func249 (by kernel_rfl) (by kernel_rfl)
theorem adq:ac Tryz.prog (ae 298) Tg:=ag (S:=[q0,q4,oh,q5,oZ,q3,q6,LU,q2]) aL hD (by decide) Tryz.func298 (by kernel_rfl) (by kernel_rfl)
theorem Zs:ac Tryz.prog (ae 300) Wo:=ag (S:=[q0,q1,mT,q5,PF,XP,q4]) ak hD (by decide) Tryz.func300 (by kernel_rfl) (by kernel_rfl)
theorem af2:ac Tryz.prog (ae 304) UU:=ag (S:=[q0,q1,q6,m7,q3,q5,q4]) ak hD (by decide) Tryz.func304 (by kernel_rfl) (by kernel_rfl)
theorem aff:ac Tryz.prog (ae 315) Vu:=ag (S:=[q0,q1,q2,q3,q4]) ak hD (by decide) Tryz.func315 (by kernel_rfl) (by kernel_rfl)
theorem abY:ac Tryz.prog (ae 320) VG:=ag (S:=[q0,q3,oZ,q2]) ak hD (by decide) Tryz.func320 (by kernel_rfl) (by kernel_rfl)
theorem aaF:ac Tryz.prog (ae 321) SM:=ag (S:=[q0,q1,m7,oZ,q5,Jj,LU,Yq,q4]) aL hD (by decide) Tryz.func321 (by kernel_rfl) (by kernel_rfl)
theorem aaP:ac Tryz.prog (ae 322) Wh:=ag (S:=[q0,q1,q2,Jj,QA,uN,q8,mT,oh,q9,oZ,m7,DD,qx,RW,q85,GS,ML,yU,Ba,Ka,q6,q7]) aL hD (by decide) Tryz.func322 (by kernel_rfl) (by kernel_rfl)
theorem Nb:ac Tryz.prog (ae 335) Mi:=ag (S:=[q0,q1,q2,q4]) ak hD (by decide) Tryz.func335 (by kernel_rfl) (by kernel_rfl)
theorem ac4:ac Tryz.prog (ae 357) W8:=ag (S:=[q0,q5,q2]) ak hD (by decide) Tryz.func357 (by kernel_rfl) (by kernel_rfl)
theorem ab4:ac Tryz.prog (ae 393) UH:=ag (S:=[q0,q1,qx,mT,yU,oh,q5,q6,q7,q3,q4]) aL hD (by decide) Tryz.func393 (by kernel_rfl) (by kernel_rfl)
theorem Zu:ac Tryz.prog (ae 480) WH:=ag (S:=[q0,q1,q9,q4]) ak hD (by decide) Tryz.func480 (by kernel_rfl) (by kernel_rfl)
theorem aeh:ac Tryz.prog (ae 583) Ty:=ag (S:=[q0,q1,mT,oh,qx,m7,q8,q3,q9,q6,uN,q5,LU,q4]) aL hD (by decide) Tryz.func583 (by kernel_rfl) (by kernel_rfl)
theorem afa:ac Tryz.prog (ae 584) T7:=ag (S:=[q0,q1,q2,q5,q6,q7]) ak hD (by decide) Tryz.func584 (by kernel_rfl) (by kernel_rfl)
theorem adR:ac Tryz.prog (ae 591) W9:=ag (S:=[q0,q1,q2,q3,q4,q8,Hw,q6,q9,m7,q7]) aL hD (by decide) Tryz.func591 (by kernel_rfl) (by kernel_rfl)
theorem ady:ac Tryz.prog (ae 592) TB:=ag (S:=[q0,q1,q3,q2,q4]) ak hD (by decide) Tryz.func592 (by kernel_rfl) (by kernel_rfl)
end Go.Ai
