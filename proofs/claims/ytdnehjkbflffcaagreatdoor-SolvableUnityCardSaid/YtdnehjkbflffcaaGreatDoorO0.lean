/- The printed functions are the program's, part 0. -/
import Derived.Test.YtdnehjkbflffcaaGreatDoorO
set_option linter.unusedVariables false
set_option autoImplicit false
namespace Go.Ai
set_option linter.unusedSectionVars false
variable [Nu]
open Go Go.Proofs
set_option maxRecDepth 100000
set_option maxHeartbeats 0
theorem w17:ac Tryz.prog (ae 17) s17:=ag (S:=[q0,q1,q6,DD,PF,Mq,KS,q8,Tw,q7,q5,q4]) aL hD (by decide) Tryz.func17 (by kernel_rfl) (by kernel_rfl)
theorem w56:ac Tryz.prog (ae 56) ZC:=ag (S:=[q0,q1,q2,q3,q5,mT,q4]) ak hD (by decide) Tryz.func56 (by kernel_rfl) (by kernel_rfl)
theorem w74:ac Tryz.prog (ae 74) s74:=ag (S:=[q0,q1,q3,q4,oh,KS,uN,LU,q2]) aL hD (by decide) Tryz.func74 (by kernel_rfl) (by kernel_rfl)
theorem w89:ac Tryz.prog (ae 89) s89:=ag (S:=[q0,q1,q2]) ak hD (by decide) Tryz.func89 (by kernel_rfl) (by kernel_rfl)
theorem w90:ac Tryz.prog (ae 90) s90:=ag (S:=[q0,q1,q2,q3,q9,q4,KS]) ak hD (by decide) Tryz.func90 (by kernel_rfl) (by kernel_rfl)
theorem w93:ac Tryz.prog (ae 93) s93:=ag (S:=[q0,q1,q3,mT,q4,q2,q5,q6,q8]) aL hD (by decide) Tryz.func93 (by kernel_rfl) (by kernel_rfl)
theorem w95:ac Tryz.prog (ae 95) s95:=ag (S:=[q0,q1,GS,Jj,uN,q2]) ak hD (by decide) Tryz.func95 (by kernel_rfl) (by kernel_rfl)
theorem adP:ac Tryz.prog (ae 112) Uw:=ag (S:=[q0,q1,q4]) ak hD (by decide) Tryz.func112 (by kernel_rfl) (by kernel_rfl)
theorem abS:ac Tryz.prog (ae 113) SU:=ag (S:=[q0,q2]) ak hD (by decide) Tryz.func113 (by kernel_rfl) (by kernel_rfl)
theorem aes:ac Tryz.prog (ae 115) Xj:=ag (S:=[q0,q1,q4]) ak hD (by decide) Tryz.func115 (by kernel_rfl) (by kernel_rfl)
theorem W4:ac Tryz.prog (ae 116) Qo:=ag (S:=[q0,q1,q2,q3,q4]) ak hD (by decide) Tryz.func116 (by kernel_rfl) (by kernel_rfl)
theorem acq:ac Tryz.prog (ae 119) U4:=ag (S:=[q0,q1,q2,q3,q4,QA,q9,m7,qx,OR,Lq,Yx,yU,mT,q68,Zp,YY,oZ,R7,oh,RW,q77,q79,DD,q86,GS,Xu,WS,aaO,Z7,CY,Zb,Hw,acG,ML,afi,Q8,XS,TV,Jj,PF,q8]) aL hD (by decide) Tryz.func119 (by kernel_rfl) (by kernel_rfl)
theorem adl:ac Tryz.prog (ae 120) Tj:=ag (S:=[q0,q1,q5,DD,oZ,GS,q7,q6,q4]) aL hD (by decide) Tryz.func120 (by kernel_rfl) (by kernel_rfl)
theorem aaR:ac Tryz.prog (ae 130) SJ:=ag (S:=[q0,q1,q2,q3,q4]) ak hD (by decide) Tryz.func130 (by kernel_rfl) (by kernel_rfl)
theorem Zg:ac Tryz.prog (ae 139) Vh:=ag (S:=[q0,q1,q3,q8,mT,q2]) ak hD (by decide) Tryz.func139 (by kernel_rfl) (by kernel_rfl)
theorem abc:ac Tryz.prog (ae 140) VR:=ag (S:=[q0,m7,qx,q2]) ak hD (by decide) Tryz.func140 (by kernel_rfl) (by kernel_rfl)
theorem LK:ac Tryz.prog (ae 146) Mg:=ag (S:=[q0,q1,q2]) ak hD (by decide) Tryz.func146 (by kernel_rfl) (by kernel_rfl)
theorem ac7:ac Tryz.prog (ae 181) SR:=ag (S:=[q0,q1,q3,q6,q2]) ak hD (by decide) Tryz.func181 (by kernel_rfl) (by kernel_rfl)
theorem aen:ac Tryz.prog (ae 183) Wp:=ag (S:=[q0,q2]) ak hD (by decide) Tryz.func183 (by kernel_rfl) (by kernel_rfl)
theorem ab7:ac Tryz.prog (ae 186) VC:=ag (S:=[q0,q3,q7,oZ,q2]) ak hD (by decide) Tryz.func186 (by kernel_rfl) (by kernel_rfl)
theorem abn:ac Tryz.prog (ae 210) Yc:=ag (S:=[q0,q1,q2]) ak hD (by decide) Tryz.func210 (by kernel_rfl) (by kernel_rfl)
theorem Z4:ac Tryz.prog (ae 220) Xz:=ag (S:=[q0,q1,q5,q6,Hw,MM,uN,Rq,q9,YZ,q7,m7,q8,q4]) aL hD (by decide) Tryz.func220 (by kernel_rfl) (by kernel_rfl)
theorem M7:ac Tryz.prog (ae 225) Lk:=ag (S:=[q0,q1,q3,q2,q4]) ak hD (by decide) Tryz.func225 (by kernel_rfl) (by kernel_rfl)
theorem aaA:ac Tryz.prog (ae 230) Vf:=ag (S:=[q0,q1,q3,q2,q4]) ak hD (by decide) Tryz.func230 (by kernel_rfl) (by kernel_rfl)
theorem Mk:ac Tryz.prog (ae 232) Nj:=ag (S:=[q0,q1,q2]) ak hD (by decide) Tryz.func232 (by kernel_rfl) (by kernel_rfl)
theorem acy:ac Tryz.prog (ae 233) Yd:=ag (S:=[q0,q1,q2]) ak hD (by decide) Tryz.func233 (by kernel_rfl) (by kernel_rfl)
theorem af1:ac Tryz.prog (ae 239) T4:=ag (S:=[q0,q1,q2,q4,yU,q6,ZJ,q8,Q2,q7,m7,q42,q9,mT,oh,q54]) aL hD (by decide) Tryz.func239 (by kernel_rfl) (by kernel_rfl)
theorem aaM:ac Tryz.prog (ae 250) XM:=ag (S:=[q0,q1,q5,oZ,yU,DD,q6,q4]) ak hD (by decide) Tryz.func250 (by kernel_rfl) (by kernel_rfl)
theorem Tr:ac Tryz.prog (ae 253) Re:=ag (S:=[q0,q1,q2,q3,q9,oh,qx,q4]) ak hD (by decide) Tryz.func253 (by kernel_rfl) (by kernel_rfl)
theorem aeI:ac Tryz.prog (ae 317) XJ:=ag (S:=[q0,q1,q2]) ak hD (by decide) Tryz.func317 (by kernel_rfl) (by kernel_rfl)
theorem abQ:ac Tryz.prog (ae 323) WY:=ag (S:=[q0,q2]) ak hD (by decide) Tryz.func323 (by kernel_rfl) (by kernel_rfl)
theorem ZE:ac Tryz.prog (ae 328) UI:=ag (S:=[q0,q1,q6,q8,q7,m7,oh,mT,q9,qx,q4,q5]) aL hD (by decide) Tryz.func328 (by kernel_rfl) (by kernel_rfl)
theorem LB:ac Tryz.prog (ae 331) N0:=ag (S:=[q0,q1,q2,q3,q5,Eh,XP,q7,q6,q4]) aL hD (by decide) Tryz.func331 (by kernel_rfl) (by kernel_rfl)
theorem Nk:ac Tryz.prog (ae 332) NW:=ag (S:=[q0,q1,q2,q3,q4]) ak hD (by decide) Tryz.func332 (by kernel_rfl) (by kernel_rfl)
theorem Zy:ac Tryz.prog (ae 333) W5:=ag (S:=[q0,q1,q2,q3,q4,q5,q6]) ak hD (by decide) Tryz.func333 (by kernel_rfl) (by kernel_rfl)
theorem Zh:ac Tryz.prog (ae 356) Ud:=ag (S:=[q0,q3,oZ,q2]) ak hD (by decide) Tryz.func356 (by kernel_rfl) (by kernel_rfl)
theorem adI:ac Tryz.prog (ae 446) XO:=ag (S:=[q0,q1,q2,q3,q5,q6,oh,oZ,Hw,q4]) aL hD (by decide) Tryz.func446 (by kernel_rfl) (by kernel_rfl)
theorem NZ:ac Tryz.prog (ae 453) Lo:=ag (S:=[q0,q1,q2]) ak hD (by decide) Tryz.func453 (by kernel_rfl) (by kernel_rfl)
theorem abH:ac Tryz.prog (ae 465) UR:=ag (S:=[q0,q1,q2,q4]) ak hD (by decide) Tryz.func465 (by kernel_rfl) (by kernel_rfl)
theorem ZN:ac Tryz.prog (ae 468) Ua:=ag (S:=[q0,q1,q2,q3,q6,m7,oh,qx,UO,q8,mT,yU,oZ,DD,q9]) aL hD (by decide) Tryz.func468 (by kernel_rfl) (by kernel_rfl)
theorem aau:ac Tryz.prog (ae 477) Tl:=ag (S:=[q0,q3,oZ,q2]) ak hD (by decide) Tryz.func477 (by kernel_rfl) (by kernel_rfl)
theorem aaH:ac Tryz.prog (ae 588) U8:=ag (S:=[q0,q1,mT,oh,qx,m7,q8,q3,q7,PF,q5,q9,q6,q4]) aL hD (by decide) Tryz.func588 (by kernel_rfl) (by kernel_rfl)
end Go.Ai
