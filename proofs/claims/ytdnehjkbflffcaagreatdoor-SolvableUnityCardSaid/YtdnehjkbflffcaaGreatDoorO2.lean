/- The printed functions are the program's, part 2. -/
import Derived.Test.YtdnehjkbflffcaaGreatDoorO
set_option linter.unusedVariables false
set_option autoImplicit false
namespace Go.Ai
set_option linter.unusedSectionVars false
variable [Nu]
open Go Go.Proofs
set_option maxRecDepth 100000
set_option maxHeartbeats 0
theorem w44:ac Tryz.prog (ae 44) s44:=ag (S:=[q0,q1,q2,q3,qx,q4,q5]) ak hD (by decide) Tryz.func44 (by kernel_rfl) (by kernel_rfl)
theorem YD:ac Tryz.prog (ae 57) YQ:=ag (S:=[q0,q4,q2]) ak hD (by decide) Tryz.func57 (by kernel_rfl) (by kernel_rfl)
theorem w61:ac Tryz.prog (ae 61) YR:=ag (S:=[q0,q1,q2,q3,mT,q4]) ak hD (by decide) Tryz.func61 (by kernel_rfl) (by kernel_rfl)
theorem w78:ac Tryz.prog (ae 78) s78:=ag (S:=[q0,q1,q3,q2,q4]) ak hD (by decide) Tryz.func78 (by kernel_rfl) (by kernel_rfl)
theorem w92:ac Tryz.prog (ae 92) s92:=ag (S:=[q0,q1,q2]) ak hD (by decide) Tryz.func92 (by kernel_rfl) (by kernel_rfl)
theorem aev:ac Tryz.prog (ae 122) WA:=ag (S:=[q0,q7,q6,q8,q5,q4,qx,q2]) ak hD (by decide) Tryz.func122 (by kernel_rfl) (by kernel_rfl)
theorem ZZ:ac Tryz.prog (ae 123) Um:=ag (S:=[q0,q1,mT,oh,qx,q6,q5,q4]) ak hD (by decide) Tryz.func123 (by kernel_rfl) (by kernel_rfl)
theorem LO:ac Tryz.prog (ae 148) MK:=ag (S:=[q0,q1,q2,q3,q4]) ak hD (by decide) Tryz.func148 (by kernel_rfl) (by kernel_rfl)
theorem aeg:ac Tryz.prog (ae 180) TQ:=ag (S:=[q0,q1,GS,q7,q6,q8,m7,oh,q38,q9,Yr,mT,yU,Tx,qx,oZ,aeS,q4,q5]) aL hD (by decide) Tryz.func180 (by kernel_rfl) (by kernel_rfl)
theorem abC:ac Tryz.prog (ae 182) S0:=ag (S:=[q0,q1,q2]) ak hD (by decide) Tryz.func182 (by kernel_rfl) (by kernel_rfl)
theorem abt:ac Tryz.prog (ae 184) Xa:=ag (S:=[q0,q1,q6,q2]) ak hD (by decide) Tryz.func184 (by kernel_rfl) (by kernel_rfl)
theorem abw:ac Tryz.prog (ae 187) Uu:=ag (S:=[q0,q4,q8,q3,q2]) ak hD (by decide) Tryz.func187 (by kernel_rfl) (by kernel_rfl)
theorem aaL:ac Tryz.prog (ae 192) WL:=ag (S:=[q0,q1,q6,q2]) ak hD (by decide) Tryz.func192 (by kernel_rfl) (by kernel_rfl)
theorem aad:ac Tryz.prog (ae 223) VA:=ag (S:=[q0,q1,PF,Mq,KS,Jj,Rq,MM,Q2,uN,q7,m7,mT,q5,q6,q9,oh,qx,q8,q4]) aL hD (by decide) Tryz.func223 (by kernel_rfl) (by kernel_rfl)
theorem aaV:ac Tryz.prog (ae 246) Tu:=ag (S:=[q0]) ak hD (by decide) Tryz.func246 (by kernel_rfl) (by kernel_rfl)
theorem adu:ac Tryz.prog (ae 248) VX:=ag (S:=[q0,q1,q9,q6,q4]) ak hD (by decide) Tryz.func248 (by kernel_rfl) (by kernel_rfl)
theorem aet:ac Tryz.prog (ae 301) XG:=ag (S:=[q0,q1,q2]) ak hD (by decide) Tryz.func301 (by kernel_rfl) (by kernel_rfl)
theorem aa7:ac Tryz.prog (ae 303) Vo:=ag (S:=[q0,q1,q6,m7,q5,q4]) ak hD (by decide) Tryz.func303 (by kernel_rfl) (by kernel_rfl)
theorem abl:ac Tryz.prog (ae 324) VB:=ag (S:=[q0,q1,yU,qx,oZ,mT,q5,q6,q7,Rq,q4]) aL hD (by decide) Tryz.func324 (by kernel_rfl) (by kernel_rfl)
theorem abM:ac Tryz.prog (ae 325) XH:=ag (S:=[q0,q1,q5,Q2,q8,Se,q6,q9,q7,m7,Lb,acS,QW,WO,qx,oZ,mT,yU,DD,oh,adD,Ta,acU,SH,ML,GS,q4]) aL hD (by decide) Tryz.func325 (by kernel_rfl) (by kernel_rfl)
theorem Ls:ac Tryz.prog (ae 330) M0:=ag (S:=[q0,q1,q3,q2,q4]) ak hD (by decide) Tryz.func330 (by kernel_rfl) (by kernel_rfl)
theorem Ll:ac Tryz.prog (ae 336) Oj:=ag (S:=[q0,q1,q2,q3,q4]) ak hD (by decide) Tryz.func336 (by kernel_rfl) (by kernel_rfl)
theorem ZV:ac Tryz.prog (ae 349) TC:=ag (S:=[q0,q1,q2,q3,q4,q7,mT,yU,MM,m7,qx,oZ,q47,q53,oh]) aL hD (by decide) Tryz.func349 (by kernel_rfl) (by kernel_rfl)
theorem aaZ:ac Tryz.prog (ae 358) Vk:=ag (S:=[q0,q4,q2]) ak hD (by decide) Tryz.func358 (by kernel_rfl) (by kernel_rfl)
theorem aeb:ac Tryz.prog (ae 359) VH:=ag (S:=[q0,q1,mT,q4]) ak hD (by decide) Tryz.func359 (by kernel_rfl) (by kernel_rfl)
theorem aeM:ac Tryz.prog (ae 444) TL:=ag (S:=[q0,q1,q6,mT,q5,q3,q4]) ak hD (by decide) Tryz.func444 (by kernel_rfl) (by kernel_rfl)
theorem aag:ac Tryz.prog (ae 448) Vx:=ag (S:=[q0,q1,q3,q2]) ak hD (by decide) Tryz.func448 (by kernel_rfl) (by kernel_rfl)
theorem ab8:ac Tryz.prog (ae 449) X8:=ag (S:=[q0,q4,oZ,q3,QA,Tw,q2]) ak hD (by decide) Tryz.func449 (by kernel_rfl) (by kernel_rfl)
theorem aa3:ac Tryz.prog (ae 451) SX:=ag (S:=[q0,q1,q2]) ak hD (by decide) Tryz.func451 (by kernel_rfl) (by kernel_rfl)
theorem Nt:ac Tryz.prog (ae 454) MP:=ag (S:=[q0,q1,q3,q2,q9,GS,q4]) ak hD (by decide) Tryz.func454 (by kernel_rfl) (by kernel_rfl)
theorem aeU:ac Tryz.prog (ae 455) UF:=ag (S:=[q0,q1,DD,q5,q6,Rq,q8,q4]) ak hD (by decide) Tryz.func455 (by kernel_rfl) (by kernel_rfl)
theorem adn:ac Tryz.prog (ae 460) XX:=ag (S:=[q0,q1,q2,q3,q5,DD,q9,m7,q6,oh,mT,q8]) aL hD (by decide) Tryz.func460 (by kernel_rfl) (by kernel_rfl)
theorem aec:ac Tryz.prog (ae 478) VU:=ag (S:=[q0,q1,q2,q8,q6]) ak hD (by decide) Tryz.func478 (by kernel_rfl) (by kernel_rfl)
theorem abV:ac Tryz.prog (ae 486) TI:=ag (S:=[q0,q1,q2,q9,QA,q8,mT,Qn,oh,m7,qx,Se,q63,q65,q62,yU,oZ,q6,q7]) aL hD (by decide) Tryz.func486 (by kernel_rfl) (by kernel_rfl)
theorem adC:ac Tryz.prog (ae 492) XW:=ag (S:=[q0,q1,q2,Hw,Rq,MM,Q2,uN,Tw,UO,Z5,YZ,q7,q8,m7,q9,oh,q6]) aL hD (by decide) Tryz.func492 (by kernel_rfl) (by kernel_rfl)
theorem abr:ac Tryz.prog (ae 578) V0:=ag (S:=[q0,q1,q2,q3,q4]) ak hD (by decide) Tryz.func578 (by kernel_rfl) (by kernel_rfl)
theorem act:ac Tryz.prog (ae 580) WG:=ag (S:=[q0,q3,q2]) ak hD (by decide) Tryz.func580 (by kernel_rfl) (by kernel_rfl)
theorem acF:ac Tryz.prog (ae 581) VS:=ag (S:=[q0,q1,q2,q3,q7,Mq,q6,q4,q5]) aL hD (by decide) Tryz.func581 (by kernel_rfl) (by kernel_rfl)
theorem acn:ac Tryz.prog (ae 585) X6:=ag (S:=[q0,q1,q2,q5,q6,q7]) ak hD (by decide) Tryz.func585 (by kernel_rfl) (by kernel_rfl)
theorem ac8:ac Tryz.prog (ae 586) Sv:=ag (S:=[q0,q1,q2,m7,oZ,q3,q8,q9,q5,q6,q7]) aL hD (by decide) Tryz.func586 (by kernel_rfl) (by kernel_rfl)
theorem abK:ac Tryz.prog (ae 590) Wr:=ag (S:=[q0,q1,q2,q8,oZ,q7,q4,q6]) ak hD (by decide) Tryz.func590 (by kernel_rfl) (by kernel_rfl)
end Go.Ai
