/- The printed functions are the program's, part 1. -/
import Derived.Test.YtdnehjkbflffcaaGreatDoorO
set_option linter.unusedVariables false
set_option autoImplicit false
namespace Go.Ai
set_option linter.unusedSectionVars false
variable [Nu]
open Go Go.Proofs
set_option maxRecDepth 100000
set_option maxHeartbeats 0
theorem w43:ac Tryz.prog (ae 43) s43:=ag (S:=[q0,q2]) ak hD (by decide) Tryz.func43 (by kernel_rfl) (by kernel_rfl)
theorem w45:ac Tryz.prog (ae 45) s45:=ag (S:=[q0,q1,q2,q3,mT,q4]) ak hD (by decide) Tryz.func45 (by kernel_rfl) (by kernel_rfl)
theorem w59:ac Tryz.prog (ae 59) s59:=ag (S:=[q0,q1,q2]) ak hD (by decide) Tryz.func59 (by kernel_rfl) (by kernel_rfl)
theorem Vr:ac Tryz.prog (ae 114) Qc:=ag (S:=[q0,q1,q2,q3,q5,q4,Hw]) ak hD (by decide) Tryz.func114 (by kernel_rfl) (by kernel_rfl)
theorem abU:ac Tryz.prog (ae 121) Vi:=ag (S:=[q0,q3,q9,q8,m7,q4,q2]) ak hD (by decide) Tryz.func121 (by kernel_rfl) (by kernel_rfl)
theorem acC:ac Tryz.prog (ae 131) Ug:=ag (S:=[q0,q1,q2]) ak hD (by decide) Tryz.func131 (by kernel_rfl) (by kernel_rfl)
theorem Uh:ac Tryz.prog (ae 147) QM:=ag (S:=[q0,q1,q2,q3,q7,Mq,q6,q4,q5]) aL hD (by decide) Tryz.func147 (by kernel_rfl) (by kernel_rfl)
theorem ac1:ac Tryz.prog (ae 174) Xh:=ag (S:=[q0,q1,q4]) ak hD (by decide) Tryz.func174 (by kernel_rfl) (by kernel_rfl)
theorem abu:ac Tryz.prog (ae 175) Vl:=ag (S:=[q0,q1,q9,q5,q6,q8,MM,UO,m7,IC,q7,q4]) aL hD (by decide) Tryz.func175 (by kernel_rfl) (by kernel_rfl)
theorem aaT:ac Tryz.prog (ae 176) UW:=ag (S:=[q0,q1,q5,KS,q4]) ak hD (by decide) Tryz.func176 (by kernel_rfl) (by kernel_rfl)
theorem aat:ac Tryz.prog (ae 179) U5:=ag (S:=[q0,q1,q8,q6,q4]) ak hD (by decide) Tryz.func179 (by kernel_rfl) (by kernel_rfl)
theorem adG:ac Tryz.prog (ae 189) UL:=ag (S:=[q0,q4,q7,q3,q2]) ak hD (by decide) Tryz.func189 (by kernel_rfl) (by kernel_rfl)
theorem ado:ac Tryz.prog (ae 191) WX:=ag (S:=[q0,q1,q2,KS,q8,q7,mT,m7,q51,oh,q9,qx,wj,oZ,yU,Tx,DD,q96,GS,U7,ML,CY,RJ,Jj,Q8,Hw,q6]) aL hD (by decide) Tryz.func191 (by kernel_rfl) (by kernel_rfl)
theorem ada:ac Tryz.prog (ae 214) SV:=ag (S:=[q0,q1,q3,q2,q4]) ak hD (by decide) Tryz.func214 (by kernel_rfl) (by kernel_rfl)
theorem acm:ac Tryz.prog (ae 217) WC:=ag (S:=[q0,qx,mT,yU,q4,q3,q5,q2]) ak hD (by decide) Tryz.func217 (by kernel_rfl) (by kernel_rfl)
theorem aci:ac Tryz.prog (ae 219) We:=ag (S:=[q0,mT,Hw,ML,Jj,GS,QA,YM,q3,q4,q6,q5,q7,q48,q2]) aL hD (by decide) Tryz.func219 (by kernel_rfl) (by kernel_rfl)
theorem aeY:ac Tryz.prog (ae 224) UG:=ag (S:=[q0,q8,q7,q9,q6,q4,q5,oZ,q2]) aL hD (by decide) Tryz.func224 (by kernel_rfl) (by kernel_rfl)
theorem LZ:ac Tryz.prog (ae 227) Ml:=ag (S:=[q0,q1,q2,q4]) ak hD (by decide) Tryz.func227 (by kernel_rfl) (by kernel_rfl)
theorem ZY:ac Tryz.prog (ae 228) UZ:=ag (S:=[q0,q1,q2,q3,q4]) ak hD (by decide) Tryz.func228 (by kernel_rfl) (by kernel_rfl)
theorem M2:ac Tryz.prog (ae 236) LF:=ag (S:=[q0,q4,q2]) ak hD (by decide) Tryz.func236 (by kernel_rfl) (by kernel_rfl)
theorem aaN:ac Tryz.prog (ae 299) Ve:=ag (S:=[q0,q4,m7,q6,ML,q5,q3,q2]) ak hD (by decide) Tryz.func299 (by kernel_rfl) (by kernel_rfl)
theorem af5:ac Tryz.prog (ae 302) SN:=ag (S:=[q0,q5,q2]) ak hD (by decide) Tryz.func302 (by kernel_rfl) (by kernel_rfl)
theorem aa8:ac Tryz.prog (ae 305) Vj:=ag (S:=[q0,q3,q1,q9,q4,Eh,q2]) ak hD (by decide) Tryz.func305 (by kernel_rfl) (by kernel_rfl)
theorem ae3:ac Tryz.prog (ae 306) Wi:=ag (S:=[q0,q1,q3,q2,q4]) ak hD (by decide) Tryz.func306 (by kernel_rfl) (by kernel_rfl)
theorem MQ:ac Tryz.prog (ae 329) Nm:=ag (S:=[q0,q1,q2,q5,q4]) ak hD (by decide) Tryz.func329 (by kernel_rfl) (by kernel_rfl)
theorem ae6:ac Tryz.prog (ae 334) Vv:=ag (S:=[q0,q1,q2,q3,q5]) ak hD (by decide) Tryz.func334 (by kernel_rfl) (by kernel_rfl)
theorem adF:ac Tryz.prog (ae 337) TP:=ag (S:=[q0,q3,q2]) ak hD (by decide) Tryz.func337 (by kernel_rfl) (by kernel_rfl)
theorem abe:ac Tryz.prog (ae 340) UM:=ag (S:=[q0,q1,q3,q6,KS,q7,q8,q9,Eh,q41,m7,Yx,wj,oh,mT,q4,q5]) aL hD (by decide) Tryz.func340 (by kernel_rfl) (by kernel_rfl)
theorem aaE:ac Tryz.prog (ae 348) WF:=ag (S:=[q0,q1,q2,q4]) ak hD (by decide) Tryz.func348 (by kernel_rfl) (by kernel_rfl)
theorem ac5:ac Tryz.prog (ae 384) WW:=ag (S:=[q0,q4,q8,q2,yU]) ak hD (by decide) Tryz.func384 (by kernel_rfl) (by kernel_rfl)
theorem abg:ac Tryz.prog (ae 399) SF:=ag (S:=[q0,q1,q5,oZ,yU,DD,q6,q4]) ak hD (by decide) Tryz.func399 (by kernel_rfl) (by kernel_rfl)
theorem aav:ac Tryz.prog (ae 445) Sy:=ag (S:=[q0,yU,q2]) ak hD (by decide) Tryz.func445 (by kernel_rfl) (by kernel_rfl)
theorem aeE:ac Tryz.prog (ae 462) TJ:=ag (S:=[q0,q1,q3,Jj,q4,q2]) ak hD (by decide) Tryz.func462 (by kernel_rfl) (by kernel_rfl)
theorem abL:ac Tryz.prog (ae 463) Vy:=ag (S:=[q0,q1,q3,oh,Mq,q2]) ak hD (by decide) Tryz.func463 (by kernel_rfl) (by kernel_rfl)
theorem adY:ac Tryz.prog (ae 481) Tv:=ag (S:=[q0,q1,q2,q3,q8]) ak hD (by decide) Tryz.func481 (by kernel_rfl) (by kernel_rfl)
theorem Zq:ac Tryz.prog (ae 549) XK:=ag (S:=[q0,q1,q2]) ak hD (by decide) Tryz.func549 (by kernel_rfl) (by kernel_rfl)
theorem Z9:ac Tryz.prog (ae 582) Xv:=ag (S:=[q0,mT,GS,DD,ML,oZ,q6,q7,q3,q8,q4,q2]) aL hD (by decide) Tryz.func582 (by kernel_rfl) (by kernel_rfl)
theorem aaY:ac Tryz.prog (ae 587) TS:=ag (S:=[q0,q1,q2,m7,oh,q4,Hw,Jj,q5,q6,q7,MM,XP,q8,q9,Oo]) aL hD (by decide) Tryz.func587 (by kernel_rfl) (by kernel_rfl)
theorem aaC:ac Tryz.prog (ae 589) Wc:=ag (S:=[q0,q1,q2]) ak hD (by decide) Tryz.func589 (by kernel_rfl) (by kernel_rfl)
theorem acY:ac Tryz.prog (ae 642) Vn:=ag (S:=[q0,q1,q4,q2]) ak hD (by decide) Tryz.func642 (by kernel_rfl) (by kernel_rfl)
theorem Zk:ac Tryz.prog (ae 666) Ye:=ag (S:=[q0,q5,q2]) ak hD (by decide) Tryz.func666 (by kernel_rfl) (by kernel_rfl)
end Go.Ai
