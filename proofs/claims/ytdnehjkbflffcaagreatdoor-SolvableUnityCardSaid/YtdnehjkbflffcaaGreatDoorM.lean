/- What is remembered. -/
import Derived.Test.YtdnehjkbflffcaaGreatDoorT
import Derived.Test.YtdnehjkbflffcaaGreatDoorX5
import Derived.Test.YtdnehjkbflffcaaGreatDoorA4
set_option linter.unusedVariables false
set_option autoImplicit false
namespace Go.Ai
open Go Go.Proofs
noncomputable section
def nA0:List AV:=[.int .i64 (.ofNat 2),.agg [.bool true,.bs 3,.bs 1,.bool true,.bs 3,.bs 1,.bool false,.bs 0,.bs 1,.bool false,.bs 0,.bs 1],.int .i64 (.ofNat 32)]
def Ys:AV:=.tup [.agg [.bool false,.bs 0,.bs 1],.agg [.bool false,.bs 119025625177,.bs 68719476736]]
def Zf:List AV:=[.int .i64 (.ofNat 3),.agg [.bool true,.bs 9223372036854775809,.bs 18446744073709551616,.bool true,.bs 9223372036854775807,.bs 18446744073709551616,.bool false,.bs 15975348984942515101,.bs 18446744073709551616,.bool false,.bs 7987674492471257551,.bs 9223372036854775808],.int .i64 (.ofNat 32)]
def YH:AV:=.tup [.agg [.bool true,.bs 64575185193,.bs 68719476736],.agg [.bool false,.bs 23503445283,.bs 68719476736]]
def nA2:List AV:=[.int .i64 (.ofNat 2),.agg [.bool true,.bs 1,.bs 1,.bool true,.bs 1,.bs 1,.bool false,.bs 0,.bs 1,.bool false,.bs 0,.bs 1],.int .i64 (.ofNat 32)]
def Yu:AV:=.tup [.agg [.bool false,.bs 0,.bs 1],.agg [.bool false,.bs 1,.bs 1]]
def VJ:List (List AV × AV):=[(nA0,Ys),(Zf,YH),(nA2,Yu)]
def Sp(a:List AV):aa:=d6 TE 400 (ae 133) a (.mk .leaf .e) λv _=>O0 v λv=>.fin v (.mk .leaf .e)
def TA:Tb:=TF (l8 Tryz.f7 [2,5,3,4,49,1,0]) (VE VJ (dI Tryz.f133 [0,1,2,4,9,26,8,10,40,39,41,38,13,11,55,6,7]))
def TU:Tb:=TF (kn0 (.bool true)) (VE VJ (dI Tryz.f133 [0,1,2,4,9,26,8,10,40,39,41,38,13,11,55,6,7]))
def Bz(n:Int):aa:=d6 TU 400 (ae 3) [.int .i64 n] (.mk .leaf .e) λv _=>.fin v (.mk .leaf .e)
def mc(n:Int):Prop:=Bz n = .fin (.bool true) (.mk .leaf .e)
end
end Go.Ai
