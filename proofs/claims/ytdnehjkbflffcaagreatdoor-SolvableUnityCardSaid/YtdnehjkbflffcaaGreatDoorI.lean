/- The hot functions as the interpreter runs them. -/
import Derived.Test.YtdnehjkbflffcaaGreatDoorX1
import Derived.Test.YtdnehjkbflffcaaGreatDoorA5
import Derived.Test.YtdnehjkbflffcaaGreatDoorA3
import Derived.Test.YtdnehjkbflffcaaGreatDoorA4
set_option linter.unusedVariables false
set_option autoImplicit false
namespace Go.Ai
noncomputable section
abbrev aE:=Go.Ai.Call→List AV→H→af→aa
def q0:ab:=.e
def q1:ab:=.l q0
def q2:ab:=.r q0
def q3:ab:=.l q1
def q4:ab:=.r q1
def q5:ab:=.l q2
def q6:ab:=.r q2
def q7:ab:=.l q3
def q8:ab:=.r q3
def q9:ab:=.l q4
def m7:ab:=.r q4
def oh:ab:=.l q5
def mT:ab:=.r q5
def qx:ab:=.l q6
def yU:ab:=.r q6
def oZ:ab:=.l q7
def DD:ab:=.r q7
def GS:ab:=.l q8
def ML:ab:=.r q8
def Hw:ab:=.l q9
def Jj:ab:=.r q9
def Mq:ab:=.l m7
def PF:ab:=.r m7
def KS:ab:=.l oh
def QA:ab:=.r oh
def YM:ab:=.l mT
def ZJ:ab:=.r mT
def uN:ab:=.l qx
def MM:ab:=.r qx
def Rq:ab:=.l yU
def Q2:ab:=.r yU
def LU:ab:=.l oZ
def Eh:ab:=.r oZ
def XP:ab:=.l DD
def YZ:ab:=.r DD
def UO:ab:=.l GS
def Tw:ab:=.r GS
def Z5:ab:=.l ML
def q38:ab:=.r ML
def Yq:ab:=.r Hw
def q41:ab:=.l Jj
def q42:ab:=.r Jj
def Yv:ab:=.l Mq
def Qn:ab:=.r Mq
def IC:ab:=.l PF
def Yr:ab:=.r PF
def q47:ab:=.l KS
def q48:ab:=.r KS
def q50:ab:=.r QA
def q51:ab:=.l YM
def q53:ab:=.l ZJ
def q54:ab:=.r ZJ
def Lq:ab:=.r uN
def OR:ab:=.l MM
def Yx:ab:=.r MM
def Oo:ab:=.l Rq
def Hv:ab:=.r Rq
def wj:ab:=.l Q2
def q62:ab:=.r Q2
def q63:ab:=.l LU
def Se:ab:=.r LU
def q65:ab:=.l Eh
def Zp:ab:=.l XP
def q68:ab:=.r XP
def YY:ab:=.l YZ
def q70:ab:=.r YZ
def q71:ab:=.l UO
def q74:ab:=.r Tw
def R7:ab:=.l Z5
def q77:ab:=.l q38
def RW:ab:=.r q38
def q39:ab:=.l Hw
def q79:ab:=.l q39
def Tx:ab:=.l Yq
def q85:ab:=.l q42
def q86:ab:=.r q42
def q88:ab:=.r Yv
def YB:ab:=.l Qn
def YX:ab:=.r Qn
def Lb:ab:=.l IC
def Le:ab:=.r IC
def Zl:ab:=.l Yr
def q96:ab:=.r q47
def q97:ab:=.l q48
def q98:ab:=.r q48
def aeS:ab:=.r q50
def QW:ab:=.r q51
def q52:ab:=.r YM
def acS:ab:=.l q52
def WO:ab:=.r q52
def zg:ab:=.r q54
def q55:ab:=.l uN
def IJ:ab:=.l q55
def rR:ab:=.r q55
def Ba:ab:=.l Lq
def Lv:ab:=.r Lq
def uS:ab:=.l OR
def KE:ab:=.r OR
def U7:ab:=.r Yx
def Xu:ab:=.l Oo
def Ka:ab:=.r Oo
def P8:ab:=.l Hv
def Hn:ab:=.r Hv
def NQ:ab:=.l wj
def WS:ab:=.r q62
def Zb:ab:=.r q63
def Z7:ab:=.l Se
def aaO:ab:=.r Se
def CY:ab:=.l q65
def W2:ab:=.r q65
def acG:ab:=.l q68
def ae0:ab:=.l YY
def RJ:ab:=.r YY
def q72:ab:=.r UO
def Iw:ab:=.r q72
def q73:ab:=.l Tw
def L7:ab:=.l q73
def QV:ab:=.r q73
def q76:ab:=.r Z5
def adD:ab:=.r q76
def acU:ab:=.r q77
def Ta:ab:=.l RW
def SH:ab:=.r RW
def q84:ab:=.r q41
def TV:ab:=.l q84
def Q8:ab:=.r q84
def afi:ab:=.l q85
def XS:ab:=.r q85
def Rv:ab:=.l q86
def Ap:ab:=.r q86
def q87:ab:=.l Yv
def Xf:ab:=.l q87
def LP:ab:=.r q87
def NM:ab:=.l q88
def Lt:ab:=.r q88
def LT:ab:=.l YB
def KK:ab:=.r YB
def Td:ab:=.l YX
def ab9:ab:=.r YX
def XD:ab:=.l Lb
def aah:ab:=.r Lb
def MO:ab:=.r Le
def Y6:ab:=.l Zl
def q94:ab:=.r Yr
def acW:ab:=.l q94
def q95:ab:=.l q47
def QE:ab:=.l q95
def Z1:ab:=.r q95
def adc:ab:=.l QW
def W3:ab:=.r QW
def abB:ab:=.r WO
def Vz:ab:=.r q53
def Gd:ab:=.l Vz
def PP:ab:=.r Vz
def UJ:ab:=.l q54
def CK:ab:=.l UJ
def N8:ab:=.r UJ
def MT:ab:=.l zg
def Hc:ab:=.r zg
def T6:ab:=.l IJ
def NA:ab:=.l rR
def M9:ab:=.l Ba
def BM:ab:=.r Ba
def Qa:ab:=.l Lv
def Qt:ab:=.r Lv
def QO:ab:=.l uS
def u3:ab:=.r uS
def Ro:ab:=.l KE
def CF:ab:=.r KE
def aeP:ab:=.l Yx
def MB:ab:=.r aeP
def SG:ab:=.l P8
def Nv:ab:=.r P8
def abG:ab:=.r Hn
def Wj:ab:=.l NQ
def Za:ab:=.r NQ
def VV:ab:=.r wj
def Yb:ab:=.l VV
def SA:ab:=.r VV
def VO:ab:=.l WS
def F4:ab:=.r QV
def UY:ab:=.l q74
def Kp:ab:=.l UY
def XT:ab:=.r UY
def Ui:ab:=.r q74
def ael:ab:=.l Ui
def Xl:ab:=.r Ui
def af4:ab:=.l R7
def Th:ab:=.l af4
def aaB:ab:=.r R7
def aaw:ab:=.r aaB
def XR:ab:=.l Ta
def aac:ab:=.l SH
def adW:ab:=.l q79
def FM:ab:=.r adW
def Wt:ab:=.r q79
def Vb:ab:=.l Wt
def RF:ab:=.r Wt
def q80:ab:=.r q39
def SO:ab:=.l q80
def Q4:ab:=.l SO
def Wz:ab:=.r SO
def Xt:ab:=.r q80
def XN:ab:=.l Xt
def Mj:ab:=.r Xt
def Uc:ab:=.l Tx
def QH:ab:=.l Uc
def QP:ab:=.r Uc
def UN:ab:=.r Tx
def Mo:ab:=.l UN
def adH:ab:=.r UN
def q82:ab:=.r Yq
def VD:ab:=.l q82
def aeV:ab:=.l VD
def Lw:ab:=.r VD
def abm:ab:=.r q82
def RA:ab:=.l abm
def q83:ab:=.l q41
def Tk:ab:=.l q83
def aeT:ab:=.l Tk
def HJ:ab:=.r Tk
def af9:ab:=.r q83
def NF:ab:=.l af9
def Zo:ab:=.r TV
def ZA:ab:=.l Q8
def adO:ab:=.r XS
def aeq:ab:=.l Rv
def Oc:ab:=.r Rv
def acJ:ab:=.l Ap
def Ca:ab:=.r NM
def P2:ab:=.l Lt
def ZW:ab:=.r Lt
def MY:ab:=.l LT
def T3:ab:=.r QE
def ac0:ab:=.r q97
def Dz:ab:=.l ac0
def q49:ab:=.l QA
def q99:ab:=.l q49
def abR:ab:=.l q99
def PL:ab:=.l abR
def adA:ab:=.r W3
def TH:ab:=.r MT
def Rl:ab:=.l Hc
def acj:ab:=.r Hc
def af7:ab:=.l NA
def WQ:ab:=.r rR
def SZ:ab:=.l WQ
def T8:ab:=.r WQ
def Xm:ab:=.l M9
def ab5:ab:=.l BM
def V6:ab:=.r BM
def ae2:ab:=.r Qa
def ab2:ab:=.l QO
def Us:ab:=.l u3
def aeC:ab:=.r Ro
def acx:ab:=.l CF
def acP:ab:=.r CF
def UP:ab:=.r U7
def Rk:ab:=.l UP
def aaf:ab:=.r UP
def acX:ab:=.l Xu
def aax:ab:=.r acX
def aeG:ab:=.l Ka
def afb:ab:=.r aeG
def acb:ab:=.r Ka
def acu:ab:=.r acb
def afg:ab:=.l Hn
def adB:ab:=.r afg
def Zc:ab:=.r Zp
def Z3:ab:=.r Zc
def WJ:ab:=.l Z3
def aeo:ab:=.l q71
def acE:ab:=.r aeo
def Qh:ab:=.r acE
def acf:ab:=.r q71
def Uk:ab:=.r acf
def af0:ab:=.l Uk
def RN:ab:=.r Uk
def adt:ab:=.l q72
def ab1:ab:=.r adt
def WZ:ab:=.r ab1
def acd:ab:=.l Iw
def V8:ab:=.r acd
def XV:ab:=.r Iw
def af6:ab:=.l XV
def PJ:ab:=.r XV
def Tz:ab:=.l L7
def Y9:ab:=.l Tz
def UB:ab:=.r Tz
def adh:ab:=.r FM
def Ok:ab:=.r Lw
def TD:aE:=yr
def Vg:aE:=xh
def b17:CT ar:=(kQ (kR λc f h n=>dc .nils f λf=>n f h) (kQ (kR λc f h n=>db .nils f λf=>n f h) (kQ (kQ (kR λc f h n=>jt J0 f λf=>n f h) (kB 0 (kL (kQ (kQ (kR λc f h n=>bN (cS f) h λa h=>bN (cQ f) h λb h=>yA a b h λd h=>yD d J1 h λe h=>ct (bH f) e h λg h=>io g f λf5=>n f5 h) (kI cu kS (kX 0))) (kQ (kB 1 (kQ (kR λc f h n=>yK Yv [J0] c h λa h=>ce 4294967360 [B0,E0,E0] h λb h=>iW b f λf=>yS 3 (dG f) a h λd h=>n f h) (kQ (kQ (kR λc f h n=>bN (cS f) h λa h=>ij a f λf1=>gP J0 f1 λf2=>n f2 h) (kB 2 (kL (kQ (kR λc f h n=>ct (cP f) (cX f) h λa h=>fF a f λf=>n f h) (kQ (kI cr kS (kX 2)) (kQ (kB 3 (kQ (kR λc f h n=>AV.force (cP f) λa=>ie a f λf1=>n f1 h) (kQ (kR λc f h n=>yD (bH f) (c5 f) h λa h=>m9 a J0 h λb h=>ah b true h (eH (bH f) h) λd h=>ah b true h (eH (c5 f) h) λe h=>ah b true h (yD d e h) λg h=>ah b true h (eH (cQ f) h) λi h=>ah b true h (bN i h) λj h=>ah b true h (ct g j h) λl h=>gr b l B0 h λm h=>fi m f λf9=>n f9 h) (kI cY (kR λc f h n=>yI 3 (cS f) (c5 f) h λa h=>aA 3 a h λb h=>yD (bH f) (c5 f) h λd h=>yI 3 (cQ f) d h λe h=>aA 3 e h λg h=>yK IC [b,g] c h λi h6=>aA 3 (dG f) h6 λl h6=>ap (aA 3 (dG f)) l (yK Qn [l,i] c h6 λm h9=>yS 3 (dG f) m h9 λp h11=>n f h11) 1 [h]) kS)))) (kR λc f h n=>yA (cP f) J1 h λa h=>gP a f λf=>n f h))))))) (kR λc f h n=>aA 3 (dG f) h λa h=>rP 1 [B0,E0,E0] [⟨0,3,a⟩] h λb h=>r8 3 40 3 (bx f) b h λd h=>db d f λf3=>n f3 h)))) (kR λc f h n=>yA (bH f) J1 h λa h=>jt a f λf1=>n f1 h)))))) (kQ (kR λc f h n=>yK Yr [bx f] c h λa h=>dc a f λf1=>n f1 h) kT))))
def s17:aE:=gY b17 (r1 cH)
def Yz:aE:=ST OR Oo
def YG:aE:=WR Se
def b37:CT F8:=(kQ (kR λc f h n=>bU (a8 f) h λa h=>df a f λf=>bK B0 f λf=>n f h) (kQ (kR λc f h n=>yF 0 (aT f) h λa h=>yF 1 a h λb h=>yL b h λd h=>tn d h λe h=>nE e (.int .i64 (.ofNat 1024)) h λg h=>ah g false h (yF 2 (aT f) h) λi h=>ah g false h (yL i h) λj h=>ah g false h (tn j h) λl h=>ah g false h (nE l (.int .i64 (.ofNat 1024)) h) λm h=>gr g B1 m h λo h=>bK o f λf=>n f h) kT))
def s37:aE:=b7 b37 (r1 aU)
def b43:CT F8:=(kQ (kR λc f h n=>ce 4294967360 [B0,E0,E0] h λa h=>df a f λf=>n f h) (kQ (kR λc f h n=>yK q88 [a8 f] c h λa h=>gu [B0,E0,E0] [⟨0,2,a⟩,⟨2,1,(.str [1])⟩] h λb h=>yS 3 (aT f) b h λd h=>n f h) kT))
def s43:aE:=b7 b43 (λk f h=>AV.onPtr (aT f) λo i=>cellsOf o h λcs _=>ldropC i cs λcs=>ltake 3 cs λx0=>AV.force (.agg x0) λr1=>k r1 h)
def b44:CT F8:=(kQ (kR λc f h n=>bU (a8 f) h λa h=>bK a f λf=>bU (aT f) h λb h=>ci b f λf=>ce 4294967360 [B0,E0,E0] h λd h=>fo d f λf=>n f h) (kQ (kQ (kR λc f h n=>yF 2 (aU f) h λa h=>yL a h λb h=>ls false b (.str [1]) h λd h=>ah d true h (yF 2 (bf f) h) λe h=>ah d true h (yL e h) λg h=>ah d true h (ls false g (.str [1]) h) λi h=>gr d i B0 h λj h=>cF j f λf=>n f h) (kI cR (kQ (kR λc f h n=>yF 0 (aU f) h λa h=>aA 2 a h λb h=>yF 0 (bf f) h λd h=>aA 2 d h λe h=>yK YX [b,e] c h λg h=>yK YB [g] c h λi h=>yS 3 (fM f) i h λj h=>n f h) kT) kS)) (kQ (kR λc f h n=>aA 3 (bf f) h λa h=>yK Le [a] c h λb h2=>yF 0 (aU f) h2 λe h2=>aA 2 e h2 λg h2=>ap (aA 2 e) g (yK Lb [g,b] c h2 λi h6=>aA 3 (aU f) h6 λl h6=>ap (aA 3 (aU f)) l (yK Le [l] c h6 λm h9=>yF 0 (bf f) h9 λp h9=>aA 2 p h9 λq h9=>ap (aA 2 p) q (yK Lb [q,m] c h9 λr h13=>yK YX [i,r] c h13 λt h15=>ce 4294967358 [B0,E0] h15 λv h17=>bQ true h15 (jG v f λf=>yS 2 (ju f) t h17 λx h19=>n f h19) [h13,h9,h6,h2,h]) 3 [h6,h2,h]) 2 [h2,h]) 1 [h]) (kQ (kR λc f h n=>aA 3 (aU f) h λa h=>yK Le [a] c h λb h2=>aA 3 (bf f) h2 λe h2=>ap (aA 3 (bf f)) e (yK Le [e] c h2 λg h5=>yK Lb [b,g] c h5 λj h7=>aA 2 (ju f) h7 λm h7=>ap (aA 2 (ju f)) m (yK Zl [m,j] c h7 λo h10=>yS 3 (fM f) o h10 λq h12=>n f h12) 3 [h5,h2,h]) 1 [h]) kT))))
def s44:aE:=cA b44 (λk f h=>AV.onPtr (fM f) λo i=>cellsOf o h λcs _=>ldropC i cs λcs=>ltake 3 cs λx0=>AV.force (.agg x0) λr1=>k r1 h)
def b45:CT F8:=(kQ (kR λc f h n=>bU (a8 f) h λa h=>bK a f λf=>bU (aT f) h λb h=>ci b f λf=>ce 4294967360 [B0,E0,E0] h λd h=>fo d f λf=>n f h) (kQ (kQ (kR λc f h n=>yF 2 (aU f) h λa h=>yL a h λb h=>ls false b (.str [1]) h λd h=>ah d true h (yF 2 (bf f) h) λe h=>ah d true h (yL e h) λg h=>ah d true h (ls false g (.str [1]) h) λi h=>gr d i B0 h λj h=>cF j f λf=>n f h) (kI cR (kQ (kR λc f h n=>yF 0 (aU f) h λa h=>aA 2 a h λb h=>yF 0 (bf f) h λd h=>aA 2 d h λe h=>yK Lb [b,e] c h λg h=>yK YB [g] c h λi h=>yS 3 (fM f) i h λj h=>n f h) kT) kS)) (kQ (kR λc f h n=>yF 0 (aU f) h λa h=>aA 2 a h λb h=>yF 0 (bf f) h λd h=>aA 2 d h λe h=>yK Lb [b,e] c h λg h5=>aA 3 (aU f) h5 λj h5=>ap (aA 3 (aU f)) j (yK Le [j] c h5 λl h8=>aA 3 (bf f) h8 λo h8=>ap (aA 3 (bf f)) o (yK Le [o] c h8 λp h11=>yK Lb [l,p] c h11 λr h13=>yK Zl [g,r] c h13 λt h15=>yS 3 (fM f) t h15 λv h17=>n f h17) 2 [h5,h]) 1 [h]) kT)))
def s45:aE:=cA b45 (λk f h=>AV.onPtr (fM f) λo i=>cellsOf o h λcs _=>ldropC i cs λcs=>ltake 3 cs λx0=>AV.force (.agg x0) λr1=>k r1 h)
def ZC:aE:=Fc zg IJ rR
def YQ:aE:=LM Ba
def s59:aE:=B8
def YN:aE:=wo Lv Oo Lq uS rR
def YR:aE:=AR KE Oo uS Lq
def Y1:aE:=PC rR
def b74:CT ar:=(kQ (kR λc f h n=>bU (cS f) h λa h=>Lh a f λf=>fi J0 f λf=>n f h) (kQ (kR λc f h n=>yF 0 (cQ f) h λa h=>aA 2 a h λb h=>yK ae0 [b] c h λd h3=>yF 2 (cQ f) h3 λg h3=>yL g h3 λi h3=>ap (yL g) i (yK RJ [i] c h3 λj h7=>jt d f λf=>io j f λf=>n f h7) 1 [h]) (kQ (kB 0 (kQ (kR λc f h n=>lA (bH f) J1 h λa h=>ah a false h (eH (cu f) h) λb h=>ah a false h (lA b J1 h) λd h=>gr a B1 d h λe h=>ah e false h (yF 2 (cQ f) h) λg h=>ah e false h (yL g h) λi h=>ah e false h (ls false i E0 h) λj h=>gr e B1 j h λl h=>gP l f λf8=>n f8 h) (kI cP (kQ (kR λc f h n=>fi J1 f λf=>n f h) kT) (kQ (kR λc f h n=>zb (bH f) J0 h λa h=>ij a f λf1=>n f1 h) (kI cX (kQ (kR λc f h n=>AV.force (bH f) λa=>fi a f λf1=>n f1 h) kT) (kQ (kR λc f h n=>zb (cu f) J0 h λa h=>fF a f λf1=>n f1 h) (kI cr (kQ (kR λc f h n=>AV.force (cu f) λa=>fi a f λf1=>n f1 h) kT) (kQ (kR λc f h n=>yF 2 (cQ f) h λa h=>yL a h λb h=>ls true b (.str [1]) h λd h=>ah d true h (yF 0 (cQ f) h) λe h=>ah d true h (yF 1 e h) λg h=>ah d true h (yL g h) λi h=>ah d true h (yF 2 (cQ f) h) λj h=>ah d true h (yL j h) λl h=>ah d true h (yK zg [i,l] c h) λm h=>ah d true h (ls true m (.str [1]) h) λo h=>gr d o B0 h λp h=>ie p f λf=>n f h) (kI c5 (kQ (kR λc f h n=>fi J1 f λf=>n f h) kT) kS))))))))) (kQ (kR λc f h n=>fi J0 f λf=>n f h) kT))))
def s74:aE:=GQ b74 (r1 cY)
def YS:aE:=su
def b78:CT F8:=(kQ (kR λc f h n=>bU (a8 f) h λa h=>ci a f λf=>bU (aT f) h λb h=>bK b f λf=>ce 4294967360 [B0,E0,E0] h λd h=>cF d f λf=>n f h) (kQ (kR λc f h n=>aA 3 (aU f) h λa h=>yK Iw [a] c h λb h2=>aA 3 (bf f) h2 λe h2=>ap (aA 3 (bf f)) e (yK wj [e,b] c h2 λg h5=>yS 3 (cR f) g h5 λj h7=>n f h7) 1 [h]) kT))
def s78:aE:=cA b78 (λk f h=>AV.onPtr (cR f) λo i=>cellsOf o h λcs _=>ldropC i cs λcs=>ltake 3 cs λx0=>AV.force (.agg x0) λr1=>k r1 h)
def b89:CT F8:=(kQ (kR λc f h n=>bU (a8 f) h λa h=>df a f λf=>ce 4294967360 [B0,E0,E0] h λb h=>bK b f λf=>n f h) (kQ (kR λc f h n=>aA 2 (aT f) h λa h=>gu [B0,E0,E0] [⟨0,2,a⟩,⟨2,1,(.str [1])⟩] h λb h=>yS 3 (aU f) b h λd h=>n f h) kT))
def s89:aE:=b7 b89 (λk f h=>AV.onPtr (aU f) λo i=>cellsOf o h λcs _=>ldropC i cs λcs=>ltake 3 cs λx0=>AV.force (.agg x0) λr1=>k r1 h)
def b90:CT F8:=(kQ (kR λc f h n=>bU (a8 f) h λa h=>bK a f λf=>bU (aT f) h λb h=>ci b f λf=>ce 4294967358 [B0,E0] h λd h=>fo d f λf=>n f h) (kQ (kQ (kR λc f h n=>yF 0 (aU f) h λa h=>yL a h λb h=>yF 0 (bf f) h λd h=>yL d h λe h=>Hx false false [0] b e h λg h=>cF g f λf=>n f h) (kI cR (kQ (kR λc f h n=>yF 1 (aU f) h λa h=>yL a h λb h=>yF 1 (bf f) h λd h=>yL d h λe h=>yK Xf [b,e] c h λg h5=>yF 0 (aU f) h5 λj h5=>yL j h5 λl h5=>ap (yL j) l (yK Ap [l,g] c h5 λm h9=>yS 2 (fM f) m h9 λp h11=>n f h11) 1 [h]) kT) kS)) (kQ (kQ (kR λc f h n=>yF 1 (aU f) h λa h=>yL a h λb h=>yF 1 (bf f) h λd h=>yL d h λe h=>yK LP [b,e] c h λg h=>m9 g J0 h λi h=>jG i f λf=>n f h) (kI ju (kQ (kR λc f h n=>yF 1 (aU f) h λa h=>yL a h λb h=>yF 1 (bf f) h λd h=>yL d h λe h=>yK NM [b,e] c h λg h5=>yF 0 (aU f) h5 λj h5=>yL j h5 λl h5=>ap (yL j) l (yK Ap [l,g] c h5 λm h9=>yS 2 (fM f) m h9 λp h11=>n f h11) 1 [h]) kT) kS)) (kQ (kR λc f h n=>yF 1 (bf f) h λa h=>yL a h λb h=>yF 1 (aU f) h λd h=>yL d h λe h=>yK NM [b,e] c h λg h5=>yF 0 (bf f) h5 λj h5=>yL j h5 λl h5=>ap (yL j) l (yK Ap [l,g] c h5 λm h9=>yS 2 (fM f) m h9 λp h11=>n f h11) 1 [h]) kT))))
def s90:aE:=cA b90 (λk f h=>AV.onPtr (fM f) λo i=>cellsOf o h λcs _=>ldropC i cs λcs=>ltake 2 cs λx0=>AV.force (.agg x0) λr1=>k r1 h)
def b91:CT F8:=(kQ (kR λc f h n=>bU (a8 f) h λa h=>bK a f λf=>bU (aT f) h λb h=>ci b f λf=>ce 4294967358 [B0,E0] h λd h=>cF d f λf=>n f h) (kQ (kR λc f h n=>yF 1 (aU f) h λa h=>yL a h λb h=>yF 1 (bf f) h λd h=>yL d h λe h=>yK Lt [b,e] c h λg h5=>yF 0 (aU f) h5 λj h5=>yL j h5 λl h5=>ap (yL j) l (yF 0 (bf f) h5 λm h5=>yL m h5 λo h5=>ap (yL m) o (Hx true false [0] l o h5 λp h5=>yK Ap [p,g] c h5 λq h12=>yS 2 (cR f) q h12 λs h14=>n f h14) 1 [h]) 1 [h]) kT))
def s91:aE:=cA b91 (λk f h=>AV.onPtr (cR f) λo i=>cellsOf o h λcs _=>ldropC i cs λcs=>ltake 2 cs λx0=>AV.force (.agg x0) λr1=>k r1 h)
def b92:CT F8:=(kQ (kR λc f h n=>bU (a8 f) h λa h=>df a f λf=>ce 4294967358 [B0,E0] h λb h=>bK b f λf=>n f h) (kQ (kR λc f h n=>yF 2 (aT f) h λa h=>yL a h λb h=>gu [B0,E0] [⟨1,1,b⟩] h λd h=>yS 2 (aU f) d h λe h=>n f h) kT))
def s92:aE:=b7 b92 (λk f h=>AV.onPtr (aU f) λo i=>cellsOf o h λcs _=>ldropC i cs λcs=>ltake 2 cs λx0=>AV.force (.agg x0) λr1=>k r1 h)
def b93:CT ar:=(kQ (kR λc f h n=>bU (cS f) h λa h=>ij a f λf=>bU (cQ f) h λb h=>jt b f λf=>ce 4294967360 [B0,E0,E0] h λd h=>gP d f λf=>n f h) (kQ (kQ (kR λc f h n=>yF 1 (bH f) h λa h=>yL a h λb h=>ls false b E0 h λd h=>io d f λf=>n f h) (kI cu (kQ (kR λc f h n=>gu [B0,E0,E0] [⟨2,1,(.str [1])⟩] h λa h=>yS 3 (cP f) a h λb h=>n f h) kT) kS)) (kQ (kR λc f h n=>yF 1 (cX f) h λa h=>yL a h λb h=>yF 1 (bH f) h λd h=>yL d h λe h=>yK LT [b,e] c h λg h=>fF g f λf=>n f h) (kQ (kR λc f h n=>yF 1 (cX f) h λa h=>yL a h λb h=>yK KK [b,cr f] c h λd h=>yT 0 d h λe h=>yT 1 d h λg h=>ie e f λf5=>n f5 h) (kQ (kR λc f h n=>yF 1 (bH f) h λa h=>yL a h λb h=>yK KK [b,cr f] c h λd h=>yT 0 d h λe h=>yT 1 d h λg h=>fi e f λf5=>n f5 h) (kQ (kR λc f h n=>yF 0 (cX f) h λa h=>yL a h λb h=>yF 0 (bH f) h λd h=>yL d h λe h=>Hx true false [0] b e h λg h=>yK Ap [g,c5 f] c h λi h=>gu [B0,E0,E0] [⟨0,2,i⟩,⟨2,1,(cY f)⟩] h λj h=>yS 3 (cP f) j h λl h=>n f h) kT))))))
def s93:aE:=gY b93 (λk f h=>AV.onPtr (cP f) λo i=>cellsOf o h λcs _=>ldropC i cs λcs=>ltake 3 cs λx0=>AV.force (.agg x0) λr1=>k r1 h)
def b95:CT F8:=(kQ (kR λc f h n=>bU (a8 f) h λa h=>df a f λf=>fo J0 f λf=>n f h) (kQ (kQ (kR λc f h n=>yF 0 (aT f) h λa h=>aA 2 a h λb h=>yK ab9 [b] c h λd h=>qZ d h λe h=>ah e false h (yF 2 (aT f) h) λg h=>ah e false h (yL g h) λi h=>ah e false h (yK XD [i] c h) λj h=>ah e false h (qZ j h) λl h=>gr e B1 l h λm h=>ah m false h (yF 2 (aT f) h) λo h=>ah m false h (yL o h) λp h=>ah m false h (ls false p E0 h) λq h=>gr m B1 q h λr h=>bK r f λf=>n f h) (kI aU (kQ (kR λc f h n=>fo J1 f λf=>n f h) kT) kS)) (kQ (kQ (kR λc f h n=>aA 3 (aT f) h λa h=>yK aah [a] c h λb h=>zb b J0 h λd h=>ci d f λf=>n f h) (kI bf (kQ (kR λc f h n=>fo J4 f λf=>n f h) kT) kS)) (kQ (kQ (kR λc f h n=>yF 0 (aT f) h λa h=>yF 1 a h λb h=>yL b h λd h=>yF 2 (aT f) h λe h=>yL e h λg h=>yK LT [d,g] c h λi h=>ls true i (.str [1]) h λj h=>cF j f λf=>n f h) (kI cR (kQ (kR λc f h n=>fo J1 f λf=>n f h) kT) kS)) (kQ (kR λc f h n=>fo J0 f λf=>n f h) kT)))))
def s95:aE:=b7 b95 (r1 fM)
def aeZ:CT F8:=(kQ (kR λc f h n=>bU (a8 f) h λa h=>ci a f λf=>bU (aT f) h λb h=>bK b f λf=>ce 4294967360 [B0,E0,E0] h λd h=>cF d f λf=>n f h) (kQ (kR λc f h n=>aA 3 (aU f) h λa h=>yK Z1 [a] c h λb h2=>aA 3 (bf f) h2 λe h2=>ap (aA 3 (bf f)) e (yK IC [e,b] c h2 λg h5=>yS 3 (cR f) g h5 λj h7=>n f h7) 1 [h]) kT))
def TR:aE:=cA aeZ (λk f h=>AV.onPtr (cR f) λo i=>cellsOf o h λcs _=>ldropC i cs λcs=>ltake 3 cs λx0=>AV.force (.agg x0) λr1=>k r1 h)
def UK:aE:=NX Gd PP CK
def Tc:aE:=sx Gd PP CK
def Uw:aE:=Ku
def SU:aE:=YI CK
def Qc:aE:=zG N8 rR MT Hc
def Xj:aE:=NG Gd T6 CK
def Qo:aE:=K0 uS rR
def aeX:CT ar:=(kQ (kR λc f h n=>Jp .nils f λf=>n f h) (kQ (kQ (kR λc f h n=>lA (cS f) J0 h λa h=>ij a f λf1=>n f1 h) (kI cX (kQ (kR λc f h n=>yI 3 (cQ f) J0 h λa h=>aA 3 a h λb h=>yI 3 (bH f) J0 h λd h=>aA 3 d h λe h=>yK wj [b,e] c h λg h5=>rP 1 [B0,E0,E0] [⟨0,3,g⟩] h5 λj h7=>bQ true h5 (Jp j f λf8=>n f8 h7) [h]) kT) kS)) (kQ (kR λc f h n=>yL (cu f) h λa h=>yD (cS f) J1 h λb h=>yI 2 a b h λd h=>aA 2 d h λe h=>ce 4294967417 [J0,.nils] h λg h=>fF g f λf5=>yS 2 (cr f5) e h λj h=>n f5 h) (kQ (kR λc f h n=>yF 0 (cr f) h λa h=>yL a h λb h=>yK Ka [cQ f,b] c h λd h3=>yF 0 (cr f) h3 λg h3=>yL g h3 λi h3=>ap (yL g) i (yK Ka [bH f,i] c h3 λj h7=>ie d f λf8=>nX j f8 λf9=>n f9 h7) 1 [h]) (kQ (kR λc f h n=>yI 1 (c5 f) J0 h λa h=>yL a h λb h=>bN b h λd h=>gE d f λf3=>n f3 h) (kQ (kR λc f h n=>yF 0 (cr f) h λa h=>yL a h λb h=>yM J2 b h λd h=>yD d J1 h λe h=>sa 1 24 [.nils] e e h λg h=>fi g f λf=>n f h) (kQ (kQ (kR λc f h n=>bN (cY f) h λa h=>db a f λf1=>iW J0 f1 λf2=>n f2 h) (kB 0 (kL (kQ (kR λc f h n=>ct (dG f) (bx f) h λa h=>dc a f λf=>n f h) (kQ (kI cH kS (kX 0)) (kQ (kB 1 (kQ (kR λc f h n=>AV.force (dG f) λa=>fB a f λf1=>n f1 h) (kR λc f h n=>yK P8 [c6 f] c h λa h=>yI 1 (cY f) (dp f) h λb h=>yS 1 b a h λd h=>n f h))) (kR λc f h n=>yA (dG f) J1 h λa h=>iW a f λf=>n f h))))))) (kQ (kQ (kR λc f h n=>bN (c5 f) h λa h=>kM a f λf1=>fJ J0 f1 λf2=>n f2 h) (kB 2 (kL (kQ (kR λc f h n=>ct (dB f) (iu f) h λa h=>nc a f λf=>n f h) (kQ (kI lu kS (kX 2)) (kQ (kB 3 (kQ (kR λc f h n=>AV.force (dB f) λa=>i7 a f λf1=>n f1 h) (kQ (kQ (kR λc f h n=>yI 1 (c5 f) (jH f) h λa h=>yL a h λb h=>yK Hn [b] c h λd h=>kw d f λf3=>n f3 h) (kI iw (kX 3) kS)) (kQ (kR λc f h n=>bN (rY f) h λa h=>oF a f λf1=>m6 J0 f1 λf2=>n f2 h) (kB 4 (kL (kQ (kR λc f h n=>ct (nU f) (sN f) h λa h=>wZ a f λf=>n f h) (kQ (kI B6 kS (kX 4)) (kQ (kB 5 (kQ (kR λc f h n=>AV.force (nU f) λa=>C5 a f λf1=>n f1 h) (kQ (kR λc f h n=>yI 1 (rY f) (wV f) h λa h=>yL a h λb h=>yK Hn [b] c h λd h=>qZ d h λe h=>Gv e f λf4=>n f4 h) (kI Hg (kR λc f h n=>yL (cP f) h λa h=>yD (cS f) J1 h λb h=>yI 1 (c5 f) (jH f) h λd h=>yL d h λe h=>yI 1 (rY f) (wV f) h λg h=>yL g h λi h=>KW a [b,e,i] c h λj h7=>yA (jH f) (wV f) h7 λm h7=>yI 1 (cY f) m h7 λo h7=>yL o h7 λp h7=>ap (yL o) p (yK NQ [p,j] c h7 λq h12=>yA (jH f) (wV f) h12 λs h12=>yI 1 (cY f) s h12 λt h12=>yS 1 t q h12 λu h16=>n f h16) 1 [h]) kS)))) (kR λc f h n=>yA (nU f) J1 h λa h=>m6 a f λf=>n f h)))))))))) (kR λc f h n=>yA (dB f) J1 h λa h=>fJ a f λf=>n f h))))))) (kQ (kQ (kR λc f h n=>bN (cY f) h λa h=>yD a J1 h λb h=>w8 b f λf2=>n f2 h) (kB 6 (kL (kQ (kQ (kR λc f h n=>yF 0 (cr f) h λa h=>yL a h λb h=>m9 (sP f) b h λd h=>u6 d f λf3=>n f3 h) (kI xC kS (kX 6))) (kQ (kB 7 (kQ (kQ (kR λc f h n=>yI 1 (cY f) (sP f) h λa h=>yL a h λb h=>yK Hn [b] c h λd h=>Om d f λf3=>n f3 h) (kI T5 (kX 7) kS)) (kQ (kR λc f h n=>yF 1 (cr f) h λa h=>yL a h λb h=>NR b f λf=>bN (P5 f) h λd h=>LC d f λf=>HD J0 f λf=>n f h) (kB 8 (kL (kQ (kR λc f h n=>ct (I8 f) (UX f) h λa h=>M1 a f λf=>n f h) (kQ (kI WI kS (kX 8)) (kQ (kB 9 (kQ (kR λc f h n=>yI 1 (P5 f) (I8 f) h λa h=>yL a h λb h=>AV.force (I8 f) λd=>PY d f λf3=>Ri b f3 λf4=>n f4 h) (kQ (kR λc f h n=>yK Hn [XQ f] c h λa h=>qZ a h λb h=>Qb b f λf2=>n f2 h) (kI aeR (kR λc f h n=>yL (cP f) h λa h=>yD (cS f) J1 h λb h=>yI 1 (cY f) (sP f) h λd h=>yL d h λe h=>KW a [b,e,XQ f] c h λg h5=>yF 0 (cr f) h5 λj h5=>yL j h5 λl h5=>ap (yL j) l (yD (sP f) l h5 λm h5=>yA m (Va f) h5 λo h5=>yI 1 (cY f) o h5 λp h5=>yL p h5 λq h5=>ap (yL p) q (yK NQ [q,g] c h5 λr h13=>yF 0 (cr f) h13 λt h13=>yL t h13 λu h13=>ap (yL t) u (yD (sP f) u h13 λv h13=>yA v (Va f) h13 λw h13=>yI 1 (cY f) w h13 λx h13=>yS 1 x r h13 λy h20=>n f h20) 2 [h5,h]) 1 [h]) 1 [h]) kS)))) (kR λc f h n=>yA (I8 f) J1 h λa h=>HD a f λf=>n f h))))))))) (kR λc f h n=>yD (sP f) J1 h λa h=>w8 a f λf1=>n f1 h)))))) (kQ (kR λc f h n=>Ms .nils f λf=>n f h) (kQ (kQ (kR λc f h n=>yF 0 (cr f) h λa h=>yL a h λb h=>yX 1 (cY f) none (some b) none h λd h=>PN d f λf3=>bN (Uq f3) h λg h=>QC g f3 λf5=>N9 J0 f5 λf6=>n f6 h) (kB 10 (kL (kQ (kR λc f h n=>ct (P7 f) (abF f) h λa h=>QZ a f λf=>n f h) (kQ (kI aai kS (kX 10)) (kQ (kB 11 (kQ (kR λc f h n=>yI 1 (Uq f) (P7 f) h λa h=>yL a h λb h=>RO b f λf=>n f h) (kR λc f h n=>r8 3 40 3 (Xi f) (acH f) h λa h=>Ms a f λf1=>n f1 h))) (kR λc f h n=>yA (P7 f) J1 h λa h=>N9 a f λf=>n f h))))))) (kQ (kR λc f h n=>AV.force (Xi f) λa=>Jp a f λf1=>n f1 h) kT))))))))))))
def U4:aE:=Ue aeX (r1 Zz)
def abf:CT ar:=(kQ (kR λc f h n=>fi .nils f λf=>n f h) (kQ (kR λc f h n=>sa 1 24 [.nils] (cQ f) (cQ f) h λa h=>jt a f λf1=>n f1 h) (kQ (kR λc f h n=>bN (cS f) h λa h=>yQ a (cQ f) h λb h=>ie b f λf2=>n f2 h) (kQ (kQ (kR λc f h n=>bN (bH f) h λa h=>gP a f λf1=>io J0 f1 λf2=>n f2 h) (kB 0 (kL (kQ (kR λc f h n=>ct (cu f) (cP f) h λa h=>ij a f λf=>n f h) (kQ (kI cX kS (kX 0)) (kQ (kB 1 (kQ (kR λc f h n=>AV.force (cu f) λa=>fF a f λf1=>n f1 h) (kR λc f h n=>yM (cr f) (c5 f) h λa h=>yA (cr f) J1 h λb h=>yM b (c5 f) h λd h=>yA (cr f) J1 h λe h=>yM e (c5 f) h λg h=>yX 3 (cS f) (some a) (some d) (some g) h λi h=>yI 1 (bH f) (cr f) h λj h=>yS 1 j i h λl h=>n f h))) (kR λc f h n=>yA (cu f) J1 h λa h=>io a f λf=>n f h))))))) (kQ (kR λc f h n=>AV.force (bH f) λa=>fi a f λf1=>n f1 h) kT)))))
def Tj:aE:=gY abf (r1 cY)
def abE:CT F8:=(kQ (kR λc f h n=>jG .nils f λf=>n f h) (kQ (kR λc f h n=>sa 3 40 [B0,E0,E0] (a8 f) (a8 f) h λa h=>df a f λf1=>n f1 h) (kQ (kQ (kR λc f h n=>bN (aT f) h λa h=>ci a f λf1=>bK J0 f1 λf2=>n f2 h) (kB 0 (kL (kQ (kR λc f h n=>ct (aU f) (bf f) h λa h=>cF a f λf=>n f h) (kQ (kI cR kS (kX 0)) (kQ (kB 1 (kQ (kR λc f h n=>AV.force (aU f) λa=>fo a f λf1=>n f1 h) (kR λc f h n=>yK uN [J0] c h λa h=>yI 3 (aT f) (fM f) h λb h=>yS 3 b a h λd h=>n f h))) (kR λc f h n=>yA (aU f) J1 h λa h=>bK a f λf=>n f h))))))) (kQ (kR λc f h n=>AV.force (aT f) λa=>jG a f λf1=>n f1 h) kT))))
def Vi:aE:=b7 abE (r1 ju)
def abJ:CT F8:=(kQ (kR λc f h n=>ns B0 f λf=>n f h) (kQ (kQ (kR λc f h n=>AV.force (a8 f) λa=>cF a f λf=>bN (cR f) h λb h=>bK b f λf=>df J0 f λf=>n f h) (kB 0 (kL (kQ (kR λc f h n=>ct (aT f) (aU f) h λa h=>ci a f λf=>n f h) (kQ (kI bf kS (kX 0)) (kQ (kB 1 (kQ (kR λc f h n=>yI 3 (cR f) (aT f) h λa h=>aA 3 a h λb h=>ce 4294967360 [B0,E0,E0] h λd h=>fo d f λf=>yS 3 (fM f) b h λe h=>n f h) (kQ (kR λc f h n=>aA 3 (fM f) h λa h=>yK R7 [a] c h λb h=>qZ b h λd h=>jG d f λf=>n f h) (kI ju (kQ (kR λc f h n=>ns B0 f λf=>n f h) kT) kS)))) (kR λc f h n=>yA (aT f) J1 h λa h=>df a f λf=>n f h))))))) (kQ (kR λc f h n=>ns B1 f λf=>n f h) kT)))
def WA:aE:=b7 abJ (r1 Dl)
def abA:CT F8:=(kQ (kR λc f h n=>ns .nils f λf=>n f h) (kQ (kR λc f h n=>bN (a8 f) h λa h=>sa 3 40 [B0,E0,E0] a a h λb h=>jG b f λf2=>n f2 h) (kQ (kQ (kR λc f h n=>bN (a8 f) h λa h=>ci a f λf1=>bK J0 f1 λf2=>n f2 h) (kB 0 (kL (kQ (kR λc f h n=>ct (aU f) (bf f) h λa h=>cF a f λf=>n f h) (kQ (kI cR kS (kX 0)) (kQ (kB 1 (kQ (kR λc f h n=>AV.force (aU f) λa=>fo a f λf1=>n f1 h) (kR λc f h n=>yI 3 (a8 f) (fM f) h λa h=>aA 3 a h λb h=>yI 3 (aT f) (fM f) h λd h=>aA 3 d h λe h=>yK Hv [b,e] c h λg h5=>yI 3 (ju f) (fM f) h5 λj h5=>yS 3 j g h5 λl h8=>n f h8))) (kR λc f h n=>yA (aU f) J1 h λa h=>bK a f λf=>n f h))))))) (kQ (kR λc f h n=>AV.force (ju f) λa=>ns a f λf1=>n f1 h) kT))))
def Um:aE:=cA abA (r1 Dl)
def Y5:CT F8:=(kQ (kR λc f h n=>bU (a8 f) h λa h=>bK a f λf=>bU (aT f) h λb h=>ci b f λf=>cF B0 f λf=>n f h) (kQ (kR λc f h n=>yF 0 (aU f) h λa h=>aA 6 a h λb h=>yF 0 (bf f) h λd h=>aA 6 d h λe h=>yK QO [b,e] c h λg h=>ah g false h (yF 6 (aU f) h) λi h=>ah g false h (aA 6 i h) λj h=>ah g false h (yF 6 (bf f) h) λl h=>ah g false h (aA 6 l h) λm h=>ah g false h (yK QO [j,m] c h) λo h=>gr g B1 o h λp h=>cF p f λf=>n f h) kT))
def SJ:aE:=cA Y5 (r1 cR)
def adQ:CT F8:=(kQ (kR λc f h n=>bU (a8 f) h λa h=>df a f λf=>ce 4294967430 [B0,E0,E0,B0,E0,E0,B0,E0,E0,B0,E0,E0] h λb h=>bK b f λf=>n f h) (kQ (kR λc f h n=>yK W2 [] c h λa h1=>aA 6 (aT f) h1 λd h1=>ap (aA 6 (aT f)) d (gu [B0,E0,E0,B0,E0,E0,B0,E0,E0,B0,E0,E0] [⟨0,6,d⟩,⟨6,6,a⟩] h1 λe h1=>yS 12 (aU f) e h1 λg h5=>n f h5) 1 [h]) kT))
def Ug:aE:=b7 adQ (λk f h=>AV.onPtr (aU f) λo i=>cellsOf o h λcs _=>ldropC i cs λcs=>ltake 12 cs λx0=>AV.force (.agg x0) λr1=>k r1 h)
def ack:CT F8:=(kQ (kR λc f h n=>ce 4294967428 [B0,E0,E0,B0,E0,E0] h λa h=>yz a f λf=>n f h) (kQ (kR λc f h n=>yK uN [J0] c h λa h=>yK u3 [a] c h λb h=>yS 6 (a8 f) b h λd h=>n f h) kT))
def Uo:aE:=XI ack (λk f h=>AV.onPtr (a8 f) λo i=>cellsOf o h λcs _=>ldropC i cs λcs=>ltake 6 cs λx0=>AV.force (.agg x0) λr1=>k r1 h)
def ade:CT F8:=(kQ (kR λc f h n=>bU (a8 f) h λa h=>df a f λf=>fo J0 f λf=>n f h) (kQ (kR λc f h n=>yF 1 (aT f) h λa h=>yL a h λb h=>yK RJ [b] c h λd h=>bK d f λf=>n f h) (kB 0 (kQ (kR λc f h n=>lA (aU f) J1 h λa h=>ci a f λf1=>n f1 h) (kI bf (kQ (kR λc f h n=>AV.force (aU f) λa=>fo a f λf1=>n f1 h) kT) (kQ (kR λc f h n=>yK abG [] c h λa h1=>aA 2 (aT f) h1 λd h1=>ap (aA 2 (aT f)) d (Hx true true [0,2] d a h1 λe h1=>ah e true h1 (yF 1 (aT f) h1) λg h1=>ah e true h1 (yL g h1) λi h1=>ah e true h1 (ls false i E0 h1) λj h1=>gr e j B0 h1 λl h1=>cF l f λf=>n f h1) 1 [h]) (kI cR (kQ (kR λc f h n=>fo J1 f λf=>n f h) kT) (kQ (kR λc f h n=>AV.force (aU f) λa=>fo a f λf1=>n f1 h) kT))))))))
def Vh:aE:=b7 ade (r1 fM)
def adz:CT F8:=(kQ (kR λc f h n=>ci J0 f λf=>n f h) (kQ (kQ (kR λc f h n=>tn (a8 f) h λa h=>nE a J0 h λb h=>ah b true h (eH (a8 f) h) λd h=>ah b true h (Lg d J0 h) λe h=>ah b true h (lA e (W 0) h) λg h=>gr b g B0 h λi h=>df i f λf6=>n f6 h) (kI aT (kQ (kR λc f h n=>ci J1 f λf=>n f h) kT) kS)) (kQ (kQ (kR λc f h n=>tn (a8 f) h λa h=>nE a (.int .i64 (.ofNat 1024)) h λb h=>bK b f λf2=>n f2 h) (kI aU (kQ (kR λc f h n=>ci J4 f λf=>n f h) kT) kS)) (kQ (kR λc f h n=>ci J0 f λf=>n f h) kT))))
def VR:aE:=b7 adz (r1 bf)
def Mg:aE:=UD
def QM:aE:=ta IJ Ba N8 Hc rR
def MK:aE:=O9 zg
def aew:CT F8:=(kQ (kR λc f h n=>df E0 f λf=>n f h) (kQ (kR λc f h n=>BA (a8 f) (.int .u64 (.ofNat 4294967295)) h λa h=>sC (a8 f) (.int .u64 (.ofNat 32)) h λb h=>rP 2 [U0,U0] [⟨0,1,a⟩,⟨1,1,b⟩] h λd h=>yK F4 [d] c h λe h=>df e f λf4=>n f4 h) kT))
def Ub:aE:=b7 aew (r1 aT)
def adp:CT F8:=(kQ (kR λc f h n=>ce 4294967358 [B0,E0] h λa h=>bK a f λf=>n f h) (kQ (kR λc f h n=>ah (a8 f) true h (eH (aT f) h) λa h=>ah (a8 f) true h (ls true a E0 h) λb h=>gr (a8 f) b B0 h λd h=>gu [B0,E0] [⟨0,1,d⟩,⟨1,1,(aT f)⟩] h λe h=>yS 2 (aU f) e h λg h=>n f h) kT))
def Xh:aE:=cA adp (λk f h=>AV.onPtr (aU f) λo i=>cellsOf o h λcs _=>ldropC i cs λcs=>ltake 2 cs λx0=>AV.force (.agg x0) λr1=>k r1 h)
def Vl:aE:=ZT Kp F4
def UW:aE:=af3
def TW:aE:=adJ LP Kp F4
def SW:aE:=NP Kp F4
def U5:aE:=MU KK
def TQ:aE:=sn Kp XT F4
def aaU:CT F8:=(kQ (kR λc f h n=>bU (a8 f) h λa h=>df a f λf=>cF J0 f λf=>n f h) (kQ (kB 0 (kQ (kR λc f h n=>yF 0 (aT f) h λa h=>yL a h λb h=>bK b f λf=>n f h) (kI aU (kQ (kR λc f h n=>cF (.int .i64 (.negSucc 0)) f λf=>n f h) kT) (kQ (kR λc f h n=>yF 1 (aT f) h λa h=>yL a h λb h=>ls false b E0 h λd h=>ci d f λf=>n f h) (kI bf (kQ (kR λc f h n=>cF J0 f λf=>n f h) kT) kS))))) (kQ (kR λc f h n=>cF J1 f λf=>n f h) kT)))
def SR:aE:=b7 aaU (r1 cR)
def Zr:CT F8:=(kQ (kR λc f h n=>bU (a8 f) h λa h=>df a f λf=>bK B0 f λf=>n f h) (kQ (kR λc f h n=>yF 1 (aT f) h λa h=>yL a h λb h=>yK XD [b] c h λd h=>ah d true h (yF 0 (aT f) h) λe h=>ah d true h (yL e h) λg h=>ah d true h (qZ g h) λi h=>ah d true h (eH i h) λj h=>ah j false h (yF 1 (aT f) h) λl h=>ah j false h (yL l h) λm h=>ah j false h (ls true m E0 h) λo h=>ah d true h (gr j B1 o h) λp h=>gr d p B0 h λq h=>bK q f λf=>n f h) kT))
def S0:aE:=b7 Zr (r1 aU)
def abT:CT F8:=(kQ (kR λc f h n=>df B0 f λf=>n f h) (kQ (kR λc f h n=>ls false (a8 f) E0 h λa h=>ah a false h (eH (a8 f) h) λb h=>ah a false h (Lg b J0 h) λd h=>ah a false h (zb d (W 0) h) λe h=>gr a B1 e h λg h=>df g f λf5=>n f5 h) kT))
def Wp:aE:=b7 abT (r1 aT)
def acO:CT F8:=(kQ (kR λc f h n=>bU (a8 f) h λa h=>df a f λf=>ci J0 f λf=>n f h) (kQ (kQ (kR λc f h n=>yF 0 (aT f) h λa h=>aA 2 a h λb h=>yK ael [b] c h λd h=>zb d J0 h λe h=>bK e f λf=>n f h) (kI aU (kQ (kR λc f h n=>ci J4 f λf=>n f h) kT) kS)) (kQ (kR λc f h n=>yF 2 (aT f) h λa h=>yL a h λb h=>yK Xl [b] c h λd h=>ci d f λf=>n f h) kT)))
def Xa:aE:=b7 acO (r1 bf)
def acM:CT F8:=(kQ (kR λc f h n=>cF B0 f λf=>n f h) (kQ (kQ (kR λc f h n=>df J0 f λf=>n f h) (kB 0 (kL (kQ (kQ (kR λc f h n=>bN (a8 f) h λa h=>ct (aT f) a h λb h=>bK b f λf2=>n f2 h) (kI aU kS (kX 0))) (kQ (kB 1 (kQ (kR λc f h n=>yI 3 (a8 f) (aT f) h λa h=>aA 3 a h λb h=>yK W3 [b] c h λd h=>qZ d h λe h=>ci e f λf4=>n f4 h) (kI bf (kQ (kR λc f h n=>cF B0 f λf=>n f h) kT) kS))) (kR λc f h n=>yA (aT f) J1 h λa h=>df a f λf1=>n f1 h)))))) (kQ (kR λc f h n=>cF B1 f λf=>n f h) kT)))
def VC:aE:=b7 acM (r1 cR)
def acA:CT F8:=(kQ (kR λc f h n=>cF J0 f λf=>n f h) (kQ (kR λc f h n=>ci J1 f λf=>n f h) (kQ (kQ (kR λc f h n=>df J0 f λf=>n f h) (kB 0 (kL (kQ (kQ (kR λc f h n=>bN (a8 f) h λa h=>ct (aT f) a h λb h=>bK b f λf2=>n f2 h) (kI aU kS (kX 0))) (kQ (kB 1 (kR λc f h n=>yI 2 (a8 f) (aT f) h λa h=>yF 0 a h λb h=>yL b h λd h=>yM (bf f) d h λe h=>ci e f λf4=>n f4 h)) (kR λc f h n=>yA (aT f) J1 h λa h=>df a f λf1=>n f1 h)))))) (kQ (kR λc f h n=>AV.force (bf f) λa=>cF a f λf1=>n f1 h) kT))))
def Uu:aE:=b7 acA (r1 cR)
def aan:CT F8:=(kQ (kR λc f h n=>cF .nils f λf=>n f h) (kQ (kR λc f h n=>ci .nils f λf=>n f h) (kQ (kQ (kR λc f h n=>df J0 f λf=>n f h) (kB 0 (kL (kQ (kQ (kR λc f h n=>ct (aT f) (a8 f) h λa h=>bK a f λf1=>n f1 h) (kI aU kS (kX 0))) (kQ (kB 1 (kR λc f h n=>yK Yv [J0] c h λa h=>rP 1 [B0,E0,E0] [⟨0,3,a⟩] h λb h=>r8 3 40 3 (bf f) b h λd h=>ci d f λf3=>n f3 h)) (kR λc f h n=>yA (aT f) J1 h λa h=>df a f λf1=>n f1 h)))))) (kQ (kR λc f h n=>AV.force (bf f) λa=>cF a f λf1=>n f1 h) kT))))
def UL:aE:=b7 aan (r1 cR)
def aem:CT ar:=(kQ (kR λc f h n=>u6 .nils f λf=>n f h) (kQ (kQ (kR λc f h n=>bN (cS f) h λa h=>lA a J0 h λb h=>io b f λf2=>n f2 h) (kI cu (kQ (kR λc f h n=>yI 3 (cQ f) J0 h λa h=>aA 3 a h λb h=>yI 3 (bH f) J0 h λd h=>aA 3 d h λe h=>yK IC [b,e] c h λg h5=>rP 1 [B0,E0,E0] [⟨0,3,g⟩] h5 λj h7=>bQ true h5 (u6 j f λf8=>n f8 h7) [h]) kT) kS)) (kQ (kR λc f h n=>bN (cS f) h λa h=>yD a J1 h λb h=>yI 2 (cS f) b h λd h=>aA 2 d h λe h=>ce 4294967417 [J0,.nils] h λg h=>ij g f λf5=>yS 2 (cX f5) e h λj h=>n f5 h) (kQ (kR λc f h n=>bN (cS f) h λa h=>yD a J1 h λb h=>yX 2 (cS f) none (some b) none h λd h=>gP d f λf3=>n f3 h) (kQ (kR λc f h n=>yK Y6 [cP f] c h λa h1=>yF 0 (cX f) h1 λd h1=>yL d h1 λe h1=>ap (yL d) e (db a f λf4=>ie e f4 λf5=>n f5 h1) 1 [h]) (kQ (kR λc f h n=>iW .nils f λf=>n f h) (kQ (kQ (kR λc f h n=>fF J0 f λf=>n f h) (kB 0 (kL (kQ (kQ (kR λc f h n=>yM J2 (c5 f) h λa h=>yD a J1 h λb h=>ct (cr f) b h λd h=>fi d f λf3=>n f3 h) (kI cY kS (kX 0))) (kQ (kB 1 (kR λc f h n=>yK acW [bx f] c h λa h=>rP 1 [.nils] [⟨0,1,a⟩] h λb h=>r8 1 24 65571 (dG f) b h λd h=>iW d f λf3=>n f3 h)) (kR λc f h n=>yA (cr f) J1 h λa h=>fF a f λf1=>n f1 h)))))) (kQ (kQ (kR λc f h n=>dc J0 f λf=>n f h) (kB 2 (kL (kQ (kQ (kR λc f h n=>ct (cH f) (c5 f) h λa h=>fB a f λf1=>n f1 h) (kI dp kS (kX 2))) (kQ (kB 3 (kQ (kR λc f h n=>yM (cH f) (bx f) h λa h=>yM (cH f) (bx f) h λb h=>yA b (bx f) h λd h=>yX 3 (cQ f) (some a) (some d) none h λe h=>fJ e f λf4=>n f4 h) (kQ (kR λc f h n=>gE J0 f λf=>n f h) (kB 4 (kL (kQ (kQ (kR λc f h n=>ct (c6 f) (c5 f) h λa h=>ah a true h (eH (dB f) h) λb h=>ah a true h (yK MO [b] c h) λd h=>ah a true h (qZ d h) λe h=>gr a e B0 h λg h=>kM g f λf5=>n f5 h) (kI iu kS (kX 4))) (kQ (kB 5 (kQ (kR λc f h n=>yM (c6 f) (bx f) h λa h=>yM (c6 f) (bx f) h λb h=>yA b (bx f) h λd h=>yX 3 (bH f) (some a) (some d) none h λe h=>nc e f λf4=>n f4 h) (kQ (kR λc f h n=>yK MO [lu f] c h λa h=>qZ a h λb h=>i7 b f λf2=>n f2 h) (kI jH (kR λc f h n=>yK QE [cP f,dB f,lu f] c h λa h1=>yA (cH f) (c6 f) h1 λd h1=>yI 1 (dG f) d h1 λe h1=>yL e h1 λg h1=>ap (yL e) g (yK Th [g,a] c h1 λi h6=>yA (cH f) (c6 f) h6 λl h6=>yI 1 (dG f) l h6 λm h6=>yS 1 m i h6 λo h10=>n f h10) 1 [h]) kS)))) (kR λc f h n=>yA (c6 f) J1 h λa h=>gE a f λf1=>n f1 h)))))))) (kR λc f h n=>yA (cH f) J1 h λa h=>dc a f λf1=>n f1 h)))))) (kQ (kQ (kR λc f h n=>yM J2 (c5 f) h λa h=>yD a J2 h λb h=>kw b f λf2=>n f2 h) (kB 6 (kL (kQ (kQ (kR λc f h n=>m9 (iw f) (c5 f) h λa h=>nX a f λf1=>n f1 h) (kI rY kS (kX 6))) (kQ (kB 7 (kQ (kR λc f h n=>m6 J0 f λf=>n f h) (kB 8 (kL (kQ (kQ (kR λc f h n=>ct (nU f) (c5 f) h λa h=>ah a true h (eH (dG f) h) λb h=>ah a true h (eH (iw f) h) λd h=>ah a true h (yI 1 b d h) λe h=>ah a true h (yL e h) λg h=>ah a true h (yK MO [g] c h) λi h=>ah a true h (qZ i h) λj h=>gr a j B0 h λl h=>oF l f λf8=>n f8 h) (kI sN kS (kX 8))) (kQ (kB 9 (kQ (kR λc f h n=>yF 1 (cX f) h λa h=>yL a h λb h=>yI 1 b (nU f) h λd h=>yL d h λe h=>yK MO [e] c h λg h=>qZ g h λi h=>wZ i f λf6=>n f6 h) (kI B6 (kR λc f h n=>yI 1 (dG f) (iw f) h λa h=>yL a h λb h=>yF 1 (cX f) h λd h=>yL d h λe h=>yI 1 e (nU f) h λg h=>yL g h λi h=>yK QE [cP f,b,i] c h λj h7=>yD (iw f) (c5 f) h7 λm h7=>yA m (nU f) h7 λo h7=>yI 1 (dG f) o h7 λp h7=>yL p h7 λq h7=>ap (yL p) q (yK Th [q,j] c h7 λr h13=>yD (iw f) (c5 f) h13 λt h13=>yA t (nU f) h13 λu h13=>yI 1 (dG f) u h13 λv h13=>yS 1 v r h13 λw h18=>n f h18) 1 [h]) kS))) (kR λc f h n=>yA (nU f) J1 h λa h=>m6 a f λf1=>n f1 h))))))) (kR λc f h n=>yD (iw f) J1 h λa h=>kw a f λf1=>n f1 h)))))) (kQ (kR λc f h n=>w8 .nils f λf=>n f h) (kQ (kQ (kR λc f h n=>C5 J0 f λf=>n f h) (kB 10 (kL (kQ (kQ (kR λc f h n=>ct (wV f) (c5 f) h λa h=>Gv a f λf1=>n f1 h) (kI Hg kS (kX 10))) (kQ (kB 11 (kR λc f h n=>yI 1 (dG f) (wV f) h λa h=>yL a h λb h=>r8 3 40 3 (sP f) b h λd h=>w8 d f λf3=>n f3 h)) (kR λc f h n=>yA (wV f) J1 h λa h=>C5 a f λf1=>n f1 h)))))) (kQ (kR λc f h n=>AV.force (sP f) λa=>u6 a f λf1=>n f1 h) kT))))))))))))
def WX:aE:=vi aem (r1 xC)
def ZO:CT F8:=(kQ (kR λc f h n=>bU (a8 f) h λa h=>df a f λf=>ce 4294967360 [B0,E0,E0] h λb h=>ci b f λf=>n f h) (kQ (kQ (kR λc f h n=>yF 0 (aT f) h λa h=>yF 1 a h λb h=>yL b h λd h=>ls false d E0 h λe h=>bK e f λf=>n f h) (kI aU (kQ (kR λc f h n=>aA 3 (aT f) h λa h=>yS 3 (bf f) a h λb h=>n f h) kT) kS)) (kQ (kR λc f h n=>yF 0 (aT f) h λa h=>yF 0 a h λb h=>yL b h λd h=>yF 2 (aT f) h λe h=>yL e h λg h=>gu [B0,E0] [⟨0,1,d⟩,⟨1,1,g⟩] h λi h=>yF 0 (aT f) h λj h=>yF 1 j h λl h=>yL l h λm h=>gu [B0,E0,E0] [⟨0,2,i⟩,⟨2,1,m⟩] h λo h=>yS 3 (bf f) o h λp h=>n f h) kT)))
def WL:aE:=b7 ZO (λk f h=>AV.onPtr (bf f) λo i=>cellsOf o h λcs _=>ldropC i cs λcs=>ltake 3 cs λx0=>AV.force (.agg x0) λr1=>k r1 h)
def adN:CT F8:=(kQ (kR λc f h n=>bU (a8 f) h λa h=>bK a f λf=>bU (aT f) h λb h=>ci b f λf=>ce 4294967541 [B0,E0,E0,B0,E0,E0] h λd h=>cF d f λf=>n f h) (kQ (kR λc f h n=>yF 0 (aU f) h λa h=>aA 3 a h λb h=>yF 0 (bf f) h λd h=>aA 3 d h λe h=>yK IC [b,e] c h λg h5=>yF 3 (aU f) h5 λj h5=>aA 3 j h5 λl h5=>ap (aA 3 j) l (yF 3 (bf f) h5 λm h5=>aA 3 m h5 λo h5=>ap (aA 3 m) o (yK IC [l,o] c h5 λp h11=>yK abB [g,p] c h11 λr h13=>yF 0 (aU f) h13 λt h13=>aA 3 t h13 λu h13=>ap (aA 3 t) u (yF 3 (bf f) h13 λv h13=>aA 3 v h13 λw h13=>ap (aA 3 v) w (yK IC [u,w] c h13 λx h19=>yF 3 (aU f) h19 λz h19=>aA 3 z h19 λv21 h19=>ap (aA 3 z) v21 (yF 0 (bf f) h19 λv22 h19=>aA 3 v22 h19 λv23 h19=>ap (aA 3 v22) v23 (yK IC [v21,v23] c h19 λv24 h25=>yK Qn [x,v24] c h25 λv26 h27=>gu [B0,E0,E0,B0,E0,E0] [⟨0,3,r⟩,⟨3,3,v26⟩] h27 λv28 h27=>yS 6 (cR f) v28 h27 λv29 h30=>n f h30) 4 [h13,h11,h5,h]) 4 [h13,h11,h5,h]) 3 [h11,h5,h]) 3 [h11,h5,h]) 1 [h]) 1 [h]) kT))
def U6:aE:=cA adN (λk f h=>AV.onPtr (cR f) λo i=>cellsOf o h λcs _=>ldropC i cs λcs=>ltake 6 cs λx0=>AV.force (.agg x0) λr1=>k r1 h)
def aaa:CT F8:=(kQ (kR λc f h n=>bU (a8 f) h λa h=>df a f λf=>bK B0 f λf=>n f h) (kQ (kR λc f h n=>yF 0 (aT f) h λa h=>yF 1 a h λb h=>yL b h λd h=>ls false d E0 h λe h=>bK e f λf=>n f h) kT))
def Yc:aE:=b7 aaa (r1 aU)
def acN:CT F8:=(kQ (kR λc f h n=>bU (a8 f) h λa h=>ci a f λf=>bU (aT f) h λb h=>bK b f λf=>ce 4294967360 [B0,E0,E0] h λd h=>cF d f λf=>n f h) (kQ (kR λc f h n=>aA 3 (aU f) h λa h=>yK aac [a] c h λb h2=>aA 3 (bf f) h2 λe h2=>ap (aA 3 (bf f)) e (yK Qn [e,b] c h2 λg h5=>yS 3 (cR f) g h5 λj h7=>n f h7) 1 [h]) kT))
def SV:aE:=cA acN (λk f h=>AV.onPtr (cR f) λo i=>cellsOf o h λcs _=>ldropC i cs λcs=>ltake 3 cs λx0=>AV.force (.agg x0) λr1=>k r1 h)
def WC:aE:=xj FM
def Xx:aE:=GL Vb RF FM Q4 Wz XN
def We:aE:=tz FM
def Xz:aE:=JK Gd Mj CK
def S9:aE:=MS
def Ut:aE:=M4 Gd QH CK
def VA:aE:=DU QP Mj FM
def aao:CT ar:=(kQ (kR λc f h n=>fi J0 f λf=>n f h) (kQ (kQ (kR λc f h n=>AV.force (cS f) λa=>gP a f λf=>bN (cP f) h λb h=>jt b f λf=>Lh J0 f λf=>n f h) (kB 0 (kL (kQ (kR λc f h n=>ct (cQ f) (bH f) h λa h=>io a f λf=>n f h) (kQ (kI cu kS (kX 0)) (kQ (kB 1 (kQ (kR λc f h n=>yI 3 (cP f) (cQ f) h λa h=>aA 3 a h λb h=>ce 4294967360 [B0,E0,E0] h λd h=>ij d f λf=>yS 3 (cX f) b h λe h=>n f h) (kQ (kR λc f h n=>aA 3 (cX f) h λa h=>yK q74 [a] c h λb h=>fF b f λf=>n f h) (kQ (kR λc f h n=>zb (cr f) J0 h λa h=>ie a f λf1=>n f1 h) (kI c5 (kQ (kR λc f h n=>AV.force (cr f) λa=>fi a f λf1=>n f1 h) kT) kS))))) (kR λc f h n=>yA (cQ f) J1 h λa h=>Lh a f λf=>n f h))))))) (kQ (kR λc f h n=>fi J0 f λf=>n f h) kT)))
def UG:aE:=GQ aao (r1 cY)
def Lk:aE:=OS Eh Hv
def Ml:aE:=Ff Mo Eh
def UZ:aE:=M3 aeV adH Lw
def abI:CT F8:=(kQ (kR λc f h n=>bU (a8 f) h λa h=>bK a f λf=>bU (aT f) h λb h=>ci b f λf=>ce 4294967430 [B0,E0,E0,B0,E0,E0,B0,E0,E0,B0,E0,E0] h λd h=>cF d f λf=>n f h) (kQ (kR λc f h n=>gu [.nilf] [⟨0,1,(.fn 332 [] [])⟩] h λa h=>aA 12 (aU f) h λb h=>aA 12 (bf f) h λd h=>yK RA [a,b,d] c h λe h=>yS 12 (cR f) e h λg h=>n f h) kT))
def Ux:aE:=cA abI (λk f h=>AV.onPtr (cR f) λo i=>cellsOf o h λcs _=>ldropC i cs λcs=>ltake 12 cs λx0=>AV.force (.agg x0) λr1=>k r1 h)
def aej:CT F8:=(kQ (kR λc f h n=>bU (a8 f) h λa h=>ci a f λf=>bU (aT f) h λb h=>bK b f λf=>ce 4294967430 [B0,E0,E0,B0,E0,E0,B0,E0,E0,B0,E0,E0] h λd h=>cF d f λf=>n f h) (kQ (kR λc f h n=>yMF 334 [] [aU f] h λa h=>gu [.nilf] [⟨0,1,a⟩] h λb h=>aA 12 (bf f) h λd h=>aA 12 (bf f) h λe h=>yK RA [b,d,e] c h λg h=>yS 12 (cR f) g h λi h=>n f h) kT))
def Vf:aE:=cA aej (λk f h=>AV.onPtr (cR f) λo i=>cellsOf o h λcs _=>ldropC i cs λcs=>ltake 12 cs λx0=>AV.force (.agg x0) λr1=>k r1 h)
def adk:CT F8:=(kQ (kR λc f h n=>bU (a8 f) h λa h=>bK a f λf=>bU (aT f) h λb h=>ci b f λf=>cF B0 f λf=>n f h) (kQ (kR λc f h n=>aA 6 (aU f) h λa h=>aA 6 (bf f) h λb h=>Hx true true [0,2,2,0,2,2] a b h λd h=>ah d true h (yF 3 (aU f) h) λe h=>ah d true h (aA 3 e h) λg h=>ah d true h (yF 0 (bf f) h) λi h=>ah d true h (aA 3 i h) λj h=>ah d true h (yK HJ [g,j] c h) λl h=>ah d true h (eH l h) λm h=>ah m false h (yF 3 (bf f) h) λo h=>ah m false h (aA 3 o h) λp h=>ah m false h (yF 0 (aU f) h) λq h=>ah m false h (aA 3 q h) λr h=>ah m false h (yK HJ [p,r] c h) λs h=>ah d true h (gr m B1 s h) λt h=>gr d t B0 h λu h=>cF u f λf=>n f h) kT))
def Tt:aE:=cA adk (r1 cR)
def Nj:aE:=Jg
def aeD:CT F8:=(kQ (kR λc f h n=>bU (a8 f) h λa h=>df a f λf=>ce 4294967360 [B0,E0,E0] h λb h=>bK b f λf=>n f h) (kQ (kR λc f h n=>yF 0 (aT f) h λa h=>aA 3 a h λb h=>yF 3 (aT f) h λd h=>aA 3 d h λe h=>yK Hv [b,e] c h λg h=>yK uN [J2] c h λi h=>yK RW [g,i] c h λj h=>yS 3 (aU f) j h λl h=>n f h) kT))
def Yd:aE:=b7 aeD (λk f h=>AV.onPtr (aU f) λo i=>cellsOf o h λcs _=>ldropC i cs λcs=>ltake 3 cs λx0=>AV.force (.agg x0) λr1=>k r1 h)
def MH:aE:=Ky VO uS rR
def LF:aE:=E5 OR NF
def Z6:CT ar:=(kQ (kR λc f h n=>bU (cQ f) h λa h=>io a f λf=>ce 4294967430 [B0,E0,E0,B0,E0,E0,B0,E0,E0,B0,E0,E0] h λb h=>ij b f λf=>n f h) (kQ (kQ (kR λc f h n=>aA 12 (cu f) h λa h=>yK adO [a] c h λb h=>gP b f λf=>n f h) (kI cP (kQ (kR λc f h n=>yF 0 (cu f) h λa h=>aA 6 a h λb h=>yK aeq [cS f,b,bH f] c h λd h=>yK CY [d] c h λe h=>yS 12 (cX f) e h λg h=>n f h) kT) kS)) (kQ (kR λc f h n=>yK Wj [cS f] c h λa h=>iW a f λf1=>n f1 h) (kQ (kQ (kR λc f h n=>ie J0 f λf=>n f h) (kB 0 (kL (kQ (kQ (kR λc f h n=>aA 12 (cu f) h λa h=>yK Oc [a,bH f] c h λb h=>qZ b h λd h=>fF d f λf3=>n f3 h) (kI cr kS (kX 0))) (kB 1 (kQ (kB 2 (kL (kQ (kQ (kR λc f h n=>aA 12 (cu f) h λa h=>yA (c5 f) J1 h λb h=>yK Oc [a,b] c h λd h=>fi d f λf3=>n f3 h) (kI cY kS (kX 2))) (kB 3 (kR λc f h n=>yA (c5 f) J1 h λa h=>ie a f λf1=>n f1 h))))) (kQ (kR λc f h n=>aA 12 (cu f) h λa h=>yK acJ [cS f,dG f,a,c5 f,bH f] c h λb h=>yT 0 b h λd h=>yT 1 b h λe h=>ce 4294967430 [B0,E0,E0,B0,E0,E0,B0,E0,E0,B0,E0,E0] h λg h=>fB g f λf5=>yS 12 (dp f5) d h λj h=>db e f5 λf7=>n f7 h) (kQ (kQ (kR λc f h n=>AV.force (bx f) λa=>dc a f λf=>n f h) (kI cH (kQ (kR λc f h n=>aA 12 (dp f) h λa h=>yS 12 (cu f) a h λb h=>n f h) (kX 1)) kS)) (kQ (kR λc f h n=>aA 12 (cu f) h λa h=>yK Zo [cS f,a] c h λb h=>yT 0 b h λd h=>yT 1 b h λe h=>ce 4294967430 [B0,E0,E0,B0,E0,E0,B0,E0,E0,B0,E0,E0] h λg h=>fJ g f λf5=>ce 4294967430 [B0,E0,E0,B0,E0,E0,B0,E0,E0,B0,E0,E0] h λj h=>gE j f5 λf7=>yS 12 (dB f7) d h λm h=>yS 12 (c6 f7) e h λo h=>n f7 h) (kQ (kR λc f h n=>aA 12 (c6 f) h λa h=>yS 12 (cu f) a h λb h=>n f h) (kQ (kR λc f h n=>aA 12 (dB f) h λa h=>yK ZA [cS f,a] c h λb h=>lA b J1 h λd h=>kM d f λf3=>n f3 h) (kI iu (kR λc f h n=>aA 12 (dB f) h λa h=>yS 12 (cu f) a h λb h=>n f h) kS)))))))))))) (kQ (kR λc f h n=>aA 12 (cu f) h λa h=>yS 12 (cX f) a h λb h=>n f h) kT)))))
def T4:aE:=vi Z6 (λk f h=>AV.onPtr (cX f) λo i=>cellsOf o h λcs _=>ldropC i cs λcs=>ltake 12 cs λx0=>AV.force (.agg x0) λr1=>k r1 h)
def Ze:CT ar:=(kQ (kR λc f h n=>bU (cS f) h λa h=>ie a f λf=>ce 4294967430 [B0,E0,E0,B0,E0,E0,B0,E0,E0,B0,E0,E0] h λb h=>fi b f λf=>n f h) (kQ (kR λc f h n=>yK uN [J1] c h λa h=>yK u3 [a] c h λb h=>yK CY [b] c h λd h=>ce 4294967430 [B0,E0,E0,B0,E0,E0,B0,E0,E0,B0,E0,E0] h λe h=>fF e f λf=>yS 12 (cr f) d h λg h=>n f h) (kQ (kQ (kR λc f h n=>AV.force (cQ f) λa=>gP a f λf=>io J0 f λf=>n f h) (kB 0 (kL (kQ (kR λc f h n=>ct (cu f) (cP f) h λa h=>ij a f λf=>n f h) (kQ (kI cX kS (kX 0)) (kQ (kB 1 (kR λc f h n=>aA 12 (cr f) h λa h=>aA 12 (c5 f) h λb h=>yK BM [a,b] c h λd h=>yK Qt [d,bH f] c h λe h=>yS 12 (cr f) e h λg h=>n f h)) (kR λc f h n=>yA (cu f) J1 h λa h=>io a f λf=>n f h))))))) (kQ (kR λc f h n=>aA 12 (cr f) h λa h=>yS 12 (cY f) a h λb h=>n f h) kT))))
def Tp:aE:=vi Ze (λk f h=>AV.onPtr (cY f) λo i=>cellsOf o h λcs _=>ldropC i cs λcs=>ltake 12 cs λx0=>AV.force (.agg x0) λr1=>k r1 h)
def Lr:aE:=IE L7
def aey:CT F8:=(kQ (kR λc f h n=>bU (a8 f) h λa h=>df a f λf=>ce 4294967360 [B0,E0,E0] h λb h=>bK b f λf=>n f h) (kQ (kR λc f h n=>yF 3 (aT f) h λa h=>aA 3 a h λb h=>yF 0 (aT f) h λd h=>aA 3 d h λe h=>yK NA [b,e] c h λg h=>yS 3 (aU f) g h λi h=>n f h) kT))
def UA:aE:=b7 aey (λk f h=>AV.onPtr (aU f) λo i=>cellsOf o h λcs _=>ldropC i cs λcs=>ltake 3 cs λx0=>AV.force (.agg x0) λr1=>k r1 h)
def aea:CT F8:=(kQ (kR λc f h n=>ce 4294967358 [B0,E0] h λa h=>yz a f λf=>n f h) (kQ (kR λc f h n=>gu [B0,E0] [] h λa h=>yS 2 (a8 f) a h λb h=>n f h) kT))
def Tu:aE:=XI aea (λk f h=>AV.onPtr (a8 f) λo i=>cellsOf o h λcs _=>ldropC i cs λcs=>ltake 2 cs λx0=>AV.force (.agg x0) λr1=>k r1 h)
def aar:CT F8:=(kQ (kR λc f h n=>cF .nils f λf=>n f h) (kQ (kR λc f h n=>ci .nils f λf=>n f h) (kQ (kQ (kR λc f h n=>df J1 f λf=>n f h) (kB 0 (kL (kQ (kQ (kR λc f h n=>bN (a8 f) h λa h=>ct (aT f) a h λb h=>bK b f λf2=>n f2 h) (kI aU kS (kX 0))) (kQ (kB 1 (kR λc f h n=>yK uN [aT f] c h λa h1=>yI 3 (a8 f) (aT f) h1 λd h1=>aA 3 d h1 λe h1=>ap (aA 3 d) e (yK wj [e,a] c h1 λg h5=>rP 1 [B0,E0,E0] [⟨0,3,g⟩] h5 λj h7=>bQ true h5 (r8 3 40 3 (bf f) j h7 λm h9=>ci m f λf10=>n f10 h9) [h1,h]) 1 [h])) (kR λc f h n=>yA (aT f) J1 h λa h=>df a f λf1=>n f1 h)))))) (kQ (kR λc f h n=>yK Ca [bf f] c h λa h=>cF a f λf1=>n f1 h) kT))))
def XE:aE:=b7 aar (r1 cR)
def ab0:CT F8:=(kQ (kR λc f h n=>cF .nils f λf=>n f h) (kQ (kB 0 (kL (kQ (kQ (kR λc f h n=>bN (aT f) h λa h=>nE a J0 h λb h=>bK b f λf2=>n f2 h) (kI aU kS (kX 0))) (kB 1 (kQ (kR λc f h n=>yK Yb [a8 f,aT f] c h λa h=>yT 0 a h λb h=>yT 1 a h λd h=>ci d f λf3=>n f3 h) (kR λc f h n=>yK P2 [aT f] c h λa h=>yK P2 [bf f] c h λb h=>yz a f λf2=>df b f2 λf3=>n f3 h)))))) (kQ (kR λc f h n=>yK P2 [a8 f] c h λa h=>cF a f λf1=>n f1 h) kT)))
def VX:aE:=cA ab0 (r1 cR)
def aca:CT ar:=(kQ (kR λc f h n=>nX .nils f λf=>m6 .nils f λf=>n f h) (kQ (kR λc f h n=>yK ZW [cS f] c h λa h=>gP a f λf1=>n f1 h) (kQ (kR λc f h n=>bN (cQ f) h λa h=>jt a f λf1=>n f1 h) (kQ (kQ (kR λc f h n=>bN (cS f) h λa h=>ct a (bH f) h λb h=>io b f λf2=>n f2 h) (kI cu (kQ (kR λc f h n=>nX .nils f λf0=>AV.force (cP f) λb=>m6 b f0 λf2=>n f2 h) kT) kS)) (kQ (kR λc f h n=>bN (cS f) h λa h=>yD a (bH f) h λb h=>yA b J1 h λd h=>sa 3 40 [B0,E0,E0] d d h λe h=>ij e f λf4=>n f4 h) (kQ (kQ (kR λc f h n=>bN (cX f) h λa h=>ie a f λf1=>fF J0 f1 λf2=>n f2 h) (kB 0 (kL (kQ (kR λc f h n=>ct (cr f) (c5 f) h λa h=>fi a f λf=>n f h) (kQ (kI cY kS (kX 0)) (kQ (kB 1 (kQ (kR λc f h n=>AV.force (cr f) λa=>iW a f λf1=>n f1 h) (kR λc f h n=>yK uN [J0] c h λa h=>yI 3 (cX f) (dG f) h λb h=>yS 3 b a h λd h=>n f h))) (kR λc f h n=>yA (cr f) J1 h λa h=>fF a f λf=>n f h))))))) (kQ (kR λc f h n=>yD (bH f) J1 h λa h=>yI 3 (cQ f) a h λb h=>aA 3 b h λd h=>yK Iw [d] c h λe h=>ce 4294967360 [B0,E0,E0] h λg h=>fB g f λf5=>yS 3 (dp f5) e h λj h=>n f5 h) (kQ (kQ (kR λc f h n=>bN (cS f) h λa h=>yD a (bH f) h λb h=>db b f λf2=>n f2 h) (kB 2 (kL (kQ (kQ (kR λc f h n=>m9 (bx f) J0 h λa h=>dc a f λf1=>n f1 h) (kI cH kS (kX 2))) (kQ (kB 3 (kQ (kR λc f h n=>yA (bx f) (bH f) h λa h=>yD a J1 h λb h=>yI 3 (cP f) b h λd h=>aA 3 d h λe h=>aA 3 (dp f) h λg h=>yK wj [e,g] c h λi h6=>ce 4294967360 [B0,E0,E0] h6 λl h8=>bQ true h6 (gE l f λf9=>yS 3 (c6 f9) i h8 λp h11=>n f9 h11) [h]) (kQ (kR λc f h n=>aA 3 (c6 f) h λa h=>yI 3 (cX f) (bx f) h λb h=>yS 3 b a h λd h=>n f h) (kQ (kQ (kR λc f h n=>aA 3 (c6 f) h λa h=>yK R7 [a] c h λb h=>fJ b f λf=>n f h) (kI dB (kX 3) kS)) (kQ (kR λc f h n=>bN (cQ f) h λa h=>nc a f λf1=>kM J0 f1 λf2=>n f2 h) (kB 4 (kL (kQ (kR λc f h n=>ct (iu f) (lu f) h λa h=>i7 a f λf=>n f h) (kQ (kI jH kS (kX 4)) (kQ (kB 5 (kQ (kR λc f h n=>AV.force (iu f) λa=>kw a f λf1=>n f1 h) (kR λc f h n=>aA 3 (c6 f) h λa h=>yI 3 (cQ f) (iw f) h λb h=>aA 3 b h λd h=>yK wj [a,d] c h λe h4=>yA (bx f) (iw f) h4 λi h4=>yI 3 (cP f) i h4 λj h4=>aA 3 j h4 λl h4=>ap (aA 3 j) l (yK NA [l,e] c h4 λm h9=>yA (bx f) (iw f) h9 λp h9=>yI 3 (cP f) p h9 λq h9=>yS 3 q m h9 λr h13=>n f h13) 1 [h]))) (kR λc f h n=>yA (iu f) J1 h λa h=>kM a f λf=>n f h))))))))))) (kR λc f h n=>yD (bx f) J1 h λa h=>db a f λf1=>n f1 h)))))) (kQ (kR λc f h n=>yK Ca [cX f] c h λa h1=>yD (bH f) J1 h1 λd h1=>yX 3 (cP f) none (some d) none h1 λe h1=>yK Ca [e] c h1 λg h5=>nX a f λf6=>m6 g f6 λf7=>n f7 h5) kT)))))))))
def Wf:aE:=gY aca (r2 rY nU)
def abh:CT F8:=(kQ (kR λc f h n=>ns .nils f λf=>n f h) (kQ (kR λc f h n=>bN (a8 f) h λa h=>bN (aT f) h λb h=>GW a b h λd h=>sa 3 40 [B0,E0,E0] d d h λe h=>bK e f λf4=>n f4 h) (kQ (kQ (kR λc f h n=>bN (aU f) h λa h=>cF a f λf1=>ci J0 f1 λf2=>n f2 h) (kB 0 (kL (kQ (kR λc f h n=>ct (bf f) (cR f) h λa h=>fo a f λf=>n f h) (kQ (kI fM kS (kX 0)) (kQ (kB 1 (kQ (kR λc f h n=>AV.force (bf f) λa=>jG a f λf1=>n f1 h) (kR λc f h n=>yK MY [a8 f,ju f] c h λa h=>yK MY [aT f,ju f] c h λb h=>yK NA [a,b] c h λd h=>yI 3 (aU f) (ju f) h λe h=>yS 3 e d h λg h=>n f h))) (kR λc f h n=>yA (bf f) J1 h λa h=>ci a f λf=>n f h))))))) (kQ (kR λc f h n=>yK Ca [aU f] c h λa h=>ns a f λf1=>n f1 h) kT))))
def XM:aE:=cA abh (r1 Dl)
def Re:aE:=Jy MT
def Tg:aE:=wE
def Ve:aE:=qP Rl
def Wo:aE:=xV Rl
def aaW:CT F8:=(kQ (kR λc f h n=>bU (a8 f) h λa h=>df a f λf=>bK J0 f λf=>n f h) (kQ (kR λc f h n=>yF 1 (aT f) h λa h=>yL a h λb h=>yK Xl [b] c h λd h=>bK d f λf=>n f h) kT))
def XG:aE:=b7 aaW (r1 aU)
def Y4:CT F8:=(kQ (kR λc f h n=>bK J0 f λf=>n f h) (kQ (kQ (kR λc f h n=>tn (a8 f) h λa h=>nE a (.int .i64 (.ofNat 1024)) h λb h=>df b f λf2=>n f2 h) (kI aT (kQ (kR λc f h n=>bK J4 f λf=>n f h) kT) kS)) (kQ (kR λc f h n=>bK J0 f λf=>n f h) kT)))
def SN:aE:=b7 Y4 (r1 aU)
def adT:CT F8:=(kQ (kR λc f h n=>fo .nils f λf=>n f h) (kQ (kR λc f h n=>cF .nils f λf=>n f h) (kQ (kQ (kR λc f h n=>bK J0 f λf=>n f h) (kB 0 (kL (kQ (kQ (kR λc f h n=>bN (a8 f) h λa h=>ct (aU f) a h λb h=>ci b f λf2=>n f2 h) (kI bf kS (kX 0))) (kQ (kB 1 (kR λc f h n=>yI 3 (a8 f) (aU f) h λa h=>aA 3 a h λb h=>yI 3 (aT f) (aU f) h λd h=>aA 3 d h λe h=>yK Qn [b,e] c h λg h5=>rP 1 [B0,E0,E0] [⟨0,3,g⟩] h5 λj h7=>bQ true h5 (r8 3 40 3 (cR f) j h7 λm h9=>cF m f λf10=>n f10 h9) [h])) (kR λc f h n=>yA (aU f) J1 h λa h=>bK a f λf1=>n f1 h)))))) (kQ (kR λc f h n=>AV.force (cR f) λa=>fo a f λf1=>n f1 h) kT))))
def Vo:aE:=cA adT (r1 fM)
def aeL:CT F8:=(kQ (kR λc f h n=>bU (aT f) h λa h=>cF a f λf=>jG .nils f λf=>n f h) (kQ (kR λc f h n=>fo .nils f λf=>n f h) (kQ (kQ (kR λc f h n=>bK J0 f λf=>n f h) (kB 0 (kL (kQ (kQ (kR λc f h n=>bN (a8 f) h λa h=>ct (aU f) a h λb h=>ci b f λf2=>n f2 h) (kI bf kS (kX 0))) (kQ (kB 1 (kR λc f h n=>yI 3 (a8 f) (aU f) h λa h=>aA 3 a h λb h=>aA 3 (cR f) h λd h=>yK IC [b,d] c h λe h4=>rP 1 [B0,E0,E0] [⟨0,3,e⟩] h4 λi h6=>bQ true h4 (r8 3 40 3 (fM f) i h6 λl h8=>fo l f λf9=>n f9 h8) [h])) (kR λc f h n=>yA (aU f) J1 h λa h=>bK a f λf1=>n f1 h)))))) (kQ (kR λc f h n=>AV.force (fM f) λa=>jG a f λf1=>n f1 h) kT))))
def UU:aE:=cA aeL (r1 ju)
def acw:CT F8:=(kQ (kR λc f h n=>bU (a8 f) h λa h=>bK a f λf=>jG B0 f λf=>n f h) (kQ (kQ (kR λc f h n=>df J0 f λf=>n f h) (kB 0 (kL (kQ (kQ (kR λc f h n=>yF 2 (aU f) h λa h=>yL a h λb h=>tn b h λd h=>ct (aT f) d h λe h=>ci e f λf4=>n f4 h) (kI bf kS (kX 0))) (kQ (kB 1 (kQ (kR λc f h n=>yF 2 (aU f) h λa h=>yL a h λb h=>Lg b (aT f) h λd h=>cF d f λf3=>n f3 h) (kQ (kR λc f h n=>nE (aT f) J0 h λa h=>ah a true h (eH (cR f) h) λb h=>ah a true h (zb b (W 0) h) λd h=>gr a d B0 h λe h=>ah e false h (eH (aT f) h) λg h=>ah e false h (lA g J0 h) λi h=>ah e false h (eH i h) λj h=>ah j true h (eH (cR f) h) λl h=>ah j true h (eH (cR f) h) λm h=>ah j true h (yD m (W 1) h) λo h=>ah j true h (BA l o h) λp h=>ah j true h (zb p (W 0) h) λq h=>ah e false h (gr j q B0 h) λr h=>gr e B1 r h λs h=>fo s f λf14=>n f14 h) (kI fM (kQ (kR λc f h n=>jG B0 f λf=>n f h) kT) kS)))) (kR λc f h n=>yA (aT f) J1 h λa h=>df a f λf1=>n f1 h)))))) (kQ (kR λc f h n=>jG B1 f λf=>n f h) kT)))
def Vj:aE:=b7 acw (r1 ju)
def afd:CT F8:=(kQ (kR λc f h n=>bU (a8 f) h λa h=>ci a f λf=>bU (aT f) h λb h=>bK b f λf=>cF J0 f λf=>n f h) (kQ (kR λc f h n=>aA 3 (aU f) h λa h=>yK Le [a] c h λb h2=>yF 0 (bf f) h2 λe h2=>aA 2 e h2 λg h2=>ap (aA 2 e) g (yK Lb [g,b] c h2 λi h6=>aA 3 (bf f) h6 λl h6=>ap (aA 3 (bf f)) l (yK Le [l] c h6 λm h9=>yF 0 (aU f) h9 λp h9=>aA 2 p h9 λq h9=>ap (aA 2 p) q (yK Lb [q,m] c h9 λr h13=>yK acj [i,r] c h13 λt h15=>cF t f λf=>n f h15) 3 [h6,h2,h]) 2 [h2,h]) 1 [h]) kT))
def Wi:aE:=cA afd (r1 cR)
def aaz:CT F8:=(kQ (kR λc f h n=>bU (a8 f) h λa h=>bK a f λf=>bU (aT f) h λb h=>ci b f λf=>cF B0 f λf=>n f h) (kQ (kR λc f h n=>aA 3 (aU f) h λa h=>aA 3 (bf f) h λb h=>yK aaw [a,b] c h λd h=>ct d J0 h λe h=>cF e f λf=>n f h) kT))
def Vu:aE:=cA aaz (r1 cR)
def adw:CT F8:=(kQ (kR λc f h n=>bU (a8 f) h λa h=>df a f λf=>ce 4294967360 [B0,E0,E0] h λb h=>bK b f λf=>n f h) (kQ (kR λc f h n=>yF 0 (aT f) h λa h=>aA 2 a h λb h=>yK af7 [b] c h λd h3=>yF 2 (aT f) h3 λg h3=>yL g h3 λi h3=>ap (yL g) i (gu [B0,E0,E0] [⟨0,2,d⟩,⟨2,1,i⟩] h3 λj h3=>yS 3 (aU f) j h3 λl h8=>n f h8) 1 [h]) kT))
def XJ:aE:=b7 adw (λk f h=>AV.onPtr (aU f) λo i=>cellsOf o h λcs _=>ldropC i cs λcs=>ltake 3 cs λx0=>AV.force (.agg x0) λr1=>k r1 h)
def VG:aE:=vU
def SM:aE:=Fm
def Wh:aE:=wL Q4
def WY:aE:=E9 T3
def VB:aE:=yl
def XH:aE:=ES Mj RF QP QH
def UI:aE:=xu
def Nm:aE:=PD MB wj SG NF Lq
def M0:aE:=Xp SZ Lw
def N0:aE:=SP wj u3 T8
def NW:aE:=Vq Hv
def ZK:CT F8:=(kQ (kR λc f h n=>bU (a8 f) h λa h=>ci a f λf=>bU (aT f) h λb h=>cF b f λf=>bU (aU f) h λd h=>fo d f λf=>ce 4294967430 [B0,E0,E0,B0,E0,E0,B0,E0,E0,B0,E0,E0] h λe h=>jG e f λf=>n f h) (kQ (kR λc f h n=>yF 0 (bf f) h λa h=>yL a h λb h=>yF 0 (cR f) h λd h=>aA 6 d h λe h=>yF 0 (fM f) h λg h=>aA 6 g h λi h=>KW b [e,i] c h λj h7=>yF 0 (bf f) h7 λm h7=>yL m h7 λo h7=>ap (yL m) o (yF 6 (cR f) h7 λp h7=>aA 6 p h7 λq h7=>ap (aA 6 p) q (yF 6 (fM f) h7 λr h7=>aA 6 r h7 λs h7=>ap (aA 6 r) s (KW o [q,s] c h7 λt h15=>gu [B0,E0,E0,B0,E0,E0,B0,E0,E0,B0,E0,E0] [⟨0,6,j⟩,⟨6,6,t⟩] h15 λv h15=>yS 12 (ju f) v h15 λw h18=>n f h18) 1 [h]) 1 [h]) 1 [h]) kT))
def W5:aE:=DF ZK (λk f h=>AV.onPtr (ju f) λo i=>cellsOf o h λcs _=>ldropC i cs λcs=>ltake 12 cs λx0=>AV.force (.agg x0) λr1=>k r1 h)
def abs:CT F8:=(kQ (kR λc f h n=>bU (a8 f) h λa h=>ci a f λf=>bU (aT f) h λb h=>ce 4294967428 [B0,E0,E0,B0,E0,E0] h λd h=>cF d f λf=>n f h) (kQ (kR λc f h n=>aA 6 (bf f) h λa h=>yL (aU f) h λb h=>yK aeT [a,b] c h λd h=>yS 6 (cR f) d h λe h=>n f h) kT))
def Vv:aE:=DF abs (λk f h=>AV.onPtr (cR f) λo i=>cellsOf o h λcs _=>ldropC i cs λcs=>ltake 6 cs λx0=>AV.force (.agg x0) λr1=>k r1 h)
def Mi:aE:=HR Mo Eh
def Oj:aE:=HU CF
def TP:aE:=abo
def acQ:CT ar:=(kQ (kR λc f h n=>bU (cQ f) h λa h=>jt a f λf=>ce 4294967430 [B0,E0,E0,B0,E0,E0,B0,E0,E0,B0,E0,E0] h λb h=>kM b f λf=>ce 4294967430 [B0,E0,E0,B0,E0,E0,B0,E0,E0,B0,E0,E0] h λd h=>nc d f λf=>n f h) (kQ (kR λc f h n=>yF 0 (bH f) h λa h=>aA 6 a h λb h=>yK Nv [b] c h λd h3=>yF 6 (bH f) h3 λg h3=>aA 6 g h3 λi h3=>ap (aA 6 g) i (yK Nv [i] c h3 λj h7=>yK CF [d,j] c h7 λm h9=>m9 m J0 h9 λp h9=>io p f λf=>n f h9) 1 [h]) (kQ (kR λc f h n=>yF 6 (bH f) h λa h=>aA 6 a h λb h=>ce 4294967428 [B0,E0,E0,B0,E0,E0] h λd h=>ij d f λf=>yS 6 (cX f) b h λe h=>n f h) (kQ (kQ (kR λc f h n=>AV.force (cu f) λa=>gP a f λf=>n f h) (kI cP (kR λc f h n=>yF 0 (bH f) h λa h=>aA 6 a h λb h=>yS 6 (cX f) b h λd h=>n f h) kS)) (kQ (kR λc f h n=>fF J1 f λf=>n f h) (kB 0 (kL (kQ (kB 1 (kQ (kR λc f h n=>yD (cr f) J1 h λa h=>Ez J1 a h λb h=>ie b f λf2=>n f2 h) (kB 2 (kL (kQ (kQ (kR λc f h n=>nE (c5 f) J0 h λa h=>fi a f λf1=>n f1 h) (kI cY kS (kX 2))) (kQ (kB 3 (kQ (kQ (kR λc f h n=>yR (c5 f) J2 h λa h=>lA a J0 h λb h=>ah b true h (eH (cr f) h) λd h=>ah b true h (nE d J1 h) λe h=>gr b e B0 h λg h=>iW g f λf5=>n f5 h) (kI dG (kX 3) kS)) (kQ (kR λc f h n=>aA 6 (cX f) h λa h=>yK Nv [a] c h λb h2=>yK uN [c5 f] c h2 λe h4=>Dn (cr f) h4 λi h4=>yK MB [i] c h4 λj h7=>yK wj [e,j] c h7 λm h9=>yK wj [b,m] c h9 λp h11=>yF 0 (cX f) h11 λr h11=>aA 3 r h11 λs h11=>ap (aA 3 r) s (yK Hv [s,p] c h11 λt h15=>ce 4294967360 [B0,E0,E0] h15 λv h17=>bQ true h15 (db v f λf18=>yS 3 (bx f18) t h17 λy h20=>n f18 h20) [h11,h9,h7,h4,h2,h]) 5 [h9,h7,h4,h2,h]) (kQ (kQ (kR λc f h n=>aA 12 (bH f) h λa h=>aA 3 (bx f) h λb h=>yK ae2 [cS f,a,b,cu f] c h λd h=>dc d f λf3=>n f3 h) (kI cH (kX 3) kS)) (kQ (kR λc f h n=>aA 12 (bH f) h λa h=>ce 4294967430 [B0,E0,E0,B0,E0,E0,B0,E0,E0,B0,E0,E0] h λb h2=>bQ true h (gE b f λf=>ce 4294967430 [B0,E0,E0,B0,E0,E0,B0,E0,E0,B0,E0,E0] h2 λe h4=>bQ true h2 (fJ e f λf=>yS 12 (c6 f) a h4 λi h6=>aA 12 (bH f) h6 λl h6=>ap (aA 12 (bH f)) l (yS 12 (dB f) l h6 λm h9=>n f h9) 1 [h4]) []) []) (kQ (kQ (kR λc f h n=>AV.force (cu f) λa=>fB a f λf=>n f h) (kI dp (kR λc f h n=>aA 3 (bx f) h λa h=>yF 0 (c6 f) h λb h=>yF 3 b h λd h=>yS 3 d a h λe h4=>aA 3 (bx f) h4 λi h4=>ap (aA 3 (bx f)) i (yF 0 (dB f) h4 λj h4=>yF 0 j h4 λl h4=>yS 3 l i h4 λm h9=>n f h9) 1 [h]) (kR λc f h n=>aA 3 (bx f) h λa h=>yF 6 (c6 f) h λb h=>yF 3 b h λd h=>yS 3 d a h λe h4=>aA 3 (bx f) h4 λi h4=>ap (aA 3 (bx f)) i (yF 6 (dB f) h4 λj h4=>yF 0 j h4 λl h4=>yS 3 l i h4 λm h9=>n f h9) 1 [h]))) (kQ (kR λc f h n=>aA 12 (c6 f) h λa h=>yS 12 (iu f) a h λb h2=>aA 12 (dB f) h2 λe h2=>ap (aA 12 (dB f)) e (yS 12 (lu f) e h2 λg h5=>n f h5) 1 [h]) kT))))))) (kR λc f h n=>yD (c5 f) J1 h λa h=>ie a f λf1=>n f1 h))))))) (kR λc f h n=>yA (cr f) J1 h λa h=>fF a f λf1=>n f1 h)))))))))
def UM:aE:=gY acQ (λk f h=>AV.onPtr (iu f) λo i=>cellsOf o h λcs _=>ldropC i cs λcs=>ltake 12 cs λx0=>AV.onPtr (lu f) λo i=>cellsOf o h λcs _=>ldropC i cs λcs=>ltake 12 cs λx1=>AV.force (.agg x0) λr2=>AV.force (.agg x1) λr3=>k (.tup [r2,r3]) h)
def aeu:CT F8:=(kQ (kR λc f h n=>bU (a8 f) h λa h=>bK a f λf=>ci B0 f λf=>n f h) (kQ (kR λc f h n=>yF 0 (aU f) h λa h=>aA 6 a h λb h=>yK Us [b,aT f] c h λd h=>ah d true h (yF 6 (aU f) h) λe h=>ah d true h (aA 6 e h) λg h=>ah d true h (eH (aT f) h) λi h=>ah d true h (yK Us [g,i] c h) λj h=>gr d j B0 h λl h=>ci l f λf8=>n f8 h) kT))
def WF:aE:=cA aeu (r1 bf)
def Zw:CT ar:=(kQ (kR λc f h n=>bU (bH f) h λa h=>ij a f λf=>ce 4294967430 [B0,E0,E0,B0,E0,E0,B0,E0,E0,B0,E0,E0] h λb h=>iW b f λf=>fJ B0 f λf=>n f h) (kQ (kR λc f h n=>yM J2 (cu f) h λa h=>yA a (.int .i64 (.ofNat 40)) h λb h=>fF b f λf2=>n f2 h) (kQ (kR λc f h n=>aA 12 (cX f) h λa h=>yK aeC [cS f,cQ f,a,cr f] c h λb h=>yT 0 b h λd h=>yT 1 b h λe h=>ce 4294967430 [B0,E0,E0,B0,E0,E0,B0,E0,E0,B0,E0,E0] h λg h=>db g f λf5=>yS 12 (bx f5) d h λj h=>ie e f5 λf7=>n f7 h) (kQ (kQ (kR λc f h n=>qZ (c5 f) h λa h=>fi a f λf1=>n f1 h) (kI cY (kQ (kR λc f h n=>aA 12 (cX f) h λa h=>yS 12 (dG f) a h λb h=>fJ B0 f λf=>n f h) kT) kS)) (kQ (kR λc f h n=>aA 12 (bx f) h λa h=>yM J2 (cu f) h λb h=>yA b J10 h λd h=>yA (cP f) J3 h λe h=>yMi d e h λg h=>yK acx [a,g] c h λi h=>ce 4294967430 [B0,E0,E0,B0,E0,E0,B0,E0,E0,B0,E0,E0] h λj h=>dc j f λf7=>yS 12 (cH f7) i h λm h=>n f7 h) (kQ (kQ (kR λc f h n=>aA 12 (cH f) h λa h=>aA 12 (cX f) h λb h=>yK acP [a,b] c h λd h=>qZ d h λe h=>ah e false h (aA 12 (cX f) h) λg h=>ah e false h (eH (cu f) h) λi h=>ah e false h (yA i J1 h) λj h=>ah e false h (yK Oc [g,j] c h) λl h=>gr e B1 l h λm h=>fB m f λf=>n f h) (kI dp (kQ (kR λc f h n=>aA 12 (cX f) h λa h=>yS 12 (dG f) a h λb h=>fJ B0 f λf=>n f h) kT) kS)) (kQ (kQ (kR λc f h n=>aA 12 (cH f) h λa h=>yA (cu f) J1 h λb h=>yK Oc [a,b] c h λd h=>qZ d h λe h=>gE e f λf4=>n f4 h) (kI c6 (kQ (kR λc f h n=>aA 12 (cX f) h λa h=>yS 12 (dG f) a h λb h=>fJ B0 f λf=>n f h) kT) kS)) (kQ (kR λc f h n=>aA 12 (cH f) h λa h=>yS 12 (dG f) a h λb h=>fJ B1 f λf=>n f h) kT))))))))
def TC:aE:=Ue Zw (λk f h=>AV.onPtr (dG f) λo i=>cellsOf o h λcs _=>ldropC i cs λcs=>ltake 12 cs λx0=>AV.force (.agg x0) λr1=>AV.force (dB f) λr2=>k (.tup [r1,r2]) h)
def aa0:CT F8:=(kQ (kR λc f h n=>ci .nils f λf=>n f h) (kQ (kR λc f h n=>bN (a8 f) h λa h=>df a f λf1=>n f1 h) (kQ (kB 0 (kL (kQ (kQ (kR λc f h n=>nE (aT f) J0 h λa h=>ah a true h (eH (a8 f) h) λb h=>ah a true h (eH (aT f) h) λd h=>ah a true h (yD d J1 h) λe h=>ah a true h (yI 3 b e h) λg h=>ah a true h (aA 3 g h) λi h=>ah a true h (yK R7 [i] c h) λj h=>gr a j B0 h λl h=>bK l f λf8=>n f8 h) (kI aU kS (kX 0))) (kB 1 (kR λc f h n=>yD (aT f) J1 h λa h=>df a f λf1=>n f1 h))))) (kQ (kR λc f h n=>yX 3 (a8 f) none (some (aT f)) (some (aT f)) h λa h=>ci a f λf1=>n f1 h) kT))))
def Ud:aE:=b7 aa0 (r1 bf)
def adX:CT F8:=(kQ (kR λc f h n=>bK .nils f λf=>n f h) (kQ (kQ (kR λc f h n=>bN (a8 f) h λa h=>lA a J0 h λb h=>df b f λf2=>n f2 h) (kI aT (kQ (kR λc f h n=>bK .nils f λf=>n f h) kT) kS)) (kQ (kR λc f h n=>bN (a8 f) h λa h=>yD a J1 h λb h=>yI 3 (a8 f) b h λd h=>aA 3 d h λe h=>yK Iw [e] c h λg h=>yK Dz [a8 f,g] c h λi h=>bK i f λf6=>n f6 h) kT)))
def W8:aE:=b7 adX (r1 aU)
def Zj:CT F8:=(kQ (kR λc f h n=>bK .nils f λf=>n f h) (kQ (kQ (kR λc f h n=>yN 1 false (a8 f) h λa h=>df a f λf1=>n f1 h) (kI aT (kQ (kR λc f h n=>bK .nils f λf=>n f h) kT) kS)) (kQ (kR λc f h n=>rP 0 [] [] h λa h=>r8 3 40 3 a (a8 f) h λb h=>bK b f λf2=>n f2 h) kT)))
def Vk:aE:=b7 Zj (r1 aU)
def aeH:CT F8:=(kQ (kR λc f h n=>ce 4294967360 [B0,E0,E0] h λa h=>ci a f λf=>n f h) (kQ (kQ (kR λc f h n=>ct (aT f) J0 h λa h=>ah a false h (eH (aT f) h) λb h=>ah a false h (eH (a8 f) h) λd h=>ah a false h (bN d h) λe h=>ah a false h (m9 b e h) λg h=>gr a B1 g h λi h=>bK i f λf6=>n f6 h) (kI aU (kQ (kR λc f h n=>yK uN [J0] c h λa h=>yS 3 (bf f) a h λb h=>n f h) kT) kS)) (kQ (kR λc f h n=>yI 3 (a8 f) (aT f) h λa h=>aA 3 a h λb h=>yS 3 (bf f) b h λd h=>n f h) kT)))
def VH:aE:=cA aeH (λk f h=>AV.onPtr (bf f) λo i=>cellsOf o h λcs _=>ldropC i cs λcs=>ltake 3 cs λx0=>AV.force (.agg x0) λr1=>k r1 h)
def WW:aE:=iK
def aef:CT ar:=(kQ (kR λc f h n=>bU (cQ f) h λa h=>iW a f λf=>db .nils f λf=>n f h) (kQ (kR λc f h n=>bN (cS f) h λa h=>sa 3 40 [B0,E0,E0] a a h λb h=>fF b f λf2=>n f2 h) (kQ (kQ (kR λc f h n=>AV.force (cS f) λa=>ij a f λf=>bN (cX f) h λb h=>io b f λf=>jt J0 f λf=>n f h) (kB 0 (kL (kQ (kR λc f h n=>ct (bH f) (cu f) h λa h=>gP a f λf=>n f h) (kQ (kI cP kS (kX 0)) (kQ (kB 1 (kQ (kR λc f h n=>yI 3 (cX f) (bH f) h λa h=>aA 3 a h λb h=>ce 4294967360 [B0,E0,E0] h λd h=>fi d f λf3=>AV.force (bH f) λg=>ie g f3 λf5=>yS 3 (cY f5) b h λj h=>n f5 h) (kR λc f h n=>aA 3 (cY f) h λa h=>aA 3 (dG f) h λb h=>yK wj [a,b] c h λd h=>yI 3 (cr f) (c5 f) h λe h=>yS 3 e d h λg h=>n f h))) (kR λc f h n=>yA (bH f) J1 h λa h=>jt a f λf=>n f h))))))) (kQ (kR λc f h n=>yK Ca [cr f] c h λa h=>db a f λf1=>n f1 h) kT))))
def UH:aE:=gY aef (r1 bx)
def aa2:CT F8:=(kQ (kR λc f h n=>ns .nils f λf=>n f h) (kQ (kR λc f h n=>bN (a8 f) h λa h=>bN (aT f) h λb h=>GW a b h λd h=>sa 3 40 [B0,E0,E0] d d h λe h=>bK e f λf4=>n f4 h) (kQ (kQ (kR λc f h n=>bN (aU f) h λa h=>cF a f λf1=>ci J0 f1 λf2=>n f2 h) (kB 0 (kL (kQ (kR λc f h n=>ct (bf f) (cR f) h λa h=>fo a f λf=>n f h) (kQ (kI fM kS (kX 0)) (kQ (kB 1 (kQ (kR λc f h n=>AV.force (bf f) λa=>jG a f λf1=>n f1 h) (kR λc f h n=>yK MY [a8 f,ju f] c h λa h=>yK MY [aT f,ju f] c h λb h=>yK Hv [a,b] c h λd h=>yI 3 (aU f) (ju f) h λe h=>yS 3 e d h λg h=>n f h))) (kR λc f h n=>yA (bf f) J1 h λa h=>ci a f λf=>n f h))))))) (kQ (kR λc f h n=>yK Ca [aU f] c h λa h=>ns a f λf1=>n f1 h) kT))))
def SF:aE:=cA aa2 (r1 Dl)
def acK:CT F8:=(kQ (kR λc f h n=>bU (aT f) h λa h=>fo a f λf=>ce 4294967360 [B0,E0,E0] h λb h=>jG b f λf=>n f h) (kQ (kR λc f h n=>yK uN [J0] c h λa h=>ce 4294967360 [B0,E0,E0] h λb h=>cF b f λf=>yS 3 (cR f) a h λd h=>n f h) (kQ (kQ (kR λc f h n=>bN (a8 f) h λa h=>yD a J1 h λb h=>bK b f λf2=>n f2 h) (kB 0 (kL (kQ (kQ (kR λc f h n=>m9 (aU f) J0 h λa h=>ci a f λf1=>n f1 h) (kI bf kS (kX 0))) (kQ (kB 1 (kR λc f h n=>aA 3 (cR f) h λa h=>aA 3 (fM f) h λb h=>yK wj [a,b] c h λd h3=>yI 3 (a8 f) (aU f) h3 λg h3=>aA 3 g h3 λi h3=>ap (aA 3 g) i (yK Hv [d,i] c h3 λj h7=>yS 3 (cR f) j h7 λm h9=>n f h9) 1 [h])) (kR λc f h n=>yD (aU f) J1 h λa h=>bK a f λf1=>n f1 h)))))) (kQ (kR λc f h n=>aA 3 (cR f) h λa h=>yS 3 (ju f) a h λb h=>n f h) kT))))
def TL:aE:=cA acK (λk f h=>AV.onPtr (ju f) λo i=>cellsOf o h λcs _=>ldropC i cs λcs=>ltake 3 cs λx0=>AV.force (.agg x0) λr1=>k r1 h)
def Sy:aE:=vr
def ZU:CT ar:=(kQ (kR λc f h n=>bU (cS f) h λa h=>jt a f λf=>bU (cQ f) h λb h=>io b f λf=>iW J0 f λf=>n f h) (kQ (kR λc f h n=>aA 2 (bH f) h λa h=>yK Td [a] c h λb h2=>aA 2 (cu f) h2 λe h2=>ap (aA 2 (cu f)) e (yK Td [e] c h2 λg h5=>gP b f λf=>ij g f λf=>n f h5) 1 [h]) (kQ (kB 0 (kQ (kR λc f h n=>ct (cP f) (cX f) h λa h=>fF a f λf1=>n f1 h) (kI cr (kQ (kR λc f h n=>iW (.int .i64 (.negSucc 0)) f λf=>n f h) kT) (kQ (kR λc f h n=>nE (cP f) (cX f) h λa h=>ie a f λf1=>n f1 h) (kI c5 (kQ (kR λc f h n=>iW J1 f λf=>n f h) kT) (kQ (kR λc f h n=>ct (cP f) J0 h λa h=>fi a f λf1=>n f1 h) (kI cY (kQ (kR λc f h n=>yF 1 (cu f) h λa h=>yL a h λb h=>yF 1 (bH f) h λd h=>yL d h λe h=>yK LP [b,e] c h λg h=>iW g f λf=>n f h) kT) kS))))))) (kQ (kR λc f h n=>yF 1 (bH f) h λa h=>yL a h λb h=>yF 1 (cu f) h λd h=>yL d h λe h=>yK LP [b,e] c h λg h=>iW g f λf=>n f h) kT))))
def XO:aE:=gY ZU (r1 dG)
def ab3:CT F8:=(kQ (kR λc f h n=>bU (a8 f) h λa h=>df a f λf=>ce 4294967358 [B0,E0] h λb h=>ci b f λf=>n f h) (kQ (kR λc f h n=>aA 3 (aT f) h λa h=>yK Le [a] c h λb h2=>yF 0 (aT f) h2 λe h2=>aA 2 e h2 λg h2=>ap (aA 2 e) g (yK af0 [g,b] c h2 λi h6=>yT 0 i h6 λl h6=>ce 4294967358 [B0,E0] h6 λm h9=>bQ true h6 (bK m f λf=>ce 4294967358 [B0,E0] h9 λp h11=>bQ true h9 (yS 2 (aU f) l h11 λr h13=>yT 1 i h13 λt h13=>yS 2 p t h13 λu h16=>n f h16) [h2,h]) [h2,h]) 1 [h]) (kQ (kR λc f h n=>aA 2 (aU f) h λa h=>yS 2 (bf f) a h λb h=>n f h) kT)))
def Vx:aE:=b7 ab3 (λk f h=>AV.onPtr (bf f) λo i=>cellsOf o h λcs _=>ldropC i cs λcs=>ltake 2 cs λx0=>AV.force (.agg x0) λr1=>k r1 h)
def Zt:CT F8:=(kQ (kR λc f h n=>ce 4294967428 [B0,E0,E0,B0,E0,E0] h λa h=>jG a f λf=>n f h) (kQ (kR λc f h n=>yI 3 (a8 f) J0 h λa h=>aA 3 a h λb h=>yI 3 (a8 f) J0 h λd h=>aA 3 d h λe h=>yK adc [b,e] c h λg h5=>ce 4294967428 [B0,E0,E0,B0,E0,E0] h5 λj h7=>bQ true h5 (ci j f λf8=>yS 6 (bf f8) g h7 λo h10=>n f8 h10) [h]) (kQ (kQ (kR λc f h n=>df J1 f λf=>n f h) (kB 0 (kL (kQ (kQ (kR λc f h n=>bN (a8 f) h λa h=>ct (aT f) a h λb h=>bK b f λf2=>n f2 h) (kI aU kS (kX 0))) (kQ (kB 1 (kQ (kQ (kR λc f h n=>yI 3 (a8 f) (aT f) h λa h=>aA 3 a h λb h=>yF 0 (bf f) h λd h=>aA 3 d h λe h=>yK XR [b,e] c h λg h5=>cF g f λf6=>n f6 h5) (kI cR (kR λc f h n=>yI 3 (a8 f) (aT f) h λa h=>aA 3 a h λb h=>yF 0 (bf f) h λd h=>yS 3 d b h λe h=>n f h) kS)) (kQ (kR λc f h n=>yF 3 (bf f) h λa h=>aA 3 a h λb h=>yI 3 (a8 f) (aT f) h λd h=>aA 3 d h λe h=>yK XR [b,e] c h λg h5=>fo g f λf6=>n f6 h5) (kI fM (kR λc f h n=>yI 3 (a8 f) (aT f) h λa h=>aA 3 a h λb h=>yF 3 (bf f) h λd h=>yS 3 d b h λe h=>n f h) kS)))) (kR λc f h n=>yA (aT f) J1 h λa h=>df a f λf1=>n f1 h)))))) (kQ (kR λc f h n=>aA 6 (bf f) h λa h=>yS 6 (ju f) a h λb h=>n f h) kT))))
def X8:aE:=b7 Zt (λk f h=>AV.onPtr (ju f) λo i=>cellsOf o h λcs _=>ldropC i cs λcs=>ltake 6 cs λx0=>AV.force (.agg x0) λr1=>k r1 h)
def adm:CT F8:=(kQ (kR λc f h n=>bU (a8 f) h λa h=>df a f λf=>ce 4294967358 [B0,E0] h λb h=>bK b f λf=>n f h) (kQ (kR λc f h n=>yF 0 (aT f) h λa h=>yL a h λb h=>qZ b h λd h=>yF 1 (aT f) h λe h=>yL e h λg h=>yK Ap [d,g] c h λi h=>yS 2 (aU f) i h λj h=>n f h) kT))
def SX:aE:=b7 adm (λk f h=>AV.onPtr (aU f) λo i=>cellsOf o h λcs _=>ldropC i cs λcs=>ltake 2 cs λx0=>AV.force (.agg x0) λr1=>k r1 h)
def Lo:aE:=Xg Eh
def MP:aE:=OY HJ
def ae8:CT F8:=(kQ (kR λc f h n=>ns .nils f λf=>n f h) (kQ (kR λc f h n=>yK RN [a8 f] c h λa h=>rP 1 [.nils] [⟨0,1,a⟩] h λb h=>ci b f λf2=>n f2 h) (kQ (kR λc f h n=>yK RN [aT f] c h λa h=>df a f λf1=>n f1 h) (kQ (kB 0 (kL (kQ (kQ (kR λc f h n=>bN (aT f) h λa h=>nE a J0 h λb h=>bK b f λf2=>n f2 h) (kI aU kS (kX 0))) (kB 1 (kQ (kR λc f h n=>rP 1 [.nils] [⟨0,1,(aT f)⟩] h λa h=>r8 1 24 65572 (bf f) a h λb h=>ci b f λf2=>n f2 h) (kQ (kR λc f h n=>bN (bf f) h λa h=>cF a f λf1=>n f1 h) (kQ (kQ (kR λc f h n=>yD (cR f) J2 h λa h=>yI 1 (bf f) a h λb h=>yL b h λd h=>bN d h λe h=>lA e J0 h λg h=>fo g f λf5=>n f5 h) (kI fM (kX 0) kS)) (kQ (kR λc f h n=>yD (cR f) J2 h λa h=>yI 1 (bf f) a h λb h=>yL b h λd h=>yK Yb [d,aT f] c h λe h=>yT 0 e h λg h=>yT 1 e h λi h=>jG i f λf6=>n f6 h) (kR λc f h n=>yK uN [(.int .i64 (.negSucc 0))] c h λa h=>yK Dz [ju f,a] c h λb h=>yK RN [b] c h λd h=>df d f λf3=>n f3 h))))))))) (kQ (kR λc f h n=>AV.force (bf f) λa=>ns a f λf1=>n f1 h) kT)))))
def UF:aE:=cA ae8 (r1 Dl)
def aco:CT ar:=(kQ (kR λc f h n=>bU (cQ f) h λa h=>gP a f λf=>bU (bH f) h λb h=>fi b f λf=>dc B0 f λf=>n f h) (kQ (kR λc f h n=>gu [.nilf] [⟨0,1,(.fn 584 [] [])⟩] h λa h=>ce 4294967878 [.nilf] h λb h2=>bQ true h (fF b f λf=>ce 4294967428 [B0,E0,E0,B0,E0,E0] h2 λe h4=>bQ true h2 (ie e f λf=>yS 1 (cr f) a h4 λi h6=>yF 0 (cP f) h6 λl h6=>aA 6 l h6 λm h6=>ap (aA 6 l) m (yS 6 (c5 f) m h6 λo h10=>n f h10) 1 [h4]) []) []) (kQ (kQ (kR λc f h n=>AV.force (cu f) λa=>ij a f λf=>n f h) (kI cX (kR λc f h n=>gu [.nilf] [⟨0,1,(.fn 585 [] [])⟩] h λa h=>yS 1 (cr f) a h λb h2=>yF 6 (cP f) h2 λe h2=>aA 6 e h2 λg h2=>ap (aA 6 e) g (yS 6 (c5 f) g h2 λi h6=>n f h6) 1 [h]) kS)) (kQ (kR λc f h n=>aA 1 (cr f) h λa h=>aA 3 (cY f) h λb h=>yK WZ [a,cS f,b] c h λd h=>yT 0 d h λe h=>yT 1 d h λg h=>iW e f λf5=>db g f5 λf6=>n f6 h) (kQ (kR λc f h n=>yF 0 (c5 f) h λa h=>aA 3 a h λb h=>yF 3 (c5 f) h λd h=>aA 3 d h λe h=>gu [.nils,.nils,B0,E0,E0,B0,E0,E0,B0] [⟨0,1,(dG f)⟩,⟨1,1,(bx f)⟩,⟨2,3,b⟩,⟨5,3,e⟩] h λg h=>yK ab2 [g] c h λi h=>dc i f λf6=>n f6 h) kT)))))
def XX:aE:=Wn aco (r1 cH)
def aez:CT F8:=(kQ (kR λc f h n=>bU (a8 f) h λa h=>df a f λf=>fo J0 f λf=>n f h) (kQ (kR λc f h n=>yF 1 (aT f) h λa h=>yL a h λb h=>yF 0 (aT f) h λd h=>yL d h λe h=>yK Xm [b,e] c h λg h=>bK g f λf=>n f h) (kQ (kR λc f h n=>yF 2 (aT f) h λa h=>aA 3 a h λb h=>yK V8 [aU f,b] c h λd h3=>yF 5 (aT f) h3 λg h3=>aA 3 g h3 λi h3=>ap (aA 3 g) i (yK V8 [aU f,i] c h3 λj h7=>yD d j h7 λm h7=>cF m f λf9=>n f9 h7) 1 [h]) (kQ (kQ (kR λc f h n=>yF 8 (aT f) h λa h=>yL a h λb h=>ci b f λf=>n f h) (kI bf (kQ (kR λc f h n=>Dn (cR f) h λa h=>fo a f λf1=>n f1 h) kT) kS)) (kQ (kR λc f h n=>AV.force (cR f) λa=>fo a f λf1=>n f1 h) kT)))))
def TJ:aE:=b7 aez (r1 fM)
def adf:CT F8:=(kQ (kR λc f h n=>bU (a8 f) h λa h=>df a f λf=>fo B0 f λf=>n f h) (kQ (kR λc f h n=>yF 0 (aT f) h λa h=>yL a h λb h=>yF 1 (aT f) h λd h=>yL d h λe h=>yK Za [b,e] c h λg h=>bK g f λf=>n f h) (kQ (kQ (kR λc f h n=>bN (aU f) h λa h=>ct a J2 h λb h=>ci b f λf2=>n f2 h) (kI bf (kQ (kR λc f h n=>fo B0 f λf=>n f h) kT) kS)) (kQ (kQ (kR λc f h n=>yF 2 (aT f) h λa h=>aA 3 a h λb h=>yK V6 [aU f,b] c h λd h=>ah d false h (eH (aU f) h) λe h=>ah d false h (yF 5 (aT f) h) λg h=>ah d false h (aA 3 g h) λi h=>ah d false h (yK V6 [e,i] c h) λj h=>gr d B1 j h λl h=>cF l f λf8=>n f8 h) (kI cR (kQ (kR λc f h n=>fo B1 f λf=>n f h) kT) kS)) (kQ (kR λc f h n=>yK adA [aU f] c h λa h=>bK a f λf1=>n f1 h) (kQ (kR λc f h n=>yK Wj [aU f] c h λa h1=>yK Xm [aU f,a] c h1 λd h3=>yF 2 (aT f) h3 λg h3=>aA 3 g h3 λi h3=>ap (aA 3 g) i (yF 5 (aT f) h3 λj h3=>aA 3 j h3 λl h3=>ap (aA 3 j) l (yK ab5 [d,i,l] c h3 λm h9=>nE m J0 h9 λp h9=>fo p f λf11=>n f11 h9) 2 [h1,h]) 2 [h1,h]) kT))))))
def Vy:aE:=b7 adf (r1 fM)
def Zm:CT F8:=(kQ (kR λc f h n=>bU (a8 f) h λa h=>bK a f λf=>ci B0 f λf=>n f h) (kQ (kR λc f h n=>yK uN [J1] c h λa h1=>aA 6 (aU f) h1 λd h1=>ap (aA 6 (aU f)) d (yK Nv [d] c h1 λe h4=>yK MB [aT f] c h4 λi h6=>yK wj [e,i] c h6 λl h8=>yK HJ [a,l] c h8 λo h10=>qZ o h10 λq h10=>ci q f λf12=>n f12 h10) 1 [h]) kT))
def UR:aE:=cA Zm (r1 bf)
def aeA:CT ar:=(kQ (kR λc f h n=>bU (bH f) h λa h=>gP a f λf=>ce 4294967430 [B0,E0,E0,B0,E0,E0,B0,E0,E0,B0,E0,E0] h λb h=>iW b f λf=>fJ B0 f λf=>n f h) (kQ (kR λc f h n=>aA 12 (cP f) h λa h=>yK af6 [a] c h λb h=>ce 4294967430 [B0,E0,E0,B0,E0,E0,B0,E0,E0,B0,E0,E0] h λd h=>ij d f λf=>yS 12 (cX f) b h λe h=>n f h) (kQ (kR λc f h n=>aA 12 (cX f) h λa h=>yK PJ [cQ f,a,cu f] c h λb h=>ce 4294967430 [B0,E0,E0,B0,E0,E0,B0,E0,E0,B0,E0,E0] h λd h=>fF d f λf3=>yS 12 (cr f3) b h λg h=>n f3 h) (kQ (kR λc f h n=>yF 0 (cr f) h λa h=>yF 0 a h λb h=>aA 3 b h λd h=>yF 6 (cr f) h λe h=>yF 0 e h λg h=>aA 3 g h λi h=>yK Y9 [d,i,cu f] c h λj h=>yT 0 j h λl h=>yT 1 j h λm h=>ce 4294967430 [B0,E0,E0,B0,E0,E0,B0,E0,E0,B0,E0,E0] h λo h=>db o f λf10=>yS 12 (bx f10) l h λq h=>ie m f10 λf12=>n f12 h) (kQ (kQ (kR λc f h n=>qZ (c5 f) h λa h=>fi a f λf1=>n f1 h) (kI cY (kQ (kR λc f h n=>aA 12 (cP f) h λa h=>yS 12 (dG f) a h λb h=>fJ B0 f λf=>n f h) kT) kS)) (kQ (kR λc f h n=>yK uN [J1] c h λa h=>yK u3 [a] c h λb h=>yK CY [b] c h λd h=>ce 4294967430 [B0,E0,E0,B0,E0,E0,B0,E0,E0,B0,E0,E0] h λe h=>dc e f λf=>yS 12 (cH f) d h λg h=>n f h) (kQ (kR λc f h n=>aA 12 (cP f) h λa h=>yK PJ [cQ f,a,cu f] c h λb h2=>aA 12 (bx f) h2 λe h2=>ap (aA 12 (bx f)) e (yK BM [e,b] c h2 λg h5=>aA 12 (cH f) h5 λj h5=>ap (aA 12 (cH f)) j (yK Qh [j,g] c h5 λl h8=>aA 12 (cP f) h8 λo h8=>ap (aA 12 (cP f)) o (aA 12 (cX f) h8 λp h8=>ap (aA 12 (cX f)) p (yK Qh [o,p] c h8 λq h12=>yK BM [l,q] c h12 λs h14=>ce 4294967430 [B0,E0,E0,B0,E0,E0,B0,E0,E0,B0,E0,E0] h14 λu h16=>bQ true h14 (fB u f λf17=>yS 12 (dp f17) s h16 λx h19=>n f17 h19) [h12,h8,h5,h2,h]) 3 [h5,h2,h]) 3 [h5,h2,h]) 2 [h2,h]) 1 [h]) (kQ (kR λc f h n=>aA 12 (cX f) h λa h=>yK PJ [cS f,a,cu f] c h λb h2=>aA 12 (bx f) h2 λe h2=>ap (aA 12 (bx f)) e (yK BM [e,b] c h2 λg h5=>aA 12 (cX f) h5 λj h5=>ap (aA 12 (cX f)) j (yK Qh [j,g] c h5 λl h8=>aA 12 (dp f) h8 λo h8=>ap (aA 12 (dp f)) o (yK Qa [l,o] c h8 λp h11=>ce 4294967430 [B0,E0,E0,B0,E0,E0,B0,E0,E0,B0,E0,E0] h11 λr h13=>bQ true h11 (gE r f λf14=>yS 12 (c6 f14) p h13 λu h16=>n f14 h16) [h8,h5,h2,h]) 3 [h5,h2,h]) 2 [h2,h]) 1 [h]) (kQ (kR λc f h n=>aA 12 (c6 f) h λa h=>yK Qt [a,cu f] c h λb h=>yS 12 (c6 f) b h λd h=>n f h) (kQ (kR λc f h n=>yF 0 (c6 f) h λa h=>aA 6 a h λb h=>yF 0 (cP f) h λd h=>aA 6 d h λe h=>yK UB [b,e] c h λg h5=>ah g true h5 (yF 6 (c6 f) h5) λj h5=>ah g true h5 (aA 6 j h5) λl h5=>ah g true h5 (yF 6 (cP f) h5) λm h5=>ah g true h5 (aA 6 m h5) λo h5=>ah g true h5 (λk=>yK UB [l,o] c h5 λp h11=> k p h11) λp h11=>aA 12 (c6 f) h11 λr h11=>ap (aA 12 (c6 f)) r (yS 12 (dG f) r h11 λs h14=>gr g p B0 h14 λu h14=>fJ u f λf=>n f h14) 2 [h5,h]) kT))))))))))
def Ua:aE:=Wn aeA (λk f h=>AV.onPtr (dG f) λo i=>cellsOf o h λcs _=>ldropC i cs λcs=>ltake 12 cs λx0=>AV.force (.agg x0) λr1=>AV.force (dB f) λr2=>k (.tup [r1,r2]) h)
def afe:CT F8:=(kQ (kR λc f h n=>ci .nils f λf=>n f h) (kQ (kR λc f h n=>bN (a8 f) h λa h=>df a f λf1=>n f1 h) (kQ (kB 0 (kL (kQ (kQ (kR λc f h n=>nE (aT f) J0 h λa h=>ah a true h (eH (a8 f) h) λb h=>ah a true h (eH (aT f) h) λd h=>ah a true h (yD d J1 h) λe h=>ah a true h (yI 1 b e h) λg h=>ah a true h (yL g h) λi h=>ah a true h (lA i J0 h) λj h=>gr a j B0 h λl h=>bK l f λf8=>n f8 h) (kI aU kS (kX 0))) (kB 1 (kR λc f h n=>yD (aT f) J1 h λa h=>df a f λf1=>n f1 h))))) (kQ (kR λc f h n=>yX 1 (a8 f) none (some (aT f)) (some (aT f)) h λa h=>ci a f λf1=>n f1 h) kT))))
def Tl:aE:=b7 afe (r1 bf)
def ac6:CT F8:=(kQ (kR λc f h n=>cF .nils f λf=>n f h) (kQ (kR λc f h n=>yK acu [a8 f,aT f,aU f] c h λa h=>yT 0 a h λb h=>yT 1 a h λd h=>ci d f λf3=>n f3 h) (kQ (kR λc f h n=>AV.force (bf f) λa=>cF a f λf1=>n f1 h) kT)))
def VU:aE:=DF ac6 (r1 cR)
def aeJ:CT F8:=(kQ (kR λc f h n=>ci J0 f λf=>n f h) (kQ (kR λc f h n=>yR (aT f) (a8 f) h λa h=>df a f λf1=>n f1 h) (kQ (kQ (kR λc f h n=>ct (aT f) J0 h λa h=>bK a f λf1=>n f1 h) (kI aU (kR λc f h n=>yA (aT f) (a8 f) h λa h=>df a f λf1=>n f1 h) kS)) (kQ (kR λc f h n=>AV.force (aT f) λa=>ci a f λf1=>n f1 h) kT))))
def WH:aE:=cA aeJ (r1 bf)
def abv:CT F8:=(kQ (kR λc f h n=>cF .nils f λf=>n f h) (kQ (kR λc f h n=>yK adB [a8 f,aT f,aU f] c h λa h=>yK aaf [a8 f,a,bf f] c h λb h=>cF b f λf2=>n f2 h) kT))
def Tv:aE:=acB abv (r1 cR)
def acl:CT ar:=(kQ (kR λc f h n=>i7 .nils f λf=>kw .nils f λf=>n f h) (kQ (kR λc f h n=>rP 0 [] [] h λa h=>r8 1 8 65539 a (cQ f) h λb h=>ij b f λf2=>n f2 h) (kQ (kR λc f h n=>bN (bH f) h λa h=>io a f λf1=>n f1 h) (kQ (kQ (kR λc f h n=>bN (cQ f) h λa h=>ct a (cu f) h λb h=>gP b f λf2=>n f2 h) (kI cP (kQ (kR λc f h n=>i7 .nils f λf0=>AV.force (cX f) λb=>kw b f0 λf2=>n f2 h) kT) kS)) (kQ (kR λc f h n=>bN (cQ f) h λa h=>yD a (cu f) h λb h=>yA b J1 h λd h=>sa 1 8 [J0] d d h λe h=>iW e f λf4=>n f4 h) (kQ (kR λc f h n=>yD (cu f) J1 h λa h=>yI 1 (bH f) a h λb h=>yL b h λd h=>yK afb [cS f,d] c h λe h=>fi e f λf4=>n f4 h) (kQ (kQ (kR λc f h n=>bN (cQ f) h λa h=>yD a (cu f) h λb h=>fF b f λf2=>n f2 h) (kB 0 (kL (kQ (kQ (kR λc f h n=>m9 (cr f) J0 h λa h=>ie a f λf1=>n f1 h) (kI c5 kS (kX 0))) (kQ (kB 1 (kQ (kR λc f h n=>yA (cr f) (cu f) h λa h=>yD a J1 h λb h=>yI 1 (cX f) b h λd h=>yL d h λe h=>yM e (cY f) h λg h=>yR g (cS f) h λi h=>db i f λf6=>n f6 h) (kQ (kR λc f h n=>yI 1 (dG f) (cr f) h λa h=>yS 1 a (bx f) h λb h=>n f h) (kQ (kR λc f h n=>AV.force (bH f) λa=>fJ a f λf=>bN (dB f) h λb h=>fB b f λf=>dc J0 f λf=>n f h) (kB 2 (kL (kQ (kR λc f h n=>ct (cH f) (dp f) h λa h=>gE a f λf=>n f h) (kQ (kI c6 kS (kX 2)) (kQ (kB 3 (kQ (kR λc f h n=>yI 1 (dB f) (cH f) h λa h=>yL a h λb h=>AV.force (cH f) λd=>kM d f λf3=>nc b f3 λf4=>n f4 h) (kR λc f h n=>yA (cr f) (iu f) h λa h=>yA (cr f) (iu f) h λb h=>yI 1 (cX f) b h λd h=>yL d h λe h=>yM (bx f) (lu f) h λg h=>yD e g h λi h=>yK aax [cS f,i] c h λj h=>yI 1 (cX f) a h λl h=>yS 1 l j h λm h=>n f h))) (kR λc f h n=>yA (cH f) J1 h λa h=>dc a f λf=>n f h)))))))))) (kR λc f h n=>yD (cr f) J1 h λa h=>fF a f λf1=>n f1 h)))))) (kQ (kR λc f h n=>yK Rk [dG f] c h λa h1=>yD (cu f) J1 h1 λd h1=>yX 1 (cX f) none (some d) none h1 λe h1=>yK Rk [e] c h1 λg h5=>i7 a f λf6=>kw g f6 λf7=>n f7 h5) kT))))))))
def TI:aE:=vi acl (r2 jH iw)
def aaK:CT ar:=(kQ (kR λc f h n=>i7 .nils f λf=>n f h) (kQ (kQ (kR λc f h n=>bN (cQ f) h λa h=>lA a J0 h λb h=>ah b false h (eH (bH f) h) λd h=>ah b false h (bN d h) λe h=>ah b false h (lA e J0 h) λg h=>gr b B1 g h λi h=>io i f λf6=>n f6 h) (kI cu (kQ (kR λc f h n=>i7 .nils f λf=>n f h) kT) kS)) (kQ (kR λc f h n=>bN (cQ f) h λa h=>bN (bH f) h λb h=>yA a b h λd h=>yD d J1 h λe h=>sa 1 8 [J0] e e h λg h=>fB g f λf5=>n f5 h) (kQ (kQ (kR λc f h n=>AV.force (cQ f) λa=>ie a f λf=>bN (c5 f) h λb h=>ij b f λf=>gP J0 f λf=>n f h) (kB 0 (kL (kQ (kR λc f h n=>ct (cP f) (cX f) h λa h=>fF a f λf=>n f h) (kQ (kI cr kS (kX 0)) (kQ (kB 1 (kQ (kR λc f h n=>yI 1 (c5 f) (cP f) h λa h=>yL a h λb h=>AV.force (cP f) λd=>gE d f λf3=>kM b f3 λf4=>n f4 h) (kQ (kR λc f h n=>AV.force (bH f) λa=>dc a f λf=>bN (cH f) h λb h=>iW b f λf=>fi J0 f λf=>n f h) (kB 2 (kL (kQ (kR λc f h n=>ct (cY f) (dG f) h λa h=>db a f λf=>n f h) (kQ (kI bx kS (kX 2)) (kQ (kB 3 (kQ (kR λc f h n=>yI 1 (cH f) (cY f) h λa h=>yL a h λb h=>AV.force (cY f) λd=>fJ d f λf3=>nc b f3 λf4=>n f4 h) (kR λc f h n=>yA (c6 f) (dB f) h λa h=>yA (c6 f) (dB f) h λb h=>yI 1 (dp f) b h λd h=>yL d h λe h=>yM (iu f) (lu f) h λg h=>yA e g h λi h=>yR i (cS f) h λj h=>yI 1 (dp f) a h λl h=>yS 1 l j h λm h=>n f h))) (kR λc f h n=>yA (cY f) J1 h λa h=>fi a f λf=>n f h))))))))) (kR λc f h n=>yA (cP f) J1 h λa h=>gP a f λf=>n f h))))))) (kQ (kR λc f h n=>yK Rk [dp f] c h λa h=>i7 a f λf1=>n f1 h) kT)))))
def XW:aE:=vi aaK (r1 jH)
def XK:aE:=Vw adh
def aeF:CT F8:=(kQ (kR λc f h n=>bU (a8 f) h λa h=>bK a f λf=>bU (aT f) h λb h=>ci b f λf=>ce 4294967430 [B0,E0,E0,B0,E0,E0,B0,E0,E0,B0,E0,E0] h λd h=>cF d f λf=>n f h) (kQ (kR λc f h n=>gu [.nilf] [⟨0,1,(.fn 330 [] [])⟩] h λa h=>aA 12 (aU f) h λb h=>aA 12 (bf f) h λd h=>yK RA [a,b,d] c h λe h=>yS 12 (cR f) e h λg h=>n f h) kT))
def V0:aE:=cA aeF (λk f h=>AV.onPtr (cR f) λo i=>cellsOf o h λcs _=>ldropC i cs λcs=>ltake 12 cs λx0=>AV.force (.agg x0) λr1=>k r1 h)
def adM:CT F8:=(kQ (kR λc f h n=>bK E0 f λf=>n f h) (kQ (kR λc f h n=>yQ (a8 f) J8 h λa h=>yA a J1 h λb h=>sa 1 1 [(W 0)] b b h λd h=>df d f λf3=>n f3 h) (kQ (kR λc f h n=>yR (a8 f) J8 h λa h=>Ez (W 1) a h λb h=>yI 1 (aT f) J0 h λd h=>yS 1 d b h λe h=>n f h) (kQ (kR λc f h n=>yB (aT f) h λa h=>bK a f λf1=>n f1 h) kT))))
def WG:aE:=b7 adM (r1 aU)
def aei:CT ar:=(kQ (kR λc f h n=>bU (cS f) h λa h=>jt a f λf=>bU (cQ f) h λb h=>io b f λf=>ce 4294967358 [B0,E0] h λd h=>ie d f λf=>ce 4294967358 [B0,E0] h λe h=>fi e f λf=>n f h) (kQ (kR λc f h n=>yF 1 (bH f) h λa h=>yL a h λb h=>yF 1 (cu f) h λd h=>yL d h λe h=>yK KK [b,e] c h λg h=>yT 0 g h λi h=>yT 1 g h λj h=>fF i f λf=>gP j f λf=>n f h) (kQ (kQ (kR λc f h n=>yF 0 (bH f) h λa h=>yL a h λb h=>ah b true h (eH (cP f) h) λd h=>ah b true h (ls true d E0 h) λe h=>gr b e B0 h λg h=>ij g f λf=>n f h) (kI cX (kQ (kR λc f h n=>yK Rv [U1] c h λa h=>yK Xf [cr f,a] c h λb h=>fF b f λf2=>n f2 h) (kR λc f h n=>yF 1 (cu f) h λa h=>yL a h λb h=>yK NM [b,cP f] c h λd h=>gP d f λf3=>n f3 h)) kS)) (kQ (kR λc f h n=>yF 0 (bH f) h λa h=>yL a h λb h=>yF 0 (cu f) h λd h=>yL d h λe h=>Hx true false [0] b e h λg h=>yK Ap [g,cr f] c h λi h=>gu [B0,E0] [⟨1,1,(cP f)⟩] h λj h=>yS 2 (c5 f) i h λl h=>yS 2 (cY f) j h λm h=>n f h) kT))))
def VS:aE:=gY aei (λk f h=>AV.onPtr (c5 f) λo i=>cellsOf o h λcs _=>ldropC i cs λcs=>ltake 2 cs λx0=>AV.onPtr (cY f) λo i=>cellsOf o h λcs _=>ldropC i cs λcs=>ltake 2 cs λx1=>AV.force (.agg x0) λr2=>AV.force (.agg x1) λr3=>k (.tup [r2,r3]) h)
def acv:CT ar:=(kQ (kR λc f h n=>dc .nils f λf=>n f h) (kQ (kQ (kR λc f h n=>bN (cS f) h λa h=>lA a J0 h λb h=>Lh b f λf2=>n f2 h) (kI cQ (kQ (kR λc f h n=>dc .nils f λf=>n f h) kT) kS)) (kQ (kR λc f h n=>yK OR [J1] c h λa h=>gu [B0,E0] [] h λb h=>ce 4294967358 [B0,E0] h λd h=>fi d f λf=>ce 4294967358 [B0,E0] h λe h=>db e f λf=>yS 2 (cY f) a h λg h=>yS 2 (bx f) b h λi h=>n f h) (kQ (kQ (kR λc f h n=>AV.force (cS f) λa=>ij a f λf=>bN (cX f) h λb h=>io b f λf=>jt J0 f λf=>n f h) (kB 0 (kL (kQ (kR λc f h n=>ct (bH f) (cu f) h λa h=>gP a f λf=>n f h) (kQ (kI cP kS (kX 0)) (kQ (kB 1 (kQ (kR λc f h n=>yI 3 (cX f) (bH f) h λa h=>aA 3 a h λb h=>ce 4294967360 [B0,E0,E0] h λd h=>fF d f λf=>yS 3 (cr f) b h λe h=>n f h) (kQ (kR λc f h n=>yF 2 (cr f) h λa h=>yL a h λb h=>gu [B0,E0] [⟨1,1,b⟩] h λd h=>ce 4294967358 [B0,E0] h λe h=>ie e f λf=>yS 2 (c5 f) d h λg h=>n f h) (kQ (kR λc f h n=>aA 2 (c5 f) h λa h=>aA 2 (cY f) h λb h=>yK QV [a,b] c h λd h3=>aA 2 (c5 f) h3 λg h3=>ap (aA 2 (c5 f)) g (yK L7 [g,d] c h3 λi h6=>yT 0 i h6 λl h6=>ce 4294967358 [B0,E0] h6 λm h9=>bQ true h6 (iW m f λf=>ce 4294967358 [B0,E0] h9 λp h11=>bQ true h9 (yS 2 (dG f) l h11 λr h13=>yT 1 i h13 λt h13=>yS 2 p t h13 λu h16=>n f h16) [h3,h]) [h3,h]) 1 [h]) (kQ (kR λc f h n=>aA 2 (cY f) h λa h=>aA 2 (dG f) h λb h=>yK KE [a,b] c h λd h=>yS 2 (cY f) d h λe h=>n f h) (kR λc f h n=>aA 2 (bx f) h λa h=>yF 0 (cr f) h λb h=>aA 2 b h λd h=>yK QV [a,d] c h λe h=>yS 2 (bx f) e h λg h=>n f h)))))) (kR λc f h n=>yA (bH f) J1 h λa h=>jt a f λf=>n f h))))))) (kQ (kR λc f h n=>aA 2 (cY f) h λa h=>aA 2 (bx f) h λb h=>yK Lq [a,b] c h λd h=>yK Dz [cS f,d] c h λe h=>dc e f λf4=>n f4 h) kT)))))
def Xv:aE:=GQ acv (r1 cH)
def ae9:CT ar:=(kQ (kR λc f h n=>bU (cQ f) h λa h=>ie a f λf=>gE J0 f λf=>n f h) (kQ (kR λc f h n=>dc J0 f λf=>iW J0 f λf=>n f h) (kQ (kQ (kR λc f h n=>AV.force (cS f) λa=>ij a f λf=>bN (cX f) h λb h=>io b f λf=>jt J0 f λf=>n f h) (kB 0 (kL (kQ (kR λc f h n=>ct (bH f) (cu f) h λa h=>gP a f λf=>n f h) (kQ (kI cP kS (kX 0)) (kQ (kB 1 (kQ (kR λc f h n=>yI 1 (cX f) (bH f) h λa h=>yL a h λb h=>fF b f λf=>n f h) (kQ (kR λc f h n=>aA 3 (c5 f) h λa h=>yK TH [cr f,a] c h λb h=>yK WJ [b] c h λd h=>fi d f λf3=>n f3 h) (kQ (kQ (kR λc f h n=>zb (cY f) J0 h λa h=>ah a true h (eH (cY f) h) λb h=>ah a true h (eH (dG f) h) λd h=>ah a true h (Dn d h) λe h=>ah a true h (lA b e h) λg h=>gr a g B0 h λi h=>db i f λf6=>n f6 h) (kI bx (kR λc f h n=>yA (cH f) J1 h λa h=>dc a f λf1=>n f1 h) kS)) (kQ (kR λc f h n=>zb (cY f) J0 h λa h=>fB a f λf1=>n f1 h) (kI dp (kR λc f h n=>AV.force (cY f) λa=>iW a f λf1=>n f1 h) kS)))))) (kR λc f h n=>yA (bH f) J1 h λa h=>jt a f λf=>n f h))))))) (kQ (kR λc f h n=>AV.force (cH f) λa=>gE a f λf1=>n f1 h) kT))))
def Ty:aE:=gY ae9 (r1 c6)
def acV:CT F8:=(kQ (kR λc f h n=>bU (aU f) h λa h=>ci a f λf=>cF .nils f λf=>fo .nils f λf=>n f h) (kQ (kR λc f h n=>yK Ok [a8 f] c h λa h1=>aA 3 (bf f) h1 λd h1=>ap (aA 3 (bf f)) d (yK Dz [aT f,d] c h1 λe h4=>yK SA [a,e] c h4 λi h6=>yK Ok [aT f] c h6 λl h8=>aA 3 (bf f) h8 λo h8=>ap (aA 3 (bf f)) o (yK Dz [a8 f,o] c h8 λp h11=>yK PL [l,p] c h11 λr h13=>cF i f λf14=>fo r f14 λf15=>n f15 h13) 4 [h6,h4,h1,h]) 1 [h]) kT))
def T7:aE:=DF acV (r2 cR fM)
def aaX:CT F8:=(kQ (kR λc f h n=>bU (aU f) h λa h=>ci a f λf=>cF .nils f λf=>fo .nils f λf=>n f h) (kQ (kR λc f h n=>aA 3 (bf f) h λa h=>yK Dz [a8 f,a] c h λb h2=>yK Ok [aT f] c h2 λe h4=>yK SA [b,e] c h4 λi h6=>aA 3 (bf f) h6 λl h6=>ap (aA 3 (bf f)) l (yK Dz [aT f,l] c h6 λm h9=>yK Ok [a8 f] c h9 λp h11=>yK PL [m,p] c h11 λr h13=>cF i f λf14=>fo r f14 λf15=>n f15 h13) 3 [h4,h2,h]) kT))
def X6:aE:=DF aaX (r2 cR fM)
def abX:CT ar:=(kQ (kR λc f h n=>bU (cS f) h λa h=>ij a f λf=>bU (bH f) h λb h=>fi b f λf=>iW .nils f λf=>db .nils f λf=>n f h) (kQ (kR λc f h n=>fF .nils f λf=>ie .nils f λf=>n f h) (kQ (kQ (kR λc f h n=>bN (cQ f) h λa h=>yD a J1 h λb h=>io b f λf2=>n f2 h) (kB 0 (kL (kQ (kQ (kR λc f h n=>m9 (cu f) J0 h λa h=>gP a f λf1=>n f1 h) (kI cP kS (kX 0))) (kQ (kB 1 (kQ (kR λc f h n=>yF 0 (cX f) h λa h=>yL a h λb h=>aA 3 (cY f) h λd h=>KW b [cr f,c5 f,d] c h λe h=>yT 0 e h λg h=>yT 1 e h λi h=>fF g f λf6=>ie i f6 λf7=>n f7 h) (kR λc f h n=>yI 3 (cQ f) (cu f) h λa h=>aA 3 a h λb h=>rP 1 [B0,E0,E0] [⟨0,3,b⟩] h λd h=>yK Ca [d] c h λe h=>yK PL [cr f,e] c h λg h=>fF g f λf5=>n f5 h))) (kR λc f h n=>yD (cu f) J1 h λa h=>io a f λf1=>n f1 h)))))) (kQ (kR λc f h n=>AV.force (cr f) λa=>iW a f λf1=>AV.force (c5 f) λd=>db d f1 λf3=>n f3 h) kT))))
def Sv:aE:=vi abX (r2 dG bx)
def aap:CT ar:=(kQ (kR λc f h n=>io J0 f λf=>n f h) (kB 0 (kL (kQ (kR λc f h n=>ct (cu f) J4 h λa h=>gP a f λf=>n f h) (kQ (kI cP kS (kX 0)) (kQ (kB 1 (kQ (kR λc f h n=>AV.force (cu f) λa=>ij a f λf1=>n f1 h) (kQ (kR λc f h n=>gu [.nilf] [⟨0,1,(.fn 584 [] [])⟩] h λa h=>ce 4294967878 [.nilf] h λb h2=>bQ true h (fi b f λf=>ce 4294967360 [B0,E0,E0] h2 λe h4=>bQ true h2 (iW e f λf=>ce 4294967428 [B0,E0,E0,B0,E0,E0] h4 λi h6=>bQ true h4 (db i f λf=>yS 1 (cY f) a h6 λl h8=>yF 6 (cQ f) h8 λo h8=>yF 0 o h8 λp h8=>aA 3 p h8 λq h8=>ap (aA 3 p) q (yS 3 (dG f) q h8 λr h13=>yF 0 (cQ f) h13 λt h13=>aA 6 t h13 λu h13=>ap (aA 6 t) u (yS 6 (bx f) u h13 λv h17=>n f h17) 2 [h8,h6]) 1 [h6]) []) []) []) (kQ (kQ (kR λc f h n=>AV.force (cX f) λa=>fF a f λf=>n f h) (kB 2 (kQ (kR λc f h n=>lA (cr f) J1 h λa h=>ie a f λf=>n f h) (kI c5 (kR λc f h n=>gu [.nilf] [⟨0,1,(.fn 585 [] [])⟩] h λa h=>yS 1 (cY f) a h λb h2=>yF 0 (cQ f) h2 λe h2=>yF 3 e h2 λg h2=>aA 3 g h2 λi h2=>ap (aA 3 g) i (yS 3 (dG f) i h2 λj h7=>yF 6 (cQ f) h7 λm h7=>aA 6 m h7 λo h7=>ap (aA 6 m) o (yS 6 (bx f) o h7 λp h11=>n f h11) 2 [h2,h]) 1 [h]) (kQ (kR λc f h n=>lA (cr f) J2 h λa h=>dc a f λf=>n f h) (kI cH (kR λc f h n=>yF 6 (cQ f) h λa h=>yF 3 a h λb h=>aA 3 b h λd h=>yS 3 (dG f) d h λe h=>n f h) (kQ (kR λc f h n=>lA (cr f) J3 h λa h=>fB a f λf=>n f h) (kI dp (kR λc f h n=>gu [.nilf] [⟨0,1,(.fn 585 [] [])⟩] h λa h=>yS 1 (cY f) a h λb h2=>yF 0 (cQ f) h2 λe h2=>yF 0 e h2 λg h2=>aA 3 g h2 λi h2=>ap (aA 3 g) i (yS 3 (dG f) i h2 λj h7=>yF 6 (cQ f) h7 λm h7=>aA 6 m h7 λo h7=>ap (aA 6 m) o (yS 6 (bx f) o h7 λp h11=>n f h11) 2 [h2,h]) 1 [h]) kS)))))))) (kQ (kR λc f h n=>aA 1 (cY f) h λa h=>yL (bH f) h λb h=>aA 3 (dG f) h λd h=>yK WZ [a,b,d] c h λe h=>yT 0 e h λg h=>yT 1 e h λi h=>gE g f λf=>fJ i f λf=>n f h) (kQ (kR λc f h n=>yF 0 (bx f) h λa h=>aA 3 a h λb h=>yF 3 (bx f) h λd h=>aA 3 d h λe h=>nE (cX f) J1 h λg h=>gu [.nils,.nils,B0,E0,E0,B0,E0,E0,B0] [⟨0,1,(c6 f)⟩,⟨1,1,(dB f)⟩,⟨2,3,b⟩,⟨5,3,e⟩,⟨8,1,g⟩] h λi h=>KW (cS f) [i] c h λj h=>qZ j h λl h=>kM l f λf8=>n f8 h) (kI iu kT kS))))))) (kR λc f h n=>yA (cu f) J1 h λa h=>io a f λf=>n f h)))))))
def TS:aE:=vi aap r0
def aay:CT ar:=(kQ (kR λc f h n=>bU (cQ f) h λa h=>ie a f λf=>gE J0 f λf=>n f h) (kQ (kR λc f h n=>db J0 f λf=>fB J0 f λf=>n f h) (kQ (kQ (kR λc f h n=>AV.force (cS f) λa=>ij a f λf=>bN (cX f) h λb h=>io b f λf=>jt J0 f λf=>n f h) (kB 0 (kL (kQ (kR λc f h n=>ct (bH f) (cu f) h λa h=>gP a f λf=>n f h) (kQ (kI cP kS (kX 0)) (kQ (kB 1 (kQ (kR λc f h n=>yI 1 (cX f) (bH f) h λa h=>yL a h λb h=>AV.force (bH f) λd=>fi d f λf3=>fF b f3 λf4=>n f4 h) (kQ (kR λc f h n=>aA 3 (c5 f) h λa h=>yK TH [cr f,a] c h λb h=>yK WJ [b] c h λd h=>dc d f λf3=>n f3 h) (kQ (kQ (kR λc f h n=>nE (cY f) J0 h λa h=>iW a f λf1=>n f1 h) (kI dG (kR λc f h n=>yD (cH f) (dp f) h λa h=>yD (dp f) (cH f) h λb h=>GW a b h λd h=>yA (bx f) d h λe h=>db e f λf4=>n f4 h) kS)) (kR λc f h n=>AV.force (cH f) λa=>fB a f λf1=>n f1 h))))) (kR λc f h n=>yA (bH f) J1 h λa h=>jt a f λf=>n f h))))))) (kQ (kR λc f h n=>AV.force (bx f) λa=>gE a f λf1=>n f1 h) kT))))
def U8:aE:=gY aay (r1 c6)
def aek:CT F8:=(kQ (kR λc f h n=>bU (a8 f) h λa h=>df a f λf=>ce 4294967430 [B0,E0,E0,B0,E0,E0,B0,E0,E0,B0,E0,E0] h λb h=>bK b f λf=>n f h) (kQ (kR λc f h n=>yF 0 (aT f) h λa h=>aA 6 a h λb h=>yK Ro [b] c h λd h3=>yK u3 [d] c h3 λg h5=>yF 6 (aT f) h5 λj h5=>aA 6 j h5 λl h5=>ap (aA 6 j) l (yK Ro [l] c h5 λm h9=>yK u3 [m] c h9 λp h11=>gu [B0,E0,E0,B0,E0,E0,B0,E0,E0,B0,E0,E0] [⟨0,6,g⟩,⟨6,6,p⟩] h11 λr h11=>yS 12 (aU f) r h11 λs h14=>n f h14) 2 [h3,h]) kT))
def Wc:aE:=b7 aek (λk f h=>AV.onPtr (aU f) λo i=>cellsOf o h λcs _=>ldropC i cs λcs=>ltake 12 cs λx0=>AV.force (.agg x0) λr1=>k r1 h)
def aba:CT F8:=(kQ (kR λc f h n=>bU (aT f) h λa h=>jG a f λf=>ce 4294967430 [B0,E0,E0,B0,E0,E0,B0,E0,E0,B0,E0,E0] h λb h=>ns b f λf=>n f h) (kQ (kR λc f h n=>yK W2 [] c h λa h=>yK CY [a] c h λb h=>ce 4294967430 [B0,E0,E0,B0,E0,E0,B0,E0,E0,B0,E0,E0] h λd h=>fo d f λf=>yS 12 (fM f) b h λe h=>n f h) (kQ (kQ (kR λc f h n=>bN (a8 f) h λa h=>yD a J1 h λb h=>ci b f λf2=>n f2 h) (kB 0 (kL (kQ (kQ (kR λc f h n=>m9 (bf f) J0 h λa h=>cF a f λf1=>n f1 h) (kI cR kS (kX 0))) (kQ (kB 1 (kR λc f h n=>aA 12 (fM f) h λa h=>aA 12 (ju f) h λb h=>yK BM [a,b] c h λd h3=>yI 3 (a8 f) (bf f) h3 λg h3=>aA 3 g h3 λi h3=>ap (aA 3 g) i (yK M9 [i,aU f] c h3 λj h7=>yK CY [j] c h7 λm h9=>yK Qa [d,m] c h9 λp h11=>yK Qt [p,aU f] c h11 λr h13=>yS 12 (fM f) r h13 λt h15=>n f h15) 1 [h])) (kR λc f h n=>yD (bf f) J1 h λa h=>ci a f λf1=>n f1 h)))))) (kQ (kR λc f h n=>aA 12 (fM f) h λa h=>yS 12 (Dl f) a h λb h=>n f h) kT))))
def Wr:aE:=DF aba (λk f h=>AV.onPtr (Dl f) λo i=>cellsOf o h λcs _=>ldropC i cs λcs=>ltake 12 cs λx0=>AV.force (.agg x0) λr1=>k r1 h)
def abp:CT ar:=(kQ (kR λc f h n=>bU (cS f) h λa h=>io a f λf=>bU (cQ f) h λb h=>gP b f λf=>ce 4294967430 [B0,E0,E0,B0,E0,E0,B0,E0,E0,B0,E0,E0] h λd h=>ie d f λf=>db B0 f λf=>n f h) (kQ (kR λc f h n=>aA 3 (cu f) h λa h=>aA 3 (cu f) h λb h=>yK wj [a,b] c h λd h3=>aA 3 (cP f) h3 λg h3=>ap (aA 3 (cP f)) g (aA 3 (cP f) h3 λi h3=>ap (aA 3 (cP f)) i (yK wj [g,i] c h3 λj h7=>yK Hv [d,j] c h7 λm h9=>ce 4294967360 [B0,E0,E0] h9 λp h11=>bQ true h9 (ij p f λf=>yS 3 (cX f) m h11 λr h13=>n f h13) [h7,h3,h]) 1 [h]) 1 [h]) (kQ (kQ (kR λc f h n=>aA 3 (cX f) h λa h=>yK R7 [a] c h λb h=>fF b f λf=>n f h) (kI cr (kQ (kR λc f h n=>gu [B0,E0,E0,B0,E0,E0,B0,E0,E0,B0,E0,E0] [] h λa h=>yS 12 (c5 f) a h λb h=>db B0 f λf=>n f h) kT) kS)) (kQ (kR λc f h n=>aA 3 (cu f) h λa h=>aA 3 (cX f) h λb h=>yK RW [a,b] c h λd h3=>aA 3 (cP f) h3 λg h3=>ap (aA 3 (cP f)) g (yK Eh [g] c h3 λi h6=>aA 3 (cX f) h6 λl h6=>ap (aA 3 (cX f)) l (yK RW [i,l] c h6 λm h9=>ce 4294967360 [B0,E0,E0] h9 λp h11=>bQ true h9 (fi p f λf=>ce 4294967360 [B0,E0,E0] h11 λr h13=>bQ true h11 (iW r f λf=>yS 3 (cY f) d h13 λt h15=>yS 3 (dG f) m h15 λv h17=>n f h17) [h6,h3,h]) [h6,h3,h]) 2 [h3,h]) 1 [h]) (kQ (kR λc f h n=>aA 3 (cY f) h λa h=>yK M9 [a,bH f] c h λb h2=>V9 0 3 true b h2 λe h2=>yK u3 [e] c h2 λg h5=>aA 3 (dG f) h5 λj h5=>ap (aA 3 (dG f)) j (yK M9 [j,bH f] c h5 λl h8=>V9 0 3 true l h8 λo h8=>yK u3 [o] c h8 λp h11=>gu [B0,E0,E0,B0,E0,E0,B0,E0,E0,B0,E0,E0] [⟨0,6,g⟩,⟨6,6,p⟩] h11 λr h11=>yS 12 (c5 f) r h11 λs h14=>db B1 f λf15=>n f15 h14) 2 [h2,h]) kT)))))
def W9:aE:=vi abp (λk f h=>AV.onPtr (c5 f) λo i=>cellsOf o h λcs _=>ldropC i cs λcs=>ltake 12 cs λx0=>AV.force (.agg x0) λr1=>AV.force (bx f) λr2=>k (.tup [r1,r2]) h)
def adK:CT F8:=(kQ (kR λc f h n=>bU (a8 f) h λa h=>ci a f λf=>bU (aT f) h λb h=>bK b f λf=>cF B0 f λf=>n f h) (kQ (kR λc f h n=>yF 0 (aU f) h λa h=>aA 3 a h λb h=>yF 0 (bf f) h λd h=>aA 3 d h λe h=>yK CF [b,e] c h λg h=>ct g J0 h λi h=>ah i true h (yF 3 (bf f) h) λj h=>ah i true h (aA 3 j h) λl h=>ah i true h (yF 3 (aU f) h) λm h=>ah i true h (aA 3 m h) λo h=>ah i true h (yK CF [l,o] c h) λp h=>ah i true h (ct p J0 h) λq h=>gr i q B0 h λr h=>cF r f λf=>n f h) kT))
def TB:aE:=cA adK (r1 cR)
def Vn:aE:=RD
def aas:CT F8:=(kQ (kR λc f h n=>bK .nils f λf=>n f h) (kQ (kQ (kR λc f h n=>bN (a8 f) h λa h=>lA a J0 h λb h=>df b f λf2=>n f2 h) (kI aT (kQ (kR λc f h n=>bK .nils f λf=>n f h) kT) kS)) (kQ (kR λc f h n=>yK uN [J0] c h λa h=>rP 1 [B0,E0,E0] [⟨0,3,a⟩] h λb h=>r8 3 40 3 b (a8 f) h λd h=>bK d f λf3=>n f3 h) kT)))
def Ye:aE:=b7 aas (r1 aU)
end
end Go.Ai
