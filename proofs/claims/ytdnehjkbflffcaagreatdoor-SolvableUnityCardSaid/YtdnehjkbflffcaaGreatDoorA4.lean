/- The operations on values; regions, codes and functions in continuation style, over frames of few slots. The operations on values are those of the interpreter. Functions in continuation style, over frames of few slots, do what the interpreter does. Codes over whole frames in continuation style: functions with a range over a function, and their rounds. Every operation is bad, whatever comes behind it, or goes on with one value and one heap. Known calls: what an evaluation shows, and an entry that remembers it. What a known call leaves: the post-condition of a law. What a function reaches, reckoned from a table of who leads to whom. Loops of the interpreter: a loop is its body, done over and over; a loop whose states are known ends as its last round says. Single operations of the interpreter on numbers in range, as equations. Functions whose code is not printed: it is worked out where it runs. Calls whose arguments and results name no heap, run on an empty heap. -/
import Derived.Test.YtdnehjkbflffcaaGreatDoorA3
import Derived.ChangeSame
import Derived.RowKit3
import GoSem.ClaimFn
import GoSem.ClaimFollow
import GoSem.ClaimDataLaid
import GoSem.ClaimGoes
set_option linter.unusedVariables false
set_option autoImplicit false
set_option linter.unusedSimpArgs false
set_option linter.unusedSectionVars false
namespace Go.Ai
noncomputable section
structure vt where
 off:Nat
 size:Nat
 v:AV
def NC(ev:a6→AV)(l:List a6):List AV:=List.rec (motive:=λ_=>List AV) [] (λx _ ih=>ev x::ih) l
def Lf(ev:a6→AV)(l:List iC):List vt:=List.rec (motive:=λ_=>List vt) [] (λq _ ih=>⟨q.off,q.size,ev q.x⟩::ih) l
def Li(ev:a6→AV)(x:mi):Option AV:=mi.rec (motive:=λ_=>Option AV) none (λx=>some (ev x)) x
def n9(l:List AV):(List AV→aa)→aa:=List.rec (motive:=λ_=>(List AV→aa)→aa) (λk=>k []) (λx _ ih k=>x.force λv=>ih λvs=>k (v::vs)) l
def cO(b:Bool)(k:AV→aa):aa:=Bool.rec (motive:=λ_=>aa) (k (.bool false)) (k (.bool true)) b
def dA(x y:AV)(k:IntKind→Int→Int→aa):aa:=x.onInt λkd a=>y.onInt λkd' b=>must 12 (Nat.beq kd.ctorIdx kd'.ctorIdx) (k kd a b)
def ot(x y:AV)(k:IntKind→Int→Int→aa)(ku:aa):aa:=x.onIntU (λkd a=>y.onInt λkd' b=>must 12 (Nat.beq kd.ctorIdx kd'.ctorIdx) (k kd a b)) (λ_=>y.onInt λkd' b=>must 12 (Nat.beq kd'.ctorIdx 4) (u7 b ku))
def Bh(x y:AV)(k:IntKind→Nat→Nat→aa):aa:=x.onInt λkd a=>y.onInt λ_ b=>eg a b λa b=>k kd a (i6 b (IntKind.bitsK kd))
def Ew(x y:AV)(k:List Nat→List Nat→aa):aa:=x.onStr λs=>y.onStr λt=>k s t
def iM(x:AV)(k:Nat→aa):aa:=x.onInt λ_ n=>natOf n k
def jh(x:Option AV)(d:Nat)(k:Nat→aa):aa:=Option.rec (motive:=λ_=>aa) (k d) (λx=>iM x k) x
def nr(v:Obj)(p:ab):HT→(HT→aa)→aa :=
 ab.rec (motive:=λ_=>HT→(HT→aa)→aa) (λt k=>HT.rec (motive:=λ_=>aa) (k (.node .leaf v .leaf)) (λl _ r _ _=>k (.node l v r)) t) (λ_ ih t k=>HT.rec (motive:=λ_=>aa) (ih .leaf λl=>k (.node l .none .leaf)) (λl x r _ _=>ih l λl=>k (.node l x r)) t) (λ_ ih t k=>HT.rec (motive:=λ_=>aa) (ih .leaf λr=>k (.node .leaf .none r)) (λl x r _ _=>ih r λr=>k (.node l x r)) t) p
def NE(p:ab):(ab→aa)→aa:=ab.rec (motive:=λ_=>(ab→aa)→aa) (λk=>k (.l .e)) (λp _ k=>k (.r p)) (λ_ ih k=>ih λp=>k (.l p)) p
def dY(o:ab)(b:Obj)(h:H)(k:H→aa):aa:=H.rec (motive:=λ_=>aa) (λt n=>nr b o t λt=>k (.mk t n)) h
def gZ(p:ab):HT→(Obj→aa)→aa :=
 ab.rec (motive:=λ_=>HT→(Obj→aa)→aa) (λt k=>HT.rec (motive:=λ_=>aa) (k .none) (λ_ v _ _ _=>k v) t) (λ_ ih t k=>HT.rec (motive:=λ_=>aa) (k .none) (λl _ _ _ _=>ih l k) t) (λ_ ih t k=>HT.rec (motive:=λ_=>aa) (k .none) (λ_ _ r _ _=>ih r k) t) p
def bD(o:ab)(h:H)(k:List AV→Nat→aa):aa :=
 H.rec (motive:=λ_=>aa) (λt _=>gZ o t λb=>Obj.rec (motive:=λ_=>aa) (.bad 7) k (λ_ _=>.bad 8) (.bad 9) (λ_ _ _ _ _ _=>.bad 9) b) h
def qa(o:ab)(h:H)(k:List pV→Nat→aa):aa :=
 H.rec (motive:=λ_=>aa) (λt _=>gZ o t λb=>Obj.rec (motive:=λ_=>aa) (.bad 10) (λ_ _=>.bad 10) k (.bad 10) (λ_ _ _ _ _ _=>.bad 10) b) h
def B5{α : Type}(l:List α):Nat→(α → aa)→aa:=List.rec (motive:=λ_=>Nat→(α → aa)→aa) (λ_ _=>.bad 11) (λa _ ih i k=>Nat.rec (motive:=λ_=>aa) (k a) (λj _=>ih j k) i) l
def EV(off size:Nat)(agg:Bool)(cs:List AV)(h:H)(k:af):aa :=
 Bool.rec (motive:=λ_=>aa) (B5 cs off λv=>k v h) (ldropC off cs λcs=>ltake size cs λcs=>k (.agg cs) h) agg
def jg(size:Nat)(x:AV)(n:Nat)(h:H)(k:List AV→aa):aa :=
 x.onSlcZ (must 12 (Nat.beq n 0) (k [])) λo i m _=>must 12 (Nat.ble n m) (bD o h λcs _=>ldropC i cs λcs=>ltake (Nat.mul n size) cs k)
def cW(b:Obj)(h:H)(k:ab→H→aa):aa :=
 H.rec (motive:=λ_=>aa) (λt n=>gZ n t λa=>Obj.rec (motive:=λ_=>aa) (nr b n t λt=>NE n λn'=>k n (.mk t n')) (λ_ _=>.bad 6) (λ_ _=>.bad 6) (.bad 6) (λ_ _ _ _ _ _=>.bad 6) a) h
def jp{α : Type}(l:List α):(List α → aa)→aa:=List.rec (motive:=λ_=>(List α → aa)→aa) (λk=>k []) (λa _ ih k=>ih λt=>k (a::t)) l
def zz(v:List AV):List AV→(List AV→aa)→aa:=List.rec (motive:=λ_=>List AV→(List AV→aa)→aa) (λl k=>k l) (λa _ ih l k=>List.rec (motive:=λ_=>aa) (.bad 3) (λ_ t _=>ih t λt=>k (a::t)) l) v
def YA(f:List AV→(List AV→aa)→aa)(l:List AV):Nat→(List AV→aa)→aa :=
 List.rec (motive:=λ_=>Nat→(List AV→aa)→aa) (λ_ _=>.bad 3) (λb t ih i k=>Nat.rec (motive:=λ_=>aa) (f (b::t) k) (λj _=>ih j λt=>k (b::t)) i) l
def rp(v l:List AV)(i:Nat)(k:List AV→aa):aa:=List.rec (motive:=λ_=>aa) (k l) (λ_ _ _=>YA (zz v) l i k) v
def iI(l:List vt):List AV→(List AV→aa)→aa :=
 List.rec (motive:=λ_=>List AV→(List AV→aa)→aa) (λcs k=>k cs) (λq _ ih cs k=>must 12 (Nat.beq (aW q.v.cells) q.size) (rp q.v.cells cs q.off (λcs=>ih cs k))) l
def AV.onCells(v:AV)(ks:aa)(ka:List AV→aa):aa:=AV.rec (motive_1:=λ_=>aa) (motive_2:=λ_=>PUnit) (aa.bad 12) ks ks ks ks ks (λ_=>ks) (λ_ _=>ks) (λ_ _ _=>ks) (λ_ _ _ _ _=>ks) (λ_=>ks) (λ_ _=>.bad 12) (λcs _=>ka cs) (λ_=>ks) (λ_ _ _ _=>ks) (λ_=>ks) (λ_ _=>ks) (λ_ _=>ks) (λ_=>ks) (λ_=>ks) PUnit.unit (λ_ _ _ _=>PUnit.unit) v
def DS(v:AV)(l:List AV):Nat→(List AV→aa)→aa:=YA (λl k=>List.rec (motive:=λ_=>aa) (.bad 3) (λ_ t _=>k (v::t)) l) l
def AV.onStrE(v:AV)(ks:List Nat→aa)(ke:aa):aa:=AV.rec (motive_1:=λ_=>aa) (motive_2:=λ_=>PUnit) ke ke ke ke ke ke (λ_=>ke) (λ_ _=>ke) (λ_ _ _=>ke) (λ_ _ _ _ _=>ke) (λ_=>ke) (λ_ _=>ke) (λ_ _=>ke) (λs=>ks s) (λ_ _ _ _=>ke) (λ_=>ke) (λ_ _=>ke) (λ_ _=>ke) (λ_=>ke) (λ_=>ke) PUnit.unit (λ_ _ _ _=>PUnit.unit) v
def km(size:Nat)(y:AV)(h:H)(k:Nat→List AV→aa):aa:=y.onStrE (λs=>must 12 (Nat.beq size 1) (jp (cT s) λcs=>k (aW s) cs)) (y.lenC λn=>jg size y n h λcs=>k n cs)
def gm(es:Nat)(need:Nat)(cs:List AV)(h:H)(k:af):aa:=jp cs λcs=>cW (.cells cs es) h λo h=>forceN need λn=>k (.slc o 0 n (.opn n)) h
def lU(size:Nat)(o:ab)(i n m:Nat)(c:gQ)(new cs:List AV)(es:Nat)(h:H)(k:af):aa :=
 must 12 (bL new) (rp new cs (Nat.add i (Nat.mul n size)) λcs=>forceN (Nat.add n m) λq=>dY o (.cells cs es) h λh=>k (.slc o i q c) h)
def eH(x:AV)(h:H)(k:af):aa:=k x h
def gr(c a b:AV)(h:H)(k:af):aa:=c.onBool λt=>ifC t (k a h) (k b h)
def ce(es:Nat)(zero:List AV)(h:H)(k:af):aa:=cW (.cells zero es) h λo h=>k (.ptr o 0) h
def bU(x:AV)(h:H)(k:af):aa:=cW (.cells x.cells 0) h λo h=>k (.ptr o 0) h
def gu(zero:List AV)(parts:List vt)(h:H)(k:af):aa:=iI parts zero λcs=>k (.agg cs) h
def rP(len:Nat)(cells:List AV)(parts:List vt)(h:H)(k:af):aa :=
 iI parts cells λcs=>cW (.cells cs 0) h λo h=>k (.slc o 0 len (.exact len)) h
def yL(x:AV)(h:H)(k:af):aa:=x.onPtr λo i=>bD o h λcs _=>B5 cs i λv=>k v h
def aA(n:Nat)(x:AV)(h:H)(k:af):aa:=x.onPtr λo i=>bD o h λcs _=>ldropC i cs λcs=>ltake n cs λcs=>k (.agg cs) h
def yS(n:Nat)(x v:AV)(h:H)(k:af):aa:=x.onPtr λo i=>bD o h λcs es=>v.onCells (must 12 (Nat.beq 1 n) (DS v cs i λcs=>dY o (.cells cs es) h λh=>k .undef h)) λvs=>must 12 (Nat.beq (aW vs) n) (must 12 (bL vs) (rp vs cs i λcs=>dY o (.cells cs es) h λh=>k .undef h))
def yNC(x:AV)(h:H)(k:af):aa:=AV.rec (motive_1:=λ_=>aa) (motive_2:=λ_=>PUnit) ((k x h)) (aa.bad 14) ((k x h)) ((k x h)) (aa.bad 14) (aa.bad 14) (λ_=>(k x h)) (λ_ _=>(k x h)) (λ_ _ _=>(k x h)) (λ_ _ _ _ _=>(k x h)) (λ_=>(k x h)) (λ_ _=>(k x h)) (λ_ _=>(k x h)) (λ_=>(k x h)) (λ_ _ _ _=>(k x h)) (λ_=>(k x h)) (λ_ _=>(k x h)) (λ_ _=>(k x h)) (λ_=>(k x h)) (λ_=>(k x h)) PUnit.unit (λ_ _ _ _=>PUnit.unit) x
def yA(x y:AV)(h:H)(k:af):aa:=dA x y λkd a b=>addC kd a b λn=>k (.int kd n) h
def yD(x y:AV)(h:H)(k:af):aa:=dA x y λkd a b=>subC kd a b λn=>k (.int kd n) h
def yM(x y:AV)(h:H)(k:af):aa:=dA x y λkd a b=>wrapC kd (Int.mul a b) λn=>k (.int kd n) h
def yQ(x y:AV)(h:H)(k:af):aa:=dA x y λkd a b=>ifC (ieq b 0) (.bad 15) (wrapC kd (Int.tdiv a b) λn=>k (.int kd n) h)
def yR(x y:AV)(h:H)(k:af):aa:=dA x y λkd a b=>ifC (ieq b 0) (.bad 15) (forceI (Int.tmod a b) λn=>k (.int kd n) h)
def BA(x y:AV)(h:H)(k:af):aa:=dA x y λkd a b=>eg a b λa b=>must 12 (Nat.blt a (IntKind.lim kd)) (must 12 (Nat.blt b (IntKind.lim kd)) (forceN (Nat.land a b) λn=>k (.int kd (.ofNat n)) h))
def Ou(x y:AV)(h:H)(k:af):aa:=dA x y λkd a b=>eg a b λa b=>must 12 (Nat.blt a (IntKind.lim kd)) (must 12 (Nat.blt b (IntKind.lim kd)) (forceN (Nat.lor a b) λn=>k (.int kd (.ofNat n)) h))
def Ez(x y:AV)(h:H)(k:af):aa:=Bh x y λkd a n=>wrapC kd (.ofNat (Nat.mul a (Nat.pow 2 n))) λn=>k (.int kd n) h
def sC(x y:AV)(h:H)(k:af):aa:=Bh x y λkd a n=>forceN (Nat.div a (Nat.pow 2 n)) λn=>k (.int kd (.ofNat n)) h
def s8(b:Bool):Bool:=Bool.rec (motive:=λ_=>Bool) true false b
def yC(neg swap:Bool)(x y:AV)(h:H)(k:af):aa:=dA x y λ_ a b=>cO (Bool.rec (motive:=λ_=>Bool) (Bool.rec (motive:=λ_=>Bool) (sw a b) (sw b a) swap) (s8 (Bool.rec (motive:=λ_=>Bool) (sw a b) (sw b a) swap)) neg) λv=>k v h
def yE(neg:Bool)(x y:AV)(h:H)(k:af):aa:=ot x y (λ_ a b=>cO (Bool.rec (motive:=λ_=>Bool) (ieq a b) (s8 (ieq a b)) neg) λv=>k v h) (cO neg λv=>k v h)
def ySA(x y:AV)(h:H)(k:af):aa:=Ew x y λs t=>must 12 (Nat.blt (aW s) 4611686018427387904) (must 12 (Nat.blt (aW t) 4611686018427387904) (jp (cZ s t) λs=>k (.str s) h))
def ls(neg:Bool)(x y:AV)(h:H)(k:af):aa:=seqV x y λb=>cO (cd neg b) λv=>k v h
def Sg(x y:AV)(h:H)(k:af):aa:=Ew x y λs t=>sltC s t λb=>cO b λv=>k v h
def qZ(x:AV)(h:H)(k:af):aa:=x.onBool λb=>cO (cd true b) λv=>k v h
def Dn(x:AV)(h:H)(k:af):aa:=x.onInt λkd n=>wrapC kd (Int.neg n) λn=>k (.int kd n) h
def uQ(kd:IntKind)(x:AV)(h:H)(k:af):aa:=x.onInt λ_ n=>wrapC kd n λn=>k (.int kd n) h
def yN(kind:Nat)(neg:Bool)(x:AV)(h:H)(k:af):aa:=AV.rec (motive_1:=λ_=>aa) (motive_2:=λ_=>PUnit) ((aa.bad 16)) (must 12 (Nat.beq kind 0) (k (.bool (cd neg true)) h)) (must 12 (Nat.beq kind 1) (k (.bool (cd neg true)) h)) (must 12 (Nat.beq kind 2) (k (.bool (cd neg true)) h)) (must 12 (Nat.beq kind 3) (k (.bool (cd neg true)) h)) (must 12 (Nat.beq kind 4) (k (.bool (cd neg true)) h)) (λ_=>(aa.bad 16)) (λ_ _=>must 12 (Nat.beq kind 1) (k (.bool neg) h)) (λ_ _ _=>must 12 (Nat.beq kind 4) (k (.bool neg) h)) (λ_ _ _ _ _=>must 12 (Nat.beq kind 3) (k (.bool neg) h)) (λ_=>must 12 (Nat.beq kind 2) (k (.bool neg) h)) (λ_ _=>(aa.bad 16)) (λ_ _=>(aa.bad 16)) (λ_=>(aa.bad 16)) (λ_ _ _ _=>must 12 (Nat.beq kind 1) (k (.bool neg) h)) (λ_=>(aa.bad 16)) (λ_ _=>must 12 (Nat.beq kind 0) (k (.bool neg) h)) (λ_ _=>(aa.bad 16)) (λ_=>(aa.bad 16)) (λ_=>(aa.bad 16)) PUnit.unit (λ_ _ _ _=>PUnit.unit) x
def Hx(neg agg:Bool)(ks:List Nat)(x y:AV)(h:H)(k:af):aa :=
 AV.cellsBy agg x λl=>AV.cellsBy agg y λr=>must 12 (Nat.beq (aW l) (aW ks)) (must 12 (Nat.beq (aW r) (aW ks)) (eqsC ks l r λb=>k (.bool (cd neg b)) h))
def yB(x:AV)(h:H)(k:af):aa:=x.lenC λn=>jg 1 x n h λcs=>bytesC cs λl=>k (.str l) h
def yBy(es:Nat)(x:AV)(h:H)(k:af):aa:=x.onStr λs=>jp (cT s) λz=>cW (.cells z es) h λo h=>k (.slc o 0 (aW s) (.opn (aW s))) h
def sa(_size bytes:Nat)(zero:List AV)(len cap:AV)(h:H)(k:af):aa :=
 iM len λl=>iM cap λc=>must 12 (Nat.ble l c) (must 12 (Nat.ble (Nat.mul bytes c) 1099511627776) (must 12 (Nat.ble c 1099511627776) (jp (eQ zero c) λz=>cW (.cells z 0) h λo h=>forceN l λl=>forceN c λc=>k (.slc o 0 l (.exact c)) h)))
def yXS(x:AV)(lo hi:Option AV)(h:H)(k:af):aa :=
 x.onStr λs=>jh lo 0 λl=>Option.rec (motive:=λ_=>aa) (ldropC l s λs=>k (.str s) h) (λy=>iM y λm=>must 12 (Nat.ble l m) (ldropC l s λs=>ltake (Nat.sub m l) s λs=>k (.str s) h)) hi
def yX(size:Nat)(x:AV)(lo hi mx:Option AV)(h:H)(k:af):aa :=
 jh lo 0 λl=>x.onSlc (jh hi 0 λm=>must 12 (Nat.beq l 0) (must 12 (Nat.beq m 0) (jh mx 0 λq=>must 12 (Nat.beq q 0) (k .nils h))))
  λo i n c=>jh hi n λm=>gQ.rec (motive:=λ_=>aa) (λc=>Option.rec (motive:=λ_=>aa) (cutSlc size o i l m c .exact true h k) (λy=>iM y λq=>must 12 (Nat.ble q c) (cutSlc size o i l m q .exact true h k)) mx) (λd=>Option.rec (motive:=λ_=>aa) (cutSlc size o i l m d .opn false h k) (λy=>iM y λq=>must 12 (Nat.ble q d) (cutSlc size o i l m q .exact true h k)) mx) c
def yXA(n size:Nat)(x:AV)(lo hi:Option AV)(h:H)(k:af):aa :=
 jh lo 0 λl=>jh hi n λm=>x.onPtr λo i=>cutSlc size o i l m n .exact true h k
def yF(off:Nat)(x:AV)(h:H)(k:af):aa:=x.onPtr λo i=>forceN (Nat.add i off) λi=>k (.ptr o i) h
def V9(off size:Nat)(agg:Bool)(x:AV)(h:H)(k:af):aa:=x.onAgg λcs=>EV off size agg cs h k
def yI(size:Nat)(x y:AV)(h:H)(k:af):aa :=
 iM y λj=>x.onSlc (.bad 20) λo i n _=>must 12 (Nat.blt j n) (forceN (Nat.add i (Nat.mul j size)) λi=>k (.ptr o i) h)
def yIA(len size:Nat)(x y:AV)(h:H)(k:af):aa :=
 iM y λj=>x.onPtr λo i=>must 12 (Nat.blt j len) (forceN (Nat.add i (Nat.mul j size)) λi=>k (.ptr o i) h)
def Lg(x y:AV)(h:H)(k:af):aa:=iM y λj=>x.onStr λs=>B5 s j λb=>ifC (Nat.blt b 256) (k (.int .u8 (.ofNat b)) h) (k (.ub b) h)
def yIx(len size:Nat)(agg:Bool)(x y:AV)(h:H)(k:af):aa:=iM y λj=>x.onAgg λcs=>must 12 (Nat.blt j len) (EV (Nat.mul j size) size agg cs h k)
def yLk(str:Bool)(zero:AV)(commaOk:Bool)(x y:AV)(h:H)(k:af):aa :=
 must 12 (y.isKey str) (x.onMapN (dD commaOk zero false h k) λo=>qa o h λes _=>findEnt y es (λq=>Option.rec (motive:=λ_=>aa) (dD commaOk zero false h k) (λq=>dD commaOk q.1 true h k) q) 0)
def Zv(str:Bool)(m y v:AV)(h:H)(k:af):aa :=
 must 12 (y.isKey str) (m.onMap λo=>qa o h λes clock=>findEnt y es (λq=>Option.rec (motive:=λ_=>aa) (jp (cZ es [⟨y,v,clock⟩]) λes'=>dY o (.map es' (Nat.succ clock)) h λh=>k .undef h) (λq=>B5 es q.2 λe=>jp (oM ⟨y,v,e.born⟩ es q.2) λes'=>dY o (.map es' clock) h λh=>k .undef h) q) 0)
def yMM(h:H)(k:af):aa:=cW (.map [] 0) h λo h=>k (.map o) h
def yMF(f:Nat)(a c:List AV)(h:H)(k:af):aa:=k (.fn f (a) (c)) h
def yT(i:Nat)(x:AV)(h:H)(k:af):aa:=x.onTup λvs=>B5 vs i λv=>k v h
def yK(f:ab)(args:List AV)(call:Call)(h:H)(k:af):aa:=n9 args λvs=>call f vs h k
def KW(f:AV)(args:List AV)(call:Call)(h:H)(k:af):aa:=f.onFnY (λg a c=>must 12 (Nat.blt g 8191) (call (ae g) (cZ a (cZ (args) c)) h k)) (λo=>call (ae 8191) (.yld o::args) h k)
def bN(x:AV)(h:H)(k:af):aa:=x.lenC λn=>k (.int .i64 (.ofNat n)) h
def tn(x:AV)(h:H)(k:af):aa:=x.onStr λs=>forceN (aW s) λn=>k (.int .i64 (.ofNat n)) h
def yLM(x:AV)(h:H)(k:af):aa:=x.onMapN (k (.int .i64 0) h) λo=>qa o h λes _=>forceN (aW es) λn=>k (.int .i64 (.ofNat n)) h
def yLC(n:Nat)(h:H)(k:af):aa:=k (.int .i64 (.ofNat n)) h
def r8(size bytes es0:Nat)(x y:AV)(h:H)(k:af):aa :=
 km size y h λm new=>x.onSlcE (Nat.rec (motive:=λ_=>aa) (k .nils h) (λ_ _=>must 12 (Nat.ble (Nat.mul m (Nat.succ bytes)) 1073741824) (gm es0 m new h k)) m)
  (λo i n c=>bD o h λcs es=>must 12 (Nat.ble (Nat.mul (Nat.add n m) (Nat.succ bytes)) 1073741824) (ldropC i cs λcs'=>ltake (Nat.mul n size) cs' λold =>
   gQ.rec (motive:=λ_=>aa) (λd=>ifC (Nat.ble (Nat.add n m) d) (lU size o i n m c new cs es h k) (gm es0 (Nat.add n m) (cZ old new) h k)) (λd=>ifC (Nat.ble (Nat.add n m) d) (lU size o i n m c new cs es h k)
     (must 12 (bL new) (must 12 (Nat.beq es es0) (must 12 (Nat.beq (Nat.add i (Nat.mul d size)) (aW cs)) (must 12 (Nat.ble n d) (dY o .dead h λh=>gm es0 (Nat.add n m) (cZ old new) h k)))))) c))
  λo i=>bD o h λcs es=>must 12 (Nat.blt 0 m) (must 12 (Nat.ble (Nat.mul m (Nat.succ bytes)) 1073741824) (must 12 (bL new) (must 12 (Nat.beq es es0) (must 12 (Nat.beq i (aW cs)) (dY o .dead h λh=>gm es0 m new h k)))))
def yCp(size:Nat)(x y:AV)(h:H)(k:af):aa :=
 km size y h λm new=>x.onSlcZ (k (.int .i64 0) h) λo i n _=>ltake (Nat.mul (i6 m n) size) new λnew=>must 12 (bL new) (bD o h λcs es=>rp new cs i λcs=>forceN (i6 m n) λq=>dY o (.cells cs es) h λh=>k (.int .i64 (.ofNat q)) h)
def GW(x y:AV)(h:H)(k:af):aa:=dA x y λkd a b=>ifC (sw a b) (k (.int kd b) h) (k (.int kd a) h)
def yMi(x y:AV)(h:H)(k:af):aa:=dA x y λkd a b=>ifC (sw b a) (k (.int kd b) h) (k (.int kd a) h)
def ZQ(es0:Nat)(x y:AV)(h:H)(k:af):aa :=
 iM y λn=>x.onPtrN (must 12 (Nat.beq n 0) (k (.str []) h)) λo i=>must 12 (Nat.blt 0 n) (must 12 (Nat.ble n 1099511627776) (bD o h λcs es=>must 12 (Nat.beq es es0) (ldropC i cs λcs=>ltake n cs λcs=>bytesC cs λl=>dY o .dead h λh=>k (.str l) h)))
def yRE(x:AV)(h:H)(k:af):aa :=
 x.onMap λq=>qa q h λes _=>List.rec (motive:=λ_=>aa) (cW (.loop 9 .no (kh (.map q) .e .leaf) [] .skip .skip) h λo h=>k (.ptr o 0) h) (λ_ _ _=>.bad 52) es
def Zn(x:AV)(h:H)(k:af):aa :=
 x.onPtr λo i=>must 12 (Nat.beq i 0) (iterOf o h λq=>qa q h λes _=>List.rec (motive:=λ_=>aa) (k (.tup [.bool false]) h) (λ_ _ _=>.bad 52) es)
def ySD(x:AV)(h:H)(k:af):aa :=
 x.onSlc (k .nilp h) λo i _ c=>must 12 (Nat.blt 0 (gQ.rec (motive:=λ_=>Nat) (λc=>c) (λd=>d) c)) (k (.ptr o i) h)
def yPU(x:AV)(h:H)(k:af):aa :=
 x.onPtrN (k .nilp h) λo i=>bD o h λcs _=>must 12 (Nat.blt i (aW cs)) (k (.ptr o i) h)
def yUP(es0 size:Nat)(x:AV)(h:H)(k:af):aa :=
 x.onPtrN (k .nilp h) λo i=>bD o h λcs es=>must 12 (Nat.beq es es0) (must 12 (Nat.beq (Nat.mod i size) 0) (must 12 (Nat.ble (Nat.add i size) (aW cs)) (k (.ptr o i) h)))
def yPE(neg:Bool)(x y:AV)(h:H)(k:af):aa :=
 x.onPtr λo i=>y.onPtr λq j=>must 12 (o.beq q) (must 12 (Nat.beq i j) (k (.bool (cd neg true)) h))
def yCS(x:AV)(h:H)(k:af):aa :=
 x.onSlc (k (.int .i64 0) h) λ_ _ _ c=>gQ.rec (motive:=λ_=>aa) (λc=>k (.int .i64 (.ofNat c)) h) (λ_=>.bad 51) c
def yCl(zero:List AV)(x:AV)(h:H)(k:af):aa :=
 x.onSlcZ (k (.tup []) h) λo i n _=>must 12 (bL (eQ zero n)) (bD o h λcs es=>rp (eQ zero n) cs i λcs=>dY o (.cells cs es) h λh=>k (.tup []) h)
def O.stepY(o:O)(ev:a6→AV)(call:Call)(h:H)(k:af):aa:=match o with
 | .mov a0=>eH (ev a0) h k
 | .pick a0 a1 a2=>gr (ev a0) (ev a1) (ev a2) h k
 | .alloc a0 a1=>ce a0 a1 h k
 | .box a0=>bU (ev a0) h k
 | .build a0 a1=>gu a0 (Lf ev a1) h k
 | .buildSlice a0 a1 a2=>rP a0 a1 (Lf ev a2) h k
 | .loadS a0=>yL (ev a0) h k
 | .loadA a0 a1=>aA a0 (ev a1) h k
 | .store a0 a1 a2=>yS a0 (ev a1) (ev a2) h k
 | .nilCheck a0=>yNC (ev a0) h k
 | .iadd a0 a1=>yA (ev a0) (ev a1) h k
 | .isub a0 a1=>yD (ev a0) (ev a1) h k
 | .imul a0 a1=>yM (ev a0) (ev a1) h k
 | .iquo a0 a1=>yQ (ev a0) (ev a1) h k
 | .irem a0 a1=>yR (ev a0) (ev a1) h k
 | .iand a0 a1=>BA (ev a0) (ev a1) h k
 | .ior a0 a1=>Ou (ev a0) (ev a1) h k
 | .ishl a0 a1=>Ez (ev a0) (ev a1) h k
 | .ishr a0 a1=>sC (ev a0) (ev a1) h k
 | .cmp a0 a1 a2 a3=>yC a0 a1 (ev a2) (ev a3) h k
 | .ieq a0 a1 a2=>yE a0 (ev a1) (ev a2) h k
 | .sadd a0 a1=>ySA (ev a0) (ev a1) h k
 | .seq a0 a1 a2=>ls a0 (ev a1) (ev a2) h k
 | .slt a0 a1=>Sg (ev a0) (ev a1) h k
 | .eqv a0 a1 a2 a3 a4=>Hx a0 a1 a2 (ev a3) (ev a4) h k
 | .isnil a0 a1 a2=>yN a0 a1 (ev a2) h k
 | .not a0=>qZ (ev a0) h k
 | .neg a0=>Dn (ev a0) h k
 | .convI a0 a1=>uQ a0 (ev a1) h k
 | .b2s a0=>yB (ev a0) h k
 | .s2b a0 a1=>yBy a0 (ev a1) h k
 | .mkSlice a0 a1 a2 a3 a4=>sa a0 a1 a2 (ev a3) (ev a4) h k
 | .sliceStr a0 a1 a2=>yXS (ev a0) (Li ev a1) (Li ev a2) h k
 | .sliceSlc a0 a1 a2 a3 a4=>yX a0 (ev a1) (Li ev a2) (Li ev a3) (Li ev a4) h k
 | .sliceArr a0 a1 a2 a3 a4=>yXA a0 a1 (ev a2) (Li ev a3) (Li ev a4) h k
 | .faddr a0 a1=>yF a0 (ev a1) h k
 | .field a0 a1 a2 a3=>V9 a0 a1 a2 (ev a3) h k
 | .iaddrS a0 a1 a2=>yI a0 (ev a1) (ev a2) h k
 | .iaddrA a0 a1 a2 a3=>yIA a0 a1 (ev a2) (ev a3) h k
 | .indexStr a0 a1=>Lg (ev a0) (ev a1) h k
 | .indexArr a0 a1 a2 a3 a4=>yIx a0 a1 a2 (ev a3) (ev a4) h k
 | .lookup a0 a1 a2 a3 a4=>yLk a0 a1 a2 (ev a3) (ev a4) h k
 | .mapUpd a0 a1 a2 a3=>Zv a0 (ev a1) (ev a2) (ev a3) h k
 | .mkMap=>yMM h k
 | .mkFunc a0 a1 a2=>yMF a0 (NC ev a1) (NC ev a2) h k
 | .extract a0 a1=>yT a0 (ev a1) h k
 | .call a0 a1=>yK a0 (NC ev a1) call h k
 | .callv a0 a1=>KW (ev a0) (NC ev a1) call h k
 | .len a0=>bN (ev a0) h k
 | .lenStr a0=>tn (ev a0) h k
 | .lenMap a0=>yLM (ev a0) h k
 | .lenC a0=>yLC a0 h k
 | .append a0 a1 a2 a3 a4=>r8 a0 a1 a2 (ev a3) (ev a4) h k
 | .copy a0 a1 a2=>yCp a0 (ev a1) (ev a2) h k
 | .imax a0 a1=>GW (ev a0) (ev a1) h k
 | .imin a0 a1=>yMi (ev a0) (ev a1) h k
 | .ubs a0 a1 a2=>ZQ a0 (ev a1) (ev a2) h k
 | .clear a0 a1=>yCl a0 (ev a1) h k
 | .rangeE a0=>yRE (ev a0) h k
 | .nextE a0=>Zn (ev a0) h k
 | .sdata a0=>ySD (ev a0) h k
 | .p2u a0=>yPU (ev a0) h k
 | .u2p a0 a1 a2=>yUP a0 a1 (ev a2) h k
 | .peq a0 a1 a2=>yPE a0 (ev a1) (ev a2) h k
 | .capS a0=>yCS (ev a0) h k
def O.opds(o:O):List a6:=match o with
 | .mov a0=>[a0]
 | .pick a0 a1 a2=>[a0]++[a1]++[a2]
 | .alloc _ _=>[]
 | .box a0=>[a0]
 | .build _ a1=>a1.map iC.x
 | .buildSlice _ _ a2=>a2.map iC.x
 | .loadS a0=>[a0]
 | .loadA _ a1=>[a1]
 | .store _ a1 a2=>[a1]++[a2]
 | .nilCheck a0=>[a0]
 | .iadd a0 a1=>[a0]++[a1]
 | .isub a0 a1=>[a0]++[a1]
 | .imul a0 a1=>[a0]++[a1]
 | .iquo a0 a1=>[a0]++[a1]
 | .irem a0 a1=>[a0]++[a1]
 | .iand a0 a1=>[a0]++[a1]
 | .ior a0 a1=>[a0]++[a1]
 | .ishl a0 a1=>[a0]++[a1]
 | .ishr a0 a1=>[a0]++[a1]
 | .cmp _ _ a2 a3=>[a2]++[a3]
 | .ieq _ a1 a2=>[a1]++[a2]
 | .sadd a0 a1=>[a0]++[a1]
 | .seq _ a1 a2=>[a1]++[a2]
 | .slt a0 a1=>[a0]++[a1]
 | .eqv _ _ _ a3 a4=>[a3]++[a4]
 | .isnil _ _ a2=>[a2]
 | .not a0=>[a0]
 | .neg a0=>[a0]
 | .convI _ a1=>[a1]
 | .b2s a0=>[a0]
 | .s2b _ a1=>[a1]
 | .mkSlice _ _ _ a3 a4=>[a3]++[a4]
 | .sliceStr a0 a1 a2=>[a0]++(match a1 with | .no=>[] | .it x=>[x])++(match a2 with | .no=>[] | .it x=>[x])
 | .sliceSlc _ a1 a2 a3 a4=>[a1]++(match a2 with | .no=>[] | .it x=>[x])++(match a3 with | .no=>[] | .it x=>[x])++(match a4 with | .no=>[] | .it x=>[x])
 | .sliceArr _ _ a2 a3 a4=>[a2]++(match a3 with | .no=>[] | .it x=>[x])++(match a4 with | .no=>[] | .it x=>[x])
 | .faddr _ a1=>[a1]
 | .field _ _ _ a3=>[a3]
 | .iaddrS _ a1 a2=>[a1]++[a2]
 | .iaddrA _ _ a2 a3=>[a2]++[a3]
 | .indexStr a0 a1=>[a0]++[a1]
 | .indexArr _ _ _ a3 a4=>[a3]++[a4]
 | .lookup _ _ _ a3 a4=>[a3]++[a4]
 | .mapUpd _ a1 a2 a3=>[a1]++[a2]++[a3]
 | .mkMap=>[]
 | .mkFunc _ a1 a2=>a1++a2
 | .extract _ a1=>[a1]
 | .call _ a1=>a1
 | .callv a0 a1=>[a0]++a1
 | .len a0=>[a0]
 | .lenStr a0=>[a0]
 | .lenMap a0=>[a0]
 | .lenC _=>[]
 | .append _ _ _ a3 a4=>[a3]++[a4]
 | .copy _ a1 a2=>[a1]++[a2]
 | .imax a0 a1=>[a0]++[a1]
 | .imin a0 a1=>[a0]++[a1]
 | .ubs _ a1 a2=>[a1]++[a2]
 | .clear _ a1=>[a1]
 | .rangeE a0=>[a0]
 | .nextE a0=>[a0]
 | .sdata a0=>[a0]
 | .p2u a0=>[a0]
 | .u2p _ _ a2=>[a2]
 | .peq _ a1 a2=>[a1]++[a2]
 | .capS a0=>[a0]
def ah(v:AV)(want:Bool)(h:H)(s:af→aa)(k:af):aa:=v.onGuard want (s k) (k .undef h)
def ap(s:H→af→aa)(v:AV)(k:aa)(n:Nat):List H→aa :=
 Nat.rec (motive:=λ_=>List H→aa) (λ_=>k) (λ_ ih hs=>List.rec (motive:=λ_=>aa) (.bad 22) (λh t _=>s h λw _=>must 12 (w.alike v) (ih t)) hs) n
def bQ(al:Bool)(h:H)(k:aa)(hs:List H):aa :=
 Bool.rec (motive:=λ_=>aa) k (H.rec (motive:=λ_=>aa) (λ_ n=>List.rec (motive:=λ_=>aa) k (λs _ ih=>H.rec (motive:=λ_=>aa) (λt _=>gZ n t λa=>Obj.rec (motive:=λ_=>aa) ih (λ_ _=>.bad 50) (λ_ _=>.bad 50) (.bad 50) (λ_ _ _ _ _ _=>.bad 50) a) s) hs) h) al
def HY(back:Nat)(eff al:Bool):Bool:=Nat.rec (motive:=λ_=>Bool) (Bool.rec (motive:=λ_=>Bool) (Bool.rec (motive:=λ_=>Bool) true false al) false eff) (λ_ _=>false) back
def O.movX(o:O):Option a6:=match o with | .mov x=>some x | _=>none
section
variable {Φ : Type}
abbrev eV(Φ : Type):=Call→(Φ → H→aa)→(Nat → Φ → H→aa)→(Φ → H→aa) → Φ → H→aa
def kS:eV Φ:=λ_ _ _ kn fr h=>kn fr h
def kR(l:Call → Φ → H→(Φ → H→aa)→aa):eV Φ:=λcall _ _ kn fr h=>l call fr h kn
def kQ(a b:eV Φ):eV Φ:=λcall kr ke kn fr h=>a call kr ke (b call kr ke kn) fr h
def P0(c : Φ → AV)(ok:Bool)(a b:eV Φ):eV Φ:=λcall kr ke kn fr h=>must 60 ok ((c fr).onBool λt=>Bool.rec (motive:=λ_=>aa) (b call kr ke kn fr h) (a call kr ke kn fr h) t)
def kI(c : Φ → AV)(a b:eV Φ):eV Φ:=λcall kr ke kn fr h=>(c fr).onBool λt=>Bool.rec (motive:=λ_=>aa) (b call kr ke kn fr h) (a call kr ke kn fr h) t
def am(l:List AV)(f:AV→List AV→aa):aa:=List.rec (motive:=λ_=>aa) (.bad 24) (λv t _=>f v t) l
def dg(l:List AV)(x:aa):aa:=List.rec (motive:=λ_=>aa) x (λ_ _ _=>.bad 24) l
def kB(id:Nat)(b:eV Φ):eV Φ:=λcall kr ke kn fr h=>b call kr (λj=>Bool.rec (motive:=λ_=>Φ → H→aa) (ke j) kn (Nat.beq j id)) kn fr h
def da(f:(Φ → H→aa) → Φ → H→aa)(n:Nat):(Φ → H→aa) → Φ → H→aa :=
 Nat.rec (motive:=λ_=>(Φ → H→aa) → Φ → H→aa) f (λ_ ih kn fr h=>ih (ih kn) fr h) n
def kL(b:eV Φ):eV Φ:=λcall kr ke _ fr h=>da (λkn fr h=>b call kr ke kn fr h) 30 (λ_ _=>.bad 23) fr h
def kX(id:Nat):eV Φ:=λ_ _ ke _ fr h=>ke id fr h
def kT:eV Φ:=λ_ kr _ _ fr h=>kr fr h
def Rw(why:Nat):eV Φ:=λ_ _ _ _ _ _=>.bad why
end
structure Ha (Φ : Type) where
 n:Nat
 init : Φ
 get:Nat → Φ → AV
 set:Nat→AV → Φ → (Φ → aa)→aa
structure O8 (α : Type) where
 (a b c d e f g h : α)
def yz(v:AV)(x:O8 AV)(k:O8 AV→aa):aa:=O8.rec (motive:=λ_=>aa) (λ_ b c d e f g h=>k ⟨v,b,c,d,e,f,g,h⟩) x
def df(v:AV)(x:O8 AV)(k:O8 AV→aa):aa:=O8.rec (motive:=λ_=>aa) (λa _ c d e f g h=>k ⟨a,v,c,d,e,f,g,h⟩) x
def bK(v:AV)(x:O8 AV)(k:O8 AV→aa):aa:=O8.rec (motive:=λ_=>aa) (λa b _ d e f g h=>k ⟨a,b,v,d,e,f,g,h⟩) x
def ci(v:AV)(x:O8 AV)(k:O8 AV→aa):aa:=O8.rec (motive:=λ_=>aa) (λa b c _ e f g h=>k ⟨a,b,c,v,e,f,g,h⟩) x
def cF(v:AV)(x:O8 AV)(k:O8 AV→aa):aa:=O8.rec (motive:=λ_=>aa) (λa b c d _ f g h=>k ⟨a,b,c,d,v,f,g,h⟩) x
def fo(v:AV)(x:O8 AV)(k:O8 AV→aa):aa:=O8.rec (motive:=λ_=>aa) (λa b c d e _ g h=>k ⟨a,b,c,d,e,v,g,h⟩) x
def jG(v:AV)(x:O8 AV)(k:O8 AV→aa):aa:=O8.rec (motive:=λ_=>aa) (λa b c d e f _ h=>k ⟨a,b,c,d,e,f,v,h⟩) x
def ns(v:AV)(x:O8 AV)(k:O8 AV→aa):aa:=O8.rec (motive:=λ_=>aa) (λa b c d e f g _=>k ⟨a,b,c,d,e,f,g,v⟩) x
def Lj{α : Type}(s:AV → α → (α → aa)→aa)(v:AV)(x:O8 α)(k:O8 α → aa):aa:=O8.rec (motive:=λ_=>aa) (λa b c d e f g h=>s v a λa=>k ⟨a,b,c,d,e,f,g,h⟩) x
def M8{α : Type}(s:AV → α → (α → aa)→aa)(v:AV)(x:O8 α)(k:O8 α → aa):aa:=O8.rec (motive:=λ_=>aa) (λa b c d e f g h=>s v b λb=>k ⟨a,b,c,d,e,f,g,h⟩) x
def Mc{α : Type}(s:AV → α → (α → aa)→aa)(v:AV)(x:O8 α)(k:O8 α → aa):aa:=O8.rec (motive:=λ_=>aa) (λa b c d e f g h=>s v c λc=>k ⟨a,b,c,d,e,f,g,h⟩) x
def Nw{α : Type}(s:AV → α → (α → aa)→aa)(v:AV)(x:O8 α)(k:O8 α → aa):aa:=O8.rec (motive:=λ_=>aa) (λa b c d e f g h=>s v d λd=>k ⟨a,b,c,d,e,f,g,h⟩) x
def Me{α : Type}(s:AV → α → (α → aa)→aa)(v:AV)(x:O8 α)(k:O8 α → aa):aa:=O8.rec (motive:=λ_=>aa) (λa b c d e f g h=>s v e λe=>k ⟨a,b,c,d,e,f,g,h⟩) x
def Oa{α : Type}(s:AV → α → (α → aa)→aa)(v:AV)(x:O8 α)(k:O8 α → aa):aa:=O8.rec (motive:=λ_=>aa) (λa b c d e f g h=>s v f λf=>k ⟨a,b,c,d,e,f,g,h⟩) x
def Np{α : Type}(s:AV → α → (α → aa)→aa)(v:AV)(x:O8 α)(k:O8 α → aa):aa:=O8.rec (motive:=λ_=>aa) (λa b c d e f g h=>s v g λg=>k ⟨a,b,c,d,e,f,g,h⟩) x
def Of{α : Type}(s:AV → α → (α → aa)→aa)(v:AV)(x:O8 α)(k:O8 α → aa):aa:=O8.rec (motive:=λ_=>aa) (λa b c d e f g h=>s v h λh=>k ⟨a,b,c,d,e,f,g,h⟩) x
abbrev F8:=O8 AV
abbrev ar:=O8 F8
structure aj where
 (l r:ar)
def i8:F8:=⟨.undef,.undef,.undef,.undef,.undef,.undef,.undef,.undef⟩
def i64:ar:=⟨i8,i8,i8,i8,i8,i8,i8,i8⟩
def abz:aj:=⟨i64,i64⟩
def eT(s:AV→ar→(ar→aa)→aa)(v:AV)(x:aj)(k:aj→aa):aa:=aj.rec (motive:=λ_=>aa) (λl r=>s v l λl=>k ⟨l,r⟩) x
def eR(s:AV→ar→(ar→aa)→aa)(v:AV)(x:aj)(k:aj→aa):aa:=aj.rec (motive:=λ_=>aa) (λl r=>s v r λr=>k ⟨l,r⟩) x
def a8(x:F8):AV:=x.a
def aT(x:F8):AV:=x.b
def aU(x:F8):AV:=x.c
def bf(x:F8):AV:=x.d
def cR(x:F8):AV:=x.e
def fM(x:F8):AV:=x.f
def ju(x:F8):AV:=x.g
def Dl(x:F8):AV:=x.h
def cS(x:ar):AV:=x.a.a
def Yw:AV→ar→(ar→aa)→aa:=Lj yz
def cQ(x:ar):AV:=x.a.b
def Lh:AV→ar→(ar→aa)→aa:=Lj df
def bH(x:ar):AV:=x.a.c
def jt:AV→ar→(ar→aa)→aa:=Lj bK
def cu(x:ar):AV:=x.a.d
def io:AV→ar→(ar→aa)→aa:=Lj ci
def cP(x:ar):AV:=x.a.e
def gP:AV→ar→(ar→aa)→aa:=Lj cF
def cX(x:ar):AV:=x.a.f
def ij:AV→ar→(ar→aa)→aa:=Lj fo
def cr(x:ar):AV:=x.a.g
def fF:AV→ar→(ar→aa)→aa:=Lj jG
def c5(x:ar):AV:=x.a.h
def ie:AV→ar→(ar→aa)→aa:=Lj ns
def cY(x:ar):AV:=x.b.a
def fi:AV→ar→(ar→aa)→aa:=M8 yz
def dG(x:ar):AV:=x.b.b
def iW:AV→ar→(ar→aa)→aa:=M8 df
def bx(x:ar):AV:=x.b.c
def db:AV→ar→(ar→aa)→aa:=M8 bK
def cH(x:ar):AV:=x.b.d
def dc:AV→ar→(ar→aa)→aa:=M8 ci
def dp(x:ar):AV:=x.b.e
def fB:AV→ar→(ar→aa)→aa:=M8 cF
def c6(x:ar):AV:=x.b.f
def gE:AV→ar→(ar→aa)→aa:=M8 fo
def dB(x:ar):AV:=x.b.g
def fJ:AV→ar→(ar→aa)→aa:=M8 jG
def iu(x:ar):AV:=x.b.h
def kM:AV→ar→(ar→aa)→aa:=M8 ns
def lu(x:ar):AV:=x.c.a
def nc:AV→ar→(ar→aa)→aa:=Mc yz
def jH(x:ar):AV:=x.c.b
def i7:AV→ar→(ar→aa)→aa:=Mc df
def iw(x:ar):AV:=x.c.c
def kw:AV→ar→(ar→aa)→aa:=Mc bK
def rY(x:ar):AV:=x.c.d
def nX:AV→ar→(ar→aa)→aa:=Mc ci
def nU(x:ar):AV:=x.c.e
def m6:AV→ar→(ar→aa)→aa:=Mc cF
def sN(x:ar):AV:=x.c.f
def oF:AV→ar→(ar→aa)→aa:=Mc fo
def B6(x:ar):AV:=x.c.g
def wZ:AV→ar→(ar→aa)→aa:=Mc jG
def wV(x:ar):AV:=x.c.h
def C5:AV→ar→(ar→aa)→aa:=Mc ns
def Hg(x:ar):AV:=x.d.a
def Gv:AV→ar→(ar→aa)→aa:=Nw yz
def sP(x:ar):AV:=x.d.b
def w8:AV→ar→(ar→aa)→aa:=Nw df
def xC(x:ar):AV:=x.d.c
def u6:AV→ar→(ar→aa)→aa:=Nw bK
def T5(x:ar):AV:=x.d.d
def Om:AV→ar→(ar→aa)→aa:=Nw ci
def I8(x:ar):AV:=x.d.e
def HD:AV→ar→(ar→aa)→aa:=Nw cF
def UX(x:ar):AV:=x.d.f
def LC:AV→ar→(ar→aa)→aa:=Nw fo
def WI(x:ar):AV:=x.d.g
def M1:AV→ar→(ar→aa)→aa:=Nw jG
def P5(x:ar):AV:=x.d.h
def NR:AV→ar→(ar→aa)→aa:=Nw ns
def XQ(x:ar):AV:=x.e.a
def Ri:AV→ar→(ar→aa)→aa:=Me yz
def aeR(x:ar):AV:=x.e.b
def Qb:AV→ar→(ar→aa)→aa:=Me df
def Va(x:ar):AV:=x.e.c
def PY:AV→ar→(ar→aa)→aa:=Me bK
def P7(x:ar):AV:=x.e.d
def N9:AV→ar→(ar→aa)→aa:=Me ci
def abF(x:ar):AV:=x.e.e
def QC:AV→ar→(ar→aa)→aa:=Me cF
def aai(x:ar):AV:=x.e.f
def QZ:AV→ar→(ar→aa)→aa:=Me fo
def Uq(x:ar):AV:=x.e.g
def PN:AV→ar→(ar→aa)→aa:=Me jG
def Xi(x:ar):AV:=x.e.h
def Ms:AV→ar→(ar→aa)→aa:=Me ns
def acH(x:ar):AV:=x.f.a
def RO:AV→ar→(ar→aa)→aa:=Oa yz
def Zz(x:ar):AV:=x.f.b
def Jp:AV→ar→(ar→aa)→aa:=Oa df
def agA(x:ar):AV:=x.f.c
def X1:AV→ar→(ar→aa)→aa:=Oa bK
def ahr(x:ar):AV:=x.f.d
def Uj:AV→ar→(ar→aa)→aa:=Oa ci
def ajJ(x:ar):AV:=x.f.e
def Vm:AV→ar→(ar→aa)→aa:=Oa cF
def agG(x:ar):AV:=x.f.f
def X9:AV→ar→(ar→aa)→aa:=Oa fo
def ait(x:ar):AV:=x.f.g
def XC:AV→ar→(ar→aa)→aa:=Oa jG
def ajW(x:ar):AV:=x.f.h
def Xk:AV→ar→(ar→aa)→aa:=Oa ns
def aiq(x:ar):AV:=x.g.a
def Yf:AV→ar→(ar→aa)→aa:=Np yz
def aiO(x:ar):AV:=x.g.b
def VZ:AV→ar→(ar→aa)→aa:=Np df
def aiP(x:ar):AV:=x.g.c
def TM:AV→ar→(ar→aa)→aa:=Np bK
def ajh(x:ar):AV:=x.g.d
def Vc:AV→ar→(ar→aa)→aa:=Np ci
def ajM(x:ar):AV:=x.g.e
def XA:AV→ar→(ar→aa)→aa:=Np cF
def agQ(x:ar):AV:=x.g.f
def XB:AV→ar→(ar→aa)→aa:=Np fo
def agS(x:ar):AV:=x.g.g
def Tn:AV→ar→(ar→aa)→aa:=Np jG
def aiB(x:ar):AV:=x.g.h
def Xc:AV→ar→(ar→aa)→aa:=Np ns
def aiw(x:ar):AV:=x.h.a
def Xs:AV→ar→(ar→aa)→aa:=Of yz
def ajV(x:ar):AV:=x.h.b
def SI:AV→ar→(ar→aa)→aa:=Of df
def ah2(x:ar):AV:=x.h.c
def XL:AV→ar→(ar→aa)→aa:=Of bK
def ah3(x:ar):AV:=x.h.d
def W0:AV→ar→(ar→aa)→aa:=Of ci
def ahM(x:ar):AV:=x.h.e
def S3:AV→ar→(ar→aa)→aa:=Of cF
def ajw(x:ar):AV:=x.h.f
def Wy:AV→ar→(ar→aa)→aa:=Of fo
def agK(x:ar):AV:=x.h.g
def Xn:AV→ar→(ar→aa)→aa:=Of jG
def aiC(x:ar):AV:=x.h.h
def VY:AV→ar→(ar→aa)→aa:=Of ns
def gc0(x:aj):AV:=x.l.a.a
def pc0:AV→aj→(aj→aa)→aa:=eT Yw
def gc1(x:aj):AV:=x.l.a.b
def pc1:AV→aj→(aj→aa)→aa:=eT Lh
def gc2(x:aj):AV:=x.l.a.c
def pc2:AV→aj→(aj→aa)→aa:=eT jt
def gc3(x:aj):AV:=x.l.a.d
def pc3:AV→aj→(aj→aa)→aa:=eT io
def gc4(x:aj):AV:=x.l.a.e
def pc4:AV→aj→(aj→aa)→aa:=eT gP
def gc5(x:aj):AV:=x.l.a.f
def pc5:AV→aj→(aj→aa)→aa:=eT ij
def gc6(x:aj):AV:=x.l.a.g
def pc6:AV→aj→(aj→aa)→aa:=eT fF
def gc7(x:aj):AV:=x.l.a.h
def pc7:AV→aj→(aj→aa)→aa:=eT ie
def gc8(x:aj):AV:=x.l.b.a
def pc8:AV→aj→(aj→aa)→aa:=eT fi
def gc9(x:aj):AV:=x.l.b.b
def pc9:AV→aj→(aj→aa)→aa:=eT iW
def ahK(x:aj):AV:=x.l.b.c
def ahT:AV→aj→(aj→aa)→aa:=eT db
def agz(x:aj):AV:=x.l.b.d
def ajm:AV→aj→(aj→aa)→aa:=eT dc
def ahv(x:aj):AV:=x.l.b.e
def aj2:AV→aj→(aj→aa)→aa:=eT fB
def aiL(x:aj):AV:=x.l.b.f
def agN:AV→aj→(aj→aa)→aa:=eT gE
def ahg(x:aj):AV:=x.l.b.g
def aju:AV→aj→(aj→aa)→aa:=eT fJ
def ahJ(x:aj):AV:=x.l.b.h
def ajP:AV→aj→(aj→aa)→aa:=eT kM
def ahG(x:aj):AV:=x.l.c.a
def ahk:AV→aj→(aj→aa)→aa:=eT nc
def ajp(x:aj):AV:=x.l.c.b
def aj9:AV→aj→(aj→aa)→aa:=eT i7
def agH(x:aj):AV:=x.l.c.c
def ahq:AV→aj→(aj→aa)→aa:=eT kw
def aja(x:aj):AV:=x.l.c.d
def aje:AV→aj→(aj→aa)→aa:=eT nX
def ajl(x:aj):AV:=x.l.c.e
def ak4:AV→aj→(aj→aa)→aa:=eT m6
def aid(x:aj):AV:=x.l.c.f
def aiD:AV→aj→(aj→aa)→aa:=eT oF
def agU(x:aj):AV:=x.l.c.g
def ah9:AV→aj→(aj→aa)→aa:=eT wZ
def ahc(x:aj):AV:=x.l.c.h
def aio:AV→aj→(aj→aa)→aa:=eT C5
def ahS(x:aj):AV:=x.l.d.a
def ahw:AV→aj→(aj→aa)→aa:=eT Gv
def ah0(x:aj):AV:=x.l.d.b
def ahe:AV→aj→(aj→aa)→aa:=eT w8
def ahW(x:aj):AV:=x.l.d.c
def ah1:AV→aj→(aj→aa)→aa:=eT u6
def ajT(x:aj):AV:=x.l.d.d
def aib:AV→aj→(aj→aa)→aa:=eT Om
def aia(x:aj):AV:=x.l.d.e
def aj3:AV→aj→(aj→aa)→aa:=eT HD
def ak5(x:aj):AV:=x.l.d.f
def ahX:AV→aj→(aj→aa)→aa:=eT LC
def ahA(x:aj):AV:=x.l.d.g
def ahV:AV→aj→(aj→aa)→aa:=eT M1
def ajF(x:aj):AV:=x.l.d.h
def aie:AV→aj→(aj→aa)→aa:=eT NR
def ajg(x:aj):AV:=x.l.e.a
def ajK:AV→aj→(aj→aa)→aa:=eT Ri
def ai0(x:aj):AV:=x.l.e.b
def ai6:AV→aj→(aj→aa)→aa:=eT Qb
def ahf(x:aj):AV:=x.l.e.c
def ajL:AV→aj→(aj→aa)→aa:=eT PY
def aiS(x:aj):AV:=x.l.e.d
def aiR:AV→aj→(aj→aa)→aa:=eT N9
def ajR(x:aj):AV:=x.l.e.e
def ahO:AV→aj→(aj→aa)→aa:=eT QC
def aik(x:aj):AV:=x.l.e.f
def ain:AV→aj→(aj→aa)→aa:=eT QZ
def agE(x:aj):AV:=x.l.e.g
def aj0:AV→aj→(aj→aa)→aa:=eT PN
def ajD(x:aj):AV:=x.l.e.h
def ahH:AV→aj→(aj→aa)→aa:=eT Ms
def ai1(x:aj):AV:=x.l.f.a
def ahC:AV→aj→(aj→aa)→aa:=eT RO
def ajb(x:aj):AV:=x.l.f.b
def aiX:AV→aj→(aj→aa)→aa:=eT Jp
def aiQ(x:aj):AV:=x.l.f.c
def ahI:AV→aj→(aj→aa)→aa:=eT X1
def aig(x:aj):AV:=x.l.f.d
def agv:AV→aj→(aj→aa)→aa:=eT Uj
def agZ(x:aj):AV:=x.l.f.e
def ajr:AV→aj→(aj→aa)→aa:=eT Vm
def ajE(x:aj):AV:=x.l.f.f
def ajZ:AV→aj→(aj→aa)→aa:=eT X9
def agw(x:aj):AV:=x.l.f.g
def ahl:AV→aj→(aj→aa)→aa:=eT XC
def agO(x:aj):AV:=x.l.f.h
def aiT:AV→aj→(aj→aa)→aa:=eT Xk
def ahs(x:aj):AV:=x.l.g.a
def agT:AV→aj→(aj→aa)→aa:=eT Yf
def ajv(x:aj):AV:=x.l.g.b
def ai3:AV→aj→(aj→aa)→aa:=eT VZ
def ahi(x:aj):AV:=x.l.g.c
def air:AV→aj→(aj→aa)→aa:=eT TM
def ahP(x:aj):AV:=x.l.g.d
def ahF:AV→aj→(aj→aa)→aa:=eT Vc
def aiz(x:aj):AV:=x.l.g.e
def agV:AV→aj→(aj→aa)→aa:=eT XA
def ahY(x:aj):AV:=x.l.g.f
def aj5:AV→aj→(aj→aa)→aa:=eT XB
def agB(x:aj):AV:=x.l.g.g
def ahZ:AV→aj→(aj→aa)→aa:=eT Tn
def aj4(x:aj):AV:=x.l.g.h
def aiH:AV→aj→(aj→aa)→aa:=eT Xc
def ajY(x:aj):AV:=x.l.h.a
def ail:AV→aj→(aj→aa)→aa:=eT Xs
def ahU(x:aj):AV:=x.l.h.b
def aiN:AV→aj→(aj→aa)→aa:=eT SI
def agX(x:aj):AV:=x.l.h.c
def ais:AV→aj→(aj→aa)→aa:=eT XL
def ak6(x:aj):AV:=x.l.h.d
def agI:AV→aj→(aj→aa)→aa:=eT W0
def ahd(x:aj):AV:=x.l.h.e
def ajC:AV→aj→(aj→aa)→aa:=eT S3
def ahQ(x:aj):AV:=x.l.h.f
def aj6:AV→aj→(aj→aa)→aa:=eT Wy
def ajB(x:aj):AV:=x.l.h.g
def ai7:AV→aj→(aj→aa)→aa:=eT Xn
def ahp(x:aj):AV:=x.l.h.h
def ahB:AV→aj→(aj→aa)→aa:=eT VY
def ajz(x:aj):AV:=x.r.a.a
def ajc:AV→aj→(aj→aa)→aa:=eR Yw
def aiW(x:aj):AV:=x.r.a.b
def aiZ:AV→aj→(aj→aa)→aa:=eR Lh
def ah8(x:aj):AV:=x.r.a.c
def aiY:AV→aj→(aj→aa)→aa:=eR jt
def aih(x:aj):AV:=x.r.a.d
def agY:AV→aj→(aj→aa)→aa:=eR io
def agR(x:aj):AV:=x.r.a.e
def ahR:AV→aj→(aj→aa)→aa:=eR gP
def agW(x:aj):AV:=x.r.a.f
def ajk:AV→aj→(aj→aa)→aa:=eR ij
def agJ(x:aj):AV:=x.r.a.g
def aiI:AV→aj→(aj→aa)→aa:=eR fF
def ahu(x:aj):AV:=x.r.a.h
def aiM:AV→aj→(aj→aa)→aa:=eR ie
def agx(x:aj):AV:=x.r.b.a
def agP:AV→aj→(aj→aa)→aa:=eR fi
def ah4(x:aj):AV:=x.r.b.b
def ajf:AV→aj→(aj→aa)→aa:=eR iW
def aho(x:aj):AV:=x.r.b.c
def aii:AV→aj→(aj→aa)→aa:=eR db
def ahm(x:aj):AV:=x.r.b.d
def aji:AV→aj→(aj→aa)→aa:=eR dc
def ak7(x:aj):AV:=x.r.b.e
def ahb:AV→aj→(aj→aa)→aa:=eR fB
def ahL(x:aj):AV:=x.r.b.f
def ai9:AV→aj→(aj→aa)→aa:=eR gE
def ajo(x:aj):AV:=x.r.b.g
def aix:AV→aj→(aj→aa)→aa:=eR fJ
def aiy(x:aj):AV:=x.r.b.h
def ahy:AV→aj→(aj→aa)→aa:=eR kM
def aiu(x:aj):AV:=x.r.c.a
def ah6:AV→aj→(aj→aa)→aa:=eR nc
def ak1(x:aj):AV:=x.r.c.b
def aiV:AV→aj→(aj→aa)→aa:=eR i7
def aj7(x:aj):AV:=x.r.c.c
def ai2:AV→aj→(aj→aa)→aa:=eR kw
def ah7(x:aj):AV:=x.r.c.d
def aij:AV→aj→(aj→aa)→aa:=eR nX
def aiF(x:aj):AV:=x.r.c.e
def ahh:AV→aj→(aj→aa)→aa:=eR m6
def ajy(x:aj):AV:=x.r.c.f
def aj1:AV→aj→(aj→aa)→aa:=eR oF
def ajX(x:aj):AV:=x.r.c.g
def ahj:AV→aj→(aj→aa)→aa:=eR wZ
def aiK(x:aj):AV:=x.r.c.h
def ahz:AV→aj→(aj→aa)→aa:=eR C5
def ahD(x:aj):AV:=x.r.d.a
def ajS:AV→aj→(aj→aa)→aa:=eR Gv
def aic(x:aj):AV:=x.r.d.b
def ai4:AV→aj→(aj→aa)→aa:=eR w8
def ajd(x:aj):AV:=x.r.d.c
def ajN:AV→aj→(aj→aa)→aa:=eR u6
def ajt(x:aj):AV:=x.r.d.d
def ahE:AV→aj→(aj→aa)→aa:=eR Om
def ahN(x:aj):AV:=x.r.d.e
def aiG:AV→aj→(aj→aa)→aa:=eR HD
def agC(x:aj):AV:=x.r.d.f
def ajU:AV→aj→(aj→aa)→aa:=eR LC
def ajj(x:aj):AV:=x.r.d.g
def aj8:AV→aj→(aj→aa)→aa:=eR M1
def ajQ(x:aj):AV:=x.r.d.h
def agF:AV→aj→(aj→aa)→aa:=eR NR
def aiJ(x:aj):AV:=x.r.e.a
def ah5:AV→aj→(aj→aa)→aa:=eR Ri
def aip(x:aj):AV:=x.r.e.b
def aiA:AV→aj→(aj→aa)→aa:=eR Qb
def ajG(x:aj):AV:=x.r.e.c
def ahx:AV→aj→(aj→aa)→aa:=eR PY
def ak3(x:aj):AV:=x.r.e.d
def ajs:AV→aj→(aj→aa)→aa:=eR N9
def ag4(x:aj):AV:=x.r.e.e
def afV:AV→aj→(aj→aa)→aa:=eR QC
def afB(x:aj):AV:=x.r.e.f
def afW:AV→aj→(aj→aa)→aa:=eR QZ
def afJ(x:aj):AV:=x.r.e.g
def afR:AV→aj→(aj→aa)→aa:=eR PN
def afE(x:aj):AV:=x.r.e.h
def ag3:AV→aj→(aj→aa)→aa:=eR Ms
def afk(x:aj):AV:=x.r.f.a
def afO:AV→aj→(aj→aa)→aa:=eR RO
def ag6(x:aj):AV:=x.r.f.b
def afQ:AV→aj→(aj→aa)→aa:=eR Jp
def ag2(x:aj):AV:=x.r.f.c
def afF:AV→aj→(aj→aa)→aa:=eR X1
def afG(x:aj):AV:=x.r.f.d
def ag5:AV→aj→(aj→aa)→aa:=eR Uj
def agl(x:aj):AV:=x.r.f.e
def ag1:AV→aj→(aj→aa)→aa:=eR Vm
def ago(x:aj):AV:=x.r.f.f
def afo:AV→aj→(aj→aa)→aa:=eR X9
def afL(x:aj):AV:=x.r.f.g
def afZ:AV→aj→(aj→aa)→aa:=eR XC
def afY(x:aj):AV:=x.r.f.h
def afT:AV→aj→(aj→aa)→aa:=eR Xk
def afs(x:aj):AV:=x.r.g.a
def afP:AV→aj→(aj→aa)→aa:=eR Yf
def agn(x:aj):AV:=x.r.g.b
def aft:AV→aj→(aj→aa)→aa:=eR VZ
def agu(x:aj):AV:=x.r.g.c
def agk:AV→aj→(aj→aa)→aa:=eR TM
def agj(x:aj):AV:=x.r.g.d
def afm:AV→aj→(aj→aa)→aa:=eR Vc
def agc(x:aj):AV:=x.r.g.e
def afz:AV→aj→(aj→aa)→aa:=eR XA
def afq(x:aj):AV:=x.r.g.f
def afr:AV→aj→(aj→aa)→aa:=eR XB
def ag7(x:aj):AV:=x.r.g.g
def afK:AV→aj→(aj→aa)→aa:=eR Tn
def afS(x:aj):AV:=x.r.g.h
def afw:AV→aj→(aj→aa)→aa:=eR Xc
def afA(x:aj):AV:=x.r.h.a
def afl:AV→aj→(aj→aa)→aa:=eR Xs
def ag8(x:aj):AV:=x.r.h.b
def agb:AV→aj→(aj→aa)→aa:=eR SI
def afC(x:aj):AV:=x.r.h.c
def afn:AV→aj→(aj→aa)→aa:=eR XL
def afu(x:aj):AV:=x.r.h.d
def afD:AV→aj→(aj→aa)→aa:=eR W0
def agf(x:aj):AV:=x.r.h.e
def agt:AV→aj→(aj→aa)→aa:=eR S3
def agm(x:aj):AV:=x.r.h.f
def afN:AV→aj→(aj→aa)→aa:=eR Wy
def ag9(x:aj):AV:=x.r.h.g
def agr:AV→aj→(aj→aa)→aa:=eR Xn
def afj(x:aj):AV:=x.r.h.h
def ags:AV→aj→(aj→aa)→aa:=eR VY
def Ei{α : Type}(d : α)(l:List α):Nat → α:=List.rec (motive:=λ_=>Nat → α) (λ_=>d) (λa _ ih i=>Nat.rec (motive:=λ_=>α) a (λj _=>ih j) i) l
def xg:Nat→F8→AV:=Ei (λ_=>.undef) [a8,aT,aU,bf,cR,fM,ju,Dl]
def Nx:Nat→AV→F8→(F8→aa)→aa:=Ei (λ_ _ _=>.bad 61) [yz,df,bK,ci,cF,fo,jG,ns]
def oc{α : Type}(d : α):Nat→O8 α → α:=Ei (λ_=>d) [O8.a,O8.b,O8.c,O8.d,O8.e,O8.f,O8.g,O8.h]
def upn{α : Type}:Nat→(AV → α → (α → aa)→aa)→AV→O8 α → (O8 α → aa)→aa:=Ei (λ_ _ _ _=>.bad 61) [Lj,M8,Mc,Nw,Me,Oa,Np,Of]
def nw(i:Nat)(x:ar):AV:=xg (Nat.mod i 8) (oc i8 (Nat.div i 8) x)
def we(i:Nat):AV→ar→(ar→aa)→aa:=upn (Nat.div i 8) (Nx (Nat.mod i 8))
def Qd(i:Nat)(x:aj):AV:=Bool.rec (motive:=λ_=>AV) (nw (Nat.sub i 64) x.r) (nw i x.l) (Nat.blt i 64)
def QJ(i:Nat):AV→aj→(aj→aa)→aa:=Bool.rec (motive:=λ_=>AV→aj→(aj→aa)→aa) (eR (we (Nat.sub i 64))) (eT (we i)) (Nat.blt i 64)
def W7:Ha F8:=⟨8,i8,xg,Nx⟩
def PA:Ha ar:=⟨64,i64,nw,we⟩
def xI:Ha aj:=⟨128,abz,Qd,QJ⟩
def XI(b:eV F8)(e:af→F8→H→aa):Call→List AV→H→af→aa:=λc a h k=>dg a (b c (e k) (λ_ _ _=>.bad 25) (e k) i8 h)
def b7(b:eV F8)(e:af→F8→H→aa):Call→List AV→H→af→aa:=λc a h k=>am a λv0 a=>dg a (b c (e k) (λ_ _ _=>.bad 25) (e k) ⟨v0,.undef,.undef,.undef,.undef,.undef,.undef,.undef⟩ h)
def cA(b:eV F8)(e:af→F8→H→aa):Call→List AV→H→af→aa:=λc a h k=>am a λv0 a=>am a λv1 a=>dg a (b c (e k) (λ_ _ _=>.bad 25) (e k) ⟨v0,v1,.undef,.undef,.undef,.undef,.undef,.undef⟩ h)
def DF(b:eV F8)(e:af→F8→H→aa):Call→List AV→H→af→aa:=λc a h k=>am a λv0 a=>am a λv1 a=>am a λv2 a=>dg a (b c (e k) (λ_ _ _=>.bad 25) (e k) ⟨v0,v1,v2,.undef,.undef,.undef,.undef,.undef⟩ h)
def acB(b:eV F8)(e:af→F8→H→aa):Call→List AV→H→af→aa:=λc a h k=>am a λv0 a=>am a λv1 a=>am a λv2 a=>am a λv3 a=>dg a (b c (e k) (λ_ _ _=>.bad 25) (e k) ⟨v0,v1,v2,v3,.undef,.undef,.undef,.undef⟩ h)
def ai5(b:eV F8)(e:af→F8→H→aa):Call→List AV→H→af→aa:=λc a h k=>am a λv0 a=>am a λv1 a=>am a λv2 a=>am a λv3 a=>am a λv4 a=>dg a (b c (e k) (λ_ _ _=>.bad 25) (e k) ⟨v0,v1,v2,v3,v4,.undef,.undef,.undef⟩ h)
def ai8(b:eV F8)(e:af→F8→H→aa):Call→List AV→H→af→aa:=λc a h k=>am a λv0 a=>am a λv1 a=>am a λv2 a=>am a λv3 a=>am a λv4 a=>am a λv5 a=>dg a (b c (e k) (λ_ _ _=>.bad 25) (e k) ⟨v0,v1,v2,v3,v4,v5,.undef,.undef⟩ h)
def ajn(b:eV F8)(e:af→F8→H→aa):Call→List AV→H→af→aa:=λc a h k=>am a λv0 a=>am a λv1 a=>am a λv2 a=>am a λv3 a=>am a λv4 a=>am a λv5 a=>am a λv6 a=>dg a (b c (e k) (λ_ _ _=>.bad 25) (e k) ⟨v0,v1,v2,v3,v4,v5,v6,.undef⟩ h)
def agy(b:eV F8)(e:af→F8→H→aa):Call→List AV→H→af→aa:=λc a h k=>am a λv0 a=>am a λv1 a=>am a λv2 a=>am a λv3 a=>am a λv4 a=>am a λv5 a=>am a λv6 a=>am a λv7 a=>dg a (b c (e k) (λ_ _ _=>.bad 25) (e k) ⟨v0,v1,v2,v3,v4,v5,v6,v7⟩ h)
def ajq(b:eV ar)(e:af→ar→H→aa):Call→List AV→H→af→aa:=λc a h k=>dg a (b c (e k) (λ_ _ _=>.bad 25) (e k) i64 h)
def GQ(b:eV ar)(e:af→ar→H→aa):Call→List AV→H→af→aa:=λc a h k=>am a λv0 a=>dg a (b c (e k) (λ_ _ _=>.bad 25) (e k) ⟨⟨v0,.undef,.undef,.undef,.undef,.undef,.undef,.undef⟩,i8,i8,i8,i8,i8,i8,i8⟩ h)
def gY(b:eV ar)(e:af→ar→H→aa):Call→List AV→H→af→aa:=λc a h k=>am a λv0 a=>am a λv1 a=>dg a (b c (e k) (λ_ _ _=>.bad 25) (e k) ⟨⟨v0,v1,.undef,.undef,.undef,.undef,.undef,.undef⟩,i8,i8,i8,i8,i8,i8,i8⟩ h)
def vi(b:eV ar)(e:af→ar→H→aa):Call→List AV→H→af→aa:=λc a h k=>am a λv0 a=>am a λv1 a=>am a λv2 a=>dg a (b c (e k) (λ_ _ _=>.bad 25) (e k) ⟨⟨v0,v1,v2,.undef,.undef,.undef,.undef,.undef⟩,i8,i8,i8,i8,i8,i8,i8⟩ h)
def Wn(b:eV ar)(e:af→ar→H→aa):Call→List AV→H→af→aa:=λc a h k=>am a λv0 a=>am a λv1 a=>am a λv2 a=>am a λv3 a=>dg a (b c (e k) (λ_ _ _=>.bad 25) (e k) ⟨⟨v0,v1,v2,v3,.undef,.undef,.undef,.undef⟩,i8,i8,i8,i8,i8,i8,i8⟩ h)
def Ue(b:eV ar)(e:af→ar→H→aa):Call→List AV→H→af→aa:=λc a h k=>am a λv0 a=>am a λv1 a=>am a λv2 a=>am a λv3 a=>am a λv4 a=>dg a (b c (e k) (λ_ _ _=>.bad 25) (e k) ⟨⟨v0,v1,v2,v3,v4,.undef,.undef,.undef⟩,i8,i8,i8,i8,i8,i8,i8⟩ h)
def agD(b:eV ar)(e:af→ar→H→aa):Call→List AV→H→af→aa:=λc a h k=>am a λv0 a=>am a λv1 a=>am a λv2 a=>am a λv3 a=>am a λv4 a=>am a λv5 a=>dg a (b c (e k) (λ_ _ _=>.bad 25) (e k) ⟨⟨v0,v1,v2,v3,v4,v5,.undef,.undef⟩,i8,i8,i8,i8,i8,i8,i8⟩ h)
def ajO(b:eV ar)(e:af→ar→H→aa):Call→List AV→H→af→aa:=λc a h k=>am a λv0 a=>am a λv1 a=>am a λv2 a=>am a λv3 a=>am a λv4 a=>am a λv5 a=>am a λv6 a=>dg a (b c (e k) (λ_ _ _=>.bad 25) (e k) ⟨⟨v0,v1,v2,v3,v4,v5,v6,.undef⟩,i8,i8,i8,i8,i8,i8,i8⟩ h)
def aht(b:eV ar)(e:af→ar→H→aa):Call→List AV→H→af→aa:=λc a h k=>am a λv0 a=>am a λv1 a=>am a λv2 a=>am a λv3 a=>am a λv4 a=>am a λv5 a=>am a λv6 a=>am a λv7 a=>dg a (b c (e k) (λ_ _ _=>.bad 25) (e k) ⟨⟨v0,v1,v2,v3,v4,v5,v6,v7⟩,i8,i8,i8,i8,i8,i8,i8⟩ h)
def aiv(b:eV ar)(e:af→ar→H→aa):Call→List AV→H→af→aa:=λc a h k=>am a λv0 a=>am a λv1 a=>am a λv2 a=>am a λv3 a=>am a λv4 a=>am a λv5 a=>am a λv6 a=>am a λv7 a=>am a λv8 a=>dg a (b c (e k) (λ_ _ _=>.bad 25) (e k) ⟨⟨v0,v1,v2,v3,v4,v5,v6,v7⟩,⟨v8,.undef,.undef,.undef,.undef,.undef,.undef,.undef⟩,i8,i8,i8,i8,i8,i8⟩ h)
def age(b:eV ar)(e:af→ar→H→aa):Call→List AV→H→af→aa:=λc a h k=>am a λv0 a=>am a λv1 a=>am a λv2 a=>am a λv3 a=>am a λv4 a=>am a λv5 a=>am a λv6 a=>am a λv7 a=>am a λv8 a=>am a λv9 a=>dg a (b c (e k) (λ_ _ _=>.bad 25) (e k) ⟨⟨v0,v1,v2,v3,v4,v5,v6,v7⟩,⟨v8,v9,.undef,.undef,.undef,.undef,.undef,.undef⟩,i8,i8,i8,i8,i8,i8⟩ h)
def afX(b:eV ar)(e:af→ar→H→aa):Call→List AV→H→af→aa:=λc a h k=>am a λv0 a=>am a λv1 a=>am a λv2 a=>am a λv3 a=>am a λv4 a=>am a λv5 a=>am a λv6 a=>am a λv7 a=>am a λv8 a=>am a λv9 a=>am a λv10 a=>dg a (b c (e k) (λ_ _ _=>.bad 25) (e k) ⟨⟨v0,v1,v2,v3,v4,v5,v6,v7⟩,⟨v8,v9,v10,.undef,.undef,.undef,.undef,.undef⟩,i8,i8,i8,i8,i8,i8⟩ h)
def afI(b:eV ar)(e:af→ar→H→aa):Call→List AV→H→af→aa:=λc a h k=>am a λv0 a=>am a λv1 a=>am a λv2 a=>am a λv3 a=>am a λv4 a=>am a λv5 a=>am a λv6 a=>am a λv7 a=>am a λv8 a=>am a λv9 a=>am a λv10 a=>am a λv11 a=>dg a (b c (e k) (λ_ _ _=>.bad 25) (e k) ⟨⟨v0,v1,v2,v3,v4,v5,v6,v7⟩,⟨v8,v9,v10,v11,.undef,.undef,.undef,.undef⟩,i8,i8,i8,i8,i8,i8⟩ h)
def agh(b:eV ar)(e:af→ar→H→aa):Call→List AV→H→af→aa:=λc a h k=>am a λv0 a=>am a λv1 a=>am a λv2 a=>am a λv3 a=>am a λv4 a=>am a λv5 a=>am a λv6 a=>am a λv7 a=>am a λv8 a=>am a λv9 a=>am a λv10 a=>am a λv11 a=>am a λv12 a=>dg a (b c (e k) (λ_ _ _=>.bad 25) (e k) ⟨⟨v0,v1,v2,v3,v4,v5,v6,v7⟩,⟨v8,v9,v10,v11,v12,.undef,.undef,.undef⟩,i8,i8,i8,i8,i8,i8⟩ h)
def afp(b:eV ar)(e:af→ar→H→aa):Call→List AV→H→af→aa:=λc a h k=>am a λv0 a=>am a λv1 a=>am a λv2 a=>am a λv3 a=>am a λv4 a=>am a λv5 a=>am a λv6 a=>am a λv7 a=>am a λv8 a=>am a λv9 a=>am a λv10 a=>am a λv11 a=>am a λv12 a=>am a λv13 a=>dg a (b c (e k) (λ_ _ _=>.bad 25) (e k) ⟨⟨v0,v1,v2,v3,v4,v5,v6,v7⟩,⟨v8,v9,v10,v11,v12,v13,.undef,.undef⟩,i8,i8,i8,i8,i8,i8⟩ h)
def agd(b:eV ar)(e:af→ar→H→aa):Call→List AV→H→af→aa:=λc a h k=>am a λv0 a=>am a λv1 a=>am a λv2 a=>am a λv3 a=>am a λv4 a=>am a λv5 a=>am a λv6 a=>am a λv7 a=>am a λv8 a=>am a λv9 a=>am a λv10 a=>am a λv11 a=>am a λv12 a=>am a λv13 a=>am a λv14 a=>dg a (b c (e k) (λ_ _ _=>.bad 25) (e k) ⟨⟨v0,v1,v2,v3,v4,v5,v6,v7⟩,⟨v8,v9,v10,v11,v12,v13,v14,.undef⟩,i8,i8,i8,i8,i8,i8⟩ h)
def aga(b:eV ar)(e:af→ar→H→aa):Call→List AV→H→af→aa:=λc a h k=>am a λv0 a=>am a λv1 a=>am a λv2 a=>am a λv3 a=>am a λv4 a=>am a λv5 a=>am a λv6 a=>am a λv7 a=>am a λv8 a=>am a λv9 a=>am a λv10 a=>am a λv11 a=>am a λv12 a=>am a λv13 a=>am a λv14 a=>am a λv15 a=>dg a (b c (e k) (λ_ _ _=>.bad 25) (e k) ⟨⟨v0,v1,v2,v3,v4,v5,v6,v7⟩,⟨v8,v9,v10,v11,v12,v13,v14,v15⟩,i8,i8,i8,i8,i8,i8⟩ h)
def aha(b:eV aj)(e:af→aj→H→aa):Call→List AV→H→af→aa:=λc a h k=>dg a (b c (e k) (λ_ _ _=>.bad 25) (e k) ⟨i64,i64⟩ h)
def ajI(b:eV aj)(e:af→aj→H→aa):Call→List AV→H→af→aa:=λc a h k=>am a λv0 a=>dg a (b c (e k) (λ_ _ _=>.bad 25) (e k) ⟨⟨⟨v0,.undef,.undef,.undef,.undef,.undef,.undef,.undef⟩,i8,i8,i8,i8,i8,i8,i8⟩,i64⟩ h)
def ahn(b:eV aj)(e:af→aj→H→aa):Call→List AV→H→af→aa:=λc a h k=>am a λv0 a=>am a λv1 a=>dg a (b c (e k) (λ_ _ _=>.bad 25) (e k) ⟨⟨⟨v0,v1,.undef,.undef,.undef,.undef,.undef,.undef⟩,i8,i8,i8,i8,i8,i8,i8⟩,i64⟩ h)
def ajx(b:eV aj)(e:af→aj→H→aa):Call→List AV→H→af→aa:=λc a h k=>am a λv0 a=>am a λv1 a=>am a λv2 a=>dg a (b c (e k) (λ_ _ _=>.bad 25) (e k) ⟨⟨⟨v0,v1,v2,.undef,.undef,.undef,.undef,.undef⟩,i8,i8,i8,i8,i8,i8,i8⟩,i64⟩ h)
def ak0(b:eV aj)(e:af→aj→H→aa):Call→List AV→H→af→aa:=λc a h k=>am a λv0 a=>am a λv1 a=>am a λv2 a=>am a λv3 a=>dg a (b c (e k) (λ_ _ _=>.bad 25) (e k) ⟨⟨⟨v0,v1,v2,v3,.undef,.undef,.undef,.undef⟩,i8,i8,i8,i8,i8,i8,i8⟩,i64⟩ h)
def aif(b:eV aj)(e:af→aj→H→aa):Call→List AV→H→af→aa:=λc a h k=>am a λv0 a=>am a λv1 a=>am a λv2 a=>am a λv3 a=>am a λv4 a=>dg a (b c (e k) (λ_ _ _=>.bad 25) (e k) ⟨⟨⟨v0,v1,v2,v3,v4,.undef,.undef,.undef⟩,i8,i8,i8,i8,i8,i8,i8⟩,i64⟩ h)
def ajA(b:eV aj)(e:af→aj→H→aa):Call→List AV→H→af→aa:=λc a h k=>am a λv0 a=>am a λv1 a=>am a λv2 a=>am a λv3 a=>am a λv4 a=>am a λv5 a=>dg a (b c (e k) (λ_ _ _=>.bad 25) (e k) ⟨⟨⟨v0,v1,v2,v3,v4,v5,.undef,.undef⟩,i8,i8,i8,i8,i8,i8,i8⟩,i64⟩ h)
def agM(b:eV aj)(e:af→aj→H→aa):Call→List AV→H→af→aa:=λc a h k=>am a λv0 a=>am a λv1 a=>am a λv2 a=>am a λv3 a=>am a λv4 a=>am a λv5 a=>am a λv6 a=>dg a (b c (e k) (λ_ _ _=>.bad 25) (e k) ⟨⟨⟨v0,v1,v2,v3,v4,v5,v6,.undef⟩,i8,i8,i8,i8,i8,i8,i8⟩,i64⟩ h)
def aiU(b:eV aj)(e:af→aj→H→aa):Call→List AV→H→af→aa:=λc a h k=>am a λv0 a=>am a λv1 a=>am a λv2 a=>am a λv3 a=>am a λv4 a=>am a λv5 a=>am a λv6 a=>am a λv7 a=>dg a (b c (e k) (λ_ _ _=>.bad 25) (e k) ⟨⟨⟨v0,v1,v2,v3,v4,v5,v6,v7⟩,i8,i8,i8,i8,i8,i8,i8⟩,i64⟩ h)
def ajH(b:eV aj)(e:af→aj→H→aa):Call→List AV→H→af→aa:=λc a h k=>am a λv0 a=>am a λv1 a=>am a λv2 a=>am a λv3 a=>am a λv4 a=>am a λv5 a=>am a λv6 a=>am a λv7 a=>am a λv8 a=>dg a (b c (e k) (λ_ _ _=>.bad 25) (e k) ⟨⟨⟨v0,v1,v2,v3,v4,v5,v6,v7⟩,⟨v8,.undef,.undef,.undef,.undef,.undef,.undef,.undef⟩,i8,i8,i8,i8,i8,i8⟩,i64⟩ h)
def afU(b:eV aj)(e:af→aj→H→aa):Call→List AV→H→af→aa:=λc a h k=>am a λv0 a=>am a λv1 a=>am a λv2 a=>am a λv3 a=>am a λv4 a=>am a λv5 a=>am a λv6 a=>am a λv7 a=>am a λv8 a=>am a λv9 a=>dg a (b c (e k) (λ_ _ _=>.bad 25) (e k) ⟨⟨⟨v0,v1,v2,v3,v4,v5,v6,v7⟩,⟨v8,v9,.undef,.undef,.undef,.undef,.undef,.undef⟩,i8,i8,i8,i8,i8,i8⟩,i64⟩ h)
def ag0(b:eV aj)(e:af→aj→H→aa):Call→List AV→H→af→aa:=λc a h k=>am a λv0 a=>am a λv1 a=>am a λv2 a=>am a λv3 a=>am a λv4 a=>am a λv5 a=>am a λv6 a=>am a λv7 a=>am a λv8 a=>am a λv9 a=>am a λv10 a=>dg a (b c (e k) (λ_ _ _=>.bad 25) (e k) ⟨⟨⟨v0,v1,v2,v3,v4,v5,v6,v7⟩,⟨v8,v9,v10,.undef,.undef,.undef,.undef,.undef⟩,i8,i8,i8,i8,i8,i8⟩,i64⟩ h)
def afy(b:eV aj)(e:af→aj→H→aa):Call→List AV→H→af→aa:=λc a h k=>am a λv0 a=>am a λv1 a=>am a λv2 a=>am a λv3 a=>am a λv4 a=>am a λv5 a=>am a λv6 a=>am a λv7 a=>am a λv8 a=>am a λv9 a=>am a λv10 a=>am a λv11 a=>dg a (b c (e k) (λ_ _ _=>.bad 25) (e k) ⟨⟨⟨v0,v1,v2,v3,v4,v5,v6,v7⟩,⟨v8,v9,v10,v11,.undef,.undef,.undef,.undef⟩,i8,i8,i8,i8,i8,i8⟩,i64⟩ h)
def agq(b:eV aj)(e:af→aj→H→aa):Call→List AV→H→af→aa:=λc a h k=>am a λv0 a=>am a λv1 a=>am a λv2 a=>am a λv3 a=>am a λv4 a=>am a λv5 a=>am a λv6 a=>am a λv7 a=>am a λv8 a=>am a λv9 a=>am a λv10 a=>am a λv11 a=>am a λv12 a=>dg a (b c (e k) (λ_ _ _=>.bad 25) (e k) ⟨⟨⟨v0,v1,v2,v3,v4,v5,v6,v7⟩,⟨v8,v9,v10,v11,v12,.undef,.undef,.undef⟩,i8,i8,i8,i8,i8,i8⟩,i64⟩ h)
def afv(b:eV aj)(e:af→aj→H→aa):Call→List AV→H→af→aa:=λc a h k=>am a λv0 a=>am a λv1 a=>am a λv2 a=>am a λv3 a=>am a λv4 a=>am a λv5 a=>am a λv6 a=>am a λv7 a=>am a λv8 a=>am a λv9 a=>am a λv10 a=>am a λv11 a=>am a λv12 a=>am a λv13 a=>dg a (b c (e k) (λ_ _ _=>.bad 25) (e k) ⟨⟨⟨v0,v1,v2,v3,v4,v5,v6,v7⟩,⟨v8,v9,v10,v11,v12,v13,.undef,.undef⟩,i8,i8,i8,i8,i8,i8⟩,i64⟩ h)
def agi(b:eV aj)(e:af→aj→H→aa):Call→List AV→H→af→aa:=λc a h k=>am a λv0 a=>am a λv1 a=>am a λv2 a=>am a λv3 a=>am a λv4 a=>am a λv5 a=>am a λv6 a=>am a λv7 a=>am a λv8 a=>am a λv9 a=>am a λv10 a=>am a λv11 a=>am a λv12 a=>am a λv13 a=>am a λv14 a=>dg a (b c (e k) (λ_ _ _=>.bad 25) (e k) ⟨⟨⟨v0,v1,v2,v3,v4,v5,v6,v7⟩,⟨v8,v9,v10,v11,v12,v13,v14,.undef⟩,i8,i8,i8,i8,i8,i8⟩,i64⟩ h)
def afM(b:eV aj)(e:af→aj→H→aa):Call→List AV→H→af→aa:=λc a h k=>am a λv0 a=>am a λv1 a=>am a λv2 a=>am a λv3 a=>am a λv4 a=>am a λv5 a=>am a λv6 a=>am a λv7 a=>am a λv8 a=>am a λv9 a=>am a λv10 a=>am a λv11 a=>am a λv12 a=>am a λv13 a=>am a λv14 a=>am a λv15 a=>dg a (b c (e k) (λ_ _ _=>.bad 25) (e k) ⟨⟨⟨v0,v1,v2,v3,v4,v5,v6,v7⟩,⟨v8,v9,v10,v11,v12,v13,v14,v15⟩,i8,i8,i8,i8,i8,i8⟩,i64⟩ h)
section
variable {Φ : Type}
def r0(k:af)(_ : Φ)(h:H):aa:=k (.tup []) h
def r1(a : Φ → AV)(k:af)(f : Φ)(h:H):aa:=(a f).force λa=>k a h
def r2(a b : Φ → AV)(k:af)(f : Φ)(h:H):aa:=(a f).force λa=>(b f).force λb=>k (.tup [a,b]) h
def r3(a b c : Φ → AV)(k:af)(f : Φ)(h:H):aa:=(a f).force λa=>(b f).force λb=>(c f).force λc=>k (.tup [a,b,c]) h
end
def U0:AV:=.int .u64 (.ofNat 0)
def U1:AV:=.int .u64 (.ofNat 1)
def U2:AV:=.int .u64 (.ofNat 2)
def W(n:Nat):AV:=.int .u8 (.ofNat n)
def E0:AV:=.str []
def B0:AV:=.bool false
def B1:AV:=.bool true
def ct(x y:AV)(h:H)(k:af):aa:=dA x y λ_ a b=>cO (sw a b) λv=>k v h
def nE(x y:AV)(h:H)(k:af):aa:=dA x y λ_ a b=>cO (sw b a) λv=>k v h
def m9(x y:AV)(h:H)(k:af):aa:=dA x y λ_ a b=>cO (s8 (sw a b)) λv=>k v h
def Sm(x y:AV)(h:H)(k:af):aa:=dA x y λ_ a b=>cO (s8 (sw b a)) λv=>k v h
def lA(x y:AV)(h:H)(k:af):aa:=ot x y (λ_ a b=>cO (Ai.ieq a b) λv=>k v h) (k (.bool false) h)
def zb(x y:AV)(h:H)(k:af):aa:=ot x y (λ_ a b=>cO (s8 (Ai.ieq a b)) λv=>k v h) (k (.bool true) h)
def J0:AV:=.int .i64 (.ofNat 0)
def J1:AV:=.int .i64 (.ofNat 1)
def J2:AV:=.int .i64 (.ofNat 2)
def J3:AV:=.int .i64 (.ofNat 3)
def J4:AV:=.int .i64 (.ofNat 4)
def J5:AV:=.int .i64 (.ofNat 5)
def J6:AV:=.int .i64 (.ofNat 6)
def J7:AV:=.int .i64 (.ofNat 7)
def J8:AV:=.int .i64 (.ofNat 8)
def J9:AV:=.int .i64 (.ofNat 9)
def J10:AV:=.int .i64 (.ofNat 10)
def J11:AV:=.int .i64 (.ofNat 11)
def J12:AV:=.int .i64 (.ofNat 12)
def J13:AV:=.int .i64 (.ofNat 13)
def J14:AV:=.int .i64 (.ofNat 14)
def J15:AV:=.int .i64 (.ofNat 15)
def J16:AV:=.int .i64 (.ofNat 16)
def J17:AV:=.int .i64 (.ofNat 17)
def J18:AV:=.int .i64 (.ofNat 18)
def J19:AV:=.int .i64 (.ofNat 19)
section
variable {Φ : Type}(rep:Ha Φ)(S:List ab)
abbrev gx:=List (ab × Bool × AV)
def r9(p:ab):Nat:=List.rec (motive:=λ_=>Nat) 1000000 (λq _ ih=>Bool.rec (motive:=λ_=>Nat) (Bool.rec (motive:=λ_=>Nat) (Nat.succ ih) 1000000 (Nat.beq ih 1000000)) 0 (ab.beq q p)) S
def c7(p:ab):Bool:=Nat.blt (r9 S p) rep.n
def find(p:ab)(env:gx)(d:AV):AV:=List.rec (motive:=λ_=>AV) d (λa _ ih=>Bool.rec (motive:=λ_=>AV) ih a.2.2 (ab.beq a.1 p)) env
def AM(p:ab)(env:gx):Bool:=List.rec (motive:=λ_=>Bool) false (λa _ ih=>Bool.rec (motive:=λ_=>Bool) ih true (ab.beq a.1 p)) env
def Sx(p:ab)(env:gx):Bool:=List.rec (motive:=λ_=>Bool) false (λa _ ih=>Bool.rec (motive:=λ_=>Bool) ih a.2.1 (ab.beq a.1 p)) env
def EH(env:gx)(x:a6):Bool:=a6.rec (motive:=λ_=>Bool) (λt=>Bool.rec (motive:=λ_=>Bool) (Sx t.p env) true (c7 rep S t.p)) (λ_=>false) x
def rq(env:gx)(g:G)(o:O):Bool:=G.rec (motive:=λ_=>Bool) (Option.rec (motive:=λ_=>Bool) false (EH rep S env) o.movX) (λ_ _=>false) g
def pv(env:gx)(fr : Φ)(p:ab):AV:=Bool.rec (motive:=λ_=>AV) (find p env .undef) (rep.get (r9 S p) fr) (c7 rep S p)
def ND(env:gx)(p:ab):Bool:=Bool.rec (motive:=λ_=>Bool) (AM p env) true (c7 rep S p)
def rM(env:gx)(fr : Φ)(x:a6):AV:=a6.rec (motive:=λ_=>AV) (λt=>pv rep S env fr t.p) (λv=>v) x
def yo(env:gx)(x:a6):Bool:=a6.rec (motive:=λ_=>Bool) (λt=>ND rep S env t.p) (λ_=>true) x
def DM(env:gx)(g:G):Bool:=G.rec (motive:=λ_=>Bool) true (λx _=>ND rep S env x.p) g
def xs(env:gx)(o:O):Bool:=List.rec (motive:=λ_=>Bool) true (λx _ ih=>Bool.rec (motive:=λ_=>Bool) false ih (yo rep S env x)) o.opds
def r6(d:D)(fl:Bool)(v:AV)(env:gx)(fr : Φ)(k:gx → Φ → aa):aa :=
 D.rec (motive:=λ_=>aa) (k env fr) (λx=>Bool.rec (motive:=λ_=>aa) (k ((x.p,fl,v)::env) fr) (rep.set (r9 S x.p) v fr λfr=>k env fr) (c7 rep S x.p)) d
def onG(env:gx)(fr : Φ)(g:G)(h:H)(s:af→aa)(k:af):aa:=G.rec (motive:=λ_=>aa) (s k) (λx want=>ah (pv rep S env fr x.p) want h s k) g
def JN(env:gx)(fr : Φ)(d:D)(x:a6)(k:AV→aa):aa :=
 D.rec (motive:=λ_=>aa) (k (rM rep S env fr x)) (λt=>Bool.rec (motive:=λ_=>aa) (k (rM rep S env fr x)) (Bool.rec (motive:=λ_=>aa) (k (rM rep S env fr x)) ((rM rep S env fr x).force k) (EH rep S env x)) (c7 rep S t.p)) d
def stepG(env:gx)(fr : Φ)(d:D)(g:G)(o:O)(call:Call)(h:H)(k:af):aa :=
 G.rec (motive:=λ_=>aa) (Option.rec (motive:=λ_=>aa) (o.stepY (rM rep S env fr) call h k) (λx=>JN rep S env fr d x λv=>k v h) o.movX) (λx want=>ah (pv rep S env fr x.p) want h (λk=>o.stepY (rM rep S env fr) call h k) k) g
abbrev Cq(Φ : Type):=gx→Call → Φ → H→List H→(Φ → H→aa)→aa
def VW:Cq Φ:=λ_ _ fr h _ kn=>kn fr h
def acs(d:D)(g:G)(o:O)(_:L)(ih:Cq Φ):Cq Φ:=λenv call fr h hs kn =>
 must 60 (xs rep S env o) (must 60 (DM rep S env g) (stepG rep S env fr d g o call h λv h=>r6 rep S d (rq rep S env g o) v env fr λenv fr=>ih env call fr h hs kn))
def KD(d:D)(g:G)(o:O)(back:Nat)(eff al:Bool)(_:L)(ih:Cq Φ):Cq Φ:=λenv call fr h hs kn =>
 must 60 (xs rep S env o) (must 60 (DM rep S env g) (Bool.rec (motive:=λ_=>aa)
  (G.rec (motive:=λ_=>aa) (o.stepY (rM rep S env fr) call h λv h'=>ap (λh k=>o.stepY (rM rep S env fr) call h k) v (bQ al h (r6 rep S d false v env fr λenv fr=>ih env call fr h' (Bool.rec (motive:=λ_=>List H) hs (h::hs) eff) kn) hs) back hs)
   (λx want=>ah (pv rep S env fr x.p) want h (λk=>o.stepY (rM rep S env fr) call h λv h'=>ap (λh k=>o.stepY (rM rep S env fr) call h k) v (bQ al h (k v h') hs) back hs) λv h'=>r6 rep S d false v env fr λenv fr=>ih env call fr h' (Bool.rec (motive:=λ_=>List H) hs (h::hs) eff) kn) g)
  (stepG rep S env fr d g o call h λv h'=>r6 rep S d (rq rep S env g o) v env fr λenv fr=>ih env call fr h' hs kn) (HY back eff al)))
def L.runF(l:L):Cq Φ:=L.rec (motive:=λ_=>Cq Φ) VW (acs rep S) (KD rep S) l
abbrev CT(Φ : Type):=Call→(Φ → H→aa)→(Nat → Φ → H→aa)→(Φ → H→aa) → Φ → H→aa
def C.runF(c:C):CT Φ:=C.rec (motive:=λ_=>CT Φ) kS (λl=>kR λcall fr h kn=>l.runF rep S [] call fr h [] kn) (λ_ _=>kQ) (λc _ _=>P0 (λfr=>rM rep S [] fr c) (yo rep S [] c)) (λid _=>kB id) (λ_=>kL) kX kT Rw (λ_ _ _ _ _ _=>Rw 99) c
def iY(ps:List ab):List AV → Φ → (Φ → aa)→aa :=
 List.rec (motive:=λ_=>List AV → Φ → (Φ → aa)→aa) (λvs fr k=>List.rec (motive:=λ_=>aa) (k fr) (λ_ _ _=>.bad 24) vs) (λq _ ih vs fr k=>List.rec (motive:=λ_=>aa) (.bad 24) (λv t _=>Bool.rec (motive:=λ_=>aa) (ih t fr k) (rep.set (r9 S q) v fr λfr=>ih t fr k) (c7 rep S q)) vs) ps
def KZ(l:List RV)(fr : Φ)(h:H):(List AV→aa)→aa :=
 List.rec (motive:=λ_=>(List AV→aa)→aa) (λk=>k []) (λx _ ih k=>RV.rec (motive:=λ_=>aa) (λp=>ih λt=>k (rep.get (r9 S p) fr::t)) (λp=>(rep.get (r9 S p) fr).onPtr λo i=>cellsOf o h λcs _=>nthC cs i λv=>ih λt=>k (v::t)) (λp n=>(rep.get (r9 S p) fr).onPtr λo i=>cellsOf o h λcs _=>ldropC i cs λcs=>ltake n cs λcs=>ih λt=>k (.agg cs::t)) x) l
def Kb(l:List RV):Bool:=List.rec (motive:=λ_=>Bool) true (λx _ ih=>Bool.rec (motive:=λ_=>Bool) false ih (c7 rep S (RV.rec (motive:=λ_=>ab) (λp=>p) (λp=>p) (λp _=>p) x))) l
def Gl(res:List RV)(k:af)(fr : Φ)(h:H):aa:=KZ rep S res fr h λvs=>n9 vs λvs=>k (one vs) h
def Qm(params:List ab)(body:CT Φ)(res:List RV)(call:Call)(args:List AV)(h:H)(k:af):aa :=
 must 60 (Kb rep S res) (iY rep S params args rep.init λfr=>body call (Gl rep S res k) (λ_ _ _=>.bad 25) (Gl rep S res k) fr h)
def A2(fn:Fn):Call→List AV→H→af→aa:=Fn.rec (motive:=λ_=>Call→List AV→H→af→aa) (λparams body res=>Qm rep S params (body.runF rep S) res) fn
end
end
end Go.Ai
namespace Go.Ai
set_option linter.unusedSectionVars false
variable [Nu]
open Go
theorem jU(v:Obj)(p:ab):∀ (t:HT) (k:HT→aa),nr v p t k=k (aX v p t):=by
 induction p with
 | e=>intro t k;cases t <;> rfl
 | l p ih=>intro t k;cases t with
  | leaf=>exact ih .leaf λl=>k (.node l .none .leaf)
  | node l x r=>exact ih l λl=>k (.node l x r)
 | r p ih=>intro t k;cases t with
  | leaf=>exact ih .leaf λr=>k (.node .leaf .none r)
  | node l x r=>exact ih r λr=>k (.node l x r)
theorem EI(p:ab):∀ k:ab→aa,NE p k=k p.inc:=by
 induction p with
 | e=>intro k;rfl
 | l p _=>intro k;rfl
 | r p ih=>intro k;exact ih λp=>k (.l p)
theorem aV(o:ab)(b:Obj)(h:H)(k:H→aa):dY o b h k=k (setObj o b h):=by
 cases h with | mk t n=>exact jU b o t λt=>k (.mk t n)
theorem gH(p:ab):∀ (t:HT) (k:Obj→aa),gZ p t k=k (ax p t):=by
 induction p with
 | e=>intro t k;cases t <;> rfl
 | l p ih=>intro t k;cases t with
  | leaf=>show k .none=k (ax (.l p) .leaf);rw[hget_leaf]
  | node l x r=>exact ih l k
 | r p ih=>intro t k;cases t with
  | leaf=>show k .none=k (ax (.r p) .leaf);rw[hget_leaf]
  | node l x r=>exact ih r k
theorem aJ(o:ab)(h:H)(k:List AV→Nat→aa):bD o h k=cellsOf o h k:=by
 cases h with
 | mk t n =>
  show gZ o t _=Obj.rec (motive:=λ_=>aa) (.bad 7) k (λ_ _=>.bad 8) (.bad 9) (λ_ _ _ _ _ _=>.bad 9) (ax o t)
  rw[gH]
theorem bn(o:ab)(h:H)(k:List pV→Nat→aa):qa o h k=mapOf o h k:=by
 cases h with
 | mk t n =>
  show gZ o t _=Obj.rec (motive:=λ_=>aa) (.bad 10) (λ_ _=>.bad 10) k (.bad 10) (λ_ _ _ _ _ _=>.bad 10) (ax o t)
  rw[gH]
theorem bI{α : Type}:∀ (l:List α) (i:Nat) (k : α → aa),B5 l i k=nthC l i k
 | [],_,_=>rfl
 | _::_,0,_=>rfl
 | _::l,i+1,k=>bI l i k
theorem bF(off size:Nat)(agg:Bool)(cs:List AV)(h:H)(k:af):EV off size agg cs h k=part off size agg cs h k:=by
 unfold EV part
 simp only[bI]
theorem aH(size:Nat)(x:AV)(n:Nat)(h:H)(k:List AV→aa):jg size x n h k=sliceCells size x n h k:=by
 unfold jg sliceCells
 simp only[aJ]
theorem vI(al:Bool)(h:H)(k:aa)(hs:List H):bQ al h k hs=dq al h k hs:=by
 unfold bQ dq
 simp only[gH]
theorem aN(b:Obj)(h:H)(k:ab→H→aa):cW b h k=newObj b h k:=by
 cases h with
 | mk t n =>
  show gZ n t _=Obj.rec (motive:=λ_=>aa) (k n (.mk (aX b n t) n.inc)) _ _ _ _ (ax n t)
  rw[gH,jU,EI]
theorem a9{α : Type}(l:List α):∀ k:List α → aa,jp l k=k l:=by
 induction l with
 | nil=>intro k;rfl
 | cons a t ih=>intro k;exact ih λt=>k (a::t)
theorem vJ(b:AV)(l:List AV):∀ (v:List AV) (i:Nat) (k:List AV→aa),lput v (b::l) (i+1) k=lput v l i λx=>k (b::x):=by
 intro v
 induction v generalizing l with
 | nil=>intro i k;rfl
 | cons a v ih =>
  intro i k
  show Option.rec (motive:=λ_=>aa) (aa.bad 3) (λ_=>lput v (b::oM a l i) (i+2) k) (Hp l i)=Option.rec (motive:=λ_=>aa) (aa.bad 3) (λ_=>lput v (oM a l i) (i+1) λx=>k (b::x)) (Hp l i)
  rw[ih]
theorem JW:∀ (v l:List AV) (k:List AV→aa),zz v l k=lput v l 0 k:=by
 intro v
 induction v with
 | nil=>intro l k;rfl
 | cons a v ih =>
  intro l k
  cases l with
  | nil=>rfl
  | cons d l =>
   show zz v l (λt=>k (a::t))=lput v (a::l) 1 k
   rw[ih,vJ a l v 0 k]
theorem IV(a:AV)(v:List AV):∀ (l:List AV) (i:Nat) (k:List AV→aa),YA (zz (a::v)) l i k=lput (a::v) l i k:=by
 intro l
 induction l with
 | nil=>intro i k;rfl
 | cons b l ih =>
  intro i k
  cases i with
  | zero=>exact JW (a::v) (b::l) k
  | succ i =>
   show YA (zz (a::v)) l i (λt=>k (b::t))=_
   rw[ih,vJ]
theorem bt(v l:List AV)(i:Nat)(k:List AV→aa):rp v l i k=lput v l i k:=by
 cases v with
 | nil=>rfl
 | cons a v=>exact IV a v l i k
theorem zv(v:AV)(l:List AV)(i:Nat)(k:List AV→aa):DS v l i k=lput [v] l i k:=IV v [] l i k
theorem mV(l:List AV):∀ k:List AV→aa,n9 l k=k l:=by
 induction l with
 | nil=>intro k;rfl
 | cons a t ih =>
  intro k
  show a.force (λv=>n9 t λvs=>k (v::vs))=_
  rw[sO,ih]
theorem bv(b:Bool)(k:AV→aa):cO b k=k (.bool b):=by cases b <;> rfl
theorem aP(size:Nat)(y:AV)(h:H)(k:Nat→List AV→aa):km size y h k=srcCells size y h k:=by
 unfold km
 simp only[a9,aH]
 cases y <;> rfl
theorem aQ(es need:Nat)(cs:List AV)(h:H)(k:af):gm es need cs h k=bC es need cs h k:=by
 unfold gm bC
 rw[a9,aN]
theorem aZ(size:Nat)(o:ab)(i n m:Nat)(c:gQ)(new cs:List AV)(es:Nat)(h:H)(k:af):lU size o i n m c new cs es h k=inPlace size o i n m c new cs es h k:=by
 unfold lU inPlace
 simp only[bt,aV]
theorem FA(w:Nat)(b:Bool):must w b (.bad w) = .bad w:=by cases b <;> rfl
theorem DN(v:AV)(n:Nat)(F:List AV→aa):v.onCells (must 12 (Nat.beq 1 n) (F [v])) (λvs=>must 12 (Nat.beq (aW vs) n) (must 12 (bL vs) (F vs)))=must 12 (Nat.beq (aW v.cells) n) (must 12 (bL v.cells) (F v.cells)):=by
 cases v <;> first | rfl | (show aa.bad 12=must 12 _ (aa.bad 12);rw[FA])
theorem GX(n:Nat)(x v:AV)(h:H)(k:af):yS n x v h k=x.onPtr λo i=>cellsOf o h λcs es=>must 12 (Nat.beq (aW v.cells) n) (must 12 (bL v.cells) (lput v.cells cs i λcs=>k .undef (setObj o (.cells cs es) h))):=by
 unfold yS
 congr 1
 funext o i
 rw[aJ]
 congr 1
 funext cs es
 rw[← DN v n λvs=>lput vs cs i λcs=>k .undef (setObj o (.cells cs es) h)]
 simp only[zv,bt,aV]
theorem oN(ps:List iC)(fr:FT):∀ (cs:List AV) (k:List AV→aa),iI (Lf (λx=>x.ev fr) ps) cs k=putParts ps fr cs k:=by
 induction ps with
 | nil=>intro cs k;rfl
 | cons q t ih =>
  intro cs k
  show must 12 (Nat.beq (aW (q.x.ev fr).cells) q.size) (rp (q.x.ev fr).cells cs q.off λcs=>iI (Lf (λx=>x.ev fr) t) cs k)=must 12 (Nat.beq (aW (q.x.ev fr).cells) q.size) (lput (q.x.ev fr).cells cs q.off λcs=>putParts t fr cs k)
  simp only[bt,ih]
theorem aa1(l:List a6)(fr:FT):NC (λx=>x.ev fr) l=qF l fr:=rfl
theorem PI(x:mi)(fr:FT)(d:Nat)(k:Nat→aa):jh (Li (λx=>x.ev fr) x) d k=evNatO x fr d k:=by cases x <;> rfl
theorem xM(o:O)(call:Call)(fr:FT)(h:H)(k:af):o.stepY (λx=>x.ev fr) call h k=o.step call fr h k:=by
 cases o with
 | store n x v=>exact GX n (x.ev fr) (v.ev fr) h k
 | build z ps=>show iI (Lf (λx=>x.ev fr) ps) z _=putParts ps fr z _;exact oN ps fr z _
 | buildSlice n z ps =>
  show iI (Lf (λx=>x.ev fr) ps) z (λcs=>cW (.cells cs 0) h λo h=>k (.slc o 0 n (.exact n)) h)=putParts ps fr z λcs=>newObj (.cells cs 0) h λo h=>k (.slc o 0 n (.exact n)) h
  rw[oN];simp only[bv,a9,aN,aV,bt,aP,aQ,aZ,aJ,bn,bI,bF,aH]
 | sliceStr x lo hi=>cases lo <;> cases hi <;> rfl
 | sliceSlc s x lo hi mx=>cases lo <;> cases hi <;> cases mx <;> rfl
 | sliceArr n s x lo hi=>cases lo <;> cases hi <;> rfl
 | call f as=>show n9 (qF as fr) (λvs=>call f vs h k)=Aa as fr λvs=>call f vs h k;rw[mV,oL]
 | cmp n s x y=>show yC n s (x.ev fr) (y.ev fr) h k=di x y fr _;unfold yC;simp only[bv];cases n <;> rfl
 | ieq n x y=>show yE n (x.ev fr) (y.ev fr) h k=ER x y fr (λ_ a b=>k (.bool (cd n (ieq a b))) h) (k (.bool n) h);unfold yE;simp only[bv];cases n <;> rfl
 | seq n x y=>show ls n (x.ev fr) (y.ev fr) h k=seqV (x.ev fr) (y.ev fr) _;unfold ls;simp only[bv]
 | slt x y=>show Sg (x.ev fr) (y.ev fr) h k=kG x y fr _;unfold Sg;simp only[bv,a9,aN,aV,bt,aP,aQ,aZ,aJ,bn,bI,bF,aH];rfl
 | not x=>show qZ (x.ev fr) h k=(x.ev fr).onBool _;unfold qZ;simp only[bv,a9,aN,aV,bt,aP,aQ,aZ,aJ,bn,bI,bF,aH]
 | sadd x y=>show ySA (x.ev fr) (y.ev fr) h k=kG x y fr _;unfold ySA;simp only[bv,a9,aN,aV,bt,aP,aQ,aZ,aJ,bn,bI,bF,aH];rfl
 | alloc es z=>exact aN (.cells z es) h λo h=>k (.ptr o 0) h
 | box x=>exact aN (.cells (x.ev fr).cells 0) h λo h=>k (.ptr o 0) h
 | mkMap=>exact aN (.map [] 0) h λo h=>k (.map o) h
 | s2b es x=>show yBy es (x.ev fr) h k=(x.ev fr).onStr _;unfold yBy;simp only[bv,a9,aN,aV,bt,aP,aQ,aZ,aJ,bn,bI,bF,aH]
 | mkSlice s b z l c=>show sa s b z (l.ev fr) (c.ev fr) h k=qk s b z l.fn c.fn call fr h k;unfold sa;simp only[bv,a9,aN,aV,bt,aP,aQ,aZ,aJ,bn,bI,bF,aH];rfl
 | mapUpd s m y v=>show Zv s (m.ev fr) (y.ev fr) (v.ev fr) h k=tP s m.fn y.fn v.fn call fr h k;unfold Zv;simp only[bv,a9,aN,aV,bt,aP,aQ,aZ,aJ,bn,bI,bF,aH];rfl
 | append s b es x y=>show r8 s b es (x.ev fr) (y.ev fr) h k=pU s b es x.fn y.fn call fr h k;unfold r8;simp only[bv,a9,aN,aV,bt,aP,aQ,aZ,aJ,bn,bI,bF,aH];rfl
 | copy s x y=>show yCp s (x.ev fr) (y.ev fr) h k=CG s x.fn y.fn call fr h k;unfold yCp;simp only[bv,a9,aN,aV,bt,aP,aQ,aZ,aJ,bn,bI,bF,aH];rfl
 | ubs es x y=>show ZQ es (x.ev fr) (y.ev fr) h k=La es x.fn y.fn call fr h k;unfold ZQ;simp only[bv,a9,aN,aV,bt,aP,aQ,aZ,aJ,bn,bI,bF,aH];rfl
 | clear z x=>show yCl z (x.ev fr) h k=yY z x.fn call fr h k;unfold yCl;simp only[bv,a9,aN,aV,bt,aP,aQ,aZ,aJ,bn,bI,bF,aH];rfl
 | rangeE x=>show yRE (x.ev fr) h k=tN x.fn call fr h k;unfold yRE;simp only[bv,a9,aN,aV,bt,aP,aQ,aZ,aJ,bn,bI,bF,aH];rfl
 | loadS x=>show yL (x.ev fr) h k=xP x.fn call fr h k;unfold yL;simp only[bv,a9,aN,aV,bt,aP,aQ,aZ,aJ,bn,bI,bF,aH];rfl
 | loadA n x=>show aA n (x.ev fr) h k=xJ n x.fn call fr h k;unfold aA;simp only[bv,a9,aN,aV,bt,aP,aQ,aZ,aJ,bn,bI,bF,aH];rfl
 | b2s x=>show yB (x.ev fr) h k=Jm x.fn call fr h k;unfold yB;simp only[bv,a9,aN,aV,bt,aP,aQ,aZ,aJ,bn,bI,bF,aH];rfl
 | indexStr x i=>show Lg (x.ev fr) (i.ev fr) h k=nW x.fn i.fn call fr h k;unfold Lg;simp only[bv,a9,aN,aV,bt,aP,aQ,aZ,aJ,bn,bI,bF,aH];rfl
 | indexArr n s a x i=>show yIx n s a (x.ev fr) (i.ev fr) h k=nS n s a x.fn i.fn call fr h k;unfold yIx;simp only[bv,a9,aN,aV,bt,aP,aQ,aZ,aJ,bn,bI,bF,aH];rfl
 | field o s a x=>show V9 o s a (x.ev fr) h k=yZ o s a x.fn call fr h k;unfold V9;simp only[bv,a9,aN,aV,bt,aP,aQ,aZ,aJ,bn,bI,bF,aH];rfl
 | extract i x=>show yT i (x.ev fr) h k=qp i x.fn call fr h k;unfold yT;simp only[bv,a9,aN,aV,bt,aP,aQ,aZ,aJ,bn,bI,bF,aH];rfl
 | lookup s z c x y=>show yLk s z c (x.ev fr) (y.ev fr) h k=tq s z c x.fn y.fn call fr h k;unfold yLk;simp only[bv,a9,aN,aV,bt,aP,aQ,aZ,aJ,bn,bI,bF,aH];rfl
 | lenMap x=>show yLM (x.ev fr) h k=up x.fn call fr h k;unfold yLM;simp only[bv,a9,aN,aV,bt,aP,aQ,aZ,aJ,bn,bI,bF,aH];rfl
 | p2u x=>show yPU (x.ev fr) h k=I2 x.fn call fr h k;unfold yPU;simp only[bv,a9,aN,aV,bt,aP,aQ,aZ,aJ,bn,bI,bF,aH];rfl
 | u2p e s x=>show yUP e s (x.ev fr) h k=HL e s x.fn call fr h k;unfold yUP;simp only[bv,a9,aN,aV,bt,aP,aQ,aZ,aJ,bn,bI,bF,aH];rfl
 | nextE x=>show Zn (x.ev fr) h k=wK x.fn call fr h k;unfold Zn;simp only[bv,a9,aN,aV,bt,aP,aQ,aZ,aJ,bn,bI,bF,aH];rfl
 | _=>rfl
theorem jK{e1 e2:a6→AV}:∀ {l:List a6},(∀ x ∈ l,e1 x=e2 x)→NC e1 l=NC e2 l
 | [],_=>rfl
 | x::t,h=>by
  show e1 x::NC e1 t=e2 x::NC e2 t
  rw[h x List.mem_cons_self,jK λy hy=>h y (List.mem_cons_of_mem _ hy)]
theorem wx{e1 e2:a6→AV}:∀ {l:List iC},(∀ x ∈ l.map iC.x,e1 x=e2 x)→Lf e1 l=Lf e2 l
 | [],_=>rfl
 | q::t,h=>by
  show (⟨q.off,q.size,e1 q.x⟩ : vt)::Lf e1 t=⟨q.off,q.size,e2 q.x⟩::Lf e2 t
  rw[h q.x List.mem_cons_self,wx λy hy=>h y (List.mem_cons_of_mem _ hy)]
theorem CS{e1 e2:a6→AV}(o:O)(h:∀ x ∈ o.opds,e1 x=e2 x):o.stepY e1=o.stepY e2:=by
 funext call hp k
 have hO:∀ x:mi,(∀ y ∈ (match x with | .no=>([]:List a6) | .it x=>[x]),e1 y=e2 y)→Li e1 x=Li e2 x:=λx hx=>by
  cases x with
  | no=>rfl
  | it y=>exact congrArg some (hx y List.mem_cons_self)
 cases o <;> simp only[O.opds,List.mem_append,List.mem_cons,List.not_mem_nil,or_false,forall_eq,or_imp,forall_and,false_imp_iff,implies_true]at h <;> simp only[O.stepY]
 all_goals first
  | (simp only[h];done)
  | (obtain⟨h1,h2⟩:=h;rw[h1,h2];done)
  | (rw[wx h];done)
  | (rw[jK h];done)
  | (obtain⟨h1,h2⟩:=h;rw[jK h1,jK h2];done)
  | (obtain⟨h1,h2⟩:=h;rw[h1,jK h2];done)
  | (obtain⟨⟨h1,h2⟩,h3⟩:=h;rw[h1,hO _ h2,hO _ h3];done)
  | (obtain⟨⟨⟨h1,h2⟩,h3⟩,h4⟩:=h;rw[h1,hO _ h2,hO _ h3,hO _ h4];done)
  | (obtain⟨⟨h1,h2⟩,h3⟩:=h;simp only[h1,h2,h3];done)
end Go.Ai
namespace Go.Ai
set_option linter.unusedSectionVars false
variable [Nu]
open Go
variable {Φ : Type}{P:Program}{rep:Ha Φ}{S:List ab}
def ba(r:af→aa):Prop:=(∀ k,bq (r k))∨∃ v h,∀ k,r k=k v h
def US(P:Program)(o:O):Prop:=∀ call,aC P call→∀ fr h,ba (o.step call fr h)
structure ll (rep:Ha Φ):Prop where
 le:rep.n≤1000000
 init:∀ i,i<rep.n→rep.get i rep.init = .undef
 set:∀ i,i<rep.n→∀ v fr,∃ fr',(∀ k,rep.set i v fr k=k fr')∧rep.get i fr'=v∧∀ j,j<rep.n→j≠i→rep.get j fr'=rep.get j fr
def gL(rep:Ha Φ)(S:List ab)(fr : Φ)(fr2:FT):Prop:=∀ p,c7 rep S p=true→b6 p fr2=rep.get (r9 S p) fr
def rF(rep:Ha Φ)(S:List ab)(env:gx)(fr2:FT):Prop:=∀ p,c7 rep S p=false→AM p env=true→b6 p fr2=find p env .undef
theorem qY(p:ab):p.beq p=true:=by
 induction p with
 | e=>rfl
 | l p ih=>exact ih
 | r p ih=>exact ih
theorem ME{p q:ab}(h:p≠q):p.beq q=false:=by
 cases e:p.beq q with
 | false=>rfl
 | true=>exact absurd (gA p q e) h
theorem xT(p:ab):∀ S:List ab,r9 S p<1000000→S[r9 S p]? = some p
 | [],h=>absurd h (Nat.lt_irrefl _)
 | q::t,h=>by
  have e0:r9 (q::t) p=Bool.rec (motive:=λ_=>Nat) (Bool.rec (motive:=λ_=>Nat) (Nat.succ (r9 t p)) 1000000 (Nat.beq (r9 t p) 1000000)) 0 (ab.beq q p):=rfl
  cases hb:q.beq p with
  | true=>rw[e0,hb];rw[gA q p hb];rfl
  | false =>
   rw[e0,hb]at h ⊢
   cases hc:Nat.beq (r9 t p) 1000000 with
   | true=>rw[hc]at h;exact absurd h (Nat.lt_irrefl _)
   | false =>
    rw[hc]at h
    exact xT p t (by have:Nat.succ (r9 t p)<1000000:=h;omega)
theorem lf{p:ab}(h:c7 rep S p=true):r9 S p<rep.n:=by
 have h':Nat.blt (r9 S p) rep.n=true:=h
 rw[az]at h';exact of_decide_eq_true h'
theorem DX(hr:ll rep){p q:ab}(hp:c7 rep S p=true)(hq:c7 rep S q=true)(h:r9 S p=r9 S q):p=q:=by
 have h1:=xT p S (Nat.lt_of_lt_of_le (lf hp) hr.le)
 have h2:=xT q S (Nat.lt_of_lt_of_le (lf hq) hr.le)
 rw[h,h2]at h1
 exact (Option.some.inj h1).symm
theorem Pa{env:gx}{fr : Φ}{fr2:FT}(hA:gL rep S fr fr2)(hE:rF rep S env fr2){p:ab}(h:ND rep S env p=true):pv rep S env fr p=b6 p fr2:=by
 have e0:ND rep S env p=Bool.rec (motive:=λ_=>Bool) (AM p env) true (c7 rep S p):=rfl
 have e1:pv rep S env fr p=Bool.rec (motive:=λ_=>AV) (find p env .undef) (rep.get (r9 S p) fr) (c7 rep S p):=rfl
 cases hs:c7 rep S p with
 | true=>rw[e1,hs];exact (hA p hs).symm
 | false=>rw[e0,hs]at h;rw[e1,hs];exact (hE p hs h).symm
theorem Cd{env:gx}{fr : Φ}{fr2:FT}(hA:gL rep S fr fr2)(hE:rF rep S env fr2){x:a6}(h:yo rep S env x=true):rM rep S env fr x=x.ev fr2:=by
 cases x with
 | const v=>rfl
 | tmp t =>
  show pv rep S env fr t.p=t.get fr2
  rw[t.okg];exact Pa hA hE h
theorem zA{env:gx}{o:O}(h:xs rep S env o=true):∀ x ∈ o.opds,yo rep S env x=true:=by
 unfold xs at h
 generalize o.opds=l at h ⊢
 induction l with
 | nil=>intro x hx;cases hx
 | cons a t ih =>
  intro x hx
  have h':Bool.rec (motive:=λ_=>Bool) false (List.rec (motive:=λ_=>Bool) true (λx _ ih=>Bool.rec (motive:=λ_=>Bool) false ih (yo rep S env x)) t) (yo rep S env a)=true:=h
  cases ha:yo rep S env a with
  | false=>rw[ha]at h';cases h'
  | true =>
   rw[ha]at h'
   rcases List.mem_cons.1 hx with e|e
   ·rw[e];exact ha
   ·exact ih h' x e
theorem uC{env:gx}{fr : Φ}{fr2:FT}(hA:gL rep S fr fr2)(hE:rF rep S env fr2){o:O}(h:xs rep S env o=true)(call:Call)(hp:H)(k:af):o.stepY (rM rep S env fr) call hp k=o.step call fr2 hp k:=by
 rw[← xM,CS o λx hx=>Cd hA hE (zA h x hx)]
theorem mP(hr:ll rep)(d:D)(fl:Bool)(v:AV){env:gx}{fr : Φ}{fr2:FT}(hA:gL rep S fr fr2)(hE:rF rep S env fr2):∃ env' fr',(∀ k,r6 rep S d fl v env fr k=k env' fr')∧gL rep S fr' (d.put v fr2)∧rF rep S env' (d.put v fr2):=by
 cases d with
 | no=>exact⟨env,fr,λ_=>rfl,hA,hE⟩
 | to x =>
  have e0:∀ k,r6 rep S (.to x) fl v env fr k=Bool.rec (motive:=λ_=>aa) (k ((x.p,fl,v)::env) fr) (rep.set (r9 S x.p) v fr λfr=>k env fr) (c7 rep S x.p):=λ_=>rfl
  have e1:(D.to x).put v fr2=kh v x.p fr2:=x.oks v fr2
  simp only[e0,e1]
  cases hs:c7 rep S x.p with
  | true =>
   obtain⟨fr',h1,h2,h3⟩:=hr.set _ (lf hs) v fr
   refine⟨env,fr',λk=>h1 _,λp hp=>?_,λp hp hi=>?_⟩
   ·rw[eK]
    by_cases e:p=x.p
    ·rw[if_pos e,e,h2]
    ·rw[if_neg e,hA p hp,h3 _ (lf hp) λh=>e (DX hr hp hs h)]
   ·rw[eK,if_neg λe=>by rw[e,hs]at hp;cases hp]
    exact hE p hp hi
  | false =>
   refine⟨(x.p,fl,v)::env,fr,λ_=>rfl,λp hp=>?_,λp hp hi=>?_⟩
   ·rw[eK,if_neg λe=>by rw[e,hs]at hp;cases hp]
    exact hA p hp
   ·have e2:AM p ((x.p,fl,v)::env)=Bool.rec (motive:=λ_=>Bool) (AM p env) true (x.p.beq p):=rfl
    have e3:find p ((x.p,fl,v)::env) .undef=Bool.rec (motive:=λ_=>AV) (find p env .undef) v (x.p.beq p):=rfl
    rw[eK,e3]
    by_cases e:p=x.p
    ·rw[if_pos e,e,qY]
    ·rw[if_neg e]
     have hb:=ME λh:x.p=p=>e h.symm
     rw[e2,hb]at hi
     rw[hb];exact hE p hp hi
theorem NH{o:O}{x:a6}(h:o.movX=some x):o = .mov x:=by
 cases o <;> first | (cases h;rfl) | cases h
theorem MC{env:gx}{fr : Φ}{d:D}{x:a6}(k:AV→aa):JN rep S env fr d x k=k (rM rep S env fr x):=by
 cases d with
 | no=>rfl
 | to t =>
  have e0:JN rep S env fr (.to t) x k=Bool.rec (motive:=λ_=>aa) (k (rM rep S env fr x)) (Bool.rec (motive:=λ_=>aa) (k (rM rep S env fr x)) ((rM rep S env fr x).force k) (EH rep S env x)) (c7 rep S t.p):=rfl
  rw[e0]
  cases c7 rep S t.p with
  | false=>rfl
  | true =>
   cases EH rep S env x with
   | false=>rfl
   | true=>exact sO _ _
theorem zx{env:gx}{fr : Φ}{fr2:FT}(hA:gL rep S fr fr2)(hE:rF rep S env fr2){x:Tm}{want:Bool}(hg:DM rep S env (.on x want)=true)(h:H)(s:af→aa)(k:af):ah (pv rep S env fr x.p) want h s k=(G.on x want).on' fr2 (s k) (k .undef h):=by
 show (pv rep S env fr x.p).onGuard want _ _=(x.get fr2).onGuard want _ _
 rw[x.okg,Pa hA hE hg]
theorem AQ{env:gx}{fr : Φ}{fr2:FT}(hA:gL rep S fr fr2)(hE:rF rep S env fr2){d:D}{g:G}{o:O}(ho:xs rep S env o=true)(hg:DM rep S env g=true)(call:Call)(h:H)(k:af):stepG rep S env fr d g o call h k=g.on' fr2 (o.step call fr2 h k) (k .undef h):=by
 cases g with
 | no =>
  show Option.rec (motive:=λ_=>aa) (o.stepY (rM rep S env fr) call h k) (λx=>JN rep S env fr d x λv=>k v h) o.movX=o.step call fr2 h k
  cases hm:o.movX with
  | none=>exact uC hA hE ho call h k
  | some x =>
   have:=NH hm
   subst this
   show JN rep S env fr d x (λv=>k v h)=k (x.ev fr2) h
   rw[MC,Cd hA hE (zA ho x (by simp[O.opds]))]
 | on x want =>
  show ah (pv rep S env fr x.p) want h (λk=>o.stepY (rM rep S env fr) call h k) k=_
  rw[zx hA hE hg,uC hA hE ho]
theorem zF(g:G)(fr:FT):(∀ y n,bq (g.on' fr y n))∨∃ t:Bool,∀ y n,g.on' fr y n=ifC t y n:=by
 cases g with
 | no=>exact .inr ⟨true,λ_ _=>rfl⟩
 | on x want =>
  rcases vW (x.get fr) want with hb|⟨t,h,_⟩
  ·exact .inl hb
  ·exact .inr ⟨t,h⟩
theorem JO(d:D)(g:G)(o:O)(rest:L)(call:Call)(fr:FT)(h:H)(hs:List H):(L.op d g o rest).run call fr h hs=g.on' fr (o.step call fr h λv h=>rest.run call (d.put v fr) h hs) (rest.run call (d.put .undef fr) h hs):=by cases d <;> cases g <;> rfl
theorem EY(d:D)(g:G)(o:O)(back:Nat)(eff al:Bool)(rest:L)(call:Call)(fr:FT)(h:H)(hs:List H):(L.dop d g o back eff al rest).run call fr h hs =
  g.on' fr (o.step call fr h λv h'=>gl o.step call fr v (dq al h (rest.run call (d.put v fr) h' (Bool.rec (motive:=λ_=>List H) hs (h::hs) eff)) hs) back hs) (rest.run call (d.put .undef fr) h (Bool.rec (motive:=λ_=>List H) hs (h::hs) eff)):=by
 cases d <;> cases g <;> cases back <;> cases eff <;> cases al <;> rfl
theorem zc(al:Bool)(h:H)(hs:List H):(∀ K,bq (dq al h K hs))∨∀ K,dq al h K hs=K:=by
 cases al with
 | false=>exact .inr λ_=>rfl
 | true =>
  cases h with
  | mk t n =>
   induction hs with
   | nil=>exact .inr λ_=>rfl
   | cons s hs ih =>
    cases s with
    | mk t' n' =>
     have e0:∀ K,dq true (.mk t n) K (.mk t' n'::hs)=Obj.rec (motive:=λ_=>aa) (dq true (.mk t n) K hs) (λ_ _=>.bad 50) (λ_ _=>.bad 50) (.bad 50) (λ_ _ _ _ _ _=>.bad 50) (ax n t'):=λ_=>rfl
     simp only[e0]
     cases ax n t' with
     | none=>exact ih
     | _=>exact .inl λ_=>⟨_,rfl⟩
theorem uw{o:O}{call:Call}(hU:∀ fr h,ba (o.step call fr h))(fr:FT)(v:AV):∀ (n:Nat) (hs:List H),(∀ K,bq (gl o.step call fr v K n hs))∨∀ K,gl o.step call fr v K n hs=K
 | 0,_=>.inr λ_=>rfl
 | n+1,[]=>.inl λ_=>⟨_,rfl⟩
 | n+1,h::t=>by
  have e0:∀ K,gl o.step call fr v K (n+1) (h::t)=o.step call fr h λw _=>must 12 (w.alike v) (gl o.step call fr v K n t):=λ_=>rfl
  simp only[e0]
  rcases hU fr h with hb|⟨w,h1,e⟩
  ·exact .inl λ_=>hb _
  ·simp only[e]
   rcases ay 12 (w.alike v)with hb|⟨_,e2⟩
   ·exact .inl λ_=>hb _
   ·simp only[e2]
    exact uw hU fr v n t
theorem mQ{s:H→af→aa}{o:O}{call:Call}{fr:FT}(hs':∀ h k,s h k=o.step call fr h k)(v:AV)(K:aa):∀ (n:Nat) (hs:List H),ap s v K n hs=gl o.step call fr v K n hs
 | 0,_=>rfl
 | n+1,[]=>rfl
 | n+1,h::t=>by
  show s h (λw _=>must 12 (w.alike v) (ap s v K n t))=o.step call fr h λw _=>must 12 (w.alike v) (gl o.step call fr v K n t)
  rw[hs',mQ hs' v K n t]
def L.ops:L→List O
 | .nil=>[]
 | .op _ _ o r=>o::r.ops
 | .dop _ _ o _ _ _ r=>o::r.ops
theorem Mv(hr:ll rep){call:Call}(hC:aC P call):∀ (l:L),(∀ o ∈ l.ops,US P o)→∀ (env:gx) (fr : Φ) (fr2:FT) (h:H) (hs:List H),gL rep S fr fr2→rF rep S env fr2 →
  (∀ kn,bq (l.runF rep S env call fr h hs kn))∨∃ fr' fr2' h',l.run call fr2 h hs = .nrm fr2' h'∧gL rep S fr' fr2'∧∀ kn,l.runF rep S env call fr h hs kn=kn fr' h':=by
 intro l
 induction l with
 | nil=>exact λ_ env fr fr2 h hs hA hE=>.inr ⟨fr,fr2,h,rfl,hA,λ_=>rfl⟩
 | op d g o rest ih =>
  intro hU env fr fr2 h hs hA hE
  have hUo:∀ fr h,ba (o.step call fr h):=hU o List.mem_cons_self call hC
  have ih:=ih λo ho=>hU o (List.mem_cons_of_mem _ ho)
  have e0:∀ kn,(L.op d g o rest).runF rep S env call fr h hs kn=must 60 (xs rep S env o) (must 60 (DM rep S env g) (stepG rep S env fr d g o call h λv h=>r6 rep S d (rq rep S env g o) v env fr λenv fr=>rest.runF rep S env call fr h hs kn)):=λ_=>rfl
  simp only[e0]
  rcases ay 60 (xs rep S env o)with hb|⟨ho,e1⟩
  ·exact .inl λ_=>hb _
  rcases ay 60 (DM rep S env g)with hb|⟨hg,e2⟩
  ·exact .inl λ_=>by rw[e1];exact hb _
  simp only[e1,e2,AQ hA hE ho hg,JO]
  rcases zF g fr2 with hb|⟨t,e3⟩
  ·exact .inl λ_=>hb _ _
  simp only[e3]
  cases t with
  | true =>
   simp only[a7]
   rcases hUo fr2 h with hb|⟨v,h1,e4⟩
   ·exact .inl λ_=>hb _
   simp only[e4]
   obtain⟨env',fr',e5,hA',hE'⟩:=mP hr d (rq rep S env g o) v hA hE
   simp only[e5]
   exact ih env' fr' _ h1 hs hA' hE'
  | false =>
   simp only[a5]
   obtain⟨env',fr',e5,hA',hE'⟩:=mP hr d (rq rep S env g o) .undef hA hE
   simp only[e5]
   exact ih env' fr' _ h hs hA' hE'
 | dop d g o back eff al rest ih =>
  intro hU env fr fr2 h hs hA hE
  have hUo:∀ fr h,ba (o.step call fr h):=hU o List.mem_cons_self call hC
  have ih:=ih λo ho=>hU o (List.mem_cons_of_mem _ ho)
  have e0:∀ kn,(L.dop d g o back eff al rest).runF rep S env call fr h hs kn=KD rep S d g o back eff al rest (rest.runF rep S) env call fr h hs kn:=λ_=>rfl
  simp only[e0,KD,vI]
  rcases ay 60 (xs rep S env o)with hb|⟨ho,e1⟩
  ·exact .inl λ_=>hb _
  rcases ay 60 (DM rep S env g)with hb|⟨hg,e2⟩
  ·exact .inl λ_=>by rw[e1];exact hb _
  simp only[e1,e2,EY]
  cases hpl:HY back eff al with
  | true =>
   have hpl':back=0∧eff=false∧al=false:=by cases back <;> cases eff <;> cases al <;> first | exact⟨rfl,rfl,rfl⟩ | cases hpl
   obtain⟨rfl,rfl,rfl⟩:=hpl'
   show (∀ kn,bq (stepG rep S env fr d g o call h λv h'=>r6 rep S d (rq rep S env g o) v env fr λenv fr=>rest.runF rep S env call fr h' hs kn))∨_
   simp only[AQ hA hE ho hg]
   have e8:g.on' fr2 (o.step call fr2 h λv h'=>gl o.step call fr2 v (dq false h (rest.run call (d.put v fr2) h' hs) hs) 0 hs) (rest.run call (d.put .undef fr2) h hs)=g.on' fr2 (o.step call fr2 h λv h'=>rest.run call (d.put v fr2) h' hs) (rest.run call (d.put .undef fr2) h hs):=rfl
   rw[e8]
   rcases zF g fr2 with hb|⟨t,e3⟩
   ·exact .inl λ_=>hb _ _
   simp only[e3]
   cases t with
   | true =>
    simp only[a7]
    rcases hUo fr2 h with hb|⟨v,h1,e4⟩
    ·exact .inl λ_=>hb _
    simp only[e4]
    obtain⟨env',fr',e5,hA',hE'⟩:=mP hr d (rq rep S env g o) v hA hE
    simp only[e5]
    exact ih env' fr' _ h1 hs hA' hE'
   | false =>
    simp only[a5]
    obtain⟨env',fr',e5,hA',hE'⟩:=mP hr d (rq rep S env g o) .undef hA hE
    simp only[e5]
    exact ih env' fr' _ h hs hA' hE'
  | false =>
   have hsY:∀ h k,o.stepY (rM rep S env fr) call h k=o.step call fr2 h k:=λh k=>uC hA hE ho call h k
   have e9:∀ kn,G.rec (motive:=λ_=>aa) (o.stepY (rM rep S env fr) call h λv h'=>ap (λh k=>o.stepY (rM rep S env fr) call h k) v (dq al h (r6 rep S d false v env fr λenv fr=>rest.runF rep S env call fr h' (Bool.rec (motive:=λ_=>List H) hs (h::hs) eff) kn) hs) back hs)
     (λx want=>ah (pv rep S env fr x.p) want h (λk=>o.stepY (rM rep S env fr) call h λv h'=>ap (λh k=>o.stepY (rM rep S env fr) call h k) v (dq al h (k v h') hs) back hs) λv h'=>r6 rep S d false v env fr λenv fr=>rest.runF rep S env call fr h' (Bool.rec (motive:=λ_=>List H) hs (h::hs) eff) kn) g =
     g.on' fr2 (o.step call fr2 h λv h'=>gl o.step call fr2 v (dq al h (r6 rep S d false v env fr λenv fr=>rest.runF rep S env call fr h' (Bool.rec (motive:=λ_=>List H) hs (h::hs) eff) kn) hs) back hs) (r6 rep S d false .undef env fr λenv fr=>rest.runF rep S env call fr h (Bool.rec (motive:=λ_=>List H) hs (h::hs) eff) kn):=λkn=>by
    cases g with
    | no =>
     show (o.stepY (rM rep S env fr) call h λv h'=>_)=o.step call fr2 h _
     rw[hsY]
     simp only[mQ hsY]
    | on x want =>
     show ah (pv rep S env fr x.p) want h _ _=_
     rw[zx hA hE hg]
     simp only[hsY,mQ (s:=λh k=>o.step call fr2 h k) (o:=o) (call:=call) (fr:=fr2) λ_ _=>rfl]
   simp only[e9]
   rcases zF g fr2 with hb|⟨t,e3⟩
   ·exact .inl λ_=>hb _ _
   simp only[e3]
   cases t with
   | true =>
    simp only[a7]
    rcases hUo fr2 h with hb|⟨v,h1,e4⟩
    ·exact .inl λ_=>hb _
    simp only[e4]
    rcases uw hUo fr2 v back hs with hb|e6
    ·exact .inl λ_=>hb _
    simp only[e6]
    rcases zc al h hs with hb|e7
    ·exact .inl λ_=>hb _
    simp only[e7]
    obtain⟨env',fr',e5,hA',hE'⟩:=mP hr d false v hA hE
    simp only[e5]
    exact ih env' fr' _ h1 _ hA' hE'
   | false =>
    simp only[a5]
    obtain⟨env',fr',e5,hA',hE'⟩:=mP hr d false .undef hA hE
    simp only[e5]
    exact ih env' fr' _ h _ hA' hE'
def C.US(P:Program):C→Prop
 | .reg l=>∀ o ∈ l.ops,Ai.US P o
 | .seq a b=>a.US P∧b.US P
 | .cond _ a b=>a.US P∧b.US P
 | .block _ b=>b.US P
 | .loop b=>b.US P
 | _=>True
def Sim(rep:Ha Φ)(S:List ab)(run:aa)(F:(Φ → H→aa)→(Nat → Φ → H→aa)→(Φ → H→aa)→aa):Prop :=
 (∀ kr ke kn,bq (F kr ke kn))∨∃ fr' fr2' h',gL rep S fr' fr2'∧((run = .nrm fr2' h'∧∀ kr ke kn,F kr ke kn=kn fr' h')∨(run = .ret fr2' h'∧∀ kr ke kn,F kr ke kn=kr fr' h')∨∃ id,run = .ext id fr2' h'∧∀ kr ke kn,F kr ke kn=ke id fr' h')
theorem nQ{call:Call}{b:C}(ih:∀ fr fr2 h,gL rep S fr fr2→Sim rep S (b.run call fr2 h) λkr ke kn=>b.runF rep S call kr ke kn fr h):∀ (n:Nat) (fr : Φ) (fr2:FT) (h:H),gL rep S fr fr2 →
  Sim rep S (ec (b.run call) n fr2 h) λkr ke kn=>da (λkn fr h=>b.runF rep S call kr ke kn fr h) n kn fr h
 | 0,fr,fr2,h,hA=>ih fr fr2 h hA
 | n+1,fr,fr2,h,hA=>by
  have e0:ec (b.run call) (n+1) fr2 h=aa.rec (motive:=λ_=>aa) (ec (b.run call) n) .ext .ret .fin .bad (ec (b.run call) n fr2 h):=rfl
  have e1:∀ kr ke kn,da (λkn fr h=>b.runF rep S call kr ke kn fr h) (n+1) kn fr h=da (λkn fr h=>b.runF rep S call kr ke kn fr h) n (da (λkn fr h=>b.runF rep S call kr ke kn fr h) n kn) fr h:=λ_ _ _=>rfl
  simp only[e0,e1]
  rcases nQ ih n fr fr2 h hA with hb|⟨fr',fr2',h',hA',⟨e2,e3⟩|⟨e2,e3⟩|⟨id,e2,e3⟩⟩
  ·exact .inl λkr ke kn=>hb kr ke _
  ·simp only[e2,e3]
   exact nQ ih n fr' fr2' h' hA'
  ·simp only[e2,e3]
   exact .inr ⟨fr',fr2',h',hA',.inr (.inl ⟨rfl,λ_ _ _=>rfl⟩)⟩
  ·simp only[e2,e3]
   exact .inr ⟨fr',fr2',h',hA',.inr (.inr ⟨id,rfl,λ_ _ _=>rfl⟩)⟩
theorem Js(hr:ll rep){call:Call}(hC:aC P call):∀ (c:C),c.US P→∀ (fr : Φ) (fr2:FT) (h:H),gL rep S fr fr2→Sim rep S (c.run call fr2 h) λkr ke kn=>c.runF rep S call kr ke kn fr h:=by
 intro c
 induction c with
 | skip=>exact λ_ fr fr2 h hA=>.inr ⟨fr,fr2,h,hA,.inl ⟨rfl,λ_ _ _=>rfl⟩⟩
 | reg l =>
  intro hU fr fr2 h hA
  rcases Mv hr hC l hU [] fr fr2 h [] hA (λp _ hi=>by cases hi)with hb|⟨fr',fr2',h',e1,hA',e2⟩
  ·exact .inl λ_ _ kn=>hb kn
  ·exact .inr ⟨fr',fr2',h',hA',.inl ⟨e1,λ_ _ kn=>e2 kn⟩⟩
 | seq a b iha ihb =>
  intro hU fr fr2 h hA
  have e0:(C.seq a b).run call fr2 h=aa.rec (motive:=λ_=>aa) (b.run call) .ext .ret .fin .bad (a.run call fr2 h):=rfl
  have e1:∀ kr ke kn,(C.seq a b).runF rep S call kr ke kn fr h=a.runF rep S call kr ke (b.runF rep S call kr ke kn) fr h:=λ_ _ _=>rfl
  simp only[e0,e1]
  rcases iha hU.1 fr fr2 h hA with hb|⟨fr',fr2',h',hA',⟨e2,e3⟩|⟨e2,e3⟩|⟨id,e2,e3⟩⟩
  ·exact .inl λkr ke kn=>hb kr ke _
  ·simp only[e2,e3]
   exact ihb hU.2 fr' fr2' h' hA'
  ·simp only[e2,e3]
   exact .inr ⟨fr',fr2',h',hA',.inr (.inl ⟨rfl,λ_ _ _=>rfl⟩)⟩
  ·simp only[e2,e3]
   exact .inr ⟨fr',fr2',h',hA',.inr (.inr ⟨id,rfl,λ_ _ _=>rfl⟩)⟩
 | cond c a b iha ihb =>
  intro hU fr fr2 h hA
  have e0:(C.cond c a b).run call fr2 h=(c.ev fr2).onBool λt=>Bool.rec (motive:=λ_=>aa) (b.run call fr2 h) (a.run call fr2 h) t:=rfl
  have e1:∀ kr ke kn,(C.cond c a b).runF rep S call kr ke kn fr h=must 60 (yo rep S [] c) ((rM rep S [] fr c).onBool λt=>Bool.rec (motive:=λ_=>aa) (b.runF rep S call kr ke kn fr h) (a.runF rep S call kr ke kn fr h) t):=λ_ _ _=>rfl
  simp only[e0,e1]
  rcases ay 60 (yo rep S [] c)with hb|⟨hc,e2⟩
  ·exact .inl λ_ _ _=>hb _
  simp only[e2,Cd hA (λp _ hi=>by cases hi) hc]
  rcases dk (c.ev fr2)with hb|⟨t,e3⟩
  ·exact .inl λ_ _ _=>hb _
  simp only[e3]
  cases t with
  | true=>exact iha hU.1 fr fr2 h hA
  | false=>exact ihb hU.2 fr fr2 h hA
 | block id b ih =>
  intro hU fr fr2 h hA
  have e0:(C.block id b).run call fr2 h=aa.rec (motive:=λ_=>aa) .nrm (λj fr h=>ifC (Nat.beq j id) (.nrm fr h) (.ext j fr h)) .ret .fin .bad (b.run call fr2 h):=rfl
  have e1:∀ kr ke kn,(C.block id b).runF rep S call kr ke kn fr h=b.runF rep S call kr (λj=>Bool.rec (motive:=λ_=>Φ → H→aa) (ke j) kn (Nat.beq j id)) kn fr h:=λ_ _ _=>rfl
  simp only[e0,e1]
  rcases ih hU fr fr2 h hA with hb|⟨fr',fr2',h',hA',⟨e2,e3⟩|⟨e2,e3⟩|⟨j,e2,e3⟩⟩
  ·exact .inl λkr ke kn=>hb kr _ kn
  ·simp only[e2,e3]
   exact .inr ⟨fr',fr2',h',hA',.inl ⟨rfl,λ_ _ _=>rfl⟩⟩
  ·simp only[e2,e3]
   exact .inr ⟨fr',fr2',h',hA',.inr (.inl ⟨rfl,λ_ _ _=>rfl⟩)⟩
  ·simp only[e2,e3]
   cases Nat.beq j id with
   | true=>exact .inr ⟨fr',fr2',h',hA',.inl ⟨rfl,λ_ _ _=>rfl⟩⟩
   | false=>exact .inr ⟨fr',fr2',h',hA',.inr (.inr ⟨j,rfl,λ_ _ _=>rfl⟩)⟩
 | loop b ih =>
  intro hU fr fr2 h hA
  have e0:(C.loop b).run call fr2 h=aa.rec (motive:=λ_=>aa) (λ_ _=>.bad 23) .ext .ret .fin .bad (ec (b.run call) 30 fr2 h):=rfl
  have e1:∀ kr ke kn,(C.loop b).runF rep S call kr ke kn fr h=da (λkn fr h=>b.runF rep S call kr ke kn fr h) 30 (λ_ _=>.bad 23) fr h:=λ_ _ _=>rfl
  simp only[e0,e1]
  rcases nQ (ih hU) 30 fr fr2 h hA with hb|⟨fr',fr2',h',hA',⟨e2,e3⟩|⟨e2,e3⟩|⟨id,e2,e3⟩⟩
  ·exact .inl λkr ke kn=>hb kr ke _
  ·simp only[e3]
   exact .inl λ_ _ _=>⟨_,rfl⟩
  ·simp only[e2,e3]
   exact .inr ⟨fr',fr2',h',hA',.inr (.inl ⟨rfl,λ_ _ _=>rfl⟩)⟩
  ·simp only[e2,e3]
   exact .inr ⟨fr',fr2',h',hA',.inr (.inr ⟨id,rfl,λ_ _ _=>rfl⟩)⟩
 | exit id=>exact λ_ fr fr2 h hA=>.inr ⟨fr,fr2,h,hA,.inr (.inr ⟨id,rfl,λ_ _ _=>rfl⟩)⟩
 | ret=>exact λ_ fr fr2 h hA=>.inr ⟨fr,fr2,h,hA,.inr (.inl ⟨rfl,λ_ _ _=>rfl⟩)⟩
 | no w=>exact λ_ fr fr2 h hA=>.inl λ_ _ _=>⟨_,rfl⟩
 | rangeF f ps a b _ _=>exact λ_ fr fr2 h hA=>.inl λ_ _ _=>⟨_,rfl⟩
theorem mo(hr:ll rep):∀ (ps:List ab) (vs:List AV) (fr : Φ) (fr2:FT),gL rep S fr fr2→(∀ K,bq (iY rep S ps vs fr K))∨∃ fr' fr2',gL rep S fr' fr2'∧(∀ K,iY rep S ps vs fr K=K fr')∧∀ K,bP ps vs fr2 K=K fr2'
 | [],[],fr,fr2,hA=>.inr ⟨fr,fr2,hA,λ_=>rfl,λ_=>rfl⟩
 | [],_::_,_,_,_=>.inl λ_=>⟨_,rfl⟩
 | _::_,[],_,_,_=>.inl λ_=>⟨_,rfl⟩
 | q::ps,v::vs,fr,fr2,hA=>by
  have e0:∀ K,iY rep S (q::ps) (v::vs) fr K=Bool.rec (motive:=λ_=>aa) (iY rep S ps vs fr K) (rep.set (r9 S q) v fr λfr=>iY rep S ps vs fr K) (c7 rep S q):=λ_=>rfl
  have e1:∀ K,bP (q::ps) (v::vs) fr2 K=bP ps vs (kh v q fr2) K:=λ_=>rfl
  simp only[e0,e1]
  cases hs:c7 rep S q with
  | true =>
   obtain⟨fr',h1,h2,h3⟩:=hr.set _ (lf hs) v fr
   simp only[h1]
   refine mo hr ps vs fr' _ λp hp=>?_
   rw[eK]
   by_cases e:p=q
   ·rw[if_pos e,e,h2]
   ·rw[if_neg e,hA p hp,h3 _ (lf hp) λh=>e (DX hr hp hs h)]
  | false =>
   refine mo hr ps vs fr _ λp hp=>?_
   rw[eK,if_neg λe=>by rw[e,hs]at hp;cases hp]
   exact hA p hp
theorem Eg{fr : Φ}{fr2:FT}(hA:gL rep S fr fr2)(h:H):∀ (l:List RV),Kb rep S l=true→∀ k,KZ rep S l fr h k=qH l fr2 h k
 | [],_,_=>rfl
 | x::t,hl,k=>by
  have h0:Bool.rec (motive:=λ_=>Bool) false (Kb rep S t) (c7 rep S (RV.rec (motive:=λ_=>ab) (λp=>p) (λp=>p) (λp _=>p) x))=true:=hl
  cases hs:c7 rep S (RV.rec (motive:=λ_=>ab) (λp=>p) (λp=>p) (λp _=>p) x) with
  | false=>rw[hs]at h0;cases h0
  | true =>
   rw[hs]at h0
   have ih:=Eg hA h t h0
   cases x with
   | tmp p =>
    show KZ rep S t fr h (λu=>k (rep.get (r9 S p) fr::u))=qH t fr2 h λu=>k (b6 p fr2::u)
    rw[ih,hA p hs]
   | cell p =>
    show ((rep.get (r9 S p) fr).onPtr λo i=>cellsOf o h λcs _=>nthC cs i λv=>KZ rep S t fr h λt=>k (v::t))=(b6 p fr2).onPtr λo i=>cellsOf o h λcs _=>nthC cs i λv=>qH t fr2 h λt=>k (v::t)
    simp only[ih,hA p hs]
   | agg p n =>
    show ((rep.get (r9 S p) fr).onPtr λo i=>cellsOf o h λcs _=>ldropC i cs λcs=>ltake n cs λcs=>KZ rep S t fr h λt=>k (.agg cs::t))=(b6 p fr2).onPtr λo i=>cellsOf o h λcs _=>ldropC i cs λcs=>ltake n cs λcs=>qH t fr2 h λt=>k (.agg cs::t)
    simp only[ih,hA p hs]
theorem HQ(hr:ll rep){call:Call}(hC:aC P call)(fn:Fn)(hU:fn.body.US P)(args:List AV)(h:H):(∀ k,bq (A2 rep S fn call args h k))∨∀ k,A2 rep S fn call args h k=enter fn call args h k:=by
 obtain⟨ps,body,res⟩:=fn
 have e0:∀ k,A2 rep S ⟨ps,body,res⟩ call args h k=must 60 (Kb rep S res) (iY rep S ps args rep.init λfr=>body.runF rep S call (Gl rep S res k) (λ_ _ _=>.bad 25) (Gl rep S res k) fr h):=λ_=>rfl
 have e1:∀ k,enter ⟨ps,body,res⟩ call args h k=bP ps args .leaf λfr=>aa.rec (motive:=λ_=>aa) (λfr h=>qH res fr h λvs=>k (one vs) h) (λ_ _ _=>.bad 25) (λfr h=>qH res fr h λvs=>k (one vs) h) (λ_ _=>.bad 26) .bad (body.run call fr h):=λ_=>rfl
 simp only[e0,e1]
 rcases ay 60 (Kb rep S res)with hb|⟨ho,e2⟩
 ·exact .inl λ_=>hb _
 simp only[e2]
 rcases mo (S:=S) hr ps args rep.init .leaf (λp hp=>by rw[wk,hr.init _ (lf hp)])with hb|⟨fr,fr2,hA,e3,e4⟩
 ·exact .inl λ_=>hb _
 simp only[e3,e4]
 have hend:∀ fr' fr2' h' k,gL rep S fr' fr2'→Gl rep S res k fr' h'=qH res fr2' h' λvs=>k (one vs) h':=λfr' fr2' h' k hA'=>by
  unfold Gl
  simp only[mV]
  exact Eg hA' h' res ho _
 rcases Js (S:=S) hr hC body hU fr fr2 h hA with hb|⟨fr',fr2',h',hA',⟨e5,e6⟩|⟨e5,e6⟩|⟨id,e5,e6⟩⟩
 ·exact .inl λ_=>hb _ _ _
 ·right;intro k;rw[e5];exact (e6 _ _ _).trans (hend _ _ _ _ hA')
 ·right;intro k;rw[e5];exact (e6 _ _ _).trans (hend _ _ _ _ hA')
 ·right;intro k;rw[e5];exact e6 _ _ _
theorem zN{N:Nat}(ops:Array Oper):∀ (l:List Oper),∀ o ∈ (region P N ops l).ops,US P o
 | [],_,h=>by cases h
 | x::t,o,h=>by
  have hbad:US P gK:=λcall _ fr h=>.inl λk=>ge call fr h k
  cases hd:nn N x.dst with
  | none =>
   have e0:region P N ops (x::t) = .op .no .no gK .nil:=by rw[region];rw[hd]
   rw[e0]at h
   rcases List.mem_cons.1 h with rfl|h
   ·exact hbad
   ·cases h
  | some d =>
   cases hg:gj N ops x.guard with
   | none =>
    have e0:region P N ops (x::t) = .op .no .no gK .nil:=by rw[region];rw[hd,hg]
    rw[e0]at h
    rcases List.mem_cons.1 h with rfl|h
    ·exact hbad
    ·cases h
   | some g =>
    have e0:region P N ops (x::t) = .op d g ((gt P N x.op).getD gK) (region P N ops t):=by rw[region];rw[hd,hg]
    rw[e0]at h
    rcases List.mem_cons.1 h with rfl|h
    ·intro call hC fr h
     rcases fv (N:=N) hC x fr h with hb|⟨_,hb|⟨v,h1,e,_⟩⟩
     ·exact .inl hb
     ·exact .inl hb
     ·exact .inr ⟨v,h1,e⟩
    ·exact zN ops t o h
theorem Sd{N:Nat}(x:Oper):US P (dh P N x):=by
 intro call hC fr h
 rcases fv (N:=N) hC x fr h with hb|⟨_,hb|⟨v,h1,e,_⟩⟩
 ·exact .inl hb
 ·exact .inl hb
 ·exact .inr ⟨v,h1,e⟩
theorem K1{N:Nat}(ops:Array Oper)(b:Array Nat):∀ (l es:List Nat),∀ o ∈ (gS P N ops b l es).ops,US P o
 | [],_,_,h=>by cases h
 | i::t,es,o,h=>by
  have hbad:US P gK:=λcall _ fr h=>.inl λk=>ge call fr h k
  have hone:∀ o ∈ (L.op .no .no gK .nil).ops,US P o:=λo h=>by
   rcases List.mem_cons.1 h with rfl|h
   ·exact hbad
   ·cases h
  rw[gS]at h
  split at h
  ·exact hone o h
  ·split at h
   ·dsimp only at h
    split at h <;> rcases List.mem_cons.1 h with rfl|h <;> first|exact Sd _|exact K1 ops b t _ o h
   ·exact hone o h
theorem kP{N:Nat}:∀ c:Code,(code P N c).US P
 | .region _ ops false=>zN ops ops.toList
 | .region _ ops true=>by
  show ∀ o ∈ (fR P N ops).ops,US P o
  unfold fR
  dsimp only
  split
  ·exact K1 ops _ _ _
  ·intro o h
   rcases List.mem_cons.1 h with rfl|h
   ·exact λcall _ fr h=>.inl λk=>ge call fr h k
   ·cases h
 | .seq a b=>⟨kP a,kP b⟩
 | .cond c a b=>by
  show C.US P (match bg N c with | some x=>.cond x (code P N a) (code P N b) | none=>.no 33)
  split
  ·exact⟨kP a,kP b⟩
  ·trivial
 | .block _ b=>kP b
 | .loop b=>kP b
 | .scope b=>kP b
 | .skip | .exit _ | .label _ | .ret | .goto _ | .refuse _=>trivial
 | .rangeFunc f ps a b=>by
  show C.US P (match bg N f with | some x=>if ps.all (· < N) then .rangeF x (ps.toList.map ae) (ze N (code P N a)) (code P N b) else .no 31 | none=>.no 31)
  split
  ·split <;> trivial
  ·trivial
theorem ag{f:FuncId}{func:Func}{s:Go.Ai.Call→List AV→H→af→aa}(hr:ll rep)(hDr:cK P)(hlt:f<8191)(hf:P.funcs[f]? = some func)(hn:(func.name == "runtime.NumGoroutine")=false)(hs:(fn P func).map (A2 rep S)=some s):ac P (ae f) s:=by
 simp only[Option.map_eq_some_iff]at hs
 obtain⟨q,hq,rfl⟩:=hs
 intro call hC args h
 have hU:q.body.US P:=by
  obtain⟨b,res,hb,hq'⟩:=pJ hq
  rw[hq'.2.2.2]
  exact kP b
 rcases HQ (S:=S) hr hC q hU args h with hb|e
 ·exact .inl hb
 ·have:=DR hDr hlt hf hn (s:=enter q) (by rw[hq];rfl) call hC args h
  rcases this with hb|⟨v,h1,e1,ok⟩
  ·exact .inl λk=>by rw[e k];exact hb k
  ·exact .inr ⟨v,h1,λk=>by rw[e k];exact e1 k,ok⟩
theorem Pr:∀ i,i<8→∀ (v:AV) (x:F8),∃ x',(∀ k,Nx i v x k=k x')∧xg i x'=v∧∀ j,j<8→j≠i→xg j x'=xg j x:=by
 intro i hi v x
 match i,hi with
 | 0,_ | 1,_ | 2,_ | 3,_ | 4,_ | 5,_ | 6,_ | 7,_ =>
  refine⟨_,λk=>rfl,rfl,λj hj hne=>?_⟩
  match j,hj with
  | 0,_ | 1,_ | 2,_ | 3,_ | 4,_ | 5,_ | 6,_ | 7,_=>first | rfl | exact absurd rfl hne
theorem ak:ll W7:=⟨by decide,λi hi=>by
 match i,hi with
 | 0,_ | 1,_ | 2,_ | 3,_ | 4,_ | 5,_ | 6,_ | 7,_=>rfl,Pr⟩
theorem up8{α : Type}(d : α){s:AV → α → (α → aa)→aa}{v:AV}:∀ i,i<8→∀ (x:O8 α) (y : α),(∀ k,s v (oc d i x) k=k y)→∃ x',(∀ k,upn i s v x k=k x')∧oc d i x'=y∧∀ j,j<8→j≠i→oc d j x'=oc d j x:=by
 intro i hi x y h
 match i,hi with
 | 0,_=>exact⟨⟨y,x.b,x.c,x.d,x.e,x.f,x.g,x.h⟩,λk=>h _,rfl,λj hj hne=>by match j,hj with | 0,_ | 1,_ | 2,_ | 3,_ | 4,_ | 5,_ | 6,_ | 7,_=>first | rfl | exact absurd rfl hne⟩
 | 1,_=>exact⟨⟨x.a,y,x.c,x.d,x.e,x.f,x.g,x.h⟩,λk=>h _,rfl,λj hj hne=>by match j,hj with | 0,_ | 1,_ | 2,_ | 3,_ | 4,_ | 5,_ | 6,_ | 7,_=>first | rfl | exact absurd rfl hne⟩
 | 2,_=>exact⟨⟨x.a,x.b,y,x.d,x.e,x.f,x.g,x.h⟩,λk=>h _,rfl,λj hj hne=>by match j,hj with | 0,_ | 1,_ | 2,_ | 3,_ | 4,_ | 5,_ | 6,_ | 7,_=>first | rfl | exact absurd rfl hne⟩
 | 3,_=>exact⟨⟨x.a,x.b,x.c,y,x.e,x.f,x.g,x.h⟩,λk=>h _,rfl,λj hj hne=>by match j,hj with | 0,_ | 1,_ | 2,_ | 3,_ | 4,_ | 5,_ | 6,_ | 7,_=>first | rfl | exact absurd rfl hne⟩
 | 4,_=>exact⟨⟨x.a,x.b,x.c,x.d,y,x.f,x.g,x.h⟩,λk=>h _,rfl,λj hj hne=>by match j,hj with | 0,_ | 1,_ | 2,_ | 3,_ | 4,_ | 5,_ | 6,_ | 7,_=>first | rfl | exact absurd rfl hne⟩
 | 5,_=>exact⟨⟨x.a,x.b,x.c,x.d,x.e,y,x.g,x.h⟩,λk=>h _,rfl,λj hj hne=>by match j,hj with | 0,_ | 1,_ | 2,_ | 3,_ | 4,_ | 5,_ | 6,_ | 7,_=>first | rfl | exact absurd rfl hne⟩
 | 6,_=>exact⟨⟨x.a,x.b,x.c,x.d,x.e,x.f,y,x.h⟩,λk=>h _,rfl,λj hj hne=>by match j,hj with | 0,_ | 1,_ | 2,_ | 3,_ | 4,_ | 5,_ | 6,_ | 7,_=>first | rfl | exact absurd rfl hne⟩
 | 7,_=>exact⟨⟨x.a,x.b,x.c,x.d,x.e,x.f,x.g,y⟩,λk=>h _,rfl,λj hj hne=>by match j,hj with | 0,_ | 1,_ | 2,_ | 3,_ | 4,_ | 5,_ | 6,_ | 7,_=>first | rfl | exact absurd rfl hne⟩
theorem yi(i:Nat)(hi:i<64)(v:AV)(x:ar):∃ x',(∀ k,we i v x k=k x')∧nw i x'=v∧∀ j,j<64→j≠i→nw j x'=nw j x:=by
 obtain⟨y,h1,h2,h3⟩:=Pr (Nat.mod i 8) (Nat.mod_lt i (by decide)) v (oc i8 (Nat.div i 8) x)
 obtain⟨x',h4,h5,h6⟩:=up8 i8 (s:=Nx (Nat.mod i 8)) (v:=v) (Nat.div i 8) (show i/8<8 by omega) x y h1
 refine⟨x',h4,?_,λj hj hne=>?_⟩
 ·show xg (Nat.mod i 8) (oc i8 (Nat.div i 8) x')=v
  rw[h5,h2]
 ·show xg (Nat.mod j 8) (oc i8 (Nat.div j 8) x')=xg (Nat.mod j 8) (oc i8 (Nat.div j 8) x)
  by_cases e:Nat.div j 8=Nat.div i 8
  ·rw[e,h5]
   refine h3 _ (Nat.mod_lt j (by decide)) λe2=>hne ?_
   have e':j/8=i/8:=e
   have e2':j%8=i%8:=e2
   omega
  ·rw[h6 (Nat.div j 8) (show j/8<8 by omega) e]
theorem aL:ll PA:=⟨by decide,λi hi=>by
 have h1:i/8<8:=by have:i<64:=hi;omega
 have h2:i%8<8:=Nat.mod_lt i (by decide)
 show xg (i%8) (oc i8 (i/8) i64) = .undef
 have h3:∀ q,q<8→oc i8 q i64=i8:=λq hq=>by match q,hq with | 0,_ | 1,_ | 2,_ | 3,_ | 4,_ | 5,_ | 6,_ | 7,_=>rfl
 rw[h3 _ h1]
 exact ak.init _ h2,yi⟩
theorem Fw:ll xI:=⟨by decide,λi hi=>by
 show Bool.rec (motive:=λ_=>AV) (nw (Nat.sub i 64) i64) (nw i i64) (Nat.blt i 64) = .undef
 by_cases h:i<64
 ·rw[az,decide_eq_true h];exact aL.init i h
 ·rw[az,decide_eq_false h];exact aL.init (i-64) (by have:i<128:=hi;show i-64<64;omega),λi hi v x=>by
 have hi':i<128:=hi
 have e0:∀ j y,xI.get j y=Bool.rec (motive:=λ_=>AV) (nw (Nat.sub j 64) y.r) (nw j y.l) (Nat.blt j 64):=λ_ _=>rfl
 have e1:∀ k,xI.set i v x k=(Bool.rec (motive:=λ_=>AV→aj→(aj→aa)→aa) (eR (we (Nat.sub i 64))) (eT (we i)) (Nat.blt i 64)) v x k:=λ_=>rfl
 simp only[e0,e1]
 by_cases h:i<64
 ·obtain⟨y,h1,h2,h3⟩:=yi i h v x.l
  rw[az,decide_eq_true h]
  refine⟨⟨y,x.r⟩,λk=>h1 _,h2,λj hj hne=>?_⟩
  by_cases h':j<64
  ·rw[az,decide_eq_true h'];exact h3 j h' hne
  ·rw[az,decide_eq_false h']
 ·obtain⟨y,h1,h2,h3⟩:=yi (i-64) (by omega) v x.r
  rw[az,decide_eq_false h]
  refine⟨⟨x.l,y⟩,λk=>h1 _,h2,λj hj hne=>?_⟩
  have hj':j<128:=hj
  by_cases h':j<64
  ·rw[az,decide_eq_true h']
  ·rw[az,decide_eq_false h'];exact h3 (j-64) (by omega) (by omega)⟩
end Go.Ai
namespace Go.Ai
set_option linter.unusedSectionVars false
variable [Nu]
open Go
variable {P:Program}
noncomputable section
abbrev KL:=Call→FT→H→List H→(FT→H→aa)→aa
def Up(d:D)(g:G)(o:O)(_:L)(ih:KL):KL:=λcall fr h hs kn=>g.on' fr (o.stepY (λx=>x.ev fr) call h λv h=>ih call (d.put v fr) h hs kn) (ih call (d.put .undef fr) h hs kn)
def Sc(d:D)(g:G)(o:O)(back:Nat)(eff al:Bool)(_:L)(ih:KL):KL:=λcall fr h hs kn =>
 g.on' fr (o.stepY (λx=>x.ev fr) call h λv h'=>ap (λh k=>o.stepY (λx=>x.ev fr) call h k) v (bQ al h (ih call (d.put v fr) h' (Bool.rec (motive:=λ_=>List H) hs (h::hs) eff) kn) hs) back hs) (ih call (d.put .undef fr) h (Bool.rec (motive:=λ_=>List H) hs (h::hs) eff) kn)
def L.runK(l:L):KL:=L.rec (motive:=λ_=>KL) (λ_ fr h _ kn=>kn fr h) Up Sc l
def gg(o:ab)(fr:FT)(h:H)(kr:FT→H→aa)(ke:Nat→FT→H→aa)(kn:FT→H→aa):aa :=
 H.rec (motive:=λ_=>aa) (λt n=>gZ o t λb=>Obj.rec (motive:=λ_=>aa) (.bad 40) (λ_ _=>.bad 40) (λ_ _=>.bad 40) (.bad 40) (λst pd f ps a c=>must 12 (Nat.blt st 4) (Bool.rec (motive:=λ_=>aa) (nr (.loop 3 pd f ps a c) o t λt=>gk.rec (motive:=λ_=>aa) (kn fr (.mk t n)) (kr fr (.mk t n)) (λid=>ke id fr (.mk t n)) pd) (.bad 41) (Nat.beq st 1))) b) h
def Nr(f:a6)(ps:List ab)(a b:C):CT FT:=λcall kr ke kn fr h =>
 cW (.loop 0 .no fr ps a b) h λo h=>(f.ev fr).onFnY (λg x c=>must 12 (Nat.blt g 8191) (call (ae g) (cZ x (.yld o::c)) h λ_ h=>gg o fr h kr ke kn)) (λ_=>.bad 42)
def C.runK(c:C):CT FT:=C.rec (motive:=λ_=>CT FT) kS (λl=>kR λcall fr h kn=>l.runK call fr h [] kn) (λ_ _=>kQ) (λc _ _=>kI λfr=>c.ev fr) (λid _=>kB id) (λ_=>kL) kX kT Rw (λf ps a b _ _=>Nr f ps a b) c
def G7(res:List RV)(k:af)(fr:FT)(h:H):aa:=qH res fr h λvs=>n9 vs λvs=>k (one vs) h
def tC(fn:Fn):Call→List AV→H→af→aa:=Fn.rec (motive:=λ_=>Call→List AV→H→af→aa) (λps body res call args h k=>bP ps args .leaf λfr=>body.runK call (G7 res k) (λ_ _ _=>.bad 25) (G7 res k) fr h) fn
def gn(o:ab)(j:gk)(h:H)(k:af):aa :=
 H.rec (motive:=λ_=>aa) (λt n=>gZ o t λx=>Obj.rec (motive:=λ_=>aa) (.bad 43) (λ_ _=>.bad 43) (λ_ _=>.bad 43) (.bad 43) (λst _ f ps a b =>
  must 12 (Nat.blt st 4) (gk.rec (motive:=λ_=>aa) (nr (.loop 0 .no f ps a b) o t λt=>k (.bool true) (.mk t n)) (nr (.loop 2 .ret f ps a b) o t λt=>k (.bool false) (.mk t n)) (λid=>nr (.loop 2 (.exit id) f ps a b) o t λt=>k (.bool false) (.mk t n)) j)) x) h
def lW(o:ab)(h:H)(k:H→aa):aa :=
 H.rec (motive:=λ_=>aa) (λt n=>gZ o t λx=>Obj.rec (motive:=λ_=>aa) (.bad 44) (λ_ _=>.bad 44) (λ_ _=>.bad 44) (.bad 44) (λst pd f ps a b=>must 12 (Nat.beq st 0) (nr (.loop 1 pd f ps a b) o t λt=>k (.mk t n))) x) h
def tD(call:Call)(args:List AV)(h:H)(k:af):aa :=
 List.rec (motive:=λ_=>aa) (.bad 46) (λy vs _=>y.onFnY (λ_ _ _=>.bad 46) λo=>H.rec (motive:=λ_=>aa) (λt _=>gZ o t λx=>Obj.rec (motive:=λ_=>aa) (.bad 47) (λ_ _=>.bad 47) (λ_ _=>.bad 47) (.bad 47) (λst _ f ps a b =>
  must 12 (Nat.blt st 4) (bP ps vs f λfr=>a.runK call (λ_ _=>.bad 48) (λ_ _ _=>.bad 48) (λfr h=>lW o h λh=>b.runK call (λ_ h=>gn o .ret h k) (λid _ h=>gn o (.exit id) h k) (λ_ h=>gn o .no h k) fr h) fr h)) x) h) args
end
theorem A7(o:ab)(fr:FT)(h:H):(∀ kr ke kn,bq (gg o fr h kr ke kn))∨∃ h',(endLoop o fr h = .nrm fr h'∧∀ kr ke kn,gg o fr h kr ke kn=kn fr h')∨(endLoop o fr h = .ret fr h'∧∀ kr ke kn,gg o fr h kr ke kn=kr fr h')∨∃ id,endLoop o fr h = .ext id fr h'∧∀ kr ke kn,gg o fr h kr ke kn=ke id fr h':=by
 cases h with
 | mk t n =>
  have e0:endLoop o fr (.mk t n)=Obj.rec (motive:=λ_=>aa) (.bad 40) (λ_ _=>.bad 40) (λ_ _=>.bad 40) (.bad 40) (λst pd f ps a b=>must 12 (Nat.blt st 4) (Bool.rec (motive:=λ_=>aa) (gk.rec (motive:=λ_=>aa) (.nrm fr (.mk (aX (.loop 3 pd f ps a b) o t) n)) (.ret fr (.mk (aX (.loop 3 pd f ps a b) o t) n)) (λid=>.ext id fr (.mk (aX (.loop 3 pd f ps a b) o t) n)) pd) (.bad 41) (Nat.beq st 1))) (ax o t):=rfl
  have e1:∀ kr ke kn,gg o fr (.mk t n) kr ke kn=Obj.rec (motive:=λ_=>aa) (.bad 40) (λ_ _=>.bad 40) (λ_ _=>.bad 40) (.bad 40) (λst pd f ps a c=>must 12 (Nat.blt st 4) (Bool.rec (motive:=λ_=>aa) (gk.rec (motive:=λ_=>aa) (kn fr (.mk (aX (.loop 3 pd f ps a c) o t) n)) (kr fr (.mk (aX (.loop 3 pd f ps a c) o t) n)) (λid=>ke id fr (.mk (aX (.loop 3 pd f ps a c) o t) n)) pd) (.bad 41) (Nat.beq st 1))) (ax o t):=λkr ke kn=>by
   show gZ o t _=_
   simp only[gH,jU]
  simp only[e0,e1]
  cases ax o t with
  | loop st pd f ps a b =>
   dsimp only
   rcases ay 12 (Nat.blt st 4)with hb|⟨_,e2⟩
   ·exact .inl λ_ _ _=>hb _
   simp only[e2]
   cases Nat.beq st 1 with
   | true=>exact .inl λ_ _ _=>⟨_,rfl⟩
   | false =>
    cases pd with
    | no=>exact .inr ⟨_,.inl ⟨rfl,λ_ _ _=>rfl⟩⟩
    | ret=>exact .inr ⟨_,.inr (.inl ⟨rfl,λ_ _ _=>rfl⟩)⟩
    | exit id=>exact .inr ⟨_,.inr (.inr ⟨id,rfl,λ_ _ _=>rfl⟩)⟩
  | _=>exact .inl λ_ _ _=>⟨_,rfl⟩
theorem Mp{call:Go.Ai.Call}(hC:aC P call):∀ (l:L),(∀ o ∈ l.ops,US P o)→∀ (fr:FT) (h:H) (hs:List H),
  (∀ kn,bq (l.runK call fr h hs kn))∨∃ fr' h',l.run call fr h hs = .nrm fr' h'∧∀ kn,l.runK call fr h hs kn=kn fr' h':=by
 intro l
 induction l with
 | nil=>exact λ_ fr h hs=>.inr ⟨fr,h,rfl,λ_=>rfl⟩
 | op d g o rest ih =>
  intro hU fr h hs
  have hUo:∀ fr h,ba (o.step call fr h):=hU o List.mem_cons_self call hC
  have ih:=ih λo ho=>hU o (List.mem_cons_of_mem _ ho)
  have e0:∀ kn,(L.op d g o rest).runK call fr h hs kn=g.on' fr (o.stepY (λx=>x.ev fr) call h λv h=>rest.runK call (d.put v fr) h hs kn) (rest.runK call (d.put .undef fr) h hs kn):=λ_=>rfl
  simp only[e0,xM,JO]
  rcases zF g fr with hb|⟨t,e3⟩
  ·exact .inl λ_=>hb _ _
  simp only[e3]
  cases t with
  | true =>
   simp only[a7]
   rcases hUo fr h with hb|⟨v,h1,e4⟩
   ·exact .inl λ_=>hb _
   simp only[e4]
   exact ih _ h1 hs
  | false =>
   simp only[a5]
   exact ih _ h hs
 | dop d g o back eff al rest ih =>
  intro hU fr h hs
  have hUo:∀ fr h,ba (o.step call fr h):=hU o List.mem_cons_self call hC
  have ih:=ih λo ho=>hU o (List.mem_cons_of_mem _ ho)
  have e0:∀ kn,(L.dop d g o back eff al rest).runK call fr h hs kn=g.on' fr (o.stepY (λx=>x.ev fr) call h λv h'=>ap (λh k=>o.stepY (λx=>x.ev fr) call h k) v (bQ al h (rest.runK call (d.put v fr) h' (Bool.rec (motive:=λ_=>List H) hs (h::hs) eff) kn) hs) back hs) (rest.runK call (d.put .undef fr) h (Bool.rec (motive:=λ_=>List H) hs (h::hs) eff) kn):=λ_=>rfl
  simp only[e0,xM,vI,mQ (s:=λh k=>o.step call fr h k) (o:=o) (call:=call) (fr:=fr) λ_ _=>rfl,EY]
  rcases zF g fr with hb|⟨t,e3⟩
  ·exact .inl λ_=>hb _ _
  simp only[e3]
  cases t with
  | true =>
   simp only[a7]
   rcases hUo fr h with hb|⟨v,h1,e4⟩
   ·exact .inl λ_=>hb _
   simp only[e4]
   rcases uw hUo fr v back hs with hb|e6
   ·exact .inl λ_=>hb _
   simp only[e6]
   rcases zc al h hs with hb|e7
   ·exact .inl λ_=>hb _
   simp only[e7]
   exact ih _ h1 _
  | false =>
   simp only[a5]
   exact ih _ h _
def LN(run:aa)(F:(FT→H→aa)→(Nat→FT→H→aa)→(FT→H→aa)→aa):Prop :=
 (∀ kr ke kn,bq (F kr ke kn))∨∃ fr' h',(run = .nrm fr' h'∧∀ kr ke kn,F kr ke kn=kn fr' h')∨(run = .ret fr' h'∧∀ kr ke kn,F kr ke kn=kr fr' h')∨∃ id,run = .ext id fr' h'∧∀ kr ke kn,F kr ke kn=ke id fr' h'
theorem md{call:Go.Ai.Call}{b:C}(ih:∀ fr h,LN (b.run call fr h) λkr ke kn=>b.runK call kr ke kn fr h):∀ (n:Nat) (fr:FT) (h:H),
  LN (ec (b.run call) n fr h) λkr ke kn=>da (λkn fr h=>b.runK call kr ke kn fr h) n kn fr h
 | 0,fr,h=>ih fr h
 | n+1,fr,h=>by
  have e0:ec (b.run call) (n+1) fr h=aa.rec (motive:=λ_=>aa) (ec (b.run call) n) .ext .ret .fin .bad (ec (b.run call) n fr h):=rfl
  have e1:∀ kr ke kn,da (λkn fr h=>b.runK call kr ke kn fr h) (n+1) kn fr h=da (λkn fr h=>b.runK call kr ke kn fr h) n (da (λkn fr h=>b.runK call kr ke kn fr h) n kn) fr h:=λ_ _ _=>rfl
  simp only[e0,e1]
  rcases md ih n fr h with hb|⟨fr',h',⟨e2,e3⟩|⟨e2,e3⟩|⟨id,e2,e3⟩⟩
  ·exact .inl λkr ke kn=>hb kr ke _
  ·simp only[e2,e3]
   exact md ih n fr' h'
  ·simp only[e2,e3]
   exact .inr ⟨fr',h',.inr (.inl ⟨rfl,λ_ _ _=>rfl⟩)⟩
  ·simp only[e2,e3]
   exact .inr ⟨fr',h',.inr (.inr ⟨id,rfl,λ_ _ _=>rfl⟩)⟩
theorem sY{call:Go.Ai.Call}(hC:aC P call):∀ (c:C),c.US P→∀ (fr:FT) (h:H),LN (c.run call fr h) λkr ke kn=>c.runK call kr ke kn fr h:=by
 intro c
 induction c with
 | skip=>exact λ_ fr h=>.inr ⟨fr,h,.inl ⟨rfl,λ_ _ _=>rfl⟩⟩
 | reg l =>
  intro hU fr h
  rcases Mp hC l hU fr h [] with hb|⟨fr',h',e1,e2⟩
  ·exact .inl λ_ _ kn=>hb kn
  ·exact .inr ⟨fr',h',.inl ⟨e1,λ_ _ kn=>e2 kn⟩⟩
 | seq a b iha ihb =>
  intro hU fr h
  have e0:(C.seq a b).run call fr h=aa.rec (motive:=λ_=>aa) (b.run call) .ext .ret .fin .bad (a.run call fr h):=rfl
  have e1:∀ kr ke kn,(C.seq a b).runK call kr ke kn fr h=a.runK call kr ke (b.runK call kr ke kn) fr h:=λ_ _ _=>rfl
  simp only[e0,e1]
  rcases iha hU.1 fr h with hb|⟨fr',h',⟨e2,e3⟩|⟨e2,e3⟩|⟨id,e2,e3⟩⟩
  ·exact .inl λkr ke kn=>hb kr ke _
  ·simp only[e2,e3]
   exact ihb hU.2 fr' h'
  ·simp only[e2,e3]
   exact .inr ⟨fr',h',.inr (.inl ⟨rfl,λ_ _ _=>rfl⟩)⟩
  ·simp only[e2,e3]
   exact .inr ⟨fr',h',.inr (.inr ⟨id,rfl,λ_ _ _=>rfl⟩)⟩
 | cond c a b iha ihb =>
  intro hU fr h
  have e0:(C.cond c a b).run call fr h=(c.ev fr).onBool λt=>Bool.rec (motive:=λ_=>aa) (b.run call fr h) (a.run call fr h) t:=rfl
  have e1:∀ kr ke kn,(C.cond c a b).runK call kr ke kn fr h=(c.ev fr).onBool λt=>Bool.rec (motive:=λ_=>aa) (b.runK call kr ke kn fr h) (a.runK call kr ke kn fr h) t:=λ_ _ _=>rfl
  simp only[e0,e1]
  rcases dk (c.ev fr)with hb|⟨t,e3⟩
  ·exact .inl λ_ _ _=>hb _
  simp only[e3]
  cases t with
  | true=>exact iha hU.1 fr h
  | false=>exact ihb hU.2 fr h
 | block id b ih =>
  intro hU fr h
  have e0:(C.block id b).run call fr h=aa.rec (motive:=λ_=>aa) .nrm (λj fr h=>ifC (Nat.beq j id) (.nrm fr h) (.ext j fr h)) .ret .fin .bad (b.run call fr h):=rfl
  have e1:∀ kr ke kn,(C.block id b).runK call kr ke kn fr h=b.runK call kr (λj=>Bool.rec (motive:=λ_=>FT→H→aa) (ke j) kn (Nat.beq j id)) kn fr h:=λ_ _ _=>rfl
  simp only[e0,e1]
  rcases ih hU fr h with hb|⟨fr',h',⟨e2,e3⟩|⟨e2,e3⟩|⟨j,e2,e3⟩⟩
  ·exact .inl λkr ke kn=>hb kr _ kn
  ·simp only[e2,e3]
   exact .inr ⟨fr',h',.inl ⟨rfl,λ_ _ _=>rfl⟩⟩
  ·simp only[e2,e3]
   exact .inr ⟨fr',h',.inr (.inl ⟨rfl,λ_ _ _=>rfl⟩)⟩
  ·simp only[e2,e3]
   cases Nat.beq j id with
   | true=>exact .inr ⟨fr',h',.inl ⟨rfl,λ_ _ _=>rfl⟩⟩
   | false=>exact .inr ⟨fr',h',.inr (.inr ⟨j,rfl,λ_ _ _=>rfl⟩)⟩
 | loop b ih =>
  intro hU fr h
  have e0:(C.loop b).run call fr h=aa.rec (motive:=λ_=>aa) (λ_ _=>.bad 23) .ext .ret .fin .bad (ec (b.run call) 30 fr h):=rfl
  have e1:∀ kr ke kn,(C.loop b).runK call kr ke kn fr h=da (λkn fr h=>b.runK call kr ke kn fr h) 30 (λ_ _=>.bad 23) fr h:=λ_ _ _=>rfl
  simp only[e0,e1]
  rcases md (ih hU) 30 fr h with hb|⟨fr',h',⟨e2,e3⟩|⟨e2,e3⟩|⟨id,e2,e3⟩⟩
  ·exact .inl λkr ke kn=>hb kr ke _
  ·simp only[e3]
   exact .inl λ_ _ _=>⟨_,rfl⟩
  ·simp only[e2,e3]
   exact .inr ⟨fr',h',.inr (.inl ⟨rfl,λ_ _ _=>rfl⟩)⟩
  ·simp only[e2,e3]
   exact .inr ⟨fr',h',.inr (.inr ⟨id,rfl,λ_ _ _=>rfl⟩)⟩
 | exit id=>exact λ_ fr h=>.inr ⟨fr,h,.inr (.inr ⟨id,rfl,λ_ _ _=>rfl⟩)⟩
 | ret=>exact λ_ fr h=>.inr ⟨fr,h,.inr (.inl ⟨rfl,λ_ _ _=>rfl⟩)⟩
 | no w=>exact λ_ fr h=>.inl λ_ _ _=>⟨_,rfl⟩
 | rangeF f ps a b _ _ =>
  intro _ fr h
  have e0:(C.rangeF f ps a b).run call fr h=newObj (.loop 0 .no fr ps a b) h λo h=>(f.ev fr).onFnY (λg x c=>must 12 (Nat.blt g 8191) (call (ae g) (cZ x (.yld o::c)) h λ_ h=>endLoop o fr h)) (λ_=>.bad 42):=rfl
  have e1:∀ kr ke kn,(C.rangeF f ps a b).runK call kr ke kn fr h=newObj (.loop 0 .no fr ps a b) h λo h=>(f.ev fr).onFnY (λg x c=>must 12 (Nat.blt g 8191) (call (ae g) (cZ x (.yld o::c)) h λ_ h=>gg o fr h kr ke kn)) (λ_=>.bad 42):=λkr ke kn=>aN (.loop 0 .no fr ps a b) h λo h=>(f.ev fr).onFnY (λg x c=>must 12 (Nat.blt g 8191) (call (ae g) (cZ x (.yld o::c)) h λ_ h=>gg o fr h kr ke kn)) (λ_=>.bad 42)
  simp only[e0,e1]
  rcases dF (.loop 0 .no fr ps a b) h with hb|⟨o,h1,_,_,e2⟩
  ·exact .inl λ_ _ _=>hb _
  simp only[e2]
  rcases oP (f.ev fr)with hb|⟨g,x,cc,e3⟩|⟨q,e3⟩
  ·exact .inl λ_ _ _=>hb _ _
  ·simp only[e3]
   show LN (must 12 (Nat.blt g 8191) (call (ae g) (cZ x (.yld o::cc)) h1 λ_ h=>endLoop o fr h)) λkr ke kn=>must 12 (Nat.blt g 8191) (call (ae g) (cZ x (.yld o::cc)) h1 λ_ h=>gg o fr h kr ke kn)
   rcases ay 12 (Nat.blt g 8191)with hb|⟨_,e4⟩
   ·exact .inl λ_ _ _=>hb _
   simp only[e4]
   rcases hC (ae g) (cZ x (.yld o::cc)) h1 with hb|⟨v,h2,e5,_⟩
   ·exact .inl λ_ _ _=>hb _
   simp only[e5]
   rcases A7 o fr h2 with hb|⟨h',hw⟩
   ·exact .inl hb
   ·exact .inr ⟨fr,h',hw⟩
  ·simp only[e3]
   exact .inl λ_ _ _=>⟨_,rfl⟩
theorem Hu{call:Go.Ai.Call}(hC:aC P call)(fn:Fn)(hU:fn.body.US P)(args:List AV)(h:H):(∀ k,bq (tC fn call args h k))∨∀ k,tC fn call args h k=enter fn call args h k:=by
 obtain⟨ps,body,res⟩:=fn
 have e0:∀ k,tC ⟨ps,body,res⟩ call args h k=bP ps args .leaf λfr=>body.runK call (G7 res k) (λ_ _ _=>.bad 25) (G7 res k) fr h:=λ_=>rfl
 have e1:∀ k,enter ⟨ps,body,res⟩ call args h k=bP ps args .leaf λfr=>aa.rec (motive:=λ_=>aa) (λfr h=>qH res fr h λvs=>k (one vs) h) (λ_ _ _=>.bad 25) (λfr h=>qH res fr h λvs=>k (one vs) h) (λ_ _=>.bad 26) .bad (body.run call fr h):=λ_=>rfl
 simp only[e0,e1]
 rcases mY ps args .leaf with hb|⟨fr,e3⟩
 ·exact .inl λ_=>hb _
 simp only[e3]
 have hend:∀ fr' h' k,G7 res k fr' h'=qH res fr' h' λvs=>k (one vs) h':=λfr' h' k=>by
  unfold G7
  simp only[mV]
 rcases sY hC body hU fr h with hb|⟨fr',h',⟨e5,e6⟩|⟨e5,e6⟩|⟨id,e5,e6⟩⟩
 ·exact .inl λ_=>hb _ _ _
 ·right;intro k;rw[e5];exact (e6 _ _ _).trans (hend _ _ _)
 ·right;intro k;rw[e5];exact (e6 _ _ _).trans (hend _ _ _)
 ·right;intro k;rw[e5];exact e6 _ _ _
theorem GA{f:FuncId}{func:Func}{s:Go.Ai.Call→List AV→H→af→aa}(hDr:cK P)(hlt:f<8191)(hf:P.funcs[f]? = some func)(hn:(func.name == "runtime.NumGoroutine")=false)(hs:(fn P func).map tC=some s):ac P (ae f) s:=by
 simp only[Option.map_eq_some_iff]at hs
 obtain⟨q,hq,rfl⟩:=hs
 intro call hC args h
 have hU:q.body.US P:=by
  obtain⟨b,res,hb,hq'⟩:=pJ hq
  rw[hq'.2.2.2]
  exact kP b
 rcases Hu hC q hU args h with hb|e
 ·exact .inl hb
 ·rcases DR hDr hlt hf hn (s:=enter q) (by rw[hq];rfl) call hC args h with hb|⟨v,h1,e1,ok⟩
  ·exact .inl λk=>by rw[e k];exact hb k
  ·exact .inr ⟨v,h1,λk=>by rw[e k];exact e1 k,ok⟩
end Go.Ai
namespace Go.Ai
set_option linter.unusedSectionVars false
variable [Nu]
open Go
variable {P:Program}
theorem ba.k(v:AV)(h:H):ba λk=>k v h:=.inr ⟨v,h,λ_=>rfl⟩
theorem ba.bad(n:Nat):ba λ_=>.bad n:=.inl λ_=>⟨n,rfl⟩
theorem ba.onInt(v:AV){F:IntKind→Int→af→aa}(h:∀ a b,ba (F a b)):ba λk=>v.onInt λa b=>F a b k:=by
 rcases fq v with hb|⟨a,b,rfl⟩
 ·exact .inl λ_=>hb _
 ·exact h a b
theorem ba.onIntU(v:AV){F:IntKind→Int→af→aa}{G:Nat→af→aa}(h:∀ a b,ba (F a b))(h':∀ c,ba (G c)):ba λk=>v.onIntU (λa b=>F a b k) λc=>G c k:=by
 rcases AJ v with hb|⟨a,b,rfl⟩|⟨c,rfl⟩
 ·exact .inl λ_=>hb _ _
 ·exact h a b
 ·exact h' c
theorem ba.onBool(v:AV){F:Bool→af→aa}(h:∀ a,ba (F a)):ba λk=>v.onBool λa=>F a k:=by
 rcases dk v with hb|⟨a,rfl⟩
 ·exact .inl λ_=>hb _
 ·exact h a
theorem ba.onStr(v:AV){F:List Nat→af→aa}(h:∀ a,ba (F a)):ba λk=>v.onStr λa=>F a k:=by
 rcases fZ v with hb|⟨a,e⟩
 ·exact .inl λ_=>hb _
 ·simp only[e.1];exact h a
theorem ba.onPtr(v:AV){F:ab→Nat→af→aa}(h:∀ a b,ba (F a b)):ba λk=>v.onPtr λa b=>F a b k:=by
 rcases fp v with hb|⟨a,b,rfl⟩
 ·exact .inl λ_=>hb _
 ·exact h a b
theorem ba.onPtrN(v:AV){Z:af→aa}{F:ab→Nat→af→aa}(hz:ba Z)(h:∀ a b,ba (F a b)):ba λk=>v.onPtrN (Z k) λa b=>F a b k:=by
 rcases lJ v with hb|rfl|⟨a,b,rfl⟩
 ·exact .inl λ_=>hb _ _
 ·exact hz
 ·exact h a b
theorem ba.onAgg(v:AV){F:List AV→af→aa}(h:∀ a,ba (F a)):ba λk=>v.onAgg λa=>F a k:=by
 rcases gy v with hb|⟨a,rfl⟩
 ·exact .inl λ_=>hb _
 ·exact h a
theorem ba.onTup(v:AV){F:List AV→af→aa}(h:∀ a,ba (F a)):ba λk=>v.onTup λa=>F a k:=by
 rcases wS v with hb|⟨a,rfl⟩
 ·exact .inl λ_=>hb _
 ·exact h a
theorem ba.onMap(v:AV){F:ab→af→aa}(h:∀ a,ba (F a)):ba λk=>v.onMap λa=>F a k:=by
 rcases pb v with hb|⟨a,rfl⟩
 ·exact .inl λ_=>hb _
 ·exact h a
theorem ba.onMapN(v:AV){Z:af→aa}{F:ab→af→aa}(hz:ba Z)(h:∀ a,ba (F a)):ba λk=>v.onMapN (Z k) λa=>F a k:=by
 rcases tS v with hb|rfl|⟨a,rfl⟩
 ·exact .inl λ_=>hb _ _
 ·exact hz
 ·exact h a
theorem ba.onSlc(v:AV){Z:af→aa}{F:ab→Nat→Nat→gQ→af→aa}(hz:ba Z)(h:∀ a b c d,ba (F a b c d)):ba λk=>v.onSlc (Z k) λa b c d=>F a b c d k:=by
 rcases mE v with hb|rfl|⟨a,b,c,d,rfl⟩
 ·exact .inl λ_=>hb _ _
 ·exact hz
 ·exact h a b c d
theorem ba.onSlcZ(v:AV){Z:af→aa}{F:ab→Nat→Nat→gQ→af→aa}(hz:ba Z)(h:∀ a b c d,ba (F a b c d)):ba λk=>v.onSlcZ (Z k) λa b c d=>F a b c d k:=by
 rcases mt v with hb | (rfl|⟨o,i,rfl⟩) | ⟨a,b,c,d,rfl⟩
 ·exact .inl λ_=>hb _ _
 ·exact hz
 ·exact hz
 ·exact h a b c d
theorem ba.onSlcE(v:AV){Z:af→aa}{F:ab→Nat→Nat→gQ→af→aa}{G:ab→Nat→af→aa}(hz:ba Z)(h:∀ a b c d,ba (F a b c d))(hg:∀ a b,ba (G a b)):ba λk=>v.onSlcE (Z k) (λa b c d=>F a b c d k) λa b=>G a b k:=by
 rcases Aq v with hb|rfl|⟨a,b,c,d,rfl⟩|⟨a,b,rfl⟩
 ·exact .inl λ_=>hb _ _ _
 ·exact hz
 ·exact h a b c d
 ·exact hg a b
theorem ba.must(n:Nat)(b:Bool){F:af→aa}(h:ba F):ba λk=>must n b (F k):=by
 rcases ay n b with hb|⟨_,e⟩
 ·exact .inl λ_=>hb _
 ·simp only[e];exact h
theorem ba.ifC(b:Bool){F G:af→aa}(hf:ba F)(hg:ba G):ba λk=>ifC b (F k) (G k):=by cases b <;> assumption
theorem ba.natOf(a:Int){F:Nat→af→aa}(h:∀ a,ba (F a)):ba λk=>natOf a λa=>F a k:=by
 rcases oT a with hb|⟨n,_,e⟩
 ·exact .inl λ_=>hb _
 ·simp only[e];exact h n
theorem ba.cellsOf(o:ab)(hp:H){F:List AV→Nat→af→aa}(h:∀ a b,ba (F a b)):ba λk=>cellsOf o hp λa b=>F a b k:=by
 rcases bZ o hp with hb|⟨a,b,_,e⟩
 ·exact .inl λ_=>hb _
 ·simp only[e];exact h a b
theorem ba.mapOf(o:ab)(hp:H){F:List pV→Nat→af→aa}(h:∀ a b,ba (F a b)):ba λk=>mapOf o hp λa b=>F a b k:=by
 rcases mW o hp with hb|⟨a,b,_,e⟩
 ·exact .inl λ_=>hb _
 ·simp only[e];exact h a b
theorem ba.newObj(b:Obj)(hp:H){F:ab→H→af→aa}(h:∀ a b,ba (F a b)):ba λk=>newObj b hp λa b=>F a b k:=by
 rcases dF b hp with hb|⟨a,b,_,_,e⟩
 ·exact .inl λ_=>hb _
 ·simp only[e];exact h a b
theorem ba.nthC{α : Type}(l:List α)(i:Nat){F : α → af→aa}(h:∀ a,ba (F a)):ba λk=>nthC l i λa=>F a k:=by
 rcases od l i with hb|⟨a,_,e⟩
 ·exact .inl λ_=>hb _
 ·simp only[e];exact h a
theorem ba.ldropC{α : Type}(n:Nat)(l:List α){F:List α → af→aa}(h:∀ a,ba (F a)):ba λk=>ldropC n l λa=>F a k:=by
 rcases fe n l with hb|⟨_,e⟩
 ·exact .inl λ_=>hb _
 ·simp only[e];exact h _
theorem ba.ltake{α : Type}(n:Nat)(l:List α){F:List α → af→aa}(h:∀ a,ba (F a)):ba λk=>ltake n l λa=>F a k:=by
 rcases ig n l with hb|⟨_,e⟩
 ·exact .inl λ_=>hb _
 ·simp only[e];exact h _
theorem ba.lput(v l:List AV)(i:Nat){F:List AV→af→aa}(h:∀ a,ba (F a)):ba λk=>lput v l i λa=>F a k:=by
 rcases oa v l i with hb|⟨_,e⟩
 ·exact .inl λ_=>hb _
 ·simp only[e];exact h _
theorem ba.seqC(s t:List Nat){F:Bool→af→aa}(h:∀ a,ba (F a)):ba λk=>seqC s t λa=>F a k:=by
 rcases qr s t with hb|⟨q,e,_⟩
 ·exact .inl λ_=>hb _
 ·simp only[e];exact h q
theorem ba.seqV(v u:AV){F:Bool→af→aa}(h:∀ a,ba (F a)):ba λk=>seqV v u λa=>F a k:=by
 rcases Dt v u with hb|⟨_,_,q,_,_,e,_⟩
 ·exact .inl λ_=>hb _
 ·simp only[e];exact h q
theorem ba.sltC(s t:List Nat){F:Bool→af→aa}(h:∀ a,ba (F a)):ba λk=>sltC s t λa=>F a k:=by
 rcases Io s t with hb|⟨q,e,_⟩
 ·exact .inl λ_=>hb _
 ·simp only[e];exact h q
theorem ba.bytesC(cs:List AV){F:List Nat→af→aa}(h:∀ a,ba (F a)):ba λk=>bytesC cs λa=>F a k:=by
 rcases uk cs with hb|⟨l,e,_⟩
 ·exact .inl λ_=>hb _
 ·simp only[e];exact h l
theorem ba.sliceCells(P:Program)(size:Nat)(v:AV)(n:Nat)(hp:H){F:List AV→af→aa}(h:∀ a,ba (F a)):ba λk=>sliceCells size v n hp λa=>F a k:=by
 rcases iq (P:=P) size v n hp with hb|⟨cs,e,_⟩
 ·exact .inl λ_=>hb _
 ·simp only[e];exact h cs
theorem ba.srcCells(P:Program)(size:Nat)(v:AV)(hp:H){F:Nat→List AV→af→aa}(h:∀ a b,ba (F a b)):ba λk=>srcCells size v hp λa b=>F a b k:=by
 rcases tX (P:=P) size v hp with hb|⟨n,cs,e,_⟩
 ·exact .inl λ_=>hb _
 ·simp only[e];exact h n cs
theorem ba.lenC(v:AV){F:Nat→af→aa}(h:∀ a,ba (F a)):ba λk=>v.lenC λa=>F a k:=by
 rcases ui v with hb|⟨n,e,_⟩
 ·exact .inl λ_=>hb _
 ·simp only[e];exact h n
theorem ba.cellsBy(agg:Bool)(v:AV){F:List AV→af→aa}(h:∀ a,ba (F a)):ba λk=>AV.cellsBy agg v λa=>F a k:=by
 rcases pX agg v with hb|⟨l,e,_⟩
 ·exact .inl λ_=>hb _
 ·simp only[e];exact h l
theorem ba.eqC(kd:Nat)(v u:AV){F:Bool→af→aa}(h:∀ a,ba (F a)):ba λk=>AV.eqC kd v u λa=>F a k:=by
 rcases wd kd v u with hb|⟨p,q,_,_,_,e⟩|⟨j,p,q,_,_,_,e⟩|⟨s,t,q,_,_,_,_,e⟩
 ·exact .inl λ_=>hb _
 ·simp only[e];exact h _
 ·simp only[e];exact h _
 ·simp only[e];exact h _
theorem ba.eqsC:∀ (ks:List Nat) (l r:List AV) {F:Bool→af→aa} (_:∀ a,ba (F a)),ba λk=>Ai.eqsC ks l r λa=>F a k
 | [],[],[],_,h=>h true
 | [],[],_::_,_,_=>.bad 18
 | [],_::_,_,_,_=>.bad 18
 | _::_,[],_,_,_=>.bad 18
 | _::_,_::_,[],_,_=>.bad 18
 | kd::ks,a::l,b::r,F,h=>by
  show ba λk=>AV.eqC kd a b λq=>Ai.ifC q (Ai.eqsC ks l r λa=>F a k) (F false k)
  exact .eqC kd a b λq=>.ifC q (ba.eqsC ks l r h) (h false)
theorem ba.iterOf(o:ab)(hp:H){F:ab→af→aa}(h:∀ a,ba (F a)):ba λk=>Ai.iterOf o hp λa=>F a k:=by
 cases hp with
 | mk t n =>
  have e0:∀ k,Ai.iterOf o (.mk t n) k=Obj.rec (motive:=λ_=>aa) (.bad 53) (λ_ _=>.bad 53) (λ_ _=>.bad 53) (.bad 53) (λst _ f _ _ _=>Ai.must 12 (Nat.beq st 9) ((b6 .e f).onMap k)) (ax o t):=λ_=>rfl
  simp only[e0]
  cases ax o t with
  | loop st pd f ps a b=>exact .must 12 _ (.onMap _ h)
  | _=>exact .bad 53
theorem ba.putParts(l:List iC)(fr:FT)(cs:List AV){F:List AV→af→aa}(h:∀ a,ba (F a)):ba λk=>putParts l fr cs λa=>F a k:=by
 rcases tM l fr cs with hb|⟨l,e⟩
 ·exact .inl λ_=>hb _
 ·simp only[e];exact h l
theorem ba.keyC(v w:AV){F G:af→aa}(hf:ba F)(hg:ba G):ba λk=>v.keyC w (F k) (G k):=by
 have hs:∀ (s t:List Nat),ba λk=>Ai.seqC s t λb=>Ai.ifC b (F k) (G k):=λs t=>.seqC s t λb=>.ifC b hf hg
 cases v <;> cases w <;> first
  | exact .bad 13
  | exact hs _ _
  | exact .ifC _ hf hg
  | exact .must 12 _ (.ifC _ hf hg)
  | exact .must 12 _ (hs _ _)
theorem ba.findEnt(v:AV):∀ (es:List pV) (i:Nat) {F:Option (AV × Nat)→af→aa} (_:∀ a,ba (F a)),ba λk=>Ai.findEnt v es (λa=>F a k) i
 | [],_,_,h=>h none
 | e::es,i,F,h=>by
  show ba λk=>v.keyC e.key (F (some (e.val,i)) k) (Ai.findEnt v es (λa=>F a k) (Nat.succ i))
  exact .keyC v e.key (h _) (ba.findEnt v es _ h)
theorem ba.bool(b:Bool){F G:af→aa}(hf:ba F)(hg:ba G):ba λk=>Bool.rec (motive:=λ_=>aa) (F k) (G k) b:=by cases b <;> assumption
theorem ba.nat(n:Nat){F:af→aa}{G:Nat→af→aa}(hf:ba F)(hg:∀ m,ba (G m)):ba λk=>Nat.rec (motive:=λ_=>aa) (F k) (λm _=>G m k) n:=by
 cases n with
 | zero=>exact hf
 | succ n=>exact hg n
theorem ba.opt{α : Type}(x:Option α){F:af→aa}{G : α → af→aa}(hf:ba F)(hg:∀ m,ba (G m)):ba λk=>Option.rec (motive:=λ_=>aa) (F k) (λm=>G m k) x:=by
 cases x with
 | none=>exact hf
 | some n=>exact hg n
theorem ba.opo(x:mi){F:af→aa}{G:a6→af→aa}(hf:ba F)(hg:∀ m,ba (G m)):ba λk=>mi.rec (motive:=λ_=>aa) (F k) (λm=>G m k) x:=by
 cases x with
 | no=>exact hf
 | it n=>exact hg n
theorem ba.cap(x:gQ){F G:Nat→af→aa}(hf:∀ m,ba (F m))(hg:∀ m,ba (G m)):ba λk=>gQ.rec (motive:=λ_=>aa) (λm=>F m k) (λm=>G m k) x:=by
 cases x with
 | exact n=>exact hf n
 | opn n=>exact hg n
theorem ba.list{α : Type}(l:List α){F:af→aa}{G : α → List α → af→aa}(hf:ba F)(hg:∀ a t,ba (G a t)):ba λk=>List.rec (motive:=λ_=>aa) (F k) (λa t _=>G a t k) l:=by
 cases l with
 | nil=>exact hf
 | cons a t=>exact hg a t
theorem ba.evNat(x:a6)(fr:FT){F:Nat→af→aa}(h:∀ a,ba (F a)):ba λk=>evNat x fr λa=>F a k:=.onInt _ λ_ n=>.natOf n h
theorem ba.evNatX(x:FT→AV)(fr:FT){F:Nat→af→aa}(h:∀ a,ba (F a)):ba λk=>evNatX x fr λa=>F a k:=.onInt _ λ_ n=>.natOf n h
theorem ba.evNatO(x:mi)(fr:FT)(d:Nat){F:Nat→af→aa}(h:∀ a,ba (F a)):ba λk=>evNatO x fr d λa=>F a k:=.opo x (h d) λy=>.evNat y fr h
theorem ba.wrapC(kd:IntKind)(n:Int){F:Int→af→aa}(h:∀ a,ba (F a)):ba λk=>wrapC kd n λa=>F a k:=by simp only[b5];exact h _
theorem ba.addC(kd:IntKind)(n m:Int){F:Int→af→aa}(h:∀ a,ba (F a)):ba λk=>addC kd n m λa=>F a k:=by simp only[pE,b5];exact h _
theorem ba.subC(kd:IntKind)(n m:Int){F:Int→af→aa}(h:∀ a,ba (F a)):ba λk=>subC kd n m λa=>F a k:=by simp only[pp,b5];exact h _
theorem ba.forceN(n:Nat){F:Nat→af→aa}(h:∀ a,ba (F a)):ba λk=>forceN n λa=>F a k:=by simp only[ao];exact h _
theorem ba.forceI(n:Int){F:Int→af→aa}(h:∀ a,ba (F a)):ba λk=>forceI n λa=>F a k:=by simp only[iE];exact h _
theorem ba.cutSlc(size:Nat)(o:ab)(i l m c:Nat)(cap:Nat→gQ)(ends:Bool)(h:H):ba λk=>cutSlc size o i l m c cap ends h k:=by
 unfold Ai.cutSlc
 simp only[ao]
 exact .must _ _ (.must _ _ (.ifC _ (.k _ _) (.bool _ (.k _ _) (.k _ _))))
theorem JJ{call:Go.Ai.Call}(hC:aC P call)(o:O)(fr:FT)(h:H):ba (o.step call fr h):=by
 have hc:∀ p as h,ba λk=>call p as h k:=λp as h=>by
  rcases hC p as h with hb|⟨v,h',e,_⟩
  ·exact .inl hb
  ·exact .inr ⟨v,h',e⟩
 have hcK:∀ p as h,ba (call p as h):=hc
 cases o with
 | nilCheck x =>
  show ba λk=>oe x.fn call fr h k
  unfold oe
  generalize x.fn fr=v
  cases v <;> first | exact .k _ _ | exact .bad _
 | isnil kd ng x =>
  show ba λk=>ye kd ng x.fn call fr h k
  unfold ye
  generalize x.fn fr=v
  cases v <;> first | exact .must _ _ (.k _ _) | exact .bad _
 | call f as =>
  show ba λk=>Aa as fr λvs=>call f vs h k
  simp only[oL];exact hc _ _ _
 | callv x as =>
  show ba λk=>(x.ev fr).onFnY (λg a c=>Ai.must 12 (Nat.blt g 8191) (call (ae g) (cZ a (cZ (qF as fr) c)) h k)) (λo=>call (ae 8191) (.yld o::qF as fr) h k)
  rcases oP (x.ev fr)with hb|⟨g,a,c,e⟩|⟨o,e⟩
  ·exact .inl λ_=>hb _ _
  ·simp only[e];exact ba.must _ _ (hc _ _ _)
  ·simp only[e];exact hc _ _ _
 | sliceStr x lo hi =>
  show ba λk=>mn x lo hi call fr h k
  unfold mn
  repeat (first
   | exact .k _ _ | exact .bad _ | exact .cutSlc _ _ _ _ _ _ _ _ _
   | refine .must _ _ ?_ | refine .onStr _ λ_=>?_ | refine .onPtr _ λ_ _=>?_ | refine .ldropC _ _ λ_=>?_ | refine .ltake _ _ λ_=>?_
   | refine .evNatO _ _ _ λ_=>?_ | refine .evNat _ _ λ_=>?_ | refine .onSlc _ ?_ λ_ _ _ _=>?_ | refine .opo _ ?_ λ_=>?_ | refine .cap _ (λ_=>?_) λ_=>?_)
 | sliceSlc s x lo hi mx =>
  show ba λk=>lF s x lo hi mx call fr h k
  unfold lF
  repeat (first
   | exact .k _ _ | exact .bad _ | exact .cutSlc _ _ _ _ _ _ _ _ _
   | refine .must _ _ ?_ | refine .onStr _ λ_=>?_ | refine .onPtr _ λ_ _=>?_ | refine .ldropC _ _ λ_=>?_ | refine .ltake _ _ λ_=>?_
   | refine .evNatO _ _ _ λ_=>?_ | refine .evNat _ _ λ_=>?_ | refine .onSlc _ ?_ λ_ _ _ _=>?_ | refine .opo _ ?_ λ_=>?_ | refine .cap _ (λ_=>?_) λ_=>?_)
 | sliceArr n s x lo hi =>
  show ba λk=>lL n s x lo hi call fr h k
  unfold lL
  repeat (first
   | exact .k _ _ | exact .bad _ | exact .cutSlc _ _ _ _ _ _ _ _ _
   | refine .must _ _ ?_ | refine .onStr _ λ_=>?_ | refine .onPtr _ λ_ _=>?_ | refine .ldropC _ _ λ_=>?_ | refine .ltake _ _ λ_=>?_
   | refine .evNatO _ _ _ λ_=>?_ | refine .evNat _ _ λ_=>?_ | refine .onSlc _ ?_ λ_ _ _ _=>?_ | refine .opo _ ?_ λ_=>?_ | refine .cap _ (λ_=>?_) λ_=>?_)
 | build z ps=>exact .putParts _ _ _ λ_=>.k _ _
 | buildSlice n z ps=>exact .putParts _ _ _ λ_=>.newObj _ _ λ_ _=>.k _ _
 | append s b es x y =>
  show ba λk=>pU s b es x.fn y.fn call fr h k
  unfold pU bC inPlace
  simp only[ao]
  exact .srcCells P _ _ _ λm new=>.onSlcE _ (.nat _ (.k _ _) λ_=>.must _ _ (.newObj _ _ λ_ _=>.k _ _))
   (λo i n c=>.cellsOf _ _ λcs es=>.must _ _ (.ldropC _ _ λcs'=>.ltake _ _ λold=>.cap c (λd=>.ifC _ (.must _ _ (.lput _ _ _ λ_=>.k _ _)) (.newObj _ _ λ_ _=>.k _ _))
    λd=>.ifC _ (.must _ _ (.lput _ _ _ λ_=>.k _ _)) (.must _ _ (.must _ _ (.must _ _ (.must _ _ (.newObj _ _ λ_ _=>.k _ _)))))))
   λo i=>.cellsOf _ _ λcs es=>.must _ _ (.must _ _ (.must _ _ (.must _ _ (.must _ _ (.newObj _ _ λ_ _=>.k _ _)))))
 | _ =>
  simp only[O.step,OL,IF,Ae,OQ,xP,xJ,DY,K5,H8,Kv,IM,IH,JR,Po,Jv,IR,Pi,PE,KX,Pt,Oy,OA,O3,Py,Fh,Jm,Oz,qk,Fb,yZ,zE,Bc,nW,nS,tq,tP,Ad,vG,qp,O2,Ab,up,EG,CG,Kl,Kz,La,yY,tN,wK,Fk,I2,HL,Pq,Km,Bn,u7,fN,ux,xO,eg,part,dD,ao,iE,b5,pE,pp]
  repeat (first
   | exact .k _ _ | exact .bad _
   | refine .must _ _ ?_ | refine .ifC _ ?_ ?_
   | refine .onInt _ λ_ _=>?_ | refine .onIntU _ (λ_ _=>?_) λ_=>?_ | refine .onStr _ λ_=>?_ | refine .onBool _ λ_=>?_ | refine .onPtr _ λ_ _=>?_ | refine .onAgg _ λ_=>?_ | refine .onTup _ λ_=>?_ | refine .onMap _ λ_=>?_
   | refine .wrapC _ _ λ_=>?_ | refine .addC _ _ _ λ_=>?_ | refine .subC _ _ _ λ_=>?_ | refine .forceN _ λ_=>?_ | refine .forceI _ λ_=>?_
   | refine .natOf _ λ_=>?_ | refine .cellsOf _ _ λ_ _=>?_ | refine .mapOf _ _ λ_ _=>?_ | refine .newObj _ _ λ_ _=>?_ | refine .nthC _ _ λ_=>?_ | refine .ldropC _ _ λ_=>?_ | refine .ltake _ _ λ_=>?_ | refine .lput _ _ _ λ_=>?_
   | refine .seqV _ _ λ_=>?_ | refine .seqC _ _ λ_=>?_ | refine .sltC _ _ λ_=>?_ | refine .bytesC _ λ_=>?_ | refine .lenC _ λ_=>?_ | refine .sliceCells P _ _ _ _ λ_=>?_ | refine .srcCells P _ _ _ λ_ _=>?_ | refine .cellsBy _ _ λ_=>?_ | refine .eqsC _ _ _ λ_=>?_ | refine .iterOf _ _ λ_=>?_
   | refine .evNatX _ _ λ_=>?_ | refine .onPtrN _ ?_ λ_ _=>?_ | refine .onMapN _ ?_ λ_=>?_ | refine .onSlc _ ?_ λ_ _ _ _=>?_ | refine .onSlcZ _ ?_ λ_ _ _ _=>?_
   | refine .findEnt _ _ _ λ_=>?_ | refine .bool _ ?_ ?_ | refine .opt _ ?_ λ_=>?_ | refine .cap _ (λ_=>?_) λ_=>?_ | refine .list _ ?_ λ_ _=>?_ | refine .nat _ ?_ λ_=>?_)
theorem RS(o:O):US P o:=λ_ hC fr h=>JJ hC o fr h
theorem L.us(l:L):∀ o ∈ l.ops,US P o:=λo _=>RS o
theorem C.us:∀ c:C,c.US P
 | .reg l=>l.us
 | .seq a b=>⟨a.us,b.us⟩
 | .cond _ a b=>⟨a.us,b.us⟩
 | .block _ b=>b.us
 | .loop b=>b.us
 | .skip | .exit _ | .ret | .no _ | .rangeF ..=>trivial
theorem xb(o:ab)(j:gk)(h:H)(k:af):gn o j h k=endRound o j h k:=by
 cases h with
 | mk t n =>
  show gZ o t _=Obj.rec (motive:=λ_=>aa) (.bad 43) (λ_ _=>.bad 43) (λ_ _=>.bad 43) (.bad 43) (λst _ f ps a b=>must 12 (Nat.blt st 4) (gk.rec (motive:=λ_=>aa) (k (.bool true) (.mk (aX (.loop 0 .no f ps a b) o t) n)) (k (.bool false) (.mk (aX (.loop 2 .ret f ps a b) o t) n)) (λid=>k (.bool false) (.mk (aX (.loop 2 (.exit id) f ps a b) o t) n)) j)) (ax o t)
  simp only[gH,jU]
theorem tw(o:ab)(h:H)(k:H→aa):lW o h k=beginRound o h k:=by
 cases h with
 | mk t n =>
  show gZ o t _=Obj.rec (motive:=λ_=>aa) (.bad 44) (λ_ _=>.bad 44) (λ_ _=>.bad 44) (.bad 44) (λst pd f ps a b=>must 12 (Nat.beq st 0) (k (.mk (aX (.loop 1 pd f ps a b) o t) n))) (ax o t)
  simp only[gH,jU]
theorem Gw{call:Go.Ai.Call}(hC:aC P call)(args:List AV)(h:H):(∀ k,bq (tD call args h k))∨∀ k,tD call args h k=round call args h k:=by
 cases args with
 | nil=>exact .inl λ_=>⟨46,rfl⟩
 | cons y vs =>
  cases h with
  | mk t n =>
   have e0:∀ k,tD call (y::vs) (.mk t n) k=y.onFnY (λ_ _ _=>.bad 46) λo=>gZ o t λx=>Obj.rec (motive:=λ_=>aa) (.bad 47) (λ_ _=>.bad 47) (λ_ _=>.bad 47) (.bad 47) (λst _ f ps a b =>
    must 12 (Nat.blt st 4) (bP ps vs f λfr=>a.runK call (λ_ _=>.bad 48) (λ_ _ _=>.bad 48) (λfr h=>lW o h λh=>b.runK call (λ_ h=>gn o .ret h k) (λid _ h=>gn o (.exit id) h k) (λ_ h=>gn o .no h k) fr h) fr (.mk t n))) x:=λ_=>rfl
   have e1:∀ k,round call (y::vs) (.mk t n) k=y.onFnY (λ_ _ _=>.bad 46) λo=>Obj.rec (motive:=λ_=>aa) (.bad 47) (λ_ _=>.bad 47) (λ_ _=>.bad 47) (.bad 47) (λst _ f ps a b =>
    must 12 (Nat.blt st 4) (bP ps vs f λfr=>aa.rec (motive:=λ_=>aa) (λfr h=>beginRound o h λh=>ft o (b.run call fr h) k) (λ_ _ _=>.bad 48) (λ_ _=>.bad 48) (λ_ _=>.bad 48) .bad (a.run call fr (.mk t n)))) (ax o t):=λ_=>rfl
   simp only[e0,e1,gH,tw,xb]
   rcases oP y with hb|⟨g,a,c,rfl⟩|⟨o,rfl⟩
   ·exact .inl λ_=>hb _ _
   ·exact .inl λ_=>⟨46,rfl⟩
   ·show (∀ k,bq (Obj.rec (motive:=λ_=>aa) (.bad 47) (λ_ _=>.bad 47) (λ_ _=>.bad 47) (.bad 47) (λst _ f ps a b =>
     must 12 (Nat.blt st 4) (bP ps vs f λfr=>a.runK call (λ_ _=>.bad 48) (λ_ _ _=>.bad 48) (λfr h=>beginRound o h λh=>b.runK call (λ_ h=>endRound o .ret h k) (λid _ h=>endRound o (.exit id) h k) (λ_ h=>endRound o .no h k) fr h) fr (.mk t n))) (ax o t)))∨∀ k,Obj.rec (motive:=λ_=>aa) (.bad 47) (λ_ _=>.bad 47) (λ_ _=>.bad 47) (.bad 47) (λst _ f ps a b =>
     must 12 (Nat.blt st 4) (bP ps vs f λfr=>a.runK call (λ_ _=>.bad 48) (λ_ _ _=>.bad 48) (λfr h=>beginRound o h λh=>b.runK call (λ_ h=>endRound o .ret h k) (λid _ h=>endRound o (.exit id) h k) (λ_ h=>endRound o .no h k) fr h) fr (.mk t n))) (ax o t)=Obj.rec (motive:=λ_=>aa) (.bad 47) (λ_ _=>.bad 47) (λ_ _=>.bad 47) (.bad 47) (λst _ f ps a b =>
     must 12 (Nat.blt st 4) (bP ps vs f λfr=>aa.rec (motive:=λ_=>aa) (λfr h=>beginRound o h λh=>ft o (b.run call fr h) k) (λ_ _ _=>.bad 48) (λ_ _=>.bad 48) (λ_ _=>.bad 48) .bad (a.run call fr (.mk t n)))) (ax o t)
    cases ax o t with
    | loop st pd f ps a b =>
     dsimp only
     rcases ay 12 (Nat.blt st 4)with hb|⟨_,e2⟩
     ·exact .inl λ_=>hb _
     simp only[e2]
     rcases mY ps vs f with hb|⟨fr,e3⟩
     ·exact .inl λ_=>hb _
     simp only[e3]
     rcases sY hC a a.us fr (.mk t n)with hb|⟨fr',h',⟨e5,e6⟩|⟨e5,e6⟩|⟨id,e5,e6⟩⟩
     ·exact .inl λ_=>hb _ _ _
     ·simp only[e5]
      have e6':∀ k,a.runK call (λ_ _=>.bad 48) (λ_ _ _=>.bad 48) (λfr h=>beginRound o h λh=>b.runK call (λ_ h=>endRound o .ret h k) (λid _ h=>endRound o (.exit id) h k) (λ_ h=>endRound o .no h k) fr h) fr (.mk t n)=beginRound o h' λh=>b.runK call (λ_ h=>endRound o .ret h k) (λid _ h=>endRound o (.exit id) h k) (λ_ h=>endRound o .no h k) fr' h:=λk=>e6 _ _ _
      simp only[e6']
      rcases oE o h' with hb|⟨_,_,_,_,_,h2,hw⟩
      ·exact .inl λ_=>hb _
      obtain⟨_,_,e7⟩:=hw
      simp only[e7]
      rcases sY hC b b.us fr' h2 with hb|⟨fr3,h3,⟨e8,e9⟩|⟨e8,e9⟩|⟨id,e8,e9⟩⟩
      ·exact .inl λ_=>hb _ _ _
      ·right;intro k;rw[e8];exact e9 _ _ _
      ·right;intro k;rw[e8];exact e9 _ _ _
      ·right;intro k;rw[e8];exact e9 _ _ _
     ·exact .inl λk=>⟨48,e6 _ _ _⟩
     ·exact .inl λk=>⟨48,e6 _ _ _⟩
    | _=>exact .inl λ_=>⟨47,rfl⟩
theorem zL(hDr:cK P):ac P (ae 8191) tD:=by
 intro call hC args h
 rcases Gw hC args h with hb|e
 ·exact .inl hb
 ·rcases uy hC hDr args h with hb|⟨v,h1,e1,ok⟩
  ·exact .inl λk=>by rw[e k];exact hb k
  ·exact .inr ⟨v,h1,λk=>by rw[e k];exact e1 k,ok⟩
end Go.Ai
namespace Go.Ai
set_option linter.unusedSectionVars false
variable [Nu]
open Go
variable {P:Program}
noncomputable def kn0(v:AV):Go.Ai.Call→List AV→H→af→aa:=λ_ args h k=>dg args (k v h)
theorem IX{p:ab}{v:AV}(hk:jc P p [] v):ac P p (kn0 v):=by
 intro call _ args h
 cases args with
 | nil=>exact .inr ⟨v,h,λ_=>rfl,hk h⟩
 | cons a t=>exact .inl λ_=>⟨24,rfl⟩
theorem vL{T:Tb}{n:Nat}(hC:aC P (d6 T n)){p:ab}{args:List AV}{v:AV}(ha:args.all AV.plain1=true)(hv:v.plain=true)
  (he:d6 T n p args (.mk .leaf .e) (λv _=>.fin v (.mk .leaf .e)) = .fin v (.mk .leaf .e)):jc P p args v:=by
 rcases hC p args (.mk .leaf .e)with hb|⟨v1,h1,e1,ok⟩
 ·obtain⟨i,hb⟩:=hb λv _=>.fin v (.mk .leaf .e)
  rw[hb]at he;cases he
 ·rw[e1]at he
  cases he
  refine pQ ha hv (λo vs hy=>?_) ok
  subst hy
  simp[AV.plain1,AV.plain0]at ha
end Go.Ai
namespace Go.Ai
set_option linter.unusedSectionVars false
variable [Nu]
open Go Go.ChangeShapes Go.WideShapes
variable {P:Program}
theorem post_of_same{H:Type}{enc:TypeId × Value→H}{f:Func}{s:ChangeSpec}{apart fresh handsOn gl:Bool}{W W':World}{args:Array Value}{v:Value}{ds gs:List (DataW H)}{before pa pv:List MemPlace}
  (hW:DataW.Whole enc P f.params.toList s.vars apart W args.toList ds gs before)
  (hres:∀ (b:Nat) (sp:Nat→Bool) (hd:Bool),DataW.TrodAll enc P W' b sp hd f.resultTypes.toList (v.resultList f.resultTypes.size) (s.fn H (ds++gs)).results [])
  (hargs:∀ sp:Nat→Bool,(∀ p ∈ before,sp p.block=true)→DataW.TrodAll enc P W' 0 sp true f.params.toList args.toList (s.fn H (ds++gs)).args pa)
  (hvars:∀ sp:Nat→Bool,(∀ p ∈ before,sp p.block=true)→DataW.TrodVars enc P W' sp s.vars (s.fn H (ds++gs)).vars pv)
  (hps:before=pa++pv) (hk:W.keptBut W' (· ∈ before)) (hfz:∀ a,a.block<W.heap.size→W'.frozen? a=W.frozen? a)
  (hok:∀ (j:Nat) (t:TypeId) (r:Value),f.resultTypes[j]? = some t→(v.resultList f.resultTypes.size)[j]? = some r→Value.okWide P W' .any 0 t r) :
  s.post enc P f apart fresh handsOn gl W args v W':=by
 have hold:∀ p ∈ before,(λb=>decide (b<W.heap.size)) p.block=true:=λp hp=>by simpa using hW.lt p hp
 have hlt:=hW.lt
 refine⟨ds,gs,before,[],pa,pv,hW,hres _ _ _,hargs _ hold,hvars _ hold,World.keptBut_mono (λp hp=>⟨hp,?_⟩) hk,λ_=>?_⟩
 ·rw[hps,List.mem_append]at hp
  exact Or.inr hp
 ·obtain⟨_,_,_,_,_,hz,hn⟩:=hW
  refine⟨hok,_,_,([]++pa)++pv,⟨[]++pa,pv,trodAll_append (hargs _ (λ_ _=>rfl)) (hres _ _ _),hvars _ (λ_ _=>rfl),rfl,?_,?_⟩,?_⟩
  ·intro b off hp
   have hm:MemPlace.cell b off ∈ before:=by rw[hps];simpa using hp
   rw[hfz _ (hlt _ hm)]
   exact hz b off hm
  ·intro ha
   have:=hn ha
   rw[hps]at this
   simpa using this
  ·intro p hp _
   rw[hps]
   simpa using hp
def zi(W W':World):Prop:=W'.os=W.os∧W'.output=W.output∧∀ b,b<W.heap.size→W'.heap[b]? = W.heap[b]?
theorem zi.kept{W W':World}(h:zi W W')(may:MemPlace→Prop):W.keptBut W' may:=by
 refine⟨h.1,h.2.1,λi hi=>?_⟩
 rw[h.2.2 i hi]
 exact (World.keptBut_refl W may).2.2 i hi
theorem zi.frozen{W W':World}(h:zi W W')(a:Addr)(ha:a.block<W.heap.size):W'.frozen? a=W.frozen? a:=by
 unfold World.frozen?
 rw[h.2.2 _ ha]
theorem calls_true{f:FuncId}{func:Func}(hlt:f<8191)(hf:P.funcs[f]? = some func)(hn:(func.name == "runtime.NumGoroutine")=false)(hb:func.body.isSome=true){A:List Value}{args:List AV}(hk:jc P (ae f) args (.bool true))(hr:Rs (λ_=>⟨0,0,0⟩) (λ_=>.none) args A)(W:World):
  Calls P f A.toArray W λe W'=>e = .returned (.bool true)∧zi W W':=by
 refine (s6 hlt hk hr (λw=>kz hf hn hb)).mono λe W' ⟨V,he,hv,adv⟩=>?_
 simp only[R]at hv
 subst hv
 exact⟨he,adv.os,adv.output,λb hb=>adv.frame b hb λ⟨o,hl,_⟩=>hl⟩
end Go.Ai
namespace Go.Ai
open Go
noncomputable def Lu(l:List (List Nat)):Nat→List Nat:=List.rec (motive:=λ_=>Nat→List Nat) (λ_=>[]) (λa _ ih i=>Nat.rec (motive:=λ_=>List Nat) a (λj _=>ih j) i) l
noncomputable def Vp(adj:Nat→List Nat)(n:Nat):List Nat→Nat→List Nat→List Nat :=
 Nat.rec (motive:=λ_=>List Nat→Nat→List Nat→List Nat) (λ_ _ seen=>seen.reverse)
  (λ_ ih todo m seen=>List.rec (motive:=λ_=>List Nat) seen.reverse (λf t _=>Bool.rec (motive:=λ_=>List Nat) (ih (adj f++t) (Nat.lor m (2^f)) (f::seen)) (ih t m seen) (Nat.testBit m f)) todo) n
theorem Ea:∀ (l:List (List Nat)) (i:Nat),Lu l i=(l[i]?).getD []
 | [],_=>rfl
 | _::_,0=>rfl
 | _::t,i+1=>by
  show Lu t i=((_::t)[i+1]?).getD []
  rw[Ea t i];rfl
theorem DC{P:Program}{adj:Nat→List Nat}(h:∀ g,(P.funcs[g]?).elim [] P.leadsTo=adj g):∀ (n:Nat) (todo:List Nat) (m:Nat) (seen:List Nat),(∀ x,m.testBit x=seen.contains x)→P.closureVia n todo seen=Vp adj n todo m seen
 | 0,todo,m,seen,_=>by cases todo <;> rfl
 | n+1,[],m,seen,_=>rfl
 | n+1,f::t,m,seen,hm=>by
  have e0:Vp adj (n+1) (f::t) m seen=Bool.rec (motive:=λ_=>List Nat) (Vp adj n (adj f++t) (Nat.lor m (2^f)) (f::seen)) (Vp adj n t m seen) (Nat.testBit m f):=rfl
  rw[e0,Program.closureVia,hm f]
  cases hc:seen.contains f with
  | true=>simp only[if_true];exact DC h n t m seen hm
  | false =>
   simp only[Bool.false_eq_true,if_false]
   rw[h f]
   refine DC h n (adj f++t) (Nat.lor m (2^f)) (f::seen) λx=>?_
   have e1:Nat.lor m (2^f)=m ||| 2^f:=rfl
   rw[e1,Nat.testBit_or,hm x,Nat.testBit_two_pow,List.contains_cons]
   by_cases e:f=x
   ·subst e;simp
   ·have e':(x == f)=false:=by simpa using λh=>e h.symm
    simp[e,e']
theorem closure_of{P:Program}{adj:List (List Nat)}(h:P.funcs.toList.map P.leadsTo=adj)(f:FuncId):P.closure f=Vp (Lu adj) (1+(adj.map λl=>l.length+1).sum) [f] 0 []:=by
 have h1:∀ g,(P.funcs[g]?).elim [] P.leadsTo=Lu adj g:=λg=>by
  rw[Ea,← h,List.getElem?_map,← Array.getElem?_toList]
  cases P.funcs.toList[g]? <;> rfl
 have h2:(P.funcs.toList.map λg=>(P.leadsTo g).length+1)=adj.map λl=>l.length+1:=by
  rw[← h,List.map_map];rfl
 unfold Program.closure
 rw[h2]
 exact DC h1 _ _ _ _ λx=>by simp
theorem range_parts(f:Nat→Bool):∀ (l:List Nat) (a:Nat),(l.foldl (λs n=>(s.1+n,s.2&&(List.range' s.1 n).all f)) (a,true)).2=true→(List.range' a l.sum).all f=true:=by
 have key:∀ (l:List Nat) (a:Nat) (b:Bool),(l.foldl (λs n=>(s.1+n,s.2&&(List.range' s.1 n).all f)) (a,b)).2=(b&&(List.range' a l.sum).all f):=by
  intro l
  induction l with
  | nil=>intro a b;simp
  | cons n t ih =>
   intro a b
   rw[List.foldl_cons,ih,List.sum_cons,← List.range'_append_1,List.all_append,Bool.and_assoc]
 intro l a h
 rw[key,Bool.true_and]at h;exact h
theorem Gs{P:Program}(h:P.funcs.toList.any Func.goes=false)(f:FuncId):P.goes f=false:=by
 have h1:∀ fn ∈ P.funcs.toList,Func.goes fn=false:=λfn hf=>by
  cases e:Func.goes fn with
  | false=>rfl
  | true=>exact absurd (List.any_eq_true.2 ⟨fn,hf,e⟩) (by rw[h];decide)
 have h2:((P.closure f).any λg=>(P.funcs[g]?).any Func.goes)=false:=by
  rw[List.any_eq_false]
  intro g _
  cases e:P.funcs[g]? with
  | none=>simp
  | some fn =>
   have hm:fn ∈ P.funcs.toList:=by
    have:=Array.mem_of_getElem? e
    simpa using this
   simp[h1 fn hm]
 have h3:P.funcs.any Func.goes=false:=by rw[← Array.any_toList];exact h
 unfold Program.goes
 rw[h2,h3]
 simp
theorem goesBy_none{P:Program}{c:OpenClaim}(hs:c.start = .entering)(h:P.funcs.toList.any Func.goes=false):false=c.goesBy P:=by
 unfold OpenClaim.goesBy Program.goesAt Program.goesFrom
 rw[hs]
 cases e:P.funcNamed c.func with
 | none=>rfl
 | some f=>simp[Gs h f]
end Go.Ai
namespace Go.Ai
variable {Φ : Type}
def jn(f:(Φ → H→aa) → Φ → H→aa):Nat→(Φ → H→aa) → Φ → H→aa
 | 0,kn=>kn
 | n+1,kn=>f (jn f n kn)
theorem vB(f:(Φ → H→aa) → Φ → H→aa)(kn : Φ → H→aa)(b:Nat):∀ a,jn f (a+b) kn=jn f a (jn f b kn)
 | 0=>by rw[Nat.zero_add];rfl
 | a+1=>by
  rw[Nat.succ_add]
  show f (jn f (a+b) kn)=f (jn f a (jn f b kn))
  rw[vB f kn b a]
theorem gh(f:(Φ → H→aa) → Φ → H→aa):∀ (n:Nat) (kn : Φ → H→aa) (fr : Φ) (h:H),da f n kn fr h=jn f (2^n) kn fr h
 | 0,_,_,_=>rfl
 | n+1,kn,fr,h=>by
  have e:da f (n+1) kn fr h=da f n (da f n kn) fr h:=rfl
  rw[e,gh f n,show (2:Nat)^(n+1)=2^n+2^n by omega,vB f kn]
  congr 1
  funext fr h
  exact gh f n kn fr h
theorem FW(f:(Φ → H→aa) → Φ → H→aa)(st:Nat → Φ × H)(m:Nat)(r:aa)
  (step:∀ i,i<m→∀ kn,f kn (st i).1 (st i).2=kn (st (i+1)).1 (st (i+1)).2)
  (last:∀ kn,f kn (st m).1 (st m).2=r) (kn : Φ → H→aa) :
  ∀ j N,j≤m→m-j<N→jn f N kn (st j).1 (st j).2=r:=by
 intro j N
 induction N generalizing j with
 | zero=>intro _ h;omega
 | succ N ih =>
  intro hj hN
  show f (jn f N kn) (st j).1 (st j).2=r
  by_cases h:j=m
  ·subst h;exact last _
  ·rw[step j (by omega)]
   exact ih (j+1) (by omega) (by omega)
theorem O1(f:(Φ → H→aa) → Φ → H→aa)(st:Nat → Φ × H)(m:Nat)(r:aa)(kn : Φ → H→aa)
  (step:∀ i,i<m→∀ kn,f kn (st i).1 (st i).2=kn (st (i+1)).1 (st (i+1)).2)
  (last:∀ kn,f kn (st m).1 (st m).2=r) (hm:m<1073741824):da f 30 kn (st 0).1 (st 0).2=r:=by
 rw[gh]
 exact FW f st m r step last kn 0 _ (by omega) (by omega)
theorem Fu(f:(Φ → H→aa) → Φ → H→aa)(kE:Nat → Φ → H→Prop)(m:Nat)(r:aa)
  (step:∀ i fr h,i<m→kE i fr h→∃ fr' h',kE (i+1) fr' h'∧∀ kn,f kn fr h=kn fr' h')
  (last:∀ fr h,kE m fr h→∀ kn,f kn fr h=r) (kn : Φ → H→aa) :
  ∀ N j fr h,j≤m→m-j<N→kE j fr h→jn f N kn fr h=r:=by
 intro N
 induction N with
 | zero=>intro j fr h _ h';omega
 | succ N ih =>
  intro j fr h hj hN hi
  show f (jn f N kn) fr h=r
  by_cases e:j=m
  ·subst e;exact last _ _ hi _
  ·obtain⟨fr',h',hi',e'⟩:=step j fr h (by omega) hi
   rw[e']
   exact ih (j+1) fr' h' (by omega) (by omega) hi'
theorem zo(f:(Φ → H→aa) → Φ → H→aa)(kE:Nat → Φ → H→Prop)(m:Nat)(r:aa)(kn : Φ → H→aa)(fr : Φ)(h:H)
  (start:kE 0 fr h)
  (step:∀ i fr h,i<m→kE i fr h→∃ fr' h',kE (i+1) fr' h'∧∀ kn,f kn fr h=kn fr' h')
  (last:∀ fr h,kE m fr h→∀ kn,f kn fr h=r) (hm:m<1073741824):da f 30 kn fr h=r:=by
 rw[gh]
 exact Fu f kE m r step last kn _ 0 fr h (by omega) (by omega) start
end Go.Ai
namespace Go.Ai
set_option linter.unusedSectionVars false
variable [Nu]
variable {h:H}{k:af}
theorem aw(n:Nat)(x:aa):must n true x=x:=rfl
theorem Fl(kd:IntKind):Nat.beq kd.ctorIdx kd.ctorIdx=true:=by cases kd <;> rfl
theorem bA(kd:IntKind)(a b:Nat)(f:IntKind→Int→Int→aa):dA (.int kd (.ofNat a)) (.int kd (.ofNat b)) f=f kd (.ofNat a) (.ofNat b):=by
 show must 12 (Nat.beq kd.ctorIdx kd.ctorIdx) _=_
 rw[Fl,aw]
theorem WV{kd:IntKind}{a b:Nat}(hr:a+b<IntKind.lim kd):yA (.int kd (.ofNat a)) (.int kd (.ofNat b)) h k=k (.int kd (.ofNat (a+b))) h:=by
 unfold yA
 rw[bA]
 show ifC (Nat.blt (a+b) (IntKind.lim kd)) (forceN (a+b) λq=>k (.int kd (.ofNat q)) h) _=_
 rw[az,decide_eq_true hr,a7,ao]
theorem Wx{kd:IntKind}{a b:Nat}(hb:b≤a)(hr:a<IntKind.lim kd):yD (.int kd (.ofNat a)) (.int kd (.ofNat b)) h k=k (.int kd (.ofNat (a-b))) h:=by
 unfold yD
 rw[bA]
 show ifC (Nat.ble b a) (ifC (Nat.blt (a-b) (IntKind.lim kd)) (forceN (a-b) λq=>k (.int kd (.ofNat q)) h) _) _=_
 rw[show Nat.ble b a=true from Nat.ble_eq.mpr hb,a7,az,decide_eq_true (by omega:a-b<IntKind.lim kd),a7,ao]
theorem sj{kd:IntKind}{a:Nat}(hr:a<IntKind.lim kd)(f:Int→aa):wrapC kd (.ofNat a) f=f (.ofNat a):=by
 show ifC (Nat.blt a (IntKind.lim kd)) (forceN a λm=>f (.ofNat m)) _=_
 rw[az,decide_eq_true hr,a7,ao]
theorem TG{kd:IntKind}{a b:Nat}(hr:a*b<IntKind.lim kd):yM (.int kd (.ofNat a)) (.int kd (.ofNat b)) h k=k (.int kd (.ofNat (a*b))) h:=by
 unfold yM
 rw[bA]
 show wrapC kd (.ofNat (a*b)) _=_
 rw[sj hr]
theorem Pf{kd:IntKind}{a b:Nat}:ct (.int kd (.ofNat a)) (.int kd (.ofNat b)) h k=k (.bool (decide (a<b))) h:=by
 unfold ct
 rw[bA]
 show cO (Nat.blt a b) _=_
 rw[az]
 cases decide (a<b) <;> rfl
theorem Ts(s:List Nat):tn (.str s) h k=k (.int .i64 (.ofNat (aW s))) h:=by
 show forceN (aW s) (λn=>k (.int .i64 (.ofNat n)) h)=_
 rw[ao]
theorem Wu{kd:IntKind}{o:ab}{i n j size:Nat}{c:gQ}(hj:j<n):yI size (.slc o i n c) (.int kd (.ofNat j)) h k=k (.ptr o (i+j*size)) h:=by
 show must 12 (Nat.blt j n) (forceN (i+j*size) λi=>k (.ptr o i) h)=_
 rw[az,decide_eq_true hj,aw,ao]
theorem Y7{o:ab}{i:Nat}:yL (.ptr o i) h k=cellsOf o h λcs _=>nthC cs i λv=>k v h:=by
 show bD o h _=_
 rw[aJ]
 congr 1
 funext cs es
 exact bI cs i _
theorem Uv{kd:IntKind}{a b:Nat}(hb:0<b)(ha:a<IntKind.lim kd):yQ (.int kd (.ofNat a)) (.int kd (.ofNat b)) h k=k (.int kd (.ofNat (a/b))) h:=by
 unfold yQ
 rw[bA]
 show ifC (Nat.beq b 0) (.bad 15) (wrapC kd (.ofNat (a/b)) λn=>k (.int kd n) h)=_
 rw[show Nat.beq b 0=false from by cases b with | zero=>omega | succ n=>rfl,a5,sj (Nat.lt_of_le_of_lt (Nat.div_le_self a b) ha)]
theorem VP{kd:IntKind}{a b:Nat}(hb:0<b):yR (.int kd (.ofNat a)) (.int kd (.ofNat b)) h k=k (.int kd (.ofNat (a%b))) h:=by
 unfold yR
 rw[bA]
 show ifC (Nat.beq b 0) (.bad 15) (forceI (.ofNat (a%b)) λn=>k (.int kd n) h)=_
 rw[show Nat.beq b 0=false from by cases b with | zero=>omega | succ n=>rfl,a5,iE]
theorem Tf{kd:IntKind}{a b:Nat}(ha:a<IntKind.lim kd)(hb:b<IntKind.lim kd):Ou (.int kd (.ofNat a)) (.int kd (.ofNat b)) h k=k (.int kd (.ofNat (Nat.lor a b))) h:=by
 unfold Ou
 rw[bA]
 show must 12 (Nat.blt a (IntKind.lim kd)) (must 12 (Nat.blt b (IntKind.lim kd)) (forceN (Nat.lor a b) λn=>k (.int kd (.ofNat n)) h))=_
 rw[az,az,decide_eq_true ha,decide_eq_true hb,aw,aw,ao]
theorem OJ{kd kd':IntKind}{a:Nat}(ha:a<IntKind.lim kd'):uQ kd' (.int kd (.ofNat a)) h k=k (.int kd' (.ofNat a)) h:=by
 show wrapC kd' (.ofNat a) _=_
 rw[sj ha]
theorem afH{kd kd':IntKind}{a b:Nat}(hr:a*2^i6 b (IntKind.bitsK kd)<IntKind.lim kd):Ez (.int kd (.ofNat a)) (.int kd' (.ofNat b)) h k=k (.int kd (.ofNat (a*2^i6 b (IntKind.bitsK kd)))) h:=by
 show wrapC kd (.ofNat (a*2^i6 b (IntKind.bitsK kd))) _=_
 rw[sj hr]
theorem Xb{kd kd':IntKind}{a b:Nat}:sC (.int kd (.ofNat a)) (.int kd' (.ofNat b)) h k=k (.int kd (.ofNat (a/2^i6 b (IntKind.bitsK kd)))) h:=by
 show forceN (a/2^i6 b (IntKind.bitsK kd)) (λn=>k (.int kd (.ofNat n)) h)=_
 rw[ao]
theorem aak{o:ab}{i m:Nat}{kd:IntKind}:yS 1 (.ptr o i) (.int kd (.ofNat m)) h k=cellsOf o h λcs es=>lput [.int kd (.ofNat m)] cs i λcs=>k .undef (setObj o (.cells cs es) h):=by
 show bD o h (λcs es=>must 12 (Nat.beq 1 1) (DS (.int kd (.ofNat m)) cs i λcs=>dY o (.cells cs es) h λh=>k .undef h))=_
 rw[aJ]
 congr 1
 funext cs es
 show DS (.int kd (.ofNat m)) cs i (λcs=>dY o (.cells cs es) h λh=>k .undef h)=_
 rw[zv]
 congr 1
 funext cs
 exact aV _ _ _ _
end Go.Ai
namespace Go.Ai
set_option linter.unusedSectionVars false
variable [Nu]
open Go
variable {P:Program}{Φ : Type}
noncomputable def lzy(P:Program)(func:Func)(rep:Ha Φ)(S:List Nat):Go.Ai.Call→List AV→H→af→aa:=Option.rec (motive:=λ_=>Go.Ai.Call→List AV→H→af→aa) (λ_ _ _ _=>.bad 80) (λq=>A2 rep (S.map ae) q) (fn P func)
noncomputable def ZH(P:Program)(func:Func):Go.Ai.Call→List AV→H→af→aa:=Option.rec (motive:=λ_=>Go.Ai.Call→List AV→H→af→aa) (λ_ _ _ _=>.bad 80) (λq=>tC q) (fn P func)
theorem KR{f:FuncId}{func:Func}{rep:Ha Φ}(S:List Nat)(hr:ll rep)(hDr:cK P)(hlt:f<8191)(hf:P.funcs[f]? = some func)(hn:(func.name == "runtime.NumGoroutine")=false):ac P (ae f) (lzy P func rep S):=by
 unfold lzy
 cases h:fn P func with
 | none=>exact λ_ _ _ _=>.inl λ_=>⟨80,rfl⟩
 | some q=>exact ag (S:=S.map ae) hr hDr hlt hf hn (by rw[h];rfl)
theorem I1{f:FuncId}{func:Func}(hDr:cK P)(hlt:f<8191)(hf:P.funcs[f]? = some func)(hn:(func.name == "runtime.NumGoroutine")=false):ac P (ae f) (ZH P func):=by
 unfold ZH
 cases h:fn P func with
 | none=>exact λ_ _ _ _=>.inl λ_=>⟨80,rfl⟩
 | some q=>exact GA hDr hlt hf hn (by rw[h];rfl)
noncomputable def To(P:Program)(rep:Ha Φ)(func:Func)(S:List Nat):Go.Ai.Call→List AV→H→af→aa:=Bool.rec (motive:=λ_=>Go.Ai.Call→List AV→H→af→aa) (lzy P func rep S) (λ_ _ _ _=>.bad 83) (func.name == "runtime.NumGoroutine")
noncomputable def lkf(P:Program)(func:Func):Go.Ai.Call→List AV→H→af→aa:=Bool.rec (motive:=λ_=>Go.Ai.Call→List AV→H→af→aa) (ZH P func) (λ_ _ _ _=>.bad 83) (func.name == "runtime.NumGoroutine")
theorem zO{p:ab}(n:Nat):ac P p λ_ _ _ _=>.bad n:=λ_ _ _ _=>.inl λ_=>⟨n,rfl⟩
theorem few{f:FuncId}{func:Func}(hz:P.funcs.size≤8191)(hf:P.funcs[f]? = some func):f<8191:=Nat.lt_of_lt_of_le (Array.getElem?_eq_some_iff.1 hf).1 hz
theorem t9{rep:Ha Φ}(hr:ll rep)(hDr:cK P)(hz:P.funcs.size≤8191){f:FuncId}{func:Func}(hf:P.funcs[f]? = some func)(S:List Nat):ac P (ae f) (To P rep func S):=by
 unfold To
 cases hn:func.name == "runtime.NumGoroutine" with
 | true=>exact zO 83
 | false=>exact KR S hr hDr (few hz hf) hf hn
theorem JV(hDr:cK P)(hz:P.funcs.size≤8191){f:FuncId}{func:Func}(hf:P.funcs[f]? = some func):ac P (ae f) (lkf P func):=by
 unfold lkf
 cases hn:func.name == "runtime.NumGoroutine" with
 | true=>exact zO 83
 | false=>exact I1 hDr (few hz hf) hf hn
end Go.Ai
namespace Go.Ai
open Go
noncomputable section
def Xr(v:AV)(r:aa):aa:=AV.rec (motive_1:=λ_=>aa) (motive_2:=λ_=>PUnit) (.bad 62) (r) (r) (r) (r) (r) (λ_=>.bad 62) (λ_ _=>.bad 62) (λ_ _ _=>.bad 62) (λ_ _ _ _ _=>.bad 62) (λ_=>.bad 62) (λ_ _=>.bad 62) (λ_ _=>.bad 62) (λ_=>r) (λ_ _ _ _=>.bad 62) (λ_=>r) (λ_ _=>.bad 62) (λ_ _=>r) (λ_=>.bad 62) (λ_=>r) PUnit.unit (λ_ _ _ _=>PUnit.unit) v
def oq(l:List AV)(r:aa):aa:=List.rec (motive:=λ_=>aa) r (λa _ ih=>Xr a ih) l
def Ld(v:AV)(r:aa):aa:=AV.rec (motive_1:=λ_=>aa) (motive_2:=λ_=>PUnit) (.bad 62) (r) (r) (r) (r) (r) (λ_=>.bad 62) (λ_ _=>.bad 62) (λ_ _ _=>.bad 62) (λ_ _ _ _ _=>.bad 62) (λ_=>.bad 62) (λ_ _=>.bad 62) (λcs _=>oq cs r) (λ_=>r) (λ_ _ _ _=>.bad 62) (λ_=>r) (λ_ _=>.bad 62) (λ_ _=>r) (λ_=>.bad 62) (λ_=>r) PUnit.unit (λ_ _ _ _=>PUnit.unit) v
def qG(l:List AV)(r:aa):aa:=List.rec (motive:=λ_=>aa) r (λa _ ih=>Ld a ih) l
def YU(v:AV)(r:aa):aa:=AV.rec (motive_1:=λ_=>aa) (motive_2:=λ_=>PUnit) (.bad 62) (r) (r) (r) (r) (r) (λ_=>.bad 62) (λ_ _=>.bad 62) (λ_ _ _=>.bad 62) (λ_ _ _ _ _=>.bad 62) (λ_=>.bad 62) (λvs _=>qG vs r) (λcs _=>oq cs r) (λ_=>r) (λ_ _ _ _=>.bad 62) (λ_=>r) (λ_ _=>.bad 62) (λ_ _=>r) (λ_=>.bad 62) (λ_=>r) PUnit.unit (λ_ _ _ _=>PUnit.unit) v
def kp(s:Go.Ai.Call→List AV→H→af→aa):Go.Ai.Call→List AV→H→af→aa:=λcall args h k=>qG args (s call args (.mk .leaf .e) λv _=>YU v (k v h))
end
theorem SC(v:AV):(∀ r,bq (Xr v r))∨(v.plain0=true∧∀ r,Xr v r=r):=by
 cases v <;> first | exact .inr ⟨rfl,λ_=>rfl⟩ | exact .inl λ_=>⟨62,rfl⟩
theorem xX:∀ l:List AV,(∀ r,bq (oq l r))∨(l.all AV.plain0=true∧∀ r,oq l r=r)
 | []=>.inr ⟨rfl,λ_=>rfl⟩
 | a::t=>by
  have e0:∀ r,oq (a::t) r=Xr a (oq t r):=λ_=>rfl
  simp only[e0]
  rcases SC a with hb|⟨h1,e1⟩
  ·exact .inl λ_=>hb _
  simp only[e1]
  rcases xX t with hb|⟨h2,e2⟩
  ·exact .inl λ_=>hb _
  exact .inr ⟨by simp[h1,h2],λr=>e2 r⟩
theorem zl(v:AV):(∀ r,bq (Ld v r))∨(v.plain1=true∧∀ r,Ld v r=r):=by
 cases v with
 | agg cs =>
  rcases xX cs with hb|⟨h1,e1⟩
  ·exact .inl λr=>hb _
  ·exact .inr ⟨h1,λr=>e1 _⟩
 | _=>first | exact .inr ⟨rfl,λ_=>rfl⟩ | exact .inl λ_=>⟨62,rfl⟩
theorem sV:∀ l:List AV,(∀ r,bq (qG l r))∨(l.all AV.plain1=true∧∀ r,qG l r=r)
 | []=>.inr ⟨rfl,λ_=>rfl⟩
 | a::t=>by
  have e0:∀ r,qG (a::t) r=Ld a (qG t r):=λ_=>rfl
  simp only[e0]
  rcases zl a with hb|⟨h1,e1⟩
  ·exact .inl λ_=>hb _
  simp only[e1]
  rcases sV t with hb|⟨h2,e2⟩
  ·exact .inl λ_=>hb _
  exact .inr ⟨by simp[h1,h2],λr=>e2 r⟩
theorem VQ(v:AV):(∀ r,bq (YU v r))∨(v.plain=true∧∀ r,YU v r=r):=by
 cases v with
 | tup vs =>
  rcases sV vs with hb|⟨h1,e1⟩
  ·exact .inl λr=>hb _
  ·exact .inr ⟨h1,λr=>e1 _⟩
 | agg cs=>exact zl (.agg cs)
 | _=>first | exact .inr ⟨rfl,λ_=>rfl⟩ | exact .inl λ_=>⟨62,rfl⟩
variable [Nu]{P:Program}
theorem aY{p:ab}{s:Go.Ai.Call→List AV→H→af→aa}(hs:ac P p s):ac P p (kp s):=by
 intro call hC args h
 have e0:∀ k,kp s call args h k=qG args (s call args (.mk .leaf .e) λv _=>YU v (k v h)):=λ_=>rfl
 simp only[an,e0]
 rcases sV args with hb|⟨ha,e1⟩
 ·exact .inl λ_=>hb _
 simp only[e1]
 rcases hs call hC args (.mk .leaf .e)with hb|⟨v,h',e2,ok⟩
 ·exact .inl λ_=>hb _
 simp only[e2]
 rcases VQ v with hb|⟨hv,e3⟩
 ·exact .inl λ_=>hb _
 refine .inr ⟨v,h,λk=>e3 _,?_⟩
 exact pQ (h':=h') ha hv (λo vs hy=>by subst hy;simp[AV.plain1,AV.plain0]at ha) ok h
end Go.Ai
