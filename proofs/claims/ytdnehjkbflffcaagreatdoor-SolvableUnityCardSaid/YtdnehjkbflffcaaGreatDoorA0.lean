/- An abstract interpreter for the model's code: the data, the heap, the operations, the runs. From the model's code to the abstract interpreter's code. -/
import GoSem.Dispatch
set_option linter.unusedVariables false
set_option autoImplicit false
namespace Go.Ai
inductive ab | e | l (p:ab) | r (p:ab)
 deriving DecidableEq
inductive gQ | exact (c:Nat) | opn (d:Nat)
 deriving DecidableEq
inductive AV
 | undef
 | nilp
 | nils
 | nilm
 | nilf
 | nili
 | yld (o:ab)
 | sle (o:ab) (i:Nat)
 | ifc (t:Nat) (v:AV)
 | fn (f:Nat) (a c:List AV)
 | map (o:ab)
 | tup (vs:List AV)
 | agg (cs:List AV)
 | str (s:List Nat)
 | slc (o:ab) (i n:Nat) (c:gQ)
 | bool (b:Bool)
 | ptr (o:ab) (i:Nat)
 | int (k:IntKind) (n:Int)
 | ub (c:Nat)
 | bs (n:Nat)
 deriving Inhabited
noncomputable def CH(k:Nat):Nat→List Nat→List Nat :=
 Nat.rec (motive:=λ_=>Nat→List Nat→List Nat) (λ_ acc=>acc) (λ_ ih N acc=>Bool.rec (motive:=λ_=>List Nat) (ih (Nat.div N 256) (Nat.mod N 256::acc)) acc (Nat.beq N 0)) k
noncomputable def lB(n:Nat):List Nat:=CH n n []
inductive wU | leaf | node (l:wU) (v:AV) (r:wU)
structure Nd (α : Type) where
 l : α
 v:AV
 r : α
abbrev N1:=Nd wU
abbrev N2:=Nd N1
abbrev N3:=Nd N2
abbrev N4:=Nd N3
abbrev N5:=Nd N4
structure FT where
 l:N5
 v:AV
 r:N5
noncomputable def Ee(p:ab):wU→AV :=
 ab.rec (motive:=λ_=>wU→AV) (wU.rec (motive:=λ_=>AV) .undef (λ_ v _ _ _=>v)) (λ_ ih=>wU.rec (motive:=λ_=>AV) .undef (λl _ _ _ _=>ih l)) (λ_ ih=>wU.rec (motive:=λ_=>AV) .undef (λ_ _ r _ _=>ih r)) p
noncomputable def ON(v:AV)(p:ab):wU→wU :=
 ab.rec (motive:=λ_=>wU→wU) (wU.rec (motive:=λ_=>wU) (.node .leaf v .leaf) (λl _ r _ _=>.node l v r)) (λ_ ih=>wU.rec (motive:=λ_=>wU) (.node (ih .leaf) .undef .leaf) (λl x r _ _=>.node (ih l) x r)) (λ_ ih=>wU.rec (motive:=λ_=>wU) (.node .leaf .undef (ih .leaf)) (λl x r _ _=>.node l x (ih r))) p
noncomputable def BX{α : Type}(sub:ab → α → AV)(p:ab)(x:Nd α):AV:=ab.rec (motive:=λ_=>AV) x.v (λq _=>sub q x.l) (λq _=>sub q x.r) p
noncomputable def Gk{α : Type}(sub:AV→ab → α → α)(v:AV)(p:ab)(x:Nd α):Nd α:=ab.rec (motive:=λ_=>Nd α) ⟨x.l,v,x.r⟩ (λq _=>⟨sub v q x.l,x.v,x.r⟩) (λq _=>⟨x.l,x.v,sub v q x.r⟩) p
noncomputable def Un:ab→N1→AV:=BX Ee
noncomputable def Tq:ab→N2→AV:=BX Un
noncomputable def Uz:ab→N3→AV:=BX Tq
noncomputable def Ti:ab→N4→AV:=BX Uz
noncomputable def Jo:ab→N5→AV:=BX Ti
noncomputable def WK:AV→ab→N1→N1:=Gk ON
noncomputable def Ws:AV→ab→N2→N2:=Gk WK
noncomputable def UC:AV→ab→N3→N3:=Gk Ws
noncomputable def WM:AV→ab→N4→N4:=Gk UC
noncomputable def JX:AV→ab→N5→N5:=Gk WM
noncomputable def b6(p:ab)(x:FT):AV:=ab.rec (motive:=λ_=>AV) x.v (λq _=>Jo q x.l) (λq _=>Jo q x.r) p
noncomputable def kh(v:AV)(p:ab)(x:FT):FT:=ab.rec (motive:=λ_=>FT) ⟨x.l,v,x.r⟩ (λq _=>⟨JX v q x.l,x.v,x.r⟩) (λq _=>⟨x.l,x.v,JX v q x.r⟩) p
def nl{α : Type}(x : α):Nd α:=⟨x,.undef,x⟩
def FT.leaf:FT:=⟨nl (nl (nl (nl (nl .leaf)))),.undef,nl (nl (nl (nl (nl .leaf))))⟩
structure Tm where
 p:ab
 get:FT→AV
 set:AV→FT→FT
 okg:∀ fr,get fr=b6 p fr
 oks:∀ v fr,set v fr=kh v p fr
inductive a6 | tmp (x:Tm) | const (v:AV)
inductive mi | no | it (x:a6)
inductive D | no | to (x:Tm)
inductive G | no | on (x:Tm) (want:Bool)
structure iC where
 off:Nat
 size:Nat
 x:a6
inductive O
 | mov (x:a6)
 | pick (c a b:a6)
 | alloc (es:Nat) (zero:List AV)
 | box (x:a6)
 | build (zero:List AV) (parts:List iC)
 | buildSlice (len:Nat) (cells:List AV) (parts:List iC)
 | loadS (x:a6)
 | loadA (n:Nat) (x:a6)
 | store (n:Nat) (x v:a6)
 | nilCheck (x:a6)
 | iadd (x y:a6) | isub (x y:a6) | imul (x y:a6) | iquo (x y:a6) | irem (x y:a6)
 | iand (x y:a6) | ior (x y:a6) | ishl (x y:a6) | ishr (x y:a6)
 | cmp (neg swap:Bool) (x y:a6)
 | ieq (neg:Bool) (x y:a6)
 | sadd (x y:a6) | seq (neg:Bool) (x y:a6) | slt (x y:a6)
 | eqv (neg agg:Bool) (ks:List Nat) (x y:a6)
 | isnil (kind:Nat) (neg:Bool) (x:a6)
 | not (x:a6) | neg (x:a6)
 | convI (k:IntKind) (x:a6)
 | b2s (x:a6) | s2b (es:Nat) (x:a6)
 | mkSlice (size bytes:Nat) (zero:List AV) (len cap:a6)
 | sliceStr (x:a6) (lo hi:mi)
 | sliceSlc (size:Nat) (x:a6) (lo hi mx:mi)
 | sliceArr (n size:Nat) (x:a6) (lo hi:mi)
 | faddr (off:Nat) (x:a6)
 | field (off size:Nat) (agg:Bool) (x:a6)
 | iaddrS (size:Nat) (x i:a6)
 | iaddrA (len size:Nat) (x i:a6)
 | indexStr (x i:a6)
 | indexArr (len size:Nat) (agg:Bool) (x i:a6)
 | lookup (str:Bool) (zero:AV) (commaOk:Bool) (x key:a6)
 | mapUpd (str:Bool) (m key v:a6)
 | mkMap
 | mkFunc (f:Nat) (a c:List a6)
 | extract (i:Nat) (x:a6)
 | call (f:ab) (args:List a6)
 | callv (f:a6) (args:List a6)
 | len (x:a6) | lenStr (x:a6) | lenMap (x:a6) | lenC (n:Nat)
 | append (size bytes es:Nat) (x y:a6)
 | copy (size:Nat) (x y:a6)
 | imax (x y:a6) | imin (x y:a6)
 | ubs (es:Nat) (p n:a6)
 | clear (zero:List AV) (x:a6)
 | rangeE (x:a6) | nextE (x:a6)
 | sdata (x:a6) | p2u (x:a6) | u2p (es size:Nat) (x:a6) | peq (neg:Bool) (x y:a6) | capS (x:a6)
inductive L
 | nil
 | op (dst:D) (g:G) (o:O) (rest:L)
 | dop (dst:D) (g:G) (o:O) (back:Nat) (eff al:Bool) (rest:L)
inductive C
 | skip
 | reg (l:L)
 | seq (a b:C)
 | cond (c:a6) (a b:C)
 | block (id:Nat) (b:C)
 | loop (b:C)
 | exit (id:Nat)
 | ret
 | no (why:Nat)
 | rangeF (f:a6) (params:List ab) (assign body:C)
inductive RV | tmp (p:ab) | cell (p:ab) | agg (p:ab) (n:Nat)
inductive gk | no | ret | exit (id:Nat)
structure pV where
 key:AV
 val:AV
 born:Nat
inductive Obj
 | none
 | cells (cs:List AV) (es:Nat)
 | map (es:List pV) (clock:Nat)
 | dead
 | loop (st:Nat) (pend:gk) (fr:FT) (params:List ab) (assign body:C)
inductive HT | leaf | node (l:HT) (v:Obj) (r:HT)
inductive H | mk (t:HT) (next:ab)
inductive aa
 | nrm (fr:FT) (h:H)
 | ext (id:Nat) (fr:FT) (h:H)
 | ret (fr:FT) (h:H)
 | fin (v:AV) (h:H)
 | bad (why:Nat)
noncomputable def ax(p:ab):HT→Obj :=
 ab.rec (motive:=λ_=>HT→Obj) (HT.rec (motive:=λ_=>Obj) .none (λ_ v _ _ _=>v)) (λ_ ih=>HT.rec (motive:=λ_=>Obj) .none (λl _ _ _ _=>ih l)) (λ_ ih=>HT.rec (motive:=λ_=>Obj) .none (λ_ _ r _ _=>ih r)) p
noncomputable def aX(v:Obj)(p:ab):HT→HT :=
 ab.rec (motive:=λ_=>HT→HT) (HT.rec (motive:=λ_=>HT) (.node .leaf v .leaf) (λl _ r _ _=>.node l v r)) (λ_ ih=>HT.rec (motive:=λ_=>HT) (.node (ih .leaf) .none .leaf) (λl x r _ _=>.node (ih l) x r)) (λ_ ih=>HT.rec (motive:=λ_=>HT) (.node .leaf .none (ih .leaf)) (λl x r _ _=>.node l x (ih r))) p
noncomputable def ab.inc(p:ab):ab:=ab.rec (motive:=λ_=>ab) (.l .e) (λp _=>.r p) (λ_ ih=>.l ih) p
noncomputable def ab.beq(p:ab):ab→Bool :=
 ab.rec (motive:=λ_=>ab→Bool) (λq=>ab.rec (motive:=λ_=>Bool) true (λ_ _=>false) (λ_ _=>false) q) (λ_ ih q=>ab.rec (motive:=λ_=>Bool) false (λa0' _=>(ih) a0') (λ_ _=>false) q) (λ_ ih q=>ab.rec (motive:=λ_=>Bool) false (λ_ _=>false) (λa0' _=>(ih) a0') q) p
noncomputable def agL(b:Bool)(x y:aa):aa:=Bool.rec (motive:=λ_=>aa) y x b
noncomputable def forceN(n:Nat)(k:Nat→aa):aa:=Nat.rec (motive:=λ_=>aa) (k 0) (λm _=>k (Nat.succ m)) n
noncomputable def forceI(n:Int)(k:Int→aa):aa:=Int.rec (motive:=λ_=>aa) (λm=>forceN m λm=>k (.ofNat m)) (λm=>forceN m λm=>k (.negSucc m)) n
noncomputable def sw(a b:Int):Bool:=Int.rec (motive:=λ_=>Bool) (λm=>Int.rec (motive:=λ_=>Bool) (λn=>Nat.blt m n) (λ_=>false) b) (λm=>Int.rec (motive:=λ_=>Bool) (λ_=>true) (λn=>Nat.blt n m) b) a
noncomputable def ieq(a b:Int):Bool:=Int.rec (motive:=λ_=>Bool) (λm=>Int.rec (motive:=λ_=>Bool) (λn=>Nat.beq m n) (λ_=>false) b) (λm=>Int.rec (motive:=λ_=>Bool) (λ_=>false) (λn=>Nat.beq m n) b) a
noncomputable def natOf(a:Int)(k:Nat→aa):aa:=Int.rec (motive:=λ_=>aa) k (λ_=>.bad 1) a
noncomputable def Hp{α : Type}(l:List α):Nat→Option α :=
 List.rec (motive:=λ_=>Nat→Option α) (λ_=>none) (λa _ ih i=>Nat.rec (motive:=λ_=>Option α) (some a) (λa0' _=>(ih) a0') i) l
noncomputable def oM{α : Type}(v : α)(l:List α):Nat→List α :=
 List.rec (motive:=λ_=>Nat→List α) (λ_=>[]) (λa t ih i=>Nat.rec (motive:=λ_=>List α) (v::t) (λj _=>a::ih j) i) l
noncomputable def TX{α : Type}(l:List α):Nat→List α :=
 List.rec (motive:=λ_=>Nat→List α) (λ_=>[]) (λa t ih i=>Nat.rec (motive:=λ_=>List α) (a::t) (λa0' _=>(ih) a0') i) l
noncomputable def ltake{α : Type}(n:Nat):List α → (List α → aa)→aa :=
 Nat.rec (motive:=λ_=>List α → (List α → aa)→aa) (λ_ k=>k []) (λ_ ih l k=>List.rec (motive:=λ_=>aa) (.bad 2) (λa t _=>ih t λt'=>k (a::t')) l) n
noncomputable def cZ{α : Type}(l m:List α):List α:=List.rec (motive:=λ_=>List α) m (λa _ ih=>a::ih) l
noncomputable def aW{α : Type}(l:List α):Nat:=List.rec (motive:=λ_=>Nat) 0 (λ_ _ ih=>Nat.succ ih) l
noncomputable def eQ{α : Type}(z:List α)(n:Nat):List α:=Nat.rec (motive:=λ_=>List α) [] (λ_ ih=>cZ z ih) n
noncomputable def lput(v:List AV):List AV→Nat→(List AV→aa)→aa :=
 List.rec (motive:=λ_=>List AV→Nat→(List AV→aa)→aa) (λl _ k=>k l) (λa _ ih l i k=>Option.rec (motive:=λ_=>aa) (.bad 3) (λ_=>ih (oM a l i) (Nat.succ i) k) (Hp l i)) v
noncomputable def Dc(l:List Nat):List Nat→Bool :=
 List.rec (motive:=λ_=>List Nat→Bool) (λm=>List.rec (motive:=λ_=>Bool) true (λ_ _ _=>false) m) (λa _ ih m=>List.rec (motive:=λ_=>Bool) false (λb u _=>Bool.rec (motive:=λ_=>Bool) false (ih u) (Nat.beq a b)) m) l
noncomputable def slt(l:List Nat):List Nat→Bool :=
 List.rec (motive:=λ_=>List Nat→Bool) (λm=>List.rec (motive:=λ_=>Bool) false (λ_ _ _=>true) m) (λa _ ih m=>List.rec (motive:=λ_=>Bool) false (λb u _=>Bool.rec (motive:=λ_=>Bool) (Bool.rec (motive:=λ_=>Bool) false (ih u) (Nat.beq a b)) true (Nat.blt a b)) m) l
noncomputable def AV.onBool(v:AV)(kk:Bool→aa):aa:=AV.rec (motive_1:=λ_=>aa) (motive_2:=λ_=>PUnit) ((aa.bad 115)) ((aa.bad 115)) ((aa.bad 115)) ((aa.bad 115)) ((aa.bad 115)) ((aa.bad 115)) (λ_=>(aa.bad 115)) (λ_ _=>(aa.bad 115)) (λ_ _ _=>(aa.bad 115)) (λ_ _ _ _ _=>(aa.bad 115)) (λ_=>(aa.bad 115)) (λ_ _=>(aa.bad 115)) (λ_ _=>(aa.bad 115)) (λ_=>(aa.bad 115)) (λ_ _ _ _=>(aa.bad 115)) (λb=>kk b) (λ_ _=>(aa.bad 115)) (λ_ _=>(aa.bad 115)) (λ_=>(aa.bad 115)) (λ_=>(aa.bad 115)) PUnit.unit (λ_ _ _ _=>PUnit.unit) v
noncomputable def AV.onInt(v:AV)(kk:IntKind→Int→aa):aa:=AV.rec (motive_1:=λ_=>aa) (motive_2:=λ_=>PUnit) ((aa.bad 117)) ((aa.bad 117)) ((aa.bad 117)) ((aa.bad 117)) ((aa.bad 117)) ((aa.bad 117)) (λ_=>(aa.bad 117)) (λ_ _=>(aa.bad 117)) (λ_ _ _=>(aa.bad 117)) (λ_ _ _ _ _=>(aa.bad 117)) (λ_=>(aa.bad 117)) (λ_ _=>(aa.bad 117)) (λ_ _=>(aa.bad 117)) (λ_=>(aa.bad 117)) (λ_ _ _ _=>(aa.bad 117)) (λ_=>(aa.bad 117)) (λ_ _=>(aa.bad 117)) (λk n=>kk k n) (λ_=>(aa.bad 117)) (λ_=>(aa.bad 117)) PUnit.unit (λ_ _ _ _=>PUnit.unit) v
noncomputable def AV.onIntU(v:AV)(kk:IntKind→Int→aa)(ku:Nat→aa):aa:=AV.rec (motive_1:=λ_=>aa) (motive_2:=λ_=>PUnit) ((aa.bad 117)) ((aa.bad 117)) ((aa.bad 117)) ((aa.bad 117)) ((aa.bad 117)) ((aa.bad 117)) (λ_=>(aa.bad 117)) (λ_ _=>(aa.bad 117)) (λ_ _ _=>(aa.bad 117)) (λ_ _ _ _ _=>(aa.bad 117)) (λ_=>(aa.bad 117)) (λ_ _=>(aa.bad 117)) (λ_ _=>(aa.bad 117)) (λ_=>(aa.bad 117)) (λ_ _ _ _=>(aa.bad 117)) (λ_=>(aa.bad 117)) (λ_ _=>(aa.bad 117)) (λk n=>kk k n) (λc=>ku c) (λ_=>(aa.bad 117)) PUnit.unit (λ_ _ _ _=>PUnit.unit) v
noncomputable def AV.onStr(v:AV)(kk:List Nat→aa):aa:=AV.rec (motive_1:=λ_=>aa) (motive_2:=λ_=>PUnit) ((aa.bad 113)) ((aa.bad 113)) ((aa.bad 113)) ((aa.bad 113)) ((aa.bad 113)) ((aa.bad 113)) (λ_=>(aa.bad 113)) (λ_ _=>(aa.bad 113)) (λ_ _ _=>(aa.bad 113)) (λ_ _ _ _ _=>(aa.bad 113)) (λ_=>(aa.bad 113)) (λ_ _=>(aa.bad 113)) (λ_ _=>(aa.bad 113)) (λs=>kk s) (λ_ _ _ _=>(aa.bad 113)) (λ_=>(aa.bad 113)) (λ_ _=>(aa.bad 113)) (λ_ _=>(aa.bad 113)) (λ_=>(aa.bad 113)) (λn=>kk (lB n)) PUnit.unit (λ_ _ _ _=>PUnit.unit) v
noncomputable def AV.onSB(v:AV)(kn:Nat→aa)(ks:List Nat→aa):aa:=AV.rec (motive_1:=λ_=>aa) (motive_2:=λ_=>PUnit) ((aa.bad 113)) ((aa.bad 113)) ((aa.bad 113)) ((aa.bad 113)) ((aa.bad 113)) ((aa.bad 113)) (λ_=>(aa.bad 113)) (λ_ _=>(aa.bad 113)) (λ_ _ _=>(aa.bad 113)) (λ_ _ _ _ _=>(aa.bad 113)) (λ_=>(aa.bad 113)) (λ_ _=>(aa.bad 113)) (λ_ _=>(aa.bad 113)) (λs=>ks s) (λ_ _ _ _=>(aa.bad 113)) (λ_=>(aa.bad 113)) (λ_ _=>(aa.bad 113)) (λ_ _=>(aa.bad 113)) (λ_=>(aa.bad 113)) (λn=>kn n) PUnit.unit (λ_ _ _ _=>PUnit.unit) v
noncomputable def AV.onPtr(v:AV)(kk:ab→Nat→aa):aa:=AV.rec (motive_1:=λ_=>aa) (motive_2:=λ_=>PUnit) ((aa.bad 116)) ((aa.bad 116)) ((aa.bad 116)) ((aa.bad 116)) ((aa.bad 116)) ((aa.bad 116)) (λ_=>(aa.bad 116)) (λ_ _=>(aa.bad 116)) (λ_ _ _=>(aa.bad 116)) (λ_ _ _ _ _=>(aa.bad 116)) (λ_=>(aa.bad 116)) (λ_ _=>(aa.bad 116)) (λ_ _=>(aa.bad 116)) (λ_=>(aa.bad 116)) (λ_ _ _ _=>(aa.bad 116)) (λ_=>(aa.bad 116)) (λo i=>kk o i) (λ_ _=>(aa.bad 116)) (λ_=>(aa.bad 116)) (λ_=>(aa.bad 116)) PUnit.unit (λ_ _ _ _=>PUnit.unit) v
noncomputable def AV.onAgg(v:AV)(kk:List AV→aa):aa:=AV.rec (motive_1:=λ_=>aa) (motive_2:=λ_=>PUnit) ((aa.bad 112)) ((aa.bad 112)) ((aa.bad 112)) ((aa.bad 112)) ((aa.bad 112)) ((aa.bad 112)) (λ_=>(aa.bad 112)) (λ_ _=>(aa.bad 112)) (λ_ _ _=>(aa.bad 112)) (λ_ _ _ _ _=>(aa.bad 112)) (λ_=>(aa.bad 112)) (λ_ _=>(aa.bad 112)) (λcs _=>kk cs) (λ_=>(aa.bad 112)) (λ_ _ _ _=>(aa.bad 112)) (λ_=>(aa.bad 112)) (λ_ _=>(aa.bad 112)) (λ_ _=>(aa.bad 112)) (λ_=>(aa.bad 112)) (λ_=>(aa.bad 112)) PUnit.unit (λ_ _ _ _=>PUnit.unit) v
noncomputable def AV.onTup(v:AV)(kk:List AV→aa):aa:=AV.rec (motive_1:=λ_=>aa) (motive_2:=λ_=>PUnit) ((aa.bad 111)) ((aa.bad 111)) ((aa.bad 111)) ((aa.bad 111)) ((aa.bad 111)) ((aa.bad 111)) (λ_=>(aa.bad 111)) (λ_ _=>(aa.bad 111)) (λ_ _ _=>(aa.bad 111)) (λ_ _ _ _ _=>(aa.bad 111)) (λ_=>(aa.bad 111)) (λvs _=>kk vs) (λ_ _=>(aa.bad 111)) (λ_=>(aa.bad 111)) (λ_ _ _ _=>(aa.bad 111)) (λ_=>(aa.bad 111)) (λ_ _=>(aa.bad 111)) (λ_ _=>(aa.bad 111)) (λ_=>(aa.bad 111)) (λ_=>(aa.bad 111)) PUnit.unit (λ_ _ _ _=>PUnit.unit) v
noncomputable def AV.onFn(v:AV)(kk:Nat→List AV→List AV→aa):aa:=AV.rec (motive_1:=λ_=>aa) (motive_2:=λ_=>PUnit) ((aa.bad 109)) ((aa.bad 109)) ((aa.bad 109)) ((aa.bad 109)) ((aa.bad 109)) ((aa.bad 109)) (λ_=>(aa.bad 109)) (λ_ _=>(aa.bad 109)) (λ_ _ _=>(aa.bad 109)) (λf a c _ _=>kk f a c) (λ_=>(aa.bad 109)) (λ_ _=>(aa.bad 109)) (λ_ _=>(aa.bad 109)) (λ_=>(aa.bad 109)) (λ_ _ _ _=>(aa.bad 109)) (λ_=>(aa.bad 109)) (λ_ _=>(aa.bad 109)) (λ_ _=>(aa.bad 109)) (λ_=>(aa.bad 109)) (λ_=>(aa.bad 109)) PUnit.unit (λ_ _ _ _=>PUnit.unit) v
noncomputable def AV.onMap(v:AV)(kk:ab→aa):aa:=AV.rec (motive_1:=λ_=>aa) (motive_2:=λ_=>PUnit) ((aa.bad 110)) ((aa.bad 110)) ((aa.bad 110)) ((aa.bad 110)) ((aa.bad 110)) ((aa.bad 110)) (λ_=>(aa.bad 110)) (λ_ _=>(aa.bad 110)) (λ_ _ _=>(aa.bad 110)) (λ_ _ _ _ _=>(aa.bad 110)) (λo=>kk o) (λ_ _=>(aa.bad 110)) (λ_ _=>(aa.bad 110)) (λ_=>(aa.bad 110)) (λ_ _ _ _=>(aa.bad 110)) (λ_=>(aa.bad 110)) (λ_ _=>(aa.bad 110)) (λ_ _=>(aa.bad 110)) (λ_=>(aa.bad 110)) (λ_=>(aa.bad 110)) PUnit.unit (λ_ _ _ _=>PUnit.unit) v
noncomputable def AV.onFnY(v:AV)(kk:Nat→List AV→List AV→aa)(yy:ab→aa):aa:=AV.rec (motive_1:=λ_=>aa) (motive_2:=λ_=>PUnit) ((aa.bad 111)) ((aa.bad 111)) ((aa.bad 111)) ((aa.bad 111)) ((aa.bad 111)) ((aa.bad 111)) (yy) (λ_ _=>(aa.bad 111)) (λ_ _ _=>(aa.bad 111)) (λa0' a1' a2' _ _=>(kk) a0' a1' a2') (λ_=>(aa.bad 111)) (λ_ _=>(aa.bad 111)) (λ_ _=>(aa.bad 111)) (λ_=>(aa.bad 111)) (λ_ _ _ _=>(aa.bad 111)) (λ_=>(aa.bad 111)) (λ_ _=>(aa.bad 111)) (λ_ _=>(aa.bad 111)) (λ_=>(aa.bad 111)) (λ_=>(aa.bad 111)) PUnit.unit (λ_ _ _ _=>PUnit.unit) v
noncomputable def AV.onPtrN(v:AV)(z:aa)(kk:ab→Nat→aa):aa:=AV.rec (motive_1:=λ_=>aa) (motive_2:=λ_=>PUnit) ((aa.bad 122)) (z) ((aa.bad 122)) ((aa.bad 122)) ((aa.bad 122)) ((aa.bad 122)) (λ_=>(aa.bad 122)) (λ_ _=>(aa.bad 122)) (λ_ _ _=>(aa.bad 122)) (λ_ _ _ _ _=>(aa.bad 122)) (λ_=>(aa.bad 122)) (λ_ _=>(aa.bad 122)) (λ_ _=>(aa.bad 122)) (λ_=>(aa.bad 122)) (λ_ _ _ _=>(aa.bad 122)) (λ_=>(aa.bad 122)) (λo i=>kk o i) (λ_ _=>(aa.bad 122)) (λ_=>(aa.bad 122)) (λ_=>(aa.bad 122)) PUnit.unit (λ_ _ _ _=>PUnit.unit) v
noncomputable def AV.onSlcZ(v:AV)(z:aa)(kk:ab→Nat→Nat→gQ→aa):aa:=AV.rec (motive_1:=λ_=>aa) (motive_2:=λ_=>PUnit) ((aa.bad 107)) ((aa.bad 107)) (z) ((aa.bad 107)) ((aa.bad 107)) ((aa.bad 107)) (λ_=>(aa.bad 107)) (λ_ _=>z) (λ_ _ _=>(aa.bad 107)) (λ_ _ _ _ _=>(aa.bad 107)) (λ_=>(aa.bad 107)) (λ_ _=>(aa.bad 107)) (λ_ _=>(aa.bad 107)) (λ_=>(aa.bad 107)) (λo i n c=>kk o i n c) (λ_=>(aa.bad 107)) (λ_ _=>(aa.bad 107)) (λ_ _=>(aa.bad 107)) (λ_=>(aa.bad 107)) (λ_=>(aa.bad 107)) PUnit.unit (λ_ _ _ _=>PUnit.unit) v
noncomputable def AV.onSlcE(v:AV)(z:aa)(kk:ab→Nat→Nat→gQ→aa)(ke:ab→Nat→aa):aa:=AV.rec (motive_1:=λ_=>aa) (motive_2:=λ_=>PUnit) ((aa.bad 107)) ((aa.bad 107)) (z) ((aa.bad 107)) ((aa.bad 107)) ((aa.bad 107)) (λ_=>(aa.bad 107)) (ke) (λ_ _ _=>(aa.bad 107)) (λ_ _ _ _ _=>(aa.bad 107)) (λ_=>(aa.bad 107)) (λ_ _=>(aa.bad 107)) (λ_ _=>(aa.bad 107)) (λ_=>(aa.bad 107)) (λo i n c=>kk o i n c) (λ_=>(aa.bad 107)) (λ_ _=>(aa.bad 107)) (λ_ _=>(aa.bad 107)) (λ_=>(aa.bad 107)) (λ_=>(aa.bad 107)) PUnit.unit (λ_ _ _ _=>PUnit.unit) v
noncomputable def AV.onSlc(v:AV)(z:aa)(kk:ab→Nat→Nat→gQ→aa):aa:=AV.rec (motive_1:=λ_=>aa) (motive_2:=λ_=>PUnit) ((aa.bad 107)) ((aa.bad 107)) (z) ((aa.bad 107)) ((aa.bad 107)) ((aa.bad 107)) (λ_=>(aa.bad 107)) (λ_ _=>(aa.bad 107)) (λ_ _ _=>(aa.bad 107)) (λ_ _ _ _ _=>(aa.bad 107)) (λ_=>(aa.bad 107)) (λ_ _=>(aa.bad 107)) (λ_ _=>(aa.bad 107)) (λ_=>(aa.bad 107)) (λo i n c=>kk o i n c) (λ_=>(aa.bad 107)) (λ_ _=>(aa.bad 107)) (λ_ _=>(aa.bad 107)) (λ_=>(aa.bad 107)) (λ_=>(aa.bad 107)) PUnit.unit (λ_ _ _ _=>PUnit.unit) v
noncomputable def AV.onGuard(v:AV)(want:Bool)(yes no:aa):aa:=AV.rec (motive_1:=λ_=>aa) (motive_2:=λ_=>PUnit) (no) ((aa.bad 120)) ((aa.bad 120)) ((aa.bad 120)) ((aa.bad 120)) ((aa.bad 120)) (λ_=>(aa.bad 120)) (λ_ _=>(aa.bad 120)) (λ_ _ _=>(aa.bad 120)) (λ_ _ _ _ _=>(aa.bad 120)) (λ_=>(aa.bad 120)) (λ_ _=>(aa.bad 120)) (λ_ _=>(aa.bad 120)) (λ_=>(aa.bad 120)) (λ_ _ _ _=>(aa.bad 120)) (λb=>Bool.rec (motive:=λ_=>aa) (Bool.rec (motive:=λ_=>aa) yes no want) (Bool.rec (motive:=λ_=>aa) no yes want) b) (λ_ _=>(aa.bad 120)) (λ_ _=>(aa.bad 120)) (λ_=>(aa.bad 120)) (λ_=>(aa.bad 120)) PUnit.unit (λ_ _ _ _=>PUnit.unit) v
noncomputable def AV.cells(v:AV):List AV:=AV.rec (motive_1:=λ_=>List AV) (motive_2:=λ_=>PUnit) ([v]) ([v]) ([v]) ([v]) ([v]) ([v]) (λ_=>[v]) (λ_ _=>[v]) (λ_ _ _=>[v]) (λ_ _ _ _ _=>[v]) (λ_=>[v]) (λ_ _=>[v]) (λcs _=>cs) (λ_=>[v]) (λ_ _ _ _=>[v]) (λ_=>[v]) (λ_ _=>[v]) (λ_ _=>[v]) (λ_=>[v]) (λ_=>[v]) PUnit.unit (λ_ _ _ _=>PUnit.unit) v
noncomputable def AV.same(v w:AV):Bool:=AV.rec (motive_1:=λ_=>Bool) (motive_2:=λ_=>PUnit) (false) (AV.rec (motive_1:=λ_=>Bool) (motive_2:=λ_=>PUnit) (false) (true) (false) (false) (false) (false) (λ_=>false) (λ_ _=>false) (λ_ _ _=>false) (λ_ _ _ _ _=>false) (λ_=>false) (λ_ _=>false) (λ_ _=>false) (λ_=>false) (λ_ _ _ _=>false) (λ_=>false) (λ_ _=>false) (λ_ _=>false) (λ_=>false) (λ_=>false) PUnit.unit (λ_ _ _ _=>PUnit.unit) w) (AV.rec (motive_1:=λ_=>Bool) (motive_2:=λ_=>PUnit) (false) (false) (true) (false) (false) (false) (λ_=>false) (λ_ _=>false) (λ_ _ _=>false) (λ_ _ _ _ _=>false) (λ_=>false) (λ_ _=>false) (λ_ _=>false) (λ_=>false) (λ_ _ _ _=>false) (λ_=>false) (λ_ _=>false) (λ_ _=>false) (λ_=>false) (λ_=>false) PUnit.unit (λ_ _ _ _=>PUnit.unit) w) (AV.rec (motive_1:=λ_=>Bool) (motive_2:=λ_=>PUnit) (false) (false) (false) (true) (false) (false) (λ_=>false) (λ_ _=>false) (λ_ _ _=>false) (λ_ _ _ _ _=>false) (λ_=>false) (λ_ _=>false) (λ_ _=>false) (λ_=>false) (λ_ _ _ _=>false) (λ_=>false) (λ_ _=>false) (λ_ _=>false) (λ_=>false) (λ_=>false) PUnit.unit (λ_ _ _ _=>PUnit.unit) w) (AV.rec (motive_1:=λ_=>Bool) (motive_2:=λ_=>PUnit) (false) (false) (false) (false) (true) (false) (λ_=>false) (λ_ _=>false) (λ_ _ _=>false) (λ_ _ _ _ _=>false) (λ_=>false) (λ_ _=>false) (λ_ _=>false) (λ_=>false) (λ_ _ _ _=>false) (λ_=>false) (λ_ _=>false) (λ_ _=>false) (λ_=>false) (λ_=>false) PUnit.unit (λ_ _ _ _=>PUnit.unit) w) (false) (λ_=>false) (λo i=>AV.rec (motive_1:=λ_=>Bool) (motive_2:=λ_=>PUnit) (false) (false) (false) (false) (false) (false) (λ_=>false) (λq j=>Bool.rec (motive:=λ_=>Bool) false (o.beq q) (Nat.beq i j)) (λ_ _ _=>false) (λ_ _ _ _ _=>false) (λ_=>false) (λ_ _=>false) (λ_ _=>false) (λ_=>false) (λ_ _ _ _=>false) (λ_=>false) (λ_ _=>false) (λ_ _=>false) (λ_=>false) (λ_=>false) PUnit.unit (λ_ _ _ _=>PUnit.unit) w) (λ_ _ _=>false) (λ_ _ _ _ _=>false) (λo=>AV.rec (motive_1:=λ_=>Bool) (motive_2:=λ_=>PUnit) (false) (false) (false) (false) (false) (false) (λ_=>false) (λ_ _=>false) (λ_ _ _=>false) (λ_ _ _ _ _=>false) (λq=>o.beq q) (λ_ _=>false) (λ_ _=>false) (λ_=>false) (λ_ _ _ _=>false) (λ_=>false) (λ_ _=>false) (λ_ _=>false) (λ_=>false) (λ_=>false) PUnit.unit (λ_ _ _ _=>PUnit.unit) w) (λ_ _=>false) (λ_ _=>false) (λs=>AV.rec (motive_1:=λ_=>Bool) (motive_2:=λ_=>PUnit) (false) (false) (false) (false) (false) (false) (λ_=>false) (λ_ _=>false) (λ_ _ _=>false) (λ_ _ _ _ _=>false) (λ_=>false) (λ_ _=>false) (λ_ _=>false) (λt=>Dc s t) (λ_ _ _ _=>false) (λ_=>false) (λ_ _=>false) (λ_ _=>false) (λ_=>false) (λ_=>false) PUnit.unit (λ_ _ _ _=>PUnit.unit) w) (λo i n c=>AV.rec (motive_1:=λ_=>Bool) (motive_2:=λ_=>PUnit) (false) (false) (false) (false) (false) (false) (λ_=>false) (λ_ _=>false) (λ_ _ _=>false) (λ_ _ _ _ _=>false) (λ_=>false) (λ_ _=>false) (λ_ _=>false) (λ_=>false) (λq j m d=>Bool.rec (motive:=λ_=>Bool) false (Bool.rec (motive:=λ_=>Bool) false (Bool.rec (motive:=λ_=>Bool) false (gQ.rec (motive:=λ_=>Bool) (λx=>gQ.rec (motive:=λ_=>Bool) (λy=>Nat.beq x y) (λ_=>false) d) (λx=>gQ.rec (motive:=λ_=>Bool) (λ_=>false) (λy=>Nat.beq x y) d) c) (o.beq q)) (Nat.beq n m)) (Nat.beq i j)) (λ_=>false) (λ_ _=>false) (λ_ _=>false) (λ_=>false) (λ_=>false) PUnit.unit (λ_ _ _ _=>PUnit.unit) w) (λb=>AV.rec (motive_1:=λ_=>Bool) (motive_2:=λ_=>PUnit) (false) (false) (false) (false) (false) (false) (λ_=>false) (λ_ _=>false) (λ_ _ _=>false) (λ_ _ _ _ _=>false) (λ_=>false) (λ_ _=>false) (λ_ _=>false) (λ_=>false) (λ_ _ _ _=>false) (λc=>Bool.rec (motive:=λ_=>Bool) (Bool.rec (motive:=λ_=>Bool) true false c) c b) (λ_ _=>false) (λ_ _=>false) (λ_=>false) (λ_=>false) PUnit.unit (λ_ _ _ _=>PUnit.unit) w) (λo i=>AV.rec (motive_1:=λ_=>Bool) (motive_2:=λ_=>PUnit) (false) (false) (false) (false) (false) (false) (λ_=>false) (λ_ _=>false) (λ_ _ _=>false) (λ_ _ _ _ _=>false) (λ_=>false) (λ_ _=>false) (λ_ _=>false) (λ_=>false) (λ_ _ _ _=>false) (λ_=>false) (λq j=>Bool.rec (motive:=λ_=>Bool) false (o.beq q) (Nat.beq i j)) (λ_ _=>false) (λ_=>false) (λ_=>false) PUnit.unit (λ_ _ _ _=>PUnit.unit) w) (λk n=>AV.rec (motive_1:=λ_=>Bool) (motive_2:=λ_=>PUnit) (false) (false) (false) (false) (false) (false) (λ_=>false) (λ_ _=>false) (λ_ _ _=>false) (λ_ _ _ _ _=>false) (λ_=>false) (λ_ _=>false) (λ_ _=>false) (λ_=>false) (λ_ _ _ _=>false) (λ_=>false) (λ_ _=>false) (λj m=>Bool.rec (motive:=λ_=>Bool) false (ieq n m) (Nat.beq k.ctorIdx j.ctorIdx)) (λ_=>false) (λ_=>false) PUnit.unit (λ_ _ _ _=>PUnit.unit) w) (λ_=>false) (λn=>AV.rec (motive_1:=λ_=>Bool) (motive_2:=λ_=>PUnit) (false) (false) (false) (false) (false) (false) (λ_=>false) (λ_ _=>false) (λ_ _ _=>false) (λ_ _ _ _ _=>false) (λ_=>false) (λ_ _=>false) (λ_ _=>false) (λ_=>false) (λ_ _ _ _=>false) (λ_=>false) (λ_ _=>false) (λ_ _=>false) (λ_=>false) (λm=>Nat.beq n m) PUnit.unit (λ_ _ _ _=>PUnit.unit) w) PUnit.unit (λ_ _ _ _=>PUnit.unit) v
noncomputable def tp(l:List AV):List AV→Bool :=
 List.rec (motive:=λ_=>List AV→Bool) (λm=>List.rec (motive:=λ_=>Bool) true (λ_ _ _=>false) m) (λa _ ih m=>List.rec (motive:=λ_=>Bool) false (λb u _=>Bool.rec (motive:=λ_=>Bool) false (ih u) (a.same b)) m) l
noncomputable def AV.alike(v w:AV):Bool:=AV.rec (motive_1:=λ_=>Bool) (motive_2:=λ_=>PUnit) ((v.same w)) ((v.same w)) ((v.same w)) ((v.same w)) ((v.same w)) ((v.same w)) (λ_=>(v.same w)) (λ_ _=>(v.same w)) (λ_ _ _=>(v.same w)) (λf a c _ _=>AV.rec (motive_1:=λ_=>Bool) (motive_2:=λ_=>PUnit) (false) (false) (false) (false) (false) (false) (λ_=>false) (λ_ _=>false) (λ_ _ _=>false) (λg b d _ _=>Bool.rec (motive:=λ_=>Bool) false (Bool.rec (motive:=λ_=>Bool) false (tp c d) (tp a b)) (Nat.beq f g)) (λ_=>false) (λ_ _=>false) (λ_ _=>false) (λ_=>false) (λ_ _ _ _=>false) (λ_=>false) (λ_ _=>false) (λ_ _=>false) (λ_=>false) (λ_=>false) PUnit.unit (λ_ _ _ _=>PUnit.unit) w) (λ_=>(v.same w)) (λ_ _=>(v.same w)) (λcs _=>AV.rec (motive_1:=λ_=>Bool) (motive_2:=λ_=>PUnit) (false) (false) (false) (false) (false) (false) (λ_=>false) (λ_ _=>false) (λ_ _ _=>false) (λ_ _ _ _ _=>false) (λ_=>false) (λ_ _=>false) (λds _=>tp cs ds) (λ_=>false) (λ_ _ _ _=>false) (λ_=>false) (λ_ _=>false) (λ_ _=>false) (λ_=>false) (λ_=>false) PUnit.unit (λ_ _ _ _=>PUnit.unit) w) (λ_=>(v.same w)) (λ_ _ _ _=>(v.same w)) (λ_=>(v.same w)) (λ_ _=>(v.same w)) (λ_ _=>(v.same w)) (λ_=>(v.same w)) (λ_=>(v.same w)) PUnit.unit (λ_ _ _ _=>PUnit.unit) v
noncomputable def tW(a b:Nat)(t u:List Nat)(k:Bool→aa):aa:=Bool.rec (motive:=λ_=>aa) (k false) (Bool.rec (motive:=λ_=>aa) (Bool.rec (motive:=λ_=>aa) (.bad 4) (Bool.rec (motive:=λ_=>aa) (.bad 4) (k false) (Nat.beq b (Nat.add 256 a))) (Nat.blt a 256)) (Bool.rec (motive:=λ_=>aa) (.bad 4) (k false) (Nat.beq a (Nat.add 256 b))) (Nat.blt b 256)) (Nat.beq (aW t) (aW u))
noncomputable def seqC(l:List Nat):List Nat→(Bool→aa)→aa :=
 List.rec (motive:=λ_=>List Nat→(Bool→aa)→aa) (λm k=>List.rec (motive:=λ_=>aa) (k true) (λ_ _ _=>k false) m) (λa t ih m k=>List.rec (motive:=λ_=>aa) (k false) (λb u _=>Bool.rec (motive:=λ_=>aa) (Bool.rec (motive:=λ_=>aa) (tW a b t u k) (Bool.rec (motive:=λ_=>aa) (tW a b t u k) (k false) (Nat.blt b 256)) (Nat.blt a 256)) (ih u k) (Nat.beq a b)) m) l
noncomputable def sltC(l:List Nat):List Nat→(Bool→aa)→aa :=
 List.rec (motive:=λ_=>List Nat→(Bool→aa)→aa) (λm k=>List.rec (motive:=λ_=>aa) (k false) (λ_ _ _=>k true) m) (λa _ ih m k=>List.rec (motive:=λ_=>aa) (k false) (λb u _=>Bool.rec (motive:=λ_=>aa) (Bool.rec (motive:=λ_=>aa) (.bad 4) (Bool.rec (motive:=λ_=>aa) (.bad 4) (k (Nat.blt a b)) (Nat.blt b 256)) (Nat.blt a 256)) (ih u k) (Nat.beq a b)) m) l
noncomputable def ldropC{α : Type}(n:Nat):List α → (List α → aa)→aa :=
 Nat.rec (motive:=λ_=>List α → (List α → aa)→aa) (λl k=>k l) (λ_ ih l k=>List.rec (motive:=λ_=>aa) (.bad 5) (λ_ t _=>ih t k) l) n
noncomputable def pR(f:Nat):Nat→ab :=
 Nat.rec (motive:=λ_=>Nat→ab) (λ_=>.e) (λ_ ih n=>Nat.rec (motive:=λ_=>ab) .e (λm _=>Bool.rec (motive:=λ_=>ab) (.r (ih (Nat.div m 2))) (.l (ih (Nat.div m 2))) (Nat.beq (Nat.mod m 2) 0)) n) f
noncomputable def ae(n:Nat):ab:=pR 20 n
structure Fn where
 params:List ab
 body:C
 res:List RV
abbrev af:=AV→H→aa
abbrev Call:=ab→List AV→H→af→aa
inductive nq
 | none
 | go (fn:Fn)
 | intr (g:Call→List AV→H→af→aa)
 | yld
inductive Tb | leaf | node (l:Tb) (e:nq) (r:Tb)
noncomputable def a6.fn(x:a6):FT→AV:=a6.rec (motive:=λ_=>FT→AV) (λx=>x.get) (λv _=>v) x
noncomputable def a6.ev(x:a6)(fr:FT):AV:=x.fn fr
noncomputable def D.put(d:D)(v:AV)(fr:FT):FT:=D.rec (motive:=λ_=>FT) fr (λx=>x.set v fr) d
noncomputable def newObj(b:Obj)(h:H)(k:ab→H→aa):aa :=
 H.rec (motive:=λ_=>aa) (λt n=>Obj.rec (motive:=λ_=>aa) (k n (.mk (aX b n t) n.inc)) (λ_ _=>.bad 6) (λ_ _=>.bad 6) (.bad 6) (λ_ _ _ _ _ _=>.bad 6) (ax n t)) h
noncomputable def cellsOf(o:ab)(h:H)(k:List AV→Nat→aa):aa :=
 H.rec (motive:=λ_=>aa) (λt _=>Obj.rec (motive:=λ_=>aa) (.bad 7) k (λ_ _=>.bad 8) (.bad 9) (λ_ _ _ _ _ _=>.bad 9) (ax o t)) h
noncomputable def mapOf(o:ab)(h:H)(k:List pV→Nat→aa):aa :=
 H.rec (motive:=λ_=>aa) (λt _=>Obj.rec (motive:=λ_=>aa) (.bad 10) (λ_ _=>.bad 10) k (.bad 10) (λ_ _ _ _ _ _=>.bad 10) (ax o t)) h
noncomputable def setObj(o:ab)(b:Obj)(h:H):H:=H.rec (motive:=λ_=>H) (λt n=>.mk (aX b o t) n) h
noncomputable def nthC{α : Type}(l:List α)(i:Nat)(k : α → aa):aa:=Option.rec (motive:=λ_=>aa) (.bad 11) k (Hp l i)
noncomputable def ifC(b:Bool)(x y:aa):aa:=Bool.rec (motive:=λ_=>aa) y x b
noncomputable def must(w:Nat)(b:Bool)(x:aa):aa:=Bool.rec (motive:=λ_=>aa) (.bad w) x b
noncomputable def AV.scal(v:AV):Bool:=AV.rec (motive_1:=λ_=>Bool) (motive_2:=λ_=>PUnit) (false) (true) (true) (true) (true) (true) (λ_=>true) (λ_ _=>true) (λ_ _ _=>true) (λ_ _ _ _ _=>true) (λ_=>true) (λ_ _=>false) (λ_ _=>false) (λ_=>true) (λ_ _ _ _=>true) (λ_=>true) (λ_ _=>true) (λ_ _=>true) (λ_=>true) (λ_=>true) PUnit.unit (λ_ _ _ _=>PUnit.unit) v
noncomputable def KI(n:Nat)(t:List Nat)(k:Bool→aa):aa:=List.rec (motive:=λ_=>aa) (k (Nat.beq n 0)) (λb u _=>List.rec (motive:=λ_=>aa) (ifC (Nat.blt 0 b) (ifC (Nat.blt b 256) (k (Nat.beq n b)) (seqC (lB n) t k)) (seqC (lB n) t k)) (λ_ _ _=>seqC (lB n) t k) u) t
noncomputable def seqV(v w:AV)(k:Bool→aa):aa:=v.onSB (λn=>w.onSB (λm=>k (Nat.beq n m)) (λt=>KI n t k)) (λs=>w.onSB (λn=>KI n s k) (λt=>seqC s t k))
noncomputable def AV.keyC(v w:AV)(yes no:aa):aa:=AV.rec (motive_1:=λ_=>aa) (motive_2:=λ_=>PUnit) ((aa.bad 13)) ((aa.bad 13)) ((aa.bad 13)) ((aa.bad 13)) ((aa.bad 13)) ((aa.bad 13)) (λ_=>(aa.bad 13)) (λ_ _=>(aa.bad 13)) (λ_ _ _=>(aa.bad 13)) (λ_ _ _ _ _=>(aa.bad 13)) (λ_=>(aa.bad 13)) (λ_ _=>(aa.bad 13)) (λ_ _=>(aa.bad 13)) (λs=>AV.rec (motive_1:=λ_=>aa) (motive_2:=λ_=>PUnit) ((aa.bad 13)) ((aa.bad 13)) ((aa.bad 13)) ((aa.bad 13)) ((aa.bad 13)) ((aa.bad 13)) (λ_=>(aa.bad 13)) (λ_ _=>(aa.bad 13)) (λ_ _ _=>(aa.bad 13)) (λ_ _ _ _ _=>(aa.bad 13)) (λ_=>(aa.bad 13)) (λ_ _=>(aa.bad 13)) (λ_ _=>(aa.bad 13)) (λt=>seqC s t λb=>ifC b yes no) (λ_ _ _ _=>(aa.bad 13)) (λ_=>(aa.bad 13)) (λ_ _=>(aa.bad 13)) (λ_ _=>(aa.bad 13)) (λ_=>(aa.bad 13)) (λ_=>(aa.bad 13)) PUnit.unit (λ_ _ _ _=>PUnit.unit) w) (λ_ _ _ _=>(aa.bad 13)) (λ_=>(aa.bad 13)) (λ_ _=>(aa.bad 13)) (λk n=>AV.rec (motive_1:=λ_=>aa) (motive_2:=λ_=>PUnit) ((aa.bad 13)) ((aa.bad 13)) ((aa.bad 13)) ((aa.bad 13)) ((aa.bad 13)) ((aa.bad 13)) (λ_=>(aa.bad 13)) (λ_ _=>(aa.bad 13)) (λ_ _ _=>(aa.bad 13)) (λ_ _ _ _ _=>(aa.bad 13)) (λ_=>(aa.bad 13)) (λ_ _=>(aa.bad 13)) (λ_ _=>(aa.bad 13)) (λ_=>(aa.bad 13)) (λ_ _ _ _=>(aa.bad 13)) (λ_=>(aa.bad 13)) (λ_ _=>(aa.bad 13)) (λj m=>must 12 (Nat.beq k.ctorIdx j.ctorIdx) (ifC (Go.Ai.ieq n m) yes no)) (λ_=>(aa.bad 13)) (λ_=>(aa.bad 13)) PUnit.unit (λ_ _ _ _=>PUnit.unit) w) (λ_=>(aa.bad 13)) (λ_=>(aa.bad 13)) PUnit.unit (λ_ _ _ _=>PUnit.unit) v
noncomputable def qF(l:List a6)(fr:FT):List AV:=List.rec (motive:=λ_=>List AV) [] (λx _ ih=>x.ev fr::ih) l
noncomputable def putParts(l:List iC)(fr:FT):List AV→(List AV→aa)→aa :=
 List.rec (motive:=λ_=>List AV→(List AV→aa)→aa) (λcs k=>k cs) (λq _ ih cs k=>must 12 (Nat.beq (aW (q.x.ev fr).cells) q.size) (lput (q.x.ev fr).cells cs q.off (λcs=>ih cs k))) l
noncomputable def bL(l:List AV):Bool:=List.rec (motive:=λ_=>Bool) true (λv _ ih=>Bool.rec (motive:=λ_=>Bool) false ih v.scal) l
noncomputable def bytesC(l:List AV):(List Nat→aa)→aa :=
 List.rec (motive:=λ_=>(List Nat→aa)→aa) (λk=>k []) (λv _ ih k=>v.onInt λkd n=>must 12 (Nat.beq kd.ctorIdx 4) (natOf n λm=>must 12 (Nat.blt m 256) (ih λt=>k (m::t)))) l
noncomputable def cT(l:List Nat):List AV:=List.rec (motive:=λ_=>List AV) [] (λb _ ih=>Bool.rec (motive:=λ_=>AV) (.ub b) (.int .u8 (.ofNat b)) (Nat.blt b 256)::ih) l
noncomputable def findEnt(key:AV)(l:List pV):(Option (AV × Nat)→aa)→Nat→aa :=
 List.rec (motive:=λ_=>(Option (AV × Nat)→aa)→Nat→aa) (λk _=>k none) (λe _ ih k i=>key.keyC e.key (k (some (e.val,i))) (ih k (Nat.succ i))) l
noncomputable def IntKind.lim(k:IntKind):Nat:=IntKind.rec (motive:=λ_=>Nat) 128 32768 2147483648 9223372036854775808 256 65536 4294967296 18446744073709551616 k
noncomputable def IntKind.low(k:IntKind):Nat:=IntKind.rec (motive:=λ_=>Nat) 128 32768 2147483648 9223372036854775808 0 0 0 0 k
noncomputable def wrapC(kd:IntKind)(n:Int)(k:Int→aa):aa :=
 Int.rec (motive:=λ_=>aa) (λm=>ifC (Nat.blt m (IntKind.lim kd)) (forceN m λm=>k (.ofNat m)) (forceI (kd.wrap (.ofNat m)) k)) (λm=>ifC (Nat.blt m (IntKind.low kd)) (forceN m λm=>k (.negSucc m)) (forceI (kd.wrap (.negSucc m)) k)) n
noncomputable def di(x y:a6)(fr:FT)(k:IntKind→Int→Int→aa):aa :=
 (x.ev fr).onInt λkd a=>(y.ev fr).onInt λkd' b=>must 12 (Nat.beq kd.ctorIdx kd'.ctorIdx) (k kd a b)
noncomputable def fN(x y:FT→AV)(fr:FT)(k:IntKind→Int→Int→aa):aa :=
 (x fr).onInt λkd a=>(y fr).onInt λkd' b=>must 12 (Nat.beq kd.ctorIdx kd'.ctorIdx) (k kd a b)
noncomputable def eg(a b:Int)(k:Nat→Nat→aa):aa:=natOf a λa=>natOf b λb=>k a b
noncomputable def Z0(x:a6)(_:Call)(fr:FT)(h:H)(k:af):aa:=k (x.ev fr) h
noncomputable def OL(x:FT→AV)(_:Call)(fr:FT)(h:H)(k:af):aa:=k (x fr) h
noncomputable def YK(c a b:a6)(_:Call)(fr:FT)(h:H)(k:af):aa:=(c.ev fr).onBool λt=>ifC t (k (a.ev fr) h) (k (b.ev fr) h)
noncomputable def IF(c a b:FT→AV)(_:Call)(fr:FT)(h:H)(k:af):aa:=(c fr).onBool λt=>ifC t (k (a fr) h) (k (b fr) h)
noncomputable def Ae(es:Nat)(zero:List AV)(_:Call)(_:FT)(h:H)(k:af):aa:=newObj (.cells zero es) h λo h=>k (.ptr o 0) h
noncomputable def ZB(x:a6)(_:Call)(fr:FT)(h:H)(k:af):aa:=newObj (.cells (x.ev fr).cells 0) h λo h=>k (.ptr o 0) h
noncomputable def OQ(x:FT→AV)(_:Call)(fr:FT)(h:H)(k:af):aa:=newObj (.cells (x fr).cells 0) h λo h=>k (.ptr o 0) h
noncomputable def Kq(zero:List AV)(parts:List iC)(_:Call)(fr:FT)(h:H)(k:af):aa:=putParts parts fr zero λcs=>k (.agg cs) h
noncomputable def uV(len:Nat)(cells:List AV)(parts:List iC)(_:Call)(fr:FT)(h:H)(k:af):aa :=
 putParts parts fr cells λcs=>newObj (.cells cs 0) h λo h=>k (.slc o 0 len (.exact len)) h
noncomputable def Wk(x:a6)(_:Call)(fr:FT)(h:H)(k:af):aa:=(x.ev fr).onPtr λo i=>cellsOf o h λcs _=>nthC cs i λv=>k v h
noncomputable def xP(x:FT→AV)(_:Call)(fr:FT)(h:H)(k:af):aa:=(x fr).onPtr λo i=>cellsOf o h λcs _=>nthC cs i λv=>k v h
noncomputable def V7(n:Nat)(x:a6)(_:Call)(fr:FT)(h:H)(k:af):aa:=(x.ev fr).onPtr λo i=>cellsOf o h λcs _=>ldropC i cs λcs=>ltake n cs λcs=>k (.agg cs) h
noncomputable def xJ(n:Nat)(x:FT→AV)(_:Call)(fr:FT)(h:H)(k:af):aa:=(x fr).onPtr λo i=>cellsOf o h λcs _=>ldropC i cs λcs=>ltake n cs λcs=>k (.agg cs) h
noncomputable def Wa(n:Nat)(x v:a6)(_:Call)(fr:FT)(h:H)(k:af):aa :=
 (x.ev fr).onPtr λo i=>cellsOf o h λcs es=>must 12 (Nat.beq (aW (v.ev fr).cells) n) (must 12 (bL (v.ev fr).cells) (lput (v.ev fr).cells cs i λcs=>k .undef (setObj o (.cells cs es) h)))
noncomputable def DY(n:Nat)(x v:FT→AV)(_:Call)(fr:FT)(h:H)(k:af):aa :=
 (x fr).onPtr λo i=>cellsOf o h λcs es=>must 12 (Nat.beq (aW (v fr).cells) n) (must 12 (bL (v fr).cells) (lput (v fr).cells cs i λcs=>k .undef (setObj o (.cells cs es) h)))
noncomputable def rG(x:a6)(_:Call)(fr:FT)(h:H)(k:af):aa:=AV.rec (motive_1:=λ_=>aa) (motive_2:=λ_=>PUnit) ((k (x.ev fr) h)) (aa.bad 14) ((k (x.ev fr) h)) ((k (x.ev fr) h)) (aa.bad 14) (aa.bad 14) (λ_=>(k (x.ev fr) h)) (λ_ _=>(k (x.ev fr) h)) (λ_ _ _=>(k (x.ev fr) h)) (λ_ _ _ _ _=>(k (x.ev fr) h)) (λ_=>(k (x.ev fr) h)) (λ_ _=>(k (x.ev fr) h)) (λ_ _=>(k (x.ev fr) h)) (λ_=>(k (x.ev fr) h)) (λ_ _ _ _=>(k (x.ev fr) h)) (λ_=>(k (x.ev fr) h)) (λ_ _=>(k (x.ev fr) h)) (λ_ _=>(k (x.ev fr) h)) (λ_=>(k (x.ev fr) h)) (λ_=>(k (x.ev fr) h)) PUnit.unit (λ_ _ _ _=>PUnit.unit) (x.ev fr)
noncomputable def oe(x:FT→AV)(_:Call)(fr:FT)(h:H)(k:af):aa:=AV.rec (motive_1:=λ_=>aa) (motive_2:=λ_=>PUnit) ((k (x fr) h)) (aa.bad 14) ((k (x fr) h)) ((k (x fr) h)) (aa.bad 14) (aa.bad 14) (λ_=>(k (x fr) h)) (λ_ _=>(k (x fr) h)) (λ_ _ _=>(k (x fr) h)) (λ_ _ _ _ _=>(k (x fr) h)) (λ_=>(k (x fr) h)) (λ_ _=>(k (x fr) h)) (λ_ _=>(k (x fr) h)) (λ_=>(k (x fr) h)) (λ_ _ _ _=>(k (x fr) h)) (λ_=>(k (x fr) h)) (λ_ _=>(k (x fr) h)) (λ_ _=>(k (x fr) h)) (λ_=>(k (x fr) h)) (λ_=>(k (x fr) h)) PUnit.unit (λ_ _ _ _=>PUnit.unit) (x fr)
noncomputable def addC(kd:IntKind)(a b:Int)(k:Int→aa):aa:=Int.rec (motive:=λ_=>aa) (λm=>Int.rec (motive:=λ_=>aa) (λn=>ifC (Nat.blt (Nat.add m n) (IntKind.lim kd)) (forceN (Nat.add m n) λq=>k (.ofNat q)) (wrapC kd (Int.add a b) k)) (λ_=>wrapC kd (Int.add a b) k) b) (λ_=>wrapC kd (Int.add a b) k) a
noncomputable def subC(kd:IntKind)(a b:Int)(k:Int→aa):aa:=Int.rec (motive:=λ_=>aa) (λm=>Int.rec (motive:=λ_=>aa) (λn=>ifC (Nat.ble n m) (ifC (Nat.blt (Nat.sub m n) (IntKind.lim kd)) (forceN (Nat.sub m n) λq=>k (.ofNat q)) (wrapC kd (Int.sub a b) k)) (wrapC kd (Int.sub a b) k)) (λ_=>wrapC kd (Int.sub a b) k) b) (λ_=>wrapC kd (Int.sub a b) k) a
noncomputable def YT(x y:a6)(_:Call)(fr:FT)(h:H)(k:af):aa:=di x y fr λkd a b=>addC kd a b λn=>k (.int kd n) h
noncomputable def K5(x y:FT→AV)(_:Call)(fr:FT)(h:H)(k:af):aa:=fN x y fr λkd a b=>addC kd a b λn=>k (.int kd n) h
noncomputable def Ym(x y:a6)(_:Call)(fr:FT)(h:H)(k:af):aa:=di x y fr λkd a b=>subC kd a b λn=>k (.int kd n) h
noncomputable def H8(x y:FT→AV)(_:Call)(fr:FT)(h:H)(k:af):aa:=fN x y fr λkd a b=>subC kd a b λn=>k (.int kd n) h
noncomputable def Y2(x y:a6)(_:Call)(fr:FT)(h:H)(k:af):aa:=di x y fr λkd a b=>wrapC kd (Int.mul a b) λn=>k (.int kd n) h
noncomputable def Kv(x y:FT→AV)(_:Call)(fr:FT)(h:H)(k:af):aa:=fN x y fr λkd a b=>wrapC kd (Int.mul a b) λn=>k (.int kd n) h
noncomputable def Yk(x y:a6)(_:Call)(fr:FT)(h:H)(k:af):aa:=di x y fr λkd a b=>ifC (ieq b 0) (.bad 15) (wrapC kd (Int.tdiv a b) λn=>k (.int kd n) h)
noncomputable def IM(x y:FT→AV)(_:Call)(fr:FT)(h:H)(k:af):aa:=fN x y fr λkd a b=>ifC (ieq b 0) (.bad 15) (wrapC kd (Int.tdiv a b) λn=>k (.int kd n) h)
noncomputable def YW(x y:a6)(_:Call)(fr:FT)(h:H)(k:af):aa:=di x y fr λkd a b=>ifC (ieq b 0) (.bad 15) (forceI (Int.tmod a b) λn=>k (.int kd n) h)
noncomputable def IH(x y:FT→AV)(_:Call)(fr:FT)(h:H)(k:af):aa:=fN x y fr λkd a b=>ifC (ieq b 0) (.bad 15) (forceI (Int.tmod a b) λn=>k (.int kd n) h)
noncomputable def Yi(x y:a6)(_:Call)(fr:FT)(h:H)(k:af):aa:=di x y fr λkd a b=>eg a b λa b=>must 12 (Nat.blt a (IntKind.lim kd)) (must 12 (Nat.blt b (IntKind.lim kd)) (forceN (Nat.land a b) λn=>k (.int kd (.ofNat n)) h))
noncomputable def JR(x y:FT→AV)(_:Call)(fr:FT)(h:H)(k:af):aa:=fN x y fr λkd a b=>eg a b λa b=>must 12 (Nat.blt a (IntKind.lim kd)) (must 12 (Nat.blt b (IntKind.lim kd)) (forceN (Nat.land a b) λn=>k (.int kd (.ofNat n)) h))
noncomputable def aaI(x y:a6)(_:Call)(fr:FT)(h:H)(k:af):aa:=di x y fr λkd a b=>eg a b λa b=>must 12 (Nat.blt a (IntKind.lim kd)) (must 12 (Nat.blt b (IntKind.lim kd)) (forceN (Nat.lor a b) λn=>k (.int kd (.ofNat n)) h))
noncomputable def Po(x y:FT→AV)(_:Call)(fr:FT)(h:H)(k:af):aa:=fN x y fr λkd a b=>eg a b λa b=>must 12 (Nat.blt a (IntKind.lim kd)) (must 12 (Nat.blt b (IntKind.lim kd)) (forceN (Nat.lor a b) λn=>k (.int kd (.ofNat n)) h))
noncomputable def IntKind.bitsK(k:IntKind):Nat:=IntKind.rec (motive:=λ_=>Nat) 8 16 32 64 8 16 32 64 k
noncomputable def i6(a b:Nat):Nat:=Bool.rec (motive:=λ_=>Nat) b a (Nat.ble a b)
noncomputable def oC(x y:a6)(fr:FT)(k:IntKind→Nat→Nat→aa):aa:=(x.ev fr).onInt λkd a=>(y.ev fr).onInt λ_ b=>eg a b λa b=>k kd a (i6 b (IntKind.bitsK kd))
noncomputable def ux(x y:FT→AV)(fr:FT)(k:IntKind→Nat→Nat→aa):aa:=(x fr).onInt λkd a=>(y fr).onInt λ_ b=>eg a b λa b=>k kd a (i6 b (IntKind.bitsK kd))
noncomputable def YL(x y:a6)(_:Call)(fr:FT)(h:H)(k:af):aa:=oC x y fr λkd a n=>wrapC kd (.ofNat (Nat.mul a (Nat.pow 2 n))) λn=>k (.int kd n) h
noncomputable def Jv(x y:FT→AV)(_:Call)(fr:FT)(h:H)(k:af):aa:=ux x y fr λkd a n=>wrapC kd (.ofNat (Nat.mul a (Nat.pow 2 n))) λn=>k (.int kd n) h
noncomputable def Yp(x y:a6)(_:Call)(fr:FT)(h:H)(k:af):aa:=oC x y fr λkd a n=>forceN (Nat.div a (Nat.pow 2 n)) λn=>k (.int kd (.ofNat n)) h
noncomputable def IR(x y:FT→AV)(_:Call)(fr:FT)(h:H)(k:af):aa:=ux x y fr λkd a n=>forceN (Nat.div a (Nat.pow 2 n)) λn=>k (.int kd (.ofNat n)) h
noncomputable def cd(a b:Bool):Bool:=Bool.rec (motive:=λ_=>Bool) b (Bool.rec (motive:=λ_=>Bool) true false b) a
noncomputable def aa4(neg swap:Bool)(x y:a6)(_:Call)(fr:FT)(h:H)(k:af):aa:=di x y fr λ_ a b=>k (.bool (cd neg (Bool.rec (motive:=λ_=>Bool) (sw a b) (sw b a) swap))) h
noncomputable def Pi(neg swap:Bool)(x y:FT→AV)(_:Call)(fr:FT)(h:H)(k:af):aa:=fN x y fr λ_ a b=>k (.bool (cd neg (Bool.rec (motive:=λ_=>Bool) (sw a b) (sw b a) swap))) h
noncomputable def u7(b:Int)(x:aa):aa:=ifC (ieq b 32) x (ifC (ieq b 10) x (.bad 19))
noncomputable def ER(x y:a6)(fr:FT)(k:IntKind→Int→Int→aa)(ku:aa):aa :=
 (x.ev fr).onIntU (λkd a=>(y.ev fr).onInt λkd' b=>must 12 (Nat.beq kd.ctorIdx kd'.ctorIdx) (k kd a b)) (λ_=>(y.ev fr).onInt λkd' b=>must 12 (Nat.beq kd'.ctorIdx 4) (u7 b ku))
noncomputable def Bn(x y:FT→AV)(fr:FT)(k:IntKind→Int→Int→aa)(ku:aa):aa :=
 (x fr).onIntU (λkd a=>(y fr).onInt λkd' b=>must 12 (Nat.beq kd.ctorIdx kd'.ctorIdx) (k kd a b)) (λ_=>(y fr).onInt λkd' b=>must 12 (Nat.beq kd'.ctorIdx 4) (u7 b ku))
noncomputable def aae(neg:Bool)(x y:a6)(_:Call)(fr:FT)(h:H)(k:af):aa:=ER x y fr (λ_ a b=>k (.bool (cd neg (ieq a b))) h) (k (.bool neg) h)
noncomputable def PE(neg:Bool)(x y:FT→AV)(_:Call)(fr:FT)(h:H)(k:af):aa:=Bn x y fr (λ_ a b=>k (.bool (cd neg (ieq a b))) h) (k (.bool neg) h)
noncomputable def kG(x y:a6)(fr:FT)(k:List Nat→List Nat→aa):aa:=(x.ev fr).onStr λs=>(y.ev fr).onStr λt=>k s t
noncomputable def xO(x y:FT→AV)(fr:FT)(k:List Nat→List Nat→aa):aa:=(x fr).onStr λs=>(y fr).onStr λt=>k s t
noncomputable def Yj(x y:a6)(_:Call)(fr:FT)(h:H)(k:af):aa:=kG x y fr λs t=>must 12 (Nat.blt (aW s) 4611686018427387904) (must 12 (Nat.blt (aW t) 4611686018427387904) (k (.str (cZ s t)) h))
noncomputable def KX(x y:FT→AV)(_:Call)(fr:FT)(h:H)(k:af):aa:=xO x y fr λs t=>must 12 (Nat.blt (aW s) 4611686018427387904) (must 12 (Nat.blt (aW t) 4611686018427387904) (k (.str (cZ s t)) h))
noncomputable def ZI(neg:Bool)(x y:a6)(_:Call)(fr:FT)(h:H)(k:af):aa:=seqV (x.ev fr) (y.ev fr) λb=>k (.bool (cd neg b)) h
noncomputable def Pt(neg:Bool)(x y:FT→AV)(_:Call)(fr:FT)(h:H)(k:af):aa:=seqV (x fr) (y fr) λb=>k (.bool (cd neg b)) h
noncomputable def adx(x y:a6)(_:Call)(fr:FT)(h:H)(k:af):aa:=kG x y fr λs t=>sltC s t λb=>k (.bool b) h
noncomputable def Oy(x y:FT→AV)(_:Call)(fr:FT)(h:H)(k:af):aa:=xO x y fr λs t=>sltC s t λb=>k (.bool b) h
noncomputable def aa6(x:a6)(_:Call)(fr:FT)(h:H)(k:af):aa:=(x.ev fr).onBool λb=>k (.bool (cd true b)) h
noncomputable def O3(x:FT→AV)(_:Call)(fr:FT)(h:H)(k:af):aa:=(x fr).onBool λb=>k (.bool (cd true b)) h
noncomputable def aa9(x:a6)(_:Call)(fr:FT)(h:H)(k:af):aa:=(x.ev fr).onInt λkd n=>wrapC kd (Int.neg n) λn=>k (.int kd n) h
noncomputable def Py(x:FT→AV)(_:Call)(fr:FT)(h:H)(k:af):aa:=(x fr).onInt λkd n=>wrapC kd (Int.neg n) λn=>k (.int kd n) h
noncomputable def Xw(kd:IntKind)(x:a6)(_:Call)(fr:FT)(h:H)(k:af):aa:=(x.ev fr).onInt λ_ n=>wrapC kd n λn=>k (.int kd n) h
noncomputable def Fh(kd:IntKind)(x:FT→AV)(_:Call)(fr:FT)(h:H)(k:af):aa:=(x fr).onInt λ_ n=>wrapC kd n λn=>k (.int kd n) h
noncomputable def AZ(kind:Nat)(neg:Bool)(x:a6)(_:Call)(fr:FT)(h:H)(k:af):aa:=AV.rec (motive_1:=λ_=>aa) (motive_2:=λ_=>PUnit) ((aa.bad 16)) (must 12 (Nat.beq kind 0) (k (.bool (cd neg true)) h)) (must 12 (Nat.beq kind 1) (k (.bool (cd neg true)) h)) (must 12 (Nat.beq kind 2) (k (.bool (cd neg true)) h)) (must 12 (Nat.beq kind 3) (k (.bool (cd neg true)) h)) (must 12 (Nat.beq kind 4) (k (.bool (cd neg true)) h)) (λ_=>(aa.bad 16)) (λ_ _=>must 12 (Nat.beq kind 1) (k (.bool neg) h)) (λ_ _ _=>must 12 (Nat.beq kind 4) (k (.bool neg) h)) (λ_ _ _ _ _=>must 12 (Nat.beq kind 3) (k (.bool neg) h)) (λ_=>must 12 (Nat.beq kind 2) (k (.bool neg) h)) (λ_ _=>(aa.bad 16)) (λ_ _=>(aa.bad 16)) (λ_=>(aa.bad 16)) (λ_ _ _ _=>must 12 (Nat.beq kind 1) (k (.bool neg) h)) (λ_=>(aa.bad 16)) (λ_ _=>must 12 (Nat.beq kind 0) (k (.bool neg) h)) (λ_ _=>(aa.bad 16)) (λ_=>(aa.bad 16)) (λ_=>(aa.bad 16)) PUnit.unit (λ_ _ _ _=>PUnit.unit) (x.ev fr)
noncomputable def ye(kind:Nat)(neg:Bool)(x:FT→AV)(_:Call)(fr:FT)(h:H)(k:af):aa:=AV.rec (motive_1:=λ_=>aa) (motive_2:=λ_=>PUnit) ((aa.bad 16)) (must 12 (Nat.beq kind 0) (k (.bool (cd neg true)) h)) (must 12 (Nat.beq kind 1) (k (.bool (cd neg true)) h)) (must 12 (Nat.beq kind 2) (k (.bool (cd neg true)) h)) (must 12 (Nat.beq kind 3) (k (.bool (cd neg true)) h)) (must 12 (Nat.beq kind 4) (k (.bool (cd neg true)) h)) (λ_=>(aa.bad 16)) (λ_ _=>must 12 (Nat.beq kind 1) (k (.bool neg) h)) (λ_ _ _=>must 12 (Nat.beq kind 4) (k (.bool neg) h)) (λ_ _ _ _ _=>must 12 (Nat.beq kind 3) (k (.bool neg) h)) (λ_=>must 12 (Nat.beq kind 2) (k (.bool neg) h)) (λ_ _=>(aa.bad 16)) (λ_ _=>(aa.bad 16)) (λ_=>(aa.bad 16)) (λ_ _ _ _=>must 12 (Nat.beq kind 1) (k (.bool neg) h)) (λ_=>(aa.bad 16)) (λ_ _=>must 12 (Nat.beq kind 0) (k (.bool neg) h)) (λ_ _=>(aa.bad 16)) (λ_=>(aa.bad 16)) (λ_=>(aa.bad 16)) PUnit.unit (λ_ _ _ _=>PUnit.unit) (x fr)
noncomputable def AV.eqC(kd:Nat)(v w:AV)(kk:Bool→aa):aa:=AV.rec (motive_1:=λ_=>aa) (motive_2:=λ_=>PUnit) ((aa.bad 17)) ((aa.bad 17)) ((aa.bad 17)) ((aa.bad 17)) ((aa.bad 17)) ((aa.bad 17)) (λ_=>(aa.bad 17)) (λ_ _=>(aa.bad 17)) (λ_ _ _=>(aa.bad 17)) (λ_ _ _ _ _=>(aa.bad 17)) (λ_=>(aa.bad 17)) (λ_ _=>(aa.bad 17)) (λ_ _=>(aa.bad 17)) (λ_=>must 12 (Nat.beq kd 2) (seqV v w kk)) (λ_ _ _ _=>(aa.bad 17)) (λb=>AV.rec (motive_1:=λ_=>aa) (motive_2:=λ_=>PUnit) ((aa.bad 17)) ((aa.bad 17)) ((aa.bad 17)) ((aa.bad 17)) ((aa.bad 17)) ((aa.bad 17)) (λ_=>(aa.bad 17)) (λ_ _=>(aa.bad 17)) (λ_ _ _=>(aa.bad 17)) (λ_ _ _ _ _=>(aa.bad 17)) (λ_=>(aa.bad 17)) (λ_ _=>(aa.bad 17)) (λ_ _=>(aa.bad 17)) (λ_=>(aa.bad 17)) (λ_ _ _ _=>(aa.bad 17)) (λc=>must 12 (Nat.beq kd 0) (kk (cd true (cd b c)))) (λ_ _=>(aa.bad 17)) (λ_ _=>(aa.bad 17)) (λ_=>(aa.bad 17)) (λ_=>(aa.bad 17)) PUnit.unit (λ_ _ _ _=>PUnit.unit) w) (λ_ _=>(aa.bad 17)) (λk n=>AV.rec (motive_1:=λ_=>aa) (motive_2:=λ_=>PUnit) ((aa.bad 17)) ((aa.bad 17)) ((aa.bad 17)) ((aa.bad 17)) ((aa.bad 17)) ((aa.bad 17)) (λ_=>(aa.bad 17)) (λ_ _=>(aa.bad 17)) (λ_ _ _=>(aa.bad 17)) (λ_ _ _ _ _=>(aa.bad 17)) (λ_=>(aa.bad 17)) (λ_ _=>(aa.bad 17)) (λ_ _=>(aa.bad 17)) (λ_=>(aa.bad 17)) (λ_ _ _ _=>(aa.bad 17)) (λ_=>(aa.bad 17)) (λ_ _=>(aa.bad 17)) (λj m=>must 12 (Nat.beq kd 1) (must 12 (Nat.beq k.ctorIdx j.ctorIdx) (kk (Go.Ai.ieq n m)))) (λ_=>(aa.bad 17)) (λ_=>(aa.bad 17)) PUnit.unit (λ_ _ _ _=>PUnit.unit) w) (λ_=>(aa.bad 17)) (λ_=>must 12 (Nat.beq kd 2) (seqV v w kk)) PUnit.unit (λ_ _ _ _=>PUnit.unit) v
noncomputable def eqsC(ks:List Nat):List AV→List AV→(Bool→aa)→aa :=
 List.rec (motive:=λ_=>List AV→List AV→(Bool→aa)→aa) (λl m k=>List.rec (motive:=λ_=>aa) (List.rec (motive:=λ_=>aa) (k true) (λ_ _ _=>.bad 18) m) (λ_ _ _=>.bad 18) l)
  (λkd _ ih l m k=>List.rec (motive:=λ_=>aa) (.bad 18) (λa t _=>List.rec (motive:=λ_=>aa) (.bad 18) (λb u _=>AV.eqC kd a b λq=>ifC q (ih t u k) (k false)) m) l) ks
noncomputable def AV.cellsBy(agg:Bool)(v:AV)(k:List AV→aa):aa:=Bool.rec (motive:=λ_=>aa) (k [v]) (v.onAgg k) agg
noncomputable def aer(neg agg:Bool)(ks:List Nat)(x y:a6)(_:Call)(fr:FT)(h:H)(k:af):aa :=
 AV.cellsBy agg (x.ev fr) λl=>AV.cellsBy agg (y.ev fr) λr=>must 12 (Nat.beq (aW l) (aW ks)) (must 12 (Nat.beq (aW r) (aW ks)) (eqsC ks l r λb=>k (.bool (cd neg b)) h))
noncomputable def OA(neg agg:Bool)(ks:List Nat)(x y:FT→AV)(_:Call)(fr:FT)(h:H)(k:af):aa :=
 AV.cellsBy agg (x fr) λl=>AV.cellsBy agg (y fr) λr=>must 12 (Nat.beq (aW l) (aW ks)) (must 12 (Nat.beq (aW r) (aW ks)) (eqsC ks l r λb=>k (.bool (cd neg b)) h))
noncomputable def sliceCells(size:Nat)(x:AV)(n:Nat)(h:H)(k:List AV→aa):aa :=
 x.onSlcZ (must 12 (Nat.beq n 0) (k [])) λo i m _=>must 12 (Nat.ble n m) (cellsOf o h λcs _=>ldropC i cs λcs=>ltake (Nat.mul n size) cs k)
noncomputable def AV.lenC(x:AV)(k:Nat→aa):aa:=x.onSlcZ (k 0) λ_ _ n _=>k n
noncomputable def adS(x:a6)(_:Call)(fr:FT)(h:H)(k:af):aa:=(x.ev fr).lenC λn=>sliceCells 1 (x.ev fr) n h λcs=>bytesC cs λl=>k (.str l) h
noncomputable def Jm(x:FT→AV)(_:Call)(fr:FT)(h:H)(k:af):aa:=(x fr).lenC λn=>sliceCells 1 (x fr) n h λcs=>bytesC cs λl=>k (.str l) h
noncomputable def ZF(es:Nat)(x:a6)(_:Call)(fr:FT)(h:H)(k:af):aa:=(x.ev fr).onStr λs=>newObj (.cells (cT s) es) h λo h=>k (.slc o 0 (aW s) (.opn (aW s))) h
noncomputable def Oz(es:Nat)(x:FT→AV)(_:Call)(fr:FT)(h:H)(k:af):aa:=(x fr).onStr λs=>newObj (.cells (cT s) es) h λo h=>k (.slc o 0 (aW s) (.opn (aW s))) h
noncomputable def evNat(x:a6)(fr:FT)(k:Nat→aa):aa:=(x.ev fr).onInt λ_ n=>natOf n k
noncomputable def evNatX(x:FT→AV)(fr:FT)(k:Nat→aa):aa:=(x fr).onInt λ_ n=>natOf n k
noncomputable def evNatO(x:mi)(fr:FT)(d:Nat)(k:Nat→aa):aa:=mi.rec (motive:=λ_=>aa) (k d) (λx=>evNat x fr k) x
noncomputable def Qz(_size bytes:Nat)(zero:List AV)(len cap:a6)(_:Call)(fr:FT)(h:H)(k:af):aa :=
 evNat len fr λl=>evNat cap fr λc=>must 12 (Nat.ble l c) (must 12 (Nat.ble (Nat.mul bytes c) 1099511627776) (must 12 (Nat.ble c 1099511627776) (newObj (.cells (eQ zero c) 0) h λo h=>forceN l λl=>forceN c λc=>k (.slc o 0 l (.exact c)) h)))
noncomputable def qk(_size bytes:Nat)(zero:List AV)(len cap:FT→AV)(_:Call)(fr:FT)(h:H)(k:af):aa :=
 evNatX len fr λl=>evNatX cap fr λc=>must 12 (Nat.ble l c) (must 12 (Nat.ble (Nat.mul bytes c) 1099511627776) (must 12 (Nat.ble c 1099511627776) (newObj (.cells (eQ zero c) 0) h λo h=>forceN l λl=>forceN c λc=>k (.slc o 0 l (.exact c)) h)))
noncomputable def mn(x:a6)(lo hi:mi)(_:Call)(fr:FT)(h:H)(k:af):aa :=
 (x.ev fr).onStr λs=>evNatO lo fr 0 λl=>mi.rec (motive:=λ_=>aa) (ldropC l s λs=>k (.str s) h) (λy=>evNat y fr λm=>must 12 (Nat.ble l m) (ldropC l s λs=>ltake (Nat.sub m l) s λs=>k (.str s) h)) hi
noncomputable def cutSlc(size:Nat)(o:ab)(i l m c:Nat)(cap:Nat→gQ)(ends:Bool)(h:H)(k:af):aa :=
 must 12 (Nat.ble l m) (must 12 (Nat.ble m c) (forceN (Nat.sub m l) λn=>forceN (Nat.sub c l) λc' =>
  ifC (Nat.blt l c) (forceN (Nat.add i (Nat.mul l size)) λi=>k (.slc o i n (cap c')) h) (Bool.rec (motive:=λ_=>aa) (forceN (Nat.add i (Nat.mul l size)) λi=>k (.sle o i) h) (k (.slc o i n (cap c')) h) (Bool.rec (motive:=λ_=>Bool) (Nat.beq l 0) true ends))))
noncomputable def lF(size:Nat)(x:a6)(lo hi mx:mi)(_:Call)(fr:FT)(h:H)(k:af):aa :=
 evNatO lo fr 0 λl=>(x.ev fr).onSlc (evNatO hi fr 0 λm=>must 12 (Nat.beq l 0) (must 12 (Nat.beq m 0) (evNatO mx fr 0 λq=>must 12 (Nat.beq q 0) (k .nils h))))
  λo i n c=>evNatO hi fr n λm=>gQ.rec (motive:=λ_=>aa) (λc=>mi.rec (motive:=λ_=>aa) (cutSlc size o i l m c .exact true h k) (λy=>evNat y fr λq=>must 12 (Nat.ble q c) (cutSlc size o i l m q .exact true h k)) mx) (λd=>mi.rec (motive:=λ_=>aa) (cutSlc size o i l m d .opn false h k) (λy=>evNat y fr λq=>must 12 (Nat.ble q d) (cutSlc size o i l m q .exact true h k)) mx) c
noncomputable def lL(n size:Nat)(x:a6)(lo hi:mi)(_:Call)(fr:FT)(h:H)(k:af):aa :=
 evNatO lo fr 0 λl=>evNatO hi fr n λm=>(x.ev fr).onPtr λo i=>cutSlc size o i l m n .exact true h k
noncomputable def Uy(off:Nat)(x:a6)(_:Call)(fr:FT)(h:H)(k:af):aa:=(x.ev fr).onPtr λo i=>forceN (Nat.add i off) λi=>k (.ptr o i) h
noncomputable def Fb(off:Nat)(x:FT→AV)(_:Call)(fr:FT)(h:H)(k:af):aa:=(x fr).onPtr λo i=>forceN (Nat.add i off) λi=>k (.ptr o i) h
noncomputable def part(off size:Nat)(agg:Bool)(cs:List AV)(h:H)(k:af):aa :=
 Bool.rec (motive:=λ_=>aa) (nthC cs off λv=>k v h) (ldropC off cs λcs=>ltake size cs λcs=>k (.agg cs) h) agg
noncomputable def XU(off size:Nat)(agg:Bool)(x:a6)(_:Call)(fr:FT)(h:H)(k:af):aa:=(x.ev fr).onAgg λcs=>part off size agg cs h k
noncomputable def yZ(off size:Nat)(agg:Bool)(x:FT→AV)(_:Call)(fr:FT)(h:H)(k:af):aa:=(x fr).onAgg λcs=>part off size agg cs h k
noncomputable def Su(size:Nat)(x y:a6)(_:Call)(fr:FT)(h:H)(k:af):aa :=
 evNat y fr λj=>(x.ev fr).onSlc (.bad 20) λo i n _=>must 12 (Nat.blt j n) (forceN (Nat.add i (Nat.mul j size)) λi=>k (.ptr o i) h)
noncomputable def zE(size:Nat)(x y:FT→AV)(_:Call)(fr:FT)(h:H)(k:af):aa :=
 evNatX y fr λj=>(x fr).onSlc (.bad 20) λo i n _=>must 12 (Nat.blt j n) (forceN (Nat.add i (Nat.mul j size)) λi=>k (.ptr o i) h)
noncomputable def Ss(len size:Nat)(x y:a6)(_:Call)(fr:FT)(h:H)(k:af):aa :=
 evNat y fr λj=>(x.ev fr).onPtr λo i=>must 12 (Nat.blt j len) (forceN (Nat.add i (Nat.mul j size)) λi=>k (.ptr o i) h)
noncomputable def Bc(len size:Nat)(x y:FT→AV)(_:Call)(fr:FT)(h:H)(k:af):aa :=
 evNatX y fr λj=>(x fr).onPtr λo i=>must 12 (Nat.blt j len) (forceN (Nat.add i (Nat.mul j size)) λi=>k (.ptr o i) h)
noncomputable def Pv(x y:a6)(_:Call)(fr:FT)(h:H)(k:af):aa:=evNat y fr λj=>(x.ev fr).onStr λs=>nthC s j λb=>ifC (Nat.blt b 256) (k (.int .u8 (.ofNat b)) h) (k (.ub b) h)
noncomputable def nW(x y:FT→AV)(_:Call)(fr:FT)(h:H)(k:af):aa:=evNatX y fr λj=>(x fr).onStr λs=>nthC s j λb=>ifC (Nat.blt b 256) (k (.int .u8 (.ofNat b)) h) (k (.ub b) h)
noncomputable def Px(len size:Nat)(agg:Bool)(x y:a6)(_:Call)(fr:FT)(h:H)(k:af):aa:=evNat y fr λj=>(x.ev fr).onAgg λcs=>must 12 (Nat.blt j len) (part (Nat.mul j size) size agg cs h k)
noncomputable def nS(len size:Nat)(agg:Bool)(x y:FT→AV)(_:Call)(fr:FT)(h:H)(k:af):aa:=evNatX y fr λj=>(x fr).onAgg λcs=>must 12 (Nat.blt j len) (part (Nat.mul j size) size agg cs h k)
noncomputable def dD(commaOk:Bool)(v:AV)(ok:Bool)(h:H)(k:af):aa:=Bool.rec (motive:=λ_=>aa) (k v h) (k (.tup [v,.bool ok]) h) commaOk
noncomputable def AV.isKey(str:Bool)(v:AV):Bool:=AV.rec (motive_1:=λ_=>Bool) (motive_2:=λ_=>PUnit) (false) (false) (false) (false) (false) (false) (λ_=>false) (λ_ _=>false) (λ_ _ _=>false) (λ_ _ _ _ _=>false) (λ_=>false) (λ_ _=>false) (λ_ _=>false) (λ_=>str) (λ_ _ _ _=>false) (λ_=>false) (λ_ _=>false) (λ_ _=>Bool.rec (motive:=λ_=>Bool) true false str) (λ_=>false) (λ_=>false) PUnit.unit (λ_ _ _ _=>PUnit.unit) v
noncomputable def AV.onMapN(v:AV)(z:aa)(kk:ab→aa):aa:=AV.rec (motive_1:=λ_=>aa) (motive_2:=λ_=>PUnit) ((aa.bad 21)) ((aa.bad 21)) ((aa.bad 21)) (z) ((aa.bad 21)) ((aa.bad 21)) (λ_=>(aa.bad 21)) (λ_ _=>(aa.bad 21)) (λ_ _ _=>(aa.bad 21)) (λ_ _ _ _ _=>(aa.bad 21)) (kk) (λ_ _=>(aa.bad 21)) (λ_ _=>(aa.bad 21)) (λ_=>(aa.bad 21)) (λ_ _ _ _=>(aa.bad 21)) (λ_=>(aa.bad 21)) (λ_ _=>(aa.bad 21)) (λ_ _=>(aa.bad 21)) (λ_=>(aa.bad 21)) (λ_=>(aa.bad 21)) PUnit.unit (λ_ _ _ _=>PUnit.unit) v
noncomputable def Sh(str:Bool)(zero:AV)(commaOk:Bool)(x y:a6)(_:Call)(fr:FT)(h:H)(k:af):aa :=
 must 12 ((y.ev fr).isKey str) ((x.ev fr).onMapN (dD commaOk zero false h k) λo=>mapOf o h λes _=>findEnt (y.ev fr) es (λq=>Option.rec (motive:=λ_=>aa) (dD commaOk zero false h k) (λq=>dD commaOk q.1 true h k) q) 0)
noncomputable def tq(str:Bool)(zero:AV)(commaOk:Bool)(x y:FT→AV)(_:Call)(fr:FT)(h:H)(k:af):aa :=
 must 12 ((y fr).isKey str) ((x fr).onMapN (dD commaOk zero false h k) λo=>mapOf o h λes _=>findEnt (y fr) es (λq=>Option.rec (motive:=λ_=>aa) (dD commaOk zero false h k) (λq=>dD commaOk q.1 true h k) q) 0)
noncomputable def Sn(str:Bool)(m y v:a6)(_:Call)(fr:FT)(h:H)(k:af):aa :=
 must 12 ((y.ev fr).isKey str) ((m.ev fr).onMap λo=>mapOf o h λes clock=>findEnt (y.ev fr) es (λq=>Option.rec (motive:=λ_=>aa) (k .undef (setObj o (.map (cZ es [⟨y.ev fr,v.ev fr,clock⟩]) (Nat.succ clock)) h)) (λq=>nthC es q.2 λe=>k .undef (setObj o (.map (oM ⟨y.ev fr,v.ev fr,e.born⟩ es q.2) clock) h)) q) 0)
noncomputable def tP(str:Bool)(m y v:FT→AV)(_:Call)(fr:FT)(h:H)(k:af):aa :=
 must 12 ((y fr).isKey str) ((m fr).onMap λo=>mapOf o h λes clock=>findEnt (y fr) es (λq=>Option.rec (motive:=λ_=>aa) (k .undef (setObj o (.map (cZ es [⟨y fr,v fr,clock⟩]) (Nat.succ clock)) h)) (λq=>nthC es q.2 λe=>k .undef (setObj o (.map (oM ⟨y fr,v fr,e.born⟩ es q.2) clock) h)) q) 0)
noncomputable def Ad(_:Call)(_:FT)(h:H)(k:af):aa:=newObj (.map [] 0) h λo h=>k (.map o) h
noncomputable def vG(f:Nat)(a c:List a6)(_:Call)(fr:FT)(h:H)(k:af):aa:=k (.fn f (qF a fr) (qF c fr)) h
noncomputable def QF(i:Nat)(x:a6)(_:Call)(fr:FT)(h:H)(k:af):aa:=(x.ev fr).onTup λvs=>nthC vs i λv=>k v h
noncomputable def qp(i:Nat)(x:FT→AV)(_:Call)(fr:FT)(h:H)(k:af):aa:=(x fr).onTup λvs=>nthC vs i λv=>k v h
noncomputable def AV.force(v:AV)(k:AV→aa):aa:=AV.rec (motive_1:=λ_=>aa) (motive_2:=λ_=>PUnit) (k .undef) (k .nilp) (k .nils) (k .nilm) (k .nilf) (k .nili) (λx0=>k (.yld x0)) (λx0 x1=>k (.sle x0 x1)) (λx0 x1 _=>k (.ifc x0 x1)) (λx0 x1 x2 _ _=>k (.fn x0 x1 x2)) (λx0=>k (.map x0)) (λx0 _=>k (.tup x0)) (λx0 _=>k (.agg x0)) (λx0=>k (.str x0)) (λx0 x1 x2 x3=>k (.slc x0 x1 x2 x3)) (λx0=>k (.bool x0)) (λx0 x1=>k (.ptr x0 x1)) (λx0 x1=>k (.int x0 x1)) (λx0=>k (.ub x0)) (λx0=>k (.bs x0)) PUnit.unit (λ_ _ _ _=>PUnit.unit) v
noncomputable def Aa(l:List a6)(fr:FT):(List AV→aa)→aa:=List.rec (motive:=λ_=>(List AV→aa)→aa) (λk=>k []) (λx _ ih k=>(x.ev fr).force λv=>ih λvs=>k (v::vs)) l
noncomputable def LE(f:ab)(args:List a6)(call:Call)(fr:FT)(h:H)(k:af):aa:=Aa args fr λvs=>call f vs h k
noncomputable def HF(f:a6)(args:List a6)(call:Call)(fr:FT)(h:H)(k:af):aa:=(f.ev fr).onFnY (λg a c=>must 12 (Nat.blt g 8191) (call (ae g) (cZ a (cZ (qF args fr) c)) h k)) (λo=>call (ae 8191) (.yld o::qF args fr) h k)
noncomputable def abb(x:a6)(_:Call)(fr:FT)(h:H)(k:af):aa:=(x.ev fr).lenC λn=>k (.int .i64 (.ofNat n)) h
noncomputable def O2(x:FT→AV)(_:Call)(fr:FT)(h:H)(k:af):aa:=(x fr).lenC λn=>k (.int .i64 (.ofNat n)) h
noncomputable def Sl(x:a6)(_:Call)(fr:FT)(h:H)(k:af):aa:=(x.ev fr).onStr λs=>forceN (aW s) λn=>k (.int .i64 (.ofNat n)) h
noncomputable def Ab(x:FT→AV)(_:Call)(fr:FT)(h:H)(k:af):aa:=(x fr).onStr λs=>forceN (aW s) λn=>k (.int .i64 (.ofNat n)) h
noncomputable def Sq(x:a6)(_:Call)(fr:FT)(h:H)(k:af):aa:=(x.ev fr).onMapN (k (.int .i64 0) h) λo=>mapOf o h λes _=>forceN (aW es) λn=>k (.int .i64 (.ofNat n)) h
noncomputable def up(x:FT→AV)(_:Call)(fr:FT)(h:H)(k:af):aa:=(x fr).onMapN (k (.int .i64 0) h) λo=>mapOf o h λes _=>forceN (aW es) λn=>k (.int .i64 (.ofNat n)) h
noncomputable def EG(n:Nat)(_:Call)(_:FT)(h:H)(k:af):aa:=k (.int .i64 (.ofNat n)) h
noncomputable def srcCells(size:Nat)(y:AV)(h:H)(k:Nat→List AV→aa):aa:=AV.rec (motive_1:=λ_=>aa) (motive_2:=λ_=>PUnit) ((y.lenC λn=>sliceCells size y n h λcs=>k n cs)) ((y.lenC λn=>sliceCells size y n h λcs=>k n cs)) ((y.lenC λn=>sliceCells size y n h λcs=>k n cs)) ((y.lenC λn=>sliceCells size y n h λcs=>k n cs)) ((y.lenC λn=>sliceCells size y n h λcs=>k n cs)) ((y.lenC λn=>sliceCells size y n h λcs=>k n cs)) (λ_=>(y.lenC λn=>sliceCells size y n h λcs=>k n cs)) (λ_ _=>(y.lenC λn=>sliceCells size y n h λcs=>k n cs)) (λ_ _ _=>(y.lenC λn=>sliceCells size y n h λcs=>k n cs)) (λ_ _ _ _ _=>(y.lenC λn=>sliceCells size y n h λcs=>k n cs)) (λ_=>(y.lenC λn=>sliceCells size y n h λcs=>k n cs)) (λ_ _=>(y.lenC λn=>sliceCells size y n h λcs=>k n cs)) (λ_ _=>(y.lenC λn=>sliceCells size y n h λcs=>k n cs)) (λs=>must 12 (Nat.beq size 1) (k (aW s) (cT s))) (λ_ _ _ _=>(y.lenC λn=>sliceCells size y n h λcs=>k n cs)) (λ_=>(y.lenC λn=>sliceCells size y n h λcs=>k n cs)) (λ_ _=>(y.lenC λn=>sliceCells size y n h λcs=>k n cs)) (λ_ _=>(y.lenC λn=>sliceCells size y n h λcs=>k n cs)) (λ_=>(y.lenC λn=>sliceCells size y n h λcs=>k n cs)) (λ_=>(y.lenC λn=>sliceCells size y n h λcs=>k n cs)) PUnit.unit (λ_ _ _ _=>PUnit.unit) y
noncomputable def bC(es:Nat)(need:Nat)(cs:List AV)(h:H)(k:af):aa:=newObj (.cells cs es) h λo h=>forceN need λn=>k (.slc o 0 n (.opn n)) h
noncomputable def inPlace(size:Nat)(o:ab)(i n m:Nat)(c:gQ)(new cs:List AV)(es:Nat)(h:H)(k:af):aa :=
 must 12 (bL new) (lput new cs (Nat.add i (Nat.mul n size)) λcs=>forceN (Nat.add n m) λq=>k (.slc o i q c) (setObj o (.cells cs es) h))
noncomputable def St(size bytes es0:Nat)(x y:a6)(_:Call)(fr:FT)(h:H)(k:af):aa :=
 srcCells size (y.ev fr) h λm new=>(x.ev fr).onSlcE (Nat.rec (motive:=λ_=>aa) (k .nils h) (λ_ _=>must 12 (Nat.ble (Nat.mul m (Nat.succ bytes)) 1073741824) (bC es0 m new h k)) m)
  (λo i n c=>cellsOf o h λcs es=>must 12 (Nat.ble (Nat.mul (Nat.add n m) (Nat.succ bytes)) 1073741824) (ldropC i cs λcs'=>ltake (Nat.mul n size) cs' λold =>
   gQ.rec (motive:=λ_=>aa) (λd=>ifC (Nat.ble (Nat.add n m) d) (inPlace size o i n m c new cs es h k) (bC es0 (Nat.add n m) (cZ old new) h k)) (λd=>ifC (Nat.ble (Nat.add n m) d) (inPlace size o i n m c new cs es h k)
     (must 12 (bL new) (must 12 (Nat.beq es es0) (must 12 (Nat.beq (Nat.add i (Nat.mul d size)) (aW cs)) (must 12 (Nat.ble n d) (bC es0 (Nat.add n m) (cZ old new) (setObj o .dead h) k)))))) c))
  λo i=>cellsOf o h λcs es=>must 12 (Nat.blt 0 m) (must 12 (Nat.ble (Nat.mul m (Nat.succ bytes)) 1073741824) (must 12 (bL new) (must 12 (Nat.beq es es0) (must 12 (Nat.beq i (aW cs)) (bC es0 m new (setObj o .dead h) k)))))
noncomputable def pU(size bytes es0:Nat)(x y:FT→AV)(_:Call)(fr:FT)(h:H)(k:af):aa :=
 srcCells size (y fr) h λm new=>(x fr).onSlcE (Nat.rec (motive:=λ_=>aa) (k .nils h) (λ_ _=>must 12 (Nat.ble (Nat.mul m (Nat.succ bytes)) 1073741824) (bC es0 m new h k)) m)
  (λo i n c=>cellsOf o h λcs es=>must 12 (Nat.ble (Nat.mul (Nat.add n m) (Nat.succ bytes)) 1073741824) (ldropC i cs λcs'=>ltake (Nat.mul n size) cs' λold =>
   gQ.rec (motive:=λ_=>aa) (λd=>ifC (Nat.ble (Nat.add n m) d) (inPlace size o i n m c new cs es h k) (bC es0 (Nat.add n m) (cZ old new) h k)) (λd=>ifC (Nat.ble (Nat.add n m) d) (inPlace size o i n m c new cs es h k)
     (must 12 (bL new) (must 12 (Nat.beq es es0) (must 12 (Nat.beq (Nat.add i (Nat.mul d size)) (aW cs)) (must 12 (Nat.ble n d) (bC es0 (Nat.add n m) (cZ old new) (setObj o .dead h) k)))))) c))
  λo i=>cellsOf o h λcs es=>must 12 (Nat.blt 0 m) (must 12 (Nat.ble (Nat.mul m (Nat.succ bytes)) 1073741824) (must 12 (bL new) (must 12 (Nat.beq es es0) (must 12 (Nat.beq i (aW cs)) (bC es0 m new (setObj o .dead h) k)))))
noncomputable def Yl(size:Nat)(x y:a6)(_:Call)(fr:FT)(h:H)(k:af):aa :=
 srcCells size (y.ev fr) h λm new=>(x.ev fr).onSlcZ (k (.int .i64 0) h) λo i n _=>ltake (Nat.mul (i6 m n) size) new λnew=>must 12 (bL new) (cellsOf o h λcs es=>lput new cs i λcs=>forceN (i6 m n) λq=>k (.int .i64 (.ofNat q)) (setObj o (.cells cs es) h))
noncomputable def CG(size:Nat)(x y:FT→AV)(_:Call)(fr:FT)(h:H)(k:af):aa :=
 srcCells size (y fr) h λm new=>(x fr).onSlcZ (k (.int .i64 0) h) λo i n _=>ltake (Nat.mul (i6 m n) size) new λnew=>must 12 (bL new) (cellsOf o h λcs es=>lput new cs i λcs=>forceN (i6 m n) λq=>k (.int .i64 (.ofNat q)) (setObj o (.cells cs es) h))
noncomputable def Yn(x y:a6)(_:Call)(fr:FT)(h:H)(k:af):aa:=di x y fr λkd a b=>ifC (sw a b) (k (.int kd b) h) (k (.int kd a) h)
noncomputable def Kl(x y:FT→AV)(_:Call)(fr:FT)(h:H)(k:af):aa:=fN x y fr λkd a b=>ifC (sw a b) (k (.int kd b) h) (k (.int kd a) h)
noncomputable def Yo(x y:a6)(_:Call)(fr:FT)(h:H)(k:af):aa:=di x y fr λkd a b=>ifC (sw b a) (k (.int kd b) h) (k (.int kd a) h)
noncomputable def Kz(x y:FT→AV)(_:Call)(fr:FT)(h:H)(k:af):aa:=fN x y fr λkd a b=>ifC (sw b a) (k (.int kd b) h) (k (.int kd a) h)
noncomputable def abd(es0:Nat)(x y:a6)(_:Call)(fr:FT)(h:H)(k:af):aa :=
 evNat y fr λn=>(x.ev fr).onPtrN (must 12 (Nat.beq n 0) (k (.str []) h)) λo i=>must 12 (Nat.blt 0 n) (must 12 (Nat.ble n 1099511627776) (cellsOf o h λcs es=>must 12 (Nat.beq es es0) (ldropC i cs λcs=>ltake n cs λcs=>bytesC cs λl=>k (.str l) (setObj o .dead h))))
noncomputable def La(es0:Nat)(x y:FT→AV)(_:Call)(fr:FT)(h:H)(k:af):aa :=
 evNatX y fr λn=>(x fr).onPtrN (must 12 (Nat.beq n 0) (k (.str []) h)) λo i=>must 12 (Nat.blt 0 n) (must 12 (Nat.ble n 1099511627776) (cellsOf o h λcs es=>must 12 (Nat.beq es es0) (ldropC i cs λcs=>ltake n cs λcs=>bytesC cs λl=>k (.str l) (setObj o .dead h))))
noncomputable def Sr(x:a6)(_:Call)(fr:FT)(h:H)(k:af):aa :=
 (x.ev fr).onMap λq=>mapOf q h λes _=>List.rec (motive:=λ_=>aa) (newObj (.loop 9 .no (kh (.map q) .e .leaf) [] .skip .skip) h λo h=>k (.ptr o 0) h) (λ_ _ _=>.bad 52) es
noncomputable def tN(x:FT→AV)(_:Call)(fr:FT)(h:H)(k:af):aa :=
 (x fr).onMap λq=>mapOf q h λes _=>List.rec (motive:=λ_=>aa) (newObj (.loop 9 .no (kh (.map q) .e .leaf) [] .skip .skip) h λo h=>k (.ptr o 0) h) (λ_ _ _=>.bad 52) es
noncomputable def iterOf(o:ab)(h:H)(k:ab→aa):aa :=
 H.rec (motive:=λ_=>aa) (λt _=>Obj.rec (motive:=λ_=>aa) (.bad 53) (λ_ _=>.bad 53) (λ_ _=>.bad 53) (.bad 53) (λst _ f _ _ _=>must 12 (Nat.beq st 9) ((b6 .e f).onMap k)) (ax o t)) h
noncomputable def WT(x:a6)(_:Call)(fr:FT)(h:H)(k:af):aa :=
 (x.ev fr).onPtr λo i=>must 12 (Nat.beq i 0) (iterOf o h λq=>mapOf q h λes _=>List.rec (motive:=λ_=>aa) (k (.tup [.bool false]) h) (λ_ _ _=>.bad 52) es)
noncomputable def wK(x:FT→AV)(_:Call)(fr:FT)(h:H)(k:af):aa :=
 (x fr).onPtr λo i=>must 12 (Nat.beq i 0) (iterOf o h λq=>mapOf q h λes _=>List.rec (motive:=λ_=>aa) (k (.tup [.bool false]) h) (λ_ _ _=>.bad 52) es)
noncomputable def WB(x:a6)(_:Call)(fr:FT)(h:H)(k:af):aa :=
 (x.ev fr).onSlc (k .nilp h) λo i _ c=>must 12 (Nat.blt 0 (gQ.rec (motive:=λ_=>Nat) (λc=>c) (λd=>d) c)) (k (.ptr o i) h)
noncomputable def Fk(x:FT→AV)(_:Call)(fr:FT)(h:H)(k:af):aa :=
 (x fr).onSlc (k .nilp h) λo i _ c=>must 12 (Nat.blt 0 (gQ.rec (motive:=λ_=>Nat) (λc=>c) (λd=>d) c)) (k (.ptr o i) h)
noncomputable def aaG(x:a6)(_:Call)(fr:FT)(h:H)(k:af):aa :=
 (x.ev fr).onPtrN (k .nilp h) λo i=>cellsOf o h λcs _=>must 12 (Nat.blt i (aW cs)) (k (.ptr o i) h)
noncomputable def I2(x:FT→AV)(_:Call)(fr:FT)(h:H)(k:af):aa :=
 (x fr).onPtrN (k .nilp h) λo i=>cellsOf o h λcs _=>must 12 (Nat.blt i (aW cs)) (k (.ptr o i) h)
noncomputable def aeQ(es0 size:Nat)(x:a6)(_:Call)(fr:FT)(h:H)(k:af):aa :=
 (x.ev fr).onPtrN (k .nilp h) λo i=>cellsOf o h λcs es=>must 12 (Nat.beq es es0) (must 12 (Nat.beq (Nat.mod i size) 0) (must 12 (Nat.ble (Nat.add i size) (aW cs)) (k (.ptr o i) h)))
noncomputable def HL(es0 size:Nat)(x:FT→AV)(_:Call)(fr:FT)(h:H)(k:af):aa :=
 (x fr).onPtrN (k .nilp h) λo i=>cellsOf o h λcs es=>must 12 (Nat.beq es es0) (must 12 (Nat.beq (Nat.mod i size) 0) (must 12 (Nat.ble (Nat.add i size) (aW cs)) (k (.ptr o i) h)))
noncomputable def aa5(neg:Bool)(x y:a6)(_:Call)(fr:FT)(h:H)(k:af):aa :=
 (x.ev fr).onPtr λo i=>(y.ev fr).onPtr λq j=>must 12 (o.beq q) (must 12 (Nat.beq i j) (k (.bool (cd neg true)) h))
noncomputable def Pq(neg:Bool)(x y:FT→AV)(_:Call)(fr:FT)(h:H)(k:af):aa :=
 (x fr).onPtr λo i=>(y fr).onPtr λq j=>must 12 (o.beq q) (must 12 (Nat.beq i j) (k (.bool (cd neg true)) h))
noncomputable def YJ(x:a6)(_:Call)(fr:FT)(h:H)(k:af):aa :=
 (x.ev fr).onSlc (k (.int .i64 0) h) λ_ _ _ c=>gQ.rec (motive:=λ_=>aa) (λc=>k (.int .i64 (.ofNat c)) h) (λ_=>.bad 51) c
noncomputable def Km(x:FT→AV)(_:Call)(fr:FT)(h:H)(k:af):aa :=
 (x fr).onSlc (k (.int .i64 0) h) λ_ _ _ c=>gQ.rec (motive:=λ_=>aa) (λc=>k (.int .i64 (.ofNat c)) h) (λ_=>.bad 51) c
noncomputable def WD(zero:List AV)(x:a6)(_:Call)(fr:FT)(h:H)(k:af):aa :=
 (x.ev fr).onSlcZ (k (.tup []) h) λo i n _=>must 12 (bL (eQ zero n)) (cellsOf o h λcs es=>lput (eQ zero n) cs i λcs=>k (.tup []) (setObj o (.cells cs es) h))
noncomputable def yY(zero:List AV)(x:FT→AV)(_:Call)(fr:FT)(h:H)(k:af):aa :=
 (x fr).onSlcZ (k (.tup []) h) λo i n _=>must 12 (bL (eQ zero n)) (cellsOf o h λcs es=>lput (eQ zero n) cs i λcs=>k (.tup []) (setObj o (.cells cs es) h))
noncomputable def O.step(o:O):Call→FT→H→af→aa :=
 O.casesOn (motive:=λ_=>Call→FT→H→af→aa) o (λx'=>OL x'.fn) (λc' a' b'=>IF c'.fn a'.fn b'.fn) Ae (λx'=>OQ x'.fn) Kq uV (λx'=>xP x'.fn) (λn' x'=>xJ n' x'.fn) (λn' x' v'=>DY n' x'.fn v'.fn) (λx'=>oe x'.fn)
  (λx' y'=>K5 x'.fn y'.fn) (λx' y'=>H8 x'.fn y'.fn) (λx' y'=>Kv x'.fn y'.fn) (λx' y'=>IM x'.fn y'.fn) (λx' y'=>IH x'.fn y'.fn) (λx' y'=>JR x'.fn y'.fn) (λx' y'=>Po x'.fn y'.fn) (λx' y'=>Jv x'.fn y'.fn) (λx' y'=>IR x'.fn y'.fn) (λneg' swap' x' y'=>Pi neg' swap' x'.fn y'.fn) (λneg' x' y'=>PE neg' x'.fn y'.fn) (λx' y'=>KX x'.fn y'.fn) (λneg' x' y'=>Pt neg' x'.fn y'.fn) (λx' y'=>Oy x'.fn y'.fn) (λneg' agg' ks' x' y'=>OA neg' agg' ks' x'.fn y'.fn) (λkind' neg' x'=>ye kind' neg' x'.fn) (λx'=>O3 x'.fn) (λx'=>Py x'.fn) (λkd' x'=>Fh kd' x'.fn) (λx'=>Jm x'.fn) (λes' x'=>Oz es' x'.fn)
  (λ_size' bytes' zero' len' cap'=>qk _size' bytes' zero' len'.fn cap'.fn) mn lF lL (λoff' x'=>Fb off' x'.fn) (λoff' size' agg' x'=>yZ off' size' agg' x'.fn) (λsize' x' y'=>zE size' x'.fn y'.fn) (λlen' size' x' y'=>Bc len' size' x'.fn y'.fn) (λx' y'=>nW x'.fn y'.fn) (λlen' size' agg' x' y'=>nS len' size' agg' x'.fn y'.fn) (λstr' zero' commaOk' x' y'=>tq str' zero' commaOk' x'.fn y'.fn) (λstr' m' y' v'=>tP str' m'.fn y'.fn v'.fn) Ad vG (λi' x'=>qp i' x'.fn) LE HF
  (λx'=>O2 x'.fn) (λx'=>Ab x'.fn) (λx'=>up x'.fn) EG (λsize' bytes' es0' x' y'=>pU size' bytes' es0' x'.fn y'.fn) (λsize' x' y'=>CG size' x'.fn y'.fn) (λx' y'=>Kl x'.fn y'.fn) (λx' y'=>Kz x'.fn y'.fn) (λes0' x' y'=>La es0' x'.fn y'.fn) (λzero' x'=>yY zero' x'.fn) (λx'=>tN x'.fn) (λx'=>wK x'.fn) (λx'=>Fk x'.fn) (λx'=>I2 x'.fn) (λes0' size' x'=>HL es0' size' x'.fn) (λneg' x' y'=>Pq neg' x'.fn y'.fn) (λx'=>Km x'.fn)
noncomputable def gl(o:Call→FT→H→af→aa)(call:Call)(fr:FT)(v:AV)(k:aa)(n:Nat):List H→aa :=
 Nat.rec (motive:=λ_=>List H→aa) (λ_=>k) (λ_ ih hs=>List.rec (motive:=λ_=>aa) (.bad 22) (λh t _=>o call fr h λw _=>must 12 (w.alike v) (ih t)) hs) n
noncomputable def G.on'(g:G)(fr:FT)(yes no:aa):aa:=G.rec (motive:=λ_=>aa) yes (λx want=>(x.get fr).onGuard want yes no) g
noncomputable def Zd(_:Call)(fr:FT)(h:H)(_:List H):aa:=.nrm fr h
noncomputable def sop(dst:D)(g:G)(o:Call→FT→H→af→aa)(ih:Call→FT→H→List H→aa)(call:Call)(fr:FT)(h:H)(hs:List H):aa :=
 g.on' fr (o call fr h λv h=>ih call (dst.put v fr) h hs) (ih call (dst.put .undef fr) h hs)
noncomputable def acz(set:AV→FT→FT)(o:Call→FT→H→af→aa)(ih:Call→FT→H→List H→aa)(call:Call)(fr:FT)(h:H)(hs:List H):aa:=o call fr h λv h=>ih call (set v fr) h hs
noncomputable def acr(o:Call→FT→H→af→aa)(ih:Call→FT→H→List H→aa)(call:Call)(fr:FT)(h:H)(hs:List H):aa:=o call fr h λ_ h=>ih call fr h hs
noncomputable def dq(al:Bool)(h:H)(k:aa)(hs:List H):aa :=
 Bool.rec (motive:=λ_=>aa) k (H.rec (motive:=λ_=>aa) (λ_ n=>List.rec (motive:=λ_=>aa) k (λs _ ih=>H.rec (motive:=λ_=>aa) (λt _=>Obj.rec (motive:=λ_=>aa) ih (λ_ _=>.bad 50) (λ_ _=>.bad 50) (.bad 50) (λ_ _ _ _ _ _=>.bad 50) (ax n t)) s) hs) h) al
noncomputable def KJ(dst:D)(g:G)(o:Call→FT→H→af→aa)(back:Nat)(eff al:Bool)(ih:Call→FT→H→List H→aa)(call:Call)(fr:FT)(h:H)(hs:List H):aa :=
 g.on' fr (o call fr h λv h'=>gl o call fr v (dq al h (ih call (dst.put v fr) h' (Bool.rec (motive:=λ_=>List H) hs (h::hs) eff)) hs) back hs) (ih call (dst.put .undef fr) h (Bool.rec (motive:=λ_=>List H) hs (h::hs) eff))
noncomputable def adL(set:AV→FT→FT)(o:Call→FT→H→af→aa)(ih:Call→FT→H→List H→aa)(call:Call)(fr:FT)(h:H)(hs:List H):aa:=o call fr h λv h'=>ih call (set v fr) h' hs
noncomputable def ads(dst:D)(g:G)(o:O)(_:L)(ih:Call→FT→H→List H→aa):Call→FT→H→List H→aa :=
 D.rec (motive:=λ_=>Call→FT→H→List H→aa) (G.rec (motive:=λ_=>Call→FT→H→List H→aa) (acr o.step ih) (λx w=>sop .no (.on x w) o.step ih) g) (λd=>G.rec (motive:=λ_=>Call→FT→H→List H→aa) (acz d.set o.step ih) (λx w=>sop (.to d) (.on x w) o.step ih) g) dst
noncomputable def X2(dst:D)(g:G)(o:O)(back:Nat)(eff al:Bool)(_:L)(ih:Call→FT→H→List H→aa):Call→FT→H→List H→aa :=
 D.rec (motive:=λ_=>Call→FT→H→List H→aa) (KJ .no g o.step back eff al ih) (λd=>G.rec (motive:=λ_=>Call→FT→H→List H→aa) (Nat.rec (motive:=λ_=>Call→FT→H→List H→aa) (Bool.rec (motive:=λ_=>Call→FT→H→List H→aa) (Bool.rec (motive:=λ_=>Call→FT→H→List H→aa) (adL d.set o.step ih) (KJ (.to d) .no o.step 0 false true ih) al) (KJ (.to d) .no o.step 0 true al ih) eff) (λn _=>KJ (.to d) .no o.step (Nat.succ n) eff al ih) back) (λx w=>KJ (.to d) (.on x w) o.step back eff al ih) g) dst
noncomputable def L.run(l:L):Call→FT→H→List H→aa:=L.rec (motive:=λ_=>Call→FT→H→List H→aa) Zd ads X2 l
noncomputable def ec(f:FT→H→aa)(n:Nat):FT→H→aa :=
 Nat.rec (motive:=λ_=>FT→H→aa) f (λ_ ih fr h=>aa.rec (motive:=λ_=>aa) ih .ext .ret .fin .bad (ih fr h)) n
noncomputable def VK(_:Call)(fr:FT)(h:H):aa:=.nrm fr h
noncomputable def acR(l:Call→FT→H→List H→aa)(call:Call)(fr:FT)(h:H):aa:=l call fr h []
noncomputable def aaq(a b:Call→FT→H→aa)(call:Call)(fr:FT)(h:H):aa:=aa.rec (motive:=λ_=>aa) (b call) .ext .ret .fin .bad (a call fr h)
noncomputable def Vt(c:a6)(a b:Call→FT→H→aa)(call:Call)(fr:FT)(h:H):aa:=(c.ev fr).onBool λt=>Bool.rec (motive:=λ_=>aa) (b call fr h) (a call fr h) t
noncomputable def P1(id:Nat)(b:Call→FT→H→aa)(call:Call)(fr:FT)(h:H):aa:=aa.rec (motive:=λ_=>aa) .nrm (λj fr h=>ifC (Nat.beq j id) (.nrm fr h) (.ext j fr h)) .ret .fin .bad (b call fr h)
noncomputable def VF(b:Call→FT→H→aa)(call:Call)(fr:FT)(h:H):aa:=aa.rec (motive:=λ_=>aa) (λ_ _=>.bad 23) .ext .ret .fin .bad (ec (b call) 30 fr h)
noncomputable def W6(id:Nat)(_:Call)(fr:FT)(h:H):aa:=.ext id fr h
noncomputable def adE(_:Call)(fr:FT)(h:H):aa:=.ret fr h
noncomputable def sno(why:Nat)(_:Call)(_:FT)(_:H):aa:=.bad why
noncomputable def endLoop(o:ab)(fr:FT)(h:H):aa :=
 H.rec (motive:=λ_=>aa) (λt n=>Obj.rec (motive:=λ_=>aa) (.bad 40) (λ_ _=>.bad 40) (λ_ _=>.bad 40) (.bad 40) (λst pd f ps a b=>must 12 (Nat.blt st 4) (Bool.rec (motive:=λ_=>aa) (gk.rec (motive:=λ_=>aa) (.nrm fr (.mk (aX (.loop 3 pd f ps a b) o t) n)) (.ret fr (.mk (aX (.loop 3 pd f ps a b) o t) n)) (λid=>.ext id fr (.mk (aX (.loop 3 pd f ps a b) o t) n)) pd) (.bad 41) (Nat.beq st 1))) (ax o t)) h
noncomputable def Ly(f:a6)(params:List ab)(assign body:C)(call:Call)(fr:FT)(h:H):aa :=
 newObj (.loop 0 .no fr params assign body) h λo h=>(f.ev fr).onFnY (λg a c=>must 12 (Nat.blt g 8191) (call (ae g) (cZ a (.yld o::c)) h λ_ h=>endLoop o fr h)) (λ_=>.bad 42)
noncomputable def SL(l:L):Call→FT→H→aa:=acR l.run
noncomputable def Wl(_ _:C)(a b:Call→FT→H→aa):Call→FT→H→aa:=aaq a b
noncomputable def QU(c:a6)(_ _:C)(a b:Call→FT→H→aa):Call→FT→H→aa:=Vt c a b
noncomputable def Ma(id:Nat)(_:C)(b:Call→FT→H→aa):Call→FT→H→aa:=P1 id b
noncomputable def Rc(_:C)(b:Call→FT→H→aa):Call→FT→H→aa:=VF b
noncomputable def Kd(f:a6)(params:List ab)(assign body:C)(_ _:Call→FT→H→aa):Call→FT→H→aa:=Ly f params assign body
noncomputable def C.run(c:C):Call→FT→H→aa:=C.rec (motive:=λ_=>Call→FT→H→aa) VK SL Wl QU Ma Rc W6 adE sno Kd c
noncomputable def endRound(o:ab)(j:gk)(h:H)(k:af):aa :=
 H.rec (motive:=λ_=>aa) (λt n=>Obj.rec (motive:=λ_=>aa) (.bad 43) (λ_ _=>.bad 43) (λ_ _=>.bad 43) (.bad 43) (λst _ f ps a b =>
  must 12 (Nat.blt st 4) (gk.rec (motive:=λ_=>aa) (k (.bool true) (.mk (aX (.loop 0 .no f ps a b) o t) n)) (k (.bool false) (.mk (aX (.loop 2 .ret f ps a b) o t) n)) (λid=>k (.bool false) (.mk (aX (.loop 2 (.exit id) f ps a b) o t) n)) j)) (ax o t)) h
noncomputable def beginRound(o:ab)(h:H)(k:H→aa):aa :=
 H.rec (motive:=λ_=>aa) (λt n=>Obj.rec (motive:=λ_=>aa) (.bad 44) (λ_ _=>.bad 44) (λ_ _=>.bad 44) (.bad 44) (λst pd f ps a b=>must 12 (Nat.beq st 0) (k (.mk (aX (.loop 1 pd f ps a b) o t) n))) (ax o t)) h
noncomputable def qH(l:List RV)(fr:FT)(h:H):(List AV→aa)→aa :=
 List.rec (motive:=λ_=>(List AV→aa)→aa) (λk=>k []) (λx _ ih k=>RV.rec (motive:=λ_=>aa) (λp=>ih λt=>k (b6 p fr::t)) (λp=>(b6 p fr).onPtr λo i=>cellsOf o h λcs _=>nthC cs i λv=>ih λt=>k (v::t)) (λp n=>(b6 p fr).onPtr λo i=>cellsOf o h λcs _=>ldropC i cs λcs=>ltake n cs λcs=>ih λt=>k (.agg cs::t)) x) l
noncomputable def one(vs:List AV):AV:=List.rec (motive:=λ_=>AV) (.tup []) (λv t _=>List.rec (motive:=λ_=>AV) v (λw u _=>.tup (v::w::u)) t) vs
noncomputable def bP(ps:List ab):List AV→FT→(FT→aa)→aa :=
 List.rec (motive:=λ_=>List AV→FT→(FT→aa)→aa) (λvs fr k=>List.rec (motive:=λ_=>aa) (k fr) (λ_ _ _=>.bad 24) vs) (λq _ ih vs fr k=>List.rec (motive:=λ_=>aa) (.bad 24) (λv t _=>ih t (kh v q fr) k) vs) ps
noncomputable def PU(params:List ab)(body:Call→FT→H→aa)(res:List RV)(call:Call)(args:List AV)(h:H)(k:af):aa:=bP params args .leaf λfr=>aa.rec (motive:=λ_=>aa) (λfr h=>qH res fr h λvs=>k (one vs) h) (λ_ _ _=>.bad 25) (λfr h=>qH res fr h λvs=>k (one vs) h) (λ_ _=>.bad 26) .bad (body call fr h)
noncomputable def enter(fn:Fn):Call→List AV→H→af→aa:=Fn.rec (motive:=λ_=>Call→List AV→H→af→aa) (λparams body res=>PU params body.run res) fn
noncomputable def H1(p:ab):Tb→nq :=
 ab.rec (motive:=λ_=>Tb→nq) (Tb.rec (motive:=λ_=>nq) .none (λ_ v _ _ _=>v)) (λ_ ih=>Tb.rec (motive:=λ_=>nq) .none (λl _ _ _ _=>ih l)) (λ_ ih=>Tb.rec (motive:=λ_=>nq) .none (λ_ _ r _ _=>ih r)) p
noncomputable def ft(o:ab)(r:aa)(k:af):aa :=
 aa.rec (motive:=λ_=>aa) (λ_ h=>endRound o .no h k) (λid _ h=>endRound o (.exit id) h k) (λ_ h=>endRound o .ret h k) (λ_ _=>.bad 45) .bad r
noncomputable def round(call:Call)(args:List AV)(h:H)(k:af):aa :=
 List.rec (motive:=λ_=>aa) (.bad 46) (λy vs _=>y.onFnY (λ_ _ _=>.bad 46) λo=>H.rec (motive:=λ_=>aa) (λt _=>Obj.rec (motive:=λ_=>aa) (.bad 47) (λ_ _=>.bad 47) (λ_ _=>.bad 47) (.bad 47) (λst _ f ps a b =>
  must 12 (Nat.blt st 4) (bP ps vs f λfr=>aa.rec (motive:=λ_=>aa) (λfr h=>beginRound o h λh=>ft o (b.run call fr h) k) (λ_ _ _=>.bad 48) (λ_ _=>.bad 48) (λ_ _=>.bad 48) .bad (a.run call fr h))) (ax o t)) h) args
noncomputable def d6(T:Tb)(fuel:Nat):Call :=
 Nat.rec (motive:=λ_=>Call) (λ_ _ _ _=>.bad 27) (λ_ ih p args h k=>nq.rec (motive:=λ_=>aa) (.bad 28) (λfn=>enter fn ih args h k) (λg=>g ih args h k) (round ih args h k) (H1 p T)) fuel
end Go.Ai
namespace Go.Ai
noncomputable section
def Bk(B4:Value→Option AV):List Value→Option (List AV)
 | []=>some []
 | v::t=>(B4 v).bind λa=>(Bk B4 t).map λu=>a::u
def Ef:Value→Option AV
 | .bool b=>some (.bool b)
 | .int k n=>some (.int k n)
 | .string s=>some (.str (s.data.toList.map (·.toNat)))
 | .pointer none=>some .nilp
 | .slice none 0 0=>some .nils
 | .map none=>some .nilm
 | .nilFunc=>some .nilf
 | .nilIface=>some .nili
 | .func (.func f) a c=>if a.size=0&&c.size=0 then some (.fn f [] []) else none
 | _=>none
def B4:Value→Option AV
 | .agg cs=>(Bk Ef cs.toList).map .agg
 | v=>Ef v
def L9(n:Nat):Tm:=⟨ae n,b6 (ae n),λv=>kh v (ae n),λ_=>rfl,λ_ _=>rfl⟩
def bg(N:Nat):Operand→Option a6
 | .tmp t=>if t<N then some (.tmp (L9 t)) else none
 | .const v=>(B4 v).map .const
 | .func f=>some (.const (.fn f [] []))
 | .global _=>none
def opds(N:Nat):List Operand→Option (List a6)
 | []=>some []
 | x::t=>(bg N x).bind λa=>(opds N t).map λu=>a::u
def opo(N:Nat):Option Operand→Option mi
 | none=>some .no
 | some x=>(bg N x).map .it
def bB(P:Program)(t:TypeId):Option Nat:=((P.info? t).map (·.size)).bind λn=>if n=0 then none else some n
def ry(P:Program)(t:TypeId):Option AV:=((P.info? t).bind (·.zero)).bind B4
def fW(P:Program)(t:TypeId):Option Bool:=match P.underlying t with | some (.struct _) | some (.array _ _)=>some true | some _=>some false | none=>none
def bE(P:Program)(t:TypeId):Option (List AV):=(ry P t).map (·.cells)
def parts(N:Nat)(place:Nat→Option (Nat × Nat)):List (Nat × Operand)→Option (List iC)
 | []=>some []
 | (i,x)::t=>(place i).bind λp=>(if p.2=0 then none else bg N x).bind λx=>(parts N place t).map λu=>⟨p.1,p.2,x⟩::u
def zD(qC:TypeId→Option (List Nat)):List Field→Nat→Option (List Nat)
 | [],_=>some []
 | f::t,off=>if f.name ≠ "_" ∧ f.offset=off then (qC f.type).bind λa=>(zD qC t (off+a.length)).map λb=>a++b else none
def qC(P:Program):Nat→TypeId→Option (List Nat)
 | 0,_=>none
 | n+1,t=>match P.underlying t with
  | some .bool=>some [0]
  | some (.int _)=>some [1]
  | some .string=>some [2]
  | some (.struct fs)=>if P.stoodInHeld t then none else (zD (λu=>(qC P n u).bind λl=>if bB P u=some l.length then some l else none) fs.toList 0)
  | _=>none
def ov:Nat→Operand→Bool
 | 0,.const (.pointer none)=>true
 | 1,.const (.slice none 0 0)=>true
 | 2,.const (.map none)=>true
 | 3,.const .nilFunc=>true
 | 4,.const .nilIface=>true
 | _,_=>false
def il:Option TypeDesc→Option Nat
 | some (.pointer _)=>some 0
 | some (.slice _)=>some 1
 | some (.map ..)=>some 2
 | some (.func ..)=>some 3
 | some (.interface _)=>some 4
 | _=>none
def m5(P:Program)(neg:Bool)(t:TypeId)(x y:Operand)(a b:a6):Option O :=
 (il (P.underlying t)).bind λk=>if ov k y then some (.isnil k neg a) else if ov k x then some (.isnil k neg b) else none
def ym(P:Program)(N:Nat)(op:BinOp)(t:TypeId)(x y:Operand):Option O :=
 (bg N x).bind λa=>(bg N y).bind λb =>
 match P.underlying t,op with
 | some (.int _),.add=>some (.iadd a b)
 | some (.int _),.sub=>some (.isub a b)
 | some (.int _),.mul=>some (.imul a b)
 | some (.int _),.quo=>some (.iquo a b)
 | some (.int _),.rem=>some (.irem a b)
 | some (.int _),.and=>some (.iand a b)
 | some (.int _),.or=>some (.ior a b)
 | some (.int _),.shl=>some (.ishl a b)
 | some (.int _),.shr=>some (.ishr a b)
 | some (.int _),.lss=>some (.cmp false false a b)
 | some (.int _),.gtr=>some (.cmp false true a b)
 | some (.int _),.geq=>some (.cmp true false a b)
 | some (.int _),.leq=>some (.cmp true true a b)
 | some (.int _),.eql=>some (.ieq false a b)
 | some (.int _),.neq=>some (.ieq true a b)
 | some .string,.add=>some (.sadd a b)
 | some .string,.eql=>some (.seq false a b)
 | some .string,.neq=>some (.seq true a b)
 | some .string,.lss=>some (.slt a b)
 | some .bool,.eql=>some (.eqv false false [0] a b)
 | some .bool,.neq=>some (.eqv true false [0] a b)
 | some (.struct _),.eql=>if P.eqGuardType P.depth t then none else (qC P 20 t).map λks=>.eqv false true ks a b
 | some (.struct _),.neq=>if P.eqGuardType P.depth t then none else (qC P 20 t).map λks=>.eqv true true ks a b
 | some (.pointer e),.eql=>if ov 0 x||ov 0 y then m5 P false t x y a b else (bB P e).map λ_=>.peq false a b
 | some (.pointer e),.neq=>if ov 0 x||ov 0 y then m5 P true t x y a b else (bB P e).map λ_=>.peq true a b
 | _,.eql=>m5 P false t x y a b
 | _,.neq=>m5 P true t x y a b
 | _,_=>none
def mg(P:Program)(N:Nat)(b:Builtin)(ts:List TypeId)(args:List Operand):Option O :=
 match b,args with
 | .len,[x]=>(bg N x).bind λa=>match (ts.head?).bind P.underlying with
  | some .string=>some (.lenStr a)
  | some (.slice _)=>some (.len a)
  | some (.map ..)=>some (.lenMap a)
  | some (.array n _)=>some (.lenC n)
  | _=>none
 | .append,[x,y]=>match (ts.head?).bind P.underlying,(ts[1]?).bind P.underlying with
  | some (.slice e),some (.slice _) | some (.slice e),some .string =>
   (bB P e).bind λs=>(P.info? e).bind λi=>(bE P e).bind λz=>(bg N x).bind λa=>(bg N y).bind λb=>if z.length == s&&s<65536&&e<4294901760 then some (.append s i.bytes (if s=1 then 65536+e else s) a b) else none
  | _,_=>none
 | .copy,[x,y]=>match (ts.head?).bind P.underlying with
  | some (.slice e)=>(bB P e).bind λs=>(bg N x).bind λa=>(bg N y).map λb=>.copy s a b
  | _=>none
 | .cap,[x]=>match (ts.head?).bind P.underlying with
  | some (.slice _)=>(bg N x).map .capS
  | _=>none
 | .unsafeSliceData,[x]=>(bg N x).map .sdata
 | .unsafeString,[x,y]=>match (ts.head?).bind P.underlying with
  | some (.pointer u)=>(bg N x).bind λa=>(bg N y).bind λb=>if bB P u=some 1&&u<4294901760 then some (.ubs (65536+u) a b) else none
  | _=>none
 | .clear,[x]=>match (ts.head?).bind P.underlying with
  | some (.slice e)=>(bE P e).bind λz=>(bg N x).map λa=>.clear z a
  | _=>none
 | .max,[x,y]=>(bg N x).bind λa=>(bg N y).map λb=>.imax a b
 | .min,[x,y]=>(bg N x).bind λa=>(bg N y).map λb=>.imin a b
 | _,_=>none
def gt(P:Program)(N:Nat)(o:Op):Option O :=
 match o with
 | .move x | .assign x=>(bg N x).map .mov
 | .pick c a b=>(bg N c).bind λc=>(bg N a).bind λa=>(bg N b).map λb=>.pick c a b
 | .alloc t=>(bE P t).map (.alloc (4294967296+t))
 | .box _ x=>(bg N x).map .box
 | .build t ps=>(bE P t).bind λz=>match P.underlying t with
  | some (.struct fs)=>(fs.toList.mapM λf=>(P.info? f.type).map λi=>(f.offset,i.size)).bind λplaces=>(parts N (λi=>places.toArray[i]?) ps.toList).map λq=>.build z q
  | some (.array _ e)=>(bB P e).bind λs=>(parts N (λi=>some (i*s,s)) ps.toList).map λq=>.build z q
  | _=>none
 | .buildSlice t len ps=>match P.underlying t with
  | some (.slice e)=>(bB P e).bind λs=>(bE P e).bind λz=>(parts N (λi=>some (i*s,s)) ps.toList).bind λq =>
   if len*s≤2^20&&z.length == s then some (.buildSlice len (eQ z len) q) else none
  | _=>none
 | .load t a=>(bg N a).bind λx=>(fW P t).bind λg=>if g then (bB P t).map λn=>.loadA n x else some (.loadS x)
 | .store t a v=>(bg N a).bind λx=>(bg N v).bind λy=>(bB P t).map λn=>.store n x y
 | .nilCheck x=>(bg N x).map .nilCheck
 | .binOp op t x y _=>ym P N op t x y
 | .unOp .not _ x=>(bg N x).map .not
 | .unOp .neg t x=>match P.underlying t with | some (.int _)=>(bg N x).map .neg | _=>none
 | .convert s d x=>(bg N x).bind λa=>match P.underlying s,P.underlying d with
  | some (.int _),some (.int k)=>some (.convI k a)
  | some .string,some .string=>some (.sliceStr a .no .no)
  | some (.slice e),some .string=>(match P.underlying e with | some (.int .u8)=>some (.b2s a) | _=>none)
  | some .string,some (.slice e)=>(match P.underlying e with | some (.int .u8)=>if e<4294901760 then some (.s2b (65536+e) a) else none | _=>none)
  | some (.pointer t),some .unsafePointer=>(bB P t).map λ_=>.p2u a
  | some .unsafePointer,some (.pointer u)=>(bB P u).map λn=>.u2p (4294967296+u) n a
  | _,_=>none
 | .makeFunc (.func f) a c=>(opds N a.toList).bind λa=>(opds N c.toList).map λc=>.mkFunc f a c
 | .makeMap _ none=>some .mkMap
 | .makeSlice t l c=>match P.underlying t with
  | some (.slice e)=>(bB P e).bind λs=>(P.info? e).bind λi=>(bE P e).bind λz=>(bg N l).bind λl=>(bg N c).bind λc =>
   if z.length == s then some (.mkSlice s i.bytes z l c) else none
  | _=>none
 | .slice t x lo hi mx=>(bg N x).bind λa=>(opo N lo).bind λl=>(opo N hi).bind λh=>(opo N mx).bind λm=>match P.underlying t,m with
  | some .string,.no=>some (.sliceStr a l h)
  | some (.slice e),_=>if hi.isNone&&mx.isSome then none else (bB P e).map λs=>.sliceSlc s a l h m
  | some (.array n e),.no=>(bB P e).map λs=>.sliceArr n s a l h
  | _,_=>none
 | .fieldAddr s x f=>(bg N x).bind λa=>match P.underlying s with
  | some (.struct fs)=>(fs[f]?).bind λf=>(bB P f.type).map λ_=>.faddr f.offset a
  | _=>none
 | .field s x f=>(bg N x).bind λa=>match P.underlying s with
  | some (.struct fs)=>(fs[f]?).bind λf=>(bB P f.type).bind λn=>(fW P f.type).map λg=>.field f.offset n g a
  | _=>none
 | .indexAddr t x i=>(bg N x).bind λa=>(bg N i).bind λb=>match P.underlying t with
  | some (.slice e)=>(bB P e).map λs=>.iaddrS s a b
  | some (.array n e)=>(bB P e).map λs=>.iaddrA n s a b
  | _=>none
 | .index t x i=>(bg N x).bind λa=>(bg N i).bind λb=>match P.underlying t with
  | some .string=>some (.indexStr a b)
  | some (.array n e)=>(bB P e).bind λs=>(fW P e).map λg=>.indexArr n s g a b
  | _=>none
 | .lookup t x k ok=>(bg N x).bind λa=>(bg N k).bind λb=>match P.underlying t with
  | some (.map kt e)=>(match P.underlying kt with | some .string=>(ry P e).map λz=>.lookup true z ok a b | some (.int _)=>(ry P e).map λz=>.lookup false z ok a b | _=>none)
  | _=>none
 | .mapUpdate t m k v | .insert t m k v=>(bg N m).bind λa=>(bg N k).bind λb=>(bg N v).bind λc=>match P.underlying t with
  | some (.map kt _)=>(match P.underlying kt with | some .string=>some (.mapUpd true a b c) | some (.int _)=>some (.mapUpd false a b c) | _=>none)
  | _=>none
 | .range t x=>match P.underlying t with
  | some (.map ..)=>(bg N x).map .rangeE
  | _=>none
 | .next x false=>(bg N x).map .nextE
 | .extract x i=>(bg N x).map λa=>.extract i a
 | .call c=>match c.callee with
  | .value (.func f)=>if f<8191 then (opds N c.args.toList).map λa=>.call (ae f) a else none
  | .value x=>(bg N x).bind λx=>(opds N c.args.toList).map λa=>.callv x a
  | .builtin b=>mg P N b c.argTypes.toList c.args.toList
  | .invoke ..=>none
 | _=>none
def gK:O:=.callv (.const .undef) []
def nn(N:Nat):Option Tmp→Option D
 | none=>some .no
 | some t=>if t<N then some (.to (L9 t)) else none
def gj(N:Nat)(ops:Array Oper):Option (Nat × Bool)→Option G
 | none=>some .no
 | some (j,want)=>((ops[j]?).bind (·.dst)).bind λt=>if t<N then some (.on (L9 t) want) else none
inductive aaD | eff | alloc | read | pure
 deriving DecidableEq
def cz(o:O):aaD :=
 match o with
 | .store .. | .mapUpd .. | .call .. | .callv .. | .append .. | .copy .. | .ubs .. | .clear .. | .p2u .. | .u2p .. | .rangeE .. | .nextE ..=>.eff
 | .alloc .. | .box .. | .buildSlice .. | .mkSlice .. | .mkMap | .s2b ..=>.alloc
 | .loadS .. | .loadA .. | .lookup .. | .lenMap .. | .b2s ..=>.read
 | _=>.pure
def region(P:Program)(N:Nat)(ops:Array Oper):List Oper→L
 | []=>.nil
 | o::t=>match nn N o.dst,gj N ops o.guard with
  | some d,some g=>.op d g ((gt P N o.op).getD gK) (region P N ops t)
  | _,_=>.op .no .no gK .nil
def yn:Nat→Nat→Nat→List Nat
 | 0,_,_=>[]
 | f+1,i,m=>match Nat.beq m 0 with
  | true=>[]
  | false=>match Nat.beq (Nat.mod m 2) 1 with
   | true=>i::yn f (Nat.succ i) (Nat.div m 2)
   | false=>yn f (Nat.succ i) (Nat.div m 2)
def Cf(n:Nat)(b:List Nat):List Nat→Nat→List Nat
 | [],m=>yn n 0 (Nat.sub (Nat.sub (2^n) 1) m)
 | e::t,m=>match Nat.sub (b.getD e 0) (Nat.land (b.getD e 0) m) with
  | x=>yn n 0 x++(match Nat.testBit m e with | true=>Cf n b t (Nat.lor m x) | false=>e::Cf n b t (Nat.lor (Nat.lor m x) (2^e)))
def jX(n:Nat)(b:Array Nat)(effs:List Nat):List Nat:=Cf n b.toList effs 0
def i1(ops:Array Oper)(o:Oper):List Tmp :=
 (o.op.operands.toList.filterMap fun | .tmp t=>some t | _=>none)++(match o.guard with | some (g,_)=>(((ops[g]?).bind (·.dst)).toList) | none=>[])
def i5:a6→List ab
 | .tmp x=>[x.p]
 | .const _=>[]
def Hk:mi→List ab
 | .it x=>i5 x
 | .no=>[]
def OW(p:iC):List ab:=i5 p.x
def O.tmps(o:O):List ab :=
 match o with
 | .mov x | .box x | .loadS x | .loadA _ x | .nilCheck x | .isnil _ _ x | .not x | .neg x | .convI _ x | .b2s x | .s2b _ x | .faddr _ x | .field _ _ _ x | .extract _ x | .len x | .lenStr x | .lenMap x | .clear _ x | .rangeE x | .nextE x | .sdata x | .p2u x | .u2p _ _ x | .capS x=>i5 x
 | .pick c a b=>i5 c++i5 a++i5 b
 | .alloc _ _ | .mkMap | .lenC _=>[]
 | .build _ ps | .buildSlice _ _ ps=>ps.flatMap OW
 | .store _ x y | .iadd x y | .isub x y | .imul x y | .iquo x y | .irem x y | .iand x y | .ior x y | .ishl x y | .ishr x y | .cmp _ _ x y | .ieq _ x y | .sadd x y | .seq _ x y | .slt x y | .eqv _ _ _ x y
  | .mkSlice _ _ _ x y | .iaddrS _ x y | .iaddrA _ _ x y | .indexStr x y | .indexArr _ _ _ x y | .lookup _ _ _ x y | .append _ _ _ x y | .copy _ x y | .imax x y | .imin x y | .ubs _ x y | .peq _ x y=>i5 x++i5 y
 | .sliceStr x l h | .sliceArr _ _ x l h=>i5 x++Hk l++Hk h
 | .sliceSlc _ x l h m=>i5 x++Hk l++Hk h++Hk m
 | .mapUpd _ m k v=>i5 m++i5 k++i5 v
 | .mkFunc _ a c=>a.flatMap i5++c.flatMap i5
 | .call _ a=>a.flatMap i5
 | .callv f a=>i5 f++a.flatMap i5
def AV.at:AV→List ab
 | .ptr o _=>[o]
 | .slc o _ _ _=>[o]
 | .map o=>[o]
 | _=>[]
def O.main:O→Option a6
 | .loadS x | .loadA _ x | .lookup _ _ _ x _ | .lenMap x | .b2s x=>some x
 | _=>none
def s7(o:O):Bool:=match o.main with
 | some (.const v)=>v.at.isEmpty
 | _=>true
def dh(P:Program)(N:Nat)(o:Oper):O:=(gt P N o.op).getD gK
def isEff(P:Program)(N:Nat)(ops:Array Oper)(i:Nat):Bool:=((ops[i]?).map λo=>cz (dh P N o) == .eff).getD true
def sD(ops:Array Oper)(b:Array Nat)(i:Nat)(o:Oper):Bool :=
 ops.toList.zipIdx.all λ(o',j)=>j == i||(match o'.dst with
  | none=>true
  | some d=>o.dst != some d&&(!(i1 ops o).contains d||(b.getD i 0).testBit j||(b.getD j 0).testBit i))
def kZ(P:Program)(N:Nat)(ops:Array Oper)(b:Array Nat):List Nat→Nat→Bool
 | [],m=>(List.range ops.size).all λi=>m.testBit i
 | i::t,m=>match ops[i]? with
  | none=>false
  | some o=>!m.testBit i&&((b.getD i 0) &&& m == b.getD i 0)&&(!isEff P N ops i||b.getD i 0 == m)&&sD ops b i o&&(dh P N o).tmps.all (λp=>(i1 ops o).any λt=>decide (t<N)&&ab.beq p (ae t))&&s7 (dh P N o)&&kZ P N ops b t (m ||| 2^i)
def gS(P:Program)(N:Nat)(ops:Array Oper)(b:Array Nat):List Nat→List Nat→L
 | [],_=>.nil
 | i::t,es=>match ops[i]? with
  | none=>.op .no .no gK .nil
  | some o=>match nn N o.dst,gj N ops o.guard with
   | some d,some g =>
    let q:=dh P N o
    match cz q with
    | .eff=>.dop d g q 0 true false (gS P N ops b t (i::es))
    | .read=>.dop d g q (es.takeWhile λe=>!(b.getD i 0).testBit e).length false false (gS P N ops b t es)
    | .alloc=>.dop d g q 0 false true (gS P N ops b t es)
    | .pure=>.dop d g q 0 false false (gS P N ops b t es)
   | _,_=>.op .no .no gK .nil
def fR(P:Program)(N:Nat)(ops:Array Oper):L :=
 let b:=Region.before ops
 let order:=jX ops.size b ((List.range ops.size).filter (isEff P N ops))
 if order.length == ops.size&&kZ P N ops b order 0 then gS P N ops b order [] else .op .no .no gK .nil
def ze(N:Nat)(c:C):C:=.cond (.const (.bool true)) c (.no N)
def code(P:Program)(N:Nat):Code→C
 | .skip=>.skip
 | .region _ ops false=>.reg (region P N ops ops.toList)
 | .region _ ops true=>.reg (fR P N ops)
 | .seq a b=>.seq (code P N a) (code P N b)
 | .cond c a b=>match bg N c with | some x=>.cond x (code P N a) (code P N b) | none=>.no 33
 | .block id b=>.block id (code P N b)
 | .loop b=>.loop (code P N b)
 | .exit id=>.exit id
 | .scope b=>code P N b
 | .label _=>.skip
 | .ret=>.ret
 | .goto _=>.no 30
 | .rangeFunc f ps a b=>match bg N f with | some x=>if ps.all (· < N) then .rangeF x (ps.toList.map ae) (ze N (code P N a)) (code P N b) else .no 31 | none=>.no 31
 | .refuse _=>.no 32
def rv(P:Program)(N:Nat):ResultVar→Option RV
 | .tmp t=>if t<N then some (.tmp (ae t)) else none
 | .cell a t=>if N≤a then none else (fW P t).bind λg=>if g then (bB P t).map λn=>.agg (ae a) n else some (.cell (ae a))
def K7(P:Program)(N:Nat):List ResultVar→Option (List RV)
 | []=>some []
 | x::t=>(rv P N x).bind λa=>(K7 P N t).map λu=>a::u
def fn(P:Program)(f:Func):Option Fn :=
 f.body.bind λb=>(K7 P f.ntmps f.results.toList).bind λr=>if f.params.size+f.nfree≤f.ntmps&&f.ntmps≤1048576 then some { params:=(List.range (f.params.size+f.nfree)).map ae,body:=code P f.ntmps b,res:=r } else none
end
end Go.Ai
