/- Operations: making, converting, appending, copying. Operations: append. Operations: make, copy, clear, maps. Operations: maps. Operations of strings.Builder: unsafe pointers, unsafe.String, unsafe.SliceData, cap. What the compiler makes of an operation is good. Calls, and the operations of a frame. Regions in their written order. The control flow of a frame. A loop over a function. Functions: entry and end. Functions and rounds: the entries of the table do what the interpreter says. -/
import Derived.Test.YtdnehjkbflffcaaGreatDoorA1
import Derived.Laws.BytesString
import Derived.Laws.IdiomStrings
import Derived.Laws.AppendOwn
import Derived.IntWalk
import Derived.MapKept
import Derived.Lib.UnsafeStr
import Derived.OrdersIn
import Derived.LoopNIn
import Derived.ControlIn
import Derived.RangeFuncLeaves
set_option linter.unusedVariables false
set_option autoImplicit false
namespace Go.Ai
set_option linter.unusedSectionVars false
variable [Nu]
open Go
variable {P:Program}{N:Nat}{ε : bu}{m:cJ}{w:World}{x y:Operand}{a b:a6}
theorem mt(v:AV):(∀ z kk,bq (v.onSlcZ z kk))∨(v = .nils∨∃ o i,v = .sle o i)∨∃ o i n c,v = .slc o i n c:=by
 cases v <;> first | exact .inr (.inr ⟨_,_,_,_,rfl⟩) | exact .inr (.inl (.inl rfl)) | exact .inr (.inl (.inr ⟨_,_,rfl⟩)) | exact .inl λ_ _=>⟨_,rfl⟩
theorem iq(size:Nat)(v:AV)(n:Nat)(h:H):(∀ k,bq (sliceCells size v n h k))∨∃ cs:List AV,(∀ k,sliceCells size v n h k=k cs)∧cs.length=n*size ∧
  ∀ (ε : bu) (w:World) (V:Value),R ε h.mem v V→bX P ε h.mem w→∃ L:List Value,Rs ε h.mem cs L∧∃ A l c,V = .slice A l c∧n≤l∧(Builtin.firstCells size n V).run P w = .ok L.toArray w∧(∀ ad,A=some ad→(loadCells ad (n*size)).run P w = .ok L.toArray w)∧∀ ad,A=some ad→∀ j v,L[j]? = some v→w.cell? (ad.add j)=some v:=by
 have e0:∀ k,sliceCells size v n h k=v.onSlcZ (must 12 (Nat.beq n 0) (k [])) λo i m _=>must 12 (Nat.ble n m) (cellsOf o h λcs _=>ldropC i cs λcs=>ltake (n*size) cs k):=λ_=>rfl
 simp only[e0]
 rcases mt v with hb|hz|⟨o,i,l,c,rfl⟩
 ·exact .inl λ_=>hb _ _
 ·have e1:∀ k:List AV→aa,v.onSlcZ (must 12 (Nat.beq n 0) (k [])) (λo i m _=>must 12 (Nat.ble n m) (cellsOf o h λcs _=>ldropC i cs λcs=>ltake (n*size) cs k))=must 12 (Nat.beq n 0) (k []):=λk=>by rcases hz with rfl|⟨o,i,rfl⟩ <;> rfl
  simp only[e1]
  rcases ay 12 (Nat.beq n 0)with hb|⟨h1,h2⟩
  ·exact .inl λ_=>hb _
  simp only[h2]
  have hn:=Nat.eq_of_beq_eq_true h1
  subst hn
  refine .inr ⟨[],λ_=>rfl,by simp,fun ε w V r hh=>⟨[],rfl,?_⟩⟩
  rcases hz with rfl|⟨o,i,rfl⟩
  ·simp only[R]at r;subst r
   exact⟨none,0,0,rfl,Nat.le_refl _,by simp[Builtin.firstCells],λad h=>(by cases h),λad h=>(by cases h)⟩
  ·simp only[R]at r
   obtain⟨_,A,rfl,_⟩:=r
   exact⟨some A,0,_,rfl,Nat.le_refl _,by simp[Builtin.firstCells,loadCells,loadCellsFrom],λad h=>(by simp[loadCells,loadCellsFrom]),λad h j v hj=>(by simp at hj)⟩
 ·show (∀ k,bq (must 12 (Nat.ble n l) (cellsOf o h λcs _=>ldropC i cs λcs=>ltake (n*size) cs k)))∨∃ cs,(∀ k,must 12 (Nat.ble n l) (cellsOf o h λcs _=>ldropC i cs λcs=>ltake (n*size) cs k)=k cs)∧_
  rcases ay 12 (Nat.ble n l)with hb|⟨h1,h2⟩
  ·exact .inl λ_=>hb _
  simp only[h2]
  rcases bZ o h with hb|⟨cs,es,h3,h4⟩
  ·exact .inl λ_=>hb _
  simp only[h4]
  rcases fe i cs with hb|⟨h5,h6⟩
  ·exact .inl λ_=>hb _
  simp only[h6]
  rcases ig (n*size) (cs.drop i)with hb|⟨h7,h8⟩
  ·exact .inl λ_=>hb _
  simp only[h8]
  refine .inr ⟨_,λ_=>rfl,by simp;simp at h7;omega,fun ε w V r hh=>?_⟩
  simp only[R]at r
  obtain⟨L,hl,rl,hc⟩:=(hh.cells o cs es h3).vals i (n*size) (by simp at h7;omega)
  have hld:=run_loadCells_list (P:=P) w (ε.addr o i) L hc
  rw[hl]at hld
  refine⟨L,rl,some (ε.addr o i),l,_,r.2,dV h1,?_,(λad h=>by cases h;exact hld),λad h=>by cases h;exact hc⟩
  rw[r.2];simp[Builtin.firstCells,hld]
theorem uk(cs:List AV):(∀ k,bq (bytesC cs k))∨∃ l:List Nat,(∀ k,bytesC cs k=k l)∧cs=(l.map λn:Nat=>AV.int .u8 (n:Int))∧∀ n ∈ l,n<256:=by
 induction cs with
 | nil=>exact .inr ⟨[],λ_=>rfl,rfl,by simp⟩
 | cons v t ih =>
  have e0:∀ k,bytesC (v::t) k=v.onInt λkd n=>must 12 (Nat.beq kd.ctorIdx 4) (natOf n λm=>must 12 (Nat.blt m 256) (bytesC t λt=>k (m::t))):=λ_=>rfl
  simp only[e0]
  rcases fq v with hb|⟨kd,n,rfl⟩
  ·exact .inl λ_=>hb _
  have e1:∀ k:List Nat→aa,(AV.int kd n).onInt (λkd n=>must 12 (Nat.beq kd.ctorIdx 4) (natOf n λm=>must 12 (Nat.blt m 256) (bytesC t λt=>k (m::t))))=must 12 (Nat.beq kd.ctorIdx 4) (natOf n λm=>must 12 (Nat.blt m 256) (bytesC t λt=>k (m::t))):=λ_=>rfl
  simp only[e1]
  rcases ay 12 (Nat.beq kd.ctorIdx 4)with hb|⟨h1,h2⟩
  ·exact .inl λ_=>hb _
  simp only[h2]
  have hk:kd = .u8:=by cases kd <;> first | rfl | cases h1
  subst hk
  rcases oT n with hb|⟨i,rfl,h3⟩
  ·exact .inl λ_=>hb _
  simp only[h3]
  rcases ay 12 (Nat.blt i 256)with hb|⟨h6,h7⟩
  ·exact .inl λ_=>hb _
  simp only[h7]
  have hi:=eP h6
  rcases ih with hb|⟨l,h4,h5,h8⟩
  ·exact .inl λ_=>hb _
  ·exact .inr ⟨i::l,λk=>h4 _,by rw[h5];rfl,λn hn=>by
    rcases List.mem_cons.1 hn with rfl|hn
    ·exact hi
    ·exact h8 n hn⟩
theorem uA{l:List Nat}(h:∀ n ∈ l,n<256):aD l=⟨(l.map Nat.toUInt8).toArray⟩:=by
 unfold aD
 rw[List.map_congr_left λn hn=>Nu.lo n (h n hn)]
theorem Cu(l:List Nat):∀ s:ByteArray,(l.map (λn:Nat=>(n:Int))).foldl (λr n=>r.push (UInt8.ofNat n.toNat)) s=⟨s.data++(l.map Nat.toUInt8).toArray⟩:=by
 induction l with
 | nil=>intro s;simp
 | cons n l ih =>
  intro s
  simp only[List.map_cons,List.foldl_cons,Int.toNat_natCast]
  rw[ih]
  apply ByteArray.ext
  apply Array.ext'
  simp[ByteArray.push]
theorem Rs.bytes{l:List Nat}:∀ {L:List Value},Rs ε m (l.map λn:Nat=>AV.int .u8 (n:Int)) L→L=(l.map (λn:Nat=>(n:Int))).map (Value.int .u8):=by
 induction l with
 | nil=>intro L r;simp[Rs]at r;simp[r]
 | cons n l ih =>
  intro L r
  simp only[List.map_cons,Rs]at r
  obtain⟨V,U,rfl,rv,rt⟩:=r
  simp only[R]at rv
  rw[rv,ih rt];rfl
theorem H4{s d e:TypeId}(hx:bg N x=some a)(hs:P.underlying s=some (.slice e))(hd:P.underlying d=some .string)(he:P.underlying e=some (.int .u8)):bm P N (.b2s a) (.convert s d x):=by
 rintro oper ho call fr h
 show an (λk=>(a.ev fr).lenC λn=>sliceCells 1 (a.ev fr) n h λcs=>bytesC cs λl=>k (.str l) h) _
 rcases ui (a.ev fr)with hb|⟨n,e1,e2⟩
 ·exact .inl λ_=>hb _
 simp only[e1]
 rcases iq (P:=P) 1 (a.ev fr) n h with hb|⟨cs,e3,e4,e5⟩
 ·exact .inl λ_=>hb _
 simp only[e3]
 rcases uk cs with hb|⟨l,e6,e7,e8⟩
 ·exact .inl λ_=>hb _
 simp only[e6]
 refine an.now (bV.same fun ε T D w hT hF hh=>⟨_,rfl,?_⟩)
 have h1:=au hx hT hF D
 obtain⟨A0,c0,h2⟩:=e2 ε _ _ h1
 obtain⟨L,r,A,ln,c,h3,h4,h5,h6,_⟩:=e5 ε w _ h1 hh
 rw[h2]at h3
 cases h3
 rw[e7]at r
 have hL:=r.bytes
 have hlen:l.length=n:=by rw[e7]at e4;simpa using e4
 simp only[execOp,ho,Sem.run_bind,h2]
 rw[run_convert_bytes_string w s d e A0 n c0 hs he hd]
 cases A0 with
 | none =>
  have hn0:n=0:=by
   rcases mt (a.ev fr)with hb|hz|⟨o,i,l',c',ez⟩
   ·obtain⟨q,hq⟩:=hb (.fin .undef (.mk .leaf .e)) λ_ _ _ _=>.fin .undef (.mk .leaf .e)
    have e0:(a.ev fr).lenC (λ_=>.fin .undef (.mk .leaf .e))=(a.ev fr).onSlcZ (.fin .undef (.mk .leaf .e)) λ_ _ _ _=>.fin .undef (.mk .leaf .e):=rfl
    rw[← e0,e1]at hq;cases hq
   ·rcases hz with ez|⟨o,i,ez⟩ <;> rw[ez]at h1 <;> simp only[R]at h1
    ·rw[h1]at h2;cases h2;rfl
    ·obtain⟨_,A,h1,_⟩:=h1;rw[h1]at h2;cases h2
   ·rw[ez]at h1;simp only[R]at h1;rw[h1.2]at h2;cases h2
  subst hn0
  have:l=[]:=List.eq_nil_of_length_eq_zero hlen
  subst this
  simp[Conv.bytesToString,aD];rfl
 | some ad =>
  have h7:=h6 ad rfl
  rw[hL,Nat.mul_one]at h7
  rw[run_bytesToString w ad n c0 _ h7,Cu,uA e8]
  simp
theorem nO(s:List Nat):cT s=s.map λb=>if b<256 then .int .u8 ((b:Nat):Int) else .ub b:=by
 induction s with
 | nil=>rfl
 | cons b t ih =>
  have e:cT (b::t)=Bool.casesOn (motive:=λ_=>AV) (Nat.blt b 256) (.ub b) (.int .u8 (.ofNat b))::cT t:=rfl
  rw[e,ih,List.map_cons,az]
  by_cases h:b<256
  ·rw[decide_eq_true h,if_pos h];rfl
  ·rw[decide_eq_false h,if_neg h]
theorem qm(s:List Nat):Rs ε m (cT s) ((aD s).data.toList.map λb=>Value.int .u8 (b.toNat:Int)):=by
 rw[nO]
 induction s with
 | nil=>rfl
 | cons b t ih =>
  have e:(aD (b::t)).data.toList=Nu.f b::(aD t).data.toList:=by simp[aD]
  rw[e]
  refine⟨_,_,rfl,?_,ih⟩
  by_cases h:b<256
  ·simp only[if_pos h,R]
   rw[Nu.lo b h]
   simp
   omega
  ·simp only[if_neg h,R]
   exact⟨Nat.le_of_not_lt h,trivial⟩
theorem de.newCellsF(h:bX P ε m w){o:ab}(ho:¬ m.has o)(cs:List AV)(es sp:Nat)(L rest:List Value)(elem:TypeId)(fz:Nat × Nat)(hr:Rs ε m cs L)(hl:sp*pw es≤rest.length)(he:iR es elem 0)(hf:∀ i,i<cs.length+sp*pw es→¬(fz.1≤i∧i<fz.2)):
  de P ε m w (upd ε o ⟨w.heap.size,0,sp⟩) (upd m o (.cells cs es)) { w with heap:=w.heap.push (.cells (L++rest).toArray elem fz) }:=by
 refine de.new h ho (.cells cs es) trivial _ sp ?_
 rintro ε' m' w' rfl rfl rfl hs hx
 have hlen:=hr.length
 refine⟨λcs' es' e=>?_,λ_ _ e=>(by cases e),λ_ _ _ _ _ _ e=>(by cases e)⟩
 cases e
 refine⟨(L++rest).toArray,elem,fz,hx,?_,?_,?_,by rw[aM];exact he⟩
 ·rw[aM];simp;omega
 ·rw[aM]
  have:((L++rest).toArray.toList.drop 0).take cs.length=L:=by simp[hlen]
  rw[this]
  exact Rs.mono hs _ _ hr
 ·rw[aM];intro i _ h2;exact hf i (by simpa using h2)
theorem Kx{s d e:TypeId}(hx:bg N x=some a)(hs:P.underlying s=some .string)(hd:P.underlying d=some (.slice e))(he:P.underlying e=some (.int .u8))(hlt:e<4294901760):bm P N (.s2b (65536+e) a) (.convert s d x):=by
 rintro oper ho call fr h
 show an (λk=>(a.ev fr).onStr λs=>newObj (.cells (cT s) (65536+e)) h λo h=>k (.slc o 0 (aW s) (.opn (aW s))) h) _
 rcases fZ (a.ev fr)with hb|⟨s',e1⟩
 ·exact .inl λ_=>hb _
 simp only[e1.1]
 show an (λk=>newObj (.cells (cT s') (65536+e)) h λo h=>k (.slc o 0 (aW s') (.opn (aW s'))) h) _
 rcases dF (.cells (cT s') (65536+e)) h with hb|⟨o,h',hn,hm,e2⟩
 ·exact .inl λ_=>hb _
 simp only[e2,cf]
 refine .inr ⟨_,h',λ_=>rfl,?_⟩
 intro ε T D w hT hF hh
 have h1:=au hx hT hF D
 replace h1:=e1.2 _ _ _ h1
 have hrun:=run_bytes_of_string (P:=P) w s d e (aD s') hs hd he
 have hsz:(aD s').size=s'.length:=cV s'
 generalize hc:grownCap w (aD s').size 0 e=cap at hrun
 have hcap:s'.length≤cap:=by rw[← hc,hsz];exact Nat.le_add_right _ _
 have hh1:bX P ε h.mem w.drew:=hh.heap rfl
 let elems:=(aD s').data.toList.map λb=>Value.int .u8 (b.toNat:Int)
 have hel:elems.length=s'.length:=by simp[elems,aD]
 have hrow:bytesRow (aD s') cap=(elems++List.replicate (cap-s'.length) (Value.int .u8 0)).toArray:=by
  apply Array.ext';simp[bytesRow,elems,hsz]
 have hrs:(bytesRow (aD s') cap).size=cap:=by rw[hrow];simp[hel];omega
 have adv:=(de.drew hh (w.drawn+1)).trans (de.newCellsF hh1 hn (cT s') (65536+e) (cap-s'.length) elems (List.replicate (cap-s'.length) (Value.int .u8 0)) e (cap,cap+1) (qm s') (by rw[oB];simp) (iR.row e 0 hlt) (by
  intro i hi
  have:(cT s').length=s'.length:=by rw[nO];simp
  rw[oB]at hi
  omega))
 rw[hm]
 rw[hrs,hrow,hsz]at hrun
 refine⟨_,_,_,adv,⟨je _ _ _ _,rfl⟩,.inl ?_⟩
 have hcv:bu.cap (upd ε o ⟨w.drew.heap.size,0,cap-s'.length⟩) o (.opn s'.length)=cap:=by simp[bu.cap,aM];omega
 rw[hcv,fT]
 simp only[execOp,ho,Sem.run_bind,h1,hrun]
 rfl
end Go.Ai
namespace Go.Ai
set_option linter.unusedSectionVars false
variable [Nu]
open Go
variable {P:Program}{N:Nat}{ε : bu}{m:cJ}{w:World}{x y:Operand}{a b:a6}
structure K8 (P:Program) (ts:Array TypeId) (e:TypeId) (i:TypeInfo) (Z:Value) (size:Nat):Prop where
 t0:∃ t,ts[0]? = some t∧P.underlying t=some (.slice e)
 t1:∃ t u,ts[1]? = some t∧P.underlying t=some u∧(u = .string∨∃ e',u = .slice e')
 info:P.info? e=some i
 zero:i.zero=some Z
 sz:i.size=size
 zsz:Z.cells.size=size
theorem ga{ts:Array TypeId}{e ty:TypeId}{i:TypeInfo}{Z:Value}{size n cap l:Nat}{base:Option Addr}{X:Value}{L:Array Value}(A:K8 P ts e i Z size)
  (hl:(Builtin.lenOf X).run P w = .ok l w) (hf:(Builtin.firstCells size l X).run P w = .ok L w) (hn:n+l≤cap) {w':World}
  (hs:∀ a,base=some a→(storeCells (a.add (n*size)) L.toList).run P w = .ok () w') (hs0:base=none→w'=w) :
  (Builtin.append_ ts ty #[.slice base n cap,X]).run P w = .ok (.slice base (n+l) cap) w':=by
 obtain⟨⟨t,h0,h0'⟩,⟨t1,u,h1,h1',hu⟩,hi,hz,hsz,hzs⟩:=A
 cases base with
 | none =>
  rw[hs0 rfl]
  rcases hu with rfl|⟨e',rfl⟩ <;> simp[Builtin.append_,h0,h1,run_underlying h0',run_underlying h1',sizeOf,typeInfo,hi,hsz,hl,hn,hf]
 | some ad =>
  have:=hs ad rfl
  rcases hu with rfl|⟨e',rfl⟩ <;> simp[Builtin.append_,h0,h1,run_underlying h0',run_underlying h1',sizeOf,typeInfo,hi,hsz,hl,hn,hf,this]
theorem rW{ts:Array TypeId}{e ty:TypeId}{i:TypeInfo}{Z:Value}{size n cap l:Nat}{base:Option Addr}{X:Value}{L O:Array Value}(A:K8 P ts e i Z size)
  (hl:(Builtin.lenOf X).run P w = .ok l w) (hf:(Builtin.firstCells size l X).run P w.drew = .ok L w.drew) (ho:(Builtin.firstCells size n (.slice base n cap)).run P w.drew = .ok O w.drew) (hn:cap<n+l)
  (hb:(n+l)*(i.bytes+1)≤1073741824) :
  (Builtin.append_ ts ty #[.slice base n cap,X]).run P w = .ok (.slice (some ⟨w.heap.size,0,none⟩) (n+l) (grownCap w (n+l) cap e))
   (w.drew.alloc (.cells (O.toList++(L.toList++(Builtin.zeroCells Z.cells (grownCap w (n+l) cap e-(n+l))).toList)).toArray e)):=by
 obtain⟨⟨t,h0,h0'⟩,⟨t1,u,h1,h1',hu⟩,hi,hz,hsz,hzs⟩:=A
 have hn':¬ (n+l≤cap):=by omega
 have h2:(n+l)*i.bytes+(n+l)≤1073741824:=by rwa [Nat.mul_succ]at hb
 have h63:¬ (9223372036854775807<((n:Int)+(l:Int))):=by omega
 have hfit:=growslice_fits (bytes:=i.bytes) hn (by omega)
 have h48:¬ (281474976710656<Builtin.nextslicecap (n+l) cap*i.bytes):=by omega
 rcases hu with rfl|⟨e',rfl⟩ <;> simp[Builtin.append_,h0,h1,run_underlying h0',run_underlying h1',sizeOf,typeInfo,zeroValue,hi,hz,hsz,hl,hn',hf,h63,h48,Question.forced,ho,newRow,grownCap] <;> rw[← Array.append_assoc] <;> (congr 2;apply Array.ext';simp)
theorem Aq(v:AV):(∀ z kk ke,bq (v.onSlcE z kk ke))∨v = .nils∨(∃ o i n c,v = .slc o i n c)∨∃ o i,v = .sle o i:=by
 cases v <;> first | exact .inr (.inr (.inl ⟨_,_,_,_,rfl⟩)) | exact .inr (.inr (.inr ⟨_,_,rfl⟩)) | exact .inr (.inl rfl) | exact .inl λ_ _ _=>⟨_,rfl⟩
theorem mu(s:List Nat):(cT s).length=s.length:=by rw[nO];simp
theorem tX(size:Nat)(v:AV)(h:H):(∀ k,bq (srcCells size v h k))∨∃ (n:Nat) (cs:List AV),(∀ k,srcCells size v h k=k n cs)∧cs.length=n*size ∧
  ∀ (ε : bu) (V:Value),R ε h.mem v V→(∀ w,(Builtin.lenOf V).run P w = .ok n w)∧∀ w,bX P ε h.mem w→∃ L:List Value,Rs ε h.mem cs L∧(Builtin.firstCells size n V).run P w = .ok L.toArray w:=by
 by_cases hv:∃ s,v = .str s
 ·obtain⟨s,rfl⟩:=hv
  have e0:∀ k,srcCells size (.str s) h k=must 12 (Nat.beq size 1) (k (aW s) (cT s)):=λ_=>rfl
  simp only[e0]
  rcases ay 12 (Nat.beq size 1)with hb|⟨h1,h2⟩
  ·exact .inl λ_=>hb _
  simp only[h2]
  have hn:=Nat.eq_of_beq_eq_true h1
  subst hn
  refine .inr ⟨_,_,λ_=>rfl,by rw[mu,cf,Nat.mul_one],fun ε V r=>?_⟩
  simp only[R]at r;subst r
  have hz:(aD s).size=s.length:=cV s
  refine⟨λw=>by simp[Builtin.lenOf,hz,cf],λw hh=>⟨_,qm s,?_⟩⟩
  have hx:(aD s).extract 0 s.length=aD s:=by rw[jB];simp
  simp only[Builtin.firstCells,cf,hx]
  show Result.ok _ _=_
  congr 1
  apply Array.ext';simp
 ·have e0:∀ k,srcCells size v h k=v.lenC λn=>sliceCells size v n h λcs=>k n cs:=λk=>by cases v <;> first | rfl | exact absurd ⟨_,rfl⟩ hv
  simp only[e0]
  rcases ui v with hb|⟨n,e1,e2⟩
  ·exact .inl λ_=>hb _
  simp only[e1]
  rcases iq (P:=P) size v n h with hb|⟨cs,e3,e4,e5⟩
  ·exact .inl λ_=>hb _
  refine .inr ⟨n,cs,λk=>e3 _,e4,fun ε V r=>⟨λw=>?_,λw hh=>?_⟩⟩
  ·obtain⟨A,c,rfl⟩:=e2 ε _ _ r
   simp[Builtin.lenOf]
  ·obtain⟨L,rl,A,l,c,_,_,h6,_⟩:=e5 ε w V r hh
   exact⟨L,rl,h6⟩
theorem Da{α : Type}{C L:List α}{off i j n:Nat}(hij:i≤j)(hj:j≤n)(hC:off+n≤C.length):((putL C (off+j) L).drop (off+i)).take (j-i+L.length)=(((C.drop off).take n).drop i).take (j-i)++L:=by
 have l2:((C.take (off+j)).drop (off+i)).length=j-i:=by simp;omega
 have l3:((C.take (off+j)).drop (off+i))=(((C.drop off).take n).drop i).take (j-i):=by
  rw[List.drop_take,List.drop_take,List.take_take,List.drop_drop,Nat.min_eq_left (by omega)]
  congr 1
  omega
 unfold putL
 rw[List.append_assoc,List.drop_append_of_le_length (by simp;omega),List.take_append,l2,l3,Nat.add_sub_cancel_left,List.take_append_of_le_length (Nat.le_refl _),List.take_of_length_le (Nat.le_refl L.length),List.take_of_length_le (by rw[← l3,l2];omega)]
theorem de.renew(h:bX P ε m w){o o':ab}{cs:List AV}{es:Nat}(ho:m o = .cells cs es)(ho':¬ cJ.has (upd m o .dead) o'){i j sp:Nat}{old new:List AV}{L:List Value}(hr:Rs ε m new L)(hs:bL new=true)(hold:old=(cs.drop i).take (j-i))(hij:i≤j)(hj:j≤cs.length)(hfit:j+new.length+sp*pw es≤cs.length+(ε o).sp*pw es)(hlt:es<4294967296):
  (storeCells (ε.addr o j) L).run P w = .ok () (w.setCells (ε o).blk ((ε o).off+j) L) ∧
  de P ε m w (upd ε o' ⟨(ε o).blk,(ε o).off+i,sp⟩) (upd (upd m o .dead) o' (.cells (old++new) es)) (w.setCells (ε o).blk ((ε o).off+j) L):=by
 obtain⟨C,elem,fz,hg,hsz,hR,hf⟩:=h.cells o cs es ho
 have hlen:=hr.length
 have hl:dw (m o):=by rw[ho];trivial
 obtain⟨C',e1,hs',hp⟩:=lC L ((ε o).off+j) w C hg (by omega)
 have hne:o'≠o:=λe=>ho' (by subst e;unfold cJ.has;rw[aM];simp)
 constructor
 ·have:=run_storeCells_cells (P:=P) (ε o).blk ((ε o).off+j) L 0 w (λk hk=>?_) (λk hk=>?_) (qi hs hr)
  ·simpa [bu.addr] using this
  ·simp only[World.cell?,hg];simp;omega
  ·simp only[World.frozen?,hg]
   have:=hf.1 ((ε o).off+j+0+k) (by omega) (by omega)
   simpa using this
 ·rw[e1]
  have st1:=cG.put ε m o .dead (by simp)
  have st:=st1.trans (cG.upd ε (upd m o .dead) o' ⟨(ε o).blk,(ε o).off+i,sp⟩ (.cells (old++new) es) ho')
  have heap:∀ k,k≠(ε o).blk→(w.heap.setIfInBounds (ε o).blk (.cells C' elem fz))[k]? = w.heap[k]?:=λk hk=>Array.getElem?_setIfInBounds_ne (Ne.symm hk)
  have hother:∀ q,q≠o'→dw (upd (upd m o .dead) o' (.cells (old++new) es) q)→q≠o∧dw (m q):=λq hq hlq=>by
   rw[bO _ _ hq]at hlq
   by_cases e:q=o
   ·subst e;rw[aM]at hlq;exact hlq.elim
   ·rw[bO _ _ e]at hlq;exact⟨e,hlq⟩
  have hblk:(upd ε o' ⟨(ε o).blk,(ε o).off+i,sp⟩ o')=⟨(ε o).blk,(ε o).off+i,sp⟩:=aM _ _ _
  have hcarry:∀ q,q≠o'→q≠o→_:=λq hq hqo=>h.carry (o:=q) (w':={ w with heap:=w.heap.setIfInBounds (ε o).blk (.cells C' elem fz) }) st (λhlq=>heap _ (h.apart q o hqo hlq hl)) ((bO _ _ hq).trans (bO _ _ hqo))
  refine⟨st,λq hq=>?_,rfl,rfl,rfl,by simp,λk _ hk=>heap k λe=>hk ⟨o,hl,e.symm⟩,λq hlq=>.inl ?_,λq hq=>?_,⟨λq cs' es' e=>?_,λq es' clk e=>?_,λq st' pd fr ps a b e=>?_,λq q' hqq hlq hlq'=>?_⟩⟩
  ·refine bO _ _ λe=>hq ?_
   subst e;unfold cJ.has;rw[aM];simp
  ·by_cases e:q=o'
   ·subst e;exact⟨o,hl,by rw[hblk]⟩
   ·rw[bO _ _ e];exact⟨q,(hother q e hlq).2,rfl⟩
  ·have h1:q≠o:=λe=>by subst e;rw[ho]at hq;exact hq
   have h2:q≠o':=λe=>by
    subst e
    apply ho'
    unfold cJ.has
    rw[bO _ _ h1]
    intro e;rw[e]at hq;exact hq
   rw[bO _ _ h2,bO _ _ h1];exact hq
  ·by_cases eq:q=o'
   ·subst eq
    rw[aM]at e
    cases e
    have hol:old.length=j-i:=by rw[hold];simp;omega
    refine⟨C',elem,fz,by rw[hblk];exact cE _ _ hg,by rw[hblk,hs'];simp[hol];omega,?_,by rw[hblk];simp only[List.length_append,hol];refine⟨λk h1 h2=>hf.1 k (by omega) (by omega),hf.2.move hlt _⟩⟩
    rw[hblk,hp]
    have e2:((putL C.toList ((ε o).off+j) L).drop ((ε o).off+i)).take (old++new).length=((((C.toList.drop (ε o).off).take cs.length).drop i).take (j-i))++L:=by
     rw[List.length_append,hol,hlen]
     exact Da hij hj (by simp;omega)
    rw[e2]
    have q:Rs ε m old ((((C.toList.drop (ε o).off).take cs.length).drop i).take (j-i)):=by rw[hold];exact (hR.drop i).take (j-i)
    exact Rs.append (Rs.mono st _ _ q) (Rs.mono st _ _ hr)
   ·have hl':=hother q eq (by rw[e];trivial)
    exact (hcarry q eq hl'.1).1 cs' es' e
  ·by_cases eq:q=o'
   ·subst eq;rw[aM]at e;cases e
   ·have hl':=hother q eq (by rw[e];trivial)
    exact (hcarry q eq hl'.1).2.1 es' clk e
  ·by_cases eq:q=o'
   ·subst eq;rw[aM]at e;cases e
   ·have hl':=hother q eq (by rw[e];trivial)
    exact (hcarry q eq hl'.1).2.2 st' pd fr ps a b e
  ·by_cases eq:q=o'
   ·subst eq
    have eq':q'≠q:=λe=>hqq e.symm
    have hl':=hother q' eq' hlq'
    rw[hblk,bO _ _ eq']
    exact h.apart o q' (Ne.symm hl'.1) hl hl'.2
   ·have hl1:=hother q eq hlq
    rw[bO _ _ eq]
    by_cases eq':q'=o'
    ·subst eq'
     rw[hblk];exact h.apart q o hl1.1 hl1.2 hl
    ·rw[bO _ _ eq']
     exact h.apart q q' hqq hl1.2 (hother q' eq' hlq').2
theorem de.more(h:bX P ε m w){o':ab}(ho':¬ m.has o'){cs:List AV}{size es need:Nat}{L:List Value}{e:TypeId}{Z:Value}(cap:Nat)(hr:Rs ε m cs L)(hz:Z.cells.size=size)(hst:pw es=size)(hel:iR es e 0):
  de P ε m w (upd ε o' ⟨w.heap.size,0,cap-need⟩) (upd m o' (.cells cs es)) (w.drew.alloc (.cells (L++(Builtin.zeroCells Z.cells (cap-need)).toList).toArray e)) :=
 (de.drew h (w.drawn+1)).trans (de.newCells (w:=w.drew) (h.heap rfl) ho' cs es (cap-need) L _ e hr (by rw[Array.length_toList,size_zeroCells,hz,hst];exact Nat.le_refl _) hel)
theorem de.kill(h:bX P ε m w){o:ab}(ho:dw (m o))(hlo:¬ mz (m o)):de P ε m w ε (upd m o .dead) w :=
 de.set h ho .dead (by simp) (λhq=>(hlo hq).elim) w.heap rfl (λ_ _=>rfl) (by
  rintro m' w' rfl rfl _
  exact⟨λ_ _ e=>(by cases e),λ_ _ e=>(by cases e),λ_ _ _ _ _ _ e=>(by cases e)⟩)
theorem wN{w:World}{n c:Nat}{e:TypeId}:n+(grownCap w n c e-n)=grownCap w n c e:=by have:=grownCap_ge w n c e;omega
theorem kV(es need:Nat)(cs:List AV)(h:H):(∀ k,bq (bC es need cs h k))∨∃ o h',¬ h.mem.has o∧h'.mem=upd h.mem o (.cells cs es)∧∀ k,bC es need cs h k=k (.slc o 0 need (.opn need)) h':=by
 have e0:∀ k,bC es need cs h k=newObj (.cells cs es) h λo h=>forceN need λn=>k (.slc o 0 n (.opn n)) h:=λ_=>rfl
 simp only[e0,ao]
 rcases dF (.cells cs es) h with hb|⟨o,h',h1,h2,h3⟩
 ·exact .inl λ_=>hb _
 ·exact .inr ⟨o,h',h1,h2,λk=>h3 _⟩
theorem FF(size:Nat)(o:ab)(i n l:Nat)(c:gQ)(new cs:List AV)(es:Nat)(h:H):(∀ k,bq (inPlace size o i n l c new cs es h k))∨(bL new=true∧(new=[]∨i+n*size+new.length≤cs.length) ∧
  ∀ k,inPlace size o i n l c new cs es h k=k (.slc o i (n+l) c) (setObj o (.cells (if new=[] then cs else putL cs (i+n*size) new) es) h)):=by
 have e0:∀ k,inPlace size o i n l c new cs es h k=must 12 (bL new) (lput new cs (i+n*size) λcs=>forceN (n+l) λq=>k (.slc o i q c) (setObj o (.cells cs es) h)):=λ_=>rfl
 simp only[e0,ao]
 rcases ay 12 (bL new)with hb|⟨h1,e1⟩
 ·exact .inl λ_=>hb _
 simp only[e1]
 rcases oa new cs (i+n*size)with hb|⟨h2,e2⟩
 ·exact .inl λ_=>hb _
 exact .inr ⟨h1,h2,λk=>e2 _⟩
theorem xZ{es:Nat}{ts:Array TypeId}{e ty:TypeId}{i:TypeInfo}{Z:Value}{size n cap l:Nat}{base:Option Addr}{X:Value}{L O:List Value}{old new:List AV}{m1:cJ}{o':ab}(A:K8 P ts e i Z size)(hst:pw es=size)(hel:iR es e 0)(hk:de P ε m w ε m1 w)
  (ho':¬ m1.has o') (hl:(Builtin.lenOf X).run P w = .ok l w) (hf:(Builtin.firstCells size l X).run P w.drew = .ok L.toArray w.drew) (ho:(Builtin.firstCells size n (.slice base n cap)).run P w.drew = .ok O.toArray w.drew) (hn:cap<n+l)
  (hb:(n+l)*(i.bytes+1)≤1073741824) (ro:Rs ε m old O) (rl:Rs ε m new L) :
  ∃ ε' V w',de P ε m w ε' (upd m1 o' (.cells (old++new) es)) w'∧R ε' (upd m1 o' (.cells (old++new) es)) (.slc o' 0 (n+l) (.opn (n+l))) V∧(Builtin.append_ ts ty #[.slice base n cap,X]).run P w = .ok V w':=by
 have hrun:=rW (ty:=ty) A hl hf ho hn hb
 have adv:=hk.trans (de.more (e:=e) (need:=n+l) hk.rel ho' (grownCap w (n+l) cap e) (Rs.mono hk.stays _ _ (ro.append rl)) A.zsz hst hel)
 rw[List.append_assoc]at adv
 refine⟨_,_,_,adv,⟨je _ _ _ _,?_⟩,hrun⟩
 rw[fT]
 simp only[bu.cap,aM]
 rw[wN]
theorem sc(p q:Nat):Nat.ble p q=decide (p≤q):=by
 cases h:Nat.ble p q with
 | true=>simp[Nat.le_of_ble_eq_true h]
 | false =>
       have:¬ p≤q:=λhh=>by rw[Nat.ble_eq_true_of_le hh]at h;cases h
       simp[this]
theorem Ax{es:Nat}{ts:Array TypeId}{e ty:TypeId}{i:TypeInfo}{Z:Value}{size n l d i':Nat}{B:Addr}{X:Value}{cs new:List AV}{O:List Value}{o o':ab}(A:K8 P ts e i Z size)(hst:pw es=size)(hel:iR es e 0)(hes:es<4294967296)(hh:bX P ε m w)(hcs:m o = .cells cs es)
  (ho':¬ cJ.has (upd m o .dead) o') (hB:0<d+(ε o).sp→B = ε.addr o i') (hd:i'+d*size=cs.length) (hnd:n≤d) (hs:bL new=true) (hnew:new.length=l*size) (hl:(Builtin.lenOf X).run P w = .ok l w)
  (hx:∀ w,bX P ε m w→∃ L:List Value,Rs ε m new L∧(Builtin.firstCells size l X).run P w = .ok L.toArray w) (ro:Rs ε m ((cs.drop i').take (n*size)) O) (ho:(Builtin.firstCells size n (.slice (some B) n (d+(ε o).sp))).run P w.drew = .ok O.toArray w.drew)
  (hn:d<n+l) (hb:(n+l)*(i.bytes+1)≤1073741824) :
  ∃ ε' V w',de P ε m w ε' (upd (upd m o .dead) o' (.cells ((cs.drop i').take (n*size)++new) es)) w'∧R ε' (upd (upd m o .dead) o' (.cells ((cs.drop i').take (n*size)++new) es)) (.slc o' 0 (n+l) (.opn (n+l))) V ∧
   (Builtin.append_ ts ty #[.slice (some B) n (d+(ε o).sp),X]).run P w = .ok V w':=by
 by_cases hc:n+l≤d+(ε o).sp
 ·obtain⟨L,rl,h1⟩:=hx w hh
  have hB':=hB (by omega)
  have hnd':n*size≤d*size:=Nat.mul_le_mul_right _ hnd
  have hsum:(n+l+(d+(ε o).sp-(n+l)))*size=(d+(ε o).sp)*size:=by congr 1;omega
  simp only[Nat.add_mul]at hsum
  obtain⟨hrun,adv⟩:=de.renew (i:=i') (j:=i'+n*size) (sp:=d+(ε o).sp-(n+l)) (old:=(cs.drop i').take (n*size)) hh hcs ho' rl hs (by rw[Nat.add_sub_cancel_left]) (Nat.le_add_right _ _) (by omega) (by rw[hnew,hst];omega) hes
  refine⟨_,_,_,adv,⟨je _ _ _ _,?_⟩,ga A hl h1 hc (λad e=>?_) λe=>by cases e⟩
  ·rw[hB']
   have:bu.addr (upd ε o' ⟨(ε o).blk,(ε o).off+i',d+(ε o).sp-(n+l)⟩) o' 0 = ε.addr o i':=by simp[bu.addr,aM]
   rw[this]
   simp only[bu.cap,aM]
   congr 1;omega
  ·cases e
   rw[hB',iQ];exact hrun
 ·obtain⟨L,rl,h1⟩:=hx w.drew (hh.heap rfl)
  have hl':dw (m o):=by rw[hcs];trivial
  exact xZ A hst hel (.kill hh hl' (by rw[hcs];exact λh=>h)) ho' hl h1 ho (by omega) hb ro rl
theorem AB{es0:Nat}{c:Go.Call}{e:TypeId}{i:TypeInfo}{Z:Value}{size:Nat}(hst:pw es0=size)(hel:iR es0 e 0)(hes0:es0<4294967296)(hx:bg N x=some a)(hy:bg N y=some b)(hc:c.callee = .builtin .append)(ha:c.args.toList=[x,y])(A:K8 P c.argTypes e i Z size):bm P N (.append size i.bytes es0 a b) (.call c):=by
 rintro oper ho call fr h
 have ha':c.args = #[x,y]:=by apply Array.ext';simpa using ha
 have hex:∀ (ρ : Operand→Value) (w:World) (V:Value) (w':World),(Builtin.append_ c.argTypes oper.type #[ρ x,ρ y]).run P w = .ok V w'→SB P oper ρ w V w':=fun ρ w V w' hr=>by
  left;simp[execOp,ho,resolve,hc,ha',invoke,builtin,hr]
 show an (λk=>srcCells size (b.ev fr) h λm new=>(a.ev fr).onSlcE (Nat.casesOn (motive:=λ_=>aa) m (k .nils h) (λ_=>must 12 (Nat.ble (m*(i.bytes+1)) 1073741824) (bC es0 m new h k)))
  (λo i' n c=>cellsOf o h λcs es=>must 12 (Nat.ble ((n+m)*(i.bytes+1)) 1073741824) (ldropC i' cs λcs'=>ltake (n*size) cs' λold =>
   gQ.casesOn (motive:=λ_=>aa) c
    (λd=>ifC (Nat.ble (n+m) d) (inPlace size o i' n m c new cs es h k) (bC es0 (n+m) (cZ old new) h k))
    (λd=>ifC (Nat.ble (n+m) d) (inPlace size o i' n m c new cs es h k)
     (must 12 (bL new) (must 12 (Nat.beq es es0) (must 12 (Nat.beq (i'+d*size) (aW cs)) (must 12 (Nat.ble n d) (bC es0 (n+m) (cZ old new) (setObj o .dead h) k))))))))
  λo i'=>cellsOf o h λcs es=>must 12 (Nat.blt 0 m) (must 12 (Nat.ble (m*(i.bytes+1)) 1073741824) (must 12 (bL new) (must 12 (Nat.beq es es0) (must 12 (Nat.beq i' (aW cs)) (bC es0 m new (setObj o .dead h) k)))))) _
 rcases tX (P:=P) size (b.ev fr) h with hb|⟨l,new,e1,e2,e3⟩
 ·exact .inl λ_=>hb _
 simp only[e1]
 rcases Aq (a.ev fr)with hb|ea|⟨o,i',n,cp,ea⟩|⟨o,i',ea⟩
 ·exact .inl λ_=>hb _ _ _
 ·simp only[ea]
  show an (λk=>Nat.casesOn (motive:=λ_=>aa) l (k .nils h) (λ_=>must 12 (Nat.ble (l*(i.bytes+1)) 1073741824) (bC es0 l new h k))) _
  cases l with
  | zero =>
   refine an.now fun ε T D w hT hF hh=>⟨ε,.slice none 0 0,w,.refl hh,rfl,hex _ _ _ _ ?_⟩
   have h1:=au hx hT hF D
   rw[ea]at h1;simp only[R]at h1
   obtain⟨h4,h5⟩:=e3 ε _ (au hy hT hF D)
   obtain⟨L,_,h6⟩:=h5 w hh
   rw[h1]
   exact ga A (h4 w) h6 (Nat.le_refl _) (λa e=>by cases e) λ_=>rfl
  | succ l =>
   show an (λk=>must 12 (Nat.ble ((l+1)*(i.bytes+1)) 1073741824) (bC es0 (l+1) new h k)) _
   rcases ay 12 (Nat.ble ((l+1)*(i.bytes+1)) 1073741824)with hb|⟨h4,e4⟩
   ·exact .inl λ_=>hb _
   simp only[e4]
   rcases kV es0 (l+1) new h with hb|⟨o',h',hn,hm,e5⟩
   ·exact .inl λ_=>hb _
   simp only[e5]
   refine .inr ⟨_,h',λ_=>rfl,fun ε T D w hT hF hh=>?_⟩
   have h1:=au hx hT hF D
   rw[ea]at h1;simp only[R]at h1
   obtain⟨h6,h7⟩:=e3 ε _ (au hy hT hF D)
   obtain⟨L,rl,h8⟩:=h7 w.drew (hh.heap rfl)
   obtain⟨ε',V,w',q1,q2,q3⟩:=xZ (ty:=oper.type) (n:=0) (cap:=0) (base:=none) (O:=[]) (old:=[]) A hst hel (.refl hh) hn (h6 w) h8 (by simp[Builtin.firstCells]) (by omega) (by rw[Nat.zero_add];exact dV h4) rfl rl
   rw[Nat.zero_add,List.nil_append]at q2
   rw[List.nil_append]at q1
   rw[hm]
   exact⟨ε',V,w',q1,q2,hex _ _ _ _ (by rw[h1];exact q3)⟩
 ·simp only[ea]
  show an (λk=>cellsOf o h λcs es=>must 12 (Nat.ble ((n+l)*(i.bytes+1)) 1073741824) (ldropC i' cs λcs'=>ltake (n*size) cs' λold =>
   gQ.casesOn (motive:=λ_=>aa) cp
    (λd=>ifC (Nat.ble (n+l) d) (inPlace size o i' n l cp new cs es h k) (bC es0 (n+l) (cZ old new) h k))
    (λd=>ifC (Nat.ble (n+l) d) (inPlace size o i' n l cp new cs es h k)
     (must 12 (bL new) (must 12 (Nat.beq es es0) (must 12 (Nat.beq (i'+d*size) (aW cs)) (must 12 (Nat.ble n d) (bC es0 (n+l) (cZ old new) (setObj o .dead h) k)))))))) _
  rcases bZ o h with hb|⟨cs,es,hcs,e4⟩
  ·exact .inl λ_=>hb _
  simp only[e4]
  rcases ay 12 (Nat.ble ((n+l)*(i.bytes+1)) 1073741824)with hb|⟨h5,e5⟩
  ·exact .inl λ_=>hb _
  simp only[e5]
  rcases fe i' cs with hb|⟨h6,e6⟩
  ·exact .inl λ_=>hb _
  simp only[e6]
  rcases ig (n*size) (cs.drop i')with hb|⟨h7,e7⟩
  ·exact .inl λ_=>hb _
  simp only[e7]
  have h7':i'+n*size≤cs.length:=by simp at h7;omega
  have old_ok:∀ (ε : bu) (w:World),bX P ε h.mem w→∃ O:List Value,Rs ε h.mem ((cs.drop i').take (n*size)) O∧∀ cap,(Builtin.firstCells size n (.slice (some (ε.addr o i')) n cap)).run P w = .ok O.toArray w:=fun ε w hh=>by
   obtain⟨O,hl,rl,hc⟩:=(hh.cells o cs es hcs).vals i' (n*size) h7'
   have hld:=run_loadCells_list (P:=P) w (ε.addr o i') O hc
   rw[hl]at hld
   exact⟨O,rl,λcap=>by simp[Builtin.firstCells,hld]⟩
  have fit:∀ d,n+l≤d→(∀ ε : bu,d ≤ ε.cap o cp)→an (λk=>inPlace size o i' n l cp new cs es h k) (bV P N oper fr h):=λd hd hcap=>by
   rcases FF size o i' n l cp new cs es h with hb|⟨h8,h9,e8⟩
   ·exact .inl hb
   refine .inr ⟨_,_,e8,fun ε T D w hT hF hh=>?_⟩
   have h1:=au hx hT hF D
   rw[ea]at h1;simp only[R]at h1
   obtain⟨h10,h11⟩:=e3 ε _ (au hy hT hF D)
   obtain⟨L,rl,h12⟩:=h11 w hh
   have hadd:(ε.addr o i').add (n*size) = ε.addr o (i'+n*size):=iQ ..
   rw[dM]
   by_cases hne:new=[]
   ·rw[if_pos hne]
    subst hne
    have hL:L=[]:=by simpa [Rs] using rl
    subst hL
    have hm:upd h.mem o (.cells cs es)=h.mem:=by
     funext q;by_cases e:q=o
     ·subst e;rw[aM,hcs]
     ·exact bO _ _ e
    rw[hm]
    refine⟨ε,_,w,.refl hh,⟨h1.1,rfl⟩,hex _ _ _ _ ?_⟩
    rw[h1.2]
    exact ga A (h10 w) h12 (Nat.le_trans hd (hcap ε)) (λad _=>rfl) λe=>by cases e
   ·rw[if_neg hne]
    obtain⟨hrun,adv⟩:=de.store hh hcs (i'+n*size) rl h8 (h9.resolve_left hne)
    refine⟨ε,_,_,adv,⟨(adv.stays o h1.1).1,rfl⟩,hex _ _ _ _ ?_⟩
    rw[h1.2]
    exact ga A (h10 w) h12 (Nat.le_trans hd (hcap ε)) (λad e=>by cases e;rw[hadd];exact hrun) λe=>by cases e
  cases cp with
  | exact d =>
   show an (λk=>ifC (Nat.ble (n+l) d) (inPlace size o i' n l (.exact d) new cs es h k) (bC es0 (n+l) (cZ ((cs.drop i').take (n*size)) new) h k)) _
   by_cases hd:n+l≤d
   ·simp only[sc,decide_eq_true hd,a7]
    exact fit d hd λ_=>Nat.le_refl _
   ·simp only[sc,decide_eq_false hd,a5,gB]
    rcases kV es0 (n+l) ((cs.drop i').take (n*size)++new) h with hb|⟨o',h',hn,hm,e8⟩
    ·exact .inl hb
    refine .inr ⟨_,h',e8,fun ε T D w hT hF hh=>?_⟩
    have h1:=au hx hT hF D
    rw[ea]at h1;simp only[R]at h1
    obtain⟨h10,h11⟩:=e3 ε _ (au hy hT hF D)
    obtain⟨L,rl,h12⟩:=h11 w.drew (hh.heap rfl)
    obtain⟨O,ro,h13⟩:=old_ok ε w.drew (hh.heap rfl)
    obtain⟨ε',V,w',q1,q2,q3⟩:=xZ (ty:=oper.type) A hst hel (.refl hh) hn (h10 w) h12 (h13 d) (by omega) (dV h5) ro rl
    rw[hm]
    exact⟨ε',V,w',q1,q2,hex _ _ _ _ (by rw[h1.2];exact q3)⟩
  | opn d =>
   show an (λk=>ifC (Nat.ble (n+l) d) (inPlace size o i' n l (.opn d) new cs es h k)
     (must 12 (bL new) (must 12 (Nat.beq es es0) (must 12 (Nat.beq (i'+d*size) (aW cs)) (must 12 (Nat.ble n d) (bC es0 (n+l) (cZ ((cs.drop i').take (n*size)) new) (setObj o .dead h) k)))))) _
   by_cases hd:n+l≤d
   ·simp only[sc,decide_eq_true hd,a7]
    exact fit d hd fun ε=>by simp[bu.cap]
   ·have hq:Nat.ble (n+l) d=false:=by rw[sc];exact decide_eq_false hd
    simp only[hq,a5,gB]
    rcases ay 12 (bL new)with hb|⟨h8,e8⟩
    ·exact .inl λ_=>hb _
    simp only[e8]
    rcases ay 12 (Nat.beq es es0)with hb|⟨h9,e9⟩
    ·exact .inl λ_=>hb _
    simp only[e9]
    rcases ay 12 (Nat.beq (i'+d*size) (aW cs))with hb|⟨h10,e10⟩
    ·exact .inl λ_=>hb _
    simp only[e10]
    rcases ay 12 (Nat.ble n d)with hb|⟨h11,e11⟩
    ·exact .inl λ_=>hb _
    simp only[e11]
    have hes:=Nat.eq_of_beq_eq_true h9
    subst hes
    have hend:=Nat.eq_of_beq_eq_true h10
    rw[cf]at hend
    rcases kV es (n+l) ((cs.drop i').take (n*size)++new) (setObj o .dead h)with hb|⟨o',h',hn,hm,e12⟩
    ·exact .inl hb
    refine .inr ⟨_,h',e12,fun ε T D w hT hF hh=>?_⟩
    have h1:=au hx hT hF D
    rw[ea]at h1;simp only[R]at h1
    obtain⟨h13,h14⟩:=e3 ε _ (au hy hT hF D)
    obtain⟨O,ro,h15⟩:=old_ok ε w.drew (hh.heap rfl)
    rw[dM]at hn hm
    obtain⟨ε',V,w',q1,q2,q3⟩:=Ax (ty:=oper.type) (B:=ε.addr o i') A hst hel hes0 hh hcs hn (λ_=>rfl) hend (dV h11) h8 e2 (h13 w) h14 ro (h15 _) (by omega) (dV h5)
    rw[hm]
    exact⟨ε',V,w',q1,q2,hex _ _ _ _ (by rw[h1.2];exact q3)⟩
 ·simp only[ea]
  show an (λk=>cellsOf o h λcs es=>must 12 (Nat.blt 0 l) (must 12 (Nat.ble (l*(i.bytes+1)) 1073741824) (must 12 (bL new) (must 12 (Nat.beq es es0) (must 12 (Nat.beq i' (aW cs)) (bC es0 l new (setObj o .dead h) k)))))) _
  rcases bZ o h with hb|⟨cs,es,hcs,e4⟩
  ·exact .inl λ_=>hb _
  simp only[e4]
  rcases ay 12 (Nat.blt 0 l)with hb|⟨h5,e5⟩
  ·exact .inl λ_=>hb _
  simp only[e5]
  rcases ay 12 (Nat.ble (l*(i.bytes+1)) 1073741824)with hb|⟨h6,e6⟩
  ·exact .inl λ_=>hb _
  simp only[e6]
  rcases ay 12 (bL new)with hb|⟨h7,e7⟩
  ·exact .inl λ_=>hb _
  simp only[e7]
  rcases ay 12 (Nat.beq es es0)with hb|⟨h8,e8⟩
  ·exact .inl λ_=>hb _
  simp only[e8]
  rcases ay 12 (Nat.beq i' (aW cs))with hb|⟨h9,e9⟩
  ·exact .inl λ_=>hb _
  simp only[e9]
  have hes:=Nat.eq_of_beq_eq_true h8
  subst hes
  have hend:=Nat.eq_of_beq_eq_true h9
  rw[cf]at hend
  rw[az]at h5
  have h5':=of_decide_eq_true h5
  rcases kV es l new (setObj o .dead h)with hb|⟨o',h',hn,hm,e12⟩
  ·exact .inl hb
  refine .inr ⟨_,h',e12,fun ε T D w hT hF hh=>?_⟩
  have h1:=au hx hT hF D
  rw[ea]at h1;simp only[R]at h1
  obtain⟨h10,B,h11,h12⟩:=h1
  obtain⟨h13,h14⟩:=e3 ε _ (au hy hT hF D)
  rw[dM]at hn hm
  obtain⟨ε',V,w',q1,q2,q3⟩:=Ax (ty:=oper.type) (n:=0) (d:=0) (i':=i') (O:=[]) (B:=B) A hst hel hes0 hh hcs hn (λh=>h12 (by omega)) (by omega) (Nat.le_refl _) h7 e2 (h13 w) h14 (by simp[Rs]) (by simp[Builtin.firstCells,loadCells,loadCellsFrom]) (by omega) (by rw[Nat.zero_add];exact dV h6)
  rw[Nat.zero_add]at q2
  simp only[Nat.zero_mul,List.take_zero,List.nil_append]at q1 q2
  rw[hm]
  exact⟨ε',V,w',q1,q2,hex _ _ _ _ (by rw[h11];rw[Nat.zero_add]at q3;exact q3)⟩
end Go.Ai
namespace Go.Ai
set_option linter.unusedSectionVars false
variable [Nu]
open Go
variable {P:Program}{N:Nat}{ε : bu}{m:cJ}{w:World}{x y:Operand}{a b:a6}
theorem ut{n:Nat}(h:n≤1099511627776):IntKind.i64.wrap (n:Int)=n:=IntWalk.i64_in _ (by omega)
theorem xe{t e:TypeId}{i:TypeInfo}{z:List AV}{s:Nat}{lo cp:Operand}{l c:a6}(ht:P.underlying t=some (.slice e))(hs:bB P e=some s)(hi:P.info? e=some i)(hz:bE P e=some z)(hzl:z.length=s)(hl:bg N lo=some l)(hc:bg N cp=some c):bm P N (.mkSlice s i.bytes z l c) (.makeSlice t lo cp):=by
 rintro oper ho call fr h
 show an (λk=>evNat l fr λl=>evNat c fr λc=>must 12 (Nat.ble l c) (must 12 (Nat.ble (i.bytes*c) 1099511627776) (must 12 (Nat.ble c 1099511627776) (newObj (.cells (eQ z c) 0) h λo h=>forceN l λl=>forceN c λc=>k (.slc o 0 l (.exact c)) h)))) _
 simp only[ao]
 rcases fm l fr with hb|⟨kd,n,e1,e2⟩
 ·exact .inl λ_=>hb _
 simp only[e2]
 rcases fm c fr with hb|⟨kd',q,e3,e4⟩
 ·exact .inl λ_=>hb _
 simp only[e4]
 rcases ay 12 (Nat.ble n q)with hb|⟨h5,e5⟩
 ·exact .inl λ_=>hb _
 simp only[e5]
 rcases ay 12 (Nat.ble (i.bytes*q) 1099511627776)with hb|⟨h6,e6⟩
 ·exact .inl λ_=>hb _
 simp only[e6]
 rcases ay 12 (Nat.ble q 1099511627776)with hb|⟨h7,e7⟩
 ·exact .inl λ_=>hb _
 simp only[e7]
 rcases dF (.cells (eQ z q) 0) h with hb|⟨o,h',hn,hm,e8⟩
 ·exact .inl λ_=>hb _
 simp only[e8]
 refine .inr ⟨_,h',λ_=>rfl,fun ε T D w hT hF hh=>?_⟩
 have h1:=au hl hT hF D
 have h2:=au hc hT hF D
 rw[e1]at h1;rw[e3]at h2
 simp only[R]at h1 h2
 obtain⟨Z,z1,z2⟩:=fS (ε:=ε) (m:=h.mem) (w:=w) hz
 have hZs:Z.cells.size=s:=by have:=z2.length;rw[hzl]at this;simpa using this.symm
 have g5:=dV h5
 have g6:=dV h6
 have g7:=dV h7
 have hrow:((Array.range (q*s)).map (Z.cells[· % Z.cells.size]!)).toList=(List.replicate q Z.cells.toList).flatten:=by rw[← hZs];exact um _ _
 have adv:=de.newCells hh hn (eQ z q) 0 0 _ [] e (z2.rep q) (by simp)
 rw[List.append_nil,← hrow,Array.toArray_toList]at adv
 rw[hm]
 refine⟨_,_,_,adv,⟨je _ _ _ _,rfl⟩,.inl ?_⟩
 rw[fT]
 have g8:¬ (281474976710656<(i.bytes:Int)*(q:Int)):=by
  rw[← Int.natCast_mul];omega
 have hsz:=(bj (w:=w) hs).1
 by_cases hq:q*s=0
 ·have hq0:q=0:=by rcases Nat.mul_eq_zero.1 hq with h|h;exact h;exact absurd h (bj (w:=w) hs).2
  subst hq0
  have hn0:n=0:=by omega
  subst hn0
  have e9:IntKind.i64.wrap 0=0:=by decide
  have e0:∀ f:Nat→Value,(Array.range 0).map f = #[]:=λf=>by simp
  simp[execOp,ho,Instr.makeSlice,run_underlying ht,h1,h2,asInt,asIntOf,typeInfo,hi,hsz,newRow,bu.cap,e9,e0]
 ·have e9:IntKind.i64.wrap (q:Int)=q:=ut g7
  have e10:IntKind.i64.wrap (n:Int)=n:=ut (Nat.le_trans g5 g7)
  simp[execOp,ho,Instr.makeSlice,run_underlying ht,h1,h2,asInt,asIntOf,typeInfo,hi,hsz,e9,e10,g8,hq,z1,newRow,bu.cap,(show ¬ ((q:Int)<0) by omega),(show ¬ ((n:Int)<0) by omega),(show ¬ (q<n) by omega)]
theorem uT(size:Nat)(v:AV)(h:H):(∀ k,bq (srcCells size v h k))∨∃ (n:Nat) (cs:List AV),(∀ k,srcCells size v h k=k n cs)∧cs.length=n*size ∧
  ∀ (ε : bu) (V:Value),R ε h.mem v V→(∀ w,(Builtin.lenOf V).run P w = .ok n w)∧∀ w,bX P ε h.mem w→∀ q,q≤n→∃ L:List Value,Rs ε h.mem (cs.take (q*size)) L∧(Builtin.firstCells size q V).run P w = .ok L.toArray w:=by
 by_cases hv:∃ s,v = .str s
 ·obtain⟨s,rfl⟩:=hv
  have e0:∀ k,srcCells size (.str s) h k=must 12 (Nat.beq size 1) (k (aW s) (cT s)):=λ_=>rfl
  simp only[e0]
  rcases ay 12 (Nat.beq size 1)with hb|⟨h1,h2⟩
  ·exact .inl λ_=>hb _
  simp only[h2]
  have hn:=Nat.eq_of_beq_eq_true h1
  subst hn
  refine .inr ⟨_,_,λ_=>rfl,by rw[mu,cf,Nat.mul_one],fun ε V r=>?_⟩
  simp only[R]at r;subst r
  have hz:(aD s).size=s.length:=cV s
  refine⟨λw=>by simp[Builtin.lenOf,hz,cf],λw hh q hq=>⟨_,(qm s).take _,?_⟩⟩
  have hx:(aD s).extract 0 q=aD (s.take q):=by rw[jB];simp
  simp only[Builtin.firstCells,hx]
  show Result.ok _ _=_
  congr 1
  apply Array.ext';simp[aD]
 ·have e0:∀ k,srcCells size v h k=v.lenC λn=>sliceCells size v n h λcs=>k n cs:=λk=>by cases v <;> first | rfl | exact absurd ⟨_,rfl⟩ hv
  simp only[e0]
  rcases ui v with hb|⟨n,e1,e2⟩
  ·exact .inl λ_=>hb _
  simp only[e1]
  rcases iq (P:=P) size v n h with hb|⟨cs,e3,e4,e5⟩
  ·exact .inl λ_=>hb _
  refine .inr ⟨n,cs,λk=>e3 _,e4,fun ε V r=>⟨λw=>?_,λw hh q hq=>?_⟩⟩
  ·obtain⟨A,c,rfl⟩:=e2 ε _ _ r
   simp[Builtin.lenOf]
  ·obtain⟨L,rl,A,l,c,rfl,h5,h6,_,h7⟩:=e5 ε w V r hh
   refine⟨_,rl.take (q*size),?_⟩
   cases A with
   | none =>
    have hL:L=[]:=by
     simp[Builtin.firstCells]at h6
     exact h6
    simp[Builtin.firstCells,hL]
   | some ad =>
    have h8:=h7 ad rfl
    have hle:q*size≤n*size:=Nat.mul_le_mul_right _ hq
    have hln:=rl.length
    have hld:=run_loadCells_list (P:=P) w ad (L.take (q*size)) λj u hj=>by
     rw[List.getElem?_take]at hj
     split at hj
     ·exact h8 j u hj
     ·cases hj
    rw[List.length_take,Nat.min_eq_left (by omega)]at hld
    simpa [Builtin.firstCells] using hld
theorem take_zero{cs:List AV}{L:List Value}(size:Nat)(r:Rs ε m (cs.take (0*size)) L):L=[]:=by
 rw[Nat.zero_mul,List.take_zero]at r;simpa [Rs] using r
theorem Gq{c:Go.Call}{t e:TypeId}{size:Nat}(hx:bg N x=some a)(hy:bg N y=some b)(hc:c.callee = .builtin .copy)(ha:c.args.toList=[x,y])(h0:c.argTypes.toList.head? = some t)(ht:P.underlying t=some (.slice e))(hs:bB P e=some size):bm P N (.copy size a b) (.call c):=by
 rintro oper ho call fr h
 have ha':c.args = #[x,y]:=by apply Array.ext';simpa using ha
 have ht0:c.argTypes[0]? = some t:=by cases hq:c.argTypes with | mk l=>rw[hq]at h0;cases l <;> simp_all
 have hsz:∀ w,(sizeOf e).run P w = .ok size w:=λw=>(bj hs).1
 have hex:∀ (ρ : Operand→Value) (w:World) (A:Option Addr) (n l cp:Nat) (L:List Value) (w':World),ρ x = .slice A n cp→(Builtin.lenOf (ρ y)).run P w = .ok l w→(Builtin.firstCells size (Nat.min l n) (ρ y)).run P w = .ok L.toArray w→(∀ ad,A=some ad→(storeCells ad L).run P w = .ok () w')→(A=none→w'=w)→SB P oper ρ w (.int .i64 (Nat.min l n:Nat)) w':=fun ρ w A n l cp L w' h1 h2 h3 h4 h5=>by
  left
  cases A with
  | none=>rw[h5 rfl];simp[execOp,ho,resolve,hc,ha',invoke,builtin,Builtin.copy_,ht0,run_underlying ht,h1,h2,hsz,h3,goInt]
  | some ad=>simp[execOp,ho,resolve,hc,ha',invoke,builtin,Builtin.copy_,ht0,run_underlying ht,h1,h2,hsz,h3,h4 ad rfl,goInt]
 show an (λk=>srcCells size (b.ev fr) h λm new=>(a.ev fr).onSlcZ (k (.int .i64 0) h) λo i n _=>ltake (i6 m n*size) new λnew=>must 12 (bL new) (cellsOf o h λcs es=>lput new cs i λcs=>forceN (i6 m n) λq=>k (.int .i64 (.ofNat q)) (setObj o (.cells cs es) h))) _
 rcases uT (P:=P) size (b.ev fr) h with hb|⟨l,new,e1,e2,e3⟩
 ·exact .inl λ_=>hb _
 simp only[e1,ao,za]
 rcases mt (a.ev fr)with hb|hz|⟨o,i,n,cp,ea⟩
 ·exact .inl λ_=>hb _ _
 ·have ez:∀ z kk,(a.ev fr).onSlcZ z kk=z:=λz kk=>by rcases hz with e|⟨o,i,e⟩ <;> rw[e] <;> rfl
  simp only[ez]
  refine an.now fun ε T D w hT hF hh=>⟨ε,.int .i64 0,w,.refl hh,rfl,?_⟩
  obtain⟨h4,h5⟩:=e3 ε _ (au hy hT hF D)
  obtain⟨L,rl,h6⟩:=h5 w hh 0 (Nat.zero_le _)
  have hL:=take_zero size rl
  subst hL
  have h1:=au hx hT hF D
  have h7:∃ A cp,(Act.mk T D).eval x = .slice A 0 cp:=by
   rcases hz with e|⟨o,i,e⟩ <;> rw[e]at h1 <;> simp only[R]at h1
   ·exact⟨_,_,h1⟩
   ·obtain⟨_,A,h1,_⟩:=h1;exact⟨_,_,h1⟩
  obtain⟨A,cp,h7⟩:=h7
  have:=hex _ w A 0 l cp [] w h7 (h4 w) (by simpa using h6) (λad _=>rfl) λ_=>rfl
  simpa using this
 simp only[ea]
 show an (λk=>ltake (min l n*size) new λnew=>must 12 (bL new) (cellsOf o h λcs es=>lput new cs i λcs=>k (.int .i64 (.ofNat (min l n))) (setObj o (.cells cs es) h))) _
 rcases ig (min l n*size) new with hb|⟨h4,e4⟩
 ·exact .inl λ_=>hb _
 simp only[e4]
 rcases ay 12 (bL (new.take (min l n*size)))with hb|⟨h5,e5⟩
 ·exact .inl λ_=>hb _
 simp only[e5]
 rcases bZ o h with hb|⟨cs,es,hcs,e6⟩
 ·exact .inl λ_=>hb _
 simp only[e6]
 rcases oa (new.take (min l n*size)) cs i with hb|⟨h7,e7⟩
 ·exact .inl λ_=>hb _
 simp only[e7]
 refine .inr ⟨_,_,λ_=>rfl,fun ε T D w hT hF hh=>?_⟩
 have h1:=au hx hT hF D
 rw[ea]at h1;simp only[R]at h1
 obtain⟨h8,h9⟩:=e3 ε _ (au hy hT hF D)
 obtain⟨L,rl,h10⟩:=h9 w hh (min l n) (Nat.min_le_left _ _)
 rw[dM]
 by_cases hne:new.take (min l n*size)=[]
 ·rw[if_pos hne]
  rw[hne]at rl
  have hL:L=[]:=by simpa [Rs] using rl
  subst hL
  have hm:upd h.mem o (.cells cs es)=h.mem:=by
   funext q;by_cases e:q=o
   ·subst e;rw[aM,hcs]
   ·exact bO _ _ e
  rw[hm]
  exact⟨ε,_,w,.refl hh,rfl,hex _ w _ n l _ [] w h1.2 (h8 w) h10 (λad _=>rfl) λ_=>rfl⟩
 ·rw[if_neg hne]
  obtain⟨hrun,adv⟩:=de.store hh hcs i rl h5 (h7.resolve_left hne)
  exact⟨ε,_,_,adv,rfl,hex _ w _ n l _ L _ h1.2 (h8 w) h10 (λad e=>by cases e;exact hrun) λe=>by cases e⟩
theorem Cr{c:Go.Call}{t e:TypeId}{z:List AV}(hx:bg N x=some a)(hc:c.callee = .builtin .clear)(ha:c.args.toList=[x])(h0:c.argTypes.toList.head? = some t)(ht:P.underlying t=some (.slice e))(hz:bE P e=some z):bm P N (.clear z a) (.call c):=by
 rintro oper ho call fr h
 have ha':c.args = #[x]:=by apply Array.ext';simpa using ha
 have ht0:c.argTypes[0]? = some t:=by cases hq:c.argTypes with | mk l=>rw[hq]at h0;cases l <;> simp_all
 have hex:∀ (ρ : Operand→Value) (w:World) (A:Option Addr) (n cp:Nat) (Z:Value) (L:List Value) (w':World),ρ x = .slice A n cp→(zeroValue e).run P w = .ok Z w→(Builtin.zeroCells Z.cells n).toList=L→(∀ ad,A=some ad→n≠0→(storeCells ad L).run P w = .ok () w')→(A=none∨n=0→w'=w)→SB P oper ρ w (.tuple #[]) w':=fun ρ w A n cp Z L w' h1 h2 h3 h4 h5=>by
  left
  cases A with
  | none=>rw[h5 (.inl rfl)];simp[execOp,ho,resolve,hc,ha',invoke,builtin,Builtin.clear_,ht0,run_underlying ht,h1]
  | some ad =>
   cases n with
   | zero=>rw[h5 (.inr rfl)];simp[execOp,ho,resolve,hc,ha',invoke,builtin,Builtin.clear_,ht0,run_underlying ht,h1]
   | succ n=>simp[execOp,ho,resolve,hc,ha',invoke,builtin,Builtin.clear_,ht0,run_underlying ht,h1,h2,h3,h4 ad rfl]
 show an (λk=>(a.ev fr).onSlcZ (k (.tup []) h) λo i n _=>must 12 (bL (eQ z n)) (cellsOf o h λcs es=>lput (eQ z n) cs i λcs=>k (.tup []) (setObj o (.cells cs es) h))) _
 rcases mt (a.ev fr)with hb|hz'|⟨o,i,n,cp,ea⟩
 ·exact .inl λ_=>hb _ _
 ·have ez:∀ z kk,(a.ev fr).onSlcZ z kk=z:=λz kk=>by rcases hz' with e|⟨o,i,e⟩ <;> rw[e] <;> rfl
  simp only[ez]
  refine an.now fun ε T D w hT hF hh=>⟨ε,.tuple #[],w,.refl hh,⟨[],rfl,rfl⟩,?_⟩
  have h1:=au hx hT hF D
  have h7:∃ A cp,(Act.mk T D).eval x = .slice A 0 cp:=by
   rcases hz' with e|⟨o,i,e⟩ <;> rw[e]at h1 <;> simp only[R]at h1
   ·exact⟨_,_,h1⟩
   ·obtain⟨_,A,h1,_⟩:=h1;exact⟨_,_,h1⟩
  obtain⟨A,cp,h7⟩:=h7
  obtain⟨Z,z1,z2⟩:=fS (ε:=ε) (m:=h.mem) (w:=w) hz
  exact hex _ w A 0 cp Z _ w h7 z1 rfl (λad _ hn=>absurd rfl hn) λ_=>rfl
 simp only[ea]
 show an (λk=>must 12 (bL (eQ z n)) (cellsOf o h λcs es=>lput (eQ z n) cs i λcs=>k (.tup []) (setObj o (.cells cs es) h))) _
 rcases ay 12 (bL (eQ z n))with hb|⟨h5,e5⟩
 ·exact .inl λ_=>hb _
 simp only[e5]
 rcases bZ o h with hb|⟨cs,es,hcs,e6⟩
 ·exact .inl λ_=>hb _
 simp only[e6]
 rcases oa (eQ z n) cs i with hb|⟨h7,e7⟩
 ·exact .inl λ_=>hb _
 simp only[e7]
 refine .inr ⟨_,_,λ_=>rfl,fun ε T D w hT hF hh=>?_⟩
 have h1:=au hx hT hF D
 rw[ea]at h1;simp only[R]at h1
 obtain⟨Z,z1,z2⟩:=fS (ε:=ε) (m:=h.mem) (w:=w) hz
 have hrow:(Builtin.zeroCells Z.cells n).toList=(List.replicate n Z.cells.toList).flatten:=um _ _
 have rl:Rs ε h.mem (eQ z n) (Builtin.zeroCells Z.cells n).toList:=by rw[hrow];exact z2.rep n
 rw[dM]
 by_cases hne:eQ z n=[]
 ·rw[if_pos hne]
  have hm:upd h.mem o (.cells cs es)=h.mem:=by
   funext q;by_cases e:q=o
   ·subst e;rw[aM,hcs]
   ·exact bO _ _ e
  rw[hm]
  have hL:(Builtin.zeroCells Z.cells n).toList=[]:=by rw[hne]at rl;simpa [Rs] using rl
  exact⟨ε,_,w,.refl hh,⟨[],rfl,rfl⟩,hex _ w _ n _ Z _ w h1.2 z1 hL (λad _ _=>rfl) λ_=>rfl⟩
 ·rw[if_neg hne]
  obtain⟨hrun,adv⟩:=de.store hh hcs i rl h5 (h7.resolve_left hne)
  refine⟨ε,_,_,adv,⟨[],rfl,rfl⟩,hex _ w _ n _ Z _ _ h1.2 z1 rfl (λad e _=>by cases e;exact hrun) λe=>?_⟩
  rcases e with e|e
  ·cases e
  ·subst e;exact absurd rfl hne
end Go.Ai
namespace Go.Ai
set_option linter.unusedSectionVars false
variable [Nu]
open Go
variable {P:Program}{N:Nat}{ε : bu}{m:cJ}{w:World}{x y:Operand}{a b:a6}
def mK(str:Bool)(d:TypeDesc):Prop:=(str=true∧d = .string)∨(str=false∧∃ k,d = .int k)
theorem Em{str:Bool}{v:AV}(h:v.isKey str=true):(str=true∧∃ s,v = .str s)∨(str=false∧∃ k n,v = .int k n):=by
 cases v <;> first | (cases h;done) | (exact .inl ⟨h,_,rfl⟩) | (refine .inr ⟨?_,_,_,rfl⟩;cases str <;> first | rfl | cases h)
theorem qe(s r:List Nat):(aD s == aD r)=(s.map Nu.f == r.map Nu.f):=by
 show ((s.map Nu.f).toArray == (r.map Nu.f).toArray)=_
 simp
theorem R2{str:Bool}{v u:AV}(hk:v.isKey str=true):(∀ y n,bq (v.keyC u y n))∨∃ q:Bool,(∀ y n,v.keyC u y n=ifC q y n) ∧
  ∀ (ε : bu) (m:cJ) (d:TypeDesc) (K K':Value),mK str d→R ε m v K→R ε m u K'→Instr.sameNow d K K'=some q∧(q=true→K'=K)∧Instr.sameBits 10000 K K=true:=by
 rcases Em hk with ⟨rfl,s,rfl⟩|⟨rfl,k,n,rfl⟩
 ·by_cases hu:∃ r,u = .str r
  ·obtain⟨r,rfl⟩:=hu
   have e0:∀ y n,(AV.str s).keyC (.str r) y n=seqC s r λb=>ifC b y n:=λ_ _=>rfl
   simp only[e0]
   rcases qr s r with hb|⟨q,e1,e2⟩
   ·exact .inl λ_ _=>hb _
   refine .inr ⟨q,λy n=>e1 _,fun ε m d K K' hd r1 r2=>?_⟩
   simp only[R]at r1 r2
   subst r1;subst r2
   obtain⟨_,rfl⟩|⟨h,_⟩:=hd
   ·have h1:(aD s == aD r)=q:=by rw[qe,e2]
    refine⟨by simp[Instr.sameNow,h1],λhq=>?_,by simp[Instr.sameBits,qe]⟩
    rw[hq]at e2
    have:=eq_of_beq e2
    unfold aD;rw[this]
   ·cases h
  ·refine .inl λy n=>?_
   cases u <;> first | exact⟨_,rfl⟩ | exact absurd ⟨_,rfl⟩ hu
 ·by_cases hu:∃ j r,u = .int j r
  ·obtain⟨j,r,rfl⟩:=hu
   have e0:∀ y z,(AV.int k n).keyC (.int j r) y z=must 12 (Nat.beq k.ctorIdx j.ctorIdx) (ifC (Go.Ai.ieq n r) y z):=λ_ _=>rfl
   simp only[e0]
   rcases ay 12 (Nat.beq k.ctorIdx j.ctorIdx)with hb|⟨h1,e1⟩
   ·exact .inl λ_ _=>hb _
   simp only[e1]
   have hkj:=kA h1
   subst hkj
   refine .inr ⟨_,λ_ _=>rfl,fun ε m d K K' hd r1 r2=>?_⟩
   simp only[R]at r1 r2
   subst r1;subst r2
   obtain⟨h,_⟩|⟨_,kk,rfl⟩:=hd
   ·cases h
   ·rw[qq]
    refine⟨by simp[Instr.sameNow];rfl,λhq=>?_,by simp[Instr.sameBits]⟩
    have:=of_decide_eq_true hq
    rw[this]
  ·refine .inl λy z=>?_
   cases u <;> first | exact⟨_,rfl⟩ | exact absurd ⟨_,_,rfl⟩ hu
theorem bT.get:∀ {es:List pV} {Es:List MapEntry},bT ε m es Es→∀ (i:Nat) (e:pV),es[i]? = some e→∃ E,Es[i]? = some E∧GP ε m e E
 | [],_,_,i,e,h=>by simp at h
 | e::t,_,r,0,e',h=>by obtain⟨E,U,rfl,r1,_⟩:=r;simp at h;subst h;exact⟨E,by simp,r1⟩
 | e::t,_,r,i+1,e',h=>by
  obtain⟨E,U,rfl,_,r2⟩:=r
  obtain⟨E',h1,h2⟩:=bT.get r2 i e' (by simpa using h)
  exact⟨E',by simpa using h1,h2⟩
theorem bT.set:∀ {es:List pV} {Es:List MapEntry},bT ε m es Es→∀ (i:Nat) {e:pV} {E:MapEntry},GP ε m e E→bT ε m (es.set i e) (Es.set i E)
 | [],_,r,_,_,_,_=>by simp[bT]at r;simp[r,bT]
 | e::t,_,r,0,e',E',h=>by obtain⟨E,U,rfl,r1,r2⟩:=r;exact⟨E',U,rfl,h,r2⟩
 | e::t,_,r,i+1,e',E',h=>by obtain⟨E,U,rfl,r1,r2⟩:=r;exact⟨E,U.set i E',rfl,r1,bT.set r2 i h⟩
theorem bT.push:∀ {es:List pV} {Es:List MapEntry},bT ε m es Es→∀ {e:pV} {E:MapEntry},GP ε m e E→bT ε m (es++[e]) (Es++[E])
 | [],_,r,e',E',h=>by simp[bT]at r;subst r;exact⟨E',[],rfl,h,rfl⟩
 | e::t,_,r,e',E',h=>by obtain⟨E,U,rfl,r1,r2⟩:=r;exact⟨E,U++[E'],rfl,r1,bT.push r2 h⟩
theorem vy{str:Bool}{v:AV}(hk:v.isKey str=true):∀ (es:List pV) (i:Nat),(∀ k,bq (findEnt v es k i))∨∃ r:Option (AV × Nat),(∀ k,findEnt v es k i=k r) ∧
  ∀ (ε : bu) (m:cJ) (d:TypeDesc) (K:Value) (Es:List MapEntry),mK str d→R ε m v K→bT ε m es Es →
   (r=none∧Instr.findNow d K Es i=some none)∨∃ (j:Nat) (e:pV) (E:MapEntry),r=some (e.val,i+j)∧es[j]? = some e∧Es[j]? = some E∧GP ε m e E∧E.key=K∧Instr.findNow d K Es i=some (some (i+j,E.val)):=by
 intro es
 induction es with
 | nil =>
  intro i
  refine .inr ⟨none,λ_=>rfl,fun ε m d K Es _ _ r=>.inl ⟨rfl,?_⟩⟩
  simp[bT]at r;subst r;rfl
 | cons e t ih =>
  intro i
  have e0:∀ k,findEnt v (e::t) k i=v.keyC e.key (k (some (e.val,i))) (findEnt v t k (i+1)):=λ_=>rfl
  simp only[e0]
  rcases R2 (u:=e.key) hk with hb|⟨q,e1,e2⟩
  ·exact .inl λ_=>hb _ _
  simp only[e1]
  cases q with
  | true =>
   simp only[a7]
   refine .inr ⟨_,λ_=>rfl,fun ε m d K Es hd r1 r2=>.inr ?_⟩
   obtain⟨E,U,rfl,r3,r4⟩:=r2
   obtain⟨h1,h2,_⟩:=e2 ε m d K E.key hd r1 r3.1
   exact⟨0,e,E,rfl,by simp,by simp,r3,h2 rfl,by simp[Instr.findNow,h1]⟩
  | false =>
   simp only[a5]
   rcases ih (i+1)with hb|⟨r,e3,e4⟩
   ·exact .inl λ_=>hb _
   refine .inr ⟨r,λ_=>e3 _,fun ε m d K Es hd r1 r2=>?_⟩
   obtain⟨E,U,rfl,r3,r4⟩:=r2
   obtain⟨h1,_,_⟩:=e2 ε m d K E.key hd r1 r3.1
   rcases e4 ε m d K U hd r1 r4 with ⟨h5,h6⟩|⟨j,e',E',h5,h6,h7,h8,h9,h10⟩
   ·exact .inl ⟨h5,by simp[Instr.findNow,h1,h6]⟩
   ·refine .inr ⟨j+1,e',E',by rw[h5];congr 2;omega,by simpa using h6,by simpa using h7,h8,h9,?_⟩
    simp only[Instr.findNow,h1,h10]
    congr 3;omega
theorem xS{d:TypeDesc}{str em:Bool}(hd:mK str d){kt:TypeId}(hk:P.underlying kt=some d)(V:Value)(n:Nat):(Instr.checkKey em (n+1) kt V).run P w = .ok () w:=by
 rw[Instr.checkKey]
 obtain⟨_,rfl⟩|⟨_,k,rfl⟩:=hd <;> simp[run_underlying hk]
theorem gF{d:TypeDesc}{str em:Bool}(hd:mK str d){kt:TypeId}(hk:P.underlying kt=some d)(V:Value):(Instr.checkKey em 10000 kt V).run P w = .ok () w:=xS hd hk V 9999
theorem rN{t kt e:TypeId}{d:TypeDesc}{str ok:Bool}{z:AV}(hx:bg N x=some a)(hy:bg N y=some b)(ht:P.underlying t=some (.map kt e))(hk:P.underlying kt=some d)(hd:mK str d)(hz:ry P e=some z):bm P N (.lookup str z ok a b) (.lookup t x y ok):=by
 rintro oper ho call fr h
 have hzero:∀ (ε : bu) (w:World),∃ Z:Value,(zeroValue e).run P w = .ok Z w∧R ε h.mem z Z:=fun ε w=>by
  unfold ry at hz
  simp only[Option.bind_eq_some_iff]at hz
  obtain⟨Z,⟨i,hi,hz⟩,hv⟩:=hz
  exact⟨Z,by simp[zeroValue,typeInfo,hi,hz],pq hv⟩
 show an (λk=>must 12 ((b.ev fr).isKey str) ((a.ev fr).onMapN (dD ok z false h k) λo=>mapOf o h λes _=>findEnt (b.ev fr) es (λq=>Option.casesOn (motive:=λ_=>aa) q (dD ok z false h k) (λq=>dD ok q.1 true h k)) 0)) _
 rcases ay 12 ((b.ev fr).isKey str)with hb|⟨h1,e1⟩
 ·exact .inl λ_=>hb _
 simp only[e1]
 have fin:∀ (v:AV) (t':Bool),(∀ (ε : bu) (T:Array Value) (D:List Deferred) (w:World),T.size=N→b9 ε h.mem fr T→bX P ε h.mem w→∃ V,R ε h.mem v V∧(execOp (Act.mk T D).eval oper).run P w = .ok (.value (if ok then .tuple #[V,.bool t'] else V)) w)→an (λk=>dD ok v t' h k) (bV P N oper fr h):=λv t' hv=>by
  cases ok with
  | true =>
   refine an.now (bV.same fun ε T D w hT hF hh=>?_)
   obtain⟨V,r,e⟩:=hv ε T D w hT hF hh
   exact⟨_,⟨[V,.bool t'],rfl,⟨V,_,rfl,r,⟨_,_,rfl,rfl,rfl⟩⟩⟩,e⟩
  | false =>
   refine an.now (bV.same fun ε T D w hT hF hh=>?_)
   obtain⟨V,r,e⟩:=hv ε T D w hT hF hh
   exact⟨V,r,e⟩
 rcases tS (a.ev fr)with hb|ea|⟨o,ea⟩
 ·exact .inl λ_=>hb _ _
 ·simp only[ea]
  refine fin z false fun ε T D w hT hF hh=>?_
  obtain⟨Z,z1,z2⟩:=hzero ε w
  have h2:=au hx hT hF D
  rw[ea]at h2;simp only[R]at h2
  refine⟨Z,z2,?_⟩
  simp[execOp,ho,Instr.lookup,run_underlying ht,h2,gF hd hk,Instr.findKey,run_underlying hk,Instr.findNow,z1]
 ·simp only[ea]
  show an (λk=>mapOf o h λes _=>findEnt (b.ev fr) es (λq=>Option.casesOn (motive:=λ_=>aa) q (dD ok z false h k) (λq=>dD ok q.1 true h k)) 0) _
  rcases mW o h with hb|⟨es,clk,hm,e2⟩
  ·exact .inl λ_=>hb _
  simp only[e2]
  rcases vy h1 es 0 with hb|⟨r,e3,e4⟩
  ·exact .inl λ_=>hb _
  simp only[e3]
  have hrun:∀ (ε : bu) (T:Array Value) (D:List Deferred) (w:World),T.size=N→b9 ε h.mem fr T→bX P ε h.mem w→∃ (K:Value) (Es:List MapEntry),R ε h.mem (b.ev fr) K∧bT ε h.mem es Es ∧
    ∀ V t',(match Instr.findNow d K Es 0 with | some (some (_,V'))=>V=V'∧t'=true | some none=>(zeroValue e).run P w = .ok V w∧t'=false | none=>False)→(execOp (Act.mk T D).eval oper).run P w = .ok (.value (if ok then .tuple #[V,.bool t'] else V)) w:=fun ε T D w hT hF hh=>by
   have h2:=au hx hT hF D
   rw[ea]at h2;simp only[R]at h2
   obtain⟨Es,h3,h4⟩:=hh.maps o es clk hm
   refine⟨_,Es,au hy hT hF D,h4,λV t' hf=>?_⟩
   have h5:(getObj (ε o).blk).run P w = .ok (.map Es.toArray clk) w:=by simp[getObj,Sem.run,h3]
   cases hfn:Instr.findNow d ((Act.mk T D).eval y) Es 0 with
   | none=>rw[hfn]at hf;exact hf.elim
   | some r =>
    rw[hfn]at hf
    cases r with
    | none =>
     obtain⟨hf1,rfl⟩:=hf
     simp[execOp,ho,Instr.lookup,run_underlying ht,h2.2,h5,gF hd hk,Instr.findKey,run_underlying hk,hfn,hf1]
    | some p =>
     obtain⟨hf1,rfl⟩:=hf
     subst hf1
     simp[execOp,ho,Instr.lookup,run_underlying ht,h2.2,h5,gF hd hk,Instr.findKey,run_underlying hk,hfn]
  cases r with
  | none =>
   refine fin z false fun ε T D w hT hF hh=>?_
   obtain⟨Z,z1,z2⟩:=hzero ε w
   obtain⟨K,Es,q1,q2,q3⟩:=hrun ε T D w hT hF hh
   rcases e4 ε h.mem d K Es hd q1 q2 with ⟨_,h6⟩|⟨j,e',E',h5,_⟩
   ·exact⟨Z,z2,q3 Z false (by rw[h6];exact⟨z1,rfl⟩)⟩
   ·cases h5
  | some p =>
   refine fin p.1 true fun ε T D w hT hF hh=>?_
   obtain⟨K,Es,q1,q2,q3⟩:=hrun ε T D w hT hF hh
   rcases e4 ε h.mem d K Es hd q1 q2 with ⟨h6,_⟩|⟨j,e',E',h5,h6,h7,h8,h9,h10⟩
   ·cases h6
   ·cases h5
    exact⟨E'.val,h8.2.1,q3 _ _ (by rw[h10];exact⟨rfl,rfl⟩)⟩
theorem map_set(E':MapEntry)(l:List MapEntry)(j:Nat)(f:MapEntry→MapEntry){E:MapEntry}(h:l[j]? = some E)(hf:f E=E'):l.modify j f=l.set j E':=by
 apply List.ext_getElem?
 intro i
 rw[List.getElem?_modify,List.getElem?_set]
 by_cases hij:j=i
 ·subst hij
  have:=(List.getElem?_eq_some_iff.1 h).1
  rw[h];simp[hf,this]
 ·simp[hij]
theorem jd{op:Op}{t kt e:TypeId}{d:TypeDesc}{str:Bool}{z:Operand}{c:a6}(hop:op = .mapUpdate t x y z∨op = .insert t x y z)(hx:bg N x=some a)(hy:bg N y=some b)(hz:bg N z=some c)(ht:P.underlying t=some (.map kt e))(hk:P.underlying kt=some d)(hd:mK str d):bm P N (.mapUpd str a b c) op:=by
 rintro oper ho call fr h
 show an (λk=>must 12 ((b.ev fr).isKey str) ((a.ev fr).onMap λo=>mapOf o h λes clock=>findEnt (b.ev fr) es (λq=>Option.casesOn (motive:=λ_=>aa) q (k .undef (setObj o (.map (cZ es [⟨b.ev fr,c.ev fr,clock⟩]) (clock+1)) h))
  (λq=>nthC es q.2 λe=>k .undef (setObj o (.map (oM ⟨b.ev fr,c.ev fr,e.born⟩ es q.2) clock) h))) 0)) _
 rcases ay 12 ((b.ev fr).isKey str)with hb|⟨h1,e1⟩
 ·exact .inl λ_=>hb _
 simp only[e1]
 rcases pb (a.ev fr)with hb|⟨o,ea⟩
 ·exact .inl λ_=>hb _
 simp only[ea]
 show an (λk=>mapOf o h λes clock=>findEnt (b.ev fr) es (λq=>Option.casesOn (motive:=λ_=>aa) q (k .undef (setObj o (.map (cZ es [⟨b.ev fr,c.ev fr,clock⟩]) (clock+1)) h))
  (λq=>nthC es q.2 λe=>k .undef (setObj o (.map (oM ⟨b.ev fr,c.ev fr,e.born⟩ es q.2) clock) h))) 0) _
 rcases mW o h with hb|⟨es,clk,hm,e2⟩
 ·exact .inl λ_=>hb _
 simp only[e2]
 rcases vy h1 es 0 with hb|⟨r,e3,e4⟩
 ·exact .inl λ_=>hb _
 simp only[e3]
 have key:∀ (ε : bu) (w:World) (K:Value),R ε h.mem (b.ev fr) K→Instr.sameBits 10000 K K=true:=fun ε w K r=>by
  rcases Em h1 with ⟨_,s,e⟩|⟨_,k,n,e⟩ <;> rw[e]at r <;> simp only[R]at r <;> subst r
  ·simp[Instr.sameBits,qe]
  ·simp[Instr.sameBits]
 have put:∀ (ε : bu) (w:World) (Es Es':List MapEntry) (es':List pV) (clk':Nat),bX P ε h.mem w→w.heap[(ε o).blk]? = some (.map Es.toArray clk)→bT ε h.mem es' Es' →
   de P ε h.mem w ε (upd h.mem o (.map es' clk')) { w with heap:=w.heap.setIfInBounds (ε o).blk (.map Es'.toArray clk') }:=fun ε w Es Es' es' clk' hh hg hr=>by
  refine de.set hh (by rw[hm];trivial) _ (by simp) (λhq=>by rw[hm]at hq;exact hq.elim) _ (by simp) (λk hk=>Array.getElem?_setIfInBounds_ne (Ne.symm hk)) ?_
  rintro m' w' rfl rfl hst
  refine⟨λ_ _ e=>(by cases e),λes2 clk2 e=>?_,λ_ _ _ _ _ _ e=>(by cases e)⟩
  cases e
  exact⟨Es',cE _ _ hg,hr.mono hst⟩
 have hin:∀ (w:World) (ρ : Operand→Value),(execOp ρ oper).run P w=(do Instr.mapUpdate t (ρ x) (ρ y) (ρ z);pure Next.skip:Sem Next).run P w:=λw ρ=>by
  rcases hop with h|h <;> rw[h]at ho <;> simp only[execOp,ho]
 cases r with
 | none =>
  refine an.now fun ε T D w hT hF hh=>?_
  have h2:=au hx hT hF D
  rw[ea]at h2;simp only[R]at h2
  have h3:=au hy hT hF D
  have h4:=au hz hT hF D
  obtain⟨Es,h5,h6⟩:=hh.maps o es clk hm
  have h7:(getObj (ε o).blk).run P w = .ok (.map Es.toArray clk) w:=by simp[getObj,Sem.run,h5]
  rcases e4 ε h.mem d _ Es hd h3 h6 with ⟨_,h8⟩|⟨j,e',E',h8,_⟩
  ·have hr:=h6.push (e:=⟨b.ev fr,c.ev fr,clk⟩) (E:={ key:=(Act.mk T D).eval y,val:=(Act.mk T D).eval z,born:=clk }) ⟨h3,h4,rfl⟩
   have adv:=put ε w Es _ _ (clk+1) hh h5 hr
   rw[dM,gB]
   refine⟨ε,undef,_,adv,rfl,.inr ⟨?_,rfl⟩⟩
   rw[hin]
   have h9:∀ X:Go.Obj,(Go.setObj (ε o).blk X).run P w = .ok () { w with heap:=w.heap.setIfInBounds (ε o).blk X }:=λX=>by simp[Go.setObj,Sem.run,h5]
   simp[Instr.mapUpdate,run_underlying ht,h2.2,h7,gF hd hk,Instr.findKey,run_underlying hk,h8,h9]
  ·cases h8
 | some p =>
  show an (λk=>nthC es p.2 λe=>k .undef (setObj o (.map (oM ⟨b.ev fr,c.ev fr,e.born⟩ es p.2) clk) h)) _
  rcases od es p.2 with hb|⟨e0,h2,e5⟩
  ·exact .inl λ_=>hb _
  simp only[e5]
  refine an.now fun ε T D w hT hF hh=>?_
  have q2:=au hx hT hF D
  rw[ea]at q2;simp only[R]at q2
  have h3:=au hy hT hF D
  have h4:=au hz hT hF D
  obtain⟨Es,h5,h6⟩:=hh.maps o es clk hm
  have h7:(getObj (ε o).blk).run P w = .ok (.map Es.toArray clk) w:=by simp[getObj,Sem.run,h5]
  rcases e4 ε h.mem d _ Es hd h3 h6 with ⟨h8,_⟩|⟨j,e',E',h8,h10,h11,h12,h13,h14⟩
  ·cases h8
  ·cases h8
   rw[Nat.zero_add]at h2 h14
   rw[h10]at h2;cases h2
   have hr:=h6.set j (e:=⟨b.ev fr,c.ev fr,e0.born⟩) (E:={ E' with key:=(Act.mk T D).eval y,val:=(Act.mk T D).eval z }) ⟨h3,h4,h12.2.2⟩
   have adv:=put ε w Es _ _ clk hh h5 hr
   simp only[dM,sy,Nat.zero_add]
   refine⟨ε,undef,_,adv,rfl,.inr ⟨?_,rfl⟩⟩
   rw[hin]
   have h9:∀ X:Go.Obj,(Go.setObj (ε o).blk X).run P w = .ok () { w with heap:=w.heap.setIfInBounds (ε o).blk X }:=λX=>by simp[Go.setObj,Sem.run,h5]
   have h15:=map_set { E' with key:=(Act.mk T D).eval y,val:=(Act.mk T D).eval z } Es j (λe=>{ e with key:=(Act.mk T D).eval y,val:=(Act.mk T D).eval z }) h11 rfl
   have h16:(Instr.keyThatStays ((Act.mk T D).eval y) ((Act.mk T D).eval y)).run P w = .ok ((Act.mk T D).eval y) w:=by simp[Instr.keyThatStays,key ε w _ h3]
   simp[Instr.mapUpdate,run_underlying ht,q2.2,h7,gF hd hk,Instr.findKey,run_underlying hk,h14,h9,h11,h13,h16,h15]
end Go.Ai
namespace Go.Ai
set_option linter.unusedSectionVars false
variable [Nu]
open Go
variable {P:Program}{N:Nat}{ε : bu}{m:cJ}{w:World}{x y:Operand}{a b:a6}
theorem lJ(v:AV):(∀ z kk,bq (v.onPtrN z kk))∨v = .nilp∨∃ o i,v = .ptr o i:=by cases v <;> first | exact .inr (.inr ⟨_,_,rfl⟩) | exact .inr (.inl rfl) | exact .inl λ_ _=>⟨_,rfl⟩
theorem CV{c:Go.Call}(hx:bg N x=some a)(hc:c.callee = .builtin .unsafeSliceData)(ha:c.args.toList=[x]):bm P N (.sdata a) (.call c):=by
 rintro oper ho call fr h
 have ha':c.args = #[x]:=by apply Array.ext';simpa using ha
 show an (λk=>(a.ev fr).onSlc (k .nilp h) λo i _ c=>must 12 (Nat.blt 0 (gQ.casesOn (motive:=λ_=>Nat) c (λc=>c) (λd=>d))) (k (.ptr o i) h)) _
 rcases mE (a.ev fr)with hb|e|⟨o,i,n,cp,e⟩
 ·exact .inl λ_=>hb _ _
 ·simp only[e]
  refine an.now (bV.same fun ε T D w hT hF hh=>⟨_,rfl,?_⟩)
  have h1:=au hx hT hF D
  rw[e]at h1;simp only[R]at h1
  simp[execOp,ho,resolve,hc,ha',invoke,builtin,h1,Lib.run_unsafeSliceData_nil]
 ·simp only[e]
  show an (λk=>must 12 (Nat.blt 0 (gQ.casesOn (motive:=λ_=>Nat) cp (λc=>c) (λd=>d))) (k (.ptr o i) h)) _
  rcases ay 12 (Nat.blt 0 (gQ.casesOn (motive:=λ_=>Nat) cp (λc=>c) (λd=>d)))with hb|⟨h2,e2⟩
  ·exact .inl λ_=>hb _
  simp only[e2]
  rw[az]at h2
  have h2':=of_decide_eq_true h2
  refine an.now (bV.same fun ε T D w hT hF hh=>?_)
  have h1:=au hx hT hF D
  rw[e]at h1;simp only[R]at h1
  refine⟨_,⟨h1.1,rfl⟩,?_⟩
  have hcap : ε.cap o cp≠0:=by cases cp <;> simp[bu.cap]at h2' ⊢ <;> omega
  simp[execOp,ho,resolve,hc,ha',invoke,builtin,h1.2,Lib.run_unsafeSliceData_row _ _ _ _ _ _ hcap]
theorem GY{c:Go.Call}{t e:TypeId}(hx:bg N x=some a)(hc:c.callee = .builtin .cap)(ha:c.args.toList=[x])(h0:c.argTypes.toList.head? = some t)(ht:P.underlying t=some (.slice e)):bm P N (.capS a) (.call c):=by
 rintro oper ho call fr h
 have ha':c.args = #[x]:=by apply Array.ext';simpa using ha
 have ht0:c.argTypes[0]? = some t:=by cases hq:c.argTypes with | mk l=>rw[hq]at h0;cases l <;> simp_all
 show an (λk=>(a.ev fr).onSlc (k (.int .i64 0) h) λ_ _ _ c=>gQ.casesOn (motive:=λ_=>aa) c (λc=>k (.int .i64 (.ofNat c)) h) (λ_=>.bad 51)) _
 rcases mE (a.ev fr)with hb|e1|⟨o,i,n,cp,e1⟩
 ·exact .inl λ_=>hb _ _
 ·simp only[e1]
  refine an.now (bV.same fun ε T D w hT hF hh=>⟨_,rfl,?_⟩)
  have h1:=au hx hT hF D
  rw[e1]at h1;simp only[R]at h1
  simp[execOp,ho,resolve,hc,ha',invoke,builtin,h1,Builtin.cap_,ht0,run_underlying ht,goInt]
 ·simp only[e1]
  cases cp with
  | opn d=>exact .inl λ_=>⟨51,rfl⟩
  | exact d =>
   refine an.now (bV.same fun ε T D w hT hF hh=>⟨_,rfl,?_⟩)
   have h1:=au hx hT hF D
   rw[e1]at h1;simp only[R]at h1
   simp[execOp,ho,resolve,hc,ha',invoke,builtin,h1.2,Builtin.cap_,ht0,run_underlying ht,goInt,bu.cap]
theorem Gp{t e:TypeId}{n:Nat}(ht:P.underlying t=some (.pointer e))(hs:bB P e=some n)(A:Addr):(Op.equal t (.pointer (some A)) (.pointer (some A))).run P w = .ok true w:=by
 have hsz:=bj (w:=w) hs
 show (Op.equalIn (9999+1) t (.pointer (some A)) (.pointer (some A))).run P w=_
 unfold Op.equalIn
 simp[run_underlying ht,hsz.1,sameAddr]
theorem GM{op:BinOp}{t:TypeId}(p q:Operand)(A:Addr):(eqGuard op t p q (.pointer (some A)) (.pointer (some A))).run P w = .ok () w:=by
 unfold eqGuard
 split <;> rfl
theorem zV{op:BinOp}{neg:Bool}{t e u:TypeId}{n:Nat}(hop:(op = .eql∧neg=false)∨(op = .neq∧neg=true))(hx:bg N x=some a)(hy:bg N y=some b)(ht:P.underlying t=some (.pointer e))(hs:bB P e=some n):bm P N (.peq neg a b) (.binOp op t x y u):=by
 rintro oper ho call fr h
 show an (λk=>(a.ev fr).onPtr λo i=>(b.ev fr).onPtr λq j=>must 12 (o.beq q) (must 12 (Nat.beq i j) (k (.bool (cd neg true)) h))) _
 rcases fp (a.ev fr)with hb|⟨o,i,e1⟩
 ·exact .inl λ_=>hb _
 simp only[e1]
 show an (λk=>(b.ev fr).onPtr λq j=>must 12 (o.beq q) (must 12 (Nat.beq i j) (k (.bool (cd neg true)) h))) _
 rcases fp (b.ev fr)with hb|⟨q,j,e2⟩
 ·exact .inl λ_=>hb _
 simp only[e2]
 show an (λk=>must 12 (o.beq q) (must 12 (Nat.beq i j) (k (.bool (cd neg true)) h))) _
 rcases ay 12 (o.beq q)with hb|⟨h3,e3⟩
 ·exact .inl λ_=>hb _
 simp only[e3]
 rcases ay 12 (Nat.beq i j)with hb|⟨h4,e4⟩
 ·exact .inl λ_=>hb _
 simp only[e4]
 have hij:=Nat.eq_of_beq_eq_true h4
 subst hij
 have hoq:o=q:=by
  have key:∀ (p q:ab),p.beq q=true→p=q:=by
   intro p
   induction p with
   | e=>intro q h;cases q <;> first | rfl | exact absurd (show false=true from h) (by decide)
   | l p ih=>intro q h;cases q <;> first | (rw[ih _ h];done) | exact absurd (show false=true from h) (by decide)
   | r p ih=>intro q h;cases q <;> first | (rw[ih _ h];done) | exact absurd (show false=true from h) (by decide)
  exact key _ _ h3
 subst hoq
 refine an.now (bV.same fun ε T D w hT hF hh=>⟨_,rfl,?_⟩)
 have h1:=au hx hT hF D
 have h2:=au hy hT hF D
 rw[e1]at h1;rw[e2]at h2
 simp only[R]at h1 h2
 have he:=Gp (w:=w) ht hs (ε.addr o i)
 have hg:=GM (P:=P) (w:=w) (op:=op) (t:=t) x y (ε.addr o i)
 have hb:(Go.binOp op t (.pointer (some (ε.addr o i))) (.pointer (some (ε.addr o i)))).run P w = .ok (.bool (cd neg true)) w:=by
  rcases hop with ⟨rfl,rfl⟩|⟨rfl,rfl⟩ <;> simp[Go.binOp,he,cM]
 simp[execOp,ho,h1.2,h2.2,hg,hb]
theorem JE{s d t:TypeId}{n:Nat}(hx:bg N x=some a)(hs:P.underlying s=some (.pointer t))(hd:P.underlying d=some .unsafePointer)(hn:bB P t=some n):bm P N (.p2u a) (.convert s d x):=by
 rintro oper ho call fr h
 show an (λk=>(a.ev fr).onPtrN (k .nilp h) λo i=>cellsOf o h λcs _=>must 12 (Nat.blt i (aW cs)) (k (.ptr o i) h)) _
 rcases lJ (a.ev fr)with hb|e|⟨o,i,e⟩
 ·exact .inl λ_=>hb _ _
 ·simp only[e]
  refine an.now (bV.same fun ε T D w hT hF hh=>⟨_,rfl,?_⟩)
  have h1:=au hx hT hF D
  rw[e]at h1;simp only[R]at h1
  simp[execOp,ho,convert,run_underlying hs,run_underlying hd,h1,Conv.unsafePointer]
 ·simp only[e]
  show an (λk=>cellsOf o h λcs _=>must 12 (Nat.blt i (aW cs)) (k (.ptr o i) h)) _
  rcases bZ o h with hb|⟨cs,es,hcs,e2⟩
  ·exact .inl λ_=>hb _
  simp only[e2,cf]
  rcases ay 12 (Nat.blt i cs.length)with hb|⟨h3,e3⟩
  ·exact .inl λ_=>hb _
  simp only[e3]
  rw[az]at h3
  have h3':=of_decide_eq_true h3
  refine an.now (bV.same fun ε T D w hT hF hh=>?_)
  have h1:=au hx hT hF D
  rw[e]at h1;simp only[R]at h1
  refine⟨_,⟨h1.1,rfl⟩,?_⟩
  obtain⟨C,elem,fz,hg,hsz,hR,hf⟩:=hh.cells o cs es hcs
  have hsh:w.shape? (ε o).blk=some (elem,C.size):=by simp[World.shape?,hg]
  have hn':=bj (w:=w) hn
  have hlt:¬ (C.size≤(ε o).off+i):=by omega
  simp[execOp,ho,convert,run_underlying hs,run_underlying hd,h1.2,Conv.unsafePointer,Conv.seenAt,viewAt,cellsIn,bu.addr,hsh,hn'.1,hn'.2,hlt]
theorem rJ{t:TypeId}{n:Nat}(h:bB P t=some n):P.cellsOf t=n:=by
 unfold bB at h
 simp only[Option.bind_eq_some_iff,Option.map_eq_some_iff]at h
 obtain⟨k,⟨i,hi,rfl⟩,h⟩:=h
 split at h
 ·cases h
 ·cases h;simp[Program.cellsOf,hi]
theorem uq{e:TypeId}{s:Nat}(hs:P.cellsOf e=s)(h0:s≠0)(count off n:Nat)(hr:off%s=0)(hn:off/s+n≤count):liesAt P P.depth e count off e n=true:=by
 have hd:P.depth=(2*(P.types.size+Made.depth)+1)+1:=rfl
 rw[hd]
 simp only[liesAt,Bool.or_eq_true]
 left
 rw[hd]
 simp[rowAt,hs,h0,hr,hn,sameLayout]
theorem Kr{s d u:TypeId}{n:Nat}(hx:bg N x=some a)(hs:P.underlying s=some .unsafePointer)(hd:P.underlying d=some (.pointer u))(hn:bB P u=some n):bm P N (.u2p (4294967296+u) n a) (.convert s d x):=by
 rintro oper ho call fr h
 show an (λk=>(a.ev fr).onPtrN (k .nilp h) λo i=>cellsOf o h λcs es=>must 12 (Nat.beq es (4294967296+u)) (must 12 (Nat.beq (i%n) 0) (must 12 (Nat.ble (i+n) (aW cs)) (k (.ptr o i) h)))) _
 rcases lJ (a.ev fr)with hb|e|⟨o,i,e⟩
 ·exact .inl λ_=>hb _ _
 ·simp only[e]
  refine an.now (bV.same fun ε T D w hT hF hh=>⟨_,rfl,?_⟩)
  have h1:=au hx hT hF D
  rw[e]at h1;simp only[R]at h1
  simp[execOp,ho,convert,run_underlying hs,run_underlying hd,h1,Conv.unsafePointer]
 ·simp only[e]
  show an (λk=>cellsOf o h λcs es=>must 12 (Nat.beq es (4294967296+u)) (must 12 (Nat.beq (i%n) 0) (must 12 (Nat.ble (i+n) (aW cs)) (k (.ptr o i) h)))) _
  rcases bZ o h with hb|⟨cs,es,hcs,e2⟩
  ·exact .inl λ_=>hb _
  simp only[e2,cf]
  rcases ay 12 (Nat.beq es (4294967296+u))with hb|⟨h3,e3⟩
  ·exact .inl λ_=>hb _
  simp only[e3]
  rcases ay 12 (Nat.beq (i%n) 0)with hb|⟨h4,e4⟩
  ·exact .inl λ_=>hb _
  simp only[e4]
  rcases ay 12 (Nat.ble (i+n) cs.length)with hb|⟨h5,e5⟩
  ·exact .inl λ_=>hb _
  simp only[e5]
  have hes:=Nat.eq_of_beq_eq_true h3
  have hmod:=Nat.eq_of_beq_eq_true h4
  have hle:=dV h5
  refine an.now (bV.same fun ε T D w hT hF hh=>?_)
  have h1:=au hx hT hF D
  rw[e]at h1;simp only[R]at h1
  refine⟨_,⟨h1.1,rfl⟩,?_⟩
  obtain⟨C,elem,fz,hg,hsz,hR,hf,_,hwh⟩:=hh.cells o cs es hcs
  obtain⟨hel,hoff⟩:=hwh (by omega)
  have helu:elem=u:=Nat.add_left_cancel (hel.symm.trans hes)
  subst helu
  have hsh:w.shape? (ε o).blk=some (elem,C.size):=by simp[World.shape?,hg]
  have hn':=bj (w:=w) hn
  have hc:=rJ hn
  have hdiv:i/n+1≤C.size/n:=by
   have h6:(i/n+1)*n≤C.size:=by
    have h7:=Nat.div_add_mod i n
    rw[hmod,Nat.add_zero]at h7
    rw[Nat.add_mul,Nat.one_mul,Nat.mul_comm,h7]
    omega
   exact (Nat.le_div_iff_mul_le (Nat.pos_of_ne_zero hn'.2)).2 h6
  have hl:=uq (P:=P) hc hn'.2 (C.size/n) i 1 hmod hdiv
  simp[execOp,ho,convert,run_underlying hs,run_underlying hd,h1.2,Conv.unsafePointer,Conv.seenAt,viewAt,bu.addr,hsh,hn'.1,hn'.2,variablesAt,hc,hoff,hl]
theorem lD:∀ (l:List Nat) (a:Addr) (acc:ByteArray),(∀ (j n:Nat),l[j]? = some n→w.cell? (a.add j)=some (.int .u8 (n:Int)))→(loadBytes a acc l.length).run P w = .ok ⟨acc.data++(l.map Nat.toUInt8).toArray⟩ w
 | [],a,acc,_=>by simp[loadBytes]
 | x::l,a,acc,h=>by
  have h0:w.cell? a=some (.int .u8 (x:Int)):=by
   have:=h 0 x rfl
   simpa [Addr.add] using this
  have ih:=lD l (a.add 1) (acc.push x.toUInt8) (λj y hy=>by
   have:=h (j+1) y (by simpa using hy)
   have e:(a.add 1).add j=a.add (j+1):=by
    unfold Addr.add
    by_cases hj:j=0
    ·subst hj;simp
    ·simp[hj];omega
   rw[e];exact this)
  simp only[List.length_cons,loadBytes,Sem.run_bind,run_load,h0,Result.andThen,Int.toNat_natCast]
  rw[ih]
  congr 1
  apply ByteArray.ext
  simp[ByteArray.push]
theorem JQ{c:Go.Call}{t u:TypeId}(hx:bg N x=some a)(hy:bg N y=some b)(hc:c.callee = .builtin .unsafeString)(ha:c.args.toList=[x,y])(h0:c.argTypes.toList.head? = some t)(ht:P.underlying t=some (.pointer u))(hu:bB P u=some 1)(hlt:u<4294901760):bm P N (.ubs (65536+u) a b) (.call c):=by
 rintro oper ho call fr h
 have ha':c.args = #[x,y]:=by apply Array.ext';simpa using ha
 have ht0:c.argTypes[0]? = some t:=by cases hq:c.argTypes with | mk l=>rw[hq]at h0;cases l <;> simp_all
 have hmax:IntKind.i64.max=9223372036854775807:=rfl
 have hex:∀ (ρ : Operand→Value) (w w':World) (V:Value),(Builtin.unsafeString_ c.argTypes oper.type #[ρ x,ρ y]).run P w = .ok V w'→SB P oper ρ w V w':=fun ρ w w' V hr=>by
  left;simp[execOp,ho,resolve,hc,ha',invoke,builtin,hr]
 show an (λk=>evNat b fr λn=>(a.ev fr).onPtrN (must 12 (Nat.beq n 0) (k (.str []) h)) λo i=>must 12 (Nat.blt 0 n) (must 12 (Nat.ble n 1099511627776) (cellsOf o h λcs es=>must 12 (Nat.beq es (65536+u)) (ldropC i cs λcs=>ltake n cs λcs=>bytesC cs λl=>k (.str l) (setObj o .dead h))))) _
 rcases fm b fr with hb|⟨kd,n,e1,e2⟩
 ·exact .inl λ_=>hb _
 simp only[e2]
 rcases lJ (a.ev fr)with hb|e|⟨o,i,e⟩
 ·exact .inl λ_=>hb _ _
 ·simp only[e]
  show an (λk=>must 12 (Nat.beq n 0) (k (.str []) h)) _
  rcases ay 12 (Nat.beq n 0)with hb|⟨h3,e3⟩
  ·exact .inl λ_=>hb _
  simp only[e3]
  have hn0:=Nat.eq_of_beq_eq_true h3
  subst hn0
  refine an.now fun ε T D w hT hF hh=>⟨ε,.string .empty,w,.refl hh,?_,hex _ _ _ _ ?_⟩
  ·show R ε h.mem (.str []) (.string .empty)
   simp only[R];rfl
  ·have h1:=au hx hT hF D
   have h2:=au hy hT hF D
   rw[e]at h1;rw[e1]at h2
   simp only[R]at h1 h2
   have hdef:Builtin.unsafeString_ c.argTypes oper.type #[.pointer none,.int kd 0] =
     (do
      let n←asInt (.int kd 0)
      let some pt:=c.argTypes[0]? | stuck "unsafe.String: no argument types"
      if n<0 then runtimePanic (.error "unsafe.String: len out of range")
      if n>IntKind.i64.max then unsupported (.unsafePointer "String: a length above the largest int")
      if n=0 then pure (.string .empty)
      else runtimePanic (.error "unsafe.String: ptr is nil and len is not zero")):=rfl
   rw[h1,h2]
   show (Builtin.unsafeString_ c.argTypes oper.type #[.pointer none,.int kd 0]).run P w=_
   rw[hdef]
   simp[asInt,asIntOf,hmax,ht0]
 ·simp only[e]
  show an (λk=>must 12 (Nat.blt 0 n) (must 12 (Nat.ble n 1099511627776) (cellsOf o h λcs es=>must 12 (Nat.beq es (65536+u)) (ldropC i cs λcs=>ltake n cs λcs=>bytesC cs λl=>k (.str l) (setObj o .dead h))))) _
  rcases ay 12 (Nat.blt 0 n)with hb|⟨h3,e3⟩
  ·exact .inl λ_=>hb _
  simp only[e3]
  rw[az]at h3
  have hpos:=of_decide_eq_true h3
  rcases ay 12 (Nat.ble n 1099511627776)with hb|⟨h3',e3'⟩
  ·exact .inl λ_=>hb _
  simp only[e3']
  have hbig':=dV h3'
  rcases bZ o h with hb|⟨cs,es,hcs,e4⟩
  ·exact .inl λ_=>hb _
  simp only[e4]
  rcases ay 12 (Nat.beq es (65536+u))with hb|⟨h5,e5⟩
  ·exact .inl λ_=>hb _
  simp only[e5]
  rcases fe i cs with hb|⟨h6,e6⟩
  ·exact .inl λ_=>hb _
  simp only[e6]
  rcases ig n (cs.drop i)with hb|⟨h7,e7⟩
  ·exact .inl λ_=>hb _
  simp only[e7]
  rcases uk ((cs.drop i).take n)with hb|⟨l,e8,e9,e10⟩
  ·exact .inl λ_=>hb _
  simp only[e8]
  have hes:=Nat.eq_of_beq_eq_true h5
  have h7':i+n≤cs.length:=by rw[List.length_drop]at h7;omega
  refine .inr ⟨_,_,λ_=>rfl,fun ε T D w hT hF hh=>?_⟩
  have h1:=au hx hT hF D
  have h2:=au hy hT hF D
  rw[e]at h1;rw[e1]at h2
  simp only[R]at h1 h2
  have hcell:=hh.cells o cs es hcs
  obtain⟨L,hL,rL,hv⟩:=hcell.vals i n h7'
  obtain⟨C,elem,fz,hg,hsz,hR,hf,hrow,_⟩:=hcell
  have hel:=hrow (by rw[hes];exact Nat.le_add_right _ _) (by rw[hes];exact Nat.add_lt_add_left hlt 65536)
  have helu:elem=u:=Nat.add_left_cancel (hel.symm.trans hes)
  subst helu
  have hln:l.length=n:=by have h8:=congrArg List.length e9;rw[List.length_take,List.length_map,List.length_drop]at h8;omega
  rw[e9]at rL
  have hLb:=rL.bytes
  have hcells:∀ (j k:Nat),l[j]? = some k→w.cell? ((ε.addr o i).add j)=some (.int .u8 (k:Int)):=λj k hj=>by
   refine hv j _ ?_
   rw[hLb];simp[hj]
  have hlb:=lD (P:=P) l (ε.addr o i) .empty hcells
  have hsh:w.shape? (ε o).blk=some (elem,C.size):=by simp[World.shape?,hg]
  have hc1:=rJ hu
  have hlies:=uq (P:=P) hc1 (by omega) (C.size/1) ((ε o).off+i) n (Nat.mod_one _) (by rw[Nat.div_one,Nat.div_one];omega)
  have hfz:∃ fz',w.freeze (ε.addr o i) n = { w with heap:=w.heap.setIfInBounds (ε o).blk (.cells C elem fz') }:=by
   unfold World.freeze
   rw[if_neg (by omega)]
   refine⟨if fz.1 == fz.2 then ((ε.addr o i).off,(ε.addr o i).off+n) else (min fz.1 (ε.addr o i).off,max fz.2 ((ε.addr o i).off+n)),?_⟩
   congr 1
   apply Array.ext_getElem?
   intro k
   rw[Array.getElem?_modify,Array.getElem?_setIfInBounds]
   by_cases hk:(ε o).blk=k
   ·subst hk
    have hlt':=kJ hg
    have hg':w.heap[(ε o).blk] = .cells C elem fz:=by
     have:=hg;rw[Array.getElem?_eq_getElem hlt']at this;exact Option.some.inj this
    simp[bu.addr,hlt',hg']
   ·simp[bu.addr,hk]
  obtain⟨fz',hfz⟩:=hfz
  have hlive:dw (h.mem o):=by rw[hcs];trivial
  have adv:de P ε h.mem w ε (upd h.mem o .dead) (w.freeze (ε.addr o i) n):=by
   rw[hfz]
   refine de.set hh hlive .dead (by simp) (λhq=>by rw[hcs]at hq;exact hq.elim) _ (by simp) (λk hk=>Array.getElem?_setIfInBounds_ne (Ne.symm hk)) ?_
   rintro m' w' rfl rfl _
   exact⟨λ_ _ e=>(by cases e),λ_ _ e=>(by cases e),λ_ _ _ _ _ _ e=>(by cases e)⟩
  rw[dM]
  refine⟨ε,.string ⟨(l.map Nat.toUInt8).toArray⟩,_,adv,by simp only[R];rw[uA e10],hex _ _ _ _ ?_⟩
  rw[h1.2,h2]
  have hneg:¬ ((n:Int)<0):=by omega
  have hbig:¬ (9223372036854775807:Int)<(n:Int):=by omega
  ·have hn0:n≠0:=by omega
   rw[hln]at hlb
   have hemp:ByteArray.empty.data++(l.map Nat.toUInt8).toArray=(l.map Nat.toUInt8).toArray:=by simp
   have hdef:Builtin.unsafeString_ c.argTypes oper.type #[.pointer (some (ε.addr o i)),.int kd (n:Int)] =
     (do
      let k←asInt (.int kd (n:Int))
      let some pt:=c.argTypes[0]? | stuck "unsafe.String: no argument types"
      if k<0 then runtimePanic (.error "unsafe.String: len out of range")
      if k>IntKind.i64.max then unsupported (.unsafePointer "String: a length above the largest int")
      if k=0 then pure (.string .empty)
      else if←variablesAt (ε.addr o i) (← elemOf pt) k.toNat then do
       let s←loadBytes (ε.addr o i) .empty k.toNat
       freeze (ε.addr o i) k.toNat
       pure (.string s)
      else unsupported (.unsafePointer "String: not so many bytes at ptr")):=rfl
   rw[hdef]
   simp[asInt,asIntOf,hmax,hbig,hneg,hn0,ht0,variablesAt,bu.addr,hsh,elemOf,run_underlying ht,hc1]at hlb hlies ⊢
   simp[hlies,hlb]
theorem Yg(v:AV):(∀ kk,bq (v.onMap kk))∨∃ o,v = .map o:=pb v
theorem zf{t k e:TypeId}(hx:bg N x=some a)(ht:P.underlying t=some (.map k e)):bm P N (.rangeE a) (.range t x):=by
 rintro oper ho call fr h
 show an (λkk=>(a.ev fr).onMap λq=>mapOf q h λes _=>List.casesOn (motive:=λ_=>aa) es (newObj (.loop 9 .no (kh (.map q) .e .leaf) [] .skip .skip) h λo h=>kk (.ptr o 0) h) (λ_ _=>.bad 52)) _
 rcases pb (a.ev fr)with hb|⟨q,e1⟩
 ·exact .inl λ_=>hb _
 simp only[e1]
 show an (λkk=>mapOf q h λes _=>List.casesOn (motive:=λ_=>aa) es (newObj (.loop 9 .no (kh (.map q) .e .leaf) [] .skip .skip) h λo h=>kk (.ptr o 0) h) (λ_ _=>.bad 52)) _
 rcases mW q h with hb|⟨es,clk,hq,e2⟩
 ·exact .inl λ_=>hb _
 simp only[e2]
 cases es with
 | cons _ _=>exact .inl λ_=>⟨52,rfl⟩
 | nil =>
  show an (λkk=>newObj (.loop 9 .no (kh (.map q) .e .leaf) [] .skip .skip) h λo h=>kk (.ptr o 0) h) _
  rcases dF (.loop 9 .no (kh (.map q) .e .leaf) [] .skip .skip) h with hb|⟨o,h',hn,hm,e3⟩
  ·exact .inl λ_=>hb _
  simp only[e3]
  refine .inr ⟨_,h',λ_=>rfl,fun ε T D w hT hF hh=>?_⟩
  have h1:=au hx hT hF D
  rw[e1]at h1;simp only[R]at h1
  obtain⟨Es,hg,hE⟩:=hh.maps q [] clk hq
  simp only[bT]at hE;subst hE
  have adv:=de.new hh hn (.loop 9 .no (kh (.map q) .e .leaf) [] .skip .skip) trivial (.mapIter (some (ε q).blk) clk #[] clk) 0 (by
   rintro ε' m' w' rfl rfl rfl hs hx'
   refine⟨λ_ _ e=>(by cases e),λ_ _ e=>(by cases e),λst pd f ps a' b' e=>?_⟩
   cases e
   refine .inr ⟨rfl,by rw[aM],q,clk,clk,rfl,(hs q h1.1).1,?_⟩
   rw[(hs q h1.1).2];exact hx')
  rw[hm]
  refine⟨_,_,_,adv,⟨by unfold cJ.has;rw[aM];simp,rfl⟩,.inl ?_⟩
  rw[fT]
  simp[execOp,ho,Instr.range,run_underlying ht,h1.2,getObj,Sem.run,hg]
theorem JL(o:ab)(h:H):(∀ k,bq (iterOf o h k))∨∃ pd f ps c d q,h.mem o = .loop 9 pd f ps c d∧b6 .e f = .map q∧∀ k,iterOf o h k=k q:=by
 cases h with
 | mk t n =>
  have e0:∀ k,iterOf o (.mk t n) k=Obj.casesOn (motive:=λ_=>aa) (ax o t) (.bad 53) (λ_ _=>.bad 53) (λ_ _=>.bad 53) (.bad 53) (λst _ f _ _ _=>must 12 (Nat.beq st 9) ((b6 .e f).onMap k)):=λ_=>rfl
  simp only[e0]
  cases e:ax o t with
  | loop st pd f ps c d =>
   show (∀ k:ab→aa,bq (must 12 (Nat.beq st 9) ((b6 .e f).onMap k)))∨_
   rcases ay 12 (Nat.beq st 9)with hb|⟨h2,e2⟩
   ·exact .inl λ_=>hb _
   have hst:=Nat.eq_of_beq_eq_true h2
   subst hst
   rcases pb (b6 .e f)with hb|⟨q,e3⟩
   ·exact .inl λk=>by rw[e2];exact hb _
   ·exact .inr ⟨pd,f,ps,c,d,q,e,e3,λk=>(e2 _).trans (by rw[e3];rfl)⟩
  | _=>exact .inl λ_=>⟨53,rfl⟩
theorem BT(hx:bg N x=some a):bm P N (.nextE a) (.next x false):=by
 rintro oper ho call fr h
 show an (λkk=>(a.ev fr).onPtr λo i=>must 12 (Nat.beq i 0) (iterOf o h λq=>mapOf q h λes _=>List.casesOn (motive:=λ_=>aa) es (kk (.tup [.bool false]) h) (λ_ _=>.bad 52))) _
 rcases fp (a.ev fr)with hb|⟨o,i,e1⟩
 ·exact .inl λ_=>hb _
 simp only[e1]
 show an (λkk=>must 12 (Nat.beq i 0) (iterOf o h λq=>mapOf q h λes _=>List.casesOn (motive:=λ_=>aa) es (kk (.tup [.bool false]) h) (λ_ _=>.bad 52))) _
 rcases ay 12 (Nat.beq i 0)with hb|⟨h2,e2⟩
 ·exact .inl λ_=>hb _
 simp only[e2]
 have hi:=Nat.eq_of_beq_eq_true h2
 subst hi
 rcases JL o h with hb|⟨pd,f,ps,c,d,q,hm,hf,e3⟩
 ·exact .inl λ_=>hb _
 simp only[e3]
 rcases mW q h with hb|⟨es,clk,hq,e4⟩
 ·exact .inl λ_=>hb _
 simp only[e4]
 cases es with
 | cons _ _=>exact .inl λ_=>⟨52,rfl⟩
 | nil =>
  refine .inr ⟨_,_,λ_=>rfl,fun ε T D w hT hF hh=>?_⟩
  have h1:=au hx hT hF D
  rw[e1]at h1;simp only[R]at h1
  obtain⟨h5,q',since,last,h6,h7,h8⟩:=((hh.loops o 9 pd f ps c d hm).resolve_left λ⟨L,_,r⟩=>r.st rfl).2
  rw[hf]at h6;cases h6
  obtain⟨Es,hg,hE⟩:=hh.maps q [] clk hq
  simp only[bT]at hE;subst hE
  refine⟨ε,_,w,.refl hh,⟨_,rfl,_,_,rfl,rfl,rfl⟩,.inl ?_⟩
  simp[execOp,ho,Instr.next,h1.2,bu.addr,h5,getObj,Sem.run,h8,hg,Question.forced]
end Go.Ai
namespace Go.Ai
set_option linter.unusedSectionVars false
variable [Nu]
open Go
variable {P:Program}{N:Nat}{ε : bu}{m:cJ}{w:World}{x y:Operand}{a b:a6}
theorem BG{s d:TypeId}(hx:bg N x=some a)(hs:P.underlying s=some .string)(hd:P.underlying d=some .string):bm P N (.sliceStr a .no .no) (.convert s d x):=by
 rintro oper ho call fr h
 show an (λk=>(a.ev fr).onStr λs=>ldropC 0 s λs=>k (.str s) h) _
 rcases fZ (a.ev fr)with hb|⟨s',e1⟩
 ·exact .inl λ_=>hb _
 simp only[e1.1]
 show an (λk=>ldropC 0 s' λs=>k (.str s) h) _
 rcases fe 0 s' with hb|⟨h4,e4⟩
 ·exact .inl λ_=>hb _
 simp only[e4,List.drop_zero]
 refine an.now (bV.same fun ε T D w hT hF hh=>⟨_,rfl,?_⟩)
 have h1:=au hx hT hF D
 replace h1:=e1.2 _ _ _ h1
 simp[execOp,ho,convert,run_underlying hs,run_underlying hd,h1]
theorem qj{c:Go.Call}{bi:Builtin}{q:O}(hc:c.callee = .builtin bi)(h:mg P N bi c.argTypes.toList c.args.toList=some q):bm P N q (.call c):=by
 unfold mg at h
 split at h
 ·rename_i _ _ x ha
  simp only[Option.bind_eq_some_iff]at h
  obtain⟨a,hx,h⟩:=h
  cases h0:c.argTypes.toList.head? with
  | none=>rw[h0]at h;simp at h
  | some t =>
   rw[h0]at h
   simp only[Option.bind_some]at h
   split at h
   ·rename_i ht;cases h;exact AP hx hc ha h0 ht
   ·rename_i ht;cases h;exact Gz hx hc ha h0 ht
   ·rename_i ht;cases h;exact Bg hx hc ha h0 ht
   ·rename_i ht;cases h;exact zU hc ha h0 ht
   ·cases h
 ·rename_i _ _ x y ha
  have tail:∀ (t t1 e:TypeId) (u:TypeDesc),c.argTypes.toList.head? = some t→P.underlying t=some (.slice e)→c.argTypes.toList[1]? = some t1→P.underlying t1=some u→(u = .string∨∃ e',u = .slice e') →
    ((bB P e).bind λs=>(P.info? e).bind λi=>(bE P e).bind λz=>(bg N x).bind λa=>(bg N y).bind λb=>if z.length == s&&s<65536&&e<4294901760 then some (.append s i.bytes (if s=1 then 65536+e else s) a b) else none)=some q→bm P N q (.call c):=by
   intro t t1 e u h0 h0' h1 h1' hu hq
   simp only[Option.bind_eq_some_iff]at hq
   obtain⟨s,hs,i,hi,z,hz,a,hx,b,hy,hq⟩:=hq
   split at hq
   ·rename_i hl
    cases hq
    simp only[Bool.and_eq_true,decide_eq_true_eq]at hl
    obtain⟨⟨hl,hs6⟩,he6⟩:=hl
    have hl':=eq_of_beq hl
    have hst:pw (if s=1 then 65536+e else s)=s:=by
     by_cases h1:s=1
     ·rw[if_pos h1,oB,h1]
     ·rw[if_neg h1,Dj hs6]
    have hel:iR (if s=1 then 65536+e else s) e 0:=by
     by_cases h1:s=1
     ·rw[if_pos h1];exact iR.row e 0 he6
     ·rw[if_neg h1];exact iR.small hs6
    have hes0:(if s=1 then 65536+e else s)<4294967296:=by
     by_cases h1:s=1
     ·rw[if_pos h1];exact Nat.add_lt_add_left he6 65536
     ·rw[if_neg h1];exact Nat.lt_trans hs6 (by decide)
    unfold bE ry at hz
    simp only[Option.map_eq_some_iff,Option.bind_eq_some_iff]at hz
    obtain⟨v,⟨Z,⟨i',hi',hz⟩,hv⟩,rfl⟩:=hz
    rw[hi]at hi';cases hi'
    have hr:Rs (λ_=>⟨0,0,0⟩) (λ_=>.none) v.cells Z.cells.toList:=R.cells (pq hv)
    have hsz:i.size=s:=by
     unfold bB at hs
     rw[hi]at hs
     simp at hs
     exact hs.2
    refine AB (e:=e) (Z:=Z) hst hel hes0 hx hy hc ha ⟨⟨t,?_,h0'⟩,⟨t1,u,?_,h1',hu⟩,hi,hz,hsz,?_⟩
    ·cases hq:c.argTypes with | mk l=>rw[hq]at h0;cases l <;> simp_all
    ·rw[← h1];simp
    ·have:=hr.length;rw[hl']at this;simpa using this.symm
   ·cases hq
  cases h0:c.argTypes.toList.head? with
  | none=>rw[h0]at h;simp at h
  | some t =>
   cases h1:c.argTypes.toList[1]? with
   | none=>rw[h1]at h;simp at h
   | some t1 =>
    rw[h0,h1]at h
    simp only[Option.bind_some]at h
    split at h
    ·rename_i hu1 hu2;exact tail _ _ _ _ h0 hu1 h1 hu2 (.inr ⟨_,rfl⟩) h
    ·rename_i hu1 hu2;exact tail _ _ _ _ h0 hu1 h1 hu2 (.inl rfl) h
    ·cases h
 ·rename_i _ _ x y ha
  cases h0:c.argTypes.toList.head? with
  | none=>rw[h0]at h;simp at h
  | some t =>
   rw[h0]at h
   simp only[Option.bind_some]at h
   split at h
   ·rename_i ht
    simp only[Option.bind_eq_some_iff,Option.map_eq_some_iff]at h
    obtain⟨s,hs,a,hx,b,hy,rfl⟩:=h
    exact Gq hx hy hc ha h0 ht hs
   ·cases h
 ·rename_i _ _ x ha
  cases h0:c.argTypes.toList.head? with
  | none=>rw[h0]at h;simp at h
  | some t =>
   rw[h0]at h
   simp only[Option.bind_some]at h
   split at h
   ·rename_i ht
    simp only[Option.map_eq_some_iff]at h
    obtain⟨a,hx,rfl⟩:=h
    exact GY hx hc ha h0 ht
   ·cases h
 ·rename_i _ _ x ha
  simp only[Option.map_eq_some_iff]at h
  obtain⟨a,hx,rfl⟩:=h
  exact CV hx hc ha
 ·rename_i _ _ x y ha
  cases h0:c.argTypes.toList.head? with
  | none=>rw[h0]at h;simp at h
  | some t =>
   rw[h0]at h
   simp only[Option.bind_some]at h
   split at h
   ·rename_i u ht
    simp only[Option.bind_eq_some_iff]at h
    obtain⟨a,hx,b,hy,h⟩:=h
    split at h
    ·rename_i hcond
     simp only[Bool.and_eq_true,decide_eq_true_eq]at hcond
     cases h
     exact JQ hx hy hc ha h0 ht hcond.1 hcond.2
    ·cases h
   ·cases h
 ·rename_i _ _ x ha
  cases h0:c.argTypes.toList.head? with
  | none=>rw[h0]at h;simp at h
  | some t =>
   rw[h0]at h
   simp only[Option.bind_some]at h
   split at h
   ·rename_i ht
    simp only[Option.bind_eq_some_iff,Option.map_eq_some_iff]at h
    obtain⟨z,hz,a,hx,rfl⟩:=h
    exact Cr hx hc ha h0 ht hz
   ·cases h
 ·rename_i _ _ x y ha
  simp only[Option.bind_eq_some_iff,Option.map_eq_some_iff]at h
  obtain⟨a,hx,b,hy,rfl⟩:=h
  exact GO hx hy hc ha
 ·rename_i _ _ x y ha
  simp only[Option.bind_eq_some_iff,Option.map_eq_some_iff]at h
  obtain⟨a,hx,b,hy,rfl⟩:=h
  exact Hm hx hy hc ha
 ·cases h
theorem ir{neg:Bool}{op:BinOp}{t u:TypeId}{q:O}(hop:(op = .eql∧neg=false)∨(op = .neq∧neg=true))(hx:bg N x=some a)(hy:bg N y=some b)(h:m5 P neg t x y a b=some q):bm P N q (.binOp op t x y u):=by
 unfold m5 at h
 simp only[Option.bind_eq_some_iff]at h
 obtain⟨k,hk,h⟩:=h
 split at h
 ·rename_i hz;cases h;exact (tA hop hx y u hk hz).1
 ·split at h
  ·rename_i hz;cases h;exact (tA hop hy x u hk hz).2
  ·cases h
theorem w7{op:BinOp}{t u:TypeId}{q:O}(h:ym P N op t x y=some q):bm P N q (.binOp op t x y u):=by
 unfold ym at h
 simp only[Option.bind_eq_some_iff]at h
 obtain⟨a,hx,b,hy,h⟩:=h
 split at h
 all_goals first
  | (cases h;exact Gy hx hy _ _)
  | (cases h;exact Fv hx hy _ _)
  | (cases h;exact Gj hx hy _ _)
  | (cases h;exact FR hx hy _ _)
  | (cases h;exact GK hx hy _ _)
  | (cases h;exact GZ hx hy _ _)
  | (cases h;exact Ir hx hy _ _)
  | (cases h;exact FD hx hy _ _)
  | (cases h;exact FL hx hy _ _)
  | (cases h;exact KQ hx hy _ _)
  | (cases h;exact HC hx hy _ _)
  | (cases h;exact IU hx hy _ _)
  | (cases h;exact Jr hx hy _ _)
  | (cases h;exact FJ hx hy _ _)
  | (cases h;exact Ho hx hy _ _)
  | (cases h;exact G5 hx hy _ _)
  | (cases h;exact HV hx hy _ _)
  | (cases h;exact I7 hx hy _ _)
  | (cases h;exact HA hx hy _ _)
  | (rename_i ht;cases h;exact rO (.inl ⟨rfl,rfl⟩) hx hy u ht)
  | (rename_i ht;cases h;exact rO (.inr ⟨rfl,rfl⟩) hx hy u ht)
  | exact ir (.inl ⟨rfl,rfl⟩) hx hy h
  | (
    rename_i ht;split at h
    ·exact ir (.inl ⟨rfl,rfl⟩) hx hy h
    ·simp only[Option.map_eq_some_iff]at h;obtain⟨n,hn,rfl⟩:=h;exact zV (.inl ⟨rfl,rfl⟩) hx hy ht hn)
  | (
    rename_i ht;split at h
    ·exact ir (.inr ⟨rfl,rfl⟩) hx hy h
    ·simp only[Option.map_eq_some_iff]at h;obtain⟨n,hn,rfl⟩:=h;exact zV (.inr ⟨rfl,rfl⟩) hx hy ht hn)
  | exact ir (.inr ⟨rfl,rfl⟩) hx hy h
  | (
    rename_i ht;split at h
    ·cases h
    ·rename_i hg;simp only[Option.map_eq_some_iff]at h;obtain⟨ks,hf,rfl⟩:=h;exact nA (.inl ⟨rfl,rfl⟩) hx hy u ht (by simpa using hg) hf)
  | (
    rename_i ht;split at h
    ·cases h
    ·rename_i hg;simp only[Option.map_eq_some_iff]at h;obtain⟨ks,hf,rfl⟩:=h;exact nA (.inr ⟨rfl,rfl⟩) hx hy u ht (by simpa using hg) hf)
  | cases h
theorem zK{o:Op}{q:O}(h:gt P N o=some q)(hc:∀ c,o = .call c→∃ b,c.callee = .builtin b):bm P N q o:=by
 unfold gt at h
 split at h
 ·simp only[Option.map_eq_some_iff]at h;obtain⟨a,hx,rfl⟩:=h;exact IT hx
 ·simp only[Option.map_eq_some_iff]at h;obtain⟨a,hx,rfl⟩:=h;exact Ak hx
 ·simp only[Option.map_eq_some_iff,Option.bind_eq_some_iff]at h;obtain⟨a,hx,b,hy,c,hz,rfl⟩:=h;exact GE hx hy hz
 ·simp only[Option.map_eq_some_iff]at h;obtain⟨a,hx,rfl⟩:=h;exact BW hx
 ·simp only[Option.map_eq_some_iff]at h;obtain⟨a,hx,rfl⟩:=h;exact KM hx
 ·simp only[Option.bind_eq_some_iff]at h
  obtain⟨z,hz,h⟩:=h
  split at h
  ·rename_i ht
   simp only[Option.map_eq_some_iff,Option.bind_eq_some_iff]at h
   obtain⟨pl,hp,q',hq,rfl⟩:=h
   exact qf hz ht hp hq
  ·rename_i ht
   simp only[Option.map_eq_some_iff,Option.bind_eq_some_iff]at h
   obtain⟨s,hs,q',hq,rfl⟩:=h
   exact sb hz ht hs hq
  ·cases h
 ·split at h
  ·rename_i ht
   simp only[Option.bind_eq_some_iff]at h
   obtain⟨s,hs,z,hz,q',hq,h⟩:=h
   split at h
   ·rename_i hc'
    cases h
    simp only[Bool.and_eq_true,decide_eq_true_eq,beq_iff_eq]at hc'
    exact r7 ht hs hz hq hc'.1 hc'.2
   ·cases h
  ·cases h
 ·simp only[Option.bind_eq_some_iff]at h
  obtain⟨a,hx,g,hg,h⟩:=h
  split at h
  ·rename_i hgt
   subst hgt
   simp only[Option.map_eq_some_iff]at h
   obtain⟨n,hn,rfl⟩:=h
   exact BU hx hg hn
  ·rename_i hgt
   cases h
   exact BO hx (by rw[hg];simp at hgt;rw[hgt])
 ·simp only[Option.map_eq_some_iff,Option.bind_eq_some_iff]at h
  obtain⟨a,hx,b,hy,n,hn,rfl⟩:=h
  exact Dg hx hy hn
 ·simp only[Option.map_eq_some_iff]at h;obtain⟨a,hx,rfl⟩:=h;exact u9 hx
 ·exact w7 h
 ·simp only[Option.map_eq_some_iff]at h;obtain⟨a,hx,rfl⟩:=h;exact Ip hx _
 ·split at h
  ·simp only[Option.map_eq_some_iff]at h;obtain⟨a,hx,rfl⟩:=h;exact II hx _
  ·cases h
 ·simp only[Option.bind_eq_some_iff]at h
  obtain⟨a,hx,h⟩:=h
  split at h
  ·rename_i hs hd;cases h;exact BC hx hs hd
  ·rename_i hs hd;cases h;exact BG hx hs hd
  ·rename_i hs hd
   split at h
   ·rename_i he;cases h;exact H4 hx hs hd he
   ·cases h
  ·rename_i hs hd
   split at h
   ·rename_i he
    split at h
    ·rename_i hlt;cases h;exact Kx hx hs hd he hlt
    ·cases h
   ·cases h
  ·rename_i hs hd
   simp only[Option.map_eq_some_iff]at h
   obtain⟨n,hn,rfl⟩:=h
   exact JE hx hs hd hn
  ·rename_i hs hd
   simp only[Option.map_eq_some_iff]at h
   obtain⟨n,hn,rfl⟩:=h
   exact Kr hx hs hd hn
  ·cases h
 ·simp only[Option.map_eq_some_iff,Option.bind_eq_some_iff]at h
  obtain⟨p,hp,q',hq,rfl⟩:=h
  exact Bw hp hq
 ·cases h;exact Dh
 ·split at h
  ·rename_i ht
   simp only[Option.bind_eq_some_iff]at h
   obtain⟨s,hs,i,hi,z,hz,l,hl,c,hc',h⟩:=h
   split at h
   ·rename_i hzl;cases h;exact xe ht hs hi hz (eq_of_beq hzl) hl hc'
   ·cases h
  ·cases h
 ·rename_i t x lo hi mx
  simp only[Option.bind_eq_some_iff]at h
  obtain⟨a,hx,l,hl,h',hh,m,hm,h⟩:=h
  have hno:opo N mx=some .no→mx=none:=λhm=>by
   cases mx with
   | none=>rfl
   | some y=>simp[opo]at hm
  split at h
  ·rename_i ht
   cases h
   have:=hno hm
   subst this
   exact u5 hx hl hh ht
  ·rename_i ht
   split at h
   ·cases h
   ·rename_i hn
    simp only[Option.map_eq_some_iff]at h
    obtain⟨s,hs,rfl⟩:=h
    refine ve hx hl hh hm ht hs λhi=>?_
    subst hi
    cases mx with
    | none=>rfl
    | some y=>simp at hn
  ·rename_i ht
   simp only[Option.map_eq_some_iff]at h
   obtain⟨s,hs,rfl⟩:=h
   have:=hno hm
   subst this
   exact vf hx hl hh ht hs
  ·cases h
 ·simp only[Option.bind_eq_some_iff]at h
  obtain⟨a,hx,h⟩:=h
  split at h
  ·rename_i ht
   simp only[Option.map_eq_some_iff,Option.bind_eq_some_iff]at h
   obtain⟨fd,hf,n,hn,rfl⟩:=h
   exact Cz hx ht hf hn
  ·cases h
 ·simp only[Option.bind_eq_some_iff]at h
  obtain⟨a,hx,h⟩:=h
  split at h
  ·rename_i ht
   simp only[Option.map_eq_some_iff,Option.bind_eq_some_iff]at h
   obtain⟨fd,hf,n,hn,g,hg,rfl⟩:=h
   exact Dx hx ht hf hn hg
  ·cases h
 ·simp only[Option.bind_eq_some_iff]at h
  obtain⟨a,hx,b,hy,h⟩:=h
  split at h
  ·rename_i ht
   simp only[Option.map_eq_some_iff]at h
   obtain⟨s,hs,rfl⟩:=h
   exact Aw hx hy ht hs
  ·rename_i ht
   simp only[Option.map_eq_some_iff]at h
   obtain⟨s,hs,rfl⟩:=h
   exact Bd hx hy ht hs
  ·cases h
 ·simp only[Option.bind_eq_some_iff]at h
  obtain⟨a,hx,b,hy,h⟩:=h
  split at h
  ·rename_i ht
   cases h
   exact uO hx hy ht
  ·rename_i ht
   simp only[Option.map_eq_some_iff,Option.bind_eq_some_iff]at h
   obtain⟨s,hs,g,hg,rfl⟩:=h
   exact va hx hy ht hs hg
  ·cases h
 ·simp only[Option.bind_eq_some_iff]at h
  obtain⟨a,hx,b,hy,h⟩:=h
  split at h
  ·rename_i ht
   split at h
   ·rename_i hk
    simp only[Option.map_eq_some_iff]at h
    obtain⟨z,hz,rfl⟩:=h
    exact rN hx hy ht hk (.inl ⟨rfl,rfl⟩) hz
   ·rename_i hk
    simp only[Option.map_eq_some_iff]at h
    obtain⟨z,hz,rfl⟩:=h
    exact rN hx hy ht hk (.inr ⟨rfl,_,rfl⟩) hz
   ·cases h
  ·cases h
 ·simp only[Option.bind_eq_some_iff]at h
  obtain⟨a,hx,b,hy,c,hz,h⟩:=h
  split at h
  ·rename_i ht
   split at h
   ·rename_i hk;cases h;exact jd (.inl rfl) hx hy hz ht hk (.inl ⟨rfl,rfl⟩)
   ·rename_i hk;cases h;exact jd (.inl rfl) hx hy hz ht hk (.inr ⟨rfl,_,rfl⟩)
   ·cases h
  ·cases h
 ·simp only[Option.bind_eq_some_iff]at h
  obtain⟨a,hx,b,hy,c,hz,h⟩:=h
  split at h
  ·rename_i ht
   split at h
   ·rename_i hk;cases h;exact jd (.inr rfl) hx hy hz ht hk (.inl ⟨rfl,rfl⟩)
   ·rename_i hk;cases h;exact jd (.inr rfl) hx hy hz ht hk (.inr ⟨rfl,_,rfl⟩)
   ·cases h
  ·cases h
 ·split at h
  ·rename_i ht
   simp only[Option.map_eq_some_iff]at h
   obtain⟨a,hx,rfl⟩:=h
   exact zf hx ht
  ·cases h
 ·simp only[Option.map_eq_some_iff]at h;obtain⟨a,hx,rfl⟩:=h;exact BT hx
 ·simp only[Option.map_eq_some_iff]at h;obtain⟨a,hx,rfl⟩:=h;exact xG hx
 ·rename_i c
  obtain⟨bi,hb⟩:=hc c rfl
  rw[hb]at h
  exact qj hb h
 ·cases h
end Go.Ai
namespace Go.Ai
set_option linter.unusedSectionVars false
variable [Nu]
open Go
variable {P:Program}{N:Nat}{ε : bu}{m:cJ}{w:World}
def uc(Q:Value→World→Prop):Ending→World→Prop
 | .returned v,w=>Q v w
 | _,_=>False
def lG(P:Program)(Q:Value→World→Prop):Next→World→Prop
 | .value v,w=>Q v w
 | .skip,w=>Q undef w
 | .enter f args,w=>CallsIn Fence.wide 0 P f args w (uc Q)
 | .row r args,w=>RowsIn Fence.wide 0 P r args w Q
 | .round l f tmps assign body,w=>RoundIn Fence.wide 0 P l f tmps assign body w (uc Q)
 | _,_=>False
def OI(P:Program)(ε : bu)(m:cJ)(w:World)(v:AV)(m':cJ):Value→World→Prop:=λV w'=>∃ ε',de P ε m w ε' m' w'∧R ε' m' v V
def gp(P:Program)(p:ab)(args:List AV)(h:H)(v:AV)(h':H):Prop:=∀ (ε : bu) (w:World),bX P ε h.mem w →
 (∀ (f:FuncId) (A:List Value),f<8191→p=ae f→Rs ε h.mem args A→∃ nx w1,(callFunc f A.toArray).run P w = .ok nx w1∧lG P (OI P ε h.mem w v h'.mem) nx w1∧((nx = .enter f A.toArray∧w1=w)∨∀ o,AV.yld o ∉ args)) ∧
 (∀ (o:ab) (vs:List AV) (A:List Value),p=ae 8191→args = .yld o::vs→h.mem.has o→Rs ε h.mem vs A→∃ nx w1,(Instr.yield (ε o).blk A.toArray).run P w = .ok nx w1∧lG P (OI P ε h.mem w v h'.mem) nx w1)
def aC(P:Program)(call:Call):Prop:=∀ p args h,an (call p args h) (gp P p args h)
def H0(P:Program)(N:Nat)(oper:Oper)(fr:FT)(h:H)(v:AV)(h':H):Prop :=
 ∀ (ε : bu) (T:Array Value) (D:List Deferred) (w:World),T.size=N→b9 ε h.mem fr T→bX P ε h.mem w →
  ∃ nx w1,(execOp (Act.mk T D).eval oper).run P w = .ok nx w1∧lG P (OI P ε h.mem w v h'.mem) nx w1
theorem bV.toC{oper:Oper}{fr:FT}{h h':H}{v:AV}(hk:bV P N oper fr h v h'):H0 P N oper fr h v h':=by
 intro ε T D w hT hF hh
 obtain⟨ε',V,w',adv,r,h1|⟨h1,rfl⟩⟩:=hk ε T D w hT hF hh
 ·exact⟨_,_,h1,ε',adv,r⟩
 ·exact⟨_,_,h1,ε',adv,r⟩
theorem an.mono{r:af→aa}{Φ Ψ : AV→H→Prop}(h:an r Φ)(hi:∀ v h,Φ v h → Ψ v h):an r Ψ:=by
 rcases h with hb|⟨v,h,e,p⟩
 ·exact .inl hb
 ·exact .inr ⟨v,h,e,hi _ _ p⟩
theorem C6{args:List Operand}{as:List a6}{fr:FT}{T:Array Value}(h:opds N args=some as)(hT:T.size=N)(hF:b9 ε m fr T)(D:List Deferred):Rs ε m (qF as fr) (args.map (Act.mk T D).eval):=so h hT hF D
theorem oP(v:AV):(∀ kk yy,bq (v.onFnY kk yy))∨(∃ f a c,v = .fn f a c)∨∃ o,v = .yld o:=by
 cases v <;> first | exact .inr (.inl ⟨_,_,_,rfl⟩) | exact .inr (.inr ⟨_,rfl⟩) | exact .inl λ_ _=>⟨_,rfl⟩
theorem sO(v:AV)(k:AV→aa):v.force k=k v:=by cases v <;> rfl
theorem oL(l:List a6)(fr:FT)(k:List AV→aa):Aa l fr k=k (qF l fr):=by
 induction l generalizing k with
 | nil=>rfl
 | cons x t ih =>
  show (x.ev fr).force (λv=>Aa t fr λvs=>k (v::vs))=_
  rw[sO,ih];rfl
theorem BH{call:Call}(hC:aC P call){oper:Oper}{q:O}(hq:gt P N oper.op=some q)(fr:FT)(h:H):an (q.step call fr h) (H0 P N oper fr h):=by
 by_cases hc:∀ c,oper.op = .call c→∃ b,c.callee = .builtin b
 ·exact (zK hq hc oper rfl call fr h).mono λ_ _=>bV.toC
 ·simp only[Classical.not_forall]at hc
  obtain⟨c,ho,hb⟩:=hc
  rw[ho]at hq
  unfold gt at hq
  cases hcl:c.callee with
  | builtin b=>exact absurd ⟨b,hcl⟩ hb
  | invoke r n=>simp only[hcl]at hq;cases hq
  | value x =>
   have hargs:∀ ρ : Operand→Value,c.args.map ρ = (c.args.toList.map ρ).toArray:=fun ρ=>by apply Array.ext';simp
   by_cases hx:∃ f,x = .func f
   ·obtain⟨f,rfl⟩:=hx
    simp only[hcl]at hq
    split at hq
    ·rename_i hf
     simp only[Option.map_eq_some_iff]at hq
     obtain⟨as,ha,rfl⟩:=hq
     have e0:(λk=>(O.call (ae f) as).step call fr h k) = λk=>call (ae f) (qF as fr) h k:=funext λk=>by
      show Aa as fr _=_
      rw[oL]
     show an (λk=>(O.call (ae f) as).step call fr h k) _
     rw[e0]
     refine (hC (ae f) (qF as fr) h).mono λv h' hk ε T D w hT hF hh=>?_
     obtain⟨nx,w1,h1,h2,_⟩:=(hk ε w hh).1 f _ hf rfl (C6 ha hT hF D)
     refine⟨nx,w1,?_,h2⟩
     simp[execOp,ho,resolve,hcl,hargs,Deferred.ofValue,Act.eval,invoke,h1]
    ·cases hq
   ·have hq':((bg N x).bind λx=>(opds N c.args.toList).map λa=>O.callv x a)=some q:=by
     simp only[hcl]at hq
     cases x <;> first | exact hq | exact absurd ⟨_,rfl⟩ hx
    simp only[Option.map_eq_some_iff,Option.bind_eq_some_iff]at hq'
    obtain⟨a,hx',as,ha,rfl⟩:=hq'
    show an (λk=>(a.ev fr).onFnY (λg p c=>must 12 (Nat.blt g 8191) (call (ae g) (cZ p (cZ (qF as fr) c)) h k)) (λo=>call (ae 8191) (.yld o::qF as fr) h k)) _
    rcases oP (a.ev fr)with hb|⟨g,p,cc,e1⟩|⟨o,e1⟩
    ·exact .inl λ_=>hb _ _
    ·simp only[e1]
     show an (λk=>must 12 (Nat.blt g 8191) (call (ae g) (cZ p (cZ (qF as fr) cc)) h k)) _
     rcases ay 12 (Nat.blt g 8191)with hb|⟨h2,e2⟩
     ·exact .inl λ_=>hb _
     simp only[e2]
     refine (hC (ae g) _ h).mono λv h' hk ε T D w hT hF hh=>?_
     have h3:=au hx' hT hF D
     rw[e1]at h3;simp only[R]at h3
     obtain⟨A,C,h4,r1,r2⟩:=h3
     rw[az]at h2
     rw[gB,gB]at hk
     obtain⟨nx,w1,h5,h6,_⟩:=(hk ε w hh).1 g _ (of_decide_eq_true h2) rfl (r1.append ((C6 ha hT hF D).append r2))
     refine⟨nx,w1,?_,h6⟩
     have h7:(A.toArray++(c.args.toList.map (Act.mk T D).eval).toArray)++C.toArray=(A++(c.args.toList.map (Act.mk T D).eval++C)).toArray:=by apply Array.ext';simp
     clear hq
     have h8:(invoke (.fn (.func g) C.toArray) (A.toArray++(c.args.toList.map (Act.mk T D).eval).toArray)).run P w = .ok nx w1:=by
      show (callFunc g ((A.toArray++(c.args.toList.map (Act.mk T D).eval).toArray)++C.toArray)).run P w=_
      rw[h7,h5]
     simp only[execOp,ho,resolve,hcl,hargs,h4,Deferred.ofValue,Sem.run_bind,Sem.run_pure,Result.andThen]
     exact h8
    ·simp only[e1]
     show an (λk=>call (ae 8191) (.yld o::qF as fr) h k) _
     refine (hC (ae 8191) _ h).mono λv h' hk ε T D w hT hF hh=>?_
     have h3:=au hx' hT hF D
     rw[e1]at h3;simp only[R]at h3
     obtain⟨nx,w1,h5,h6⟩:=(hk ε w hh).2 o _ _ rfl rfl h3.1 (C6 ha hT hF D)
     refine⟨nx,w1,?_,h6⟩
     clear hq
     have h8:(invoke (.fn (.yield (ε o).blk) #[]) (#[]++(c.args.toList.map (Act.mk T D).eval).toArray)).run P w = .ok nx w1:=by
      rw[Array.empty_append]
      exact h5
     simp only[execOp,ho,resolve,hcl,hargs,h3.2,Deferred.ofValue,Sem.run_bind,Sem.run_pure,Result.andThen]
     exact h8
end Go.Ai
namespace Go.Ai
set_option linter.unusedSectionVars false
variable [Nu]
open Go
variable {P:Program}{N:Nat}{ε : bu}{m:cJ}{w:World}
def fa(r:Option Nat):Fence:={ Fence.wide with round:=r }
theorem nI{r:Option Nat}{o:Oper}{a:Act}{next:Act→World→Prop}{Q:Exit→Act→World→Prop}{nx:Next}{w w1:World}(hd:∀ c,o.op ≠ .defer c)(hrun:(execOp a.eval o).run P w = .ok nx w1){K:Value→World→Prop}(hre:lG P K nx w1)(hk:∀ V w',K V w'→next (a.put o.dst V) w'):
  o.wpIn (fa r) 0 P a w next Q:=by
 refine⟨λ_ _=>trivial,?_⟩
 rw[Oper.semAt_eq _ _ _ hd,hrun]
 cases nx <;> simp only[lG]at hre <;> first
  | exact hk _ _ hre
  | exact hre.elim
  | (
    refine⟨λh=>(by cases h),?_⟩
    have h1:CallsIn (fa r) 0 P _ _ w1 (uc K):=hre
    exact h1.mono λe w' h=>by cases e <;> first | exact hk _ _ h | exact h.elim)
  | (
    refine⟨λh=>(by cases h),?_⟩
    have h1:RowsIn (fa r) 0 P _ _ w1 K:=hre
    exact h1.mono λv w' h=>hk _ _ h)
  | (
    refine⟨λh=>(by cases h),?_⟩
    have h1:RoundIn (fa r) 0 P _ _ _ _ _ w1 (uc K):=hre
    exact h1.mono λe w' h=>by cases e <;> first | exact hk _ _ h | exact h.elim)
theorem ge(call:Call)(fr:FT)(h:H)(k:af):bq (gK.step call fr h k):=⟨_,rfl⟩
theorem fv{call:Call}(hC:aC P call)(oper:Oper)(fr:FT)(h:H):(∀ k,bq (((gt P N oper.op).getD gK).step call fr h k))∨((∀ c,oper.op ≠ .defer c)∧an (((gt P N oper.op).getD gK).step call fr h) (H0 P N oper fr h)):=by
 cases hq:gt P N oper.op with
 | none=>exact .inl λk=>ge call fr h k
 | some q =>
  have h1:=BH hC hq fr h
  exact .inr ⟨λc hc=>(by rw[hc]at hq;cases hq),h1⟩
theorem vW(v:AV)(want:Bool):(∀ y n,bq (v.onGuard want y n))∨∃ t:Bool,(∀ y n,v.onGuard want y n=ifC t y n)∧((v = .undef∧t=false)∨∃ b,v = .bool b∧t=(b == want)):=by
 cases v <;> first
  | exact .inr ⟨false,λ_ _=>rfl,.inl ⟨rfl,rfl⟩⟩
  | exact .inl λ_ _=>⟨_,rfl⟩
  | (rename_i b;exact .inr ⟨b == want,λy n=>by cases b <;> cases want <;> rfl,.inr ⟨b,rfl,rfl⟩⟩)
theorem xr{ops:Array Oper}{gd:Option (Nat × Bool)}{g:G}(hg:gj N ops gd=some g)(fr:FT):(∀ y n,bq (g.on' fr y n))∨∃ t:Bool,(∀ y n,g.on' fr y n=ifC t y n) ∧
  ∀ (ε : bu) (m:cJ) (T:Array Value) (o:Oper),o.guard=gd→T.size=N→b9 ε m fr T→Region.wanted o (yielded ops T)=t:=by
 cases gd with
 | none=>cases hg;exact .inr ⟨true,λ_ _=>rfl,fun ε m T o ho _ _=>by simp[Region.wanted,ho]⟩
 | some p =>
  obtain⟨j,want⟩:=p
  simp only[gj,Option.bind_eq_some_iff]at hg
  obtain⟨t,hj,hg⟩:=hg
  split at hg
  ·rename_i ht
   cases hg
   have e0:∀ y n,(G.on (L9 t) want).on' fr y n=(b6 (ae t) fr).onGuard want y n:=λ_ _=>rfl
   simp only[e0]
   rcases vW (b6 (ae t) fr) want with hb|⟨b,e1,e2⟩
   ·exact .inl hb
   refine .inr ⟨b,e1,fun ε m T o ho hT hF=>?_⟩
   obtain⟨V,h1,h2⟩:=hF t (hT.symm ▸ ht)
   obtain⟨o',ho',hd⟩:=hj
   have h3:yielded ops T j=match V with | .bool b=>some b | _=>none:=by
    unfold yielded
    rw[ho']
    simp only[Option.bind_some,hd,h1]
    cases V <;> rfl
   simp only[Region.wanted,ho,h3]
   rcases e2 with ⟨e2,rfl⟩|⟨c,e2,rfl⟩ <;> rw[e2]at h2 <;> simp only[R]at h2 <;> subst h2
   ·rfl
   ·cases c <;> cases want <;> rfl
  ·cases hg
theorem iZ(a:Act)(d:Option Tmp)(V:Value):(a.put d V).tmps.size=a.tmps.size:=by cases d <;> simp[Act.put]
theorem gw(a:Act)(d:Option Tmp)(V:Value):(a.put d V).defers=a.defers:=by cases d <;> rfl
theorem xo{d:Option Tmp}{dd:D}(hd:nn N d=some dd){a:Act}{fr:FT}{v:AV}{V:Value}(hT:a.tmps.size=N)(hN:N≤1048576)(hF:b9 ε m fr a.tmps)(r:R ε m v V):b9 ε m (dd.put v fr) (a.put d V).tmps:=by
 cases d with
 | none=>cases hd;exact hF
 | some t =>
  simp only[nn]at hd
  split at hd
  ·rename_i ht
   cases hd
   exact hF.put (by omega) (hT.symm ▸ ht) r
  ·cases hd
def abW(P:Program)(N:Nat)(Q:Exit→Act→World→Prop)(fr':FT)(h':H)(e:Exit)(ε : bu)(m:cJ)(a:Act)(w:World):Prop :=
 ∀ ε' a' w',a'.tmps.size=N→a'.defers=a.defers→de P ε m w ε' h'.mem w'→b9 ε' h'.mem fr' a'.tmps→Q e a' w'
theorem Gu{call:Call}(hC:aC P call)(hN:N≤1048576)(ops:Array Oper)(r:Option Nat):∀ (l:List Oper) (i:Nat) (fr:FT) (h:H) (hs:List H),ops.toList.drop i=l→bq ((region P N ops l).run call fr h hs)∨∃ fr' h',(region P N ops l).run call fr h hs = .nrm fr' h' ∧
  ∀ (ε : bu) (a:Act) (w:World) (Q:Exit→Act→World→Prop),a.tmps.size=N→b9 ε h.mem fr a.tmps→bX P ε h.mem w→abW P N Q fr' h' .normal ε h.mem a w→wpOpsIn (fa r) 0 P ops Q (List.range' i l.length) a w:=by
 intro l
 induction l with
 | nil =>
  intro i fr h hs _
  exact .inr ⟨fr,h,rfl,fun ε a w Q hT hF hh hq=>hq ε a w hT rfl (.refl hh) hF⟩
 | cons o t ih =>
  intro i fr h hs hl
  have hi:ops[i]? = some o:=by
   have:=congrArg (·[0]?) hl
   simpa using this
  have ht:ops.toList.drop (i+1)=t:=by rw[← List.drop_drop,hl];rfl
  cases hd:nn N o.dst with
  | none =>
   left
   have e0:region P N ops (o::t) = .op .no .no gK .nil:=by rw[region];rw[hd]
   rw[e0]
   exact ge call fr h λv h=>.nrm fr h
  | some d =>
   cases hg:gj N ops o.guard with
   | none =>
    left
    have e0:region P N ops (o::t) = .op .no .no gK .nil:=by rw[region];rw[hd,hg]
    rw[e0]
    exact ge call fr h λv h=>.nrm fr h
   | some g =>
    have e0:region P N ops (o::t) = .op d g ((gt P N o.op).getD gK) (region P N ops t):=by rw[region];rw[hd,hg]
    rw[e0]
    have e1:(L.op d g ((gt P N o.op).getD gK) (region P N ops t)).run call fr h hs=g.on' fr (((gt P N o.op).getD gK).step call fr h λv h=>(region P N ops t).run call (d.put v fr) h hs) ((region P N ops t).run call (d.put .undef fr) h hs):=by cases d <;> cases g <;> rfl
    rw[e1]
    rcases xr hg fr with hb|⟨b,e2,e3⟩
    ·exact .inl (hb _ _)
    rw[e2]
    cases b with
    | true =>
     rw[a7]
     rcases fv (N:=N) hC o fr h with hb|⟨hnd,hb|⟨v,h1,e4,ok⟩⟩
     ·exact .inl (hb _)
     ·exact .inl (hb _)
     rw[e4]
     rcases ih (i+1) (d.put v fr) h1 hs ht with hb|⟨fr',h',e5,hgo⟩
     ·exact .inl hb
     refine .inr ⟨fr',h',e5,fun ε a w Q hT hF hh hq=>?_⟩
     have hw:=e3 ε h.mem a.tmps o rfl hT hF
     rw[List.length_cons,List.range'_succ]
     simp only[wpOpsIn,hi,hw,if_true]
     obtain⟨nx,w1,hrun,hre⟩:=ok ε a.tmps a.defers w hT hF hh
     refine nI hnd hrun hre λV w' ⟨ε',adv,rV⟩=>?_
     refine hgo ε' (a.put o.dst V) w' Q (by rw[iZ];exact hT) (xo hd hT hN (hF.mono adv.stays) rV) adv.rel fun ε'' a'' w'' h3 h4 h5 h6=>hq ε'' a'' w'' h3 (by rw[h4,gw]) (adv.trans h5) h6
    | false =>
     rw[a5]
     rcases ih (i+1) (d.put .undef fr) h hs ht with hb|⟨fr',h',e5,hgo⟩
     ·exact .inl hb
     refine .inr ⟨fr',h',e5,fun ε a w Q hT hF hh hq=>?_⟩
     have hw:=e3 ε h.mem a.tmps o rfl hT hF
     rw[List.length_cons,List.range'_succ]
     simp only[wpOpsIn,hi,hw,Bool.false_eq_true,if_false]
     refine⟨λ_ _=>trivial,?_⟩
     refine hgo ε (a.put o.dst undef) w Q (by rw[iZ];exact hT) (xo hd hT hN hF rfl) hh fun ε'' a'' w'' h3 h4 h5 h6=>hq ε'' a'' w'' h3 (by rw[h4,gw]) h5 h6
end Go.Ai
namespace Go.Ai
set_option linter.unusedSectionVars false
variable [Nu]
open Go
variable {P:Program}{N:Nat}{ε ε':bu}{m m':cJ}{w w':World}
theorem fI{P:Program}{b:Frame}{a:Act}{k:List Item}{cs:List Frame}{w:World}{c:Code}:step P (lone (b.atR a (.code (.scope c)::k)) cs w) = .next (lone (b.atR a (.code c :: .inScope c::k)) cs w) :=
 step_lone_go (by simp[stepG,stepG.exec,Frame.atR])
theorem vc{P:Program}{b:Frame}{a:Act}{k:List Item}{cs:List Frame}{w:World}{c:Code}:step P (lone (b.atR a (.inScope c::k)) cs w) = .next (lone (b.atR a k) cs w) :=
 step_lone_go (by simp[stepG,stepG.exec,Frame.atR])
theorem CD{F:Fence}{n:Nat}{c:Code}{Q:Exit→Act→World→Prop}{a:Act}{w:World}(h:c.wpIn F n P (λe a w=>(∀ l,e ≠ .goto l)∧Q e a w) a w):(Code.scope c).wpIn F n P Q a w:=by
 intro b k cs hro hb hr
 have h0:(lone (b.atR a (.code (.scope c)::k)) cs w).fenced P F:=fenced_calm hb hr rfl
 obtain⟨e,a₁,w₁,⟨hg,hq⟩,harr⟩:=h b (.inScope c::k) cs hro hb hr
 cases e with
 | normal=>exact⟨.normal,a₁,w₁,hq,.head h0 fI (StepsIn.trans harr (.one (fenced_calm hb hr rfl) vc))⟩
 | exit id =>
  have hx:exitTo id (.inScope c::k)=exitTo id k:=by simp[exitTo]
  exact⟨_,a₁,w₁,hq,λk' hk=>.head h0 fI (harr.1 k' (by rw[hx];exact hk)),
   λhr' hk=>let ⟨k₁,h1,h2⟩:=harr.2 hr' (by rw[hx];exact hk); ⟨k₁,h1,.head h0 fI h2⟩⟩
 | goto l=>exact absurd rfl (hg l)
 | ret=>exact⟨_,a₁,w₁,hq,.of_steps (.one h0 fI) harr⟩
 | panic ch=>exact⟨_,a₁,w₁,hq,.of_steps (.one h0 fI) harr⟩
 | outgrown=>exact⟨_,a₁,w₁,hq,.of_steps (.one h0 fI) harr⟩
def sW(r:Nat):Deferred:={ target:=.collected r,args:=#[] }
def BB(r:Option Nat)(base:Nat)(D:List Deferred)(ε : bu)(m:cJ)(w:World):Prop :=
 match r with
 | none=>∃ rs:List Nat,D=rs.map sW∧rs.Nodup∧∀ b ∈ rs,base≤b∧b<w.heap.size∧w.heap[b]? = some (.deferred (some []))∧¬ iS ε m b
 | some l=>D=[]∧∃ o,(ε o).blk=l∧mz (m o)
theorem de.free(h:de P ε m w ε' m' w'){b:Nat}(hb:b<w.heap.size)(ho:¬ iS ε m b):¬ iS ε' m' b:=by
 rintro ⟨o,hl,rfl⟩
 rcases h.own o hl with h1|h1
 ·exact ho h1
 ·omega
theorem ur{m:cJ}{o:ab}(h:mz (m o)):m.has o:=λe=>by rw[e]at h;exact h
theorem BB.adv{r:Option Nat}{base:Nat}{D:List Deferred}(h:BB r base D ε m w)(adv:de P ε m w ε' m' w'):BB r base D ε' m' w':=by
 cases r with
 | none =>
  obtain⟨rs,h1,h2,h3⟩:=h
  refine⟨rs,h1,h2,λb hb=>?_⟩
  obtain⟨h4,h5,h6,h7⟩:=h3 b hb
  exact⟨h4,Nat.lt_of_lt_of_le h5 adv.size,by rw[adv.frame b h5 h7];exact h6,adv.free h5 h7⟩
 | some l =>
  obtain⟨h1,o,h2,h3⟩:=h
  exact⟨h1,o,by rw[(adv.stays o (ur h3)).2];exact h2,adv.loop o h3⟩
inductive xw:aa→Exit→FT→H→Prop
 | nrm (fr:FT) (h:H):xw (.nrm fr h) .normal fr h
 | ext (id:Nat) (fr:FT) (h:H):xw (.ext id fr h) (.exit id) fr h
 | ret (fr:FT) (h:H):xw (.ret fr h) .ret fr h
def rX(P:Program)(N:Nat)(r:Option Nat)(base:Nat)(Q:Exit→Act→World→Prop)(fr':FT)(h':H)(e:Exit)(ε : bu)(m:cJ)(w:World):Prop :=
 ∀ ε' a' w',a'.tmps.size=N→BB r base a'.defers ε' h'.mem w'→de P ε m w ε' h'.mem w'→b9 ε' h'.mem fr' a'.tmps→Q e a' w'
def du(P:Program)(N:Nat)(r:Option Nat)(c:Code)(fr:FT)(h:H)(res:aa):Prop :=
 bq res∨∃ e fr' h',xw res e fr' h'∧∀ (base:Nat) (ε : bu) (a:Act) (w:World) (Q:Exit→Act→World→Prop),a.tmps.size=N→b9 ε h.mem fr a.tmps→bX P ε h.mem w→base≤w.heap.size→BB r base a.defers ε h.mem w →
  rX P N r base Q fr' h' e ε h.mem w→c.wpIn (fa r) 0 P Q a w
theorem jL{res:aa}{e:Exit}{fr:FT}{h:H}(he:xw res e fr h):(e = .normal∧res = .nrm fr h)∨(∃ id,e = .exit id∧res = .ext id fr h)∨(e = .ret∧res = .ret fr h):=by
 cases he with
 | nrm=>exact .inl ⟨rfl,rfl⟩
 | ext id=>exact .inr (.inl ⟨id,rfl,rfl⟩)
 | ret=>exact .inr (.inr ⟨rfl,rfl⟩)
theorem Iz{K:Act→World→Prop}{Q:Exit→Act→World→Prop}{r:Option Nat}{base:Nat}{fr':FT}{h':H}{e:Exit}(hn:e = .normal→rX P N r base (λ_ a w=>K a w) fr' h' .normal ε m w)(he:e ≠ .normal→rX P N r base Q fr' h' e ε m w):rX P N r base (Exit.then K Q) fr' h' e ε m w:=by
 cases e with
 | normal=>exact hn rfl
 | _=>exact he (by simp)
theorem Gm{call:Call}{r:Option Nat}{c:Code}(ih:∀ (fr:FT) (h:H),du P N r c fr h ((code P N c).run call fr h)):∀ (n:Nat) (fr:FT) (h:H),bq (ec ((code P N c).run call) n fr h)∨∃ e fr' h',xw (ec ((code P N c).run call) n fr h) e fr' h' ∧
  ∀ (base:Nat) (ε : bu) (a:Act) (w:World) (Q:Exit→Act→World→Prop) (k:Nat),a.tmps.size=N→b9 ε h.mem fr a.tmps→bX P ε h.mem w→base≤w.heap.size→BB r base a.defers ε h.mem w →
   (e = .normal→rX P N r base (λ_ a w=>Code.roundsIn (fa r) 0 P c Q k a w) fr' h' .normal ε h.mem w)→(e ≠ .normal→rX P N r base Q fr' h' e ε h.mem w)→Code.roundsIn (fa r) 0 P c Q (k+2^n) a w:=by
 intro n
 induction n with
 | zero =>
  intro fr h
  rcases ih fr h with hb|⟨e,fr1,h1,he,hx⟩
  ·exact .inl hb
  exact .inr ⟨e,fr1,h1,he,λbase ε a w Q k hT hF hh hb hc hn hq=>hx base ε a w _ hT hF hh hb hc (Iz hn hq)⟩
 | succ n ihn =>
  intro fr h
  have e0:ec ((code P N c).run call) (n+1) fr h=aa.casesOn (motive:=λ_=>aa) (ec ((code P N c).run call) n fr h) (ec ((code P N c).run call) n) .ext .ret .fin .bad:=rfl
  rw[e0]
  rcases ihn fr h with ⟨i,hb⟩|⟨e,fr1,h1,he,hx⟩
  ·rw[hb];exact .inl ⟨i,rfl⟩
  have hp:∀ k,k+2^(n+1)=k+2^n+2^n:=λk=>by rw[Nat.pow_succ];omega
  rcases jL he with ⟨rfl,e1⟩|⟨j,rfl,e1⟩|⟨rfl,e1⟩ <;> rw[e1]
  ·rcases ihn fr1 h1 with hb|⟨e2,fr2,h2,he2,hy⟩
   ·exact .inl hb
   refine .inr ⟨e2,fr2,h2,he2,λbase ε a w Q k hT hF hh hb hc hn hq=>?_⟩
   rw[hp]
   refine hx base ε a w Q (k+2^n) hT hF hh hb hc (λ_=>?_) (λh=>absurd rfl h)
   intro ε' a' w' k1 k2 k3 k4
   exact hy base ε' a' w' Q k k1 k4 k3.rel (Nat.le_trans hb k3.size) k2 (λhe ε'' a'' w'' k5 k6 k7 k8=>hn he ε'' a'' w'' k5 k6 (k3.trans k7) k8) (λhe ε'' a'' w'' k5 k6 k7 k8=>hq he ε'' a'' w'' k5 k6 (k3.trans k7) k8)
  ·refine .inr ⟨_,fr1,h1,.ext j fr1 h1,λbase ε a w Q k hT hF hh hb hc hn hq=>?_⟩
   rw[hp]
   exact hx base ε a w Q (k+2^n) hT hF hh hb hc (λh=>by cases h) hq
  ·refine .inr ⟨_,fr1,h1,.ret fr1 h1,λbase ε a w Q k hT hF hh hb hc hn hq=>?_⟩
   rw[hp]
   exact hx base ε a w Q (k+2^n) hT hF hh hb hc (λh=>by cases h) hq
theorem NJ{call:Call}(hC:aC P call)(hN:N≤1048576)(r:Option Nat)
  (hD:∀ (id:Nat) (ops:Array Oper) (fr:FT) (h:H),du P N r (.region id ops true) fr h ((C.reg (fR P N ops)).run call fr h))
  (hR:∀ (f:Operand) (x:a6) (ps:Array Tmp) (a b:Code) (fr:FT) (h:H),bg N f=some x→ps.all (· < N)=true→du P N r (.rangeFunc f ps a b) fr h ((C.rangeF x (ps.toList.map ae) (ze N (code P N a)) (code P N b)).run call fr h)) :
  ∀ (c:Code) (fr:FT) (h:H),du P N r c fr h ((code P N c).run call fr h):=by
 intro c
 induction c with
 | skip=>exact λfr h=>.inr ⟨_,_,_,.nrm fr h,λbase ε a w Q hT hF hh hb hc hq=>wpIn_skip (hq ε a w hT hc (.refl hh) hF)⟩
 | label l=>exact λfr h=>.inr ⟨_,_,_,.nrm fr h,λbase ε a w Q hT hF hh hb hc hq=>wpIn_label (hq ε a w hT hc (.refl hh) hF)⟩
 | exit id=>exact λfr h=>.inr ⟨_,_,_,.ext id fr h,λbase ε a w Q hT hF hh hb hc hq=>wpIn_exit (hq ε a w hT hc (.refl hh) hF)⟩
 | ret=>exact λfr h=>.inr ⟨_,_,_,.ret fr h,λbase ε a w Q hT hF hh hb hc hq=>wpIn_ret (hq ε a w hT hc (.refl hh) hF)⟩
 | goto l=>exact λfr h=>.inl ⟨_,rfl⟩
 | refuse y=>exact λfr h=>.inl ⟨_,rfl⟩
 | region id ops d =>
  intro fr h
  cases d with
  | true=>exact hD id ops fr h
  | false =>
   rcases Gu hC hN ops r ops.toList 0 fr h [] rfl with hb|⟨fr',h',e1,hgo⟩
   ·exact .inl hb
   refine .inr ⟨.normal,fr',h',?_,λbase ε a w Q hT hF hh hb hc hq=>?_⟩
   ·show xw ((region P N ops ops.toList).run call fr h []) _ _ _
    rw[e1];exact .nrm fr' h'
   ·refine wpIn_region ?_
    rw[List.range_eq_range',← Array.length_toList]
    exact hgo ε a w Q hT hF hh fun ε' a' w' h1 h2 h3 h4=>hq ε' a' w' h1 (by rw[h2];exact hc.adv h3) h3 h4
 | seq x y ihx ihy =>
  intro fr h
  have e0:(code P N (.seq x y)).run call fr h=aa.casesOn (motive:=λ_=>aa) ((code P N x).run call fr h) ((code P N y).run call) .ext .ret .fin .bad:=rfl
  rw[e0]
  rcases ihx fr h with ⟨n,hb⟩|⟨e,fr1,h1,he,hx⟩
  ·rw[hb];exact .inl ⟨n,rfl⟩
  rcases jL he with ⟨rfl,e1⟩|⟨id,rfl,e1⟩|⟨rfl,e1⟩ <;> rw[e1]
  ·rcases ihy fr1 h1 with hb|⟨e2,fr2,h2,he2,hy⟩
   ·exact .inl hb
   refine .inr ⟨e2,fr2,h2,he2,λbase ε a w Q hT hF hh hb hc hq=>wpIn_seq (hx base ε a w _ hT hF hh hb hc fun ε' a' w' k1 k2 k3 k4=>?_)⟩
   exact hy base ε' a' w' Q k1 k4 k3.rel (Nat.le_trans hb k3.size) k2 fun ε'' a'' w'' k5 k6 k7 k8=>hq ε'' a'' w'' k5 k6 (k3.trans k7) k8
  ·exact .inr ⟨_,fr1,h1,.ext id fr1 h1,λbase ε a w Q hT hF hh hb hc hq=>wpIn_seq (hx base ε a w _ hT hF hh hb hc hq)⟩
  ·exact .inr ⟨_,fr1,h1,.ret fr1 h1,λbase ε a w Q hT hF hh hb hc hq=>wpIn_seq (hx base ε a w _ hT hF hh hb hc hq)⟩
 | cond c x y ihx ihy =>
  intro fr h
  have e0:code P N (.cond c x y)=match bg N c with | some z=>C.cond z (code P N x) (code P N y) | none=>.no 33:=rfl
  rw[e0]
  cases hc':bg N c with
  | none=>exact .inl ⟨_,rfl⟩
  | some z =>
   have e1:(C.cond z (code P N x) (code P N y)).run call fr h=(z.ev fr).onBool λt=>Bool.casesOn (motive:=λ_=>aa) t ((code P N y).run call fr h) ((code P N x).run call fr h):=rfl
   show du P N r _ fr h ((C.cond z (code P N x) (code P N y)).run call fr h)
   rw[e1]
   rcases dk (z.ev fr)with hb|⟨t,e2⟩
   ·exact .inl (hb _)
   rw[e2]
   have hev:∀ (ε : bu) (a:Act),a.tmps.size=N→b9 ε h.mem fr a.tmps→a.eval c = .bool t:=fun ε a hT hF=>by
    have:=au hc' hT hF a.defers
    rw[e2]at this;simpa only [R] using this
   cases t with
   | true =>
    show du P N r _ fr h ((code P N x).run call fr h)
    rcases ihx fr h with hb|⟨e,fr1,h1,he,hx⟩
    ·exact .inl hb
    exact .inr ⟨e,fr1,h1,he,λbase ε a w Q hT hF hh hb hc hq=>wpIn_cond_true (hev ε a hT hF) (hx base ε a w Q hT hF hh hb hc hq)⟩
   | false =>
    show du P N r _ fr h ((code P N y).run call fr h)
    rcases ihy fr h with hb|⟨e,fr1,h1,he,hx⟩
    ·exact .inl hb
    exact .inr ⟨e,fr1,h1,he,λbase ε a w Q hT hF hh hb hc hq=>wpIn_cond_false (hev ε a hT hF) (hx base ε a w Q hT hF hh hb hc hq)⟩
 | block id x ih =>
  intro fr h
  have e0:(code P N (.block id x)).run call fr h=aa.casesOn (motive:=λ_=>aa) ((code P N x).run call fr h) .nrm (λj fr h=>ifC (Nat.beq j id) (.nrm fr h) (.ext j fr h)) .ret .fin .bad:=rfl
  rw[e0]
  rcases ih fr h with ⟨n,hb⟩|⟨e,fr1,h1,he,hx⟩
  ·rw[hb];exact .inl ⟨n,rfl⟩
  rcases jL he with ⟨rfl,e1⟩|⟨j,rfl,e1⟩|⟨rfl,e1⟩ <;> rw[e1]
  ·exact .inr ⟨_,fr1,h1,.nrm fr1 h1,λbase ε a w Q hT hF hh hb hc hq=>wpIn_block (hx base ε a w _ hT hF hh hb hc hq)⟩
  ·show du P N r _ fr h (ifC (Nat.beq j id) (.nrm fr1 h1) (.ext j fr1 h1))
   rw[dJ]
   by_cases hj:j=id
   ·rw[decide_eq_true hj,a7]
    exact .inr ⟨_,fr1,h1,.nrm fr1 h1,λbase ε a w Q hT hF hh hb hc hq=>wpIn_block (hx base ε a w _ hT hF hh hb hc fun ε' a' w' k1 k2 k3 k4=>by simp only[Exit.inBlock,hj,if_true];exact hq ε' a' w' k1 k2 k3 k4)⟩
   ·rw[decide_eq_false hj,a5]
    exact .inr ⟨_,fr1,h1,.ext j fr1 h1,λbase ε a w Q hT hF hh hb hc hq=>wpIn_block (hx base ε a w _ hT hF hh hb hc fun ε' a' w' k1 k2 k3 k4=>by simp only[Exit.inBlock,hj,if_false];exact hq ε' a' w' k1 k2 k3 k4)⟩
  ·exact .inr ⟨_,fr1,h1,.ret fr1 h1,λbase ε a w Q hT hF hh hb hc hq=>wpIn_block (hx base ε a w _ hT hF hh hb hc hq)⟩
 | scope x ih =>
  intro fr h
  show du P N r _ fr h ((code P N x).run call fr h)
  rcases ih fr h with hb|⟨e,fr1,h1,he,hx⟩
  ·exact .inl hb
  refine .inr ⟨e,fr1,h1,he,λbase ε a w Q hT hF hh hb hc hq=>CD (hx base ε a w _ hT hF hh hb hc fun ε' a' w' k1 k2 k3 k4=>⟨λl hl=>?_,hq ε' a' w' k1 k2 k3 k4⟩)⟩
  rcases jL he with ⟨h,_⟩|⟨_,h,_⟩|⟨h,_⟩ <;> (rw[hl]at h;cases h)
 | loop x ih =>
  intro fr h
  have e0:(code P N (.loop x)).run call fr h=aa.casesOn (motive:=λ_=>aa) (ec ((code P N x).run call) 30 fr h) (λ_ _=>.bad 23) .ext .ret .fin .bad:=rfl
  rw[e0]
  rcases Gm ih 30 fr h with ⟨i,hb⟩|⟨e,fr1,h1,he,hx⟩
  ·rw[hb];exact .inl ⟨i,rfl⟩
  rcases jL he with ⟨rfl,e1⟩|⟨j,rfl,e1⟩|⟨rfl,e1⟩ <;> rw[e1]
  ·exact .inl ⟨_,rfl⟩
  ·exact .inr ⟨_,fr1,h1,.ext j fr1 h1,λbase ε a w Q hT hF hh hb hc hq=>wpIn_loop_rounds (0+2^30) (hx base ε a w Q 0 hT hF hh hb hc (λh=>by cases h) λ_=>hq)⟩
  ·exact .inr ⟨_,fr1,h1,.ret fr1 h1,λbase ε a w Q hT hF hh hb hc hq=>wpIn_loop_rounds (0+2^30) (hx base ε a w Q 0 hT hF hh hb hc (λh=>by cases h) λ_=>hq)⟩
 | rangeFunc f ps x y _ _ =>
  intro fr h
  have e0:code P N (.rangeFunc f ps x y)=match bg N f with | some z=>if ps.all (· < N) then .rangeF z (ps.toList.map ae) (ze N (code P N x)) (code P N y) else .no 31 | none=>.no 31:=rfl
  rw[e0]
  cases hf:bg N f with
  | none=>exact .inl ⟨_,rfl⟩
  | some z =>
   show du P N r _ fr h ((if ps.all (· < N) then C.rangeF z (ps.toList.map ae) (ze N (code P N x)) (code P N y) else .no 31).run call fr h)
   by_cases hp:ps.all (· < N)=true
   ·rw[if_pos hp];exact hR f z ps x y fr h hf hp
   ·rw[if_neg hp];exact .inl ⟨_,rfl⟩
end Go.Ai
namespace Go.Ai
set_option linter.unusedSectionVars false
variable [Nu]
open Go
variable {P:Program}{N:Nat}{ε ε':bu}{m m':cJ}{w w':World}
theorem de.foreign(h:bX P ε m w)(x:Go.Obj):de P ε m w ε m { w with heap:=w.heap.push x }:=by
 have hold:∀ q,dw (m q)→({ w with heap:=w.heap.push x }:World).heap[(ε q).blk]? = w.heap[(ε q).blk]?:=λq hl=>ik w x (h.blk_lt hl)
 refine⟨.refl _ _,λ_ _=>rfl,rfl,rfl,rfl,by simp,λk hk _=>ik w x hk,λq hl=>.inl ⟨q,hl,rfl⟩,λ_ hq=>hq,⟨λq cs es e=>?_,λq es clk e=>?_,λq st pd fr ps a c e=>?_,h.apart⟩⟩
 ·exact (h.carry (.refl _ _) (hold q) rfl).1 cs es e
 ·exact (h.carry (.refl _ _) (hold q) rfl).2.1 es clk e
 ·exact (h.carry (.refl _ _) (hold q) rfl).2.2 st pd fr ps a c e
theorem gM{l:Nat}{L:Go.Loop}(h:w.heap[l]? = some (.loop L)):(Instr.getLoop l).run P w = .ok L w:=by
 simp[Instr.getLoop,getObj,Sem.run,h]
theorem lP{l:Nat}{L L':Go.Loop}(h:w.heap[l]? = some (.loop L)):(Go.setObj l (.loop L')).run P w = .ok () { w with heap:=w.heap.setIfInBounds l (.loop L') }:=by
 simp[Go.setObj,Sem.run,h]
theorem F9(o:ab)(fr:FT)(h:H):bq (endLoop o fr h)∨∃ st pd f ps a b h',h.mem o = .loop st pd f ps a b∧st≠1∧h'.mem=upd h.mem o (.loop 3 pd f ps a b)∧st≠9 ∧
  ((pd = .no∧endLoop o fr h = .nrm fr h')∨(pd = .ret∧endLoop o fr h = .ret fr h')∨∃ id,pd = .exit id∧endLoop o fr h = .ext id fr h'):=by
 cases h with
 | mk t n =>
  have e0:endLoop o fr (.mk t n)=Obj.casesOn (motive:=λ_=>aa) (ax o t) (.bad 40) (λ_ _=>.bad 40) (λ_ _=>.bad 40) (.bad 40) (λst pd f ps a b=>must 12 (Nat.blt st 4) (Bool.casesOn (motive:=λ_=>aa) (Nat.beq st 1) (gk.casesOn (motive:=λ_=>aa) pd (.nrm fr (.mk (aX (.loop 3 pd f ps a b) o t) n)) (.ret fr (.mk (aX (.loop 3 pd f ps a b) o t) n)) (λid=>.ext id fr (.mk (aX (.loop 3 pd f ps a b) o t) n))) (.bad 41))):=rfl
  cases e:ax o t with
  | loop st pd f ps a b =>
   have e1:endLoop o fr (.mk t n)=must 12 (Nat.blt st 4) (Bool.casesOn (motive:=λ_=>aa) (Nat.beq st 1) (gk.casesOn (motive:=λ_=>aa) pd (.nrm fr (.mk (aX (.loop 3 pd f ps a b) o t) n)) (.ret fr (.mk (aX (.loop 3 pd f ps a b) o t) n)) (λid=>.ext id fr (.mk (aX (.loop 3 pd f ps a b) o t) n))) (.bad 41)):=by
    rw[e0,e]
   rcases ay 12 (Nat.blt st 4)with hb|⟨h4,e4⟩
   ·exact .inl (by rw[e1];exact hb _)
   rw[e4]at e1
   rw[az]at h4
   have h4':=of_decide_eq_true h4
   by_cases hs:st=1
   ·subst hs;exact .inl ⟨41,e1⟩
   ·have hb:Nat.beq st 1=false:=by rw[dJ];exact decide_eq_false hs
    rw[hb]at e1
    have hm:(H.mk (aX (.loop 3 pd f ps a b) o t) n).mem=upd (H.mk t n).mem o (.loop 3 pd f ps a b):=by funext q;exact cC _ q o t
    refine .inr ⟨st,pd,f,ps,a,b,.mk (aX (.loop 3 pd f ps a b) o t) n,e,hs,hm,by omega,?_⟩
    cases pd with
    | no=>exact .inl ⟨rfl,e1⟩
    | ret=>exact .inr (.inl ⟨rfl,e1⟩)
    | exit id=>exact .inr (.inr ⟨id,rfl,e1⟩)
  | _=>exact .inl ⟨40,by rw[e0,e]⟩
theorem DB{o:ab}{st:Nat}{pd:gk}{f:FT}{ps:List ab}{a b:C}(hh:bX P ε m w)(hm:m o = .loop st pd f ps a b)(hs:st≠1)(h9:st≠9):∃ w',(Instr.endLoop (ε o).blk).run P w = .ok (jo pd) w'∧de P ε m w ε (upd m o (.loop 3 pd f ps a b)) w':=by
 obtain⟨L,hg,h1,h2,h3,h4,h5,h6,h7⟩:=(hh.loops o st pd f ps a b hm).resolve_right λh=>h9 h.1
 refine⟨{ w with heap:=w.heap.setIfInBounds (ε o).blk (.loop { L with state:=.exhausted }) },?_,?_⟩
 ·have hb:¬ (L.state = .busy):=λe=>by
   rw[e]at h1
   match st,hs,h1 with
   | 0,_,h=>cases h
   | 1,hs,_=>exact hs rfl
   | 2,_,h=>cases h
   | 3,_,h=>cases h
   | _+4,_,h=>cases h
  simp[Instr.endLoop,gM hg,lP hg,h2]
  exact λh=>absurd h hb
 ·refine de.set hh (by rw[hm];trivial) (.loop 3 pd f ps a b) (by simp) (λ_=>by show (3:Nat)≠9;decide) _ (by simp) (λk hk=>Array.getElem?_setIfInBounds_ne (Ne.symm hk)) ?_
  rintro m' w' rfl rfl hst
  refine⟨λ_ _ e=>(by cases e),λ_ _ e=>(by cases e),λst' pd' f' ps' a' b' e=>?_⟩
  cases e
  exact .inl ⟨_,cE _ _ hg,rfl,h2,h3.mono hst,h4,h5,h6,h7⟩
theorem Hb{ps:Array Tmp}(h:ps.all (· < N)=true):∀ t ∈ ps.toList,t<N:=λt ht=>by
 have:=Array.all_eq_true_iff_forall_mem.1 h t (by simpa using ht)
 simpa using this
theorem yH(hN:N≤1048576)(fn:FuncId){r:Option Nat}{base:Nat}{T:Array Value}{D:List Deferred}{fr:FT}{ps:Array Tmp}{x y:Code}{o:ab}(hh:bX P ε m w)(hT:T.size=N)(hF:b9 ε m fr T)(ho:¬ m.has o)(hp:ps.all (· < N)=true)(hb:base≤w.heap.size)(hc:BB r base D ε m w):
  ∃ l mark ε' w',(Instr.enterLoop fn T ps x y r).run P w = .ok (l,mark) w'∧de P ε m w ε' (upd m o (.loop 0 .no fr (ps.toList.map ae) (ze N (code P N x)) (code P N y))) w'∧(ε' o).blk=l∧BB r base (mark++D) ε' (upd m o (.loop 0 .no fr (ps.toList.map ae) (ze N (code P N x)) (code P N y))) w':=by
 have hnew:∀ (w:World) (L:Go.Loop),bX P ε m w→b9 ε m fr T→L.state = .ready→L.pending=none→L.tmps=T→L.params=ps→L.assign=x→L.body=y →
   de P ε m w (upd ε o ⟨w.heap.size,0,0⟩) (upd m o (.loop 0 .no fr (ps.toList.map ae) (ze N (code P N x)) (code P N y))) { w with heap:=w.heap.push (.loop L) }:=λw L hh hF h1 h2 h3 h4 h5 h6=>by
  refine de.new hh ho (.loop 0 .no fr (ps.toList.map ae) (ze N (code P N x)) (code P N y)) trivial _ 0 ?_
  rintro ε' m' w' rfl rfl rfl hs hx
  refine⟨λ_ _ e=>(by cases e),λ_ _ e=>(by cases e),λst pd f ps' a b e=>?_⟩
  cases e
  refine .inl ⟨L,hx,?_,h2,?_,?_,?_,?_,?_,?_⟩
  ·rw[h1];rfl
  ·rw[h3];exact hF.mono hs
  ·rw[h4]
  ·rw[h4,h3,hT];exact Hb hp
  ·rw[h3,hT,h5]
  ·rw[h3,hT,h6]
  ·rw[h3,hT];exact hN
 cases r with
 | none =>
  let w1:World:={ w with heap:=w.heap.push (.deferred (some [])) }
  have adv1:de P ε m w ε m w1:=de.foreign hh _
  let L:Go.Loop:={ state:=.ready,pending:=none,fn,tmps:=T,params:=ps,assign:=x,body:=y,defers:=w.heap.size }
  have adv2:=hnew w1 L adv1.rel (hF.mono adv1.stays) rfl rfl rfl rfl rfl rfl
  refine⟨w.heap.size+1,[sW w.heap.size],_,_,?_,adv1.trans adv2,?_,?_⟩
  ·simp[Instr.enterLoop,sW,w1,L]
   rfl
  ·rw[aM];simp[w1]
  ·have hc1:=hc.adv (adv1.trans adv2)
   obtain⟨rs,h1,h2,h3⟩:=hc1
   obtain⟨rs0,g1,g2,g3⟩:=hc
   have hrs:rs=rs0:=by
    have:=h1.symm.trans g1
    exact (List.map_inj_right (λa b h=>by simpa [sW] using h)).1 this
   subst hrs
   refine⟨w.heap.size::rs,by rw[h1];rfl,List.nodup_cons.2 ⟨λhin=>?_,h2⟩,λb hb'=>?_⟩
   ·have:=(g3 _ hin).2.1;omega
   ·rcases List.mem_cons.1 hb' with rfl|hb'
    ·have h0:w1.heap[w.heap.size]? = some (.deferred (some [])):=ow w _
     have hno:¬ iS ε m w.heap.size:=by
      rintro ⟨q,hl,e⟩
      have:=hh.blk_lt hl;omega
     have hlt:w.heap.size<w1.heap.size:=by simp[w1]
     exact⟨hb,Nat.lt_of_lt_of_le hlt adv2.size,by rw[adv2.frame _ hlt hno];exact h0,adv2.free hlt hno⟩
    ·exact h3 b hb'
 | some l0 =>
  obtain⟨h1,q,h2,h3⟩:=hc
  have hl:∃ L0,w.heap[l0]? = some (.loop L0):=by
   cases e:m q with
   | loop st pd f ps a b =>
    rw[e]at h3
    obtain⟨L0,h4,_⟩:=(hh.loops q st pd f ps a b e).resolve_right λh=>h3 h.1
    rw[h2]at h4;exact⟨L0,h4⟩
   | _=>rw[e]at h3;exact h3.elim
  obtain⟨L0,hL0⟩:=hl
  let L:Go.Loop:={ state:=.ready,pending:=none,fn,tmps:=T,params:=ps,assign:=x,body:=y,defers:=L0.defers }
  have adv2:=hnew w L hh hF rfl rfl rfl rfl rfl rfl
  refine⟨w.heap.size,[],_,_,?_,adv2,by rw[aM],?_⟩
  ·simp[Instr.enterLoop,gM hL0,L]
  ·exact BB.adv ⟨h1,q,h2,h3⟩ adv2
theorem aa.onFnY_eq(v:AV){f:Nat}{a c:List AV}(h:v = .fn f a c)(kk:Nat→List AV→List AV→aa)(yy:ab→aa):v.onFnY kk yy=kk f a c:=by subst h;rfl
theorem Kf{call:Call}(hC:aC P call)(hN:N≤1048576)(r:Option Nat)(f:Operand)(z:a6)(ps:Array Tmp)(x y:Code)(fr:FT)(h:H)(hz:bg N f=some z)(hp:ps.all (· < N)=true):
  du P N r (.rangeFunc f ps x y) fr h ((C.rangeF z (ps.toList.map ae) (ze N (code P N x)) (code P N y)).run call fr h):=by
 have e0:(C.rangeF z (ps.toList.map ae) (ze N (code P N x)) (code P N y)).run call fr h=newObj (.loop 0 .no fr (ps.toList.map ae) (ze N (code P N x)) (code P N y)) h λo h=>(z.ev fr).onFnY (λg a c=>must 12 (Nat.blt g 8191) (call (ae g) (cZ a (.yld o::c)) h λ_ h=>endLoop o fr h)) (λ_=>.bad 42):=rfl
 rw[e0]
 rcases dF (.loop 0 .no fr (ps.toList.map ae) (ze N (code P N x)) (code P N y)) h with hb|⟨o,h1,ho,hm,e1⟩
 ·exact .inl (hb _)
 rw[e1]
 rcases oP (z.ev fr)with hb|⟨g,p,c,e2⟩|⟨q,e2⟩
 ·exact .inl (hb _ _)
 ·rw[aa.onFnY_eq _ e2]
  rcases ay 12 (Nat.blt g 8191)with hb|⟨hg,e3⟩
  ·exact .inl (hb _)
  rw[e3,gB]
  rw[az]at hg
  have hg':=of_decide_eq_true hg
  rcases hC (ae g) (p ++ .yld o::c) h1 with hb|⟨v,h2,e4,ok⟩
  ·exact .inl (hb _)
  rw[e4]
  rcases F9 o fr h2 with hb|⟨st,pd,f',ps',a',b',h3,hm2,hs,hm3,h9,hend⟩
  ·exact .inl hb
  have main:∀ e,(∀ (Q:Exit→Act→World→Prop) (a:Act) (w:World),Q e a w→(match jo pd with | none=>Q .normal a w | some c=>c.wpIn (fa r) 0 P Q a w))→∀ (base:Nat) (ε : bu) (a:Act) (w:World) (Q:Exit→Act→World→Prop),a.tmps.size=N→b9 ε h.mem fr a.tmps→bX P ε h.mem w→base≤w.heap.size→BB r base a.defers ε h.mem w →
    rX P N r base Q fr h3 e ε h.mem w→(Code.rangeFunc f ps x y).wpIn (fa r) 0 P Q a w:=by
   intro e hj base ε a w Q hT hF hh hb hc hq
   refine wpIn_rangeFunc λfn _=>?_
   obtain⟨l,mark,ε1,w1,hent,adv1,hblk,hc1⟩:=yH hN fn (r:=r) hh hT hF ho hp hb hc
   rw[← hm]at adv1 hc1
   have hz':=au hz hT hF a.defers
   rw[e2]at hz';simp only[R]at hz'
   obtain⟨A,C,hfv,rA,rC⟩:=hz'
   have hoh:h1.mem.has o:=by rw[hm];unfold cJ.has;rw[aM];simp
   have rargs:Rs ε1 h1.mem (p ++ .yld o::c) (A++Value.func (.yield l) #[] #[]::C):=(Rs.mono adv1.stays _ _ rA).append ⟨_,_,rfl,⟨hoh,by rw[hblk]⟩,Rs.mono adv1.stays _ _ rC⟩
   obtain⟨nx,w2,hcall,hre,hnx⟩:=(ok ε1 w1 adv1.rel).1 g _ hg' rfl rargs
   rcases hnx with ⟨rfl,rfl⟩|hno
   ·have harr:(A.toArray ++ #[Value.func (.yield l) #[] #[]])++C.toArray=(A++Value.func (.yield l) #[] #[]::C).toArray:=by apply Array.ext';simp
    refine⟨l,mark,w2,{ target:=.fn (.func g) C.toArray,args:=A.toArray ++ #[Value.func (.yield l) #[] #[]] },w2,g,(A++Value.func (.yield l) #[] #[]::C).toArray,w2,hent,?_,λ_ _=>trivial,?_,λh=>(by cases h),?_⟩
    ·have hfv':a.eval f = .func (.func g) A.toArray C.toArray:=hfv
     have h9:resolve a.eval (rangeCall f l) 0=Deferred.ofValue (a.eval f) #[Value.func (.yield l) #[] #[]]:=by simp[resolve,Act.eval]
     rw[h9,hfv'];rfl
    ·show (callFunc g ((A.toArray ++ #[Value.func (.yield l) #[] #[]])++C.toArray)).run P w2=_
     rw[harr];exact hcall
    ·have h5:CallsIn (fa r) 0 P g (A++Value.func (.yield l) #[] #[]::C).toArray w2 (uc (OI P ε1 h1.mem w2 v h2.mem)):=hre
     refine h5.mono λen w3 hb3=>?_
     cases en with
     | returned V =>
      obtain⟨ε2,adv2,_⟩:=hb3
      obtain⟨w4,hel,adv3⟩:=DB adv2.rel hm2 hs h9
      have hblk2:(ε2 o).blk=l:=by rw[(adv2.stays o hoh).2];exact hblk
      rw[hblk2]at hel
      rw[← hm3]at adv3
      have adv:=(adv1.trans adv2).trans adv3
      refine⟨_,w4,hel,hj Q _ _ (hq ε2 _ w4 hT ((hc1.adv adv2).adv adv3) adv (hF.mono adv.stays))⟩
     | panicked ch=>exact hb3.elim
     | outgrown=>exact hb3.elim
   ·exact absurd (List.mem_append_right _ (List.mem_cons_self ..)) (hno o)
  rcases hend with ⟨rfl,e5⟩|⟨rfl,e5⟩|⟨id,rfl,e5⟩ <;> rw[e5]
  ·exact .inr ⟨_,fr,h3,.nrm fr h3,main .normal λQ a w hq=>hq⟩
  ·exact .inr ⟨_,fr,h3,.ret fr h3,main .ret λQ a w hq=>wpIn_ret hq⟩
  ·exact .inr ⟨_,fr,h3,.ext id fr h3,main (.exit id) λQ a w hq=>wpIn_exit hq⟩
 ·rw[e2];exact .inl ⟨42,rfl⟩
end Go.Ai
namespace Go.Ai
set_option linter.unusedSectionVars false
variable [Nu]
open Go
variable {P:Program}{N:Nat}{ε ε':bu}{m m':cJ}{w w':World}
theorem nN:∀ (ps:List Tmp) (vs:List AV) (fr:FT),(∀ k,bq (bP (ps.map ae) vs fr k))∨∃ fr',(∀ k,bP (ps.map ae) vs fr k=k fr')∧ps.length=vs.length ∧
  ∀ (ε : bu) (m:cJ) (T:Array Value) (A:List Value),b9 ε m fr T→T.size≤1048576→(∀ t ∈ ps,t<T.size)→Rs ε m vs A→b9 ε m fr' ((ps.zip A).foldl (λT p=>T.setIfInBounds p.1 p.2) T)
 | [],[],fr=>.inr ⟨fr,λ_=>rfl,rfl,fun ε m T A hF _ _ _=>by simpa using hF⟩
 | [],_::_,fr=>.inl λ_=>⟨24,rfl⟩
 | _::_,[],fr=>.inl λ_=>⟨24,rfl⟩
 | q::ps,v::vs,fr=>by
  have e0:∀ k,bP ((q::ps).map ae) (v::vs) fr k=bP (ps.map ae) vs (kh v (ae q) fr) k:=λ_=>rfl
  simp only[e0]
  rcases nN ps vs (kh v (ae q) fr)with hb|⟨fr',e1,e2,e3⟩
  ·exact .inl hb
  refine .inr ⟨fr',e1,by simp[e2],fun ε m T A hF hT ht hr=>?_⟩
  obtain⟨V,U,rfl,rv,rt⟩:=hr
  have h1:=hF.put hT (ht q (by simp)) rv
  exact e3 ε m _ U h1 (by simpa using hT) (λt h=>by simpa using ht t (by simp[h])) rt
theorem de.setForeign(h:de P ε m w ε' m' w'){b:Nat}(hb:w.heap.size≤b)(ho:¬ iS ε' m' b)(x:Go.Obj):de P ε m w ε' m' { w' with heap:=w'.heap.setIfInBounds b x }:=by
 have hold:∀ q,dw (m' q)→({ w' with heap:=w'.heap.setIfInBounds b x }:World).heap[(ε' q).blk]? = w'.heap[(ε' q).blk]?:=λq hl=>Array.getElem?_setIfInBounds_ne λe=>ho ⟨q,hl,e.symm⟩
 refine⟨h.stays,h.fresh,h.os,h.tape,h.output,by simpa using h.size,λk hk hno=>?_,h.own,h.loop,⟨λq cs es e=>?_,λq es clk e=>?_,λq st pd fr ps a c e=>?_,h.rel.apart⟩⟩
 ·have:b≠k:=by omega
  show (w'.heap.setIfInBounds b x)[k]? = _
  rw[Array.getElem?_setIfInBounds_ne this];exact h.frame k hk hno
 ·exact (h.rel.carry (.refl _ _) (hold q) rfl).1 cs es e
 ·exact (h.rel.carry (.refl _ _) (hold q) rfl).2.1 es clk e
 ·exact (h.rel.carry (.refl _ _) (hold q) rfl).2.2 st pd fr ps a c e
theorem pn{fn:Func}{T:Array Value}{Q:Ending→World→Prop}{ε0:bu}{m0:cJ}{w0:World}:∀ (rs:List Nat) (w:World),de P ε0 m0 w0 ε m w→rs.Nodup→(∀ b ∈ rs,w0.heap.size≤b∧b<w.heap.size∧w.heap[b]? = some (.deferred (some []))∧¬ iS ε m b) →
  (∀ w',de P ε0 m0 w0 ε m w'→∃ v,(results fn T).run P w' = .ok v w'∧Q (.returned v) w')→LeavesInM (fa none) 0 P fn T Q (rs.map sW) .returning w
 | [],w,adv,_,_,hq=>hq w adv
 | b::rs,w,adv,hn,hb,hq=>by
  obtain⟨h1,h2,h3,h4⟩:=hb b (by simp)
  obtain⟨h5,h6⟩:=List.nodup_cons.1 hn
  refine⟨by simp,.inl ⟨b,{ w with heap:=w.heap.setIfInBounds b (.deferred none) },rfl,by simp[Instr.takeDeferred,getObj,Go.setObj,Sem.run,h3],?_⟩⟩
  refine pn rs _ (adv.setForeign h1 h4 _) h6 (λc hc=>?_) hq
  obtain⟨k1,k2,k3,k4⟩:=hb c (by simp[hc])
  have hne:b≠c:=λe=>h5 (e ▸ hc)
  exact⟨k1,by simpa using k2,by show (w.heap.setIfInBounds b _)[c]? = _;rw[Array.getElem?_setIfInBounds_ne hne];exact k3,k4⟩
def nj(T:Array Value):ResultVar→Sem Value
 | .tmp t=>pure (T.getD t undef)
 | .cell a t=>do loadVar t (← asAddr (T.getD a undef))
theorem tB:∀ (vs:List ResultVar) (l:List RV) (fr:FT) (h:H),K7 P N vs=some l→(∀ k,bq (qH l fr h k))∨∃ out,(∀ k,qH l fr h k=k out) ∧
  ∀ (ε : bu) (T:Array Value) (w:World),T.size=N→b9 ε h.mem fr T→bX P ε h.mem w→∃ L:List Value,Rs ε h.mem out L∧(vs.mapM (nj T)).run P w = .ok L w
 | [],l,fr,h,hl=>by
  cases hl
  exact .inr ⟨[],λ_=>rfl,fun ε T w hT hF hh=>⟨[],rfl,rfl⟩⟩
 | x::vs,l,fr,h,hl=>by
  simp only[K7,Option.bind_eq_some_iff,Option.map_eq_some_iff]at hl
  obtain⟨q,hq,l',hl',rfl⟩:=hl
  cases x with
  | tmp t =>
   simp only[rv]at hq
   split at hq
   ·rename_i ht
    cases hq
    have e0:∀ k,qH (.tmp (ae t)::l') fr h k=qH l' fr h λu=>k (b6 (ae t) fr::u):=λ_=>rfl
    simp only[e0]
    rcases tB vs l' fr h hl' with hb|⟨out,e1,ok⟩
    ·exact .inl λ_=>hb _
    refine .inr ⟨_,λ_=>e1 _,fun ε T w hT hF hh=>?_⟩
    obtain⟨L,r,e2⟩:=ok ε T w hT hF hh
    obtain⟨V,h1,h2⟩:=hF t (hT.symm ▸ ht)
    refine⟨V::L,⟨V,L,rfl,h2,r⟩,?_⟩
    have h3:T.getD t undef=V:=by simp[Array.getD_eq_getD_getElem?,h1]
    have h4:nj T (.tmp t)=pure V:=by simp[nj,h3]
    simp[List.mapM_cons,h4,e2]
   ·cases hq
  | cell a t =>
   simp only[rv]at hq
   split at hq
   ·cases hq
   rename_i ha
   have ha':a<N:=Nat.lt_of_not_le ha
   simp only[Option.bind_eq_some_iff]at hq
   obtain⟨g,hg,hq⟩:=hq
   have hptr:∀ (ε : bu) (T:Array Value) (o:ab) (i:Nat),T.size=N→b9 ε h.mem fr T→b6 (ae a) fr = .ptr o i→h.mem.has o∧T.getD a undef = .pointer (some (ε.addr o i)):=fun ε T o i hT hF e=>by
    obtain⟨V,h1,h2⟩:=hF a (hT.symm ▸ ha')
    rw[e]at h2;simp only[R]at h2
    exact⟨h2.1,by rw[← h2.2];simp[Array.getD_eq_getD_getElem?,h1]⟩
   cases g with
   | true =>
    simp only[if_true,Option.map_eq_some_iff]at hq
    obtain⟨n,hn,rfl⟩:=hq
    have e0:∀ k,qH (.agg (ae a) n::l') fr h k=(b6 (ae a) fr).onPtr λo i=>cellsOf o h λcs _=>ldropC i cs λcs=>ltake n cs λcs=>qH l' fr h λu=>k (.agg cs::u):=λ_=>rfl
    simp only[e0]
    rcases fp (b6 (ae a) fr)with hb|⟨o,i,e1⟩
    ·exact .inl λ_=>hb _
    simp only[e1]
    have e9:∀ k:List AV→aa,((AV.ptr o i).onPtr λo i=>cellsOf o h λcs _=>ldropC i cs λcs=>ltake n cs λcs=>qH l' fr h λu=>k (.agg cs::u))=cellsOf o h λcs _=>ldropC i cs λcs=>ltake n cs λcs=>qH l' fr h λu=>k (.agg cs::u):=λ_=>rfl
    simp only[e9]
    rcases bZ o h with hb|⟨cs,es,hcs,e2⟩
    ·exact .inl λ_=>hb _
    simp only[e2]
    rcases fe i cs with hb|⟨h3,e3⟩
    ·exact .inl λ_=>hb _
    simp only[e3]
    rcases ig n (cs.drop i)with hb|⟨h4,e4⟩
    ·exact .inl λ_=>hb _
    simp only[e4]
    rcases tB vs l' fr h hl' with hb|⟨out,e5,ok⟩
    ·exact .inl λ_=>hb _
    refine .inr ⟨_,λ_=>e5 _,fun ε T w hT hF hh=>?_⟩
    obtain⟨L,r,e6⟩:=ok ε T w hT hF hh
    obtain⟨ho,hp⟩:=hptr ε T o i hT hF e1
    obtain⟨X,hl2,rl,hc⟩:=(hh.cells o cs es hcs).vals i n (by simp at h4;omega)
    have hld:=run_loadCells_list (P:=P) w (ε.addr o i) X hc
    rw[hl2]at hld
    refine⟨.agg X.toArray::L,⟨_,L,rfl,⟨X,rfl,rl⟩,r⟩,?_⟩
    have h7:(nj T (.cell a t)).run P w = .ok (.agg X.toArray) w:=by
     simp[nj,hp,asAddr,loadVar,gO hg,(bj (w:=w) hn).1,hld]
    simp[List.mapM_cons,Sem.run_bind,h7,e6]
   | false =>
    simp only[Bool.false_eq_true,if_false]at hq
    cases hq
    have e0:∀ k,qH (.cell (ae a)::l') fr h k=(b6 (ae a) fr).onPtr λo i=>cellsOf o h λcs _=>nthC cs i λv=>qH l' fr h λu=>k (v::u):=λ_=>rfl
    simp only[e0]
    rcases fp (b6 (ae a) fr)with hb|⟨o,i,e1⟩
    ·exact .inl λ_=>hb _
    simp only[e1]
    have e9:∀ k:List AV→aa,((AV.ptr o i).onPtr λo i=>cellsOf o h λcs _=>nthC cs i λv=>qH l' fr h λu=>k (v::u))=cellsOf o h λcs _=>nthC cs i λv=>qH l' fr h λu=>k (v::u):=λ_=>rfl
    simp only[e9]
    rcases bZ o h with hb|⟨cs,es,hcs,e2⟩
    ·exact .inl λ_=>hb _
    simp only[e2]
    rcases od cs i with hb|⟨v,h3,e3⟩
    ·exact .inl λ_=>hb _
    simp only[e3]
    rcases tB vs l' fr h hl' with hb|⟨out,e5,ok⟩
    ·exact .inl λ_=>hb _
    refine .inr ⟨_,λ_=>e5 _,fun ε T w hT hF hh=>?_⟩
    obtain⟨L,r,e6⟩:=ok ε T w hT hF hh
    obtain⟨ho,hp⟩:=hptr ε T o i hT hF e1
    obtain⟨V,hV,rV⟩:=(hh.cells o cs es hcs).cell h3
    refine⟨V::L,⟨V,L,rfl,rV,r⟩,?_⟩
    have h7:(nj T (.cell a t)).run P w = .ok V w:=by
     simp[nj,hp,asAddr,loadVar,gO hg,hV]
    simp[List.mapM_cons,Sem.run_bind,h7,e6]
theorem S5{vs:List AV}{L:List Value}(r:Rs ε m vs L):R ε m (one vs) (if h:L.toArray.size=1 then L.toArray[0] else .tuple L.toArray):=by
 match vs,L,r with
 | [],_,r=>simp only[Rs]at r;subst r;exact⟨[],rfl,rfl⟩
 | [v],_,r =>
  obtain⟨V,U,rfl,rv,rt⟩:=r
  simp only[Rs]at rt;subst rt
  exact rv
 | v::u::t,_,r =>
  obtain⟨V,U,rfl,rv,rt⟩:=r
  obtain⟨V',U',rfl,rv',rt'⟩:=rt
  rw[dif_neg (by simp)]
  exact⟨_,rfl,V,_,rfl,rv,V',_,rfl,rv',rt'⟩
theorem CA{fn:Func}{T:Array Value}{L:List Value}(h:(fn.results.toList.mapM (nj T)).run P w = .ok L w):(results fn T).run P w = .ok (if h:L.toArray.size=1 then L.toArray[0] else .tuple L.toArray) w:=by
 have e:results fn T=(fn.results.mapM (nj T) >>= λvs=>pure (if h:vs.size=1 then vs[0] else .tuple vs)):=by
  unfold results
  congr 1
 rw[e,Array.mapM_eq_mapM_toList]
 simp[h]
end Go.Ai
namespace Go.Ai
set_option linter.unusedSectionVars false
variable [Nu]
open Go
variable {P:Program}{N:Nat}{ε ε':bu}{m m':cJ}{w w':World}
def cK(P:Program):Prop:=∀ (call:Go.Ai.Call) (N:Nat) (r:Option Nat) (id:Nat) (ops:Array Oper) (fr:FT) (h:H),aC P call→N≤1048576 →
 du P N r (.region id ops true) fr h ((C.reg (fR P N ops)).run call fr h)
theorem qt{call:Go.Ai.Call}(hC:aC P call)(hDr:cK P)(hN:N≤1048576)(r:Option Nat)(c:Code)(fr:FT)(h:H):du P N r c fr h ((code P N c).run call fr h) :=
 NJ hC hN r (λid ops fr h=>hDr call N r id ops fr h hC hN) (λf x ps a b fr h hx hp=>Kf hC hN r f x ps a b fr h hx hp) c fr h
theorem vS:∀ (A pre:List Value) (m:Nat),A.length≤m→((List.range' pre.length A.length).zip A).foldl (λT p=>T.setIfInBounds p.1 p.2) (pre++List.replicate m undef).toArray=(pre++A++List.replicate (m-A.length) undef).toArray
 | [],pre,m,_=>by simp
 | a::A,pre,0,h=>by simp at h
 | a::A,pre,m+1,h=>by
  simp only[List.length_cons,List.range'_succ,List.zip_cons_cons,List.foldl_cons]
  have h1:(pre++List.replicate (m+1) undef).toArray.setIfInBounds pre.length a=((pre++[a])++List.replicate m undef).toArray:=by
   apply Array.ext'
   simp[List.replicate_succ,List.set_append_right]
  rw[h1]
  have h2:=vS A (pre++[a]) m (by simpa using h)
  rw[List.length_append,List.length_singleton]at h2
  rw[h2]
  simp
theorem b9.leaf(n:Nat):b9 ε m .leaf (Array.replicate n undef):=λt ht=>⟨undef,by
 have h:t<n:=by simpa using ht
 simp[h],by rw[wk];rfl⟩
theorem Ny{n k:Nat}{args:List AV}{A:List Value}(hk:k≤n)(hl:(List.range k).length=args.length)(r:Rs ε m args A):
  (((List.range k).zip A).foldl (λT p=>T.setIfInBounds p.1 p.2) (Array.replicate n undef))=A.toArray++Array.replicate (n-A.toArray.size) undef:=by
 have h1:k=A.length:=by rw[← r.length,← hl,List.length_range]
 subst h1
 have h2:=vS A [] n hk
 rw[List.length_nil,List.nil_append,← List.range_eq_range']at h2
 have h3:(List.replicate n undef).toArray=Array.replicate n undef:=by apply Array.ext';simp
 rw[h3]at h2
 rw[h2]
 apply Array.ext'
 simp
theorem pJ{f:Func}{q:Fn}(h:fn P f=some q):∃ b res,f.body=some b∧K7 P f.ntmps f.results.toList=some res∧f.params.size+f.nfree≤f.ntmps∧f.ntmps≤1048576 ∧
  q = { params:=(List.range (f.params.size+f.nfree)).map ae,body:=code P f.ntmps b,res:=res }:=by
 simp only[fn,Option.bind_eq_some_iff]at h
 obtain⟨b,hb,res,hr,h⟩:=h
 split at h
 ·rename_i hc
  simp only[Bool.and_eq_true,decide_eq_true_eq]at hc
  cases h
  exact⟨b,res,hb,hr,hc.1,hc.2,rfl⟩
 ·cases h
theorem Ay{func:Func}{fr:FT}{h h0:H}{out:List AV}{ε0:bu}{w0:World}{a:Act}
  (hout:∀ (ε : bu) (T:Array Value) (w:World),T.size=func.ntmps→b9 ε h.mem fr T→bX P ε h.mem w→∃ L:List Value,Rs ε h.mem out L∧(func.results.toList.mapM (nj T)).run P w = .ok L w)
  (hT:a.tmps.size=func.ntmps) (hc:BB none w0.heap.size a.defers ε h.mem w) (adv:de P ε0 h0.mem w0 ε h.mem w) (hF:b9 ε h.mem fr a.tmps) :
  LeavesInM Fence.wide 0 P func a.tmps (uc (OI P ε0 h0.mem w0 (one out) h.mem)) a.defers .returning w:=by
 obtain⟨rs,h1,h2,h3⟩:=hc
 rw[h1]
 refine pn (Q:=uc (OI P ε0 h0.mem w0 (one out) h.mem)) rs w adv h2 h3 λw' adv'=>?_
 obtain⟨L,rL,hL⟩:=hout ε a.tmps w' hT hF adv'.rel
 exact⟨_,CA hL,ε,adv',S5 rL⟩
theorem A3{call:Go.Ai.Call}(hC:aC P call)(hDr:cK P){f:FuncId}{func:Func}{q:Fn}(hf:P.funcs[f]? = some func)(hq:fn P func=some q)(args:List AV)(h:H):
  an (enter q call args h) λv h'=>∀ (ε : bu) (w:World) (A:List Value),bX P ε h.mem w→Rs ε h.mem args A→CallsIn Fence.wide 0 P f A.toArray w (uc (OI P ε h.mem w v h'.mem)):=by
 obtain⟨b,res,hb,hres,hk,hN,rfl⟩:=pJ hq
 have e0:∀ k,enter { params:=(List.range (func.params.size+func.nfree)).map ae,body:=code P func.ntmps b,res:=res } call args h k=bP ((List.range (func.params.size+func.nfree)).map ae) args .leaf λfr=>aa.casesOn (motive:=λ_=>aa) ((code P func.ntmps b).run call fr h) (λfr h=>qH res fr h λvs=>k (one vs) h) (λ_ _ _=>.bad 25) (λfr h=>qH res fr h λvs=>k (one vs) h) (λ_ _=>.bad 26) .bad:=λ_=>rfl
 unfold an
 simp only[e0]
 rcases nN (List.range (func.params.size+func.nfree)) args .leaf with hbad|⟨fr0,e1,hl,aX⟩
 ·exact .inl λ_=>hbad _
 simp only[e1]
 rcases qt hC hDr hN none b fr0 h with ⟨i,hbad⟩|⟨e,fr1,h1,he,hx⟩
 ·simp only[hbad];exact .inl λ_=>⟨i,rfl⟩
 have start:∀ (ε : bu) (w:World) (A:List Value) (Q:Exit→Act→World→Prop),bX P ε h.mem w→Rs ε h.mem args A→rX P func.ntmps none w.heap.size Q fr1 h1 e ε h.mem w →
   b.wpIn Fence.wide 0 P Q { tmps:=A.toArray++Array.replicate (func.ntmps-A.toArray.size) undef,defers:=[] } w:=fun ε w A Q hh r hq=>by
  have h2:=aX ε h.mem (Array.replicate func.ntmps undef) A (b9.leaf _) (by simpa using hN) (λt ht=>by
   have h4:=List.mem_range.1 ht
   rw[Array.size_replicate];exact Nat.lt_of_lt_of_le h4 hk) r
  rw[Ny hk hl r]at h2
  have h3:A.length≤func.ntmps:=by have:=r.length;simp at hl;omega
  exact hx w.heap.size ε _ w Q (by simp;omega) h2 hh (Nat.le_refl _) ⟨[],rfl,List.nodup_nil,λb hb=>by simp at hb⟩ hq
 rcases jL he with ⟨rfl,e2⟩|⟨j,rfl,e2⟩|⟨rfl,e2⟩
 ·simp only[e2]
  rcases tB func.results.toList res fr1 h1 hres with hbad|⟨out,e3,hout⟩
  ·exact .inl λ_=>hbad _
  simp only[e3]
  refine .inr ⟨one out,h1,λ_=>rfl,fun ε w A hh r=>callsIn_of_wp_marks hf hb trivial (start ε w A _ hh r fun ε' a' w' k1 k2 k3 k4=>?_)⟩
  exact Ay hout k1 k2 k3 k4
 ·simp only[e2];exact .inl λ_=>⟨25,rfl⟩
 ·simp only[e2]
  rcases tB func.results.toList res fr1 h1 hres with hbad|⟨out,e3,hout⟩
  ·exact .inl λ_=>hbad _
  simp only[e3]
  refine .inr ⟨one out,h1,λ_=>rfl,fun ε w A hh r=>callsIn_of_wp_marks hf hb trivial (start ε w A _ hh r fun ε' a' w' k1 k2 k3 k4=>?_)⟩
  exact Ay hout k1 k2 k3 k4
theorem mY:∀ (ps:List ab) (vs:List AV) (fr:FT),(∀ k,bq (bP ps vs fr k))∨∃ fr',∀ k,bP ps vs fr k=k fr'
 | [],[],fr=>.inr ⟨fr,λ_=>rfl⟩
 | [],_::_,_=>.inl λ_=>⟨24,rfl⟩
 | _::_,[],_=>.inl λ_=>⟨24,rfl⟩
 | q::ps,v::vs,fr=>mY ps vs (kh v q fr)
theorem oE(o:ab)(h:H):(∀ k,bq (beginRound o h k))∨∃ pd f ps a b h',h.mem o = .loop 0 pd f ps a b∧h'.mem=upd h.mem o (.loop 1 pd f ps a b)∧∀ k,beginRound o h k=k h':=by
 cases h with
 | mk t n =>
  have e0:∀ k,beginRound o (.mk t n) k=Obj.casesOn (motive:=λ_=>aa) (ax o t) (.bad 44) (λ_ _=>.bad 44) (λ_ _=>.bad 44) (.bad 44) (λst pd f ps a b=>must 12 (Nat.beq st 0) (k (.mk (aX (.loop 1 pd f ps a b) o t) n))):=λ_=>rfl
  simp only[e0]
  cases e:ax o t with
  | loop st pd f ps a b =>
   show (∀ k:H→aa,bq (must 12 (Nat.beq st 0) (k (.mk (aX (.loop 1 pd f ps a b) o t) n))))∨_
   rcases ay 12 (Nat.beq st 0)with hb|⟨h2,e2⟩
   ·exact .inl λ_=>hb _
   refine .inr ⟨pd,f,ps,a,b,.mk (aX (.loop 1 pd f ps a b) o t) n,?_,?_,λk=>e2 _⟩
   ·have:=Nat.eq_of_beq_eq_true h2;subst this;exact e
   ·funext q;exact cC _ q o t
  | _=>exact .inl λ_=>⟨44,rfl⟩
def qw:gk→Nat
 | .no=>0
 | _=>2
theorem Du(o:ab)(j:gk)(h:H):(∀ k,bq (endRound o j h k))∨∃ st pd f ps a b h',h.mem o = .loop st pd f ps a b∧h'.mem=upd h.mem o (.loop (qw j) j f ps a b)∧st≠9∧∀ k,endRound o j h k=k (.bool (jo j).isNone) h':=by
 cases h with
 | mk t n =>
  have e0:∀ k,endRound o j (.mk t n) k=Obj.casesOn (motive:=λ_=>aa) (ax o t) (.bad 43) (λ_ _=>.bad 43) (λ_ _=>.bad 43) (.bad 43) (λst _ f ps a b =>
   must 12 (Nat.blt st 4) (gk.casesOn (motive:=λ_=>aa) j (k (.bool true) (.mk (aX (.loop 0 .no f ps a b) o t) n)) (k (.bool false) (.mk (aX (.loop 2 .ret f ps a b) o t) n)) (λid=>k (.bool false) (.mk (aX (.loop 2 (.exit id) f ps a b) o t) n)))):=λ_=>rfl
  simp only[e0]
  cases e:ax o t with
  | loop st pd f ps a b =>
   show (∀ k:af,bq (must 12 (Nat.blt st 4) (gk.casesOn (motive:=λ_=>aa) j (k (.bool true) (.mk (aX (.loop 0 .no f ps a b) o t) n)) (k (.bool false) (.mk (aX (.loop 2 .ret f ps a b) o t) n)) (λid=>k (.bool false) (.mk (aX (.loop 2 (.exit id) f ps a b) o t) n)))))∨_
   rcases ay 12 (Nat.blt st 4)with hb|⟨h4,e4⟩
   ·exact .inl λ_=>hb _
   rw[az]at h4
   have h4':=of_decide_eq_true h4
   refine .inr ⟨st,pd,f,ps,a,b,.mk (aX (.loop (qw j) j f ps a b) o t) n,e,?_,by omega,λk=>?_⟩
   ·funext q;exact cC _ q o t
   ·exact (e4 _).trans (by cases j <;> rfl)
  | _=>exact .inl λ_=>⟨43,rfl⟩
theorem uR{o:ab}{pd:gk}{f:FT}{ps:List ab}{a b:C}(hh:bX P ε m w)(hm:m o = .loop 0 pd f ps a b):∃ w',(Instr.beginRound (ε o).blk).run P w = .ok () w'∧de P ε m w ε (upd m o (.loop 1 pd f ps a b)) w':=by
 obtain⟨L,hg,h1,h2,h3,h4,h5,h6,h7⟩:=(hh.loops o 0 pd f ps a b hm).resolve_right λh=>by cases h.1
 have hr:L.state = .ready:=by simpa [D6] using h1.symm
 refine⟨{ w with heap:=w.heap.setIfInBounds (ε o).blk (.loop { L with state:=.busy }) },?_,?_⟩
 ·simp[Instr.beginRound,gM hg,lP hg,hr]
 ·refine de.set hh (by rw[hm];trivial) (.loop 1 pd f ps a b) (by simp) (λ_=>by show (1:Nat)≠9;decide) _ (by simp) (λk hk=>Array.getElem?_setIfInBounds_ne (Ne.symm hk)) ?_
  rintro m' w' rfl rfl hst
  refine⟨λ_ _ e=>(by cases e),λ_ _ e=>(by cases e),λst' pd' f' ps' a' b' e=>?_⟩
  cases e
  exact .inl ⟨_,cE _ _ hg,rfl,h2,h3.mono hst,h4,h5,h6,h7⟩
theorem Bf{o:ab}{st:Nat}{pd:gk}(j:gk){f:FT}{ps:List ab}{a b:C}(hh:bX P ε m w)(hm:m o = .loop st pd f ps a b)(h9:st≠9):∃ w',(Instr.endRound (ε o).blk (jo j)).run P w = .ok (.bool (jo j).isNone) w'∧de P ε m w ε (upd m o (.loop (qw j) j f ps a b)) w':=by
 obtain⟨L,hg,h1,h2,h3,h4,h5,h6,h7⟩:=(hh.loops o st pd f ps a b hm).resolve_right λh=>h9 h.1
 refine⟨{ w with heap:=w.heap.setIfInBounds (ε o).blk (.loop { L with state:=if (jo j).isNone then .ready else .done,pending:=jo j }) },?_,?_⟩
 ·simp[Instr.endRound,gM hg,lP hg]
 ·refine de.set hh (by rw[hm];trivial) (.loop (qw j) j f ps a b) (by simp) (λ_=>by show qw j≠9;cases j <;> simp[qw]) _ (by simp) (λk hk=>Array.getElem?_setIfInBounds_ne (Ne.symm hk)) ?_
  rintro m' w' rfl rfl hst
  refine⟨λ_ _ e=>(by cases e),λ_ _ e=>(by cases e),λst' pd' f' ps' a' b' e=>?_⟩
  cases e
  exact .inl ⟨_,cE _ _ hg,by cases j <;> rfl,rfl,h3.mono hst,h4,h5,h6,h7⟩
theorem du.nrm{r:Option Nat}{c:Code}{fr fr1:FT}{h h1:H}{res:aa}(hk:du P N r c fr h res)(e:res = .nrm fr1 h1):∀ (base:Nat) (ε : bu) (a:Act) (w:World) (Q:Exit→Act→World→Prop),a.tmps.size=N→b9 ε h.mem fr a.tmps→bX P ε h.mem w→base≤w.heap.size→BB r base a.defers ε h.mem w →
  rX P N r base Q fr1 h1 .normal ε h.mem w→c.wpIn (fa r) 0 P Q a w:=by
 rcases hk with ⟨i,hb⟩|⟨e',fr',h',he,hx⟩
 ·rw[e]at hb;cases hb
 ·subst e;cases he;exact hx
theorem du.ext{r:Option Nat}{c:Code}{fr fr1:FT}{h h1:H}{res:aa}{id:Nat}(hk:du P N r c fr h res)(e:res = .ext id fr1 h1):∀ (base:Nat) (ε : bu) (a:Act) (w:World) (Q:Exit→Act→World→Prop),a.tmps.size=N→b9 ε h.mem fr a.tmps→bX P ε h.mem w→base≤w.heap.size→BB r base a.defers ε h.mem w →
  rX P N r base Q fr1 h1 (.exit id) ε h.mem w→c.wpIn (fa r) 0 P Q a w:=by
 rcases hk with ⟨i,hb⟩|⟨e',fr',h',he,hx⟩
 ·rw[e]at hb;cases hb
 ·subst e;cases he;exact hx
theorem du.ret{r:Option Nat}{c:Code}{fr fr1:FT}{h h1:H}{res:aa}(hk:du P N r c fr h res)(e:res = .ret fr1 h1):∀ (base:Nat) (ε : bu) (a:Act) (w:World) (Q:Exit→Act→World→Prop),a.tmps.size=N→b9 ε h.mem fr a.tmps→bX P ε h.mem w→base≤w.heap.size→BB r base a.defers ε h.mem w →
  rX P N r base Q fr1 h1 .ret ε h.mem w→c.wpIn (fa r) 0 P Q a w:=by
 rcases hk with ⟨i,hb⟩|⟨e',fr',h',he,hx⟩
 ·rw[e]at hb;cases hb
 ·subst e;cases he;exact hx
theorem FX(o:ab)(res:aa):(∀ k,bq (ft o res k))∨∃ (e:Exit) (j:gk) (fr:FT) (h:H),xw res e fr h∧(∀ k,ft o res k=endRound o j h k)∧((e = .normal∧j = .no)∨(∃ id,e = .exit id∧j = .exit id)∨(e = .ret∧j = .ret)):=by
 cases res with
 | nrm fr h=>exact .inr ⟨.normal,.no,fr,h,.nrm fr h,λ_=>rfl,.inl ⟨rfl,rfl⟩⟩
 | ext id fr h=>exact .inr ⟨.exit id,.exit id,fr,h,.ext id fr h,λ_=>rfl,.inr (.inl ⟨id,rfl,rfl⟩)⟩
 | ret fr h=>exact .inr ⟨.ret,.ret,fr,h,.ret fr h,λ_=>rfl,.inr (.inr ⟨rfl,rfl⟩)⟩
 | fin v h=>exact .inl λ_=>⟨45,rfl⟩
 | bad i=>exact .inl λ_=>⟨i,rfl⟩
theorem du.ends{r:Option Nat}{c:Code}{fr fr1:FT}{h h1:H}{res:aa}{e:Exit}(hk:du P N r c fr h res)(he:xw res e fr1 h1):∀ (base:Nat) (ε : bu) (a:Act) (w:World) (Q:Exit→Act→World→Prop),a.tmps.size=N→b9 ε h.mem fr a.tmps→bX P ε h.mem w→base≤w.heap.size→BB r base a.defers ε h.mem w →
  rX P N r base Q fr1 h1 e ε h.mem w→c.wpIn (fa r) 0 P Q a w:=by
 cases he with
 | nrm=>exact hk.nrm rfl
 | ext id=>exact hk.ext rfl
 | ret=>exact hk.ret rfl
theorem uy{call:Go.Ai.Call}(hC:aC P call)(hDr:cK P)(args:List AV)(h:H):an (round call args h) (gp P (ae 8191) args h):=by
 cases args with
 | nil=>exact .inl λ_=>⟨46,rfl⟩
 | cons y vs =>
  cases y with
  | yld o =>
   cases h with
   | mk t n =>
    have e0:∀ k,round call (.yld o::vs) (.mk t n) k=Obj.casesOn (motive:=λ_=>aa) (ax o t) (.bad 47) (λ_ _=>.bad 47) (λ_ _=>.bad 47) (.bad 47) (λst _ f ps a b =>
     must 12 (Nat.blt st 4) (bP ps vs f λfr=>aa.casesOn (motive:=λ_=>aa) (a.run call fr (.mk t n)) (λfr h=>beginRound o h λh=>ft o (b.run call fr h) k) (λ_ _ _=>.bad 48) (λ_ _=>.bad 48) (λ_ _=>.bad 48) .bad)):=λ_=>rfl
    unfold an
    simp only[e0]
    cases e:ax o t with
    | loop st pd f ps a b =>
     show (∀ k:af,bq (must 12 (Nat.blt st 4) (bP ps vs f λfr=>aa.casesOn (motive:=λ_=>aa) (a.run call fr (.mk t n)) (λfr h=>beginRound o h λh=>ft o (b.run call fr h) k) (λ_ _ _=>.bad 48) (λ_ _=>.bad 48) (λ_ _=>.bad 48) .bad)))∨∃ v h,(∀ k:af,must 12 (Nat.blt st 4) (bP ps vs f λfr=>aa.casesOn (motive:=λ_=>aa) (a.run call fr (.mk t n)) (λfr h=>beginRound o h λh=>ft o (b.run call fr h) k) (λ_ _ _=>.bad 48) (λ_ _=>.bad 48) (λ_ _=>.bad 48) .bad)=k v h)∧_
     rcases ay 12 (Nat.blt st 4)with hb|⟨h4,e4⟩
     ·exact .inl λ_=>hb _
     rw[az]at h4
     have h9:st≠9:=by have:=of_decide_eq_true h4;omega
     simp only[e4]
     show (∀ k:af,bq (bP ps vs f λfr=>aa.casesOn (motive:=λ_=>aa) (a.run call fr (.mk t n)) (λfr h=>beginRound o h λh=>ft o (b.run call fr h) k) (λ_ _ _=>.bad 48) (λ_ _=>.bad 48) (λ_ _=>.bad 48) .bad))∨∃ v h,(∀ k:af,(bP ps vs f λfr=>aa.casesOn (motive:=λ_=>aa) (a.run call fr (.mk t n)) (λfr h=>beginRound o h λh=>ft o (b.run call fr h) k) (λ_ _ _=>.bad 48) (λ_ _=>.bad 48) (λ_ _=>.bad 48) .bad)=k v h)∧_
     rcases mY ps vs f with hb|⟨fr0,e1⟩
     ·exact .inl λ_=>hb _
     simp only[e1]
     cases e2:a.run call fr0 (.mk t n) with
     | ext id fr1 h1=>exact .inl λ_=>⟨48,rfl⟩
     | ret fr1 h1=>exact .inl λ_=>⟨48,rfl⟩
     | fin v1 h1=>exact .inl λ_=>⟨48,rfl⟩
     | bad i=>exact .inl λ_=>⟨i,rfl⟩
     | nrm fr1 h1 =>
      show (∀ k:af,bq (beginRound o h1 λh=>ft o (b.run call fr1 h) k))∨∃ v h,(∀ k:af,(beginRound o h1 λh=>ft o (b.run call fr1 h) k)=k v h)∧_
      rcases oE o h1 with hb|⟨pd1,f1,ps1,a1,b1,h2,hm1,hm2,e3⟩
      ·exact .inl λ_=>hb _
      simp only[e3]
      rcases FX o (b.run call fr1 h2)with hb|⟨ex,j,fr3,h3,hen,e4,hej⟩
      ·exact .inl hb
      simp only[e4]
      rcases Du o j h3 with hb|⟨st3,pd3,f3,ps3,a3,b3,h4,hm3,hm4,h93,e5⟩
      ·exact .inl hb
      simp only[e5]
      refine .inr ⟨_,h4,λ_=>rfl,fun ε w hh=>⟨λg A hg hp _=>?_,λo' vs' A _ harg ho hr=>?_⟩⟩
      ·exact absurd (c9 (Nat.lt_trans hg (by decide)) (by decide) hp.symm) (Nat.ne_of_lt hg)
      ·cases harg
       obtain⟨L,hg,l1,l2,l3,rfl,l5,rfl,rfl,l8⟩:=(hh.loops o st pd f ps a b e).resolve_right λh=>h9 h.1
       rcases nN L.params.toList vs f with hb|⟨fr0',e1',hlen,aX⟩
       ·obtain⟨i,hb⟩:=hb λfr=>.nrm fr h1
        rw[e1]at hb;cases hb
       have hfr:fr0'=fr0:=by
        have h5:=(e1 λfr=>.nrm fr h1).symm.trans (e1' λfr=>.nrm fr h1)
        cases h5;rfl
       subst hfr
       have hF0:=aX ε _ L.tmps A l3 l8 l5 hr
       have hsz:A.toArray.size=L.params.size:=by have:=hr.length;simp at hlen ⊢;omega
       have hy:(Instr.yield (ε o).blk A.toArray).run P w = .ok (.round (ε o).blk L.fn ((L.params.toList.zip A).foldl (λT p=>T.setIfInBounds p.1 p.2) L.tmps) L.assign L.body) w:=by
        have hz:(L.params.zip A.toArray).foldl (λtmps (x:Tmp × Value)=>tmps.setIfInBounds x.1 x.2) L.tmps=(L.params.toList.zip A).foldl (λT p=>T.setIfInBounds p.1 p.2) L.tmps:=by
         rw[← Array.foldl_toList,Array.toList_zip]
        simp only[Instr.yield,Sem.run_bind,gM hg,Result.andThen,hsz,ne_eq,not_true_eq_false,if_false,Sem.run_pure]
        rw[hz]
       refine⟨_,w,hy,?_⟩
       have hN0:((L.params.toList.zip A).foldl (λT p=>T.setIfInBounds p.1 p.2) L.tmps).size=L.tmps.size:=by
        generalize L.params.toList.zip A=z
        generalize L.tmps=T
        induction z generalizing T with
        | nil=>rfl
        | cons q z ih=>rw[List.foldl_cons,ih];simp
       have hc0:BB (some (ε o).blk) 0 [] ε (H.mk t n).mem w:=⟨rfl,o,rfl,by show mz (ax o t);rw[e];exact h9⟩
       refine roundIn_of_wpIn (F:=Fence.wide) trivial ?_
       refine (qt hC hDr l8 (some (ε o).blk) L.assign fr0' (.mk t n)).nrm (show (code P L.tmps.size L.assign).run call fr0' (.mk t n)=_ from e2) 0 ε _ w _ hN0 hF0 hh (Nat.zero_le _) hc0 fun ε1 a1' w1 k1 k2 k3 k4=>?_
       show ∃ w₂,(Instr.beginRound (ε o).blk).run P w1 = .ok () w₂ ∧ L.body.wpIn (fa (some (ε o).blk)) 0 P (roundPost P (ε o).blk _) a1' w₂
       have ho1:=k3.stays o ho
       obtain⟨w2,hbr,adv2⟩:=uR k3.rel hm1
       rw[← hm2]at adv2
       rw[ho1.2]at hbr
       refine⟨w2,hbr,?_⟩
       refine (qt hC hDr l8 (some (ε o).blk) L.body fr1 h2).ends hen 0 ε1 a1' w2 _ k1 (k4.mono adv2.stays) adv2.rel (Nat.zero_le _) (k2.adv adv2) fun ε3 a3' w3 q1 q2 q3 q4=>?_
       have ho2:=adv2.stays o ho1.1
       have ho3:=q3.stays o ho2.1
       obtain⟨w4,her,adv4⟩:=Bf j q3.rel hm3 h93
       rw[← hm4]at adv4
       rw[ho3.2,ho1.2]at her
       have hfin:uc (OI P ε (H.mk t n).mem w (.bool (jo j).isNone) h4.mem) (.returned (.bool (jo j).isNone)) w4:=⟨ε3,((k3.trans adv2).trans q3).trans adv4,rfl⟩
       rcases hej with ⟨rfl,rfl⟩|⟨id,rfl,rfl⟩|⟨rfl,rfl⟩
       ·exact⟨_,w4,her,hfin⟩
       ·exact⟨_,w4,her,hfin⟩
       ·exact⟨_,w4,her,hfin⟩
    | _=>exact .inl λ_=>⟨47,rfl⟩
  | _=>exact .inl λ_=>⟨_,rfl⟩
def ac(P:Program)(p:ab)(g:Go.Ai.Call→List AV→H→af→aa):Prop:=∀ call,aC P call→∀ args h,an (g call args h) (gp P p args h)
def ya(P:Program)(p:ab):nq→Prop
 | .none=>True
 | .go q=>∃ f func,p=ae f∧f<8191∧P.funcs[f]? = some func∧(func.name == "runtime.NumGoroutine")=false∧fn P func=some q
 | .intr g=>ac P p g
 | .yld=>p=ae 8191
def kH(P:Program)(T:Tb):Prop:=∀ p,ya P p (H1 p T)
theorem kz{f:FuncId}{func:Func}{A:Array Value}(hf:P.funcs[f]? = some func)(hn:(func.name == "runtime.NumGoroutine")=false)(hb:func.body.isSome=true):(callFunc f A).run P w = .ok (.enter f A) w:=by
 have h2:func.body≠none:=by cases e:func.body <;> simp_all
 have h3:func.name ≠ "runtime.NumGoroutine":=by simpa using hn
 simp[callFunc,hf,h3,h2]
theorem et(hDr:cK P){T:Tb}(hT:kH P T)(fuel:Nat):aC P (d6 T fuel):=by
 induction fuel with
 | zero=>exact λp args h=>.inl λ_=>⟨27,rfl⟩
 | succ n ih =>
  intro p args h
  have e0:∀ k,d6 T (n+1) p args h k=nq.casesOn (motive:=λ_=>aa) (H1 p T) (.bad 28) (λfn=>enter fn (d6 T n) args h k) (λg=>g (d6 T n) args h k) (round (d6 T n) args h k):=λ_=>rfl
  unfold an
  simp only[e0]
  have hp:=hT p
  cases e:H1 p T with
  | none=>exact .inl λ_=>⟨28,rfl⟩
  | go q =>
   rw[e]at hp
   obtain⟨f,func,rfl,hf8,hf,hn,hq⟩:=hp
   refine (A3 ih hDr hf hq args h).mono λv h' hk ε w hh=>⟨λg A hg hgp hr=>?_,λo vs A hgp=>absurd (c9 (Nat.lt_trans hf8 (by decide)) (by decide) hgp) (Nat.ne_of_lt hf8)⟩
   have hfg:=c9 (Nat.lt_trans hf8 (by decide)) (Nat.lt_trans hg (by decide)) hgp
   subst hfg
   obtain⟨b,res,hb,_⟩:=pJ hq
   exact⟨_,w,kz hf hn (by rw[hb];rfl),hk ε w A hh hr,.inl ⟨rfl,rfl⟩⟩
  | intr g =>
   rw[e]at hp
   exact hp (d6 T n) ih args h
  | yld =>
   rw[e]at hp
   have hp':p=ae 8191:=hp
   subst hp'
   exact uy ih hDr args h
end Go.Ai
