/- exact.trim, exact.words, exact.pack: what they do. exact.words, exact.pack. math/bits.Mul64; exact.NatAdd, NatSub. exact.NatOf, NatAdd, NatSub, compareWords. exact.mulWords, NatMul. math/bits.Len64, LeadingZeros64. One digit of a division by two digits to the base 2^32. math/bits.Div64. math/bits.Div64: quotient and remainder. exact.shiftUp, compareWords. exact.compareWords. -/
import Derived.Test.YtdnehjkbflffcaaGreatDoorA5
import Derived.Test.YtdnehjkbflffcaaGreatDoorX1
set_option linter.unusedVariables false
set_option autoImplicit false
set_option linter.unusedSectionVars false
set_option linter.unusedSimpArgs false
namespace Go.Ai
variable [Nu]
theorem wQ{cs:List AV}{ws:List Nat}(hw:cs.take ws.length=cw ws){i w:Nat}(h:ws[i]? = some w):cs[i]? = some (.int .u64 (.ofNat w)):=by
 have hi:i<ws.length:=(List.getElem?_eq_some_iff.mp h).1
 have e:(cs.take ws.length)[i]? = cs[i]?:=by rw[List.getElem?_take,if_pos hi]
 rw[← e,hw,cw,List.getElem?_map,h];rfl
theorem G8(call:Call)(h:H)(k:af):vU call [.nils] h k=k .nils h:=by
 simp only[vU,xF,eB]
 rw[show ∀ k,bN .nils h k=k (.int .i64 (.ofNat 0)) h from λ_=>rfl]
 refine bM jM call _ _ _ (λi fr h'=>fr=⟨.nils,.int .i64 (.ofNat 0),.undef,.nils,.undef,.undef,.undef,.undef⟩∧h'=h) 0 _ _ _ ⟨rfl,rfl⟩ (λi fr h' hi=>by omega) ?_ (by decide)
 rintro fr h' ⟨rfl,rfl⟩ kn
 simp only[jM,eB]
 rw[jl (by omega)]
 simp only[eB]
 rfl
theorem GD{l:List Obj}{j es c:Nat}{cs:List AV}{ws:List Nat}(hj:l[j]? = some (.cells cs es))(hw:cs.take ws.length=cw ws)(hc:ws.length≤c)(hm:ws.length<1073741824)(call:Call)(k:af):
  vU call [.slc (nm j) 0 ws.length (.exact c)] (hp l) k=k (.slc (nm j) 0 (tl ws) (.exact c)) (hp l):=by
 have htl:=nv ws
 simp only[vU,xF,eB]
 rw[aK]
 refine bM jM call _ _ _ (λi fr h=>∃ x2,fr=⟨.slc (nm j) 0 ws.length (.exact c),.int .i64 (.ofNat (ws.length-i)),x2,.nils,.undef,.undef,.undef,.undef⟩∧h=hp l) (ws.length-tl ws) _ _ _ ⟨_,rfl,rfl⟩ ?_ ?_ (by omega)
 ·rintro i fr h hi ⟨x2,rfl,rfl⟩
  obtain⟨w,hw1⟩ : ∃ w,ws[ws.length-i-1]? = some w:=⟨_,List.getElem?_eq_getElem (by omega)⟩
  have hz:w=0:=mS ws _ w (by omega) hw1
  refine⟨_,_,⟨.bool true,rfl,rfl⟩,λkn=>?_⟩
  simp only[jM,eB]
  rw[jf (by omega)]
  simp only[eB]
  rw[eE (by omega) (by omega)]
  rw[bw (by omega)]
  rw[aR hj (wQ hw hw1)]
  rw[kb hz]
  simp only[eB]
  rw[eE (by omega) (by omega),show ws.length-i-1=ws.length-(i+1) by omega]
 ·rintro fr h ⟨x2,rfl,rfl⟩ kn
  rw[show ws.length-(ws.length-tl ws)=tl ws by omega]
  simp only[jM,eB]
  cases ht:tl ws with
  | zero =>
   rw[jl (by omega)]
   simp only[eB]
   rw[If (Nat.zero_le _)]
  | succ n =>
   obtain⟨w,h1,h2⟩:=mH ws n ht
   rw[jf (by omega)]
   simp only[eB]
   rw[eE (by omega) (by omega),bw (by omega),aR hj (wQ hw (by simpa using h1)),lR h2]
   simp only[eB]
   rw[If (by omega)]
end Go.Ai
namespace Go.Ai
variable [Nu]
def mw(call:Call)(p:ab):Prop :=
 (∀ (h:H) (k:af),call p [.nils] h k=k .nils h) ∧
 ∀ (l:List Obj) (j es c:Nat) (cs:List AV) (ws:List Nat) (k:af),l[j]? = some (.cells cs es)→cs.take ws.length=cw ws→ws.length≤c→ws.length<1073741824 →
  call p [.slc (nm j) 0 ws.length (.exact c)] (hp l) k=k (.slc (nm j) 0 (tl ws) (.exact c)) (hp l)
def dr(s:List Nat):List Nat:=aF 18446744073709551616 ((s.length+7)/8) (aB s)
theorem BF{h:H}{k:af}{kd':IntKind}{a b:Nat}(hb:b≤64)(hr:a*2^b<18446744073709551616):Ez (.int .u64 (.ofNat a)) (.int kd' (.ofNat b)) h k=k (.int .u64 (.ofNat (a*2^b))) h:=by
 rw[AK hb,Nat.mod_eq_of_lt hr]
theorem aO{α : Type}(l:List α)(b : α):(l++[b])[l.length]? = some b:=by simp
theorem fh{α : Type}(l:List α)(a b : α):(l++[a]).set l.length b=l++[b]:=by simp
theorem C3{l:List Obj}{s:List Nat}(hs:∀ b ∈ s,b<256)(hm:s.length<1073741824){call:Call}{p:ab}(hT:mw call p)(k:af):
  xj p call [.str s] (hp l) k=k (.slc (nm l.length) 0 (tl (dr s)) (.exact ((s.length+7)/8))) (hp (l++[.cells (cw (dr s)) 0])):=by
 simp only[xj,Bu,eB]
 rw[pj,bW (by omega),Xo (by decide) (by omega),kN (Nat.le_refl _) (by omega) (by omega),pj]
 refine bM mL call _ _ _ (λi fr h=>i≤s.length∧∃ x3 x4 x6,fr=⟨.str s,.int .i64 (.ofNat i),.int .i64 (.ofNat s.length),x3,x4,.slc (nm l.length) 0 ((s.length+7)/8) (.exact ((s.length+7)/8)),x6,.nils⟩∧h=hp (l++[.cells (cw (dW ((s.length+7)/8) (fA s i))) 0])) s.length _ _ _ ⟨Nat.zero_le _,_,_,_,rfl,?_⟩ ?_ ?_ hm
 ·rw[zq,xH,cw,List.map_replicate]
 ·rintro i fr h hi ⟨_,x3,x4,x6,rfl,rfl⟩
  obtain⟨b,hb⟩ : ∃ b,s[i]? = some b:=⟨_,List.getElem?_eq_getElem hi⟩
  have hb256:b<256:=hs b (List.mem_of_getElem? hb)
  have hk:(s.length-1-i)/8<(s.length+7)/8:=by omega
  have hsh:b*2^(8*((s.length-1-i)%8))<18446744073709551616:=by
   have h1:2^(8*((s.length-1-i)%8))≤2^56:=Nat.pow_le_pow_right (by decide) (by omega)
   have h2:b*2^(8*((s.length-1-i)%8))≤255*2^56:=Nat.mul_le_mul (by omega) h1
   exact Nat.lt_of_le_of_lt h2 (by decide)
  have ax:(dW ((s.length+7)/8) (fA s i))[(s.length-1-i)/8]? = some (fA s i/2^(64*((s.length-1-i)/8))%2^64):=by simp[dW,hk]
  refine⟨_,_,⟨hi,.bool true,.int .i64 (.ofNat i),.int .i64 (.ofNat (s.length-1-i)),rfl,rfl⟩,λkn=>?_⟩
  simp only[mL,eB]
  rw[dz hi]
  simp only[eB]
  rw[pj,eE (by omega) (by omega),eE (by omega) (by omega),Xo (by decide) (by omega),bw hk]
  rw[aR (aO l _) (v:=.int .u64 (.ofNat (fA s i/2^(64*((s.length-1-i)/8))%2^64))) (by rw[cw,List.getElem?_map,ax];rfl)]
  rw[nD hb hb256,Ih (by omega),ac2 (by decide),MV (by omega),BF (by omega) hsh,Fe (Nat.mod_lt _ (by decide)) hsh,bw hk]
  rw[dQ (aO l _) (by rw[aS];simpa [dW] using hk)]
  rw[bW (by omega),fh,cU]
  have e:=xD ((s.length+7)/8) (fA s i) b (s.length-1-i) (by
   have:=Dr s i
   rwa [show s.length-i=s.length-1-i+1 by omega]at this) hb256
  rw[e,← Ac s i b hb]
 ·rintro fr h ⟨_,x3,x4,x6,rfl,rfl⟩ kn
  simp only[mL,eB]
  rw[dC (Nat.le_refl _)]
  simp only[eB]
  rw[bJ]
  have hlen:(dr s).length=(s.length+7)/8:=aq _ _ _
  have e:dW ((s.length+7)/8) (fA s s.length)=dr s:=by rw[CO,← Gi];rfl
  rw[e]
  have:=hT.2 (l++[.cells (cw (dr s)) 0]) l.length 0 ((s.length+7)/8) (cw (dr s)) (dr s) k (aO l _) (by rw[List.take_of_length_le (by rw[aS];exact Nat.le_refl _)]) (by omega) (by omega)
  rw[hlen]at this
  exact this
def was(x y:AV):Nat→AV
 | 0=>x
 | _+1=>y
def cnt(x:AV):Nat→AV
 | 0=>x
 | t+1=>.int .i64 (.ofNat t)
theorem BN{l:List Obj}{m N i x:Nat}(hi:i<m)(hm:m<67108864)(hx:x<18446744073709551616)(hN:∀ s,s<8→x/2^(8*s)%256=N/256^(8*i+s)%256)
  {call:Call} {kr:ar→H→aa} {ke:Nat→ar→H→aa} {kn0:ar→H→aa} (w x1 n5 x7 x10 x12 x13 x14 x15:AV) (r:aa)
  (hr:ke 2 ⟨⟨w,x1,.int .i64 (.ofNat i),n5,.bool true,w,.int .i64 (.ofNat 8),.bool false⟩,⟨.slc (nm l.length) 0 (8*m) (.exact (8*m)),.int .i64 (.ofNat i),.int .i64 (.ofNat 7),.int .u64 (.ofNat x),x12,x13,x14,x15⟩,i8,i8,i8,i8,i8,i8⟩ (hp (l++[.cells (cb (ia (8*m) N (8*i+8))) 0]))=r) :
  kL mh call kr ke kn0 ⟨⟨w,x1,.int .i64 (.ofNat i),n5,.bool true,w,.int .i64 (.ofNat 0),x7⟩,⟨.slc (nm l.length) 0 (8*m) (.exact (8*m)),.int .i64 (.ofNat i),x10,.int .u64 (.ofNat x),x12,x13,x14,x15⟩,i8,i8,i8,i8,i8,i8⟩ (hp (l++[.cells (cb (ia (8*m) N (8*i))) 0]))=r:=by
 refine bM mh call _ _ _ (λt fr h=>fr=⟨⟨w,x1,.int .i64 (.ofNat i),n5,.bool true,w,.int .i64 (.ofNat t),was x7 (.bool true) t⟩,⟨.slc (nm l.length) 0 (8*m) (.exact (8*m)),.int .i64 (.ofNat i),cnt x10 t,.int .u64 (.ofNat x),x12,x13,x14,x15⟩,i8,i8,i8,i8,i8,i8⟩∧h=hp (l++[.cells (cb (ia (8*m) N (8*i+t))) 0])) 8 _ _ _ ⟨rfl,rfl⟩ ?_ ?_ (by decide)
 ·rintro t fr h ht ⟨rfl,rfl⟩
  refine⟨_,_,⟨rfl,rfl⟩,λkn=>?_⟩
  simp only[mh,aI]
  rw[dz ht]
  simp only[aI]
  rw[aK,eE (by omega) (by omega),MV (by omega),eE (by omega) (by omega),eE (by omega) (by omega),MV (by omega),dP (by omega),lm,bw (by omega)]
  rw[dQ (aO l _) (by rw[qc,eL];omega)]
  rw[bW (by omega),fh,Rh,hN t ht,show 8*m-1-8*i-t=8*m-1-(8*i+t) by omega,BJ _ _ _ (by omega)]
  rfl
 ·rintro fr h ⟨rfl,rfl⟩ kn
  simp only[mh,aI]
  rw[dC (Nat.le_refl _)]
  simp only[aI]
  exact hr
theorem Hq{l:List Obj}{j es c:Nat}{cs:List AV}{ws:List Nat}(hj:l[j]? = some (.cells cs es))(hw:cs.take ws.length=cw ws)(hc:ws.length≤c)(hm:ws.length<67108864)(hb:∀ w ∈ ws,w<18446744073709551616)
  {call:Call} {p:ab} (hT:mw call p):∃ g,∀ k:af,tz p call [.slc (nm j) 0 ws.length (.exact c)] (hp l) k=k (.str (ai (dL 18446744073709551616 ws))) (hp (l++g)):=by
 have htl:=nv ws
 cases ht:tl ws with
 | zero =>
  refine⟨[],λk=>?_⟩
  simp only[tz,sB,aI]
  rw[bJ,hT.2 l j es c cs ws _ hj hw hc (by omega),aK,kb ht]
  simp only[aI]
  rw[(lM (by decide) ws).2 ht,List.append_nil]
  rfl
 | succ n =>
  have hlt:dL 18446744073709551616 ws<256^(8*(n+1)):=by
   have h1:=mR (β:=18446744073709551616) (by decide) (ws.take (tl ws)) λw hw=>hb w (List.mem_of_mem_take hw)
   rw[mJ,List.length_take,Nat.min_eq_left htl,ht,ET]at h1
   rw[nL,show 8*(8*(n+1))=64*(n+1) by omega]
   exact h1
  have hpos:dL 18446744073709551616 ws≠0:=λe=>by
   rw[(lM (by decide) ws).1 e]at ht;cases ht
  have hcell:∀ i,i<n+1→∃ x,cs[i]? = some (.int .u64 (.ofNat x))∧x<18446744073709551616∧x=dL 18446744073709551616 ws/18446744073709551616^i%18446744073709551616:=λi hi=>by
   have hil:i<ws.length:=by omega
   have e:=td (β:=18446744073709551616) (by decide) ws hb
   have e2:=bb 18446744073709551616 ws.length (dL 18446744073709551616 ws) i hil
   rw[e]at e2
   exact⟨_,wQ hw e2,Nat.mod_lt _ (by decide),rfl⟩
  generalize hN:dL 18446744073709551616 ws=N at *
  refine⟨[.cells (cb (be (8*(n+1)) N)) 0],λk=>?_⟩
  simp only[tz,sB,aI]
  rw[bJ,hT.2 l j es c cs ws _ hj hw hc (by omega),aK,lR (by omega)]
  simp only[aI]
  rw[aK,MV (by omega),kN (Nat.le_refl _) (by omega) (by omega)]
  rw[aK,ht]
  have hz:List.replicate (8*(n+1)) (AV.int .u8 (.ofNat 0))=cb (ia (8*(n+1)) N 0):=by rw[Dw,cb,List.map_replicate]
  rw[hz]
  refine bM pm call _ _ _ (λi fr h=>i≤n+1∧∃ x4 x6 x7 x9 x10 x11,fr=⟨⟨.slc (nm j) 0 (n+1) (.exact c),.bool false,.int .i64 (.ofNat i),.int .i64 (.ofNat (n+1)),x4,.slc (nm j) 0 (n+1) (.exact c),x6,x7⟩,⟨.slc (nm l.length) 0 (8*(n+1)) (.exact (8*(n+1))),x9,x10,x11,.undef,.undef,.str [],.undef⟩,i8,i8,i8,i8,i8,i8⟩∧h=hp (l++[.cells (cb (ia (8*(n+1)) N (8*i))) 0])) (n+1) _ _ _ ⟨Nat.zero_le _,_,_,_,_,_,_,rfl,rfl⟩ ?_ ?_ (by omega)
  ·rintro i fr h hi ⟨_,x4,x6,x7,x9,x10,x11,rfl,rfl⟩
   obtain⟨x,hx1,hx2,hx3⟩:=hcell i hi
   refine⟨_,_,⟨hi,.bool true,.int .i64 (.ofNat 8),.bool false,.int .i64 (.ofNat i),.int .i64 (.ofNat 7),.int .u64 (.ofNat x),rfl,rfl⟩,λkn=>?_⟩
   simp only[pm,aI]
   rw[dz hi]
   simp only[aI]
   rw[bw hi,aR (show (l++[.cells (cb (ia (8*(n+1)) N (8*i))) 0])[j]? = some (.cells cs es) by rw[List.getElem?_append_left (List.getElem?_eq_some_iff.mp hj).1,hj]) hx1]
   refine BN hi (by omega) hx2 (λs hs=>by rw[hx3];exact yp N i s hs) _ _ _ _ _ _ _ _ _ _ ?_
   simp only[aI]
   rw[bW (by omega)]
   rfl
  ·rintro fr h ⟨_,x4,x6,x7,x9,x10,x11,rfl,rfl⟩ kn
   simp only[pm,aI]
   rw[dC (Nat.le_refl _)]
   simp only[aI]
   rw[FP]
   have hne:cI (be (8*(n+1)) N)≠[]:=λe=>by
    rw[ff hlt]at e
    exact hpos (kv e)
   obtain⟨bz,hz1,hz2⟩:=Et _ hne
   have hzl:lz (be (8*(n+1)) N)<8*(n+1):=by
    have:=(List.getElem?_eq_some_iff.mp hz1).1
    rwa [dT]at this
   refine bM pu call _ _ _ (λi fr h=>∃ x13,fr=⟨⟨.slc (nm j) 0 (n+1) (.exact c),.bool false,.int .i64 (.ofNat (n+1)),.int .i64 (.ofNat (n+1)),.bool false,.slc (nm j) 0 (n+1) (.exact c),x6,x7⟩,⟨.slc (nm l.length) 0 (8*(n+1)) (.exact (8*(n+1))),x9,x10,x11,.int .i64 (.ofNat i),x13,.str [],.undef⟩,i8,i8,i8,i8,i8,i8⟩∧h=hp (l++[.cells (cb (be (8*(n+1)) N)) 0])) (lz (be (8*(n+1)) N)) _ _ _ ⟨_,rfl,rfl⟩ ?_ ?_ (by omega)
   ·rintro i fr h hi ⟨x13,rfl,rfl⟩
    refine⟨_,_,⟨.bool true,rfl,rfl⟩,λkn=>?_⟩
    simp only[pu,aI]
    rw[bw (by omega),aR (aO l _) (v:=.int .u8 (.ofNat 0)) (by rw[cb,List.getElem?_map,Fg _ _ hi];rfl),kb rfl]
    simp only[aI]
    rw[bW (by omega)]
   ·rintro fr h ⟨x13,rfl,rfl⟩ kn
    simp only[pu,aI]
    rw[bw hzl,aR (aO l _) (v:=.int .u8 (.ofNat bz)) (by rw[cb,List.getElem?_map,hz1];rfl),lR hz2]
    simp only[aI]
    rw[Oi (by omega) (by omega) (.inl hzl)]
    have hdrop:(be (8*(n+1)) N).drop (lz (be (8*(n+1)) N))=ai N:=by rw[EW,ff hlt]
    have hoff:(if lz (be (8*(n+1)) N)=0 then 0 else 0+lz (be (8*(n+1)) N))=lz (be (8*(n+1)) N):=by split <;> omega
    rw[hoff]
    have hbl:(ai N).length=8*(n+1)-lz (be (8*(n+1)) N):=by rw[← hdrop,List.length_drop,dT]
    rw[X5 (aO l _) (by rw[qc,dT];omega) (bs:=ai N) (by rw[cb,← List.map_drop,hdrop,List.take_of_length_le (by rw[List.length_map,hbl];exact Nat.le_refl _)];rfl) hbl (cj N)]
end Go.Ai
namespace Go.Ai
variable [Nu]
variable {h:H}{k:af}{kd kd':IntKind}{a b:Nat}
theorem dx(hr:a+b<18446744073709551616):yA (.int .u64 (.ofNat a)) (.int .u64 (.ofNat b)) h k=k (.int .u64 (.ofNat (a+b))) h:=WV hr
theorem gc(hr:a*b<18446744073709551616):yM (.int .u64 (.ofNat a)) (.int .u64 (.ofNat b)) h k=k (.int .u64 (.ofNat (a*b))) h:=TG hr
theorem nZ:sC (.int .u64 (.ofNat a)) (.int kd' (.ofNat 32)) h k=k (.int .u64 (.ofNat (a/4294967296))) h:=dP (by decide)
theorem l9{x y:Nat}(hx:x<4294967296)(hy:y<4294967296):x*y≤18446744065119617025:=Nat.mul_le_mul (by omega:x≤4294967295) (by omega:y≤4294967295)
theorem CR(x y:Nat)(hx:x<18446744073709551616)(hy:y<18446744073709551616)(call:Call)(h:H)(k:af):
  xu call [.int .u64 (.ofNat x),.int .u64 (.ofNat y)] h k=k (.tup [.int .u64 (.ofNat (x*y/18446744073709551616)),.int .u64 (.ofNat (x*y%18446744073709551616))]) h:=by
 have hx0:x%4294967296<4294967296:=Nat.mod_lt _ (by decide)
 have hy0:y%4294967296<4294967296:=Nat.mod_lt _ (by decide)
 have hx1:x/4294967296<4294967296:=by omega
 have hy1:y/4294967296<4294967296:=by omega
 have ex:x=x/4294967296*4294967296+x%4294967296:=by omega
 have ey:y=y/4294967296*4294967296+y%4294967296:=by omega
 simp only[xu,Ag,aI]
 rw[fL hx,nZ,fL hy,nZ]
 generalize x%4294967296=x0 at *
 generalize y%4294967296=y0 at *
 generalize x/4294967296=x1 at *
 generalize y/4294967296=y1 at *
 have p00:=l9 hx0 hy0
 have p10:=l9 hx1 hy0
 have p01:=l9 hx0 hy1
 have p11:=l9 hx1 hy1
 rw[gc (by omega),gc (by omega),nZ,dx (by omega),fL (by omega),nZ,gc (by omega),dx (by omega),gc (by omega),dx (by omega),nZ,dx (by omega),wW]
 have e:x*y=x1*y1*18446744073709551616+(x1*y0+x0*y1)*4294967296+x0*y0:=by
  rw[ex,ey]
  simp only[Nat.add_mul,Nat.mul_add]
  have e1:x1*4294967296*(y1*4294967296)=x1*y1*18446744073709551616:=by
   rw[Nat.mul_mul_mul_comm]
  have e2:x0*(y1*4294967296)=x0*y1*4294967296:=by rw[Nat.mul_assoc]
  have e3:x1*4294967296*y0=x1*y0*4294967296:=by rw[Nat.mul_right_comm]
  omega
 have e2:x*y/18446744073709551616=x1*y1+(x1*y0+x0*y0/4294967296)/4294967296+((x1*y0+x0*y0/4294967296)%4294967296+x0*y1)/4294967296:=by
  rw[e];omega
 rw[e2]
def kD(call:Call)(p:ab):Prop:=∀ (x y:Nat) (h:H) (k:af),x<18446744073709551616→y<18446744073709551616 →
 call p [.int .u64 (.ofNat x),.int .u64 (.ofNat y)] h k=k (.tup [.int .u64 (.ofNat (x*y/18446744073709551616)),.int .u64 (.ofNat (x*y%18446744073709551616))]) h
def fk(call:Call)(p:ab):Prop:=∀ (x y c:Nat) (h:H) (k:af),c≤1 →
 call p [.int .u64 (.ofNat x),.int .u64 (.ofNat y),.int .u64 (.ofNat c)] h k=k (.tup [.int .u64 (.ofNat ((x+y+c)%18446744073709551616)),.int .u64 (.ofNat ((x+y+c)/18446744073709551616))]) h
def mD(call:Call)(p:ab):Prop:=∀ (x y c:Nat) (h:H) (k:af),c≤1 →
 call p [.int .u64 (.ofNat x),.int .u64 (.ofNat y),.int .u64 (.ofNat c)] h k=k (.tup [.int .u64 (.ofNat ((x+18446744073709551616-y-c)%18446744073709551616)),.int .u64 (.ofNat (if x<y+c then 1 else 0))]) h
def k9(call:Call)(p:ab):Prop:=∀ (l:List Obj) (s:List Nat) (k:af),(∀ b ∈ s,b<256)→s.length<1073741824 →
 call p [.str s] (hp l) k=k (.slc (nm l.length) 0 (tl (dr s)) (.exact ((s.length+7)/8))) (hp (l++[.cells (cw (dr s)) 0]))
def kY(call:Call)(p:ab):Prop :=
 (∀ (l:List Obj) (k:af),call p [.nils] (hp l) k=k (.str []) (hp l)) ∧
 ∀ (l:List Obj) (j es c:Nat) (cs:List AV) (ws:List Nat),l[j]? = some (.cells cs es)→cs.take ws.length=cw ws→ws.length≤c→ws.length<67108864→(∀ w ∈ ws,w<18446744073709551616) →
  ∃ g,∀ k:af,call p [.slc (nm j) 0 ws.length (.exact c)] (hp l) k=k (.str (ai (dL 18446744073709551616 ws))) (hp (l++g))
theorem YF{s:List Nat}{i:Nat}(hi:i<(s.length+7)/8):(dr s)[i]? = some (aB s/18446744073709551616^i%18446744073709551616):=bb _ _ _ _ hi
theorem Lz{s:List Nat}(hs:∀ b ∈ s,b<256):dL 18446744073709551616 (dr s)=aB s:=ck (Nat.lt_of_lt_of_le (d7 s hs) (wb _))
theorem sJ(s:List Nat):(dr s).length=(s.length+7)/8:=aq _ _ _
theorem n6(s:List Nat):tl (dr s)≤(s.length+7)/8:=by rw[← sJ];exact nv _
theorem gC{s:List Nat}(hs:∀ b ∈ s,b<256):aB s<18446744073709551616^tl (dr s):=by
 have h:=mR (β:=18446744073709551616) (by decide) ((dr s).take (tl (dr s))) λw hw=>jC (by decide) _ _ w (List.mem_of_mem_take hw)
 rw[mJ,Lz hs,List.length_take,sJ,Nat.min_eq_left (n6 s)]at h
 exact h
theorem GC{l:List Obj}{jx jy m n cx cy X Y:Nat}{mx my:Nat}(hjx:l[jx]? = some (.cells (cw (aF 18446744073709551616 mx X)) 0))(hjy:l[jy]? = some (.cells (cw (aF 18446744073709551616 my Y)) 0))(hm:m≤mx)(hn:n≤my)(hY:Y<18446744073709551616^n)(hmm:m<1073741824)
  {call:Call} {p:ab} (hA:fk call p) {kr:ar→H→aa} {ke:Nat→ar→H→aa} {kn0:ar→H→aa} (x0 x1 x4 x7 x8 x9 x11 x13 x14 x15:AV) (r:aa)
  (hr:∀ y8 y9 y11,ke 0 ⟨⟨x0,x1,.slc (nm jx) 0 m (.exact cx),.slc (nm jy) 0 n (.exact cy),x4,.int .i64 (.ofNat m),.int .i64 (.ofNat m),.bool false⟩,⟨y8,y9,.slc (nm l.length) 0 (m+1) (.exact (m+1)),y11,.int .u64 (.ofNat (np 18446744073709551616 X Y m)),x13,x14,x15⟩,i8,i8,i8,i8,i8,i8⟩ (hp (l++[.cells (cw (bc 18446744073709551616 (m+1) m (X+Y) 0)) 0]))=r) :
  kL (pc p) call kr ke kn0 ⟨⟨x0,x1,.slc (nm jx) 0 m (.exact cx),.slc (nm jy) 0 n (.exact cy),x4,.int .i64 (.ofNat 0),.int .i64 (.ofNat m),x7⟩,⟨x8,x9,.slc (nm l.length) 0 (m+1) (.exact (m+1)),x11,.int .u64 (.ofNat 0),x13,x14,x15⟩,i8,i8,i8,i8,i8,i8⟩ (hp (l++[.cells (cw (List.replicate (m+1) 0)) 0]))=r:=by
 refine bM (pc p) call _ _ _ (λi fr h=>∃ y7 y8 y9 y11,fr=⟨⟨x0,x1,.slc (nm jx) 0 m (.exact cx),.slc (nm jy) 0 n (.exact cy),x4,.int .i64 (.ofNat i),.int .i64 (.ofNat m),y7⟩,⟨y8,y9,.slc (nm l.length) 0 (m+1) (.exact (m+1)),y11,.int .u64 (.ofNat (np 18446744073709551616 X Y i)),x13,x14,x15⟩,i8,i8,i8,i8,i8,i8⟩∧h=hp (l++[.cells (cw (bc 18446744073709551616 (m+1) i (X+Y) 0)) 0])) m _ _ _ ⟨x7,x8,x9,x11,?_,?_⟩ ?_ ?_ hmm
 ·rw[oI]
 ·rw[iF,iP]
 ·rintro i fr h hi ⟨y7,y8,y9,y11,rfl,rfl⟩
  have hx:(aF 18446744073709551616 mx X)[i]? = some (X/18446744073709551616^i%18446744073709551616):=bb _ _ _ _ (by omega)
  have hlx:(l++[Obj.cells (cw (bc 18446744073709551616 (m+1) i (X+Y) 0)) 0])[jx]? = some (.cells (cw (aF 18446744073709551616 mx X)) 0):=by rw[List.getElem?_append_left (List.getElem?_eq_some_iff.mp hjx).1,hjx]
  have hly:(l++[Obj.cells (cw (bc 18446744073709551616 (m+1) i (X+Y) 0)) 0])[jy]? = some (.cells (cw (aF 18446744073709551616 my Y)) 0):=by rw[List.getElem?_append_left (List.getElem?_eq_some_iff.mp hjy).1,hjy]
  obtain⟨d1,d2⟩:=iG (β:=18446744073709551616) (by decide) X Y i
  refine⟨_,_,⟨.bool true,.int .i64 (.ofNat i),.bool (decide (i<n)),.int .u64 (.ofNat (Y/18446744073709551616^i%18446744073709551616)),rfl,rfl⟩,λkn=>?_⟩
  simp only[pc,aI]
  rw[dz hi]
  simp only[aI]
  rw[aK]
  have key:∀ y9,yI 1 (.slc (nm jx) 0 m (.exact cx)) (.int .i64 (.ofNat i)) (hp (l++[.cells (cw (bc 18446744073709551616 (m+1) i (X+Y) 0)) 0])) (λa h=>yL a h λb h=>yK p [b,.int .u64 (.ofNat (Y/18446744073709551616^i%18446744073709551616)),.int .u64 (.ofNat (np 18446744073709551616 X Y i))] call h λd h=>yT 0 d h λe h=>yT 1 d h λg h=>yI 1 (.slc (nm l.length) 0 (m+1) (.exact (m+1))) (.int .i64 (.ofNat i)) h λi' h=>yS 1 i' e h λj h=>yA (.int .i64 (.ofNat i)) (.int .i64 (.ofNat 1)) h λa h=>kn ⟨⟨x0,x1,.slc (nm jx) 0 m (.exact cx),.slc (nm jy) 0 n (.exact cy),x4,a,.int .i64 (.ofNat m),.bool true⟩,⟨.int .i64 (.ofNat i),y9,.slc (nm l.length) 0 (m+1) (.exact (m+1)),.int .u64 (.ofNat (Y/18446744073709551616^i%18446744073709551616)),g,x13,x14,x15⟩,i8,i8,i8,i8,i8,i8⟩ h) =
    kn ⟨⟨x0,x1,.slc (nm jx) 0 m (.exact cx),.slc (nm jy) 0 n (.exact cy),x4,.int .i64 (.ofNat (i+1)),.int .i64 (.ofNat m),.bool true⟩,⟨.int .i64 (.ofNat i),y9,.slc (nm l.length) 0 (m+1) (.exact (m+1)),.int .u64 (.ofNat (Y/18446744073709551616^i%18446744073709551616)),.int .u64 (.ofNat (np 18446744073709551616 X Y (i+1))),x13,x14,x15⟩,i8,i8,i8,i8,i8,i8⟩ (hp (l++[.cells (cw (bc 18446744073709551616 (m+1) (i+1) (X+Y) 0)) 0])):=λy9=>by
   rw[bw hi,aR hlx (v:=.int .u64 (.ofNat (X/18446744073709551616^i%18446744073709551616))) (by rw[cw,List.getElem?_map,hx];rfl),bJ,hA _ _ _ _ _ (ky (by decide) _ _ _),jN,jJ,bw (by omega),dQ (aO l _) (by rw[aS,bh];omega),bW (by omega),fh,cU,d1,d2,cB _ _ _ _ (by omega)]
  by_cases hin:i<n
  ·rw[dz hin,decide_eq_true hin]
   simp only[aI]
   rw[bw hin,aR hly (v:=.int .u64 (.ofNat (Y/18446744073709551616^i%18446744073709551616))) (by rw[cw,List.getElem?_map,bb _ _ _ _ (by omega)];rfl)]
   exact key _
  ·rw[dC (by omega),decide_eq_false hin]
   simp only[aI]
   have hz:Y/18446744073709551616^i%18446744073709551616=0:=dt (Nat.lt_of_lt_of_le hY (Nat.pow_le_pow_right (by decide) (by omega)))
   have:=key (.bool false)
   rw[hz]at this ⊢
   exact this
 ·rintro fr h ⟨y7,y8,y9,y11,rfl,rfl⟩ kn
  simp only[pc,aI]
  rw[dC (Nat.le_refl _)]
  simp only[aI]
  exact hr _ _ _
theorem FG{l:List Obj}{jx jy m n cx cy Y Z:Nat}{mx my:Nat}(hjx:l[jx]? = some (.cells (cw (aF 18446744073709551616 mx (Z+Y))) 0))(hjy:l[jy]? = some (.cells (cw (aF 18446744073709551616 my Y)) 0))(hne:jx≠jy)(hm:m≤mx)(hn:n≤my)(hY:Y<18446744073709551616^n)(hmm:m<1073741824)
  {call:Call} {p:ab} (hS:mD call p) {kr:ar→H→aa} {ke:Nat→ar→H→aa} {kn0:ar→H→aa} (x0 x1 x5 x6 x8 x9 x11 x12 x13 x14 x15:AV) (r:aa)
  (hr:∀ y6 y8 y9 y10,ke 0 ⟨⟨x0,x1,.slc (nm jx) 0 m (.exact cx),.int .i64 (.ofNat m),.int .i64 (.ofNat m),.bool false,y6,.slc (nm jy) 0 n (.exact cy)⟩,⟨y8,y9,y10,x11,x12,x13,x14,x15⟩,i8,i8,i8,i8,i8,i8⟩ (hp (l.set jx (.cells (cw (bc 18446744073709551616 mx m Z (Z+Y))) 0)))=r) :
  kL (oH p) call kr ke kn0 ⟨⟨x0,x1,.slc (nm jx) 0 m (.exact cx),.int .i64 (.ofNat 0),.int .i64 (.ofNat m),x5,x6,.slc (nm jy) 0 n (.exact cy)⟩,⟨x8,x9,.int .u64 (.ofNat 0),x11,x12,x13,x14,x15⟩,i8,i8,i8,i8,i8,i8⟩ (hp l)=r:=by
 have hjl:jx<l.length:=(List.getElem?_eq_some_iff.mp hjx).1
 refine bM (oH p) call _ _ _ (λi fr h=>∃ y5 y6 y8 y9,fr=⟨⟨x0,x1,.slc (nm jx) 0 m (.exact cx),.int .i64 (.ofNat i),.int .i64 (.ofNat m),y5,y6,.slc (nm jy) 0 n (.exact cy)⟩,⟨y8,y9,.int .u64 (.ofNat (np 18446744073709551616 Z Y i)),x11,x12,x13,x14,x15⟩,i8,i8,i8,i8,i8,i8⟩∧h=hp (l.set jx (.cells (cw (bc 18446744073709551616 mx i Z (Z+Y))) 0))) m _ _ _ ⟨x5,x6,x8,x9,?_,?_⟩ ?_ ?_ hmm
 ·rw[oI]
 ·rw[iF,← hjx_set hjx]
 ·rintro i fr h hi ⟨y5,y6,y8,y9,rfl,rfl⟩
  have hlx:(l.set jx (Obj.cells (cw (bc 18446744073709551616 mx i Z (Z+Y))) 0))[jx]? = some (.cells (cw (bc 18446744073709551616 mx i Z (Z+Y))) 0):=by rw[List.getElem?_set,if_pos rfl,if_pos hjl]
  have hly:(l.set jx (Obj.cells (cw (bc 18446744073709551616 mx i Z (Z+Y))) 0))[jy]? = some (.cells (cw (aF 18446744073709551616 my Y)) 0):=by rw[List.getElem?_set,if_neg hne,hjy]
  have hx:(bc 18446744073709551616 mx i Z (Z+Y))[i]? = some ((Z+Y)/18446744073709551616^i%18446744073709551616):=by rw[dO _ _ _ _ _ (by omega),if_neg (by omega)]
  obtain⟨d1,d2⟩:=iG (β:=18446744073709551616) (by decide) Z Y i
  have hc:=ky (β:=18446744073709551616) (by decide) Z Y i
  have hc':=ky (β:=18446744073709551616) (by decide) Z Y (i+1)
  have hz:Z/18446744073709551616^i%18446744073709551616<18446744073709551616:=Nat.mod_lt _ (by decide)
  have hy:Y/18446744073709551616^i%18446744073709551616<18446744073709551616:=Nat.mod_lt _ (by decide)
  obtain⟨s1,s2⟩:=qL hz hy hc
  rw[d1]at s1 s2
  rw[d2]at s2
  have hb:(if (Z+Y)/18446744073709551616^i%18446744073709551616<Y/18446744073709551616^i%18446744073709551616+np 18446744073709551616 Z Y i then 1 else 0)=np 18446744073709551616 Z Y (i+1):=by
   split
   ·rename_i h;exact (s2.1 h).symm
   ·rename_i h
    have:np 18446744073709551616 Z Y (i+1)≠1:=λe=>h (s2.2 e)
    omega
  refine⟨_,_,⟨.bool true,.int .i64 (.ofNat i),.bool (decide (i<n)),.int .u64 (.ofNat (Y/18446744073709551616^i%18446744073709551616)),rfl,rfl⟩,λkn=>?_⟩
  simp only[oH,aI]
  rw[dz hi]
  simp only[aI]
  rw[aK]
  have key:∀ y8,yI 1 (.slc (nm jx) 0 m (.exact cx)) (.int .i64 (.ofNat i)) (hp (l.set jx (.cells (cw (bc 18446744073709551616 mx i Z (Z+Y))) 0))) (λa h=>yL a h λb h=>yK p [b,.int .u64 (.ofNat (Y/18446744073709551616^i%18446744073709551616)),.int .u64 (.ofNat (np 18446744073709551616 Z Y i))] call h λd h=>yT 0 d h λe h=>yT 1 d h λg h=>yI 1 (.slc (nm jx) 0 m (.exact cx)) (.int .i64 (.ofNat i)) h λi' h=>yS 1 i' e h λj h=>yA (.int .i64 (.ofNat i)) (.int .i64 (.ofNat 1)) h λa h=>kn ⟨⟨x0,x1,.slc (nm jx) 0 m (.exact cx),a,.int .i64 (.ofNat m),.bool true,.int .i64 (.ofNat i),.slc (nm jy) 0 n (.exact cy)⟩,⟨y8,.int .u64 (.ofNat (Y/18446744073709551616^i%18446744073709551616)),g,x11,x12,x13,x14,x15⟩,i8,i8,i8,i8,i8,i8⟩ h) =
    kn ⟨⟨x0,x1,.slc (nm jx) 0 m (.exact cx),.int .i64 (.ofNat (i+1)),.int .i64 (.ofNat m),.bool true,.int .i64 (.ofNat i),.slc (nm jy) 0 n (.exact cy)⟩,⟨y8,.int .u64 (.ofNat (Y/18446744073709551616^i%18446744073709551616)),.int .u64 (.ofNat (np 18446744073709551616 Z Y (i+1))),x11,x12,x13,x14,x15⟩,i8,i8,i8,i8,i8,i8⟩ (hp (l.set jx (.cells (cw (bc 18446744073709551616 mx (i+1) Z (Z+Y))) 0))):=λy8=>by
   rw[bw hi,aR hlx (v:=.int .u64 (.ofNat ((Z+Y)/18446744073709551616^i%18446744073709551616))) (by rw[cw,List.getElem?_map,hx];rfl),bJ,hS _ _ _ _ _ hc,jN,jJ,bw hi,dQ hlx (by rw[aS,bh];omega),bW (by omega),List.set_set,cU,s1,hb,cB _ _ _ _ (by omega)]
  by_cases hin:i<n
  ·rw[dz hin,decide_eq_true hin]
   simp only[aI]
   rw[bw hin,aR hly (v:=.int .u64 (.ofNat (Y/18446744073709551616^i%18446744073709551616))) (by rw[cw,List.getElem?_map,bb _ _ _ _ (by omega)];rfl)]
   exact key _
  ·rw[dC (by omega),decide_eq_false hin]
   simp only[aI]
   have hz0:Y/18446744073709551616^i%18446744073709551616=0:=dt (Nat.lt_of_lt_of_le hY (Nat.pow_le_pow_right (by decide) (by omega)))
   have:=key (.bool false)
   rw[hz0]at this ⊢
   exact this
 ·rintro fr h ⟨y5,y6,y8,y9,rfl,rfl⟩ kn
  simp only[oH,aI]
  rw[dC (Nat.le_refl _)]
  simp only[aI]
  exact hr _ _ _ _
where
 hjx_set {l:List Obj} {j:Nat} {b:Obj} (h:l[j]? = some b):l=l.set j b:=by
  apply List.ext_getElem?
  intro i
  rw[List.getElem?_set]
  by_cases e:j=i
  ·subst e;rw[if_pos rfl,if_pos (List.getElem?_eq_some_iff.mp h).1,h]
  ·rw[if_neg e]
end Go.Ai
namespace Go.Ai
variable [Nu]
theorem tQ{α : Type}(l:List α)(a : α)(g:List α):l++a::g=l++[a]++g:=by simp
theorem MX{α : Type}(l:List α)(a b : α)(g:List α):l++a::b::g=l++[a]++[b]++g:=by simp
theorem D9(ws:List Nat):(cw ws).take ws.length=cw ws:=List.take_of_length_le (by rw[aS];exact Nat.le_refl _)
theorem iX(n:Nat):List.replicate n (AV.int .u64 (.ofNat 0))=cw (List.replicate n 0):=by rw[cw,List.map_replicate]
theorem Lx{u:Nat}(hu:u<18446744073709551616)(l:List Obj){call:Call}{p:ab}(hP:kY call p):∃ g,∀ k:af,YI p call [.int .u64 (.ofNat u)] (hp l) k=k (.str (ai u)) (hp (l++g)):=by
 obtain⟨g,hg⟩:=hP.2 (l++[.cells (cw [u]) 0]) l.length 0 1 (cw [u]) [u] (aO l _) rfl (Nat.le_refl _) (show 1<67108864 by decide) (by simpa using hu)
 refine⟨.cells (cw [u]) 0::g,λk=>?_⟩
 simp only[YI,OT,eB]
 rw[wt _ _ rfl,bJ,tQ l _ g]
 have:=hg k
 rw[show dL 18446744073709551616 [u]=u from by simp[dL]]at this
 exact this
theorem vo{L:List Obj}{jx jy m n cx cy mx my X Y:Nat}(hjx:L[jx]? = some (.cells (cw (aF 18446744073709551616 mx X)) 0))(hjy:L[jy]? = some (.cells (cw (aF 18446744073709551616 my Y)) 0))(hm:m≤mx)(hn:n≤my)(hnm:n≤m)(hX:X<18446744073709551616^m)(hY:Y<18446744073709551616^n)(hmm:m<67108863)
  {call:Call} {pA pP:ab} (hA:fk call pA) (hP:kY call pP):∃ g,∀ (x0 x1 x4:AV) (k:af) (ke:Nat→ar→H→aa) (kn:ar→H→aa),
  xx pA pP call (r1 c6 k) ke kn ⟨⟨x0,x1,.slc (nm jx) 0 m (.exact cx),.slc (nm jy) 0 n (.exact cy),x4,.undef,.undef,.undef⟩,⟨.undef,.undef,.undef,.undef,.undef,.str [],.undef,.undef⟩,i8,i8,i8,i8,i8,i8⟩ (hp L)=k (.str (ai (X+Y))) (hp (L++g)):=by
 have hXY:X+Y<18446744073709551616^(m+1):=by
  have h1:18446744073709551616^n≤18446744073709551616^m:=Nat.pow_le_pow_right (by decide) hnm
  rw[Nat.pow_succ]
  omega
 obtain⟨g,hg⟩:=hP.2 (L++[.cells (cw (aF 18446744073709551616 (m+1) (X+Y))) 0]) L.length 0 (m+1) (cw (aF 18446744073709551616 (m+1) (X+Y))) (aF 18446744073709551616 (m+1) (X+Y)) (aO L _) (D9 _) (by rw[aq];exact Nat.le_refl _) (by rw[aq];omega) (jC (by decide) _ _)
 rw[aq,ck hXY]at hg
 refine⟨.cells (cw (aF 18446744073709551616 (m+1) (X+Y))) 0::g,λx0 x1 x4 k ke kn=>?_⟩
 have hcar:np 18446744073709551616 X Y m=(X+Y)/18446744073709551616^m%18446744073709551616:=by
  have h1:=ky (β:=18446744073709551616) (by decide) X Y m
  have h2:Y<18446744073709551616^m:=Nat.lt_of_lt_of_le hY (Nat.pow_le_pow_right (by decide) hnm)
  unfold np at h1 ⊢
  rw[Nat.mod_eq_of_lt hX,Nat.mod_eq_of_lt h2]at h1 ⊢
  exact (Nat.mod_eq_of_lt (by omega)).symm
 simp only[xx,E4,E7,EC,Eq,aI]
 rw[aK,bW (by omega),kN (Nat.le_refl _) (by omega) (by omega),aK,iX]
 refine GC hjx hjy hm hn hY (by omega) hA _ _ _ _ _ _ _ _ _ _ _ λy8 y9 y11=>?_
 simp only[aI]
 rw[aK,bw (by omega),dQ (aO L _) (by rw[aS,bh];omega),fh,cU,hcar,cB _ _ _ _ (by omega),mj,bJ,tQ L _ g]
 exact hg k
theorem Kj{a b:List Nat}(ha:∀ x ∈ a,x<256)(hb:∀ x ∈ b,x<256)(hla:a.length<268435456)(hlb:b.length<268435456)(l:List Obj)
  {call:Call} {pW pA pP:ab} (hW:k9 call pW) (hA:fk call pA) (hP:kY call pP):∃ g,∀ k:af,JK pW pA pP call [.str a,.str b] (hp l) k=k (.str (ai (aB a+aB b))) (hp (l++g)):=by
 have hta:=n6 a
 have htb:=n6 b
 have h1:(l++[Obj.cells (cw (dr a)) 0]++[.cells (cw (dr b)) 0])[l.length]? = some (.cells (cw (aF 18446744073709551616 ((a.length+7)/8) (aB a))) 0):=by rw[List.append_assoc,List.getElem?_append_right (Nat.le_refl _)];simp[dr]
 have h2:(l++[Obj.cells (cw (dr a)) 0]++[.cells (cw (dr b)) 0])[(l++[Obj.cells (cw (dr a)) 0]).length]? = some (.cells (cw (aF 18446744073709551616 ((b.length+7)/8) (aB b))) 0):=by rw[aO];rfl
 by_cases hlt:tl (dr a)<tl (dr b)
 ·obtain⟨g,hg⟩:=vo h2 h1 htb hta (Nat.le_of_lt hlt) (gC hb) (gC ha) (cx:=(b.length+7)/8) (cy:=(a.length+7)/8) (by omega) hA hP
  refine⟨.cells (cw (dr a)) 0 :: .cells (cw (dr b)) 0::g,λk=>?_⟩
  simp only[JK,CJ,xc,w6,aI]
  rw[bJ,hW _ _ _ ha (by omega),bJ,hW _ _ _ hb (by omega),aK,aK,dz hlt]
  simp only[aI]
  have:=hg (.str a) (.str b) (.bool true) k (λ_ _ _=>.bad 25) (r1 c6 k)
  simp only[jA]at this
  rw[MX l _ _ g,Nat.add_comm (aB a)]
  exact this
 ·obtain⟨g,hg⟩:=vo h1 h2 hta htb (by omega) (gC ha) (gC hb) (cx:=(a.length+7)/8) (cy:=(b.length+7)/8) (by omega) hA hP
  refine⟨.cells (cw (dr a)) 0 :: .cells (cw (dr b)) 0::g,λk=>?_⟩
  simp only[JK,CJ,xc,w6,aI]
  rw[bJ,hW _ _ _ ha (by omega),bJ,hW _ _ _ hb (by omega),aK,aK,dC (by omega)]
  simp only[aI]
  have:=hg (.str a) (.str b) (.bool false) k (λ_ _ _=>.bad 25) (r1 c6 k)
  simp only[jA]at this
  rw[MX l _ _ g]
  exact this
theorem Kg{a b:List Nat}(ha:∀ x ∈ a,x<256)(hb:∀ x ∈ b,x<256)(hla:a.length<268435456)(hlb:b.length<268435456)(hle:aB b≤aB a)(l:List Obj)
  {call:Call} {pW pS pP:ab} (hW:k9 call pW) (hS:mD call pS) (hP:kY call pP):∃ g,∀ k:af,M4 pW pS pP call [.str a,.str b] (hp l) k=k (.str (ai (aB a-aB b))) (hp (l++g)):=by
 have hta:=n6 a
 have htb:=n6 b
 have h1:(l++[Obj.cells (cw (dr a)) 0]++[.cells (cw (dr b)) 0])[l.length]? = some (.cells (cw (dr a)) 0):=by rw[List.append_assoc,List.getElem?_append_right (Nat.le_refl _)];simp
 have h2:(l++[Obj.cells (cw (dr a)) 0]++[.cells (cw (dr b)) 0])[(l++[Obj.cells (cw (dr a)) 0]).length]? = some (.cells (cw (aF 18446744073709551616 ((b.length+7)/8) (aB b))) 0):=by rw[aO];rfl
 obtain⟨Z,hZ⟩ : ∃ Z,aB a=Z+aB b:=⟨aB a-aB b,by omega⟩
 have hZt:Z<18446744073709551616^tl (dr a):=by have:=gC ha;omega
 have hwa:dr a=aF 18446744073709551616 ((a.length+7)/8) (Z+aB b):=by rw[← hZ];rfl
 have aX:(l++[Obj.cells (cw (dr a)) 0]++[Obj.cells (cw (dr b)) 0]).set l.length (Obj.cells (cw (bc 18446744073709551616 ((a.length+7)/8) (tl (dr a)) Z (Z+aB b))) 0)=l++[Obj.cells (cw (bc 18446744073709551616 ((a.length+7)/8) (tl (dr a)) Z (Z+aB b))) 0]++[Obj.cells (cw (dr b)) 0]:=by
  rw[List.append_assoc,List.append_assoc,List.set_append_right _ _ (Nat.le_refl _)]
  simp
 have hwl:((cw (bc 18446744073709551616 ((a.length+7)/8) (tl (dr a)) Z (Z+aB b))).take (tl (dr a)))=cw (aF 18446744073709551616 (tl (dr a)) Z):=by
  unfold cw
  rw[← List.map_take]
  congr 1
  apply List.ext_getElem?
  intro i
  rw[List.getElem?_take]
  by_cases hi:i<tl (dr a)
  ·rw[if_pos hi,dO _ _ _ _ _ (by omega),if_pos hi,bb _ _ _ _ hi]
  ·rw[if_neg hi,List.getElem?_eq_none (by rw[aq];omega)]
 obtain⟨g,hg⟩:=hP.2 (l++[.cells (cw (bc 18446744073709551616 ((a.length+7)/8) (tl (dr a)) Z (Z+aB b))) 0]++[.cells (cw (dr b)) 0]) l.length 0 ((a.length+7)/8) (cw (bc 18446744073709551616 ((a.length+7)/8) (tl (dr a)) Z (Z+aB b))) (aF 18446744073709551616 (tl (dr a)) Z)
  (by rw[List.append_assoc,List.getElem?_append_right (Nat.le_refl _)];simp) (by rw[aq];exact hwl) (by rw[aq];exact hta) (by rw[aq];omega) (jC (by decide) _ _)
 rw[aq,ck hZt]at hg
 refine⟨.cells (cw (bc 18446744073709551616 ((a.length+7)/8) (tl (dr a)) Z (Z+aB b))) 0 :: .cells (cw (dr b)) 0::g,λk=>?_⟩
 simp only[M4,Ja,aI]
 rw[bJ,hW _ _ _ ha (by omega),bJ,hW _ _ _ hb (by omega),aK]
 have h1':(l++[Obj.cells (cw (dr a)) 0]++[Obj.cells (cw (dr b)) 0])[l.length]? = some (.cells (cw (aF 18446744073709551616 ((a.length+7)/8) (Z+aB b))) 0):=by rw[h1,hwa]
 refine FG (my:=(b.length+7)/8) h1' h2 (by simp) hta htb (gC hb) (by omega) hS _ _ _ _ _ _ _ _ _ _ _ _ λy6 y8 y9 y10=>?_
 simp only[aI]
 rw[aX,bJ,MX l _ _ g,show aB a-aB b=Z by omega]
 exact hg k
end Go.Ai
namespace Go.Ai
variable [Nu]
theorem I0{P o c:Nat}(hP:P≤340282366920938463426481119284349108225)(ho:o<18446744073709551616)(hc:c<18446744073709551616):
  ((P%18446744073709551616+o+0)%18446744073709551616+c+0)%18446744073709551616=(P+o+c)%18446744073709551616 ∧
  P/18446744073709551616+(P%18446744073709551616+o+0)/18446744073709551616<18446744073709551616 ∧
  P/18446744073709551616+(P%18446744073709551616+o+0)/18446744073709551616+((P%18446744073709551616+o+0)%18446744073709551616+c+0)/18446744073709551616=(P+o+c)/18446744073709551616 ∧
  (P+o+c)/18446744073709551616<18446744073709551616:=by omega
theorem Dk{x y:Nat}(hx:x<18446744073709551616)(hy:y<18446744073709551616):x*y≤340282366920938463426481119284349108225:=Nat.mul_le_mul (by omega:x≤18446744073709551615) (by omega:y≤18446744073709551615)
noncomputable def FZ(g0 g1 g2 g3 g5 g7 g9 x out i:AV)(g6 g8 g11 g12 g15 g16 g17 g18:AV):ar :=
 ⟨⟨g0,g1,g2,g3,.bool true,g5,g6,g7⟩,⟨g8,g9,x,g11,g12,out,i,g15⟩,⟨g16,g17,g18,.nils,.undef,.undef,.undef,.undef⟩,i8,i8,i8,i8,i8⟩
theorem Hl{L:List Obj}{jb m n i cb mb A C:Nat}(hjb:L[jb]? = some (.cells (cw (aF 18446744073709551616 mb C)) 0))(hn:n≤mb)(hi:i<m)(hmn:m+n<67108864)
  {call:Call} {pM pA:ab} (hM:kD call pM) (hA:fk call pA) (g0 g1 g2 g3 g5 g8 g11 g12 g15 g16 g17:AV) :
  ∃ fr' h',(∃ g8 g11 g12 g15 g16 g17,fr'=FZ g0 g1 g2 g3 g5 (.int .i64 (.ofNat n)) (.slc (nm jb) 0 n (.exact cb)) (.int .u64 (.ofNat (A/18446744073709551616^i%18446744073709551616))) (.slc (nm L.length) 0 (m+n) (.exact (m+n))) (.int .i64 (.ofNat i)) (.int .i64 (.ofNat n)) g8 g11 g12 g15 g16 g17 (.int .u64 (.ofNat (iO 18446744073709551616 A C i n)))∧h'=hp (L++[.cells (cw (bc 18446744073709551616 (m+n) (i+n) (d8 18446744073709551616 A C i n) (A%18446744073709551616^i*C))) 0])) ∧
  ∀ (kr:ar→H→aa) (ke:Nat→ar→H→aa) (kn0:ar→H→aa),kL (lZ pM pA) call kr ke kn0 (FZ g0 g1 g2 g3 g5 (.int .i64 (.ofNat n)) (.slc (nm jb) 0 n (.exact cb)) (.int .u64 (.ofNat (A/18446744073709551616^i%18446744073709551616))) (.slc (nm L.length) 0 (m+n) (.exact (m+n))) (.int .i64 (.ofNat i)) (.int .i64 (.ofNat 0)) g8 g11 g12 g15 g16 g17 (.int .u64 (.ofNat 0))) (hp (L++[.cells (cw (aF 18446744073709551616 (m+n) (A%18446744073709551616^i*C))) 0]))=ke 2 fr' h':=by
 refine dl (lZ pM pA) call (λj fr h=>∃ g8 g11 g12 g15 g16 g17,fr=FZ g0 g1 g2 g3 g5 (.int .i64 (.ofNat n)) (.slc (nm jb) 0 n (.exact cb)) (.int .u64 (.ofNat (A/18446744073709551616^i%18446744073709551616))) (.slc (nm L.length) 0 (m+n) (.exact (m+n))) (.int .i64 (.ofNat i)) (.int .i64 (.ofNat j)) g8 g11 g12 g15 g16 g17 (.int .u64 (.ofNat (iO 18446744073709551616 A C i j)))∧h=hp (L++[.cells (cw (bc 18446744073709551616 (m+n) (i+j) (d8 18446744073709551616 A C i j) (A%18446744073709551616^i*C))) 0])) n 2 _ _ _ ⟨g8,g11,g12,g15,g16,g17,?_,?_⟩ ?_ ?_ (by omega)
 ·unfold iO;rw[jY,Nat.sub_self]
 ·rw[jY,show aF 18446744073709551616 (m+n) (A%18446744073709551616^i*C)=bc 18446744073709551616 (m+n) (i+0) (A%18446744073709551616^i*C) (A%18446744073709551616^i*C) by rw[← iF (m+n) (A%18446744073709551616^i*C)];exact iy λp _=>by split <;> split <;> rfl]
 ·rintro j fr h hj ⟨g8,g11,g12,g15,g16,g17,rfl,rfl⟩
  have hlb:(L++[Obj.cells (cw (bc 18446744073709551616 (m+n) (i+j) (d8 18446744073709551616 A C i j) (A%18446744073709551616^i*C))) 0])[jb]? = some (.cells (cw (aF 18446744073709551616 mb C)) 0):=by rw[List.getElem?_append_left (List.getElem?_eq_some_iff.mp hjb).1,hjb]
  have ho:(bc 18446744073709551616 (m+n) (i+j) (d8 18446744073709551616 A C i j) (A%18446744073709551616^i*C))[i+j]? = some (A%18446744073709551616^i*C/18446744073709551616^(i+j)%18446744073709551616):=by rw[dO _ _ _ _ _ (by omega),if_neg (by omega)]
  obtain⟨d1,d2⟩:=p8 (β:=18446744073709551616) (by decide) A C i j
  have hx:A/18446744073709551616^i%18446744073709551616<18446744073709551616:=Nat.mod_lt _ (by decide)
  have hy:C/18446744073709551616^j%18446744073709551616<18446744073709551616:=Nat.mod_lt _ (by decide)
  have hoo:A%18446744073709551616^i*C/18446744073709551616^(i+j)%18446744073709551616<18446744073709551616:=Nat.mod_lt _ (by decide)
  have hcc:=sd (β:=18446744073709551616) (by decide) A C i j
  obtain⟨s1,s2,s3,s4⟩:=I0 (Dk hx hy) hoo hcc
  rw[d1]at s1
  rw[d2]at s3
  have hlt:(A/18446744073709551616^i%18446744073709551616*(C/18446744073709551616^j%18446744073709551616)%18446744073709551616+A%18446744073709551616^i*C/18446744073709551616^(i+j)%18446744073709551616+0)/18446744073709551616≤1:=by omega
  have aX:(bc 18446744073709551616 (m+n) (i+j) (d8 18446744073709551616 A C i j) (A%18446744073709551616^i*C)).set (i+j) (d8 18446744073709551616 A C i (j+1)/18446744073709551616^(i+j)%18446744073709551616)=bc 18446744073709551616 (m+n) (i+(j+1)) (d8 18446744073709551616 A C i (j+1)) (A%18446744073709551616^i*C):=by
   rw[← Nat.add_assoc,← cB _ _ _ _ (by omega:i+j<m+n)]
   congr 1
   refine iy λp _=>?_
   split
   ·rename_i hp
    rw[qX,i3 _ _ _ _ hp (by decide)]
   ·rfl
  refine⟨_,_,⟨.bool true,.int .u64 (.ofNat (C/18446744073709551616^j%18446744073709551616)),.int .u64 (.ofNat (d8 18446744073709551616 A C i (j+1)/18446744073709551616^(i+j)%18446744073709551616)),.int .i64 (.ofNat j),.int .u64 (.ofNat (A/18446744073709551616^i%18446744073709551616*(C/18446744073709551616^j%18446744073709551616)/18446744073709551616+(A/18446744073709551616^i%18446744073709551616*(C/18446744073709551616^j%18446744073709551616)%18446744073709551616+A%18446744073709551616^i*C/18446744073709551616^(i+j)%18446744073709551616+0)/18446744073709551616)),
   .int .u64 (.ofNat (((A/18446744073709551616^i%18446744073709551616*(C/18446744073709551616^j%18446744073709551616)%18446744073709551616+A%18446744073709551616^i*C/18446744073709551616^(i+j)%18446744073709551616+0)%18446744073709551616+iO 18446744073709551616 A C i j+0)/18446744073709551616)),rfl,rfl⟩,λkr ke kn=>?_⟩
  simp only[lZ,FZ,aI]
  rw[dz hj]
  simp only[aI]
  rw[bw hj,aR hlb (v:=.int .u64 (.ofNat (C/18446744073709551616^j%18446744073709551616))) (by rw[cw,List.getElem?_map,bb _ _ _ _ (by omega)];rfl),bJ,hM _ _ _ _ hx hy,jN,jJ,bW (by omega),bw (by omega),aR (aO L _) (v:=.int .u64 (.ofNat (A%18446744073709551616^i*C/18446744073709551616^(i+j)%18446744073709551616))) (by rw[cw,List.getElem?_map,ho];rfl),bJ,hA _ _ _ _ _ (by decide),jN,jJ,dx s2,bJ,hA _ _ _ _ _ (by decide),jN,jJ,bW (by omega),dx (by rw[s3,← d2];exact s4),bw (by omega),s1,dQ (aO L _) (by rw[aS,bh];omega),bW (by omega),fh,cU,s3,aX]
 ·rintro fr h ⟨g8,g11,g12,g15,g16,g17,rfl,rfl⟩
  refine⟨_,_,⟨.bool false,g11,g12,g15,g16,g17,rfl,rfl⟩,λkr ke kn=>?_⟩
  simp only[lZ,FZ,aI]
  rw[dC (Nat.le_refl _)]
  simp only[aI]
def Ie(call:Call)(p:ab):Prop:=∀ (L:List Obj) (ja jb m n ca cb ma mb A C:Nat) (k:af),L[ja]? = some (.cells (cw (aF 18446744073709551616 ma A)) 0)→L[jb]? = some (.cells (cw (aF 18446744073709551616 mb C)) 0)→m≤ma→n≤mb →
 A<18446744073709551616^m→C<18446744073709551616^n→m+n<67108864 →
 call p [.slc (nm ja) 0 m (.exact ca),.slc (nm jb) 0 n (.exact cb)] (hp L) k=k (.slc (nm L.length) 0 (tl (aF 18446744073709551616 (m+n) (A*C))) (.exact (m+n))) (hp (L++[.cells (cw (aF 18446744073709551616 (m+n) (A*C))) 0]))
theorem Fy{call:Call}{pM pA pT:ab}(hM:kD call pM)(hA:fk call pA)(hT:mw call pT)(L:List Obj)(ja jb m n ca cb ma mb A C:Nat)(k:af)(hja:L[ja]? = some (.cells (cw (aF 18446744073709551616 ma A)) 0))(hjb:L[jb]? = some (.cells (cw (aF 18446744073709551616 mb C)) 0))(hm:m≤ma)(hn:n≤mb)
  (hAm:A<18446744073709551616^m) (hCn:C<18446744073709551616^n) (hmn:m+n<67108864) :
  DU pM pA pT call [.slc (nm ja) 0 m (.exact ca),.slc (nm jb) 0 n (.exact cb)] (hp L) k=k (.slc (nm L.length) 0 (tl (aF 18446744073709551616 (m+n) (A*C))) (.exact (m+n))) (hp (L++[.cells (cw (aF 18446744073709551616 (m+n) (A*C))) 0])):=by
 simp only[DU,EK,aI]
 rw[aK,aK,bW (by omega),kN (Nat.le_refl _) (by omega) (by omega),aK,iX,← iP (β:=18446744073709551616)]
 refine bM (ox pM pA) call _ _ _ (λi fr h=>∃ g4 g6 g7 g8 g9 g10 g11 g12 g14 g15 g16 g17 g18,fr=⟨⟨.slc (nm ja) 0 m (.exact ca),.slc (nm jb) 0 n (.exact cb),.int .i64 (.ofNat i),.int .i64 (.ofNat m),g4,.slc (nm ja) 0 m (.exact ca),g6,g7⟩,⟨g8,g9,g10,g11,g12,.slc (nm L.length) 0 (m+n) (.exact (m+n)),g14,g15⟩,⟨g16,g17,g18,.nils,.undef,.undef,.undef,.undef⟩,i8,i8,i8,i8,i8⟩∧h=hp (L++[.cells (cw (aF 18446744073709551616 (m+n) (A%18446744073709551616^i*C))) 0])) m _ _ _ ⟨.undef,.undef,.undef,.undef,.undef,.undef,.undef,.undef,.undef,.undef,.undef,.undef,.undef,rfl,?_⟩ ?_ ?_ (by omega)
 ·rw[Nat.pow_zero,Nat.mod_one,Nat.zero_mul]
 ·rintro i fr h hi ⟨g4,g6,g7,g8,g9,g10,g11,g12,g14,g15,g16,g17,g18,rfl,rfl⟩
  have hla:(L++[Obj.cells (cw (aF 18446744073709551616 (m+n) (A%18446744073709551616^i*C))) 0])[ja]? = some (.cells (cw (aF 18446744073709551616 ma A)) 0):=by rw[List.getElem?_append_left (List.getElem?_eq_some_iff.mp hja).1,hja]
  obtain⟨fr',h',⟨y8,y11,y12,y15,y16,y17,rfl,rfl⟩,hrow⟩:=Hl (i:=i) (cb:=cb) (A:=A) hjb hn hi hmn hM hA (.slc (nm ja) 0 m (.exact ca)) (.slc (nm jb) 0 n (.exact cb)) (.int .i64 (.ofNat i)) (.int .i64 (.ofNat m)) (.slc (nm ja) 0 m (.exact ca)) g8 g11 g12 g15 g16 g17
  simp only[FZ,jA]at hrow
  have hend:(bc 18446744073709551616 (m+n) (i+n) (d8 18446744073709551616 A C i n) (A%18446744073709551616^i*C)).set (i+n) (iO 18446744073709551616 A C i n)=aF 18446744073709551616 (m+n) (A%18446744073709551616^(i+1)*C):=by
   rw[zM (by decide) hCn,tJ hCn,cB _ _ _ _ (by omega),← mj (m+n) (A%18446744073709551616^(i+1)*C) 0]
   refine iy λp hp=>?_
   rw[if_pos hp]
   split
   ·rfl
   ·rename_i h1
    have small:∀ j,A%18446744073709551616^j*C<18446744073709551616^(j+n):=λj=>by
     rw[Nat.pow_add]
     rcases Nat.eq_zero_or_pos C with h0|h0
     ·rw[h0,Nat.mul_zero];exact Nat.mul_pos (Nat.pow_pos (by decide)) (Nat.pow_pos (by decide))
     ·exact Nat.lt_of_lt_of_le (Nat.mul_lt_mul_of_pos_right (Nat.mod_lt _ (Nat.pow_pos (by decide))) h0) (Nat.mul_le_mul_left _ (Nat.le_of_lt hCn))
    rw[dt (Nat.lt_of_lt_of_le (small i) (Nat.pow_le_pow_right (by decide) (by omega))),dt (Nat.lt_of_lt_of_le (small (i+1)) (Nat.pow_le_pow_right (by decide) (by omega)))]
  refine⟨_,_,⟨.bool true,.int .i64 (.ofNat n),.int .i64 (.ofNat n),y8,.slc (nm jb) 0 n (.exact cb),.int .u64 (.ofNat (A/18446744073709551616^i%18446744073709551616)),y11,y12,.int .i64 (.ofNat i),y15,y16,y17,.int .u64 (.ofNat (iO 18446744073709551616 A C i n)),rfl,rfl⟩,λkn=>?_⟩
  simp only[ox,aI]
  rw[dz hi]
  simp only[aI]
  rw[bw hi,aR hla (v:=.int .u64 (.ofNat (A/18446744073709551616^i%18446744073709551616))) (by rw[cw,List.getElem?_map,bb _ _ _ _ (by omega)];rfl),aK,hrow]
  simp only[aI]
  rw[aK,bW (by omega),bw (by omega),dQ (aO L _) (by rw[aS,bh];omega),bW (by omega),fh,cU,hend]
 ·rintro fr h ⟨g4,g6,g7,g8,g9,g10,g11,g12,g14,g15,g16,g17,g18,rfl,rfl⟩ kn
  simp only[ox,aI]
  rw[dC (Nat.le_refl _)]
  simp only[aI]
  rw[bJ,Nat.mod_eq_of_lt hAm]
  have:=hT.2 (L++[.cells (cw (aF 18446744073709551616 (m+n) (A*C))) 0]) L.length 0 (m+n) (cw (aF 18446744073709551616 (m+n) (A*C))) (aF 18446744073709551616 (m+n) (A*C)) k (aO L _) (D9 _) (by rw[aq];exact Nat.le_refl _) (by rw[aq];omega)
  rw[aq]at this
  exact this
theorem IW{a b:List Nat}(ha:∀ x ∈ a,x<256)(hb:∀ x ∈ b,x<256)(hla:a.length<134217728)(hlb:b.length<134217728)(l:List Obj)
  {call:Call} {pW pM pP:ab} (hW:k9 call pW) (hM:Ie call pM) (hP:kY call pP):∃ g,∀ k:af,NG pW pM pP call [.str a,.str b] (hp l) k=k (.str (ai (aB a*aB b))) (hp (l++g)):=by
 have hta:=n6 a
 have htb:=n6 b
 have h1:(l++[Obj.cells (cw (dr a)) 0]++[Obj.cells (cw (dr b)) 0])[l.length]? = some (.cells (cw (aF 18446744073709551616 ((a.length+7)/8) (aB a))) 0):=by rw[List.append_assoc,List.getElem?_append_right (Nat.le_refl _)];simp[dr]
 have h2:(l++[Obj.cells (cw (dr a)) 0]++[Obj.cells (cw (dr b)) 0])[(l++[Obj.cells (cw (dr a)) 0]).length]? = some (.cells (cw (aF 18446744073709551616 ((b.length+7)/8) (aB b))) 0):=by rw[aO];rfl
 have hlt:aB a*aB b<18446744073709551616^(tl (dr a)+tl (dr b)):=by
  rw[Nat.pow_add]
  rcases Nat.eq_zero_or_pos (aB b)with h0|h0
  ·rw[h0,Nat.mul_zero];exact Nat.mul_pos (Nat.pow_pos (by decide)) (Nat.pow_pos (by decide))
  ·exact Nat.lt_of_lt_of_le (Nat.mul_lt_mul_of_pos_right (gC ha) h0) (Nat.mul_le_mul_left _ (Nat.le_of_lt (gC hb)))
 have htd:=nv (aF 18446744073709551616 (tl (dr a)+tl (dr b)) (aB a*aB b))
 rw[aq]at htd
 have hlen:((aF 18446744073709551616 (tl (dr a)+tl (dr b)) (aB a*aB b)).take (tl (aF 18446744073709551616 (tl (dr a)+tl (dr b)) (aB a*aB b)))).length=tl (aF 18446744073709551616 (tl (dr a)+tl (dr b)) (aB a*aB b)):=by rw[List.length_take,aq];omega
 obtain⟨g,hg⟩:=hP.2 (l++[Obj.cells (cw (dr a)) 0]++[Obj.cells (cw (dr b)) 0]++[.cells (cw (aF 18446744073709551616 (tl (dr a)+tl (dr b)) (aB a*aB b))) 0]) (l++[Obj.cells (cw (dr a)) 0]++[Obj.cells (cw (dr b)) 0]).length 0 (tl (dr a)+tl (dr b)) _ ((aF 18446744073709551616 (tl (dr a)+tl (dr b)) (aB a*aB b)).take (tl (aF 18446744073709551616 (tl (dr a)+tl (dr b)) (aB a*aB b)))) (aO _ _)
  (by rw[hlen];simp[cw,List.map_take]) (by omega) (by omega) (λw hw=>jC (by decide) _ _ w (List.mem_of_mem_take hw))
 rw[hlen,mJ,ck hlt]at hg
 refine⟨.cells (cw (dr a)) 0 :: .cells (cw (dr b)) 0 :: .cells (cw (aF 18446744073709551616 (tl (dr a)+tl (dr b)) (aB a*aB b))) 0::g,λk=>?_⟩
 simp only[NG,KT,eB]
 rw[bJ,hW _ _ _ ha (by omega),bJ,hW _ _ _ hb (by omega),bJ,hM _ _ _ _ _ _ _ _ _ _ _ _ h1 h2 hta htb (gC ha) (gC hb) (by omega),bJ]
 have:=hg k
 rw[MX l _ _ _,tQ (l++[Obj.cells (cw (dr a)) 0]++[Obj.cells (cw (dr b)) 0]) _ g]
 exact this
end Go.Ai
namespace Go.Ai
variable [Nu]
theorem Gh:((List.range 256).all λi=>match ue[i]? with | some t=>decide (t≤8)&&(decide (i<2^t)&&(i == 0||decide (2^t≤2*i))) | none=>false)=true:=by decide +kernel
theorem B7{y:Nat}(hy:y<256):∃ t,ue[y]? = some t∧t≤8∧y<2^t∧(y≠0→2^t≤2*y):=by
 have h:=List.all_eq_true.1 Gh y (List.mem_range.2 hy)
 cases ht:ue[y]? with
 | none=>rw[ht]at h;cases h
 | some t =>
  rw[ht]at h
  simp only[Bool.and_eq_true,Bool.or_eq_true,decide_eq_true_eq,beq_iff_eq]at h
  exact⟨t,rfl,h.1,h.2.1,λh0=>h.2.2.resolve_left h0⟩
theorem gG{x y n0:Nat}(hy:y<256)(e:y=x/2^n0)(h0:n0≤56)(hne:x≠0→y≠0):∃ t,ue[y]? = some t∧t<256∧t≤8∧x<2^(n0+t)∧(x≠0→2^(n0+t)≤2*x):=by
 obtain⟨t,h1,h2,h3,h4⟩:=B7 hy
 refine⟨t,h1,by omega,h2,?_,λhx=>?_⟩
 ·rw[e,Nat.div_lt_iff_lt_mul (Nat.two_pow_pos _)]at h3
  rw[Nat.pow_add,Nat.mul_comm];exact h3
 ·have h5:=h4 (hne hx)
  rw[e]at h5
  rw[Nat.pow_add]
  have h6:2^n0*2^t≤2^n0*(2*(x/2^n0)):=Nat.mul_le_mul_left _ h5
  have h7:2^n0*(x/2^n0)≤x:=Nat.mul_div_le _ _
  have h8:2^n0*(2*(x/2^n0))=2*(2^n0*(x/2^n0)):=Nat.mul_left_comm _ _ _
  omega
theorem Db{x:Nat}(hx:x<18446744073709551616):∃ n,n≤64∧x<2^n∧(x≠0→2^n≤2*x)∧∀ (call:Call) (h:H) (k:af),iK call [.int .u64 (.ofNat x)] h k=k (.int .i64 (.ofNat n)) h:=by
 by_cases c0:4294967296≤x
 ·
  by_cases c1:65536≤x/2^32
  ·
   by_cases c2:256≤x/2^32/2^16
   ·
    obtain⟨t,h1,h2,h3,h4,h5⟩:=gG (x:=x) (y:=x/2^32/2^16/2^8) (n0:=56) (by omega) (by simp only[Nat.div_div_eq_div_mul,← Nat.pow_add,Nat.pow_zero,Nat.div_one]) (by decide) (by omega)
    refine⟨56+t,by omega,h4,h5,λcall h k=>?_⟩
    simp only[iK,fV,eB]
    rw[cL (by omega)]
    simp only[eB]
    rw[dP (by decide)]
    rw[cL (by omega)]
    simp only[eB]
    rw[dP (by decide),bW (by omega)]
    rw[cL (by omega)]
    simp only[eB]
    rw[dP (by decide),bW (by omega)]
    rw[lm,Nat.mod_eq_of_lt (by omega),nD h1 h2,rg (by omega),bW (by omega)]
   ·
    obtain⟨t,h1,h2,h3,h4,h5⟩:=gG (x:=x) (y:=x/2^32/2^16) (n0:=48) (by omega) (by simp only[Nat.div_div_eq_div_mul,← Nat.pow_add,Nat.pow_zero,Nat.div_one]) (by decide) (by omega)
    refine⟨48+t,by omega,h4,h5,λcall h k=>?_⟩
    simp only[iK,fV,eB]
    rw[cL (by omega)]
    simp only[eB]
    rw[dP (by decide)]
    rw[cL (by omega)]
    simp only[eB]
    rw[dP (by decide),bW (by omega)]
    rw[ef (by omega)]
    simp only[eB]
    rw[lm,Nat.mod_eq_of_lt (by omega),nD h1 h2,rg (by omega),bW (by omega)]
  ·
   by_cases c2:256≤x/2^32
   ·
    obtain⟨t,h1,h2,h3,h4,h5⟩:=gG (x:=x) (y:=x/2^32/2^8) (n0:=40) (by omega) (by simp only[Nat.div_div_eq_div_mul,← Nat.pow_add,Nat.pow_zero,Nat.div_one]) (by decide) (by omega)
    refine⟨40+t,by omega,h4,h5,λcall h k=>?_⟩
    simp only[iK,fV,eB]
    rw[cL (by omega)]
    simp only[eB]
    rw[dP (by decide)]
    rw[ef (by omega)]
    simp only[eB]
    rw[cL (by omega)]
    simp only[eB]
    rw[dP (by decide),bW (by omega)]
    rw[lm,Nat.mod_eq_of_lt (by omega),nD h1 h2,rg (by omega),bW (by omega)]
   ·
    obtain⟨t,h1,h2,h3,h4,h5⟩:=gG (x:=x) (y:=x/2^32) (n0:=32) (by omega) (by simp only[Nat.div_div_eq_div_mul,← Nat.pow_add,Nat.pow_zero,Nat.div_one]) (by decide) (by omega)
    refine⟨32+t,by omega,h4,h5,λcall h k=>?_⟩
    simp only[iK,fV,eB]
    rw[cL (by omega)]
    simp only[eB]
    rw[dP (by decide)]
    rw[ef (by omega)]
    simp only[eB]
    rw[ef (by omega)]
    simp only[eB]
    rw[lm,Nat.mod_eq_of_lt (by omega),nD h1 h2,rg (by omega),bW (by omega)]
 ·
  by_cases c1:65536≤x
  ·
   by_cases c2:256≤x/2^16
   ·
    obtain⟨t,h1,h2,h3,h4,h5⟩:=gG (x:=x) (y:=x/2^16/2^8) (n0:=24) (by omega) (by simp only[Nat.div_div_eq_div_mul,← Nat.pow_add,Nat.pow_zero,Nat.div_one]) (by decide) (by omega)
    refine⟨24+t,by omega,h4,h5,λcall h k=>?_⟩
    simp only[iK,fV,eB]
    rw[ef (by omega)]
    simp only[eB]
    rw[cL (by omega)]
    simp only[eB]
    rw[dP (by decide),bW (by omega)]
    rw[cL (by omega)]
    simp only[eB]
    rw[dP (by decide),bW (by omega)]
    rw[lm,Nat.mod_eq_of_lt (by omega),nD h1 h2,rg (by omega),bW (by omega)]
   ·
    obtain⟨t,h1,h2,h3,h4,h5⟩:=gG (x:=x) (y:=x/2^16) (n0:=16) (by omega) (by simp only[Nat.div_div_eq_div_mul,← Nat.pow_add,Nat.pow_zero,Nat.div_one]) (by decide) (by omega)
    refine⟨16+t,by omega,h4,h5,λcall h k=>?_⟩
    simp only[iK,fV,eB]
    rw[ef (by omega)]
    simp only[eB]
    rw[cL (by omega)]
    simp only[eB]
    rw[dP (by decide),bW (by omega)]
    rw[ef (by omega)]
    simp only[eB]
    rw[lm,Nat.mod_eq_of_lt (by omega),nD h1 h2,rg (by omega),bW (by omega)]
  ·
   by_cases c2:256≤x
   ·
    obtain⟨t,h1,h2,h3,h4,h5⟩:=gG (x:=x) (y:=x/2^8) (n0:=8) (by omega) (by simp only[Nat.div_div_eq_div_mul,← Nat.pow_add,Nat.pow_zero,Nat.div_one]) (by decide) (by omega)
    refine⟨8+t,by omega,h4,h5,λcall h k=>?_⟩
    simp only[iK,fV,eB]
    rw[ef (by omega)]
    simp only[eB]
    rw[ef (by omega)]
    simp only[eB]
    rw[cL (by omega)]
    simp only[eB]
    rw[dP (by decide),bW (by omega)]
    rw[lm,Nat.mod_eq_of_lt (by omega),nD h1 h2,rg (by omega),bW (by omega)]
   ·
    obtain⟨t,h1,h2,h3,h4,h5⟩:=gG (x:=x) (y:=x) (n0:=0) (by omega) (by simp only[Nat.div_div_eq_div_mul,← Nat.pow_add,Nat.pow_zero,Nat.div_one]) (by decide) (by omega)
    refine⟨0+t,by omega,h4,h5,λcall h k=>?_⟩
    simp only[iK,fV,eB]
    rw[ef (by omega)]
    simp only[eB]
    rw[ef (by omega)]
    simp only[eB]
    rw[ef (by omega)]
    simp only[eB]
    rw[lm,Nat.mod_eq_of_lt (by omega),nD h1 h2,rg (by omega),bW (by omega)]
def yh(call:Call)(p:ab):Prop:=∀ x:Nat,x<18446744073709551616→x≠0→∃ s,s≤63∧x*2^s<18446744073709551616∧9223372036854775808≤x*2^s∧∀ (h:H) (k:af),call p [.int .u64 (.ofNat x)] h k=k (.int .i64 (.ofNat s)) h
def D5(call:Call)(p:ab):Prop:=∀ x:Nat,x<18446744073709551616→∃ n,n≤64∧x<2^n∧(x≠0→2^n≤2*x)∧∀ (h:H) (k:af),call p [.int .u64 (.ofNat x)] h k=k (.int .i64 (.ofNat n)) h
theorem F1{call:Call}{p:ab}(hL:D5 call p){x:Nat}(hx:x<18446744073709551616)(h0:x≠0):∃ s,s≤63∧x*2^s<18446744073709551616∧9223372036854775808≤x*2^s∧∀ (h:H) (k:af),E9 p call [.int .u64 (.ofNat x)] h k=k (.int .i64 (.ofNat s)) h:=by
 obtain⟨n,h1,h2,h3,h4⟩:=hL x hx
 have h5:=h3 h0
 have hn:1≤n:=by
  cases n with
  | zero=>rw[Nat.pow_zero]at h2;omega
  | succ n=>omega
 have e:2^n*2^(64-n)=18446744073709551616:=by rw[← Nat.pow_add,show n+(64-n)=64 by omega]
 refine⟨64-n,by omega,?_,?_,λh k=>?_⟩
 ·rw[← e];exact Nat.mul_lt_mul_of_pos_right h2 (Nat.two_pow_pos _)
 ·have:2^n*2^(64-n)≤2*x*2^(64-n):=Nat.mul_le_mul_right _ h5
  rw[e,Nat.mul_assoc]at this
  omega
 ·simp only[E9,Fo,eB]
  rw[bJ,h4,eE h1 (by decide)]
end Go.Ai
namespace Go.Ai
def gU(v0 u1 q r:Nat):Prop:=4294967296≤r∨q<4294967296∧q*v0≤4294967296*r+u1
theorem Pb{v1 v0 U2 u1:Nat}(hn:2147483648≤v1)(h1:v1<4294967296)(h0:v0<4294967296)(hu:u1<4294967296)(hU:U2<v1*4294967296+v0):
  ∃ m,m≤2∧(∀ i,i<m→U2%v1+i*v1<4294967296∧¬ gU v0 u1 (U2/v1-i) (U2%v1+i*v1)∧i+1≤U2/v1)∧gU v0 u1 (U2/v1-m) (U2%v1+m*v1)∧(4294967296≤U2%v1+m*v1→1≤m)∧U2%v1+m*v1<8589934592 ∧
   U2/v1-m=(U2*4294967296+u1)/(v1*4294967296+v0):=by
 have hr0:U2%v1<v1:=Nat.mod_lt _ (by omega)
 have hdm:=Nat.div_add_mod U2 v1
 generalize hq:U2/v1=q at *
 generalize hr:U2%v1=r at *
 obtain⟨D,hD⟩ : ∃ D,D=v1*4294967296+v0:=⟨_,rfl⟩
 rw[← hD]at hU ⊢
 have hY:0<D:=by omega
 generalize hQ:(U2*4294967296+u1)/D=Q
 have hQ1:Q*D≤U2*4294967296+u1:=by rw[← hQ];exact Nat.div_mul_le_self _ _
 have hQ2:U2*4294967296+u1<(Q+1)*D:=by
  have:=Nat.lt_mul_div_succ (U2*4294967296+u1) hY
  rw[hQ,Nat.mul_comm D]at this
  exact this
 have hQκ : Q<4294967296:=by
  rw[← hQ,Nat.div_lt_iff_lt_mul hY]
  omega
 have hqκ : q≤4294967297:=by
  rw[← hq]
  have:U2<4294967298*v1:=by omega
  have:=(Nat.div_lt_iff_lt_mul (by omega:0<v1)).2 this
  omega
 have prod:∀ i,i≤q→(q-i)*D+(r+i*v1)*4294967296=U2*4294967296+(q-i)*v0:=λi hi=>by
  have e1:(q-i)*v1+i*v1=q*v1:=by rw[← Nat.add_mul];congr 1;omega
  have e2:(q-i)*D=(q-i)*v1*4294967296+(q-i)*v0:=by rw[hD,Nat.mul_add,Nat.mul_assoc]
  have e3:v1*q=q*v1:=Nat.mul_comm _ _
  rw[e2]
  omega
 have hge0:Q≤q:=by
  have h1:Q*v1*4294967296<(U2+1)*4294967296:=by
   have h2:Q*(v1*4294967296)≤Q*D:=Nat.mul_le_mul_left _ (by omega)
   rw[← Nat.mul_assoc]at h2
   exact Nat.lt_of_le_of_lt (Nat.le_trans h2 hQ1) (by omega)
  have h2:Q*v1≤U2:=by omega
  rw[← hq]
  exact (Nat.le_div_iff_mul_le (show 0<v1 by omega)).2 h2
 have down:∀ i,i≤q→Q≤q-i→r+i*v1<4294967296→¬ gU v0 u1 (q-i) (r+i*v1)→Q+1≤q-i:=λi hi hle hlt hns=>by
  have hp:=prod i hi
  unfold gU at hns
  by_cases hk:4294967296≤q-i
  ·omega
  ·have h3:4294967296*(r+i*v1)+u1<(q-i)*v0:=by
    apply Nat.lt_of_not_le
    intro h
    exact hns (.inr ⟨by omega,h⟩)
   have h4:U2*4294967296+u1<(q-i)*D:=by omega
   have h5:Q*D<(q-i)*D:=Nat.lt_of_le_of_lt hQ1 h4
   exact Nat.lt_of_mul_lt_mul_right h5
 have fin:∀ i,i≤q→Q≤q-i→(4294967296≤r+i*v1→1≤i)→gU v0 u1 (q-i) (r+i*v1)→q-i=Q:=λi hi hle h1i hs=>by
  have hp:=prod i hi
  apply Nat.le_antisymm _ hle
  have h6:(q-i)*v0≤4294967296*(r+i*v1)+u1:=by
   rcases hs with hs|hs
   ·have h7:q-i≤4294967296:=by have:=h1i hs;omega
    have h8:(q-i)*v0≤4294967296*4294967296:=Nat.mul_le_mul h7 (Nat.le_of_lt h0)
    have h9:4294967296*4294967296≤4294967296*(r+i*v1):=Nat.mul_le_mul_left _ hs
    omega
   ·exact hs.2
  have h7:(q-i)*D<(Q+1)*D:=by omega
  exact Nat.le_of_lt_succ (Nat.lt_of_mul_lt_mul_right h7)
 by_cases s0:gU v0 u1 (q-0) (r+0*v1)
 ·exact⟨0,by omega,λi hi=>by omega,s0,by omega,by omega,fin 0 (by omega) (by omega) (by omega) s0⟩
 have d0:=down 0 (by omega) (by omega) (by omega) s0
 by_cases s1:gU v0 u1 (q-1) (r+1*v1)
 ·refine⟨1,by omega,λi hi=>?_,s1,by omega,by omega,fin 1 (by omega) (by omega) (by omega) s1⟩
  have:i=0:=by omega
  subst this
  exact⟨by omega,s0,by omega⟩
 have hr1:r+1*v1<4294967296:=by
  apply Nat.lt_of_not_le
  intro h
  exact s1 (.inl h)
 have d1:=down 1 (by omega) (by omega) hr1 s1
 have s2:gU v0 u1 (q-2) (r+2*v1):=.inl (by omega)
 refine⟨2,by omega,λi hi=>?_,s2,by omega,by omega,fin 2 (by omega) (by omega) (by omega) s2⟩
 rcases (by omega:i=0∨i=1)with rfl|rfl
 ·exact⟨by omega,s0,by omega⟩
 ·exact⟨hr1,s1,by omega⟩
end Go.Ai
namespace Go.Ai
variable [Nu]
theorem iH{h:H}{k:af}{a b:Nat}(ha:a<4294967296)(hb:b<4294967296):yM (.int .u64 (.ofNat a)) (.int .u64 (.ofNat b)) h k=k (.int .u64 (.ofNat (a*b))) h:=gc (by have:=l9 ha hb;omega)
theorem oz{v1 v0 u1 q r:Nat}(h1:v1<4294967296)(h0:v0<4294967296)(hu:u1<4294967296)(hr:r<4294967296)(hns:¬ gU v0 u1 q r)(hq:1≤q)(hqb:q<18446744073709551616)(hr':r+v1<4294967296)(call:Call)(kr:ar→H→aa)(ke:Nat→ar→H→aa)(kn:ar→H→aa)(h:H)(x0 x1 x2 x3 x4 x5 x6 x7 x8 x16 x17 x18 x19 x20 x21 x22 x23 f0 o0:AV)(z3 z4 z5 z6 z7:F8):
  dR call kr ke kn ⟨⟨x0,x1,x2,x3,x4,x5,x6,x7⟩,⟨x8,.int .u64 (.ofNat v1),.int .u64 (.ofNat q),.int .u64 (.ofNat v0),.int .u64 (.ofNat r),.int .u64 (.ofNat u1),f0,o0⟩,⟨x16,x17,x18,x19,x20,x21,x22,x23⟩,z3,z4,z5,z6,z7⟩ h=kn ⟨⟨x0,x1,x2,x3,x4,x5,x6,x7⟩,⟨x8,.int .u64 (.ofNat v1),.int .u64 (.ofNat (q-1)),.int .u64 (.ofNat v0),.int .u64 (.ofNat (r+v1)),.int .u64 (.ofNat u1),.bool true,.bool false⟩,⟨x16,x17,x18,x19,x20,x21,x22,x23⟩,z3,z4,z5,z6,z7⟩ h:=by
 simp only[dR,aI]
 by_cases hk:4294967296≤q
 ·rw[cL hk]
  simp only[aI]
  rw[ee hq hqb,dx (by omega),ef hr']
  simp only[aI]
 ·have hc:4294967296*r+u1<q*v0:=Nat.lt_of_not_le λhle=>hns (.inr ⟨by omega,hle⟩)
  rw[ef (by omega)]
  simp only[aI]
  rw[iH (by omega) h0,gc (by omega),dx (by omega),jf hc]
  simp only[aI]
  rw[ee hq hqb,dx (by omega),ef hr']
  simp only[aI]
theorem vg{v1 v0 u1 q r:Nat}(h1:v1<4294967296)(h0:v0<4294967296)(hu:u1<4294967296)(hr:r<4294967296)(hns:¬ gU v0 u1 q r)(hq:1≤q)(hqb:q<18446744073709551616)(hr':4294967296≤r+v1)(call:Call)(kr:ar→H→aa)(ke:Nat→ar→H→aa)(kn:ar→H→aa)(h:H)(x0 x1 x2 x3 x4 x5 x6 x7 x8 x16 x17 x18 x19 x20 x21 x22 x23 f0 o0:AV)(z3 z4 z5 z6 z7:F8):
  dR call kr ke kn ⟨⟨x0,x1,x2,x3,x4,x5,x6,x7⟩,⟨x8,.int .u64 (.ofNat v1),.int .u64 (.ofNat q),.int .u64 (.ofNat v0),.int .u64 (.ofNat r),.int .u64 (.ofNat u1),f0,o0⟩,⟨x16,x17,x18,x19,x20,x21,x22,x23⟩,z3,z4,z5,z6,z7⟩ h=ke 0 ⟨⟨x0,x1,x2,x3,x4,x5,x6,x7⟩,⟨x8,.int .u64 (.ofNat v1),.int .u64 (.ofNat (q-1)),.int .u64 (.ofNat v0),.int .u64 (.ofNat (r+v1)),.int .u64 (.ofNat u1),.bool true,.bool true⟩,⟨x16,x17,x18,x19,x20,x21,x22,x23⟩,z3,z4,z5,z6,z7⟩ h:=by
 simp only[dR,aI]
 by_cases hk:4294967296≤q
 ·rw[cL hk]
  simp only[aI]
  rw[ee hq hqb,dx (by omega),cL hr']
  simp only[aI]
  rfl
 ·have hc:4294967296*r+u1<q*v0:=Nat.lt_of_not_le λhle=>hns (.inr ⟨by omega,hle⟩)
  rw[ef (by omega)]
  simp only[aI]
  rw[iH (by omega) h0,gc (by omega),dx (by omega),jf hc]
  simp only[aI]
  rw[ee hq hqb,dx (by omega),cL hr']
  simp only[aI]
  rfl
theorem ud{v1 v0 u1 q r:Nat}(h1:v1<4294967296)(h0:v0<4294967296)(hu:u1<4294967296)(hr:r<4294967296)(hq:q<4294967296)(hs:q*v0≤4294967296*r+u1)(call:Call)(kr:ar→H→aa)(ke:Nat→ar→H→aa)(kn:ar→H→aa)(h:H)(x0 x1 x2 x3 x4 x5 x6 x7 x8 x16 x17 x18 x19 x20 x21 x22 x23 f0 o0:AV)(z3 z4 z5 z6 z7:F8):
  dR call kr ke kn ⟨⟨x0,x1,x2,x3,x4,x5,x6,x7⟩,⟨x8,.int .u64 (.ofNat v1),.int .u64 (.ofNat q),.int .u64 (.ofNat v0),.int .u64 (.ofNat r),.int .u64 (.ofNat u1),f0,o0⟩,⟨x16,x17,x18,x19,x20,x21,x22,x23⟩,z3,z4,z5,z6,z7⟩ h=ke 0 ⟨⟨x0,x1,x2,x3,x4,x5,x6,x7⟩,⟨x8,.int .u64 (.ofNat v1),.int .u64 (.ofNat q),.int .u64 (.ofNat v0),.int .u64 (.ofNat r),.int .u64 (.ofNat u1),.bool false,o0⟩,⟨x16,x17,x18,x19,x20,x21,x22,x23⟩,z3,z4,z5,z6,z7⟩ h:=by
 simp only[dR,aI]
 rw[ef (by omega)]
 simp only[aI]
 rw[iH hq h0,gc (by omega),dx (by omega),jl hs]
 simp only[aI]
theorem xk{v1 v0 U2 u1:Nat}(hn:2147483648≤v1)(h1:v1<4294967296)(h0:v0<4294967296)(hu:u1<4294967296)(hU:U2<v1*4294967296+v0)(call:Call)(h:H)(x0 x1 x2 x3 x4 x5 x6 x7 x8 x16 x17 x18 x19 x20 x21 x22 x23 f0 o0:AV)(z3 z4 z5 z6 z7:F8):
  ∃ fr' h',(∃ r f1 o1,fr'=⟨⟨x0,x1,x2,x3,x4,x5,x6,x7⟩,⟨x8,.int .u64 (.ofNat v1),.int .u64 (.ofNat ((U2*4294967296+u1)/(v1*4294967296+v0))),.int .u64 (.ofNat v0),.int .u64 (.ofNat r),.int .u64 (.ofNat u1),f1,o1⟩,⟨x16,x17,x18,x19,x20,x21,x22,x23⟩,z3,z4,z5,z6,z7⟩∧h'=h) ∧
  ∀ (kr:ar→H→aa) (ke:Nat→ar→H→aa) (kn0:ar→H→aa),kL dR call kr ke kn0 ⟨⟨x0,x1,x2,x3,x4,x5,x6,x7⟩,⟨x8,.int .u64 (.ofNat v1),.int .u64 (.ofNat (U2/v1)),.int .u64 (.ofNat v0),.int .u64 (.ofNat (U2%v1)),.int .u64 (.ofNat u1),f0,o0⟩,⟨x16,x17,x18,x19,x20,x21,x22,x23⟩,z3,z4,z5,z6,z7⟩ h=ke 0 fr' h':=by
 obtain⟨m,hm,hb,hs,hm1,hr2,hQ⟩:=Pb hn h1 h0 hu hU
 have hq0:U2/v1<18446744073709551616:=Nat.lt_of_le_of_lt (Nat.div_le_self _ _) (by omega)
 have hrow:∀ i,U2%v1+i*v1+v1=U2%v1+(i+1)*v1:=λi=>by rw[Nat.add_mul];omega
 rw[← hQ]
 by_cases hov:4294967296≤U2%v1+m*v1
 ·have hm1:=hm1 hov
  refine dl dR call (λi fr h'=>∃ f1 o1,fr=⟨⟨x0,x1,x2,x3,x4,x5,x6,x7⟩,⟨x8,.int .u64 (.ofNat v1),.int .u64 (.ofNat (U2/v1-i)),.int .u64 (.ofNat v0),.int .u64 (.ofNat (U2%v1+i*v1)),.int .u64 (.ofNat u1),f1,o1⟩,⟨x16,x17,x18,x19,x20,x21,x22,x23⟩,z3,z4,z5,z6,z7⟩∧h'=h) (m-1) 0 _ _ _ ⟨f0,o0,by rw[Nat.sub_zero,Nat.zero_mul,Nat.add_zero],rfl⟩ ?_ ?_ (by omega)
  ·rintro i fr h' hi ⟨f1,o1,rfl,rfl⟩
   obtain⟨b1,b2,b3⟩:=hb i (by omega)
   obtain⟨c1,_,_⟩:=hb (i+1) (by omega)
   refine⟨_,_,⟨.bool true,.bool false,rfl,rfl⟩,λkr ke kn=>?_⟩
   rw[oz h1 h0 hu b1 b2 (by omega) (by omega) (by rw[hrow];exact c1),hrow,Nat.sub_sub]
  ·rintro fr h' ⟨f1,o1,rfl,rfl⟩
   obtain⟨b1,b2,b3⟩:=hb (m-1) (by omega)
   refine⟨_,_,⟨U2%v1+m*v1,.bool true,.bool true,rfl,rfl⟩,λkr ke kn=>?_⟩
   rw[vg h1 h0 hu b1 b2 (by omega) (by omega) (by rw[hrow,Nat.sub_add_cancel hm1];exact hov),hrow,Nat.sub_sub,Nat.sub_add_cancel hm1]
 ·have hs2:U2/v1-m<4294967296∧(U2/v1-m)*v0≤4294967296*(U2%v1+m*v1)+u1:=by
   rcases hs with hs|hs
   ·exact absurd hs hov
   ·exact hs
  refine dl dR call (λi fr h'=>∃ f1 o1,fr=⟨⟨x0,x1,x2,x3,x4,x5,x6,x7⟩,⟨x8,.int .u64 (.ofNat v1),.int .u64 (.ofNat (U2/v1-i)),.int .u64 (.ofNat v0),.int .u64 (.ofNat (U2%v1+i*v1)),.int .u64 (.ofNat u1),f1,o1⟩,⟨x16,x17,x18,x19,x20,x21,x22,x23⟩,z3,z4,z5,z6,z7⟩∧h'=h) m 0 _ _ _ ⟨f0,o0,by rw[Nat.sub_zero,Nat.zero_mul,Nat.add_zero],rfl⟩ ?_ ?_ (by omega)
  ·rintro i fr h' hi ⟨f1,o1,rfl,rfl⟩
   obtain⟨b1,b2,b3⟩:=hb i hi
   have c1:U2%v1+(i+1)*v1<4294967296:=by
    by_cases e:i+1=m
    ·rw[e];omega
    ·exact (hb (i+1) (by omega)).1
   refine⟨_,_,⟨.bool true,.bool false,rfl,rfl⟩,λkr ke kn=>?_⟩
   rw[oz h1 h0 hu b1 b2 (by omega) (by omega) (by rw[hrow];exact c1),hrow,Nat.sub_sub]
  ·rintro fr h' ⟨f1,o1,rfl,rfl⟩
   refine⟨_,_,⟨U2%v1+m*v1,.bool false,o1,rfl,rfl⟩,λkr ke kn=>?_⟩
   rw[ud h1 h0 hu (by omega) hs2.1 hs2.2]
theorem pz{v1 v0 u1 q r:Nat}(h1:v1<4294967296)(h0:v0<4294967296)(hu:u1<4294967296)(hr:r<4294967296)(hns:¬ gU v0 u1 q r)(hq:1≤q)(hqb:q<18446744073709551616)(hr':r+v1<4294967296)(call:Call)(kr:ar→H→aa)(ke:Nat→ar→H→aa)(kn:ar→H→aa)(h:H)(x0 x1 x2 x3 x4 x5 x6 x7 x8 x10 x13 x14 x15 x16 x21 x22 x23 f0 o0:AV)(z3 z4 z5 z6 z7:F8):
  dU call kr ke kn ⟨⟨x0,x1,x2,x3,x4,x5,x6,x7⟩,⟨x8,.int .u64 (.ofNat v1),x10,.int .u64 (.ofNat v0),.int .u64 (.ofNat r),x13,x14,x15⟩,⟨x16,.int .u64 (.ofNat q),.int .u64 (.ofNat u1),f0,o0,x21,x22,x23⟩,z3,z4,z5,z6,z7⟩ h=kn ⟨⟨x0,x1,x2,x3,x4,x5,x6,x7⟩,⟨x8,.int .u64 (.ofNat v1),x10,.int .u64 (.ofNat v0),.int .u64 (.ofNat (r+v1)),x13,x14,x15⟩,⟨x16,.int .u64 (.ofNat (q-1)),.int .u64 (.ofNat u1),.bool true,.bool false,x21,x22,x23⟩,z3,z4,z5,z6,z7⟩ h:=by
 simp only[dU,aI]
 by_cases hk:4294967296≤q
 ·rw[cL hk]
  simp only[aI]
  rw[ee hq hqb,dx (by omega),ef hr']
  simp only[aI]
 ·have hc:4294967296*r+u1<q*v0:=Nat.lt_of_not_le λhle=>hns (.inr ⟨by omega,hle⟩)
  rw[ef (by omega)]
  simp only[aI]
  rw[iH (by omega) h0,gc (by omega),dx (by omega),jf hc]
  simp only[aI]
  rw[ee hq hqb,dx (by omega),ef hr']
  simp only[aI]
theorem uW{v1 v0 u1 q r:Nat}(h1:v1<4294967296)(h0:v0<4294967296)(hu:u1<4294967296)(hr:r<4294967296)(hns:¬ gU v0 u1 q r)(hq:1≤q)(hqb:q<18446744073709551616)(hr':4294967296≤r+v1)(call:Call)(kr:ar→H→aa)(ke:Nat→ar→H→aa)(kn:ar→H→aa)(h:H)(x0 x1 x2 x3 x4 x5 x6 x7 x8 x10 x13 x14 x15 x16 x21 x22 x23 f0 o0:AV)(z3 z4 z5 z6 z7:F8):
  dU call kr ke kn ⟨⟨x0,x1,x2,x3,x4,x5,x6,x7⟩,⟨x8,.int .u64 (.ofNat v1),x10,.int .u64 (.ofNat v0),.int .u64 (.ofNat r),x13,x14,x15⟩,⟨x16,.int .u64 (.ofNat q),.int .u64 (.ofNat u1),f0,o0,x21,x22,x23⟩,z3,z4,z5,z6,z7⟩ h=ke 2 ⟨⟨x0,x1,x2,x3,x4,x5,x6,x7⟩,⟨x8,.int .u64 (.ofNat v1),x10,.int .u64 (.ofNat v0),.int .u64 (.ofNat (r+v1)),x13,x14,x15⟩,⟨x16,.int .u64 (.ofNat (q-1)),.int .u64 (.ofNat u1),.bool true,.bool true,x21,x22,x23⟩,z3,z4,z5,z6,z7⟩ h:=by
 simp only[dU,aI]
 by_cases hk:4294967296≤q
 ·rw[cL hk]
  simp only[aI]
  rw[ee hq hqb,dx (by omega),cL hr']
  simp only[aI]
  rfl
 ·have hc:4294967296*r+u1<q*v0:=Nat.lt_of_not_le λhle=>hns (.inr ⟨by omega,hle⟩)
  rw[ef (by omega)]
  simp only[aI]
  rw[iH (by omega) h0,gc (by omega),dx (by omega),jf hc]
  simp only[aI]
  rw[ee hq hqb,dx (by omega),cL hr']
  simp only[aI]
  rfl
theorem sQ{v1 v0 u1 q r:Nat}(h1:v1<4294967296)(h0:v0<4294967296)(hu:u1<4294967296)(hr:r<4294967296)(hq:q<4294967296)(hs:q*v0≤4294967296*r+u1)(call:Call)(kr:ar→H→aa)(ke:Nat→ar→H→aa)(kn:ar→H→aa)(h:H)(x0 x1 x2 x3 x4 x5 x6 x7 x8 x10 x13 x14 x15 x16 x21 x22 x23 f0 o0:AV)(z3 z4 z5 z6 z7:F8):
  dU call kr ke kn ⟨⟨x0,x1,x2,x3,x4,x5,x6,x7⟩,⟨x8,.int .u64 (.ofNat v1),x10,.int .u64 (.ofNat v0),.int .u64 (.ofNat r),x13,x14,x15⟩,⟨x16,.int .u64 (.ofNat q),.int .u64 (.ofNat u1),f0,o0,x21,x22,x23⟩,z3,z4,z5,z6,z7⟩ h=ke 2 ⟨⟨x0,x1,x2,x3,x4,x5,x6,x7⟩,⟨x8,.int .u64 (.ofNat v1),x10,.int .u64 (.ofNat v0),.int .u64 (.ofNat r),x13,x14,x15⟩,⟨x16,.int .u64 (.ofNat q),.int .u64 (.ofNat u1),.bool false,o0,x21,x22,x23⟩,z3,z4,z5,z6,z7⟩ h:=by
 simp only[dU,aI]
 rw[ef (by omega)]
 simp only[aI]
 rw[iH hq h0,gc (by omega),dx (by omega),jl hs]
 simp only[aI]
theorem xd{v1 v0 U2 u1:Nat}(hn:2147483648≤v1)(h1:v1<4294967296)(h0:v0<4294967296)(hu:u1<4294967296)(hU:U2<v1*4294967296+v0)(call:Call)(h:H)(x0 x1 x2 x3 x4 x5 x6 x7 x8 x10 x13 x14 x15 x16 x21 x22 x23 f0 o0:AV)(z3 z4 z5 z6 z7:F8):
  ∃ fr' h',(∃ r f1 o1,fr'=⟨⟨x0,x1,x2,x3,x4,x5,x6,x7⟩,⟨x8,.int .u64 (.ofNat v1),x10,.int .u64 (.ofNat v0),.int .u64 (.ofNat r),x13,x14,x15⟩,⟨x16,.int .u64 (.ofNat ((U2*4294967296+u1)/(v1*4294967296+v0))),.int .u64 (.ofNat u1),f1,o1,x21,x22,x23⟩,z3,z4,z5,z6,z7⟩∧h'=h) ∧
  ∀ (kr:ar→H→aa) (ke:Nat→ar→H→aa) (kn0:ar→H→aa),kL dU call kr ke kn0 ⟨⟨x0,x1,x2,x3,x4,x5,x6,x7⟩,⟨x8,.int .u64 (.ofNat v1),x10,.int .u64 (.ofNat v0),.int .u64 (.ofNat (U2%v1)),x13,x14,x15⟩,⟨x16,.int .u64 (.ofNat (U2/v1)),.int .u64 (.ofNat u1),f0,o0,x21,x22,x23⟩,z3,z4,z5,z6,z7⟩ h=ke 2 fr' h':=by
 obtain⟨m,hm,hb,hs,hm1,hr2,hQ⟩:=Pb hn h1 h0 hu hU
 have hq0:U2/v1<18446744073709551616:=Nat.lt_of_le_of_lt (Nat.div_le_self _ _) (by omega)
 have hrow:∀ i,U2%v1+i*v1+v1=U2%v1+(i+1)*v1:=λi=>by rw[Nat.add_mul];omega
 rw[← hQ]
 by_cases hov:4294967296≤U2%v1+m*v1
 ·have hm1:=hm1 hov
  refine dl dU call (λi fr h'=>∃ f1 o1,fr=⟨⟨x0,x1,x2,x3,x4,x5,x6,x7⟩,⟨x8,.int .u64 (.ofNat v1),x10,.int .u64 (.ofNat v0),.int .u64 (.ofNat (U2%v1+i*v1)),x13,x14,x15⟩,⟨x16,.int .u64 (.ofNat (U2/v1-i)),.int .u64 (.ofNat u1),f1,o1,x21,x22,x23⟩,z3,z4,z5,z6,z7⟩∧h'=h) (m-1) 2 _ _ _ ⟨f0,o0,by rw[Nat.sub_zero,Nat.zero_mul,Nat.add_zero],rfl⟩ ?_ ?_ (by omega)
  ·rintro i fr h' hi ⟨f1,o1,rfl,rfl⟩
   obtain⟨b1,b2,b3⟩:=hb i (by omega)
   obtain⟨c1,_,_⟩:=hb (i+1) (by omega)
   refine⟨_,_,⟨.bool true,.bool false,rfl,rfl⟩,λkr ke kn=>?_⟩
   rw[pz h1 h0 hu b1 b2 (by omega) (by omega) (by rw[hrow];exact c1),hrow,Nat.sub_sub]
  ·rintro fr h' ⟨f1,o1,rfl,rfl⟩
   obtain⟨b1,b2,b3⟩:=hb (m-1) (by omega)
   refine⟨_,_,⟨U2%v1+m*v1,.bool true,.bool true,rfl,rfl⟩,λkr ke kn=>?_⟩
   rw[uW h1 h0 hu b1 b2 (by omega) (by omega) (by rw[hrow,Nat.sub_add_cancel hm1];exact hov),hrow,Nat.sub_sub,Nat.sub_add_cancel hm1]
 ·have hs2:U2/v1-m<4294967296∧(U2/v1-m)*v0≤4294967296*(U2%v1+m*v1)+u1:=by
   rcases hs with hs|hs
   ·exact absurd hs hov
   ·exact hs
  refine dl dU call (λi fr h'=>∃ f1 o1,fr=⟨⟨x0,x1,x2,x3,x4,x5,x6,x7⟩,⟨x8,.int .u64 (.ofNat v1),x10,.int .u64 (.ofNat v0),.int .u64 (.ofNat (U2%v1+i*v1)),x13,x14,x15⟩,⟨x16,.int .u64 (.ofNat (U2/v1-i)),.int .u64 (.ofNat u1),f1,o1,x21,x22,x23⟩,z3,z4,z5,z6,z7⟩∧h'=h) m 2 _ _ _ ⟨f0,o0,by rw[Nat.sub_zero,Nat.zero_mul,Nat.add_zero],rfl⟩ ?_ ?_ (by omega)
  ·rintro i fr h' hi ⟨f1,o1,rfl,rfl⟩
   obtain⟨b1,b2,b3⟩:=hb i hi
   have c1:U2%v1+(i+1)*v1<4294967296:=by
    by_cases e:i+1=m
    ·rw[e];omega
    ·exact (hb (i+1) (by omega)).1
   refine⟨_,_,⟨.bool true,.bool false,rfl,rfl⟩,λkr ke kn=>?_⟩
   rw[pz h1 h0 hu b1 b2 (by omega) (by omega) (by rw[hrow];exact c1),hrow,Nat.sub_sub]
  ·rintro fr h' ⟨f1,o1,rfl,rfl⟩
   refine⟨_,_,⟨U2%v1+m*v1,.bool false,o1,rfl,rfl⟩,λkr ke kn=>?_⟩
   rw[sQ h1 h0 hu (by omega) hs2.1 hs2.2]
end Go.Ai
set_option maxHeartbeats 1000000
namespace Go.Ai
variable [Nu]
theorem Cp{hi lo y s Y U2 u10 Q1 R1 Q0 R0:Nat}(hs:s≤63)(hlo:lo<18446744073709551616)(hy:hi<y)(eY:Y=y*2^s)(eU:U2=hi*2^s+lo/2^(64-s))(eu:u10=lo*2^s%18446744073709551616)
  (eQ1:Q1=(U2*4294967296+u10/4294967296)/Y) (eR1:R1=(U2*4294967296+u10/4294967296)%Y) (eQ0:Q0=(R1*4294967296+u10%4294967296)/Y) (eR0:R0=(R1*4294967296+u10%4294967296)%Y) :
  Q1*4294967296+Q0=(hi*18446744073709551616+lo)/y∧R0/2^s=(hi*18446744073709551616+lo)%y:=by
 have hp:0<2^s:=Nat.two_pow_pos _
 have hY:0<Y:=by rw[eY];exact Nat.mul_pos (by omega) hp
 have e64:2^(64-s)*2^s=18446744073709551616:=by rw[← Nat.pow_add,show 64-s+s=64 by omega]
 have hlo2:lo*2^s=lo/2^(64-s)*18446744073709551616+u10:=by
  have h1:=Nat.div_add_mod (lo*2^s) 18446744073709551616
  have h2:lo*2^s/18446744073709551616=lo/2^(64-s):=by
   rw[← e64,Nat.mul_div_mul_right _ _ hp]
  rw[h2,← eu]at h1
  omega
 have hN:(hi*18446744073709551616+lo)*2^s=U2*18446744073709551616+u10:=by
  rw[eU,Nat.add_mul,Nat.add_mul,hlo2,Nat.mul_right_comm,Nat.add_assoc]
 have a1:=Nat.div_add_mod (U2*4294967296+u10/4294967296) Y
 have a0:=Nat.div_add_mod (R1*4294967296+u10%4294967296) Y
 rw[← eQ1,← eR1]at a1
 rw[← eQ0,← eR0]at a0
 have hR0:R0<Y:=by rw[eR0];exact Nat.mod_lt _ hY
 have key:(hi*18446744073709551616+lo)*2^s=Y*(Q1*4294967296+Q0)+R0:=by
  rw[hN,Nat.mul_add,← Nat.mul_assoc]
  clear eQ1 eR1 eQ0 eR0 hN hlo2 eU eu eY e64 hR0 hp
  omega
 constructor
 ·have h1:(hi*18446744073709551616+lo)*2^s/(y*2^s)=(hi*18446744073709551616+lo)/y:=Nat.mul_div_mul_right _ _ hp
  rw[← h1,key,← eY,Nat.mul_add_div hY,Nat.div_eq_of_lt hR0,Nat.add_zero]
 ·have h1:(hi*18446744073709551616+lo)*2^s%(y*2^s)=(hi*18446744073709551616+lo)%y*2^s:=Nat.mul_mod_mul_right _ _ _
  rw[key,← eY,Nat.mul_add_mod,Nat.mod_eq_of_lt hR0]at h1
  rw[h1,Nat.mul_div_cancel _ hp]
def oK(call:Call)(p:ab):Prop:=∀ (hi lo y:Nat) (h:H) (k:af),hi<y→lo<18446744073709551616→y<18446744073709551616 →
 call p [.int .u64 (.ofNat hi),.int .u64 (.ofNat lo),.int .u64 (.ofNat y)] h k=k (.tup [.int .u64 (.ofNat ((hi*18446744073709551616+lo)/y)),.int .u64 (.ofNat ((hi*18446744073709551616+lo)%y))]) h
theorem Sj{a b:Nat}(h:b≤a)(hlt:a-b<18446744073709551616):(a%18446744073709551616+18446744073709551616-b%18446744073709551616)%18446744073709551616=a-b:=by omega
theorem UT{h:H}{k:af}{a:Nat}(ha:a<18446744073709551616):BA (.int .u64 (.ofNat a)) (.int .u64 (.ofNat 4294967295)) h k=k (.int .u64 (.ofNat (a%4294967296))) h:=fL ha
theorem wB{N Y a:Nat}(hY:0<Y)(hYb:Y<18446744073709551616)(ha:a%18446744073709551616=N%18446744073709551616):(a%18446744073709551616+18446744073709551616-N/Y*Y%18446744073709551616)%18446744073709551616=N%Y:=by
 have h1:=Nat.div_add_mod N Y
 have h2:=Nat.mod_lt N hY
 rw[Nat.mul_comm]at h1
 obtain⟨P,hP⟩ : ∃ P,P=N/Y*Y:=⟨_,rfl⟩
 obtain⟨M,hM⟩ : ∃ M,M=N%Y:=⟨_,rfl⟩
 rw[← hP,← hM]at h1 ⊢
 rw[← hM]at h2
 clear hP hM
 omega
theorem A5(X u:Nat):(X*4294967296%18446744073709551616+u)%18446744073709551616=(X*4294967296+u)%18446744073709551616:=by omega
theorem Bi{X u Y:Nat}(hX:X<Y)(hu:u<4294967296):(X*4294967296+u)/Y<4294967296:=by
 rw[Nat.div_lt_iff_lt_mul (Nat.lt_of_le_of_lt (Nat.zero_le _) hX)]
 omega
theorem rf(X v:Nat):X/v*v≤X:=Nat.div_mul_le_self _ _
theorem Ch(X v:Nat):X-X/v*v=X%v:=by
 have:=Nat.div_add_mod X v
 rw[Nat.mul_comm]at this
 exact Nat.sub_eq_of_eq_add (by rw[Nat.add_comm];exact this.symm)
theorem zs{Y U2 u10 Q1 R1 Q0 R0 s:Nat}(hYn:9223372036854775808≤Y)(hYb:Y<18446744073709551616)(hU:U2<Y)(hu:u10<18446744073709551616)(hs:s≤63)
  (eQ1:Q1=(U2*4294967296+u10/4294967296)/Y) (eR1:R1=(U2*4294967296+u10/4294967296)%Y) (eQ0:Q0=(R1*4294967296+u10%4294967296)/Y) (eR0:R0=(R1*4294967296+u10%4294967296)%Y)
  (call:Call) (h:H) (k:af) (ke:Nat→ar→H→aa) (kn:ar→H→aa) (x0 x1 x3 x4 x5 x7 x12 x14 x15 x16 x17 x19 x20 x23:AV) :
  nR call (r2 sN B6 k) ke kn ⟨⟨x0,x1,.int .u64 (.ofNat Y),x3,x4,x5,.int .u64 (.ofNat s),x7⟩,⟨.int .u64 (.ofNat U2),.int .u64 (.ofNat (Y/4294967296)),.int .u64 (.ofNat Q1),.int .u64 (.ofNat (Y%4294967296)),x12,.int .u64 (.ofNat (u10/4294967296)),x14,x15⟩,⟨x16,x17,.int .u64 (.ofNat (u10%4294967296)),x19,x20,.int .u64 (.ofNat 0),.int .u64 (.ofNat 0),x23⟩,i8,i8,i8,i8,i8⟩ h =
   k (.tup [.int .u64 (.ofNat (Q1*4294967296+Q0)),.int .u64 (.ofNat (R0/2^s))]) h:=by
 have hYpos:0<Y:=Nat.lt_of_lt_of_le (by decide) hYn
 have hu1:u10/4294967296<4294967296:=by omega
 have hu0:u10%4294967296<4294967296:=Nat.mod_lt _ (by decide)
 have hv1:2147483648≤Y/4294967296:=by omega
 have hv1':Y/4294967296<4294967296:=by omega
 have hv0:Y%4294967296<4294967296:=Nat.mod_lt _ (by decide)
 have hYs:Y/4294967296*4294967296+Y%4294967296=Y:=by omega
 have hQ1:Q1<4294967296:=by rw[eQ1];exact Bi hU hu1
 have hR1:R1<Y:=by rw[eR1];exact Nat.mod_lt _ hYpos
 have hQ0:Q0<4294967296:=by rw[eQ0];exact Bi hR1 hu0
 have hR1b:R1<18446744073709551616:=Nat.lt_trans hR1 hYb
 have hlt:Q1*4294967296+Q0<18446744073709551616:=by clear eQ1 eR1 eQ0 eR0;omega
 have w1:=wB (a:=U2*4294967296%18446744073709551616+u10/4294967296) hYpos hYb (A5 U2 (u10/4294967296))
 have w0:=wB (a:=R1*4294967296%18446744073709551616+u10%4294967296) hYpos hYb (A5 R1 (u10%4294967296))
 rw[← eQ1,← eR1]at w1
 rw[← eQ0,← eR0]at w0
 simp only[nR,tj,ti,uM,aI]
 rw[wW,pr,wW,Xq (Nat.mod_lt _ (by decide)),w1]
 rw[Oh (Nat.lt_of_lt_of_le (by decide) hv1) hR1b,gc (Nat.lt_of_le_of_lt (rf R1 _) hR1b),ee (rf R1 _) hR1b,Ch]
 obtain⟨fr',h',⟨r',f2,o2,rfl,rfl⟩,hl0⟩:=xd (u1:=u10%4294967296) (U2:=R1) hv1 hv1' hv0 hu0 (by rw[hYs];exact hR1) call h x0 x1 (.int .u64 (.ofNat Y)) x3 x4 x5 (.int .u64 (.ofNat s)) x7 (.int .u64 (.ofNat U2)) (.int .u64 (.ofNat Q1)) (.int .u64 (.ofNat (u10/4294967296))) x14 x15 (.int .u64 (.ofNat R1)) (.int .u64 (.ofNat 0)) (.int .u64 (.ofNat 0)) x23 x19 x20
  ⟨.undef,.undef,.undef,.undef,.undef,.undef,.undef,.undef⟩ ⟨.undef,.undef,.undef,.undef,.undef,.undef,.undef,.undef⟩ ⟨.undef,.undef,.undef,.undef,.undef,.undef,.undef,.undef⟩ ⟨.undef,.undef,.undef,.undef,.undef,.undef,.undef,.undef⟩ ⟨.undef,.undef,.undef,.undef,.undef,.undef,.undef,.undef⟩
 rw[hYs,← eQ0]at hl0
 rw[hl0]
 simp only[sX,aI]
 rw[gc (Nat.lt_of_le_of_lt (Nat.le_add_right _ _) hlt),dx hlt,wW,pr,wW,Xq (Nat.mod_lt _ (by decide)),dP (by omega),w0]
theorem CZ{call:Call}{p:ab}(hL:yh call p)(hi lo y:Nat)(h:H)(k:af)(hy:hi<y)(hlo:lo<18446744073709551616)(hyb:y<18446744073709551616):
  wL p call [.int .u64 (.ofNat hi),.int .u64 (.ofNat lo),.int .u64 (.ofNat y)] h k=k (.tup [.int .u64 (.ofNat ((hi*18446744073709551616+lo)/y)),.int .u64 (.ofNat ((hi*18446744073709551616+lo)%y))]) h:=by
 simp only[wL,A6,wr,wp,wi,aI]
 rw[lR (by omega)]
 simp only[aI]
 rw[Ov hy]
 simp only[aI]
 by_cases h0:hi=0
 ·subst h0
  rw[kb rfl]
  simp only[aI]
  rw[Oh (by omega) hlo,acI (by omega),Nat.zero_mul,Nat.zero_add]
 rw[lR h0]
 obtain⟨s,hs,hY,hYn,hcall⟩:=hL y hyb (by omega)
 have hp:0<2^s:=Nat.two_pow_pos _
 have hhi:hi*2^s<18446744073709551616:=Nat.lt_of_le_of_lt (Nat.mul_le_mul_right _ (Nat.le_of_lt hy)) hY
 have hl2:lo/2^(64-s)<2^s:=by
  rw[Nat.div_lt_iff_lt_mul (Nat.two_pow_pos _),Nat.mul_comm,← Nat.pow_add,show 64-s+s=64 by omega];exact hlo
 have hor:Nat.lor (hi*2^s) (lo/2^(64-s))=hi*2^s+lo/2^(64-s):=by
  rw[Nat.mul_comm hi];exact (Nat.two_pow_add_eq_or_of_lt hl2 hi).symm
 have hlb:lo/2^(64-s)<18446744073709551616:=Nat.lt_of_le_of_lt (Nat.div_le_self _ _) hlo
 have m3:hi*2^s+lo/2^(64-s)<y*2^s:=by
  have:(hi+1)*2^s≤y*2^s:=Nat.mul_le_mul_right _ hy
  rw[Nat.add_mul,Nat.one_mul]at this
  omega
 obtain⟨m1,m2⟩:=@Cp _ hi lo y s _ _ _ _ _ _ _ hs hlo hy rfl rfl rfl rfl rfl rfl rfl
 rw[← m1,← m2]
 clear m1 m2
 simp only[vE,vl,wC,vu,vN,vP,tU,t8,uJ,s5,tI,aI]
 rw[bJ,hcall,Ih (by omega),BF (by omega) hY,nZ,fL hY,BF (by omega) hhi,ee (by omega) (by omega),dP (by omega),Fe hhi hlb,hor,AK (by omega),nZ,fL (Nat.mod_lt _ (by decide))]
 have hu10:lo*2^s%18446744073709551616<18446744073709551616:=Nat.mod_lt _ (by decide)
 generalize y*2^s=Y at *
 generalize hi*2^s+lo/2^(64-s)=U2 at *
 generalize lo*2^s%18446744073709551616=u10 at *
 have hv1:2147483648≤Y/4294967296:=by omega
 have hv1':Y/4294967296<4294967296:=by omega
 have hv0:Y%4294967296<4294967296:=Nat.mod_lt _ (by decide)
 have hYs:Y/4294967296*4294967296+Y%4294967296=Y:=by omega
 have hmul:∀ X,X/(Y/4294967296)*(Y/4294967296)≤X:=λX=>Nat.div_mul_le_self _ _
 have hmod:∀ X,X-X/(Y/4294967296)*(Y/4294967296)=X%(Y/4294967296):=λX=>by
  have:=Nat.div_add_mod X (Y/4294967296)
  rw[Nat.mul_comm]at this
  exact Nat.sub_eq_of_eq_add (by rw[Nat.add_comm];exact this.symm)
 have hU2b:U2<18446744073709551616:=Nat.lt_trans m3 hY
 rw[Oh (Nat.lt_of_lt_of_le (by decide) hv1) hU2b,gc (Nat.lt_of_le_of_lt (hmul U2) hU2b),ee (hmul U2) hU2b,hmod]
 obtain⟨fr',h',⟨r,f1,o1,rfl,rfl⟩,hl1⟩:=xk (u1:=u10/4294967296) (U2:=U2) hv1 hv1' hv0 (by omega) (by rw[hYs];exact m3) call h (.int .u64 (.ofNat hi)) (.int .u64 (.ofNat lo)) (.int .u64 (.ofNat Y)) (.bool false) (.bool false) (.bool false) (.int .u64 (.ofNat s)) (.int .u64 (.ofNat u10)) (.int .u64 (.ofNat U2)) .undef .undef (.int .u64 (.ofNat (u10%4294967296))) .undef .undef (.int .u64 (.ofNat 0)) (.int .u64 (.ofNat 0)) .undef .undef .undef
  ⟨.undef,.undef,.undef,.undef,.undef,.undef,.undef,.undef⟩ ⟨.undef,.undef,.undef,.undef,.undef,.undef,.undef,.undef⟩ ⟨.undef,.undef,.undef,.undef,.undef,.undef,.undef,.undef⟩ ⟨.undef,.undef,.undef,.undef,.undef,.undef,.undef,.undef⟩ ⟨.undef,.undef,.undef,.undef,.undef,.undef,.undef,.undef⟩
 rw[hl1,hYs]
 have ht:=zs (U2:=U2) (u10:=u10) (s:=s) hYn hY m3 hu10 hs rfl rfl rfl rfl call h' k (λ_ _ _=>.bad 25) (r2 sN B6 k) (.int .u64 (.ofNat hi)) (.int .u64 (.ofNat lo)) (.bool false) (.bool false) (.bool false) (.int .u64 (.ofNat u10)) (.int .u64 (.ofNat r)) f1 o1 .undef .undef .undef .undef .undef
 simp only[aI]at ht ⊢
 exact ht
end Go.Ai
namespace Go.Ai
variable [Nu]
theorem NT{M i T T':Nat}(hi:i+1<M)(h1:∀ p,p<i→T'/18446744073709551616^p%18446744073709551616=T/18446744073709551616^p%18446744073709551616)
  (h2:∀ p,i+1<p→T'/18446744073709551616^p%18446744073709551616=T/18446744073709551616^p%18446744073709551616) :
  ((aF 18446744073709551616 M T).set i (T'/18446744073709551616^i%18446744073709551616)).set (i+1) (T'/18446744073709551616^(i+1)%18446744073709551616)=aF 18446744073709551616 M T':=by
 apply List.ext_getElem?
 intro p
 rw[List.getElem?_set,List.getElem?_set]
 by_cases hp:p<M
 ·rw[bb _ _ T' p hp,List.length_set,aq]
  by_cases e1:i+1=p
  ·subst e1;rw[if_pos rfl,if_pos hp]
  rw[if_neg e1]
  by_cases e2:i=p
  ·subst e2;rw[if_pos rfl,if_pos hp]
  rw[if_neg e2,bb _ _ T p hp]
  by_cases e3:p<i
  ·rw[h1 p e3]
  ·rw[h2 p (by omega)]
 ·rw[List.getElem?_eq_none (l:=aF 18446744073709551616 M T') (by rw[aq];omega),if_neg (by omega),if_neg (by omega),List.getElem?_eq_none (by rw[aq];omega)]
theorem rH{X i s x:Nat}(hs:s≤63)(hx:x=X/18446744073709551616^i%18446744073709551616):
  Nat.lor (X%18446744073709551616^i*2^s/18446744073709551616^i%18446744073709551616) (x*2^s%18446744073709551616)=X%18446744073709551616^(i+1)*2^s/18446744073709551616^i%18446744073709551616 ∧
  x/2^(64-s)=X%18446744073709551616^(i+1)*2^s/18446744073709551616^(i+1)%18446744073709551616 ∧
  X%18446744073709551616^(i+1)*2^s=X%18446744073709551616^i*2^s+18446744073709551616^i*(x*2^s) ∧
  X%18446744073709551616^i*2^s<18446744073709551616^(i+1):=by
 have hp:0<18446744073709551616^i:=Nat.pow_pos (by decide)
 have h2s:0<2^s:=Nat.two_pow_pos _
 have e64:2^s*2^(64-s)=18446744073709551616:=by rw[← Nat.pow_add,show s+(64-s)=64 by omega]
 have hxB:x<18446744073709551616:=by rw[hx];exact Nat.mod_lt _ (by decide)
 have hlow:X%18446744073709551616^i<18446744073709551616^i:=Nat.mod_lt _ hp
 have e1:X%18446744073709551616^(i+1)*2^s=X%18446744073709551616^i*2^s+18446744073709551616^i*(x*2^s):=by
  rw[Nat.pow_succ,Nat.mod_mul,← hx,Nat.add_mul,Nat.mul_assoc]
 have h2sB:2^s≤18446744073709551616:=by rw[← e64];exact Nat.le_mul_of_pos_right _ (Nat.two_pow_pos _)
 have hsmall:X%18446744073709551616^i*2^s<18446744073709551616^i*2^s:=Nat.mul_lt_mul_of_pos_right hlow h2s
 have hlt:X%18446744073709551616^i*2^s<18446744073709551616^(i+1):=by
  rw[Nat.pow_succ]
  exact Nat.lt_of_lt_of_le hsmall (Nat.mul_le_mul_left _ h2sB)
 have hc:X%18446744073709551616^i*2^s/18446744073709551616^i<2^s:=by
  rw[Nat.div_lt_iff_lt_mul hp,Nat.mul_comm (2^s)];exact hsmall
 have hdiv:X%18446744073709551616^(i+1)*2^s/18446744073709551616^i=X%18446744073709551616^i*2^s/18446744073709551616^i+x*2^s:=by
  rw[e1,Nat.add_mul_div_left _ _ hp]
 have hmod:x*2^s%18446744073709551616=2^s*(x%2^(64-s)):=by
  rw[← e64,Nat.mul_comm x,Nat.mul_mod_mul_left]
 have hdm:x*2^s=18446744073709551616*(x/2^(64-s))+2^s*(x%2^(64-s)):=by
  have:=Nat.div_add_mod x (2^(64-s))
  rw[← e64,Nat.mul_assoc,← Nat.mul_add,this,Nat.mul_comm]
 have hfit:X%18446744073709551616^i*2^s/18446744073709551616^i+2^s*(x%2^(64-s))<18446744073709551616:=by
  have h1:x%2^(64-s)<2^(64-s):=Nat.mod_lt _ (Nat.two_pow_pos _)
  have h2:2^s*(x%2^(64-s)+1)≤2^s*2^(64-s):=Nat.mul_le_mul_left _ h1
  rw[e64,Nat.mul_add,Nat.mul_one]at h2
  omega
 refine⟨?_,?_,e1,hlt⟩
 ·rw[hdiv,hmod,Nat.mod_eq_of_lt (Nat.lt_of_lt_of_le hc h2sB)]
  have e2:Nat.lor (X%18446744073709551616^i*2^s/18446744073709551616^i) (2^s*(x%2^(64-s)))=2^s*(x%2^(64-s))+X%18446744073709551616^i*2^s/18446744073709551616^i:=by
   rw[Nat.two_pow_add_eq_or_of_lt hc];exact Nat.or_comm _ _
  rw[e2]
  have e3:X%18446744073709551616^i*2^s/18446744073709551616^i+x*2^s=18446744073709551616*(x/2^(64-s))+(2^s*(x%2^(64-s))+X%18446744073709551616^i*2^s/18446744073709551616^i):=by rw[hdm];omega
  rw[e3,Nat.mul_add_mod,Nat.mod_eq_of_lt (a:=2^s*(x%2^(64-s))+X%18446744073709551616^i*2^s/18446744073709551616^i) (by rw[Nat.add_comm];exact hfit)]
 ·rw[Nat.pow_succ 18446744073709551616 i,← Nat.div_div_eq_div_mul,← Nat.pow_succ,hdiv,hdm,
   show X%18446744073709551616^i*2^s/18446744073709551616^i+(18446744073709551616*(x/2^(64-s))+2^s*(x%2^(64-s)))=18446744073709551616*(x/2^(64-s))+(2^s*(x%2^(64-s))+X%18446744073709551616^i*2^s/18446744073709551616^i) by omega,
   Nat.mul_add_div (by decide),Nat.div_eq_of_lt (a:=2^s*(x%2^(64-s))+X%18446744073709551616^i*2^s/18446744073709551616^i) (by omega),Nat.add_zero,Nat.mod_eq_of_lt (Nat.lt_of_le_of_lt (Nat.div_le_self _ _) hxB)]
def w9(call:Call)(p:ab):Prop:=∀ (L:List Obj) (j m c mx X s:Nat) (k:af),L[j]? = some (.cells (cw (aF 18446744073709551616 mx X)) 0)→m≤mx→X<18446744073709551616^m→m<67108864→s≤63 →
 call p [.slc (nm j) 0 m (.exact c),.int .i64 (.ofNat s)] (hp L) k=k (.slc (nm L.length) 0 (m+1) (.exact (m+1))) (hp (L++[.cells (cw (aF 18446744073709551616 (m+1) (X*2^s))) 0]))
theorem DA(call:Call)(L:List Obj)(j m c mx X s:Nat)(k:af)(hj:L[j]? = some (.cells (cw (aF 18446744073709551616 mx X)) 0))(hm:m≤mx)(hX:X<18446744073709551616^m)(hmm:m<67108864)(hs:s≤63):
  yl call [.slc (nm j) 0 m (.exact c),.int .i64 (.ofNat s)] (hp L) k=k (.slc (nm L.length) 0 (m+1) (.exact (m+1))) (hp (L++[.cells (cw (aF 18446744073709551616 (m+1) (X*2^s))) 0])):=by
 simp only[yl,zH,aI]
 rw[aK,bW (by omega),kN (Nat.le_refl _) (by omega) (by omega),aK,iX,← iP (β:=18446744073709551616)]
 refine bM mO call _ _ _ (λi fr h=>∃ g4 g7 g8 g9,fr=⟨⟨.slc (nm j) 0 m (.exact c),.int .i64 (.ofNat s),.int .i64 (.ofNat i),.int .i64 (.ofNat m),g4,.slc (nm j) 0 m (.exact c),.slc (nm L.length) 0 (m+1) (.exact (m+1)),g7⟩,⟨g8,g9,.nils,.undef,.undef,.undef,.undef,.undef⟩,i8,i8,i8,i8,i8,i8⟩∧h=hp (L++[.cells (cw (aF 18446744073709551616 (m+1) (X%18446744073709551616^i*2^s))) 0])) m _ _ _ ⟨.undef,.undef,.undef,.undef,rfl,?_⟩ ?_ ?_ (by omega)
 ·rw[Nat.pow_zero,Nat.mod_one,Nat.zero_mul]
 ·rintro i fr h hi ⟨g4,g7,g8,g9,rfl,rfl⟩
  have hl:(L++[Obj.cells (cw (aF 18446744073709551616 (m+1) (X%18446744073709551616^i*2^s))) 0])[j]? = some (.cells (cw (aF 18446744073709551616 mx X)) 0):=by rw[List.getElem?_append_left (List.getElem?_eq_some_iff.mp hj).1,hj]
  obtain⟨d1,d2,d3,d4⟩:=rH (X:=X) (i:=i) hs rfl
  have hxB:X/18446744073709551616^i%18446744073709551616<18446744073709551616:=Nat.mod_lt _ (by decide)
  have htwo:=NT (M:=m+1) (i:=i) (T:=X%18446744073709551616^i*2^s) (T':=X%18446744073709551616^(i+1)*2^s) (by omega) (λp hp=>by rw[d3,i3 _ _ _ _ hp (by decide)]) (λp hp=>by
   have h5:=(rH (X:=X) (i:=i+1) hs rfl).2.2.2
   rw[dt (Nat.lt_of_lt_of_le h5 (Nat.pow_le_pow_right (by decide) (by omega))),dt (Nat.lt_of_lt_of_le d4 (Nat.pow_le_pow_right (by decide) (by omega)))])
  refine⟨_,_,⟨.bool true,.int .i64 (.ofNat i),.int .u64 (.ofNat (X/18446744073709551616^i%18446744073709551616)),.bool (decide (0<s)),rfl,rfl⟩,λkn=>?_⟩
  simp only[mO,aI]
  rw[dz hi]
  simp only[aI]
  rw[bw hi,aR hl (v:=.int .u64 (.ofNat (X/18446744073709551616^i%18446744073709551616))) (by rw[cw,List.getElem?_map,bb _ _ _ _ (by omega)];rfl),
   bw (by omega),aR (aO L _) (v:=.int .u64 (.ofNat (X%18446744073709551616^i*2^s/18446744073709551616^i%18446744073709551616))) (by rw[cw,List.getElem?_map,bb _ _ _ _ (by omega)];rfl),
   AK (by omega),Fe (Nat.mod_lt _ (by decide)) (Nat.mod_lt _ (by decide)),bw (by omega),dQ (aO L _) (by rw[aS,aq];omega),fh,cU,d1]
  by_cases h0:0<s
  ·rw[jf h0,decide_eq_true h0]
   simp only[aI]
   rw[bW (by omega),eE (by omega) (by omega),dP (by omega),bw (by omega),dQ (aO L _) (by rw[aS,List.length_set,aq];omega),bW (by omega),fh,cU,d2,htwo]
  ·have hs0:s=0:=by omega
   rw[jl (by omega),decide_eq_false h0]
   simp only[aI]
   rw[bW (by omega),← htwo,← d2]
   congr 2
   congr 1
   congr 1
   congr 1
   congr 1
   rw[hs0]
   have e1:X/18446744073709551616^i%18446744073709551616/2^(64-0)=0:=Nat.div_eq_of_lt hxB
   rw[e1]
   apply List.ext_getElem?
   intro p
   rw[List.getElem?_set (i:=i+1)]
   by_cases e:i+1=p
   ·subst e
    rw[if_pos rfl,List.length_set,aq,if_pos (by omega),List.getElem?_set_ne (by omega),bb _ _ _ _ (by omega)]
    rw[hs0]at d4
    rw[dt d4]
   ·rw[if_neg e]
 ·rintro fr h ⟨g4,g7,g8,g9,rfl,rfl⟩ kn
  simp only[mO,aI]
  rw[dC (Nat.le_refl _)]
  simp only[aI]
  rw[Nat.mod_eq_of_lt hX]
end Go.Ai
namespace Go.Ai
variable [Nu]
def dn(m r:Nat):AV:=if r<m then .int .i64 (.ofNat (m-1-r)) else .int .i64 (.negSucc 0)
theorem kj{m r:Nat}(h:r<m):dn m r = .int .i64 (.ofNat (m-1-r)):=if_pos h
theorem pZ(m:Nat):dn m m = .int .i64 (.negSucc 0):=if_neg (Nat.lt_irrefl m)
theorem rE{m r:Nat}(h:r<m)(hm:m<9223372036854775808)(H:H)(k:AV→Go.Ai.H→aa):yD (.int .i64 (.ofNat (m-1-r))) (.int .i64 (.ofNat 1)) H k=k (dn m (r+1)) H:=by
 by_cases e:r+1<m
 ·rw[eE (by omega) (by omega),kj e,show m-1-r-1=m-1-(r+1) by omega]
 ·rw[show m-1-r=0 by omega,dn,if_neg e];rfl
theorem tf{m:Nat}(hm:m<9223372036854775808)(H:H)(k:AV→Go.Ai.H→aa):yD (.int .i64 (.ofNat m)) (.int .i64 (.ofNat 1)) H k=k (dn m 0) H:=by
 by_cases e:0<m
 ·rw[eE (by omega) (by omega),kj e];rfl
 ·rw[show m=0 by omega,dn,if_neg (by omega)];rfl
theorem iN(H:H)(k:AV→Go.Ai.H→aa):m9 (.int .i64 (.negSucc 0)) (.int .i64 (.ofNat 0)) H k=k (.bool false) H:=rfl
def nH(X Y:Nat):AV:=if X<Y then .int .i64 (.negSucc 0) else if Y<X then .int .i64 (.ofNat 1) else .int .i64 (.ofNat 0)
theorem G1{X Y:Nat}(hne:X≠Y):∀ m,X<18446744073709551616^m→Y<18446744073709551616^m→∃ p,p<m∧X/18446744073709551616^(p+1)=Y/18446744073709551616^(p+1)∧X/18446744073709551616^p≠Y/18446744073709551616^p:=by
 have key:∀ m,X/18446744073709551616^m=Y/18446744073709551616^m→∃ p,p<m∧X/18446744073709551616^(p+1)=Y/18446744073709551616^(p+1)∧X/18446744073709551616^p≠Y/18446744073709551616^p:=by
  intro m
  induction m with
  | zero=>intro h;rw[Nat.pow_zero,Nat.div_one,Nat.div_one]at h;exact absurd h hne
  | succ m ih =>
   intro h
   by_cases e:X/18446744073709551616^m=Y/18446744073709551616^m
   ·obtain⟨p,h1,h2⟩:=ih e
    exact⟨p,by omega,h2⟩
   ·exact⟨m,by omega,h,e⟩
 intro m hX hY
 exact key m (by rw[Nat.div_eq_of_lt hX,Nat.div_eq_of_lt hY])
theorem Kh{X Y p i:Nat}(h:X/18446744073709551616^p=Y/18446744073709551616^p)(hi:p≤i):X/18446744073709551616^i=Y/18446744073709551616^i:=by
 rw[show i=p+(i-p) by omega,Nat.pow_add,← Nat.div_div_eq_div_mul,← Nat.div_div_eq_div_mul,h]
theorem Bv{X Y p:Nat}(h1:X/18446744073709551616^(p+1)=Y/18446744073709551616^(p+1))(h2:X/18446744073709551616^p≠Y/18446744073709551616^p):
  X/18446744073709551616^p%18446744073709551616≠Y/18446744073709551616^p%18446744073709551616∧(X/18446744073709551616^p%18446744073709551616<Y/18446744073709551616^p%18446744073709551616↔X<Y):=by
 rw[Nat.pow_succ,← Nat.div_div_eq_div_mul,← Nat.div_div_eq_div_mul]at h1
 have hx:=Nat.div_add_mod (X/18446744073709551616^p) 18446744073709551616
 have hy:=Nat.div_add_mod (Y/18446744073709551616^p) 18446744073709551616
 refine⟨λe=>h2 (by rw[← hx,← hy,h1,e]),λh=>?_,λh=>?_⟩
 ·have h3:X/18446744073709551616^p<Y/18446744073709551616^p:=by rw[← hx,← hy,h1];exact Nat.add_lt_add_left h _
  exact Nat.lt_of_not_le λh4=>Nat.not_lt.2 (Nat.div_le_div_right h4) h3
 ·have h3:X/18446744073709551616^p≤Y/18446744073709551616^p:=Nat.div_le_div_right (Nat.le_of_lt h)
  have h4:=Nat.lt_of_le_of_ne h3 h2
  rw[← hx,← hy,h1]at h4
  exact Nat.lt_of_add_lt_add_left h4
def I6(call:Call)(p:ab):Prop:=∀ (L:List Obj) (jx jy m n cx cy mx my X Y:Nat) (k:af),L[jx]? = some (.cells (cw (aF 18446744073709551616 mx X)) 0)→L[jy]? = some (.cells (cw (aF 18446744073709551616 my Y)) 0)→m≤mx→n≤my→X<18446744073709551616^m→Y<18446744073709551616^n→(m=0∨18446744073709551616^(m-1)≤X)→(n=0∨18446744073709551616^(n-1)≤Y)→m<67108864→n<67108864 →
 call p [.slc (nm jx) 0 m (.exact cx),.slc (nm jy) 0 n (.exact cy)] (hp L) k=k (nH X Y) (hp L)
theorem CN{L:List Obj}{jx jy m cx cy mx my X Y:Nat}(hx:L[jx]? = some (.cells (cw (aF 18446744073709551616 mx X)) 0))(hy:L[jy]? = some (.cells (cw (aF 18446744073709551616 my Y)) 0))(hm:m≤mx)(hn:m≤my)(hX:X<18446744073709551616^m)(hY:Y<18446744073709551616^m)(hmm:m<67108864)
  (call:Call) (k:af) (ke:Nat→ar→H→aa) (kn:ar→H→aa) (g2 g3:AV)
  (hke:∀ g4 g5 g6,X=Y→ke 0 ⟨⟨.slc (nm jx) 0 m (.exact cx),.slc (nm jy) 0 m (.exact cy),g2,g3,g4,g5,g6,.undef⟩,⟨.int .i64 (.ofNat 0),.undef,.undef,.undef,.undef,.undef,.undef,.undef⟩,i8,i8,i8,i8,i8,i8⟩ (hp L)=k (nH X Y) (hp L)) :
  kL gD call (r1 cY k) ke kn ⟨⟨.slc (nm jx) 0 m (.exact cx),.slc (nm jy) 0 m (.exact cy),g2,g3,dn m 0,.undef,.undef,.undef⟩,⟨.int .i64 (.ofNat 0),.undef,.undef,.undef,.undef,.undef,.undef,.undef⟩,i8,i8,i8,i8,i8,i8⟩ (hp L)=k (nH X Y) (hp L):=by
 by_cases hXY:X=Y
 ·refine bM gD call _ _ _ (λr fr h=>∃ g5 g6,fr=⟨⟨.slc (nm jx) 0 m (.exact cx),.slc (nm jy) 0 m (.exact cy),g2,g3,dn m r,g5,g6,.undef⟩,⟨.int .i64 (.ofNat 0),.undef,.undef,.undef,.undef,.undef,.undef,.undef⟩,i8,i8,i8,i8,i8,i8⟩∧h=hp L) m _ _ _ ⟨.undef,.undef,rfl,rfl⟩ ?_ ?_ (by omega)
  ·rintro r fr h hr ⟨g5,g6,rfl,rfl⟩
   refine⟨_,_,⟨.bool true,.bool false,rfl,rfl⟩,λkn=>?_⟩
   rw[kj hr]
   simp only[gD,aI]
   rw[cL (Nat.zero_le _)]
   simp only[aI]
   rw[bw (by omega),aR hx (v:=.int .u64 (.ofNat (X/18446744073709551616^(m-1-r)%18446744073709551616))) (by rw[cw,List.getElem?_map,bb _ _ _ _ (by omega)];rfl),
    bw (by omega),aR hy (v:=.int .u64 (.ofNat (Y/18446744073709551616^(m-1-r)%18446744073709551616))) (by rw[cw,List.getElem?_map,bb _ _ _ _ (by omega)];rfl),wD (by rw[hXY])]
   simp only[aI]
   rw[rE hr (by omega)]
  ·rintro fr h ⟨g5,g6,rfl,rfl⟩ kn
   rw[pZ]
   simp only[gD,aI]
   rw[iN]
   simp only[aI]
   exact hke _ _ _ hXY
 ·obtain⟨p,hp1,hp2,hp3⟩:=G1 hXY m hX hY
  obtain⟨ho1,ho2⟩:=Bv hp2 hp3
  refine bM gD call _ _ _ (λr fr h=>∃ g5 g6,fr=⟨⟨.slc (nm jx) 0 m (.exact cx),.slc (nm jy) 0 m (.exact cy),g2,g3,dn m r,g5,g6,.undef⟩,⟨.int .i64 (.ofNat 0),.undef,.undef,.undef,.undef,.undef,.undef,.undef⟩,i8,i8,i8,i8,i8,i8⟩∧h=hp L) (m-1-p) _ _ _ ⟨.undef,.undef,rfl,rfl⟩ ?_ ?_ (by omega)
  ·rintro r fr h hr ⟨g5,g6,rfl,rfl⟩
   refine⟨_,_,⟨.bool true,.bool false,rfl,rfl⟩,λkn=>?_⟩
   rw[kj (m:=m) (r:=r) (by omega)]
   simp only[gD,aI]
   rw[cL (Nat.zero_le _)]
   simp only[aI]
   rw[bw (by omega),aR hx (v:=.int .u64 (.ofNat (X/18446744073709551616^(m-1-r)%18446744073709551616))) (by rw[cw,List.getElem?_map,bb _ _ _ _ (by omega)];rfl),
    bw (by omega),aR hy (v:=.int .u64 (.ofNat (Y/18446744073709551616^(m-1-r)%18446744073709551616))) (by rw[cw,List.getElem?_map,bb _ _ _ _ (by omega)];rfl),wD (by rw[Kh hp2 (by omega)])]
   simp only[aI]
   rw[rE (by omega) (by omega)]
  ·rintro fr h ⟨g5,g6,rfl,rfl⟩ kn
   rw[kj (by omega),show m-1-(m-1-p)=p by omega]
   simp only[gD,aI]
   rw[cL (Nat.zero_le _)]
   simp only[aI]
   rw[bw (by omega),aR hx (v:=.int .u64 (.ofNat (X/18446744073709551616^p%18446744073709551616))) (by rw[cw,List.getElem?_map,bb _ _ _ _ (by omega)];rfl),
    bw (by omega),aR hy (v:=.int .u64 (.ofNat (Y/18446744073709551616^p%18446744073709551616))) (by rw[cw,List.getElem?_map,bb _ _ _ _ (by omega)];rfl),D8 ho1]
   simp only[aI]
   rw[bw (by omega),aR hx (v:=.int .u64 (.ofNat (X/18446744073709551616^p%18446744073709551616))) (by rw[cw,List.getElem?_map,bb _ _ _ _ (by omega)];rfl),
    bw (by omega),aR hy (v:=.int .u64 (.ofNat (Y/18446744073709551616^p%18446744073709551616))) (by rw[cw,List.getElem?_map,bb _ _ _ _ (by omega)];rfl)]
   by_cases hlt:X<Y
   ·rw[dz (ho2.2 hlt),nH,if_pos hlt]
    simp only[aI]
   ·rw[dC (Nat.le_of_not_lt λh=>hlt (ho2.1 h)),nH,if_neg hlt,if_pos (by omega)]
    simp only[aI]
theorem FH(call:Call)(L:List Obj)(jx jy m n cx cy mx my X Y:Nat)(k:af)(hx:L[jx]? = some (.cells (cw (aF 18446744073709551616 mx X)) 0))(hy:L[jy]? = some (.cells (cw (aF 18446744073709551616 my Y)) 0))(hm:m≤mx)(hn:n≤my)(hX:X<18446744073709551616^m)(hY:Y<18446744073709551616^n)(hm0:m=0∨18446744073709551616^(m-1)≤X)(hn0:n=0∨18446744073709551616^(n-1)≤Y)(hmm:m<67108864)(hnn:n<67108864):
  Fm call [.slc (nm jx) 0 m (.exact cx),.slc (nm jy) 0 n (.exact cy)] (hp L) k=k (nH X Y) (hp L):=by
 simp only[Fm,Fp,aI]
 rw[aK,aK]
 by_cases hmn:m=n
 ·subst hmn
  rw[wD rfl]
  simp only[aI]
  rw[aK,tf (by omega)]
  refine CN hx hy hm hn hX hY hmm call _ _ _ _ _ λg4 g5 g6 he=>?_
  simp only[aI]
  rw[nH,if_neg (by omega),if_neg (by omega)]
 ·rw[D8 hmn]
  simp only[aI]
  rw[aK,aK]
  by_cases hlt:m<n
  ·have h1:18446744073709551616^m≤18446744073709551616^(n-1):=Nat.pow_le_pow_right (by decide) (by omega)
   have h2:=hn0.resolve_left (by omega)
   rw[dz hlt,nH,if_pos (Nat.lt_of_lt_of_le hX (Nat.le_trans h1 h2))]
   simp only[aI]
  ·have h1:18446744073709551616^n≤18446744073709551616^(m-1):=Nat.pow_le_pow_right (by decide) (by omega)
   have h2:=hm0.resolve_left (by omega)
   have h3:=Nat.lt_of_lt_of_le hY (Nat.le_trans h1 h2)
   rw[dC (by omega),nH,if_neg (by omega),if_pos h3]
   simp only[aI]
end Go.Ai
