/- Slices that are appended to: the operations on them, as equations. galoisref01: trim, limbs. galoisref01: pack. galoisref01.DivMod: the arithmetic. galoisref01: below. galoisref01.DivMod: a multiple is taken from the rest. galoisref01.DivMod, galoisref01.Gcd. galoisref01.Mul. -/
import Derived.Test.YtdnehjkbflffcaaGreatDoorX3
set_option linter.unusedVariables false
set_option autoImplicit false
set_option linter.unusedSectionVars false
set_option linter.unusedSimpArgs false
namespace Go.Ai
variable [Nu]
section
variable {h:H}{k:af}{kd kd':IntKind}{l:List Obj}
theorem uv{o:ab}{i d lo hi:Nat}(h1:lo≤hi)(h2:hi≤d)(h3:lo<d∨lo=0):cutSlc 1 o i lo hi d .opn false h k=k (.slc o (i+lo) (hi-lo) (.opn (d-lo))) h:=by
 show must 12 (Nat.ble lo hi) (must 12 (Nat.ble hi d) (forceN (hi-lo) λn=>forceN (d-lo) λc' =>
  ifC (Nat.blt lo d) (forceN (i+lo*1) λi=>k (.slc o i n (.opn c')) h) (Bool.rec (motive:=λ_=>aa) (forceN (i+lo*1) λi=>k (.sle o i) h) (k (.slc o i n (.opn c')) h) (Nat.beq lo 0))))=_
 rw[Nat.ble_eq.mpr h1,Nat.ble_eq.mpr h2,aw,aw,ao,ao]
 by_cases h4:lo<d
 ·rw[az,decide_eq_true h4,a7,ao,Nat.mul_one]
 ·have h0:lo=0:=by omega
  subst h0
  rw[az,decide_eq_false h4,a5];rfl
theorem F5{o:ab}{i n d hi:Nat}(h2:hi≤d):yX 1 (.slc o i n (.opn d)) none (some (.int kd (.ofNat hi))) none h k=k (.slc o i hi (.opn d)) h :=
 uv (Nat.zero_le hi) h2 (.inr rfl)
theorem rb{o:ab}{i n d lo:Nat}(h1:lo≤n)(h2:n≤d)(h3:lo<d∨lo=0):yX 1 (.slc o i n (.opn d)) (some (.int kd (.ofNat lo))) none none h k=k (.slc o (i+lo) (n-lo) (.opn (d-lo))) h :=
 uv h1 h2 h3
theorem D0{j e:Nat}{v:AV}(hj:l[j]? = some (.cells [v] e))(K:Nat→List AV→aa):km 1 (.slc (nm j) 0 1 (.exact 1)) (hp l) K=K 1 [v]:=by
 show must 12 (Nat.ble 1 1) (bD (nm j) (hp l) λcs _=>ltake (Nat.mul 1 1) cs λcs=>K 1 cs)=_
 rw[jj hj];rfl
theorem D7{b e es j:Nat}{v:AV}(hj:l[j]? = some (.cells [v] e))(hb:b<1073741824):
  r8 1 b es .nils (.slc (nm j) 0 1 (.exact 1)) (hp l) k=k (.slc (nm l.length) 0 1 (.opn 1)) (hp (l++[.cells [v] es])):=by
 unfold r8
 rw[D0 hj]
 show must 12 (Nat.ble (1*(b+1)) 1073741824) (cW (.cells [v] es) (hp l) λo h=>k (.slc o 0 1 (.opn 1)) h)=_
 rw[Nat.ble_eq.mpr (by omega),aw,lc]
theorem EP{b e es j jx n:Nat}{v:AV}{cs:List AV}(hj:l[j]? = some (.cells [v] e))(hx:l[jx]? = some (.cells cs es))(hn:cs.length=n)(hv:v.scal=true)(hb:(n+1)*(b+1)≤1073741824):
  r8 1 b es (.slc (nm jx) 0 n (.opn n)) (.slc (nm j) 0 1 (.exact 1)) (hp l) k=k (.slc (nm l.length) 0 (n+1) (.opn (n+1))) (hp (l.set jx .dead++[.cells (cs++[v]) es])):=by
 unfold r8
 rw[D0 hj]
 show bD (nm jx) (hp l) (λcs es'=>must 12 (Nat.ble ((n+1)*(b+1)) 1073741824) (ltake (n*1) cs λold =>
  ifC (Nat.ble (n+1) n) (lU 1 (nm jx) 0 n 1 (.opn n) [v] cs es' (hp l) k)
   (must 12 (bL [v]) (must 12 (Nat.beq es' es) (must 12 (Nat.beq (0+n*1) (aW cs)) (must 12 (Nat.ble n n) (dY (nm jx) .dead (hp l) λh=>gm es (n+1) (cZ old [v]) h k)))))))=_
 rw[jj hx,Nat.ble_eq.mpr hb,aw,Nat.mul_one,om n _ _ (Nat.le_of_eq hn.symm),← hn,List.take_length]
 have e1:Nat.ble (cs.length+1) cs.length=false:=by
  cases hh:Nat.ble (cs.length+1) cs.length with
  | false=>rfl
  | true=>exact absurd (Nat.le_of_ble_eq_true hh) (Nat.not_succ_le_self _)
 have e2:bL [v]=true:=by show Bool.rec (motive:=λ_=>Bool) false true v.scal=true;rw[hv]
 rw[e1,a5,e2,aw,Nat.beq_refl,aw,cf,Nat.zero_add,Nat.beq_refl,aw,Nat.ble_eq.mpr (Nat.le_refl _),aw,aV,vH _ _ _ (List.getElem?_eq_some_iff.mp hx).1,gB]
 show jp (cs++[v]) (λcs'=>cW (.cells cs' es) (hp (l.set jx .dead)) λo h=>forceN (cs.length+1) λn=>k (.slc o 0 n (.opn n)) h)=_
 rw[a9,lc,ao,List.length_set]
end
def lh(f:Nat→AV)(es:Nat)(L g:List Obj)(v:AV)(ws:List Nat):Prop :=
 (v = .nils∧ws=[])∨∃ j,L.length≤j∧v = .slc (nm j) 0 ws.length (.opn ws.length)∧(L++g)[j]? = some (.cells (ws.map f) es)
theorem grow{f:Nat→AV}(hf:∀ w,(f w).cells=[f w])(hs:∀ w,(f w).scal=true){b es:Nat}(z:AV){L g:List Obj}{v:AV}{ws:List Nat}(w:Nat)(hG:lh f es L g v ws)(hb:(ws.length+1)*(b+1)≤1073741824):
  ∃ v' g',lh f es L g' v' (ws++[w])∧∀ k:af,(rP 1 [z] [⟨0,1,f w⟩] (hp (L++g)) λa h=>r8 1 b es v a h k)=k v' (hp (L++g')):=by
 rcases hG with ⟨rfl,rfl⟩|⟨j,hj,rfl,ho⟩
 ·refine⟨_,g++[Obj.cells [f w] 0]++[Obj.cells [f w] es],.inr ⟨(L++(g++[Obj.cells [f w] 0])).length,by simp,rfl,?_⟩,λk=>?_⟩
  ·rw[← List.append_assoc];exact aO _ _
  ·rw[wt z _ (hf w),D7 (aO _ _) (by simp at hb;omega)]
   simp only[List.append_assoc];rfl
 ·have hjl:=(List.getElem?_eq_some_iff.mp ho).1
  refine⟨_,(g.set (j-L.length) Obj.dead)++[Obj.cells [f w] 0]++[Obj.cells (ws.map f++[f w]) es],.inr ⟨(L++(g++[Obj.cells [f w] 0])).length,by simp,rfl,?_⟩,λk=>?_⟩
  ·have e:(L++(g++[Obj.cells [f w] 0])).length=(L++(g.set (j-L.length) .dead++[Obj.cells [f w] 0])).length:=by simp
   rw[e,← List.append_assoc,List.map_append];exact aO _ _
  ·rw[wt z _ (hf w),EP (aO _ _) (cD ho) (by simp) (hs w) hb,List.set_append_left _ _ hjl,List.set_append_right _ _ hj]
   simp only[List.append_assoc,List.length_append,List.length_singleton]
end Go.Ai
namespace Go.Ai
theorem sA{cs:List AV}{i:Nat}{ws:List Nat}(hw:(cs.drop i).take ws.length=cw ws){p w:Nat}(h:ws[p]? = some w):cs[i+p]? = some (.int .u64 (.ofNat w)):=by
 have hi:p<ws.length:=(List.getElem?_eq_some_iff.mp h).1
 have e:((cs.drop i).take ws.length)[p]? = cs[i+p]?:=by rw[List.getElem?_take,if_pos hi,List.getElem?_drop]
 rw[← e,hw,cw,List.getElem?_map,h];rfl
theorem aaj:J4 = .int .i64 (.ofNat 4):=id rfl
theorem QB(t:List Nat):∀ c,t.foldl (λa b=>a*256+b) c=c*256^t.length+aB t:=by
 induction t with
 | nil=>intro c;simp[aB]
 | cons b t ih =>
  intro c
  have e:aB (b::t)=b*256^t.length+aB t:=by
   show t.foldl (λa b=>a*256+b) (0*256+b)=_
   rw[ih,Nat.zero_mul,Nat.zero_add]
  show t.foldl (λa b=>a*256+b) (c*256+b)=_
  rw[ih,e,List.length_cons,Nat.pow_succ,Nat.add_mul,Nat.mul_assoc,Nat.mul_comm 256,Nat.add_assoc]
theorem tk(s t:List Nat):aB (s++t)=aB s*256^t.length+aB t:=by
 show (s++t).foldl (λa b=>a*256+b) 0=_
 rw[List.foldl_append,QB];rfl
theorem kf(b:Nat)(t:List Nat):aB (b::t)=b*256^t.length+aB t:=by
 rw[show b::t=[b]++t from rfl,tk]
 show (0*256+b)*_+_=_
 rw[Nat.zero_mul,Nat.zero_add]
theorem vK(i:Nat):4294967296^i=256^(4*i):=by rw[show (4294967296:Nat)=256^4 from rfl,← Nat.pow_mul]
theorem BS{s:List Nat}(hs:∀ b ∈ s,b<256){i:Nat}(h:4*i<s.length):
  aB ((s.drop (s.length-4*i-4)).take (s.length-4*i-(s.length-4*i-4)))=aB s/4294967296^i%4294967296:=by
 obtain⟨e,he⟩ : ∃ e,s.length-4*i=e:=⟨_,rfl⟩
 rw[he]
 have hte:s=s.take e++s.drop e:=(List.take_append_drop e s).symm
 have h1:aB s/4294967296^i=aB (s.take e):=by
  have h2:(s.drop e).length=4*i:=by rw[List.length_drop];omega
  have h3:aB (s.drop e)<256^(4*i):=by rw[← h2];exact d7 _ λb hb=>hs b (List.mem_of_mem_drop hb)
  have h4:=tk (s.take e) (s.drop e)
  rw[List.take_append_drop,h2]at h4
  rw[vK,h4,Nat.mul_comm,Nat.mul_add_div (Nat.pow_pos (by decide)),Nat.div_eq_of_lt h3,Nat.add_zero]
 rw[h1]
 have h5:s.take e=s.take (e-4)++(s.drop (e-4)).take (e-(e-4)):=by
  rw[← List.take_add,show e-4+(e-(e-4))=e by omega]
 have h6:((s.drop (e-4)).take (e-(e-4))).length=e-(e-4):=by rw[List.length_take,List.length_drop];omega
 have h7:=tk (s.take (e-4)) ((s.drop (e-4)).take (e-(e-4)))
 rw[← h5,h6]at h7
 have h8:aB ((s.drop (e-4)).take (e-(e-4)))<256^(e-(e-4)):=by
  have:=d7 ((s.drop (e-4)).take (e-(e-4))) λb hb=>hs b (List.mem_of_mem_drop (List.mem_of_mem_take hb))
  rwa [h6]at this
 rw[h7]
 by_cases h4:4≤e
 ·rw[show e-(e-4)=4 by omega]at h8 ⊢
  rw[show (256:Nat)^4=4294967296 from rfl]at h8 ⊢
  rw[Nat.mul_comm,Nat.mul_add_mod,Nat.mod_eq_of_lt h8]
 ·have h0:e-4=0:=by omega
  rw[h0]at h8 ⊢
  have h9:256^(e-0)≤256^4:=Nat.pow_le_pow_right (by decide) (by omega)
  have h10:aB (s.take 0)=0:=by simp[aB]
  rw[h10,Nat.zero_mul,Nat.zero_add,Nat.mod_eq_of_lt (Nat.lt_of_lt_of_le h8 h9)]
theorem Bo(β m X:Nat):aF β (m+1) X=aF β m X++[X/β^m%β]:=by simp[aF,List.range_succ]
theorem LR{β m X:Nat}(hm:0<m)(h1 : β^(m-1)≤X)(h2:X<β^m):tl (aF β m X)=m:=by
 have hβ : 0<β^(m-1):=Nat.pos_of_ne_zero λe=>by
  have : β^m=0:=by rw[show m=m-1+1 by omega,Nat.pow_succ,e,Nat.zero_mul]
  omega
 refine Pg (Nat.le_of_eq (aq _ _ _).symm) (λi w hi h=>?_) (.inr ⟨_,bb _ _ _ _ (by omega),?_⟩)
 ·rw[List.getElem?_eq_none (by rw[aq];exact hi)]at h;cases h
 ·rw[Nat.mod_eq_of_lt (by rw[Nat.div_lt_iff_lt_mul hβ,← Nat.pow_succ',show (m-1).succ=m by omega];exact h2)]
  exact Nat.pos_iff_ne_zero.mp (Nat.div_pos h1 hβ)
variable [Nu]
theorem G9(call:Call)(h:H)(k:af):vr call [.nils] h k=k .nils h:=by
 rw[vr,qU,wP,av,aG,kl,av,dH]
 refine bM jV call _ _ _ (λi fr h'=>fr=⟨.nils,.undef,.nils,.undef,.undef,.undef,.undef,.undef⟩∧h'=h) 0 _ _ _ ⟨rfl,rfl⟩ (λi fr h' hi=>by omega) ?_ (by decide)
 rintro fr h' ⟨rfl,rfl⟩ kn
 have e:∀ k,bN .nils h' k=k (.int .i64 (.ofNat 0)) h':=λ_=>rfl
 rw[jV,av,av,aG,gI,e,eN,jl (Nat.le_refl _)]
 simp only[eB]
theorem G2{l:List Obj}{j es i d:Nat}{cs:List AV}{ws:List Nat}(hj:l[j]? = some (.cells cs es))(hw:(cs.drop i).take ws.length=cw ws)(hc:ws.length≤d)(hm:ws.length<1073741824)(call:Call)(k:af):
  vr call [.slc (nm j) i ws.length (.opn d)] (hp l) k=k (.slc (nm j) i (tl ws) (.opn d)) (hp l):=by
 have htl:=nv ws
 rw[vr,qU,wP,av,aG,kl,av,dH]
 refine bM jV call _ _ _ (λr fr h=>∃ x1,fr=⟨.slc (nm j) i (ws.length-r) (.opn d),x1,.nils,.undef,.undef,.undef,.undef,.undef⟩∧h=hp l) (ws.length-tl ws) _ _ _ ⟨_,rfl,rfl⟩ ?_ ?_ (by omega)
 ·rintro r fr h hi ⟨x1,rfl,rfl⟩
  obtain⟨w,hw1⟩ : ∃ w,ws[ws.length-r-1]? = some w:=⟨_,List.getElem?_eq_getElem (by omega)⟩
  have hz:w=0:=mS ws _ w (by omega) hw1
  refine⟨_,_,⟨.bool true,rfl,rfl⟩,λkn=>?_⟩
  simp only[jV,eB]
  rw[aK,jf (by omega)]
  simp only[eB]
  rw[aK,eE (by omega) (by omega),iz (by omega),aR hj (sA hw hw1),kb hz]
  simp only[eB]
  rw[aK,eE (by omega) (by omega),F5 (by omega),show ws.length-r-1=ws.length-(r+1) by omega]
 ·rintro fr h ⟨x1,rfl,rfl⟩ kn
  rw[show ws.length-(ws.length-tl ws)=tl ws by omega]
  simp only[jV,eB]
  cases ht:tl ws with
  | zero =>
   rw[aK,jl (by omega)]
   simp only[eB]
  | succ n =>
   obtain⟨w,h1,h2⟩:=mH ws n ht
   rw[aK,jf (by omega)]
   simp only[eB]
   rw[aK,eE (by omega) (by omega),iz (by omega),aR hj (sA hw (by simpa using h1)),lR h2]
   simp only[eB]
def sH(call:Call)(p:ab):Prop :=
 (∀ (h:H) (k:af),call p [.nils] h k=k .nils h) ∧
 ∀ (l:List Obj) (j es i d:Nat) (cs:List AV) (ws:List Nat) (k:af),l[j]? = some (.cells cs es)→(cs.drop i).take ws.length=cw ws→ws.length≤d→ws.length<1073741824 →
  call p [.slc (nm j) i ws.length (.opn d)] (hp l) k=k (.slc (nm j) i (tl ws) (.opn d)) (hp l)
def NN(n i:Nat):AV:=if 4*i≤n then .int .i64 (.ofNat (n-4*i)) else .int .i64 (.negSucc (4*i-n-1))
theorem Af{n i:Nat}(h:4*i<n)(hn:n<1073741824)(H:H)(k:af):yD (.int .i64 (.ofNat (n-4*i))) (.int .i64 (.ofNat 4)) H k=k (NN n (i+1)) H:=by
 unfold NN
 by_cases e:4*(i+1)≤n
 ·rw[if_pos e,eE (by omega) (by omega),show n-4*i-4=n-4*(i+1) by omega]
 ·rw[if_neg e]
  obtain⟨a,ha,ha4⟩ : ∃ a,n-4*i=a∧a<4:=⟨_,rfl,by omega⟩
  have e2:4*(i+1)-n-1=3-a:=by omega
  rw[ha,e2]
  have ha0:0<a:=by omega
  rcases (by omega:a=1∨a=2∨a=3)with rfl|rfl|rfl
  ·rfl
  ·rfl
  ·rfl
theorem MN{n:Nat}(H:H)(k:af):nE (NN n ((n+3)/4)) (.int .i64 (.ofNat 0)) H k=k (.bool false) H:=by
 unfold NN
 split
 ·exact jl (by omega)
 ·rfl
theorem Ni{n i:Nat}(h:4*i<n)(H:H)(k:af):GW (.int .i64 (.ofNat 0)) (NN n (i+1)) H k=k (.int .i64 (.ofNat (n-4*i-4))) H:=by
 unfold NN
 by_cases e:4*(i+1)≤n
 ·rw[if_pos e]
  unfold GW
  rw[bA]
  show ifC (Nat.blt 0 (n-4*(i+1))) _ _=_
  rw[az,show n-4*(i+1)=n-4*i-4 by omega]
  by_cases h0:0<n-4*i-4
  ·rw[decide_eq_true h0,a7]
  ·rw[decide_eq_false h0,a5,show n-4*i-4=0 by omega]
 ·rw[if_neg e,show n-4*i-4=0 by omega];rfl
def u64(n:Nat):AV:=.int .u64 (.ofNat n)
def LW(es lo:Nat)(L:List Obj)(v:AV)(m X:Nat):Prop :=
 (v = .nils∧m=0∧X=0)∨∃ j,lo≤j∧v = .slc (nm j) 0 m (.opn m)∧L[j]? = some (.cells (cw (aF 4294967296 m X)) es)∧0<m∧4294967296^(m-1)≤X∧X<4294967296^m
theorem xL{s:List Nat}(hs:∀ b ∈ s,b<256){a e:Nat}(hae:a≤e)(h4:e≤a+4)(hes:e≤s.length)(hl:s.length<1048576)(call:Call)(h:H)(x2 x4 x6:AV):
  ∃ x4',∀ kr ke kn0,kL jI call kr ke kn0 ⟨.str s,.int .i64 (.ofNat e),x2,.int .i64 (.ofNat a),x4,.int .u64 (.ofNat 0),x6,.nils⟩ h=ke 2 (⟨.str s,.int .i64 (.ofNat e),x2,.int .i64 (.ofNat e),x4',.int .u64 (.ofNat (aB ((s.drop a).take (e-a)))),x6,.nils⟩ : F8) h:=by
 have hlen:∀ j,j≤e-a→((s.drop a).take j).length=j:=λj hj=>by rw[List.length_take,List.length_drop];omega
 have hlt:∀ j,j≤e-a→aB ((s.drop a).take j)<256^j:=λj hj=>by
  have:=d7 ((s.drop a).take j) λb hb=>hs b (List.mem_of_mem_drop (List.mem_of_mem_take hb))
  rwa [hlen j hj]at this
 obtain⟨fr',h',⟨x4',rfl,rfl⟩,hrun⟩:=dl jI call (λj fr h'=>∃ x4,fr=(⟨.str s,.int .i64 (.ofNat e),x2,.int .i64 (.ofNat (a+j)),x4,.int .u64 (.ofNat (aB ((s.drop a).take j))),x6,.nils⟩ : F8)∧h'=h) (e-a) 2
  (λfr h'=>∃ x4,fr=(⟨.str s,.int .i64 (.ofNat e),x2,.int .i64 (.ofNat e),x4,.int .u64 (.ofNat (aB ((s.drop a).take (e-a)))),x6,.nils⟩ : F8)∧h'=h)
  ⟨.str s,.int .i64 (.ofNat e),x2,.int .i64 (.ofNat a),x4,.int .u64 (.ofNat 0),x6,.nils⟩ h ⟨x4,by simp[aB],rfl⟩ (by
   rintro j fr h' hj ⟨x4,rfl,rfl⟩
   obtain⟨b,hb⟩ : ∃ b,s[a+j]? = some b:=⟨_,List.getElem?_eq_getElem (by omega)⟩
   have hb2:b<256:=hs b (List.mem_of_getElem? hb)
   have o1:a+j<e:=by omega
   have o2:a+j+1<9223372036854775808:=by omega
   have o3:b<18446744073709551616:=Nat.lt_trans hb2 (by decide)
   have hd:(s.drop a)[j]? = some b:=by rw[List.getElem?_drop];exact hb
   obtain⟨hj1,hj2⟩:=List.getElem?_eq_some_iff.mp hd
   have hnext:aB ((s.drop a).take (j+1))=aB ((s.drop a).take j)*256+b:=by
    rw[← List.take_append_getElem hj1,mN,hj2]
   have hsm:=hlt (j+1) (by omega)
   rw[hnext]at hsm
   have hp:256^(j+1)≤256^4:=Nat.pow_le_pow_right (by decide) (by omega)
   rw[show (256:Nat)^4=4294967296 from rfl]at hp
   have hsm2:aB ((s.drop a).take j)*256+b<4294967296:=Nat.lt_of_lt_of_le hsm hp
   generalize hD:aB ((s.drop a).take j)=D at *
   have hB:D*256+b<18446744073709551616:=Nat.lt_trans hsm2 (by decide)
   have m1:D*256%18446744073709551616=D*256:=Nat.mod_eq_of_lt (Nat.lt_of_le_of_lt (Nat.le_add_right _ _) hB)
   have m2:(D*256+b)%18446744073709551616=D*256+b:=Nat.mod_eq_of_lt hB
   refine⟨_,_,⟨.bool true,rfl,rfl⟩,λkr ke kn=>?_⟩
   rw[jI,av,av,aG,gf,fC,dz o1,jk,cm,li,bY,fy,av,dH,aG,rh,wW,m1,gI,gf,nD hb hb2,Ih o3,pr,m2,oY,aG,gf,iA,bW o2,nC,hnext,Nat.add_assoc a j 1]) (by
   rintro fr h' ⟨x4,rfl,rfl⟩
   refine⟨_,_,⟨.bool false,rfl,rfl⟩,λkr ke kn=>?_⟩
   rw[jI,av,av,aG,gf,fC,dC (by omega),jk,cm,li,cn,me,show a+(e-a)=e by omega]) (by omega)
 exact⟨x4',hrun⟩
theorem C9{call:Call}{p:ab}(hT:sH call p)(h:H)(k:af):qP p call [.str []] h k=k .nils h:=by
 obtain⟨fr',h',⟨rfl,rfl⟩,hrun⟩:=dl iJ call (λi fr h'=>fr=(⟨.str [],.int .i64 (.ofNat 0),.undef,.undef,.undef,.undef,.nils,.nils⟩ : F8)∧h'=h) 0 0
  (λfr h'=>fr=(⟨.str [],.int .i64 (.ofNat 0),.bool false,.undef,.undef,.undef,.nils,.nils⟩ : F8)∧h'=h) _ h ⟨rfl,rfl⟩ (λi fr h' hi=>by omega) (by
   rintro fr h' ⟨rfl,rfl⟩
   refine⟨_,_,⟨rfl,rfl⟩,λkr ke kn=>?_⟩
   rw[iJ,av,av,aG,fC,eN,jl (Nat.le_refl _),kl,cm,kg,cn,me]) (by decide)
 have e:∀ (h:H) (k:af),tn (.str []) h k=k (.int .i64 (.ofNat 0)) h:=λ_ _=>pj []
 rw[qP,qU,ua,av,aG,Bm,av,aG,lV,av,av,aG,gI,e,AG,dH]
 exact (hrun _ _ _).trans (by rw[dK,av,aG,pi,bJ,hT.1,Bm,lv,qS,Je])
theorem C7{call:Call}{p:ab}(hT:sH call p)(L:List Obj){s:List Nat}(hs:ej s)(hl:s.length<1048576):
  ∃ g v,(∀ k:af,qP p call [.str s] (hp L) k=k v (hp (L++g)))∧LW uI L.length (L++g) v ((s.length+3)/4) (aB s):=by
 by_cases hs0:s=[]
 ·subst hs0
  exact⟨[],.nils,λk=>by rw[List.append_nil,C9 hT],.inl ⟨rfl,rfl,rfl⟩⟩
 have hs1:0<s.length:=List.length_pos_iff.mpr hs0
 obtain⟨fr',h',⟨g,v,x1,x2,x3,x4,x5,rfl,rfl,hG⟩,hrun⟩:=dl iJ call (λi fr h=>∃ g v x2 x3 x4 x5,fr=(⟨.str s,NN s.length i,x2,x3,x4,x5,v,.nils⟩ : F8)∧h=hp (L++g)∧lh u64 uI L g v (aF 4294967296 i (aB s))) ((s.length+3)/4) 0
  (λfr h=>∃ g v x1 x2 x3 x4 x5,fr=(⟨.str s,x1,x2,x3,x4,x5,v,.nils⟩ : F8)∧h=hp (L++g)∧lh u64 uI L g v (aF 4294967296 ((s.length+3)/4) (aB s)))
  ⟨.str s,.int .i64 (.ofNat s.length),.undef,.undef,.undef,.undef,.nils,.nils⟩ (hp L) ⟨[],.nils,.undef,.undef,.undef,.undef,rfl,by rw[List.append_nil],.inl ⟨rfl,rfl⟩⟩ (by
   rintro i fr h hi ⟨g,v,x2,x3,x4,x5,rfl,rfl,hG⟩
   have h4:4*i<s.length:=by omega
   obtain⟨v',g',hG',happ⟩:=grow (f:=u64) (λ_=>rfl) (λ_=>rfl) (b:=8) (es:=uI) U0 (aB s/4294967296^i%4294967296) hG (by rw[aq];omega)
   rw[← Bo]at hG'
   obtain⟨x4',hin⟩:=xL hs.1 (a:=s.length-4*i-4) (e:=s.length-4*i) (by omega) (by omega) (by omega) hl call (hp (L++g)) (.bool true) x4 v
   rw[BS hs.1 h4]at hin
   have hev:NN s.length i = .int .i64 (.ofNat (s.length-4*i)):=if_pos (by omega)
   refine⟨_,_,⟨g',v',.bool true,.int .i64 (.ofNat (s.length-4*i)),x4',.int .u64 (.ofNat (aB s/4294967296^i%4294967296)),rfl,rfl,hG'⟩,λkr ke kn=>?_⟩
   have hd:=λk=>Af h4 (by omega) (hp (L++g)) k
   have hd':=λk=>Af h4 (by omega) (hp (L++g')) k
   have hmx:=λk=>Ni h4 (hp (L++g)) k
   rw[iJ,av,av,aG,fC,hev,eN,jf (by omega),kl,cm,kg,bY,fy,av,dH,av,aG,wI,oY,av,av,aG,fC,aaj,hd,hmx,nC,dH,hin,dK,aG,rh,pi]
   rw[wI]at happ
   exact (happ _).trans (by rw[lV,aG,fC,hd',AG])) (by
   rintro fr h ⟨g,v,x2,x3,x4,x5,rfl,rfl,hG⟩
   refine⟨_,_,⟨g,v,NN s.length ((s.length+3)/4),.bool false,x3,x4,x5,rfl,rfl,hG⟩,λkr ke kn=>?_⟩
   rw[iJ,av,av,aG,fC,eN,MN,kl,cm,kg,cn,me]) (by omega)
 have hX:aB s<4294967296^((s.length+3)/4):=by
  rw[vK];exact Nat.lt_of_lt_of_le (d7 s hs.1) (Nat.pow_le_pow_right (by decide) (by omega))
 rcases hG with ⟨rfl,he⟩|⟨j,hj,rfl,ho⟩
 ·have:=congrArg List.length he
  rw[aq]at this
  simp at this
  omega
 ·have hlen:(aF 4294967296 ((s.length+3)/4) (aB s)).length=(s.length+3)/4:=aq _ _ _
  have hlow:4294967296^((s.length+3)/4-1)≤aB s:=by
   cases hs':s with
   | nil=>exact absurd hs' hs0
   | cons b t =>
    have hb:b≠0:=by have:=hs.2;rw[hs']at this;simpa using this
    rw[kf,vK]
    have h1:256^(4*(((b::t).length+3)/4-1))≤256^t.length:=Nat.pow_le_pow_right (by decide) (by rw[List.length_cons];omega)
    have h2:1*256^t.length≤b*256^t.length:=Nat.mul_le_mul_right _ (Nat.one_le_iff_ne_zero.2 hb)
    omega
  have htl:=LR (by omega) hlow hX
  have htr:=λk=>hT.2 (L++g) j _ 0 _ _ (aF 4294967296 ((s.length+3)/4) (aB s)) k ho (by rw[List.drop_zero];exact List.take_of_length_le (by simp)) (Nat.le_refl _) (by rw[aq];omega)
  rw[htl]at htr
  rw[hlen]at htr
  refine⟨g,.slc (nm j) 0 ((s.length+3)/4) (.opn ((s.length+3)/4)),λk=>?_,.inr ⟨j,hj,rfl,ho,by omega,hlow,hX⟩⟩
  rw[hlen]at hrun
  rw[qP,qU,ua,av,aG,Bm,av,aG,lV,av,av,aG,gI,pj,AG,dH]
  exact (hrun _ _ _).trans (by rw[dK,av,aG,pi,bJ,htr,Bm,lv,qS,Je])
end Go.Ai
namespace Go.Ai
theorem u4(N i s:Nat)(hs:s<4):N/4294967296^i%4294967296/2^(8*s)%256=N/256^(4*i+s)%256:=by
 rw[vK,Nat.pow_add,← Nat.div_div_eq_div_mul]
 generalize N/256^(4*i)=M
 have e:(4294967296:Nat)=2^(8*s)*2^(32-8*s):=by
  rw[← Nat.pow_add,show 8*s+(32-8*s)=32 by omega]
 rw[e,Nat.mod_mul_right_div_self,nL]
 have e2:(2:Nat)^(32-8*s)=256*2^(24-8*s):=by
  rw[show (256:Nat)=2^8 from rfl,← Nat.pow_add]
  congr 1
  omega
 rw[e2,Nat.mod_mul_right_mod]
def OD(n:Nat):AV:=.int .u8 (.ofNat n)
def fO(n N t:Nat):List Nat:=cI (be t (N/256^(4*n-t)))
theorem Dp(n N:Nat):fO n N 0=[]:=rfl
theorem Fx(n N:Nat)(h:N<256^(4*n)):fO n N (4*n)=ai N:=by rw[fO,Nat.sub_self,Nat.pow_zero,Nat.div_one,ff h]
theorem DG{n N t:Nat}(h:t<4*n):fO n N (t+1)=if fO n N t=[] then (if N/256^(4*n-(t+1))%256=0 then [] else [N/256^(4*n-(t+1))%256]) else fO n N t++[N/256^(4*n-(t+1))%256]:=by
 have e:N/256^(4*n-(t+1))/256=N/256^(4*n-t):=by
  rw[Nat.div_div_eq_div_mul,← Nat.pow_succ,show (4*n-(t+1)).succ=4*n-t by omega]
 unfold fO
 rw[be,pY,e]
 rfl
theorem qo:∀ s:List Nat,(cI s).length≤s.length
 | []=>Nat.le_refl _
 | b::s=>by
  rw[cI]
  split
  ·exact Nat.le_succ_of_le (qo s)
  ·exact Nat.le_refl _
theorem GG(n N t:Nat):(fO n N t).length≤t:=by
 have:=qo (be t (N/256^(4*n-t)))
 rwa [dT]at this
def T9(q:Nat):AV:=if q<4 then .int .i64 (.ofNat (24-8*q)) else .int .i64 (.negSucc 7)
theorem zX{q:Nat}(h:q<4)(H:H)(k:af):yD (.int .i64 (.ofNat (24-8*q))) (.int .i64 (.ofNat 8)) H k=k (T9 (q+1)) H:=by
 rcases (by omega:q=0∨q=1∨q=2∨q=3)with rfl|rfl|rfl|rfl <;> rfl
theorem vA{es:Nat}{L g:List Obj}{v:AV}{f:Nat→AV}{ws:List Nat}(hG:lh f es L g v ws)(h:H)(k:af):bN v h k=k (.int .i64 (.ofNat ws.length)) h:=by
 rcases hG with ⟨rfl,rfl⟩|⟨j,_,rfl,_⟩ <;> rfl
variable [Nu]
theorem Ao{L g0:List Obj}{j es i0 n r N:Nat}{cap:gQ}{cs:List AV}{ws:List Nat}(hj:L[j]? = some (.cells cs es))(hw:(cs.drop i0).take ws.length=cw ws)(hn:ws.length=n)(hr:r<n)(hN:ws=aF 4294967296 n N)(hm:n<1048576)(call:Call){v0:AV}(hG0:lh OD Pz L g0 v0 (fO n N (4*r)))(x2 x4' x6' x7':AV):
  ∃ g v x3 x4 x6 x7,lh OD Pz L g v (fO n N (4*(r+1)))∧∀ kr ke kn0,kL iU call kr ke kn0 (⟨⟨.slc (nm j) i0 n cap,.int .i64 (.ofNat (n-1-r)),x2,.int .i64 (.ofNat 24),x4',v0,x6',x7'⟩,⟨.str [],.undef,.undef,.undef,.undef,.undef,.undef,.undef⟩,i8,i8,i8,i8,i8,i8⟩ : ar) (hp (L++g0)) =
   ke 2 ⟨⟨.slc (nm j) i0 n cap,.int .i64 (.ofNat (n-1-r)),x2,x3,x4,v,x6,x7⟩,⟨.str [],.undef,.undef,.undef,.undef,.undef,.undef,.undef⟩,i8,i8,i8,i8,i8,i8⟩ (hp (L++g)):=by
 obtain⟨fr',h',⟨g,v,x4,x6,x7,rfl,rfl,hG⟩,hrun⟩:=dl iU call (λq fr h=>∃ g v x4 x6 x7,fr=(⟨⟨.slc (nm j) i0 n cap,.int .i64 (.ofNat (n-1-r)),x2,T9 q,x4,v,x6,x7⟩,⟨.str [],.undef,.undef,.undef,.undef,.undef,.undef,.undef⟩,i8,i8,i8,i8,i8,i8⟩ : ar)∧h=hp (L++g)∧lh OD Pz L g v (fO n N (4*r+q))) 4 2
  (λfr h=>∃ g v x4 x6 x7,fr=(⟨⟨.slc (nm j) i0 n cap,.int .i64 (.ofNat (n-1-r)),x2,T9 4,x4,v,x6,x7⟩,⟨.str [],.undef,.undef,.undef,.undef,.undef,.undef,.undef⟩,i8,i8,i8,i8,i8,i8⟩ : ar)∧h=hp (L++g)∧lh OD Pz L g v (fO n N (4*r+4)))
  ⟨⟨.slc (nm j) i0 n cap,.int .i64 (.ofNat (n-1-r)),x2,.int .i64 (.ofNat 24),x4',v0,x6',x7'⟩,⟨.str [],.undef,.undef,.undef,.undef,.undef,.undef,.undef⟩,i8,i8,i8,i8,i8,i8⟩ (hp (L++g0)) ⟨g0,v0,x4',x6',x7',rfl,rfl,hG0⟩ (by
   rintro q fr h hq ⟨g,v,x4,x6,x7,rfl,rfl,hG⟩
   have hsh:T9 q = .int .i64 (.ofNat (24-8*q)):=if_pos hq
   have hd:=λk=>zX hq (hp (L++g)) k
   have o1:n-1-r<n:=by omega
   have hwi:ws[n-1-r]? = some (N/4294967296^(n-1-r)%4294967296):=by rw[hN];exact bb _ _ _ _ o1
   have lw:=sA hw hwi
   have hb:=u4 N (n-1-r) (3-q) (by omega)
   rw[show 8*(3-q)=24-8*q by omega,show 4*(n-1-r)+(3-q)=4*n-(4*r+q+1) by omega]at hb
   have hst:=DG (n:=n) (N:=N) (t:=4*r+q) (by omega)
   have hlen:=GG n N (4*r+q)
   have hlw:N/4294967296^(n-1-r)%4294967296<4294967296:=Nat.mod_lt _ (by decide)
   have o2:24-8*q≤64:=by omega
   obtain⟨x,hx⟩ : ∃ x,N/256^(4*n-(4*r+q+1))%256=x:=⟨_,rfl⟩
   have hx256:x<256:=by rw[← hx];exact Nat.mod_lt _ (by decide)
   rw[hx]at hb hst
   by_cases hap:fO n N (4*r+q)=[]∧x=0
   ·obtain⟨h1,h2⟩:=hap
    rw[if_pos h1,if_pos h2]at hst
    rw[h1]at hG
    have hln:∀ k:af,bN v (hp (L++g)) k=k (.int .i64 (.ofNat 0)) (hp (L++g)):=λk=>vA hG _ k
    refine⟨_,_,⟨g,v,.bool true,.int .u8 (.ofNat x),.bool false,rfl,rfl,by rw[← Nat.add_assoc,hst];exact hG⟩,λkr ke kn=>?_⟩
    rw[iU,av,av,aG,fj,hsh,eN,cL (Nat.zero_le _),oX,cm,lK,bY,fy,av,dH,av,aG,eo,ed,iz o1,aR (cD hj) lw,fj,dP o2,lm,hb,oR,av,aG,ic,hln,jl (Nat.le_refl _),qK,nt,Fr,qK,S8,jl (by omega),uD,sK,cm,fP,cn,fy,aG,fj,Ic,hd,ni]
   ·have hst':fO n N (4*r+q+1)=fO n N (4*r+q)++[x]:=by
     rw[hst]
     by_cases h1:fO n N (4*r+q)=[]
     ·rw[if_pos h1,if_neg λh2=>hap ⟨h1,h2⟩,h1];rfl
     ·rw[if_neg h1]
    obtain⟨v',g',hG',happ⟩:=grow (f:=OD) (λ_=>rfl) (λ_=>rfl) (b:=1) (es:=Pz) (.int .u8 (.ofNat 0)) x hG (by omega)
    have hln:=λk=>vA hG (hp (L++g)) k
    have hd':=λk=>zX hq (hp (L++g')) k
    by_cases h1:0<(fO n N (4*r+q)).length
    ·refine⟨_,_,⟨g',v',.bool true,.int .u8 (.ofNat x),.bool true,rfl,rfl,by rw[← Nat.add_assoc,hst'];exact hG'⟩,λkr ke kn=>?_⟩
     rw[iU,av,av,aG,fj,hsh,eN,cL (Nat.zero_le _),oX,cm,lK,bY,fy,av,dH,av,aG,eo,ed,iz o1,aR (cD hj) lw,fj,dP o2,lm,hb,oR,av,aG,ic,hln,jf h1,xR,xR,yb,RB,sK,cm,fP,bY,aG,nt,ic,S8]
     exact (happ _).trans (by rw[rj,aG,fj,Ic,hd',ni])
    ·have h2:0<x:=Nat.pos_of_ne_zero λh2=>hap ⟨List.eq_nil_of_length_eq_zero (by omega),h2⟩
     refine⟨_,_,⟨g',v',.bool true,.int .u8 (.ofNat x),.bool true,rfl,rfl,by rw[← Nat.add_assoc,hst'];exact hG'⟩,λkr ke kn=>?_⟩
     rw[iU,av,av,aG,fj,hsh,eN,cL (Nat.zero_le _),oX,cm,lK,bY,fy,av,dH,av,aG,eo,ed,iz o1,aR (cD hj) lw,fj,dP o2,lm,hb,oR,av,aG,ic,hln,jl (by omega),qK,nt,Fr,qK,S8,jf h2,uD,sK,cm,fP,bY,aG,nt,ic]
     exact (happ _).trans (by rw[rj,aG,fj,Ic,hd',ni])) (by
   rintro fr h ⟨g,v,x4,x6,x7,rfl,rfl,hG⟩
   refine⟨_,_,⟨g,v,.bool false,x6,x7,rfl,rfl,hG⟩,λkr ke kn=>?_⟩
   have e:∀ (h:H) (k:af),m9 (T9 4) (.int .i64 (.ofNat 0)) h k=k (.bool false) h:=λ_ _=>rfl
   rw[iU,av,av,aG,fj,eN,e,oX,cm,lK,cn,me]) (by decide)
 exact⟨g,v,_,x4,x6,x7,by rw[Nat.mul_add];exact hG,hrun⟩
theorem Gx{es:Nat}{L g:List Obj}{v:AV}{bs:List Nat}(hG:lh OD es L g v bs)(hb:∀ b ∈ bs,b<256)(k:af):yB v (hp (L++g)) k=k (.str bs) (hp (L++g)):=by
 rcases hG with ⟨rfl,rfl⟩|⟨j,_,rfl,ho⟩
 ·rfl
 ·show must 12 (Nat.ble bs.length bs.length) (bD (nm j) (hp (L++g)) λcs _=>ltake (bs.length*1) cs λcs=>bytesC cs λl=>k (.str l) (hp (L++g)))=_
  rw[Nat.ble_eq.mpr (Nat.le_refl _),aw,jj ho,Nat.mul_one,om _ _ _ (by simp),List.take_of_length_le (by simp)]
  exact qy bs hb _
theorem GT(call:Call)(h:H)(k:af):wE call [.nils] h k=k (.str []) h:=by
 obtain⟨fr',h',⟨rfl,rfl⟩,hrun⟩:=dl kc call (λi fr h'=>fr=(⟨⟨.nils,.int .i64 (.negSucc 0),.undef,.undef,.undef,.nils,.undef,.undef⟩,⟨.str [],.undef,.undef,.undef,.undef,.undef,.undef,.undef⟩,i8,i8,i8,i8,i8,i8⟩ : ar)∧h'=h) 0 0
  (λfr h'=>fr=(⟨⟨.nils,.int .i64 (.negSucc 0),.bool false,.undef,.undef,.nils,.undef,.undef⟩,⟨.str [],.undef,.undef,.undef,.undef,.undef,.undef,.undef⟩,i8,i8,i8,i8,i8,i8⟩ : ar)∧h'=h) _ h ⟨rfl,rfl⟩ (λi fr h' hi=>by omega) (by
   rintro fr h' ⟨rfl,rfl⟩
   refine⟨_,_,⟨rfl,rfl⟩,λkr ke kn=>?_⟩
   rw[kc,av,av,aG,ed,eN,iN,rx,cm,lj,cn,me]) (by decide)
 have e1:∀ (h:H) (k:af),bN .nils h k=k (.int .i64 (.ofNat 0)) h:=λ_ _=>rfl
 have e2:∀ (h:H) (k:af),yB .nils h k=k (.str []) h:=λ_ _=>rfl
 rw[jA]at hrun
 rw[wE,tc,jA,wH,av,aG,ul,nu,av,aG,rj,av,av,aG,eo,e1,SS,zB,dH]
 exact (hrun _ _ _).trans (by rw[dK,av,aG,ic,e2,nu,lv,qS,lk])
theorem Gn{L:List Obj}{j es i0:Nat}{cap:gQ}{cs:List AV}{ws:List Nat}(hj:L[j]? = some (.cells cs es))(hw:(cs.drop i0).take ws.length=cw ws)(hm:ws.length<1048576)(hb:∀ w ∈ ws,w<4294967296)(call:Call):
  ∃ g,∀ k:af,wE call [.slc (nm j) i0 ws.length cap] (hp L) k=k (.str (ai (dL 4294967296 ws))) (hp (L++g)):=by
 obtain⟨n,hn⟩ : ∃ n,ws.length=n:=⟨_,rfl⟩
 obtain⟨N,hN⟩ : ∃ N,dL 4294967296 ws=N:=⟨_,rfl⟩
 have hNd:ws=aF 4294967296 n N:=by rw[← hn,← hN];exact (td (by decide) ws hb).symm
 have hNlt:N<256^(4*n):=by rw[← vK,← hN,← hn];exact mR (by decide) ws hb
 rw[hn,hN]
 rw[hn]at hm
 obtain⟨fr',h',⟨g,v,x2,x3,x4,x6,x7,rfl,rfl,hG⟩,hrun⟩:=dl kc call (λr fr h=>∃ g v x2 x3 x4 x6 x7,fr=(⟨⟨.slc (nm j) i0 n cap,dn n r,x2,x3,x4,v,x6,x7⟩,⟨.str [],.undef,.undef,.undef,.undef,.undef,.undef,.undef⟩,i8,i8,i8,i8,i8,i8⟩ : ar)∧h=hp (L++g)∧lh OD Pz L g v (fO n N (4*r))) n 0
  (λfr h=>∃ g v x2 x3 x4 x6 x7,fr=(⟨⟨.slc (nm j) i0 n cap,dn n n,x2,x3,x4,v,x6,x7⟩,⟨.str [],.undef,.undef,.undef,.undef,.undef,.undef,.undef⟩,i8,i8,i8,i8,i8,i8⟩ : ar)∧h=hp (L++g)∧lh OD Pz L g v (fO n N (4*n)))
  ⟨⟨.slc (nm j) i0 n cap,dn n 0,.undef,.undef,.undef,.nils,.undef,.undef⟩,⟨.str [],.undef,.undef,.undef,.undef,.undef,.undef,.undef⟩,i8,i8,i8,i8,i8,i8⟩ (hp L) ⟨[],.nils,.undef,.undef,.undef,.undef,.undef,rfl,by rw[List.append_nil],.inl ⟨rfl,Dp _ _⟩⟩ (by
   rintro r fr h hr ⟨g,v,x2,x3,x4,x6,x7,rfl,rfl,hG⟩
   obtain⟨g',v',y3,y4,y6,y7,hG',hin⟩:=Ao (es:=es) (cap:=cap) hj hw hn hr hNd hm call hG (.bool true) x4 x6 x7
   have hd:=λk=>rE hr (show n<9223372036854775808 by omega) (hp (L++g')) k
   refine⟨_,_,⟨g',v',.bool true,y3,y4,y6,y7,rfl,rfl,hG'⟩,λkr ke kn=>?_⟩
   rw[kc,av,av,aG,ed,kj hr,eN,cL (Nat.zero_le _),rx,cm,lj,bY,fy,av,dH,av,aG,ni,dH,hin,dK,aG,ed,iA,hd,zB]) (by
   rintro fr h ⟨g,v,x2,x3,x4,x6,x7,rfl,rfl,hG⟩
   refine⟨_,_,⟨g,v,.bool false,x3,x4,x6,x7,rfl,rfl,hG⟩,λkr ke kn=>?_⟩
   rw[kc,av,av,aG,ed,pZ,eN,iN,rx,cm,lj,cn,me]) (by omega)
 rw[Fx n N hNlt]at hG
 have hs:=λk=>Gx hG (cj N) k
 refine⟨g,λk=>?_⟩
 rw[jA]at hrun
 rw[wE,tc,jA,wH,av,aG,ul,nu,av,aG,rj,av,av,aG,eo,aK,iA,tf (by omega),zB,dH]
 exact (hrun _ _ _).trans (by rw[dK,av,aG,ic,hs,nu,lv,qS,lk])
def wJ(call:Call)(p:ab):Prop :=
 (∀ (h:H) (k:af),call p [.nils] h k=k (.str []) h) ∧
 ∀ (L:List Obj) (j es i0:Nat) (cap:gQ) (cs:List AV) (ws:List Nat),L[j]? = some (.cells cs es)→(cs.drop i0).take ws.length=cw ws→ws.length<1048576→(∀ w ∈ ws,w<4294967296) →
  ∃ g,∀ k:af,call p [.slc (nm j) i0 ws.length cap] (hp L) k=k (.str (ai (dL 4294967296 ws))) (hp (L++g))
end Go.Ai
namespace Go.Ai
def uY(β G D Y i:Nat):Nat:=(D%β^i+G*(Y%β^i))/β^i
theorem IP(β G D Y:Nat):uY β G D Y 0=0:=by simp[uY,Nat.mod_one]
theorem HO{β G D Y:Nat}(hβ : 0<β)(i:Nat):uY β G D Y i≤G:=by
 have hp:0<β^i:=Nat.pow_pos hβ
 apply Nat.le_of_lt_succ
 rw[uY,Nat.div_lt_iff_lt_mul hp,Nat.succ_mul,Nat.add_comm]
 exact Nat.add_lt_add_of_le_of_lt (Nat.mul_le_mul_left _ (Nat.le_of_lt (Nat.mod_lt _ hp))) (Nat.mod_lt _ hp)
theorem vj{β : Nat}(hβ : 0<β)(G D Y i:Nat):
  (D/β^i%β+(G*(Y/β^i%β)+uY β G D Y i))%β = (D+G*Y)/β^i%β ∧ (D/β^i%β+(G*(Y/β^i%β)+uY β G D Y i))/β = uY β G D Y (i+1) ∧
  D/β^i+(G*(Y/β^i)+uY β G D Y i)=(D+G*Y)/β^i:=by
 have hp:0<β^i:=Nat.pow_pos hβ
 have e3:D/β^i+(G*(Y/β^i)+uY β G D Y i)=(D+G*Y)/β^i:=by
  have h1:=Nat.div_add_mod D (β^i)
  have h2:=Nat.div_add_mod Y (β^i)
  have h3:D+G*Y=D%β^i+G*(Y%β^i)+β^i*(D/β^i+G*(Y/β^i)):=by
   conv=>lhs;rw[← h1,← h2]
   rw[Nat.mul_add,Nat.mul_add,Nat.mul_left_comm G]
   omega
  rw[h3,Nat.add_mul_div_left _ _ hp,uY]
  omega
 refine⟨?_,?_,e3⟩
 ·rw[← e3,Nat.add_mod,Nat.add_mod (D/β^i),Nat.mod_mod,Nat.add_mod (G*(Y/β^i%β)),Nat.add_mod (G*(Y/β^i)),Nat.mul_mod G (Y/β^i%β),Nat.mod_mod,← Nat.mul_mod]
 ·have h4:D%β^(i+1)+G*(Y%β^(i+1))=D%β^i+G*(Y%β^i)+β^i*(D/β^i%β+G*(Y/β^i%β)):=by
   rw[Nat.pow_succ,Nat.mod_mul,Nat.mod_mul,Nat.mul_add,Nat.mul_add,Nat.mul_left_comm G]
   omega
  have h5:uY β G D Y (i+1)=(D%β^i+G*(Y%β^i)+β^i*(D/β^i%β+G*(Y/β^i%β)))/β^i/β:=by
   rw[uY,h4,Nat.pow_succ,Nat.div_div_eq_div_mul]
  rw[h5,Nat.add_mul_div_left _ _ hp,uY]
  congr 1
  omega
theorem Df{β d p u c':Nat}(hd:d<β)(hu:(d+p)%β = u)(hc:(d+p)/β = c'):
  (u<p%β → u+β-p%β = d∧p/β+1=c')∧(¬ u<p%β → u-p%β = d∧p/β = c'):=by
 have hβ : 0<β:=Nat.lt_of_le_of_lt (Nat.zero_le _) hd
 have h1:=Nat.div_add_mod p β
 have h2:p%β<β:=Nat.mod_lt _ hβ
 have e:d+p=(d+p%β)+β*(p/β):=by omega
 rw[e,Nat.add_mul_mod_self_left]at hu
 rw[e,Nat.add_mul_div_left _ _ hβ]at hc
 by_cases h:d+p%β<β
 ·rw[Nat.mod_eq_of_lt h]at hu
  rw[Nat.div_eq_of_lt h]at hc
  exact⟨λh'=>by omega,λ_=>by omega⟩
 ·have h3:(d+p%β)%β = d+p%β-β:=by rw[Nat.mod_eq_sub_mod (by omega),Nat.mod_eq_of_lt (by omega)]
  have h4:(d+p%β)/β = 1:=by rw[Nat.div_eq_of_lt_le] <;> omega
  rw[h3]at hu
  rw[h4]at hc
  exact⟨λ_=>by omega,λh'=>by omega⟩
def uX(β n Y U:Nat):Nat:=max 1 (U/β^(n-1)/(Y/β^(n-1)+1))
theorem wO{β n Y U:Nat}(hβ : 0<β)(hY:0<Y)(hU:Y≤U):0<uX β n Y U∧uX β n Y U≤U/Y:=by
 have hp:0<β^(n-1):=Nat.pow_pos hβ
 refine⟨Nat.lt_of_lt_of_le Nat.one_pos (Nat.le_max_left _ _),Nat.max_le.2 ⟨?_,?_⟩⟩
 ·rw[Nat.le_div_iff_mul_le hY];omega
 ·rw[Nat.le_div_iff_mul_le hY]
  have h1:Y≤(Y/β^(n-1)+1)*β^(n-1):=by
   have:=Nat.lt_mul_div_succ Y hp
   rw[Nat.mul_comm]at this
   exact Nat.le_of_lt this
  have h2:=Nat.div_mul_le_self (U/β^(n-1)) (Y/β^(n-1)+1)
  calc U/β^(n-1)/(Y/β^(n-1)+1)*Y≤U/β^(n-1)/(Y/β^(n-1)+1)*((Y/β^(n-1)+1)*β^(n-1)):=Nat.mul_le_mul_left _ h1
   _=U/β^(n-1)/(Y/β^(n-1)+1)*(Y/β^(n-1)+1)*β^(n-1):=by rw[Nat.mul_assoc]
   _≤U/β^(n-1)*β^(n-1):=Nat.mul_le_mul_right _ h2
   _≤U:=Nat.div_mul_le_self _ _
theorem FU{β n Y U:Nat}(hβ : 0<β)(hn : β^(n-1)≤Y):U/Y≤2*uX β n Y U+1:=by
 have hp:0<β^(n-1):=Nat.pow_pos hβ
 have hy:0<Y/β^(n-1):=Nat.div_pos hn hp
 have h1:U/Y≤U/β^(n-1)/(Y/β^(n-1)):=by
  rw[Nat.div_div_eq_div_mul]
  exact Nat.div_le_div_left (Nat.mul_div_le _ _) (Nat.mul_pos hp hy)
 have h2:U/β^(n-1)/(Y/β^(n-1))≤2*(U/β^(n-1)/(Y/β^(n-1)+1))+1:=by
  generalize U/β^(n-1)=u
  generalize Y/β^(n-1)=y at *
  have h3:=Nat.div_add_mod u (y+1)
  have h4:u%(y+1)<y+1:=Nat.mod_lt _ (Nat.succ_pos _)
  generalize u/(y+1)=q at *
  generalize u%(y+1)=r at *
  apply Nat.le_of_lt_succ
  rw[Nat.div_lt_iff_lt_mul hy]
  have h5:(2*q+1+1)*y=2*(q*y)+2*y:=by rw[Nat.add_mul,Nat.add_mul,Nat.mul_assoc];omega
  have h6:(y+1)*q=q*y+q:=by rw[Nat.add_mul,Nat.one_mul,Nat.mul_comm]
  have h7:q*1≤q*y:=Nat.mul_le_mul_left _ hy
  rw[Nat.mul_one]at h7
  show u<(2*q+1+1)*y
  omega
 have h8:U/β^(n-1)/(Y/β^(n-1)+1)≤uX β n Y U:=Nat.le_max_right _ _
 omega
inductive Rd (β n Y:Nat):Nat→Nat→Prop
 | zero {U:Nat}:U<Y→Rd β n Y U 0
 | succ {U m:Nat}:Y≤U→Rd β n Y (U-uX β n Y U*Y) m→Rd β n Y U (m+1)
theorem Nh{β n Y:Nat}(hβ : 0<β)(hY:0<Y)(hn : β^(n-1)≤Y):∀ (r U:Nat),U/Y≤2^r→∃ m,m≤r+1∧Rd β n Y U m:=by
 have rest:∀ U,Y≤U→(U-uX β n Y U*Y)/Y=U/Y-uX β n Y U:=λU hU=>by
  rw[Nat.mul_comm,Nat.sub_mul_div]
 intro r
 induction r with
 | zero =>
  intro U h
  by_cases hU:U<Y
  ·exact⟨0,by omega,.zero hU⟩
  ·obtain⟨h1,h2⟩:=wO (n:=n) hβ hY (Nat.le_of_not_lt hU)
   have h3:=rest U (Nat.le_of_not_lt hU)
   have h4:(U-uX β n Y U*Y)/Y=0:=by rw[h3];simp at h;omega
   exact⟨1,by omega,.succ (Nat.le_of_not_lt hU) (.zero ((Nat.div_eq_zero_iff_lt hY).1 h4))⟩
 | succ r ih =>
  intro U h
  by_cases hU:U<Y
  ·exact⟨0,by omega,.zero hU⟩
  ·obtain⟨h1,h2⟩:=wO (n:=n) hβ hY (Nat.le_of_not_lt hU)
   have h3:=rest U (Nat.le_of_not_lt hU)
   have h5:=FU (U:=U) hβ hn
   obtain⟨m,hm,hR⟩:=ih (U-uX β n Y U*Y) (by rw[h3];rw[Nat.pow_succ]at h;omega)
   exact⟨m+1,by omega,.succ (Nat.le_of_not_lt hU) hR⟩
theorem DH{β X Y:Nat}(hne:X≠Y):∀ m,X<β^m→Y<β^m→∃ p,p<m∧X/β^(p+1)=Y/β^(p+1)∧X/β^p≠Y/β^p:=by
 have key:∀ m,X/β^m=Y/β^m→∃ p,p<m∧X/β^(p+1)=Y/β^(p+1)∧X/β^p≠Y/β^p:=by
  intro m
  induction m with
  | zero=>intro h;rw[Nat.pow_zero,Nat.div_one,Nat.div_one]at h;exact absurd h hne
  | succ m ih =>
   intro h
   by_cases e:X/β^m=Y/β^m
   ·obtain⟨p,h1,h2⟩:=ih e
    exact⟨p,by omega,h2⟩
   ·exact⟨m,by omega,h,e⟩
 intro m hX hY
 exact key m (by rw[Nat.div_eq_of_lt hX,Nat.div_eq_of_lt hY])
theorem F0{β X Y p i:Nat}(h:X/β^p=Y/β^p)(hi:p≤i):X/β^i=Y/β^i:=by
 rw[show i=p+(i-p) by omega,Nat.pow_add,← Nat.div_div_eq_div_mul,← Nat.div_div_eq_div_mul,h]
theorem xp{β X Y p:Nat}(h1:X/β^(p+1)=Y/β^(p+1))(h2:X/β^p≠Y/β^p):
  X/β^p%β ≠ Y/β^p%β ∧ (X/β^p%β<Y/β^p%β ↔ X<Y):=by
 rw[Nat.pow_succ,← Nat.div_div_eq_div_mul,← Nat.div_div_eq_div_mul]at h1
 have hx:=Nat.div_add_mod (X/β^p) β
 have hy:=Nat.div_add_mod (Y/β^p) β
 refine⟨λe=>h2 (by rw[← hx,← hy,h1,e]),λh=>?_,λh=>?_⟩
 ·have h3:X/β^p<Y/β^p:=by rw[← hx,← hy,h1];exact Nat.add_lt_add_left h _
  exact Nat.lt_of_not_le λh4=>Nat.not_lt.2 (Nat.div_le_div_right h4) h3
 ·have h3:X/β^p≤Y/β^p:=Nat.div_le_div_right (Nat.le_of_lt h)
  have h4:=Nat.lt_of_le_of_ne h3 h2
  rw[← hx,← hy,h1]at h4
  exact Nat.lt_of_add_lt_add_left h4
end Go.Ai
namespace Go.Ai
theorem tlB{β m X:Nat}(hβ : 0<β)(hX:X<β^m):tl (aF β m X)≤m∧X<β^tl (aF β m X)∧(tl (aF β m X)=0 ∨ β^(tl (aF β m X)-1)≤X):=by
 have h1:=nv (aF β m X)
 have h2:=mJ β (aF β m X)
 rw[ck hX]at h2
 have h3:=mR hβ ((aF β m X).take (tl (aF β m X))) λw hw=>jC hβ m X w (List.mem_of_mem_take hw)
 rw[h2,List.length_take,Nat.min_eq_left h1]at h3
 rw[aq]at h1
 refine⟨h1,h3,?_⟩
 cases ht:tl (aF β m X) with
 | zero=>exact .inl rfl
 | succ n =>
  have:=yP (β:=β) _ n ht
  rw[ck hX]at this
  exact .inr this
theorem mF{β n T p:Nat}{cs:List AV}{i0:Nat}(hw:(cs.drop i0).take n=cw (aF β n T))(hp:p<n):cs[i0+p]? = some (.int .u64 (.ofNat (T/β^p%β))):=by
 have hw':(cs.drop i0).take (aF β n T).length=cw (aF β n T):=by rw[aq];exact hw
 exact sA hw' (bb _ _ _ _ hp)
variable [Nu]
theorem zQ{L:List Obj}{jx jy i0 m d my e1 e2 n X Y:Nat}{cs cs2:List AV}(hx:L[jx]? = some (.cells cs e1))(hwx:(cs.drop i0).take n=cw (aF 4294967296 n X))(hy:L[jy]? = some (.cells cs2 e2))(hwy:(cs2.drop 0).take my=cw (aF 4294967296 my Y))(hm:m≤n)(hmy:m≤my)(hX:X<4294967296^m)(hY:Y<4294967296^m)(hmm:m<1073741824)(cy:gQ)
  (call:Call) (k:af) (ke:Nat→F8→H→aa) (kn:F8→H→aa) (g2:AV)
  (hke:∀ g3 g4 g5,X=Y→ke 0 ⟨.slc (nm jx) i0 m (.opn d),.slc (nm jy) 0 m cy,g2,g3,g4,g5,.bool false,.undef⟩ (hp L)=k (.bool (decide (X<Y))) (hp L)) :
  kL fG call (r1 ju k) ke kn ⟨.slc (nm jx) i0 m (.opn d),.slc (nm jy) 0 m cy,g2,dn m 0,.undef,.undef,.bool false,.undef⟩ (hp L)=k (.bool (decide (X<Y))) (hp L):=by
 by_cases hXY:X=Y
 ·refine bM fG call _ _ _ (λr fr h=>∃ g4 g5,fr=⟨.slc (nm jx) i0 m (.opn d),.slc (nm jy) 0 m cy,g2,dn m r,g4,g5,.bool false,.undef⟩∧h=hp L) m _ _ _ ⟨.undef,.undef,rfl,rfl⟩ ?_ ?_ hmm
  ·rintro r fr h hr ⟨g4,g5,rfl,rfl⟩
   have hd:=λk=>rE hr (show m<9223372036854775808 by omega) (hp L) k
   refine⟨_,_,⟨.bool true,.bool false,rfl,rfl⟩,λkn=>?_⟩
   have lx:=mF hwx (p:=m-1-r) (by omega)
   have ly:=mF hwy (p:=m-1-r) (by omega)
   rw[Nat.zero_add]at ly
   rw[kj hr,fG,av,av,aG,gf,eN,cL (Nat.zero_le _),jk,cm,li,bY,fy,av,dH,av,aG,gI,gf,iz (by omega),aR hx lx,fC,bw (by omega),aR hy ly,wD (by rw[hXY]),oY,cm,rh,cn,fy,aG,gf,iA,hd,nC]
  ·rintro fr h ⟨g4,g5,rfl,rfl⟩ kn
   rw[pZ,fG,av,av,aG,gf,eN,iN,jk,cm,li,cn,me]
   exact hke _ _ _ hXY
 ·obtain⟨p,hp1,hp2,hp3⟩:=DH hXY m hX hY
  obtain⟨ho1,ho2⟩:=xp hp2 hp3
  refine bM fG call _ _ _ (λr fr h=>∃ g4 g5,fr=⟨.slc (nm jx) i0 m (.opn d),.slc (nm jy) 0 m cy,g2,dn m r,g4,g5,.bool false,.undef⟩∧h=hp L) (m-1-p) _ _ _ ⟨.undef,.undef,rfl,rfl⟩ ?_ ?_ (by omega)
  ·rintro r fr h hr ⟨g4,g5,rfl,rfl⟩
   have hr':r<m:=by omega
   have hd:=λk=>rE hr' (show m<9223372036854775808 by omega) (hp L) k
   refine⟨_,_,⟨.bool true,.bool false,rfl,rfl⟩,λkn=>?_⟩
   have lx:=mF hwx (p:=m-1-r) (by omega)
   have ly:=mF hwy (p:=m-1-r) (by omega)
   rw[Nat.zero_add]at ly
   rw[kj hr',fG,av,av,aG,gf,eN,cL (Nat.zero_le _),jk,cm,li,bY,fy,av,dH,av,aG,gI,gf,iz (by omega),aR hx lx,fC,bw (by omega),aR hy ly,wD (by rw[F0 hp2 (by omega)]),oY,cm,rh,cn,fy,aG,gf,iA,hd,nC]
  ·rintro fr h ⟨g4,g5,rfl,rfl⟩ kn
   have lx:=mF hwx (p:=p) (by omega)
   have ly:=mF hwy (p:=p) (by omega)
   rw[Nat.zero_add]at ly
   have hb:∀ (h:H) (k:af),ct (.int .u64 (.ofNat (X/4294967296^p%4294967296))) (.int .u64 (.ofNat (Y/4294967296^p%4294967296))) h k=k (.bool (decide (X<Y))) h:=λh k=>by
    by_cases hlt:X<Y
    ·rw[dz (ho2.2 hlt),decide_eq_true hlt]
    ·rw[dC (Nat.le_of_not_lt λh=>hlt (ho2.1 h)),decide_eq_false hlt]
   rw[kj (show m-1-p<m by omega),show m-1-(m-1-p)=p by omega,fG,av,av,aG,gf,eN,cL (Nat.zero_le _),jk,cm,li,bY,fy,av,dH,av,aG,gI,gf,iz hp1,aR hx lx,fC,bw hp1,aR hy ly,D8 ho1,oY,cm,rh,bY,av,aG,gI,gf,iz hp1,aR hx lx,fC,bw hp1,aR hy ly,hb,lV,lv,qS,pi]
def oD(call:Call)(p:ab):Prop:=∀ (L:List Obj) (jx jy i0 n d my e1 e2 X Y:Nat) (cs cs2:List AV) (cy:gQ) (k:af),L[jx]? = some (.cells cs e1)→(cs.drop i0).take n=cw (aF 4294967296 n X)→n≤d→L[jy]? = some (.cells cs2 e2)→(cs2.drop 0).take my=cw (aF 4294967296 my Y)→X<4294967296^n→Y<4294967296^my→(my=0∨4294967296^(my-1)≤Y)→n<1073741824→my<1073741824 →
 call p [.slc (nm jx) i0 n (.opn d),.slc (nm jy) 0 my cy] (hp L) k=k (.bool (decide (X<Y))) (hp L)
theorem Cg{call:Call}{p:ab}(hT:sH call p)(L:List Obj)(jx jy i0 n d my e1 e2 X Y:Nat)(cs cs2:List AV)(cy:gQ)(k:af)(hx:L[jx]? = some (.cells cs e1))(hwx:(cs.drop i0).take n=cw (aF 4294967296 n X))(hd:n≤d)(hy:L[jy]? = some (.cells cs2 e2))(hwy:(cs2.drop 0).take my=cw (aF 4294967296 my Y))(hX:X<4294967296^n)(hY:Y<4294967296^my)(hY0:my=0∨4294967296^(my-1)≤Y)(hn:n<1073741824)(hmy:my<1073741824):
  xV p call [.slc (nm jx) i0 n (.opn d),.slc (nm jy) 0 my cy] (hp L) k=k (.bool (decide (X<Y))) (hp L):=by
 obtain⟨t1,t2,t3⟩:=tlB (by decide) hX
 obtain⟨m,hm⟩ : ∃ m,tl (aF 4294967296 n X)=m:=⟨_,rfl⟩
 have htr:=λk=>hT.2 L jx e1 i0 d cs (aF 4294967296 n X) k hx (by rw[aq];exact hwx) (by rw[aq];exact hd) (by rw[aq];exact hn)
 rw[aq,hm]at htr
 rw[hm]at t1 t2 t3
 rw[xV,ql,zd,av,aG,Mt,lV,av,aG,gI,bJ,htr,HH,av,av,aG,gI,aK,fC,aK]
 by_cases hmn:m=my
 ·subst hmn
  rw[wD rfl,kl,cm,kg,cn,fy,av,av,aG,gI,aK,iA,tf (by omega),nC,dH]
  refine zQ hx hwx hy hwy t1 (Nat.le_refl _) t2 hY (by omega) cy call _ _ _ _ λg3 g4 g5 he=>?_
  rw[dK,av,aG,lV,lv,qS,pi,decide_eq_false (by omega)]
 ·rw[D8 hmn,kl,cm,kg,bY,av,aG,gI,aK,fC,aK]
  by_cases hlt:m<my
  ·have h1:4294967296^m≤4294967296^(my-1):=Nat.pow_le_pow_right (by decide) (by omega)
   rw[dz hlt,lV,lv,qS,pi,decide_eq_true (Nat.lt_of_lt_of_le t2 (Nat.le_trans h1 (hY0.resolve_left (by omega))))]
  ·have h1:4294967296^my≤4294967296^(m-1):=Nat.pow_le_pow_right (by decide) (by omega)
   have h2:=Nat.lt_of_lt_of_le hY (Nat.le_trans h1 (t3.resolve_left (by omega)))
   rw[dC (by omega),lV,lv,qS,pi,decide_eq_false (Nat.not_lt.2 (Nat.le_of_lt h2))]
end Go.Ai
namespace Go.Ai
theorem By(β M Z k:Nat):(aF β M Z).drop k=aF β (M-k) (Z/β^k):=by
 apply List.ext_getElem?
 intro i
 rw[List.getElem?_drop]
 by_cases h:i<M-k
 ·rw[bb _ _ _ _ h,bb _ _ _ _ (by omega),Nat.pow_add,← Nat.div_div_eq_div_mul]
 ·rw[List.getElem?_eq_none (by rw[aq];omega),List.getElem?_eq_none (by rw[aq];omega)]
theorem se{β M T i:Nat}(h:i<M):(cw (aF β M T))[i]? = some (.int .u64 (.ofNat (T/β^i%β))):=by
 rw[cw,List.getElem?_map,bb _ _ _ _ h];rfl
theorem Ur(h:H)(k:af):qZ (.bool true) h k=k (.bool false) h:=rfl
theorem SQ(h:H)(k:af):qZ (.bool false) h k=k (.bool true) h:=rfl
variable [Nu]
theorem AA{L:List Obj}{jr jy k n M T Y G D er ey:Nat}(hne:jr≠jy)(hr:L[jr]? = some (.cells (cw (aF 4294967296 M T)) er))(hy:L[jy]? = some (.cells (cw (aF 4294967296 n Y)) ey))(hM:k+n<M)(hm:M<1073741824)(hG:G<4294967296)(hU:T/4294967296^k=D+G*Y)(call:Call)
  (a b x2 x4 q x8 x10 x13 x15 x16 x17 x18:AV) :
  ∃ x13' x15' x16',∀ kr ke kn0,kL gq call kr ke kn0 (⟨⟨a,b,x2,.slc (nm jy) 0 n (.opn n),x4,.int .i64 (.ofNat n),q,.int .i64 (.ofNat k)⟩,⟨x8,.slc (nm jr) 0 M (.opn M),x10,.int .u64 (.ofNat G),.int .i64 (.ofNat 0),x13,.int .u64 (.ofNat 0),x15⟩,⟨x16,x17,x18,.undef,.undef,.undef,.undef,.undef⟩,i8,i8,i8,i8,i8⟩ : ar) (hp L) =
   ke 4 ⟨⟨a,b,x2,.slc (nm jy) 0 n (.opn n),x4,.int .i64 (.ofNat n),q,.int .i64 (.ofNat k)⟩,⟨x8,.slc (nm jr) 0 M (.opn M),x10,.int .u64 (.ofNat G),.int .i64 (.ofNat n),x13',.int .u64 (.ofNat (uY 4294967296 G D Y n)),x15'⟩,⟨x16',x17,x18,.undef,.undef,.undef,.undef,.undef⟩,i8,i8,i8,i8,i8⟩ (hp (L.set jr (.cells (cw (bc 4294967296 M (k+n) (T%4294967296^k+4294967296^k*D) T)) er))):=by
 have hjl:jr<L.length:=(List.getElem?_eq_some_iff.mp hr).1
 obtain⟨fr',h',⟨x13',x15',x16',rfl,rfl⟩,hrun⟩:=dl gq call (λi fr h=>∃ x13 x15 x16,fr=(⟨⟨a,b,x2,.slc (nm jy) 0 n (.opn n),x4,.int .i64 (.ofNat n),q,.int .i64 (.ofNat k)⟩,⟨x8,.slc (nm jr) 0 M (.opn M),x10,.int .u64 (.ofNat G),.int .i64 (.ofNat i),x13,.int .u64 (.ofNat (uY 4294967296 G D Y i)),x15⟩,⟨x16,x17,x18,.undef,.undef,.undef,.undef,.undef⟩,i8,i8,i8,i8,i8⟩ : ar)∧h=hp (L.set jr (.cells (cw (bc 4294967296 M (k+i) (T%4294967296^k+4294967296^k*D) T)) er))) n 4
  (λfr h=>∃ x13 x15 x16,fr=(⟨⟨a,b,x2,.slc (nm jy) 0 n (.opn n),x4,.int .i64 (.ofNat n),q,.int .i64 (.ofNat k)⟩,⟨x8,.slc (nm jr) 0 M (.opn M),x10,.int .u64 (.ofNat G),.int .i64 (.ofNat n),x13,.int .u64 (.ofNat (uY 4294967296 G D Y n)),x15⟩,⟨x16,x17,x18,.undef,.undef,.undef,.undef,.undef⟩,i8,i8,i8,i8,i8⟩ : ar)∧h=hp (L.set jr (.cells (cw (bc 4294967296 M (k+n) (T%4294967296^k+4294967296^k*D) T)) er)))
  ⟨⟨a,b,x2,.slc (nm jy) 0 n (.opn n),x4,.int .i64 (.ofNat n),q,.int .i64 (.ofNat k)⟩,⟨x8,.slc (nm jr) 0 M (.opn M),x10,.int .u64 (.ofNat G),.int .i64 (.ofNat 0),x13,.int .u64 (.ofNat 0),x15⟩,⟨x16,x17,x18,.undef,.undef,.undef,.undef,.undef⟩,i8,i8,i8,i8,i8⟩ (hp L) ⟨x13,x15,x16,by rw[IP],by rw[Nat.add_zero,n7 (by decide),ei hr]⟩ (by
   rintro i fr h hi ⟨x13,x15,x16,rfl,rfl⟩
   have o1:k+i<M:=by omega
   have o2:k+i<9223372036854775808:=by omega
   have o3:i+1<9223372036854775808:=by omega
   have hl:(L.set jr (.cells (cw (bc 4294967296 M (k+i) (T%4294967296^k+4294967296^k*D) T)) er))[jr]? = some (.cells (cw (bc 4294967296 M (k+i) (T%4294967296^k+4294967296^k*D) T)) er):=by rw[List.getElem?_set,if_pos rfl,if_pos hjl]
   have hly:(L.set jr (.cells (cw (bc 4294967296 M (k+i) (T%4294967296^k+4294967296^k*D) T)) er))[jy]? = some (.cells (cw (aF 4294967296 n Y)) ey):=by rw[List.getElem?_set,if_neg hne,hy]
   have hil:k+i<(cw (bc 4294967296 M (k+i) (T%4294967296^k+4294967296^k*D) T)).length:=by rw[aS,bh];exact o1
   have ly:(cw (aF 4294967296 n Y))[i]? = some (.int .u64 (.ofNat (Y/4294967296^i%4294967296))):=se hi
   obtain⟨b1,b2,_⟩:=vj (β:=4294967296) (by decide) G D Y i
   have bl:=HO (β:=4294967296) (G:=G) (D:=D) (Y:=Y) (by decide) i
   have hd:D/4294967296^i%4294967296<4294967296:=Nat.mod_lt _ (by decide)
   have lr:(cw (bc 4294967296 M (k+i) (T%4294967296^k+4294967296^k*D) T))[k+i]? = some (.int .u64 (.ofNat ((D+G*Y)/4294967296^i%4294967296))):=by
    rw[cw,List.getElem?_map,dO _ _ _ _ _ o1,if_neg (Nat.lt_irrefl _),fc,hU];rfl
   have hyb:Y/4294967296^i%4294967296<4294967296:=Nat.mod_lt _ (by decide)
   have hlay:=iD (β:=4294967296) (T:=T) (D:=D) (j:=k) (i:=i) (by decide)
   have hstep:=cB (β:=4294967296) M (k+i) (T%4294967296^k+4294967296^k*D) T o1
   rw[hlay]at hstep
   generalize hyi:Y/4294967296^i%4294967296=y at *
   generalize hc:uY 4294967296 G D Y i=c at *
   generalize hu:(D+G*Y)/4294967296^i%4294967296=u at *
   generalize hdi:D/4294967296^i%4294967296=d at *
   generalize hO:bc 4294967296 M (k+i) (T%4294967296^k+4294967296^k*D) T=O at *
   have hub:u<4294967296:=by rw[← b1];exact Nat.mod_lt _ (by decide)
   have hyG:y*G≤4294967295*4294967295:=Nat.mul_le_mul (by omega) (by omega)
   have m1:y*G%18446744073709551616=y*G:=Nat.mod_eq_of_lt (by omega)
   have m2:(y*G+c)%18446744073709551616=y*G+c:=Nat.mod_eq_of_lt (by omega)
   have hpl:y*G+c<18446744073709551616:=by omega
   rw[Nat.mul_comm G y]at b1 b2
   obtain⟨t1,t2⟩:=Df hd b1 b2
   have hll:(L.set jr (.cells (cw (O.set (k+i) (u+4294967296))) er))[jr]? = some (.cells (cw (O.set (k+i) (u+4294967296))) er):=by rw[List.getElem?_set,if_pos rfl,if_pos hjl]
   have hOl:k+i<O.length:=by rw[aS]at hil;exact hil
   have lr2:(cw (O.set (k+i) (u+4294967296)))[k+i]? = some (.int .u64 (.ofNat (u+4294967296))):=by
    rw[cw,List.getElem?_map,List.getElem?_set,if_pos rfl,if_pos hOl];rfl
   have hil2:k+i<(cw (O.set (k+i) (u+4294967296))).length:=by rw[aS,List.length_set];exact hOl
   have e32:(2:Nat)^32=4294967296:=rfl
   have hpm:(y*G+c)%4294967296<4294967296:=Nat.mod_lt _ (by decide)
   have m3:(u+4294967296)%18446744073709551616=u+4294967296:=Nat.mod_eq_of_lt (by omega)
   by_cases hlt:u<(y*G+c)%4294967296
   ·obtain⟨t3,t4⟩:=t1 hlt
    have m4:((y*G+c)/4294967296+1)%18446744073709551616=uY 4294967296 G D Y (i+1):=by rw[t4];exact Nat.mod_eq_of_lt (by have:=HO (β:=4294967296) (G:=G) (D:=D) (Y:=Y) (by decide) (i+1);omega)
    refine⟨_,_,⟨.bool true,.int .u64 (.ofNat (y*G+c)),.bool true,rfl,rfl⟩,λkr ke kn=>?_⟩
    rw[gq,av,av,aG,fx,ic,dz hi,sU,cm,qW,bY,fy,av,dH,av,aG,fj,fx,bw hi,aR hly ly,mB,wW,m1,gW,pr,m2,qh,av,aG,gb,dP (by decide),e32,lS,av,av,aG,fP,fx,bW o2,jS,bw o1,aR hl lr,gb,fL hpl,dz hlt,yu,cm,p9,bY,
     av,aG,fP,fx,bW o2,bW o2,jS,bw o1,aR hl lr,pr,m3,bw o1,dQ hl hil,List.set_set,cU,aG,gW,LI,pr,m4,lS,aG,fP,fx,bW o2,bW o2,jS,bw o1,aR hll lr2,gb,fL hpl,ee (by omega) (by omega),bw o1,dQ hll hil2,List.set_set,cU,List.set_set,t3,hstep,aG,fx,iA,bW o3,qz,Nat.add_assoc k i 1]
   ·obtain⟨t3,t4⟩:=t2 hlt
    refine⟨_,_,⟨.bool true,.int .u64 (.ofNat (y*G+c)),.bool false,rfl,rfl⟩,λkr ke kn=>?_⟩
    rw[gq,av,av,aG,fx,ic,dz hi,sU,cm,qW,bY,fy,av,dH,av,aG,fj,fx,bw hi,aR hly ly,mB,wW,m1,gW,pr,m2,qh,av,aG,gb,dP (by decide),e32,lS,av,av,aG,fP,fx,bW o2,jS,bw o1,aR hl lr,gb,fL hpl,dC (Nat.le_of_not_lt hlt),yu,cm,p9,cn,fy,
     aG,fP,fx,bW o2,bW o2,jS,bw o1,aR hl lr,gb,fL hpl,ee (Nat.le_of_not_lt hlt) (by omega),bw o1,dQ hl hil,List.set_set,cU,t3,t4,hstep,aG,fx,iA,bW o3,qz,Nat.add_assoc k i 1]) (by
   rintro fr h ⟨x13,x15,x16,rfl,rfl⟩
   refine⟨_,_,⟨.bool false,x15,x16,rfl,rfl⟩,λkr ke kn=>?_⟩
   rw[gq,av,av,aG,fx,ic,dC (Nat.le_refl _),sU,cm,qW,cn,me]) (by omega)
 exact⟨x13',x15',x16',hrun⟩
theorem TO{a b:Nat}(h:H)(k:af):GW (.int .u64 (.ofNat a)) (.int .u64 (.ofNat b)) h k=k (.int .u64 (.ofNat (max a b))) h:=by
 unfold GW
 rw[bA]
 show ifC (Nat.blt a b) _ _=_
 rw[az]
 by_cases hab:a<b
 ·rw[decide_eq_true hab,a7,Nat.max_eq_right (Nat.le_of_lt hab)]
 ·rw[decide_eq_false hab,a5,Nat.max_eq_left (Nat.le_of_not_lt hab)]
theorem AD{L:List Obj}{jr jy jq k n M J Y Z U er ey:Nat}{ws:List Nat}(hne:jr≠jy)(hqr:jq≠jr)(hqy:jq≠jy)(hr:L[jr]? = some (.cells (cw (aF 4294967296 M (Z+4294967296^k*U))) er))(hy:L[jy]? = some (.cells (cw (aF 4294967296 n Y)) ey))(hq:L[jq]? = some (.cells (cw ws) 0))
  (hws:ws.length=J) (hkJ:k<J) (hw0:ws[k]? = some 0) (hM:k+n<M) (hm:M<1073741824) (hJ:J<1073741824) (hn:0<n) (hZ:Z<4294967296^k) (hY1:4294967296^(n-1)≤Y) (hYn:Y<4294967296^n) (hU:U<Y*4294967296) {call:Call} {pB:ab} (hB:oD call pB)
  (a b x2 x4 x8 x10 x11 x12 x13 x14 x15 x16 x17 x18:AV) :
  ∃ x10' x11' x12' x13' x14' x15' x16',∀ kr ke kn0,kL (iV pB) call kr ke kn0 (⟨⟨a,b,x2,.slc (nm jy) 0 n (.opn n),x4,.int .i64 (.ofNat n),.slc (nm jq) 0 J (.exact J),.int .i64 (.ofNat k)⟩,⟨x8,.slc (nm jr) 0 M (.opn M),x10,x11,x12,x13,x14,x15⟩,⟨x16,x17,x18,.undef,.undef,.undef,.undef,.undef⟩,i8,i8,i8,i8,i8⟩ : ar) (hp L) =
   ke 2 ⟨⟨a,b,x2,.slc (nm jy) 0 n (.opn n),x4,.int .i64 (.ofNat n),.slc (nm jq) 0 J (.exact J),.int .i64 (.ofNat k)⟩,⟨x8,.slc (nm jr) 0 M (.opn M),x10',x11',x12',x13',x14',x15'⟩,⟨x16',x17,x18,.undef,.undef,.undef,.undef,.undef⟩,i8,i8,i8,i8,i8⟩ (hp ((L.set jr (.cells (cw (aF 4294967296 M (Z+4294967296^k*(U%Y)))) er)).set jq (.cells (cw (ws.set k (U/Y))) 0))):=by
 obtain⟨n1,rfl⟩ : ∃ n1,n=n1+1:=⟨n-1,by omega⟩
 rw[Nat.add_sub_cancel]at hY1
 have hjl:jr<L.length:=(List.getElem?_eq_some_iff.mp hr).1
 have hql:jq<L.length:=(List.getElem?_eq_some_iff.mp hq).1
 have hY0:0<Y:=Nat.lt_of_lt_of_le (Nat.pow_pos (by decide)) hY1
 have hR:U/Y<4294967296:=by rw[Nat.div_lt_iff_lt_mul hY0,Nat.mul_comm];exact hU
 obtain⟨N,hN,hRd⟩:=Nh (β:=4294967296) (n:=n1+1) (by decide) hY0 hY1 32 U (Nat.le_of_lt hR)
 have hUn:U<4294967296^(n1+1+1):=Nat.lt_of_lt_of_le hU (by rw[Nat.pow_succ];exact Nat.mul_le_mul_right _ (Nat.le_of_lt hYn))
 have hpk:0<4294967296^k:=Nat.pow_pos (by decide)
 have hlow:∀ V,(Z+4294967296^k*V)%4294967296^k=Z:=λV=>by rw[Nat.add_mul_mod_self_left,Nat.mod_eq_of_lt hZ]
 have hhigh:∀ V,(Z+4294967296^k*V)/4294967296^k=V:=λV=>by rw[Nat.add_mul_div_left _ _ hpk,Nat.div_eq_of_lt hZ,Nat.zero_add]
 obtain⟨fr',h',⟨x10',x11',x12',x13',x14',x15',x16',rfl,rfl⟩,hrun⟩:=dl (iV pB) call (λr fr h=>∃ x10 x11 x12 x13 x14 x15 x16 G V,fr=(⟨⟨a,b,x2,.slc (nm jy) 0 (n1+1) (.opn (n1+1)),x4,.int .i64 (.ofNat (n1+1)),.slc (nm jq) 0 J (.exact J),.int .i64 (.ofNat k)⟩,⟨x8,.slc (nm jr) 0 M (.opn M),x10,x11,x12,x13,x14,x15⟩,⟨x16,x17,x18,.undef,.undef,.undef,.undef,.undef⟩,i8,i8,i8,i8,i8⟩ : ar)∧h=hp ((L.set jr (.cells (cw (aF 4294967296 M (Z+4294967296^k*V))) er)).set jq (.cells (cw (ws.set k G)) 0))∧U=V+G*Y∧Rd 4294967296 (n1+1) Y V (N-r)) N 2
  (λfr h=>∃ x10 x11 x12 x13 x14 x15 x16,fr=(⟨⟨a,b,x2,.slc (nm jy) 0 (n1+1) (.opn (n1+1)),x4,.int .i64 (.ofNat (n1+1)),.slc (nm jq) 0 J (.exact J),.int .i64 (.ofNat k)⟩,⟨x8,.slc (nm jr) 0 M (.opn M),x10,x11,x12,x13,x14,x15⟩,⟨x16,x17,x18,.undef,.undef,.undef,.undef,.undef⟩,i8,i8,i8,i8,i8⟩ : ar)∧h=hp ((L.set jr (.cells (cw (aF 4294967296 M (Z+4294967296^k*(U%Y)))) er)).set jq (.cells (cw (ws.set k (U/Y))) 0)))
  ⟨⟨a,b,x2,.slc (nm jy) 0 (n1+1) (.opn (n1+1)),x4,.int .i64 (.ofNat (n1+1)),.slc (nm jq) 0 J (.exact J),.int .i64 (.ofNat k)⟩,⟨x8,.slc (nm jr) 0 M (.opn M),x10,x11,x12,x13,x14,x15⟩,⟨x16,x17,x18,.undef,.undef,.undef,.undef,.undef⟩,i8,i8,i8,i8,i8⟩ (hp L) ⟨x10,x11,x12,x13,x14,x15,x16,0,U,rfl,by
   have e:ws.set k 0=ws:=by
    apply List.ext_getElem?
    intro p
    rw[List.getElem?_set]
    by_cases e:k=p
    ·subst e;rw[if_pos rfl,if_pos (by omega),hw0]
    ·rw[if_neg e]
   rw[e,ei hr,ei hq],by rw[Nat.zero_mul,Nat.add_zero],hRd⟩ (by
   rintro r fr h hr' ⟨x10,x11,x12,x13,x14,x15,x16,G,V,rfl,rfl,hUV,hRd⟩
   obtain⟨dd,hdd⟩ : ∃ dd,N-r=dd+1:=⟨N-r-1,by omega⟩
   rw[hdd]at hRd
   cases hRd with
   | succ hYV hRd' =>
   obtain⟨g,hg⟩ : ∃ g,uX 4294967296 (n1+1) Y V=g:=⟨_,rfl⟩
   obtain⟨g1,g2⟩:=wO (β:=4294967296) (n:=n1+1) (by decide) hY0 hYV
   rw[hg]at hRd' g1 g2
   have hVU:V≤U:=by rw[hUV];exact Nat.le_add_right _ _
   have hVn:V<4294967296^(n1+1+1):=Nat.lt_of_le_of_lt hVU hUn
   have hgY:g*Y≤V:=Nat.le_trans (Nat.mul_le_mul_right _ g2) (Nat.div_mul_le_self _ _)
   have hGR:G+g≤U/Y:=by
    rw[Nat.le_div_iff_mul_le hY0,Nat.add_mul,hUV,Nat.add_comm]
    exact Nat.add_le_add_right hgY _
   have hgB:g<4294967296:=Nat.lt_of_le_of_lt (Nat.le_trans (Nat.le_add_left _ _) hGR) hR
   obtain⟨D,hD⟩ : ∃ D,V-g*Y=D:=⟨_,rfl⟩
   rw[hD]at hRd'
   have hVD:V=D+g*Y:=by omega
   have hDn:D<4294967296^(n1+1+1):=Nat.lt_of_le_of_lt (by omega) hVn
   obtain⟨T,hT⟩ : ∃ T,Z+4294967296^k*V=T:=⟨_,rfl⟩
   have hTl:T%4294967296^k=Z:=by rw[← hT];exact hlow V
   have hTh:T/4294967296^k=V:=by rw[← hT];exact hhigh V
   rw[hT]
   have h1r:((L.set jr (.cells (cw (aF 4294967296 M T)) er)).set jq (.cells (cw (ws.set k G)) 0))[jr]? = some (.cells (cw (aF 4294967296 M T)) er):=by rw[List.getElem?_set,if_neg hqr,List.getElem?_set,if_pos rfl,if_pos hjl]
   have h1y:((L.set jr (.cells (cw (aF 4294967296 M T)) er)).set jq (.cells (cw (ws.set k G)) 0))[jy]? = some (.cells (cw (aF 4294967296 (n1+1) Y)) ey):=by rw[List.getElem?_set,if_neg hqy,List.getElem?_set,if_neg hne,hy]
   have h1q:((L.set jr (.cells (cw (aF 4294967296 M T)) er)).set jq (.cells (cw (ws.set k G)) 0))[jq]? = some (.cells (cw (ws.set k G)) 0):=by rw[List.getElem?_set,if_pos rfl,List.length_set,if_pos hql]
   have h2r:((L.set jr (.cells (cw (aF 4294967296 M T)) er)).set jq (.cells (cw (ws.set k (G+g))) 0))[jr]? = some (.cells (cw (aF 4294967296 M T)) er):=by rw[List.getElem?_set,if_neg hqr,List.getElem?_set,if_pos rfl,if_pos hjl]
   have h2y:((L.set jr (.cells (cw (aF 4294967296 M T)) er)).set jq (.cells (cw (ws.set k (G+g))) 0))[jy]? = some (.cells (cw (aF 4294967296 (n1+1) Y)) ey):=by rw[List.getElem?_set,if_neg hqy,List.getElem?_set,if_neg hne,hy]
   obtain⟨O,hO⟩ : ∃ O,bc 4294967296 M (k+(n1+1)) (T%4294967296^k+4294967296^k*D) T=O:=⟨_,rfl⟩
   have h3r:(((L.set jr (.cells (cw (aF 4294967296 M T)) er)).set jq (.cells (cw (ws.set k (G+g))) 0)).set jr (.cells (cw O) er))[jr]? = some (.cells (cw O) er):=by rw[List.getElem?_set,if_pos rfl,List.length_set,List.length_set,if_pos hjl]
   have hOlen:O.length=M:=by rw[← hO,bh]
   have hlt:¬ V<Y:=Nat.not_lt.2 hYV
   have hb:=λkk=>hB _ jr jy k (M-k) (M-k) (n1+1) er ey V Y _ _ (.opn (n1+1)) kk h1r (by rw[cw,← List.map_drop,By,hTh];exact List.take_of_length_le (by simp[aq])) (Nat.le_refl _) h1y (by rw[List.drop_zero];exact List.take_of_length_le (by simp[aS,aq])) (Nat.lt_of_lt_of_le hVn (Nat.pow_le_pow_right (by decide) (by omega))) hYn (.inr hY1) (by omega) (by omega)
   rw[decide_eq_false hlt]at hb
   have hyt:Y/4294967296^n1<4294967296:=by rw[Nat.div_lt_iff_lt_mul (Nat.pow_pos (by decide)),← Nat.pow_succ'];exact hYn
   have hvt:V/4294967296^(n1+1)<4294967296:=by rw[Nat.div_lt_iff_lt_mul (Nat.pow_pos (by decide)),← Nat.pow_succ'];exact hVn
   have l1:(cw (aF 4294967296 M T))[k+(n1+1)]? = some (.int .u64 (.ofNat (V/4294967296^(n1+1)))):=by rw[se hM,fc,hTh,Nat.mod_eq_of_lt hvt]
   have l2:(cw (aF 4294967296 M T))[k+n1]? = some (.int .u64 (.ofNat (V/4294967296^n1%4294967296))):=by rw[se (by omega),fc,hTh]
   have l3:(cw (aF 4294967296 (n1+1) Y))[n1]? = some (.int .u64 (.ofNat (Y/4294967296^n1))):=by rw[se (Nat.lt_succ_self _),Nat.mod_eq_of_lt hyt]
   have l4:(cw (ws.set k G))[k]? = some (.int .u64 (.ofNat G)):=by rw[cw,List.getElem?_map,List.getElem?_set,if_pos rfl,if_pos (by omega)];rfl
   have l5:(cw O)[k+(n1+1)]? = some (.int .u64 (.ofNat (V/4294967296^(n1+1)))):=by rw[← hO,cw,List.getElem?_map,dO _ _ _ _ _ hM,if_neg (Nat.lt_irrefl _),fc,hTh,Nat.mod_eq_of_lt hvt];rfl
   have e32:(2:Nat)^32=4294967296:=rfl
   have hv1:V/4294967296^(n1+1)=V/4294967296^n1/4294967296:=by rw[Nat.pow_succ,Nat.div_div_eq_div_mul]
   have m1:V/4294967296^(n1+1)*4294967296%18446744073709551616=V/4294967296^(n1+1)*4294967296:=Nat.mod_eq_of_lt (by omega)
   have hv2:V/4294967296^(n1+1)*4294967296+V/4294967296^n1%4294967296=V/4294967296^n1:=by rw[hv1,Nat.mul_comm];exact Nat.div_add_mod _ _
   have hv3:V/4294967296^n1<18446744073709551616:=by omega
   have m2:V/4294967296^n1%18446744073709551616=V/4294967296^n1:=Nat.mod_eq_of_lt hv3
   have m3:(Y/4294967296^n1+1)%18446744073709551616=Y/4294967296^n1+1:=Nat.mod_eq_of_lt (by omega)
   have m4:(G+g)%18446744073709551616=G+g:=Nat.mod_eq_of_lt (by omega)
   have hg':max 1 (V/4294967296^n1/(Y/4294967296^n1+1))=g:=hg
   obtain⟨y13,y15,y16,hL0⟩:=AA hne h2r h2y hM hm hgB (by rw[hTh];exact hVD) call a b x2 x4 (.slc (nm jq) 0 J (.exact J)) x8 (.bool true) x13 x15 x16 x17 x18
   rw[hO]at hL0
   obtain⟨_,_,b3⟩:=vj (β:=4294967296) (by decide) g D Y (n1+1)
   rw[Nat.div_eq_of_lt hYn,Nat.mul_zero,Nat.zero_add,← hVD]at b3
   have hsub:V/4294967296^(n1+1)-uY 4294967296 g D Y (n1+1)=D/4294967296^(n1+1):=by rw[← b3,Nat.add_sub_cancel]
   have hble:uY 4294967296 g D Y (n1+1)≤V/4294967296^(n1+1):=by rw[← b3];exact Nat.le_add_left _ _
   have hDd:D/4294967296^(n1+1)=(T%4294967296^k+4294967296^k*D)/4294967296^(k+(n1+1))%4294967296:=by
    rw[iD (by decide),Nat.mod_eq_of_lt (by rw[Nat.div_lt_iff_lt_mul (Nat.pow_pos (by decide)),← Nat.pow_succ'];exact hDn)]
   have hstep:=cB (β:=4294967296) M (k+(n1+1)) (T%4294967296^k+4294967296^k*D) T hM
   rw[hO,← hDd,Nat.add_assoc,qR (by decide) hDn (by rw[hTh];exact hVn),hTl]at hstep
   have o13:V/4294967296^(n1+1)<18446744073709551616:=Nat.lt_trans hvt (by decide)
   have o9:k≤M:=by omega
   have o10:k<M:=by omega
   have o11:1≤k+(n1+1):=by omega
   have o12:1≤n1+1:=by omega
   have hil1:k<(cw (ws.set k G)).length:=by rw[aS,List.length_set,hws];exact hkJ
   have hil3:k+(n1+1)<(cw O).length:=by rw[aS,hOlen];exact hM
   have o1:k+(n1+1)<9223372036854775808:=by omega
   have o2:k+n1<M:=by omega
   have o3:n1+1<9223372036854775808:=by omega
   have aX:∀ R',(((L.set jr (.cells (cw (aF 4294967296 M T)) er)).set jq (.cells (cw (ws.set k (G+g))) 0)).set jr R')=(L.set jr R').set jq (.cells (cw (ws.set k (G+g))) 0):=λR'=>by rw[List.set_comm _ _ hqr,List.set_set]
   refine⟨_,_,⟨.bool true,.int .u64 (.ofNat g),.int .i64 (.ofNat (n1+1)),y13,.int .u64 (.ofNat (uY 4294967296 g D Y (n1+1))),y15,y16,G+g,D,rfl,rfl,by rw[hUV,hVD,Nat.add_mul];omega,by rw[show N-(r+1)=dd by omega];exact hRd'⟩,λkr ke kn=>?_⟩
   rw[iV,av,av,aG,jS,fP,rb o9 (Nat.le_refl _) (.inl o10),Nat.zero_add,fj,bJ,hb,SQ,xE,cm,lE,bY,fy,dH,av,aG,fP,ic,bW o1,jS,bw hM,aR h1r l1,AK (by decide),e32,m1,bW o1,iA,eE o11 o1,show k+(n1+1)-1=k+n1 from rfl,bw o2,aR h1r l2,pr,hv2,m2,eE o12 o3,show n1+1-1=n1 from rfl,fj,bw (Nat.lt_succ_self _),aR h1y l3,LI,pr,m3,Oh (Nat.succ_pos _) hv3,TO,hg',xY,
    av,aG,nt,fP,bw hkJ,aR h1q l4,mB,pr,m4,bw hkJ,dQ h1q hil1,List.set_set,cU,List.set_set,av,aG,wI,lS,av,av,aG,eN,qz,dH,hL0,dK,aG,fP,ic,bW o1,bW o1,jS,bw hM,aR h3r l5,gW,ee hble o13,hsub,bw hM,dQ h3r hil3,List.set_set,cU,hstep,aX]) (by
   rintro fr h ⟨x10,x11,x12,x13,x14,x15,x16,G,V,rfl,rfl,hUV,hRd⟩
   rw[Nat.sub_self]at hRd
   cases hRd with
   | zero hVY =>
   have hq1:U/Y=G:=by rw[hUV,Nat.add_mul_div_right _ _ hY0,Nat.div_eq_of_lt hVY,Nat.zero_add]
   have hr1:U%Y=V:=by rw[hUV,Nat.add_mul_mod_self_right,Nat.mod_eq_of_lt hVY]
   have h1r:((L.set jr (.cells (cw (aF 4294967296 M (Z+4294967296^k*V))) er)).set jq (.cells (cw (ws.set k G)) 0))[jr]? = some (.cells (cw (aF 4294967296 M (Z+4294967296^k*V))) er):=by rw[List.getElem?_set,if_neg hqr,List.getElem?_set,if_pos rfl,if_pos hjl]
   have h1y:((L.set jr (.cells (cw (aF 4294967296 M (Z+4294967296^k*V))) er)).set jq (.cells (cw (ws.set k G)) 0))[jy]? = some (.cells (cw (aF 4294967296 (n1+1) Y)) ey):=by rw[List.getElem?_set,if_neg hqy,List.getElem?_set,if_neg hne,hy]
   have hVn:V<4294967296^(n1+1):=Nat.lt_trans hVY hYn
   have hb:=λkk=>hB _ jr jy k (M-k) (M-k) (n1+1) er ey V Y _ _ (.opn (n1+1)) kk h1r (by rw[cw,← List.map_drop,By,hhigh];exact List.take_of_length_le (by simp[aq])) (Nat.le_refl _) h1y (by rw[List.drop_zero];exact List.take_of_length_le (by simp[aS,aq])) (Nat.lt_of_lt_of_le hVn (Nat.pow_le_pow_right (by decide) (by omega))) hYn (.inr hY1) (by omega) (by omega)
   rw[decide_eq_true hVY]at hb
   have o9:k≤M:=by omega
   have o10:k<M:=by omega
   refine⟨_,_,⟨.bool false,x11,x12,x13,x14,x15,x16,rfl,by rw[hq1,hr1]⟩,λkr ke kn=>?_⟩
   rw[iV,av,av,aG,jS,fP,rb o9 (Nat.le_refl _) (.inl o10),Nat.zero_add,fj,bJ,hb,Ur,xE,cm,lE,cn,me]) (by omega)
 exact⟨x10',x11',x12',x13',x14',x15',x16',hrun⟩
end Go.Ai
namespace Go.Ai
theorem wM(neg:Bool)(s:List Nat)(h:H)(k:af):ls neg (.str s) (.str []) h k=k (.bool (xor neg (decide (s=[])))) h:=by
 cases s <;> cases neg <;> rfl
theorem B2{N n:Nat}(h:N<256^n):(ai N).length≤n:=by
 have:=qo (be n N)
 rwa [ff h,dT]at this
theorem IY{N:Nat}:ai N=[]↔N=0:=by
 constructor
 ·intro h
  have:=bS N
  rw[h]at this
  exact this.symm
 ·rintro rfl;rfl
theorem FO:([U0]:List AV)=cw (aF 4294967296 1 0):=rfl
variable [Nu]
theorem aeK{m n:Nat}(hm:m<1048576)(hn:n<1048576)(h:H)(k:AV→H→aa):
  (yD (.int .i64 (.ofNat m)) (.int .i64 (.ofNat n)) h λb h=>yA b (.int .i64 (.ofNat 1)) h λd h=>GW (.int .i64 (.ofNat 0)) d h λe h=>k e h)=k (.int .i64 (.ofNat (m+1-n))) h:=by
 have hI:∀ (a b:Int) (f:IntKind→Int→Int→aa),dA (.int .i64 a) (.int .i64 b) f=f .i64 a b:=λ_ _ _=>rfl
 unfold yD
 rw[hI,pp,b5]
 have e1:IntKind.wrap .i64 (Int.sub (Int.ofNat m) (Int.ofNat n))=(m:Int)-n:=by
  rw[show Int.sub (Int.ofNat m) (Int.ofNat n)=(m:Int)-n from rfl,IntWalk.i64_in _ (by omega)]
 rw[e1]
 unfold yA
 dsimp only
 rw[hI,pE,b5]
 have e2:IntKind.wrap .i64 (Int.add ((m:Int)-n) (Int.ofNat 1))=(m:Int)-n+1:=by
  rw[show Int.add ((m:Int)-n) (Int.ofNat 1)=(m:Int)-n+1 from rfl,IntWalk.i64_in _ (by omega)]
 rw[e2]
 unfold GW
 dsimp only
 rw[hI]
 by_cases h1:n≤m
 ·rw[show (m:Int)-n+1=Int.ofNat (m+1-n) by show (m:Int)-n+1=((m+1-n:Nat):Int);omega]
  show ifC (Nat.blt 0 (m+1-n)) _ _=_
  rw[az,decide_eq_true (by omega),a7]
 ·obtain⟨d,hd⟩ : ∃ d,n=m+1+d:=⟨n-m-1,by omega⟩
  subst hd
  rw[show m+1-(m+1+d)=0 by omega]
  cases d with
  | zero=>rw[show (m:Int)-((m+1+0:Nat):Int)+1=Int.ofNat 0 by show (m:Int)-((m+1+0:Nat):Int)+1=((0:Nat):Int);omega];rfl
  | succ d=>rw[show (m:Int)-((m+1+(d+1):Nat):Int)+1=Int.negSucc d by omega];rfl
def uh(call:Call)(p:ab):Prop:=∀ (L:List Obj) (s:List Nat),ej s→s.length<1048576 →
 ∃ g v,(∀ k:af,call p [.str s] (hp L) k=k v (hp (L++g)))∧LW uI L.length (L++g) v ((s.length+3)/4) (aB s)
theorem zC{L:List Obj}{jr jy jq n M J Y A er ey:Nat}(hne:jr≠jy)(hqr:jq≠jr)(hqy:jq≠jy)(hr:L[jr]? = some (.cells (cw (aF 4294967296 M A)) er))(hy:L[jy]? = some (.cells (cw (aF 4294967296 n Y)) ey))(hq:L[jq]? = some (.cells (cw (aF 4294967296 J 0)) 0))
  (hJM:J+n=M∨J=0) (hm:M<1073741824) (hJ:J<1073741824) (hn:0<n) (hY1:4294967296^(n-1)≤Y) (hYn:Y<4294967296^n) (hA:A<Y*4294967296^J) {call:Call} {pB:ab} (hB:oD call pB)
  (a b x2 x4 x8' x10 x11 x12 x13 x14 x15 x16 x17 x18:AV) :
  ∃ x7 x8 x10' x11' x12' x13' x14' x15' x16',∀ kr ke kn0,kL (iL pB) call kr ke kn0 (⟨⟨a,b,x2,.slc (nm jy) 0 n (.opn n),x4,.int .i64 (.ofNat n),.slc (nm jq) 0 J (.exact J),dn J 0⟩,⟨x8',.slc (nm jr) 0 M (.opn M),x10,x11,x12,x13,x14,x15⟩,⟨x16,x17,x18,.undef,.undef,.undef,.undef,.undef⟩,i8,i8,i8,i8,i8⟩ : ar) (hp L) =
   ke 0 ⟨⟨a,b,x2,.slc (nm jy) 0 n (.opn n),x4,.int .i64 (.ofNat n),.slc (nm jq) 0 J (.exact J),x7⟩,⟨x8,.slc (nm jr) 0 M (.opn M),x10',x11',x12',x13',x14',x15'⟩,⟨x16',x17,x18,.undef,.undef,.undef,.undef,.undef⟩,i8,i8,i8,i8,i8⟩ (hp ((L.set jr (.cells (cw (aF 4294967296 M (A%Y))) er)).set jq (.cells (cw (aF 4294967296 J (A/Y))) 0))):=by
 have hjl:jr<L.length:=(List.getElem?_eq_some_iff.mp hr).1
 have hql:jq<L.length:=(List.getElem?_eq_some_iff.mp hq).1
 have hY0:0<Y:=Nat.lt_of_lt_of_le (Nat.pow_pos (by decide)) hY1
 have hQ:A/Y<4294967296^J:=by rw[Nat.div_lt_iff_lt_mul hY0,Nat.mul_comm];exact hA
 obtain⟨fr',h',⟨y7,y8,x10',x11',x12',x13',x14',x15',x16',rfl,rfl⟩,hrun⟩:=dl (iL pB) call (λr fr h=>∃ x8 x10 x11 x12 x13 x14 x15 x16,fr=(⟨⟨a,b,x2,.slc (nm jy) 0 n (.opn n),x4,.int .i64 (.ofNat n),.slc (nm jq) 0 J (.exact J),dn J r⟩,⟨x8,.slc (nm jr) 0 M (.opn M),x10,x11,x12,x13,x14,x15⟩,⟨x16,x17,x18,.undef,.undef,.undef,.undef,.undef⟩,i8,i8,i8,i8,i8⟩ : ar)∧h=hp ((L.set jr (.cells (cw (aF 4294967296 M (A%(Y*4294967296^(J-r))))) er)).set jq (.cells (cw (aF 4294967296 J (4294967296^(J-r)*(A/Y/4294967296^(J-r))))) 0))) J 0
  (λfr h=>∃ x7 x8 x10 x11 x12 x13 x14 x15 x16,fr=(⟨⟨a,b,x2,.slc (nm jy) 0 n (.opn n),x4,.int .i64 (.ofNat n),.slc (nm jq) 0 J (.exact J),x7⟩,⟨x8,.slc (nm jr) 0 M (.opn M),x10,x11,x12,x13,x14,x15⟩,⟨x16,x17,x18,.undef,.undef,.undef,.undef,.undef⟩,i8,i8,i8,i8,i8⟩ : ar)∧h=hp ((L.set jr (.cells (cw (aF 4294967296 M (A%Y))) er)).set jq (.cells (cw (aF 4294967296 J (A/Y))) 0)))
  ⟨⟨a,b,x2,.slc (nm jy) 0 n (.opn n),x4,.int .i64 (.ofNat n),.slc (nm jq) 0 J (.exact J),dn J 0⟩,⟨x8',.slc (nm jr) 0 M (.opn M),x10,x11,x12,x13,x14,x15⟩,⟨x16,x17,x18,.undef,.undef,.undef,.undef,.undef⟩,i8,i8,i8,i8,i8⟩ (hp L) ⟨x8',x10,x11,x12,x13,x14,x15,x16,rfl,by rw[Nat.sub_zero,Nat.div_eq_of_lt hQ,Nat.mul_zero,Nat.mod_eq_of_lt hA,ei hr,ei hq]⟩ (by
   rintro r fr h hr' ⟨x8,x10,x11,x12,x13,x14,x15,x16,rfl,rfl⟩
   obtain⟨k,hk,hk1,hk2,hkJ⟩ : ∃ k,J-1-r=k∧J-r=k+1∧J-(r+1)=k∧k<J:=⟨J-1-r,rfl,by omega,by omega,by omega⟩
   have hM:k+n<M:=by omega
   obtain⟨l1,l2⟩:=tr (β:=4294967296) (X:=A) (V:=Y) (i:=k) rfl
   obtain⟨T,hT⟩ : ∃ T,A%(Y*4294967296^(k+1))=T:=⟨_,rfl⟩
   rw[hT]at l1 l2
   have hTs:T=T%4294967296^k+4294967296^k*(T/4294967296^k):=(Nat.mod_add_div _ _).symm
   have hU:T/4294967296^k<Y*4294967296:=by
    rw[Nat.div_lt_iff_lt_mul (Nat.pow_pos (by decide)),Nat.mul_assoc,← Nat.pow_succ',← hT]
    exact Nat.mod_lt _ (Nat.mul_pos hY0 (Nat.pow_pos (by decide)))
   rw[kj hr',hk,hk1,hk2,hT]
   have h1r:((L.set jr (.cells (cw (aF 4294967296 M T)) er)).set jq (.cells (cw (aF 4294967296 J (4294967296^(k+1)*(A/Y/4294967296^(k+1))))) 0))[jr]? = some (.cells (cw (aF 4294967296 M (T%4294967296^k+4294967296^k*(T/4294967296^k)))) er):=by rw[← hTs,List.getElem?_set,if_neg hqr,List.getElem?_set,if_pos rfl,if_pos hjl]
   have h1y:((L.set jr (.cells (cw (aF 4294967296 M T)) er)).set jq (.cells (cw (aF 4294967296 J (4294967296^(k+1)*(A/Y/4294967296^(k+1))))) 0))[jy]? = some (.cells (cw (aF 4294967296 n Y)) ey):=by rw[List.getElem?_set,if_neg hqy,List.getElem?_set,if_neg hne,hy]
   have h1q:((L.set jr (.cells (cw (aF 4294967296 M T)) er)).set jq (.cells (cw (aF 4294967296 J (4294967296^(k+1)*(A/Y/4294967296^(k+1))))) 0))[jq]? = some (.cells (cw (aF 4294967296 J (4294967296^(k+1)*(A/Y/4294967296^(k+1))))) 0):=by rw[List.getElem?_set,if_pos rfl,List.length_set,if_pos hql]
   have hw0:(aF 4294967296 J (4294967296^(k+1)*(A/Y/4294967296^(k+1))))[k]? = some 0:=by rw[bb _ _ _ _ hkJ,tY (by decide),if_pos (Nat.lt_succ_self _)]
   obtain⟨y10,y11,y12,y13,y14,y15,y16,hL1⟩:=AD hne hqr hqy h1r h1y h1q (aq _ _ _) hkJ hw0 hM hm hJ hn (Nat.mod_lt _ (Nat.pow_pos (by decide))) hY1 hYn hU hB a b x2 x4 (.bool true) x10 x11 x12 x13 x14 x15 x16 x17 x18
   rw[l1,l2,DK (by decide)]at hL1
   have aX:∀ R' Q',((((L.set jr (.cells (cw (aF 4294967296 M T)) er)).set jq (.cells (cw (aF 4294967296 J (4294967296^(k+1)*(A/Y/4294967296^(k+1))))) 0)).set jr R').set jq Q')=(L.set jr R').set jq Q':=λR' Q'=>by rw[List.set_comm _ _ hqr,List.set_set,List.set_set]
   rw[aX]at hL1
   have hd:=λhh kk=>rE hr' (show J<9223372036854775808 by omega) hh kk
   rw[hk]at hd
   refine⟨_,_,⟨.bool true,y10,y11,y12,y13,y14,y15,y16,rfl,rfl⟩,λkr ke kn=>?_⟩
   rw[iL,av,av,aG,fP,eN,cL (Nat.zero_le _),nu,cm,lk,bY,fy,av,dH,dH,hL1,dK,aG,fP,iA,hd,sK]) (by
   rintro fr h ⟨x8,x10,x11,x12,x13,x14,x15,x16,rfl,rfl⟩
   refine⟨_,hp ((L.set jr (.cells (cw (aF 4294967296 M (A%Y))) er)).set jq (.cells (cw (aF 4294967296 J (A/Y))) 0)),⟨dn J J,.bool false,x10,x11,x12,x13,x14,x15,x16,rfl,rfl⟩,λkr ke kn=>?_⟩
   rw[Nat.sub_self,Nat.pow_zero,Nat.mul_one,Nat.div_one,Nat.one_mul,pZ,iL,av,av,aG,fP,eN,iN,nu,cm,lk,cn,me]) hJ
 exact⟨y7,y8,x10',x11',x12',x13',x14',x15',x16',hrun⟩
theorem JT{L g1 g2:List Obj}{x:AV}{m A jy:Nat}{oy:Obj}(hx:LW uI L.length (L++g1) x m A)(hm:m<1048576)(hjy:(L++g1).length≤jy)(hy:(L++g1++g2)[jy]? = some oy):
  ∃ g3 jr,jr≠jy∧L.length≤jr∧(L++g3)[jr]? = some (.cells (cw (aF 4294967296 (m+1) A)) uI)∧(L++g3)[jy]? = some oy∧∀ k:af,(rP 1 [U0] [⟨0,1,U0⟩] (hp (L++g1++g2)) λa h=>r8 1 8 uI x a h k)=k (.slc (nm jr) 0 (m+1) (.opn (m+1))) (hp (L++g3)):=by
 have hjl:=(List.getElem?_eq_some_iff.mp hy).1
 rcases hx with ⟨rfl,rfl,rfl⟩|⟨jx,hlo,rfl,ho,hm0,hlow,hA⟩
 ·refine⟨g1++g2++[Obj.cells [U0] 0]++[Obj.cells [U0] uI],(L++g1++g2++[Obj.cells [U0] 0]).length,by simp at hjl ⊢;omega,by simp,?_,?_,λk=>?_⟩
  ·rw[← FO]
   have:=aO (L++g1++g2++[Obj.cells [U0] 0]) (Obj.cells [U0] uI)
   simpa only [List.append_assoc] using this
  ·have:=cD (g:=[Obj.cells [U0] uI]) (cD (g:=[Obj.cells [U0] 0]) hy)
   simpa only [List.append_assoc] using this
  ·rw[wt U0 U0 rfl,D7 (aO _ _) (by decide)]
   simp only[List.append_assoc]
 ·have hjx:=(List.getElem?_eq_some_iff.mp ho).1
  have e:cw (aF 4294967296 m A)++[U0]=cw (aF 4294967296 (m+1) A):=by
   rw[Bo,Nat.div_eq_of_lt hA,cw,cw,List.map_append];rfl
  have hlist:(L++g1++g2++[Obj.cells [U0] 0]).set jx Obj.dead++[Obj.cells (cw (aF 4294967296 (m+1) A)) uI]=L++((g1++g2++[Obj.cells [U0] 0]).set (jx-L.length) Obj.dead++[Obj.cells (cw (aF 4294967296 (m+1) A)) uI]):=by
   rw[← List.append_assoc,List.append_assoc L,List.append_assoc L,List.set_append_right _ _ hlo]
  refine⟨_,(L++g1++g2++[Obj.cells [U0] 0]).length,by simp at hjl ⊢;omega,by simp,by rw[← hlist];have:=aO ((L++g1++g2++[Obj.cells [U0] 0]).set jx Obj.dead) (Obj.cells (cw (aF 4294967296 (m+1) A)) uI);rw[List.length_set]at this;exact this,?_,λk=>?_⟩
  ·rw[← hlist]
   refine cD ?_
   rw[List.getElem?_set,if_neg (by omega)]
   exact cD hy
  ·rw[wt U0 U0 rfl,EP (aO _ _) (cD (cD ho)) (by rw[aS,aq]) rfl (by omega),e,hlist]
theorem A8{call:Call}{pL pB pP:ab}(hL:uh call pL)(hB:oD call pB)(hP:wJ call pP)(L:List Obj){s t:List Nat}(hs:ej s)(ht:ej t)(hsl:s.length<1048576)(htl:t.length<1048576)(ht0:t≠[]):
  ∃ g,∀ k:af,sn pL pB pP call [.str s,.str t] (hp L) k=k (.tup [.str (ai (aB s/aB t)),.str (ai (aB s%aB t))]) (hp (L++g)):=by
 obtain⟨g1,x,hx,hLx⟩:=hL L s hs hsl
 obtain⟨g2,y,hy,hLy⟩:=hL (L++g1) t ht htl
 obtain⟨m,hm⟩ : ∃ m,(s.length+3)/4=m:=⟨_,rfl⟩
 obtain⟨n,hn⟩ : ∃ n,(t.length+3)/4=n:=⟨_,rfl⟩
 have hm1:m<1048575:=by omega
 have hn1:n<1048575:=by omega
 rw[hm]at hLx
 rw[hn]at hLy
 have hAlt:aB s<4294967296^m:=by rw[vK];exact Nat.lt_of_lt_of_le (d7 s hs.1) (Nat.pow_le_pow_right (by decide) (by omega))
 have htp:0<t.length:=List.length_pos_iff.mpr ht0
 rcases hLy with ⟨_,h0,_⟩|⟨jy,hlo,rfl,hoy,hn0,hY1,hYn⟩
 ·omega
 obtain⟨g3,jr,hne,hjrlo,hor,hoy3,happ⟩:=JT hLx (by omega) hlo hoy
 obtain⟨A,hA⟩ : ∃ A,aB s=A:=⟨_,rfl⟩
 obtain⟨Y,hY⟩ : ∃ Y,aB t=Y:=⟨_,rfl⟩
 rw[hA]at hor hAlt ⊢
 rw[hY]at hoy3 hY1 hYn ⊢
 obtain⟨J,hJ⟩ : ∃ J,m+1-n=J:=⟨_,rfl⟩
 have hAY:A<Y*4294967296^J:=by
  by_cases h:n≤m
  ·have h1:4294967296^(n-1)*4294967296^J≤Y*4294967296^J:=Nat.mul_le_mul_right _ hY1
   rw[← Nat.pow_add,show n-1+J=m by omega]at h1
   exact Nat.lt_of_lt_of_le hAlt h1
  ·have h1:4294967296^m≤4294967296^(n-1):=Nat.pow_le_pow_right (by decide) (by omega)
   rw[show J=0 by omega,Nat.pow_zero,Nat.mul_one]
   exact Nat.lt_of_lt_of_le hAlt (Nat.le_trans h1 hY1)
 have hY0:0<Y:=Nat.lt_of_lt_of_le (Nat.pow_pos (by decide)) hY1
 have hjr:=(List.getElem?_eq_some_iff.mp hor).1
 have hjy:=(List.getElem?_eq_some_iff.mp hoy3).1
 obtain⟨L4,hL4⟩ : ∃ L4,L++g3++[Obj.cells (cw (aF 4294967296 J 0)) 0]=L4:=⟨_,rfl⟩
 have h4r:L4[jr]? = some (.cells (cw (aF 4294967296 (m+1) A)) uI):=by rw[← hL4];exact cD hor
 have h4y:L4[jy]? = some (.cells (cw (aF 4294967296 n Y)) uI):=by rw[← hL4];exact cD hoy3
 have h4q:L4[(L++g3).length]? = some (.cells (cw (aF 4294967296 J 0)) 0):=by rw[← hL4];exact aO _ _
 obtain⟨y7,y8,y10,y11,y12,y13,y14,y15,y16,hL2⟩:=zC hne (by omega) (by omega) h4r h4y h4q (by omega) (by omega) (by omega) hn0 hY1 hYn hAY hB (.str s) (.str t) (.bool false) x .undef .undef .undef .undef .undef .undef .undef .undef (.str []) (.str [])
 obtain⟨L5,hL5⟩ : ∃ L5,(L4.set jr (.cells (cw (aF 4294967296 (m+1) (A%Y))) uI)).set (L++g3).length (.cells (cw (aF 4294967296 J (A/Y))) 0)=L5:=⟨_,rfl⟩
 have h5q:L5[(L++g3).length]? = some (.cells (cw (aF 4294967296 J (A/Y))) 0):=by rw[← hL5,List.getElem?_set,if_pos rfl,List.length_set,if_pos (List.getElem?_eq_some_iff.mp h4q).1]
 have h5r:L5[jr]? = some (.cells (cw (aF 4294967296 (m+1) (A%Y))) uI):=by rw[← hL5,List.getElem?_set,if_neg (by omega),List.getElem?_set,if_pos rfl,if_pos (List.getElem?_eq_some_iff.mp h4r).1]
 rw[hL5]at hL2
 have hQ:A/Y<4294967296^J:=by rw[Nat.div_lt_iff_lt_mul hY0,Nat.mul_comm];exact hAY
 have hRm:A%Y<4294967296^(m+1):=Nat.lt_of_le_of_lt (Nat.mod_le _ _) (Nat.lt_of_lt_of_le hAlt (Nat.pow_le_pow_right (by decide) (Nat.le_succ _)))
 obtain⟨g6,hp1⟩:=hP.2 L5 _ 0 0 (.exact J) _ (aF 4294967296 J (A/Y)) h5q (by rw[List.drop_zero];exact List.take_of_length_le (by simp[aS])) (by rw[aq];omega) (jC (by decide) _ _)
 obtain⟨g7,hp2⟩:=hP.2 (L5++g6) jr uI 0 (.opn (m+1)) _ (aF 4294967296 (m+1) (A%Y)) (cD h5r) (by rw[List.drop_zero];exact List.take_of_length_le (by simp[aS])) (by rw[aq];omega) (jC (by decide) _ _)
 rw[aq,ck hQ]at hp1
 rw[aq,ck hRm]at hp2
 obtain⟨g5,hg5⟩ : ∃ g5,L5=L++g5:=by
  refine⟨((g3++[Obj.cells (cw (aF 4294967296 J 0)) 0]).set (jr-L.length) (.cells (cw (aF 4294967296 (m+1) (A%Y))) uI)).set ((L++g3).length-L.length) (.cells (cw (aF 4294967296 J (A/Y))) 0),?_⟩
  rw[← hL5,← hL4,List.append_assoc,List.set_append_right _ _ hjrlo,List.set_append_right _ _ (by simp)]
 refine⟨g5++g6++g7,λk=>?_⟩
 have o1:8*J≤1099511627776:=by omega
 have o2:J≤1099511627776:=by omega
 have o3:J<9223372036854775808:=by omega
 rw[jA]at hL2
 rw[sn,qE,jA,vw,av,aG,ul,qB,uH,tx,av,av,aG,ed,ul,wM,decide_eq_false ht0,show (xor false false)=false from rfl,rx,cm,lj,cn,fy,sI,av,aG,eo,bJ,hx,ed,bJ,hy,oX,ni,uf,av,aG,fj,aK,rj,uj,av,aG,lK]
 refine (happ _).trans ?_
 rw[Ks,tb,av,aG,lK]
 have hlx:∀ (h:H) (k:af),bN x h k=k (.int .i64 (.ofNat m)) h:=λh k=>by
  rcases hLx with ⟨rfl,rfl,_⟩|⟨_,_,rfl,_⟩ <;> rfl
 rw[hlx,ic,eN,iA,aeK (by omega) (by omega),hJ,wI,kN (Nat.le_refl _) o1 o2,oR,iX,← iP (β:=4294967296),hL4,sM,av,av,aG,nt,aK,iA,tf o3,sK,dH]
 refine (hL2 _ _ _).trans ?_
 rw[dK,tt,av,aG,nt,bJ,hp1,jS,bJ,hp2,qB,uH,lv,Ce,sZ,qM,hg5]
 simp only[List.append_assoc]
def wA(call:Call)(p:ab):Prop:=∀ (L:List Obj) (s t:List Nat),ej s→ej t→s.length<1048576→t.length<1048576→t≠[] →
 ∃ g,∀ k:af,call p [.str s,.str t] (hp L) k=k (.tup [.str (ai (aB s/aB t)),.str (ai (aB s%aB t))]) (hp (L++g))
theorem Kt{call:Call}{p:ab}(hD:wA call p)(L:List Obj){s t:List Nat}(hs:ej s)(ht:ej t)(hsl:s.length<1048576)(htl:t.length<1048576):
  ∃ g,∀ k:af,MU p call [.str s,.str t] (hp L) k=k (.str (ai (Nat.gcd (aB s) (aB t)))) (hp (L++g)):=by
 obtain⟨N,hN,hE⟩:=OH (aB s) (aB t) (8*t.length) (by rw[← nL];exact d7 t ht.1)
 obtain⟨fr',h',⟨g,x1,x3,rfl,rfl⟩,hrun⟩:=dl (sf p) call (λi fr h=>∃ g u v x2 x3,fr=(⟨.str u,.str v,x2,x3,.str [],.undef,.undef,.undef⟩ : F8)∧h=hp (L++g)∧ej u∧ej v∧u.length<1048576∧v.length<1048576∧Eu (aB u) (aB v) (N-i)∧Nat.gcd (aB u) (aB v)=Nat.gcd (aB s) (aB t)) N 0
  (λfr h=>∃ g x1 x3,fr=(⟨.str (ai (Nat.gcd (aB s) (aB t))),x1,.bool false,x3,.str [],.undef,.undef,.undef⟩ : F8)∧h=hp (L++g))
  ⟨.str s,.str t,.undef,.undef,.str [],.undef,.undef,.undef⟩ (hp L) ⟨[],s,t,.undef,.undef,rfl,by rw[List.append_nil],hs,ht,hsl,htl,hE,rfl⟩ (by
   rintro i fr h hi ⟨g,u,v,x2,x3,rfl,rfl,hu,hv,hul,hvl,hEu,hG⟩
   obtain⟨d,hd⟩ : ∃ d,N-i=d+1:=⟨N-i-1,by omega⟩
   rw[hd]at hEu
   have hb:aB v≠0∧Eu (aB v) (aB u%aB v) d:=by
    generalize aB v=V at *
    generalize aB u=U at *
    cases hEu with
    | succ hB hE'=>exact⟨hB,hE'⟩
   obtain⟨hB,hE'⟩:=hb
   have hv0:v≠[]:=λe=>by rw[e]at hB;exact hB rfl
   obtain⟨g',hg'⟩:=hD (L++g) u v hu hv hul hvl hv0
   have hrl:(ai (aB u%aB v)).length≤v.length:=B2 (Nat.lt_trans (Nat.mod_lt _ (Nat.pos_of_ne_zero hB)) (d7 v hv.1))
   refine⟨_,_,⟨g++g',v,ai (aB u%aB v),.bool true,.str (ai (aB u%aB v)),rfl,by rw[← List.append_assoc],hv,eF _,hvl,by omega,by rw[show N-(i+1)=d by omega,bS];exact hE',by rw[bS,← hG,Nat.gcd_comm,← Nat.gcd_rec,Nat.gcd_comm]⟩,λkr ke kn=>?_⟩
   rw[sf,av,av,aG,fC,ul,wM,decide_eq_false hv0,show (xor true false)=true from rfl,kl,cm,kg,bY,fy,dH,av,aG,gI,fC,bJ,hg',jN,jJ,nC,aG,fC,dZ,HH,gf,dZ,AG]) (by
   rintro fr h ⟨g,u,v,x2,x3,rfl,rfl,hu,hv,hul,hvl,hEu,hG⟩
   rw[Nat.sub_self]at hEu
   have hV:aB v=0:=by
    generalize aB v=V at *
    cases hEu;rfl
   have hv0:v=[]:=by rw[← fE hv,hV];rfl
   subst hv0
   have hgu:ai (Nat.gcd (aB s) (aB t))=u:=by rw[← hG,hV,Nat.gcd_zero_right,fE hu]
   refine⟨_,_,⟨g,.str [],x3,by rw[hgu],rfl⟩,λkr ke kn=>?_⟩
   rw[sf,av,av,aG,fC,ul,wM,decide_eq_true rfl,show (xor true true)=false from rfl,kl,cm,kg,cn,me]) (by omega)
 refine⟨g,λk=>?_⟩
 rw[MU,ql,KF,av,aG,ul,jk,av,dH]
 refine (hrun _ _ _).trans ?_
 rw[dK,av,aG,gI,dZ,jk,lv,qS,li]
end Go.Ai
namespace Go.Ai
theorem G0{x y o c:Nat}(hx:x<4294967296)(hy:y<4294967296)(ho:o<4294967296)(hc:c<4294967296):
  x*y<18446744073709551616∧o+x*y<18446744073709551616∧o+x*y+c<18446744073709551616:=by
 have h:x*y≤4294967295*4294967295:=Nat.mul_le_mul (by omega) (by omega)
 omega
noncomputable def No(a b x y i v5 j v7 out c v10:AV):ar:=⟨⟨a,b,x,y,i,v5,j,v7⟩,⟨out,c,v10,.str [],.undef,.undef,.undef,.undef⟩,i8,i8,i8,i8,i8,i8⟩
variable [Nu]
theorem I3{L:List Obj}{jx m n i ex A C:Nat}{y:AV}(hx:L[jx]? = some (.cells (cw (aF 4294967296 m A)) ex))(hyl:∀ (h:H) (k:af),bN y h k=k (.int .i64 (.ofNat n)) h)
  (hy:0<n→∃ jy ey,y = .slc (nm jy) 0 n (.opn n)∧L[jy]? = some (.cells (cw (aF 4294967296 n C)) ey)) (hi:i<m) (hmn:m+n<67108864)
  {call:Call} (a b v5 v7 v10:AV) :
  ∃ fr' h',(∃ v7 v10,fr'=No a b (.slc (nm jx) 0 m (.opn m)) y (.int .i64 (.ofNat i)) v5 (.int .i64 (.ofNat n)) v7 (.slc (nm L.length) 0 (m+n) (.exact (m+n))) (.int .u64 (.ofNat (iO 4294967296 A C i n))) v10∧h'=hp (L++[.cells (cw (bc 4294967296 (m+n) (i+n) (d8 4294967296 A C i n) (A%4294967296^i*C))) 0])) ∧
  ∀ (kr:ar→H→aa) (ke:Nat→ar→H→aa) (kn0:ar→H→aa),kL oV call kr ke kn0 (No a b (.slc (nm jx) 0 m (.opn m)) y (.int .i64 (.ofNat i)) v5 (.int .i64 (.ofNat 0)) v7 (.slc (nm L.length) 0 (m+n) (.exact (m+n))) (.int .u64 (.ofNat 0)) v10) (hp (L++[.cells (cw (aF 4294967296 (m+n) (A%4294967296^i*C))) 0]))=ke 2 fr' h':=by
 refine dl oV call (λj fr h=>∃ v7 v10,fr=No a b (.slc (nm jx) 0 m (.opn m)) y (.int .i64 (.ofNat i)) v5 (.int .i64 (.ofNat j)) v7 (.slc (nm L.length) 0 (m+n) (.exact (m+n))) (.int .u64 (.ofNat (iO 4294967296 A C i j))) v10∧h=hp (L++[.cells (cw (bc 4294967296 (m+n) (i+j) (d8 4294967296 A C i j) (A%4294967296^i*C))) 0])) n 2 _ _ _ ⟨v7,v10,?_,?_⟩ ?_ ?_ (by omega)
 ·unfold iO;rw[jY,Nat.sub_self]
 ·rw[jY,show aF 4294967296 (m+n) (A%4294967296^i*C)=bc 4294967296 (m+n) (i+0) (A%4294967296^i*C) (A%4294967296^i*C) by rw[← iF (m+n) (A%4294967296^i*C)];exact iy λp _=>by split <;> split <;> rfl]
 ·rintro j fr h hj ⟨v7,v10,rfl,rfl⟩
  obtain⟨jy,ey,rfl,hyo⟩:=hy (by omega)
  have hlx:(L++[Obj.cells (cw (bc 4294967296 (m+n) (i+j) (d8 4294967296 A C i j) (A%4294967296^i*C))) 0])[jx]? = some (.cells (cw (aF 4294967296 m A)) ex):=by rw[List.getElem?_append_left (List.getElem?_eq_some_iff.mp hx).1,hx]
  have hly:(L++[Obj.cells (cw (bc 4294967296 (m+n) (i+j) (d8 4294967296 A C i j) (A%4294967296^i*C))) 0])[jy]? = some (.cells (cw (aF 4294967296 n C)) ey):=by rw[List.getElem?_append_left (List.getElem?_eq_some_iff.mp hyo).1,hyo]
  have ho:(bc 4294967296 (m+n) (i+j) (d8 4294967296 A C i j) (A%4294967296^i*C))[i+j]? = some (A%4294967296^i*C/4294967296^(i+j)%4294967296):=by rw[dO _ _ _ _ _ (by omega),if_neg (by omega)]
  obtain⟨d1,d2⟩:=p8 (β:=4294967296) (by decide) A C i j
  have aX:(bc 4294967296 (m+n) (i+j) (d8 4294967296 A C i j) (A%4294967296^i*C)).set (i+j) (d8 4294967296 A C i (j+1)/4294967296^(i+j)%4294967296)=bc 4294967296 (m+n) (i+(j+1)) (d8 4294967296 A C i (j+1)) (A%4294967296^i*C):=by
   rw[← Nat.add_assoc,← cB _ _ _ _ (by omega:i+j<m+n)]
   congr 1
   refine iy λp _=>?_
   split
   ·rename_i hp
    rw[qX,i3 _ _ _ _ hp (by decide)]
   ·rfl
  have hxd:(cw (aF 4294967296 m A))[i]? = some (.int .u64 (.ofNat (A/4294967296^i%4294967296))):=by rw[cw,List.getElem?_map,bb _ _ _ _ hi];rfl
  have hyd:(cw (aF 4294967296 n C))[j]? = some (.int .u64 (.ofNat (C/4294967296^j%4294967296))):=by rw[cw,List.getElem?_map,bb _ _ _ _ hj];rfl
  have hod:(cw (bc 4294967296 (m+n) (i+j) (d8 4294967296 A C i j) (A%4294967296^i*C)))[i+j]? = some (.int .u64 (.ofNat (A%4294967296^i*C/4294967296^(i+j)%4294967296))):=by rw[cw,List.getElem?_map,ho];rfl
  have hX:A/4294967296^i%4294967296<4294967296:=Nat.mod_lt _ (by decide)
  have hY:C/4294967296^j%4294967296<4294967296:=Nat.mod_lt _ (by decide)
  have hO:A%4294967296^i*C/4294967296^(i+j)%4294967296<4294967296:=Nat.mod_lt _ (by decide)
  have hcc:=sd (β:=4294967296) (by decide) A C i j
  obtain⟨s1,s2,s3⟩:=G0 hX hY hO hcc
  generalize A/4294967296^i%4294967296=X at *
  generalize C/4294967296^j%4294967296=Y at *
  generalize A%4294967296^i*C/4294967296^(i+j)%4294967296=O at *
  have e1:(O+X*Y+iO 4294967296 A C i j)%4294967296=d8 4294967296 A C i (j+1)/4294967296^(i+j)%4294967296:=by rw[Nat.add_comm O];exact d1
  have e2:(O+X*Y+iO 4294967296 A C i j)/2^32=iO 4294967296 A C i (j+1):=by rw[Nat.add_comm O];exact d2
  have hlen:i+j<(cw (bc 4294967296 (m+n) (i+j) (d8 4294967296 A C i j) (A%4294967296^i*C))).length:=by rw[aS,bh];omega
  refine⟨_,_,⟨.bool true,.int .u64 (.ofNat (O+X*Y+iO 4294967296 A C i j)),rfl,rfl⟩,λkr ke kn=>?_⟩
  simp only[oV,No,aI]
  rw[aK,dz hj]
  simp only[aI]
  rw[bW (by omega),bw (by omega),aR (aO L _) hod,bw hi,aR hlx hxd,bw hj,aR hly hyd,wW,Nat.mod_eq_of_lt s1,pr,Nat.mod_eq_of_lt s2,pr,Nat.mod_eq_of_lt s3,bW (by omega),fL s3,bw (by omega),dQ (aO L _) hlen,dP (by decide),bW (by omega),fh,cU,e1,e2,aX]
 ·rintro fr h ⟨v7,v10,rfl,rfl⟩
  refine⟨_,_,⟨.bool false,v10,rfl,rfl⟩,λkr ke kn=>?_⟩
  simp only[oV,No,aI]
  rw[hyl,dC (Nat.le_refl _)]
  simp only[aI]
theorem Jf{es lo:Nat}{l:List Obj}{v:AV}{m N:Nat}(h:LW es lo l v m N)(hh:H)(k:af):bN v hh k=k (.int .i64 (.ofNat m)) hh:=by
 rcases h with ⟨rfl,rfl,rfl⟩|⟨j,_,rfl,_⟩
 ·rfl
 ·rfl
theorem JM{es lo:Nat}{l:List Obj}{v:AV}{m N:Nat}(h:LW es lo l v m N)(h0:0<m):∃ j e,v = .slc (nm j) 0 m (.opn m)∧l[j]? = some (.cells (cw (aF 4294967296 m N)) e):=by
 rcases h with ⟨rfl,rfl,rfl⟩|⟨j,_,rfl,ho,_⟩
 ·omega
 ·exact⟨j,es,rfl,ho⟩
theorem Pe{es lo:Nat}{l:List Obj}{v:AV}{m N:Nat}(h:LW es lo l v m N):N<4294967296^m:=by
 rcases h with ⟨rfl,rfl,rfl⟩|⟨j,_,rfl,_,_,_,hA⟩
 ·exact Nat.one_pos
 ·exact hA
theorem H6{call:Call}{pL pP:ab}(hL:uh call pL)(hP:wJ call pP)(L:List Obj){s t:List Nat}(hs:ej s)(ht:ej t)(hsl:s.length<1048576)(htl:t.length<1048576):
  ∃ g,∀ k:af,NP pL pP call [.str s,.str t] (hp L) k=k (.str (ai (aB s*aB t))) (hp (L++g)):=by
 obtain⟨g1,x,hx,hLx⟩:=hL L s hs hsl
 obtain⟨g2,y,hy,hLy⟩:=hL (L++g1) t ht htl
 obtain⟨m,hm⟩ : ∃ m,(s.length+3)/4=m:=⟨_,rfl⟩
 obtain⟨n,hn⟩ : ∃ n,(t.length+3)/4=n:=⟨_,rfl⟩
 have hm1:m<262145:=by omega
 have hn1:n<262145:=by omega
 obtain⟨A,hA⟩ : ∃ A,aB s=A:=⟨_,rfl⟩
 obtain⟨C,hC⟩ : ∃ C,aB t=C:=⟨_,rfl⟩
 rw[hm,hA]at hLx
 rw[hn,hC]at hLy
 rw[hA,hC]
 have hxl:=Jf hLx
 have hyl:=Jf hLy
 have hAm:=Pe hLx
 have hCn:=Pe hLy
 have hyo:0<n→∃ jy ey,y = .slc (nm jy) 0 n (.opn n)∧(L++g1++g2)[jy]? = some (.cells (cw (aF 4294967296 n C)) ey):=JM hLy
 have hxo:0<m→∃ jx ex,x = .slc (nm jx) 0 m (.opn m)∧(L++g1++g2)[jx]? = some (.cells (cw (aF 4294967296 m A)) ex):=λh=>by
  obtain⟨j,e,h1,h2⟩:=JM hLx h
  exact⟨j,e,h1,cD h2⟩
 clear hLx hLy hm hn hA hC
 obtain⟨L2,hL2⟩ : ∃ L2,L++g1++g2=L2:=⟨_,rfl⟩
 rw[hL2]at hyo hxo
 have hlt:A*C<4294967296^(m+n):=by
  rw[Nat.pow_add]
  rcases Nat.eq_zero_or_pos C with h0|h0
  ·rw[h0,Nat.mul_zero];exact Nat.mul_pos (Nat.pow_pos (by decide)) (Nat.pow_pos (by decide))
  ·exact Nat.lt_of_lt_of_le (Nat.mul_lt_mul_of_pos_right hAm h0) (Nat.mul_le_mul_left _ (Nat.le_of_lt hCn))
 have hdl:(aF 4294967296 (m+n) (A*C)).length=m+n:=aq _ _ _
 obtain⟨g3,hg⟩:=hP.2 (L2++[.cells (cw (aF 4294967296 (m+n) (A*C))) 0]) L2.length 0 0 (.exact (m+n)) _ (aF 4294967296 (m+n) (A*C)) (aO _ _)
  (by rw[List.drop_zero];exact List.take_of_length_le (by rw[aS];exact Nat.le_refl _)) (by omega) (λw hw=>jC (by decide) _ _ w hw)
 rw[hdl,ck hlt]at hg
 refine⟨g1++g2++[.cells (cw (aF 4294967296 (m+n) (A*C))) 0]++g3,λk=>?_⟩
 have hfin:L++(g1++g2++[.cells (cw (aF 4294967296 (m+n) (A*C))) 0]++g3)=L2++[.cells (cw (aF 4294967296 (m+n) (A*C))) 0]++g3:=by rw[← hL2];simp only[List.append_assoc]
 rw[hfin]
 simp only[NP,Ik,aI]
 rw[bJ,hx,bJ,hy,hL2,hxl,hyl,bW (by omega),kN (Nat.le_refl _) (by omega) (by omega),iX,← iP (β:=4294967296)]
 refine bM sr call _ _ _ (λi fr h=>∃ v5 v6 v7 v9 v10,fr=No (.str s) (.str t) x y (.int .i64 (.ofNat i)) v5 v6 v7 (.slc (nm L2.length) 0 (m+n) (.exact (m+n))) v9 v10∧h=hp (L2++[.cells (cw (aF 4294967296 (m+n) (A%4294967296^i*C))) 0])) m _ _ _ ⟨.undef,.undef,.undef,.undef,.undef,rfl,?_⟩ ?_ ?_ (by omega)
 ·rw[Nat.pow_zero,Nat.mod_one,Nat.zero_mul]
 ·rintro i fr h hi ⟨v5,v6,v7,v9,v10,rfl,rfl⟩
  obtain⟨jx,ex,rfl,hxj⟩:=hxo (by omega)
  obtain⟨fr',h',⟨y7,y10,rfl,rfl⟩,hrow⟩:=I3 (i:=i) (call:=call) (A:=A) hxj hyl hyo hi (by omega) (.str s) (.str t) (.bool true) v7 v10
  simp only[No,jA]at hrow
  have hend:(bc 4294967296 (m+n) (i+n) (d8 4294967296 A C i n) (A%4294967296^i*C)).set (i+n) (iO 4294967296 A C i n)=aF 4294967296 (m+n) (A%4294967296^(i+1)*C):=by
   rw[zM (by decide) hCn,tJ hCn,cB _ _ _ _ (by omega),← mj (m+n) (A%4294967296^(i+1)*C) 0]
   refine iy λp hp=>?_
   rw[if_pos hp]
   split
   ·rfl
   ·rename_i h1
    have small:∀ j,A%4294967296^j*C<4294967296^(j+n):=λj=>by
     rw[Nat.pow_add]
     rcases Nat.eq_zero_or_pos C with h0|h0
     ·rw[h0,Nat.mul_zero];exact Nat.mul_pos (Nat.pow_pos (by decide)) (Nat.pow_pos (by decide))
     ·exact Nat.lt_of_lt_of_le (Nat.mul_lt_mul_of_pos_right (Nat.mod_lt _ (Nat.pow_pos (by decide))) h0) (Nat.mul_le_mul_left _ (Nat.le_of_lt hCn))
    rw[dt (Nat.lt_of_lt_of_le (small i) (Nat.pow_le_pow_right (by decide) (by omega))),dt (Nat.lt_of_lt_of_le (small (i+1)) (Nat.pow_le_pow_right (by decide) (by omega)))]
  have hlen:i+n<(cw (bc 4294967296 (m+n) (i+n) (d8 4294967296 A C i n) (A%4294967296^i*C))).length:=by rw[aS,bh];omega
  refine⟨_,_,⟨.bool true,.int .i64 (.ofNat n),y7,.int .u64 (.ofNat (iO 4294967296 A C i n)),y10,rfl,rfl⟩,λkn=>?_⟩
  simp only[sr,No,aI]
  rw[hxl,dz hi]
  simp only[aI]
  rw[hrow]
  simp only[aI]
  rw[hyl,bW (by omega),bw (by omega),dQ (aO L2 _) hlen,bW (by omega),fh,cU,hend]
 ·rintro fr h ⟨v5,v6,v7,v9,v10,rfl,rfl⟩ kn
  simp only[sr,No,aI]
  rw[hxl,dC (Nat.le_refl _)]
  simp only[aI]
  rw[bJ,Nat.mod_eq_of_lt hAm,hg]
end Go.Ai
