/- The estimate of a digit of a quotient: the arithmetic of exact.step. exact.step: the search for a digit. A multiple taken from a window of digits: the arithmetic. exact.step: a multiple taken from the window. exact.step: the divisor is added back. exact.step: one digit of a quotient. exact.step. exact.divide: by one word. exact.divide: by more words, the digits of the quotient. exact.divide: the rest is shifted down. exact.divide. exact.NatDivMod, exact.NatGcd. -/
import Derived.Test.YtdnehjkbflffcaaGreatDoorA5
import Derived.Test.YtdnehjkbflffcaaGreatDoorX2
set_option linter.unusedVariables false
set_option autoImplicit false
set_option linter.unusedSectionVars false
set_option linter.unusedSimpArgs false
namespace Go.Ai
theorem fD{β : Nat}(X n:Nat):X/β^n=X/β^(n+1)*β+X/β^n%β:=by
 rw[Nat.pow_succ,← Nat.div_div_eq_div_mul,Nat.mul_comm]
 exact (Nat.div_add_mod _ _).symm
theorem K9{β U V n g r:Nat}(hβ : 2 ≤ β)(hv : β ≤ 2*(V/β^(n+1)))(hU:U<V*β)(hg:g<β)
  (hgr:g*(V/β^(n+1))+r=U/β^(n+1)) (hstop : β ≤ r∨g*(V/β^n%β)≤r*β+U/β^n%β) (hlo : β-1≤g∨U/β^n/(V/β^n)≤g):U/V≤g∧g≤U/V+1:=by
 have hD:0<β^n:=Nat.pow_pos (by omega)
 have hv1:0<V/β^(n+1):=by omega
 have hV0:0<V:=Nat.pos_of_ne_zero λe=>by rw[e,Nat.zero_div]at hv1;omega
 have hV2:0<V/β^n:=by
  rw[fD]
  have:0<V/β^(n+1)*β:=Nat.mul_pos hv1 (by omega)
  omega
 have hUD:U<(U/β^n+1)*β^n:=by rw[Nat.mul_comm];exact Nat.lt_mul_div_succ U hD
 have hVD:V<(V/β^n+1)*β^n:=by rw[Nat.mul_comm];exact Nat.lt_mul_div_succ V hD
 have hβD : β*β^n≤V:=by
  rw[Nat.mul_comm,← Nat.pow_succ]
  have:=(Nat.le_div_iff_mul_le (Nat.pow_pos (by omega:0<β))).1 hv1
  rwa [Nat.one_mul]at this
 refine⟨QG hD hUD (Nat.div_mul_le_self _ _) (Nat.div_mul_le_self _ _) ?_ hlo hV2,Q5 (Nat.div_mul_le_self _ _) hVD hβD ?_ hg (by rw[Nat.mul_comm];exact Nat.lt_mul_div_succ U hV0)⟩
 ·have:U/V<β:=(Nat.div_lt_iff_lt_mul hV0).2 (by rw[Nat.mul_comm];exact hU)
  omega
 ·rw[fD V,fD U,← hgr,Nat.mul_add,Nat.add_mul,← Nat.mul_assoc,Nat.add_assoc]
  refine Nat.add_le_add_left ?_ _
  rcases hstop with h|h
  ·have h1:V/β^n%β ≤ β:=Nat.le_of_lt (Nat.mod_lt _ (by omega))
   have h2:g*(V/β^n%β) ≤ β*β:=Nat.mul_le_mul (Nat.le_of_lt hg) h1
   have h3 : β*β ≤ r*β:=Nat.mul_le_mul_right _ h
   omega
  ·exact h
theorem s9{β U V n g r:Nat}(hβ : 2 ≤ β)(hv : β ≤ 2*(V/β^(n+1)))(hU:U<V*β)(hg:g<β)
  (hgr:g*(V/β^(n+1))+r=U/β^(n+1)) (hlo : β-1≤g∨U/β^n/(V/β^n)≤g) :
  ∃ m,m≤2∧m≤g∧(∀ i,i<m→r+i*(V/β^(n+1))<β ∧ (r+i*(V/β^(n+1)))*β+U/β^n%β<(g-i)*(V/β^n%β)) ∧
   (β ≤ r+m*(V/β^(n+1))∨(g-m)*(V/β^n%β)≤(r+m*(V/β^(n+1)))*β+U/β^n%β)∧U/V≤g-m∧g-m≤U/V+1:=by
 obtain⟨m,h1,h2,h3⟩:=HW (v0:=V/β^n%β) (q:=g) (r:=r) (u0:=U/β^n%β) hv trivial
 have h4:∀ i,i<m→r+i*(V/β^(n+1))<β ∧ (r+i*(V/β^(n+1)))*β+U/β^n%β<(g-i)*(V/β^n%β):=λi hi=>by
  have:=not_or.1 (h2 i hi)
  exact⟨Nat.lt_of_not_le this.1,Nat.lt_of_not_le this.2⟩
 have hpos:∀ i,i<m→i<g:=λi hi=>by
  have h5:=(h4 i hi).2
  refine Nat.lt_of_not_le λh=>?_
  rw[Nat.sub_eq_zero_of_le h,Nat.zero_mul]at h5
  exact Nat.not_lt_zero _ h5
 have hmg:m≤g:=by
  by_cases e:m=0
  ·omega
  ·have:=hpos (m-1) (by omega);omega
 have inv:∀ i,i≤m→(g-i)*(V/β^(n+1))+(r+i*(V/β^(n+1)))=U/β^(n+1):=λi hi=>by
  rw[← hgr,Nat.add_comm r,← Nat.add_assoc,← Nat.add_mul,Nat.sub_add_cancel (by omega)]
 have hv1:0<V/β^(n+1):=by omega
 have hV2:0<V/β^n:=by
  rw[fD]
  have:0<V/β^(n+1)*β:=Nat.mul_pos hv1 (by omega)
  omega
 have lo : β-1≤g-m∨U/β^n/(V/β^n)≤g-m:=by
  by_cases e:m=0
  ·rw[e];exact hlo
  ·right
   have h5:=(h4 (m-1) (by omega)).2
   have h6:=inv (m-1) (by omega)
   have h7:U/β^n<(g-(m-1))*(V/β^n):=by
    rw[fD U,fD V,← h6,Nat.mul_add,Nat.add_mul,← Nat.mul_assoc,Nat.add_assoc]
    exact Nat.add_lt_add_left h5 _
   have h8:U/β^n/(V/β^n)<g-(m-1):=(Nat.div_lt_iff_lt_mul hV2).2 h7
   have:=hpos (m-1) (by omega)
   omega
 obtain⟨h8,h9⟩:=K9 hβ hv hU (Nat.lt_of_le_of_lt (Nat.sub_le g m) hg) (inv m (Nat.le_refl _)) h3 lo
 exact⟨m,h1,hmg,h4,h3,h8,h9⟩
theorem Ge{β U V n:Nat}(hβ : 2 ≤ β)(hv : β ≤ 2*(V/β^(n+1)))(hV:V<β^(n+2))(hU:U<V*β):
  U/β^(n+2)≤V/β^(n+1)∧V/β^(n+1)<β ∧ U/β^n/(V/β^n)≤U/β^(n+1)/(V/β^(n+1)):=by
 have hD:0<β^n:=Nat.pow_pos (by omega)
 have hβ0:0<β:=by omega
 have hv1:0<V/β^(n+1):=by omega
 refine⟨?_,?_,?_⟩
 ·rw[show β^(n+2) = β*β^(n+1) by rw[Nat.pow_succ,Nat.mul_comm],← Nat.div_div_eq_div_mul]
  exact Nat.div_le_div_right (Nat.le_of_lt ((Nat.div_lt_iff_lt_mul hβ0).2 hU))
 ·rw[Nat.div_lt_iff_lt_mul (Nat.pow_pos hβ0),Nat.mul_comm,← Nat.pow_succ];exact hV
 ·have h1:V/β^(n+1)*β ≤ V/β^n:=by rw[fD V n];exact Nat.le_add_right _ _
  have h2:U/β^(n+1)/(V/β^(n+1))=U/β^n/(V/β^(n+1)*β):=by
   rw[Nat.pow_succ,← Nat.div_div_eq_div_mul,Nat.div_div_eq_div_mul,Nat.mul_comm β,← Nat.div_div_eq_div_mul V]
  rw[h2]
  exact Nat.div_le_div_left h1 (Nat.mul_pos hv1 hβ0)
end Go.Ai
namespace Go.Ai
variable [Nu]
theorem Pk(w:Bool)(h:H)(s:af→aa)(kk:af):ah .undef w h s kk=kk .undef h:=by cases w <;> rfl
theorem zp{P r u0:Nat}(hu:u0<18446744073709551616):P≤r*18446744073709551616+u0↔P/18446744073709551616<r∨P/18446744073709551616=r∧P%18446744073709551616≤u0:=by omega
theorem ph{L:List Obj}{jw jv j n c cv M mv T V v1 v0 u0 g r m:Nat}
  (hw:L[jw]? = some (.cells (cw (aF 18446744073709551616 M T)) 0)) (hv:L[jv]? = some (.cells (cw (aF 18446744073709551616 mv V)) 0)) (hM:j+n+3≤M) (hmv:n+2≤mv) (hn:M<67108864)
  (e1:V/18446744073709551616^(n+1)%18446744073709551616=v1) (e0:V/18446744073709551616^n%18446744073709551616=v0) (eu:T/18446744073709551616^(j+n)%18446744073709551616=u0)
  (hg:g<18446744073709551616) (hm2:m≤2) (hmg:m≤g) (h4:∀ i,i<m→r+i*v1<18446744073709551616∧(r+i*v1)*18446744073709551616+u0<(g-i)*v0)
  (h3:18446744073709551616≤r+m*v1∨(g-m)*v0≤(r+m*v1)*18446744073709551616+u0)
  {call:Call} {pM pA:ab} (hMu:kD call pM) (hA:fk call pA) {kr:ar→H→aa} {ke:Nat→ar→H→aa} {kn0:ar→H→aa} (g3 g5 g7 g9 g10:AV) (res:aa)
  (hr:∀ g4 g5 g7 g8 g9 g10,ke 0 ⟨⟨.slc (nm jw) j (n+3) (.exact c),.slc (nm jv) 0 (n+2) (.exact cv),.int .i64 (.ofNat (n+2)),g3,g4,g5,.int .u64 (.ofNat (g-m)),g7⟩,⟨g8,g9,g10,.undef,.undef,.undef,.undef,.undef⟩,i8,⟨.undef,.undef,.int .u64 (.ofNat 0),.undef,.undef,.undef,.undef,.undef⟩,i8,i8,i8,i8⟩ (hp L)=res) :
  kL (lY pM pA) call kr ke kn0 ⟨⟨.slc (nm jw) j (n+3) (.exact c),.slc (nm jv) 0 (n+2) (.exact cv),.int .i64 (.ofNat (n+2)),g3,.int .u64 (.ofNat (r/18446744073709551616)),g5,.int .u64 (.ofNat g),g7⟩,⟨.int .u64 (.ofNat (r%18446744073709551616)),g9,g10,.undef,.undef,.undef,.undef,.undef⟩,i8,⟨.undef,.undef,.int .u64 (.ofNat 0),.undef,.undef,.undef,.undef,.undef⟩,i8,i8,i8,i8⟩ (hp L)=res:=by
 have hu0:u0<18446744073709551616:=by rw[← eu];exact Nat.mod_lt _ (by decide)
 have hv1:v1<18446744073709551616:=by rw[← e1];exact Nat.mod_lt _ (by decide)
 have hv0:v0<18446744073709551616:=by rw[← e0];exact Nat.mod_lt _ (by decide)
 have lv0:(cw (aF 18446744073709551616 mv V))[n]? = some (.int .u64 (.ofNat v0)):=by rw[cw,List.getElem?_map,bb _ _ _ _ (by omega),e0];rfl
 have lv1:(cw (aF 18446744073709551616 mv V))[n+1]? = some (.int .u64 (.ofNat v1)):=by rw[cw,List.getElem?_map,bb _ _ _ _ (by omega),e1];rfl
 have lu0:(cw (aF 18446744073709551616 M T))[j+n]? = some (.int .u64 (.ofNat u0)):=by rw[cw,List.getElem?_map,bb _ _ _ _ (by omega),eu];rfl
 refine bM (lY pM pA) call _ _ _ (λi fr h=>∃ g5 g7 g9 g10,fr=⟨⟨.slc (nm jw) j (n+3) (.exact c),.slc (nm jv) 0 (n+2) (.exact cv),.int .i64 (.ofNat (n+2)),g3,.int .u64 (.ofNat ((r+i*v1)/18446744073709551616)),g5,.int .u64 (.ofNat (g-i)),g7⟩,⟨.int .u64 (.ofNat ((r+i*v1)%18446744073709551616)),g9,g10,.undef,.undef,.undef,.undef,.undef⟩,i8,⟨.undef,.undef,.int .u64 (.ofNat 0),.undef,.undef,.undef,.undef,.undef⟩,i8,i8,i8,i8⟩∧h=hp L) m _ _ _ ⟨g5,g7,g9,g10,?_,rfl⟩ ?_ ?_ (by omega)
 ·simp only[Nat.zero_mul,Nat.add_zero,Nat.sub_zero]
 ·rintro i fr h hi ⟨g5,g7,g9,g10,rfl,rfl⟩
  obtain⟨h5,h6⟩:=h4 i hi
  have hgi:g-i<18446744073709551616:=by omega
  have hR:(r+i*v1)%18446744073709551616=r+i*v1:=Nat.mod_eq_of_lt h5
  have hns:¬ ((g-i)*v0≤(r+i*v1)*18446744073709551616+u0):=by omega
  rw[zp hu0]at hns
  have hR2:r+i*v1+v1=r+(i+1)*v1:=by rw[Nat.add_mul,Nat.one_mul,Nat.add_assoc]
  refine⟨_,_,⟨.bool true,.int .u64 (.ofNat ((g-i)*v0/18446744073709551616)),.int .u64 (.ofNat ((g-i)*v0%18446744073709551616)),.bool false,rfl,rfl⟩,λkn=>?_⟩
  have hns1:¬ (g-i)*v0/18446744073709551616<r+i*v1:=λh=>hns (.inl h)
  have hns2:(g-i)*v0/18446744073709551616=r+i*v1→u0<(g-i)*v0%18446744073709551616:=λh=>Nat.lt_of_not_le λh'=>hns (.inr ⟨h,h'⟩)
  simp only[lY,aI]
  rw[kb (Nat.div_eq_of_lt h5)]
  simp only[aI]
  rw[eE (by omega) (by omega),Nat.add_sub_cancel,bw (by omega),aR hv lv0,bJ,hMu _ _ _ _ hgi hv0,jN,jJ,hR,dC (Nat.le_of_not_lt hns1)]
  simp only[aI]
  by_cases e:(g-i)*v0/18446744073709551616=r+i*v1
  ·rw[kb e]
   simp only[aI]
   rw[eE (by omega) (by omega),Nat.add_sub_cancel,iz (by omega),aR hw lu0,Ov (hns2 e)]
   simp only[aI]
   rw[ee (by omega) hgi,eE (by omega) (by omega),show n+2-1=n+1 from rfl,bw (by omega),aR hv lv1,bJ,hA _ _ _ _ _ (by decide),jN,jJ,hR2,Nat.add_zero (r+(i+1)*v1),Nat.sub_sub]
  ·rw[lR e]
   simp only[aI]
   rw[ee (by omega) hgi,eE (by omega) (by omega),show n+2-1=n+1 from rfl,bw (by omega),aR hv lv1,bJ,hA _ _ _ _ _ (by decide),jN,jJ,hR2,Nat.add_zero (r+(i+1)*v1),Nat.sub_sub]
 ·rintro fr h ⟨g5,g7,g9,g10,rfl,rfl⟩ kn
  simp only[lY,aI]
  by_cases h5:18446744073709551616≤r+m*v1
  ·rw[lR (Nat.ne_of_gt (Nat.div_pos h5 (by decide)))]
   simp only[aI]
   exact hr _ _ _ _ _ _
  ·have h6:r+m*v1<18446744073709551616:=Nat.lt_of_not_le h5
   have hgm:g-m<18446744073709551616:=Nat.lt_of_le_of_lt (Nat.sub_le _ _) hg
   have hR:(r+m*v1)%18446744073709551616=r+m*v1:=Nat.mod_eq_of_lt h6
   have hs:=h3.resolve_left h5
   rw[zp hu0]at hs
   rw[kb (Nat.div_eq_of_lt h6)]
   simp only[aI]
   rw[eE (by omega) (by omega),Nat.add_sub_cancel,bw (by omega),aR hv lv0,bJ,hMu _ _ _ _ hgm hv0,jN,jJ,hR]
   by_cases e:(g-m)*v0/18446744073709551616<r+m*v1
   ·rw[dz e]
    simp only[aI,Pk]
    exact hr _ _ _ _ _ _
   ·obtain⟨e2,e3⟩:=hs.resolve_left e
    rw[dC (Nat.le_of_not_lt e)]
    simp only[aI]
    rw[kb e2]
    simp only[aI]
    rw[eE (by omega) (by omega),Nat.add_sub_cancel,iz (by omega),aR hw lu0,Yh e3]
    simp only[aI]
    exact hr _ _ _ _ _ _
end Go.Ai
namespace Go.Ai
def kK(β G V i:Nat):Nat:=G*(V%β^i)/β^i
theorem Hr(β G V:Nat):kK β G V 0=0:=by simp[kK,Nat.mod_one]
theorem Nn{β G:Nat}(hβ : 0<β)(hG:G<β)(V i:Nat):kK β G V i<β:=by
 have hp:0<β^i:=Nat.pow_pos hβ
 rw[kK,Nat.div_lt_iff_lt_mul hp]
 exact Nat.mul_lt_mul'' hG (Nat.mod_lt _ hp)
theorem JG{β G V n:Nat}(hV:V<β^n):kK β G V n=G*V/β^n:=by rw[kK,Nat.mod_eq_of_lt hV]
theorem FK{β : Nat}(hβ : 0<β)(G V i:Nat):
  (G*(V/β^i%β)%β+kK β G V i+0)%β = G*V/β^i%β ∧ G*(V/β^i%β)/β+(G*(V/β^i%β)%β+kK β G V i+0)/β = kK β G V (i+1):=by
 have hp:0<β^i:=Nat.pow_pos hβ
 have e1:V%β^(i+1)=V%β^i+β^i*(V/β^i%β):=by rw[Nat.pow_succ,Nat.mod_mul]
 have e2:G*(V%β^(i+1))/β^i=kK β G V i+G*(V/β^i%β):=by
  rw[e1,Nat.mul_add,Nat.mul_left_comm,Nat.add_mul_div_left _ _ hp,kK]
 have e3:G*V/β^i%β = G*(V%β^(i+1))/β^i%β:=by
  rw[← Nat.mod_mul_right_div_self,← Nat.mod_mul_right_div_self,← Nat.pow_succ]
  congr 1
  rw[Nat.mul_mod,Nat.mul_mod G (V%β^(i+1)),Nat.mod_mod]
 have e4:kK β G V (i+1)=(kK β G V i+G*(V/β^i%β))/β:=by
  rw[← e2,kK,Nat.pow_succ,Nat.div_div_eq_div_mul]
 rw[e3,e4,e2,Nat.add_zero]
 generalize kK β G V i=a
 generalize G*(V/β^i%β)=b
 have hb:=Nat.div_add_mod b β
 constructor
 ·rw[Nat.mod_add_mod,Nat.add_comm]
 ·have h:a+b = β*(b/β)+(b%β+a):=by omega
  rw[h,Nat.mul_add_div hβ]
theorem iD{β T D j i:Nat}(hβ : 0<β):(T%β^j+β^j*D)/β^(j+i)%β = D/β^i%β:=by
 rw[Nat.pow_add,← Nat.div_div_eq_div_mul,Nat.add_mul_div_left _ _ (Nat.pow_pos hβ),Nat.div_eq_of_lt (Nat.mod_lt _ (Nat.pow_pos hβ)),Nat.zero_add]
theorem LQ{β T D j p:Nat}(hβ : 0<β)(hp:p<j):(T%β^j+β^j*D)/β^p%β = T/β^p%β:=by
 rw[i3 _ _ _ _ hp hβ]
 have:=i3 (T%β^j) (T/β^j) j p hp hβ
 rw[Nat.mod_add_div]at this
 exact this.symm
theorem n7{β M j T D:Nat}(hβ : 0<β):bc β M j (T%β^j+β^j*D) T=aF β M T:=by
 rw[← iF M (T%β^j+β^j*D) T]
 refine iy λp _=>?_
 by_cases h:p<j
 ·rw[if_pos h,if_neg (Nat.not_lt_zero _),LQ hβ h]
 ·rw[if_neg h,if_neg (Nat.not_lt_zero _)]
theorem qR{β M j N T D:Nat}(hβ : 0<β)(hD:D<β^N)(hT:T/β^j<β^N):bc β M (j+N) (T%β^j+β^j*D) T=aF β M (T%β^j+β^j*D):=by
 rw[← mj M (T%β^j+β^j*D) T]
 refine iy λp hp=>?_
 rw[if_pos hp]
 by_cases h:p<j+N
 ·rw[if_pos h]
 ·rw[if_neg h,show p=j+(p-j) by omega,iD hβ,Nat.pow_add,← Nat.div_div_eq_div_mul]
  have h1 : β^N ≤ β^(p-j):=Nat.pow_le_pow_right hβ (by omega)
  rw[Nat.div_eq_of_lt (Nat.lt_of_lt_of_le hT h1),Nat.div_eq_of_lt (Nat.lt_of_lt_of_le hD h1)]
end Go.Ai
namespace Go.Ai
variable [Nu]
theorem ei{l:List Obj}{j:Nat}{b:Obj}(h:l[j]? = some b):l.set j b=l:=by
 apply List.ext_getElem?
 intro i
 rw[List.getElem?_set]
 by_cases e:j=i
 ·subst e;rw[if_pos rfl,if_pos (List.getElem?_eq_some_iff.mp h).1,h]
 ·rw[if_neg e]
theorem xn{L:List Obj}{jw jv j n c cv M mv T V G D N:Nat}(hne:jw≠jv)(hNe:N=n+2)
  (hw:L[jw]? = some (.cells (cw (aF 18446744073709551616 M T)) 0)) (hv:L[jv]? = some (.cells (cw (aF 18446744073709551616 mv V)) 0)) (hM:j+n+3≤M) (hmv:n+2≤mv) (hn:M<67108864)
  (hG:G<18446744073709551616) (hD:∀ i,i<N→(D+G*V)/18446744073709551616^i%18446744073709551616=T/18446744073709551616^(j+i)%18446744073709551616)
  {call:Call} {pM pA pS:ab} (hMu:kD call pM) (hA:fk call pA) (hS:mD call pS) {kr:ar→H→aa} {ke:Nat→ar→H→aa} {kn0:ar→H→aa} (g3 g4 g5 g7 g8 g9 g10 g13 g14 g15 g17 g18:AV) (res:aa)
  (hr:∀ g13 g14 g15 g17 g18,ke 2 ⟨⟨.slc (nm jw) j (n+3) (.exact c),.slc (nm jv) 0 (n+2) (.exact cv),.int .i64 (.ofNat N),g3,g4,g5,.int .u64 (.ofNat G),g7⟩,⟨g8,g9,g10,.int .i64 (.ofNat N),.int .i64 (.ofNat N),g13,g14,g15⟩,⟨.int .u64 (.ofNat (kK 18446744073709551616 G V N)),g17,g18,.int .u64 (.ofNat (np 18446744073709551616 D (G*V) N)),.undef,.undef,.undef,.undef⟩,⟨.undef,.undef,.int .u64 (.ofNat 0),.undef,.undef,.undef,.undef,.undef⟩,i8,i8,i8,i8⟩ (hp (L.set jw (.cells (cw (bc 18446744073709551616 M (j+N) (T%18446744073709551616^j+18446744073709551616^j*D) T)) 0)))=res) :
  kL (ml pM pA pS) call kr ke kn0 ⟨⟨.slc (nm jw) j (n+3) (.exact c),.slc (nm jv) 0 (n+2) (.exact cv),.int .i64 (.ofNat N),g3,g4,g5,.int .u64 (.ofNat G),g7⟩,⟨g8,g9,g10,.int .i64 (.ofNat 0),.int .i64 (.ofNat N),g13,g14,g15⟩,⟨.int .u64 (.ofNat 0),g17,g18,.int .u64 (.ofNat 0),.undef,.undef,.undef,.undef⟩,⟨.undef,.undef,.int .u64 (.ofNat 0),.undef,.undef,.undef,.undef,.undef⟩,i8,i8,i8,i8⟩ (hp L)=res:=by
 have hjl:jw<L.length:=(List.getElem?_eq_some_iff.mp hw).1
 refine bM (ml pM pA pS) call _ _ _ (λi fr h=>∃ g13 g14 g15 g17 g18,fr=⟨⟨.slc (nm jw) j (n+3) (.exact c),.slc (nm jv) 0 (n+2) (.exact cv),.int .i64 (.ofNat N),g3,g4,g5,.int .u64 (.ofNat G),g7⟩,⟨g8,g9,g10,.int .i64 (.ofNat i),.int .i64 (.ofNat N),g13,g14,g15⟩,⟨.int .u64 (.ofNat (kK 18446744073709551616 G V i)),g17,g18,.int .u64 (.ofNat (np 18446744073709551616 D (G*V) i)),.undef,.undef,.undef,.undef⟩,⟨.undef,.undef,.int .u64 (.ofNat 0),.undef,.undef,.undef,.undef,.undef⟩,i8,i8,i8,i8⟩∧h=hp (L.set jw (.cells (cw (bc 18446744073709551616 M (j+i) (T%18446744073709551616^j+18446744073709551616^j*D) T)) 0))) N _ _ _ ⟨g13,g14,g15,g17,g18,?_,?_⟩ ?_ ?_ (by omega)
 ·rw[Hr,oI]
 ·rw[Nat.add_zero,n7 (by decide),ei hw]
 ·rintro i fr h hi ⟨g13,g14,g15,g17,g18,rfl,rfl⟩
  have hlx:(L.set jw (.cells (cw (bc 18446744073709551616 M (j+i) (T%18446744073709551616^j+18446744073709551616^j*D) T)) 0))[jw]? = some (.cells (cw (bc 18446744073709551616 M (j+i) (T%18446744073709551616^j+18446744073709551616^j*D) T)) 0):=by rw[List.getElem?_set,if_pos rfl,if_pos hjl]
  have hly:(L.set jw (.cells (cw (bc 18446744073709551616 M (j+i) (T%18446744073709551616^j+18446744073709551616^j*D) T)) 0))[jv]? = some (.cells (cw (aF 18446744073709551616 mv V)) 0):=by rw[List.getElem?_set,if_neg hne,hv]
  have lx:(cw (bc 18446744073709551616 M (j+i) (T%18446744073709551616^j+18446744073709551616^j*D) T))[j+i]? = some (.int .u64 (.ofNat ((D+G*V)/18446744073709551616^i%18446744073709551616))):=by rw[cw,List.getElem?_map,dO _ _ _ _ _ (by omega),if_neg (Nat.lt_irrefl _),hD i hi];rfl
  have ly:(cw (aF 18446744073709551616 mv V))[i]? = some (.int .u64 (.ofNat (V/18446744073709551616^i%18446744073709551616))):=by rw[cw,List.getElem?_map,bb _ _ _ _ (by omega)];rfl
  obtain⟨m1,m2⟩:=FK (β:=18446744073709551616) (by decide) G V i
  have hml:=Nn (by decide) hG V (i+1)
  obtain⟨d1,d2⟩:=iG (β:=18446744073709551616) (by decide) D (G*V) i
  have hc:=ky (β:=18446744073709551616) (by decide) D (G*V) i
  have hc':=ky (β:=18446744073709551616) (by decide) D (G*V) (i+1)
  have hz:D/18446744073709551616^i%18446744073709551616<18446744073709551616:=Nat.mod_lt _ (by decide)
  have hy:G*V/18446744073709551616^i%18446744073709551616<18446744073709551616:=Nat.mod_lt _ (by decide)
  have hvb:V/18446744073709551616^i%18446744073709551616<18446744073709551616:=Nat.mod_lt _ (by decide)
  obtain⟨s1,s2⟩:=qL hz hy hc
  rw[d1]at s1 s2
  rw[d2]at s2
  have hb:(if (D+G*V)/18446744073709551616^i%18446744073709551616<G*V/18446744073709551616^i%18446744073709551616+np 18446744073709551616 D (G*V) i then 1 else 0)=np 18446744073709551616 D (G*V) (i+1):=by
   split
   ·rename_i h;exact (s2.1 h).symm
   ·rename_i h
    have:np 18446744073709551616 D (G*V) (i+1)≠1:=λe=>h (s2.2 e)
    omega
  refine⟨_,_,⟨.bool true,.int .i64 (.ofNat i),.int .u64 (.ofNat (G*V/18446744073709551616^i%18446744073709551616)),.int .u64 (.ofNat (G*(V/18446744073709551616^i%18446744073709551616)/18446744073709551616)),.int .u64 (.ofNat ((G*(V/18446744073709551616^i%18446744073709551616)%18446744073709551616+kK 18446744073709551616 G V i+0)/18446744073709551616)),rfl,rfl⟩,λkn=>?_⟩
  simp only[ml,aI]
  rw[dz hi]
  simp only[aI]
  rw[bw (by omega),aR hly ly,bJ,hMu _ _ _ _ hG hvb,jN,jJ,bJ,hA _ _ _ _ _ (by decide),jN,jJ,pr,m1,m2,Nat.mod_eq_of_lt hml,iz (by omega),aR hlx lx,bJ,hS _ _ _ _ _ hc,jN,jJ,iz (by omega),dQ hlx (by rw[aS,bh];omega),bW (by omega),List.set_set,cU,s1,hb]
  rw[← iD (T:=T) (D:=D) (j:=j) (i:=i) (by decide),cB _ _ _ _ (by omega),Nat.add_assoc j i 1]
 ·rintro fr h ⟨g13,g14,g15,g17,g18,rfl,rfl⟩ kn
  simp only[ml,aI]
  rw[dC (Nat.le_refl _)]
  simp only[aI]
  exact hr _ _ _ _ _
end Go.Ai
namespace Go.Ai
variable [Nu]
theorem xt{L:List Obj}{jw jv j n c cv M mv W V D R N:Nat}(hne:jw≠jv)(hNe:N=n+2)
  (hw:L[jw]? = some (.cells (cw (aF 18446744073709551616 M W)) 0)) (hv:L[jv]? = some (.cells (cw (aF 18446744073709551616 mv V)) 0)) (hM:j+n+3≤M) (hmv:n+2≤mv) (hn:M<67108864)
  (hW:∀ i,i<N→W/18446744073709551616^(j+i)%18446744073709551616=D/18446744073709551616^i%18446744073709551616) (hR:∀ i,i<N→(D+V)/18446744073709551616^i%18446744073709551616=R/18446744073709551616^i%18446744073709551616)
  {call:Call} {pA:ab} (hA:fk call pA) {kr:ar→H→aa} {ke:Nat→ar→H→aa} {kn0:ar→H→aa} (x2 x3 x4 x5 x6 x7:AV) (a1:F8) (y0 y1 y2 y3 y4 y7 z0:AV) (res:aa)
  (hr:∀ y7 z0,ke 4 ⟨⟨.slc (nm jw) j (n+3) (.exact c),.slc (nm jv) 0 (n+2) (.exact cv),x2,x3,x4,x5,x6,x7⟩,a1,⟨y0,y1,y2,y3,y4,.int .i64 (.ofNat N),.int .i64 (.ofNat N),y7⟩,⟨z0,.int .u64 (.ofNat (np 18446744073709551616 D V N)),.int .u64 (.ofNat 0),.undef,.undef,.undef,.undef,.undef⟩,i8,i8,i8,i8⟩ (hp (L.set jw (.cells (cw (bc 18446744073709551616 M (j+N) (W%18446744073709551616^j+18446744073709551616^j*R) W)) 0)))=res) :
  kL (lI pA) call kr ke kn0 ⟨⟨.slc (nm jw) j (n+3) (.exact c),.slc (nm jv) 0 (n+2) (.exact cv),x2,x3,x4,x5,x6,x7⟩,a1,⟨y0,y1,y2,y3,y4,.int .i64 (.ofNat 0),.int .i64 (.ofNat N),y7⟩,⟨z0,.int .u64 (.ofNat 0),.int .u64 (.ofNat 0),.undef,.undef,.undef,.undef,.undef⟩,i8,i8,i8,i8⟩ (hp L)=res:=by
 have hjl:jw<L.length:=(List.getElem?_eq_some_iff.mp hw).1
 refine bM (lI pA) call _ _ _ (λi fr h=>∃ y7 z0,fr=⟨⟨.slc (nm jw) j (n+3) (.exact c),.slc (nm jv) 0 (n+2) (.exact cv),x2,x3,x4,x5,x6,x7⟩,a1,⟨y0,y1,y2,y3,y4,.int .i64 (.ofNat i),.int .i64 (.ofNat N),y7⟩,⟨z0,.int .u64 (.ofNat (np 18446744073709551616 D V i)),.int .u64 (.ofNat 0),.undef,.undef,.undef,.undef,.undef⟩,i8,i8,i8,i8⟩∧h=hp (L.set jw (.cells (cw (bc 18446744073709551616 M (j+i) (W%18446744073709551616^j+18446744073709551616^j*R) W)) 0))) N _ _ _ ⟨y7,z0,?_,?_⟩ ?_ ?_ (by omega)
 ·rw[oI]
 ·rw[Nat.add_zero,n7 (by decide),ei hw]
 ·rintro i fr h hi ⟨y7,z0,rfl,rfl⟩
  have hlx:(L.set jw (.cells (cw (bc 18446744073709551616 M (j+i) (W%18446744073709551616^j+18446744073709551616^j*R) W)) 0))[jw]? = some (.cells (cw (bc 18446744073709551616 M (j+i) (W%18446744073709551616^j+18446744073709551616^j*R) W)) 0):=by rw[List.getElem?_set,if_pos rfl,if_pos hjl]
  have hly:(L.set jw (.cells (cw (bc 18446744073709551616 M (j+i) (W%18446744073709551616^j+18446744073709551616^j*R) W)) 0))[jv]? = some (.cells (cw (aF 18446744073709551616 mv V)) 0):=by rw[List.getElem?_set,if_neg hne,hv]
  have lx:(cw (bc 18446744073709551616 M (j+i) (W%18446744073709551616^j+18446744073709551616^j*R) W))[j+i]? = some (.int .u64 (.ofNat (D/18446744073709551616^i%18446744073709551616))):=by rw[cw,List.getElem?_map,dO _ _ _ _ _ (by omega),if_neg (Nat.lt_irrefl _),hW i hi];rfl
  have ly:(cw (aF 18446744073709551616 mv V))[i]? = some (.int .u64 (.ofNat (V/18446744073709551616^i%18446744073709551616))):=by rw[cw,List.getElem?_map,bb _ _ _ _ (by omega)];rfl
  obtain⟨d1,d2⟩:=iG (β:=18446744073709551616) (by decide) D V i
  have hc:=ky (β:=18446744073709551616) (by decide) D V i
  refine⟨_,_,⟨.bool true,.int .i64 (.ofNat i),rfl,rfl⟩,λkn=>?_⟩
  simp only[lI,aI]
  rw[dz hi]
  simp only[aI]
  rw[iz (by omega),aR hlx lx,bw (by omega),aR hly ly,bJ,hA _ _ _ _ _ hc,jN,iz (by omega),dQ hlx (by rw[aS,bh];omega),jJ,bW (by omega),List.set_set,cU,d1,d2,hR i hi]
  rw[← iD (T:=W) (D:=R) (j:=j) (i:=i) (by decide),cB _ _ _ _ (by omega),Nat.add_assoc j i 1]
 ·rintro fr h ⟨y7,z0,rfl,rfl⟩ kn
  simp only[lI,aI]
  rw[dC (Nat.le_refl _)]
  simp only[aI]
  exact hr _ _
end Go.Ai
namespace Go.Ai
variable [Nu]
theorem A4{β T D j:Nat}:(T%β^j+β^j*D)%β^j=T%β^j:=by rw[Nat.add_mul_mod_self_left,Nat.mod_mod]
theorem Jc{β T D j:Nat}(hβ : 0<β):(T%β^j+β^j*D)/β^j=D:=by
 rw[Nat.add_mul_div_left _ _ (Nat.pow_pos hβ),Nat.div_eq_of_lt (Nat.mod_lt _ (Nat.pow_pos hβ)),Nat.zero_add]
theorem fc{β T j i:Nat}:T/β^(j+i)%β = T/β^j/β^i%β:=by rw[Nat.pow_add,← Nat.div_div_eq_div_mul]
theorem Rb{β X Y k:Nat}(hX:X<β^k)(hY:Y<β^k):np β X Y k=(X+Y)/β^k:=by rw[np,Nat.mod_eq_of_lt hX,Nat.mod_eq_of_lt hY]
theorem mA{M j T W:Nat}(h:j<M):(cw (bc 18446744073709551616 M j W T))[j]? = some (.int .u64 (.ofNat (T/18446744073709551616^j%18446744073709551616))):=by
 rw[cw,List.getElem?_map,dO _ _ _ _ _ h,if_neg (Nat.lt_irrefl _)];rfl
theorem oG{L:List Obj}{jw jv j n c cv M mv T V G:Nat}(hne:jw≠jv)
  (hw:L[jw]? = some (.cells (cw (aF 18446744073709551616 M T)) 0)) (hv:L[jv]? = some (.cells (cw (aF 18446744073709551616 mv V)) 0)) (hM:j+n+3≤M) (hmv:n+2≤mv) (hn:M<67108864)
  (hV:V<18446744073709551616^(n+2)) (hU:T/18446744073709551616^j<V*18446744073709551616) (hG:G<18446744073709551616) (hG1:T/18446744073709551616^j/V≤G) (hG2:G≤T/18446744073709551616^j/V+1)
  {call:Call} {pM pA pS:ab} (hMu:kD call pM) (hA:fk call pA) (hS:mD call pS) {ke:Nat→ar→H→aa} {kn0:ar→H→aa} (k:af) (g3 g4 g5 g7 g8 g9 g10:AV) :
  oi pM pA pS call (r1 xC k) ke kn0 ⟨⟨.slc (nm jw) j (n+3) (.exact c),.slc (nm jv) 0 (n+2) (.exact cv),.int .i64 (.ofNat (n+2)),g3,g4,g5,.int .u64 (.ofNat G),g7⟩,⟨g8,g9,g10,.undef,.undef,.undef,.undef,.undef⟩,i8,⟨.undef,.undef,.int .u64 (.ofNat 0),.undef,.undef,.undef,.undef,.undef⟩,i8,i8,i8,i8⟩ (hp L)
   = k (.int .u64 (.ofNat (T/18446744073709551616^j/V))) (hp (L.set jw (.cells (cw (aF 18446744073709551616 M (T%18446744073709551616^j+18446744073709551616^j*(T/18446744073709551616^j%V)))) 0))):=by
 have hjl:jw<L.length:=(List.getElem?_eq_some_iff.mp hw).1
 have hV0:0<V:=Nat.pos_of_ne_zero λe=>by rw[e,Nat.zero_mul]at hU;exact Nat.not_lt_zero _ hU
 have hdm:=Nat.div_add_mod (T/18446744073709551616^j) V
 have hml:=Nat.mod_lt (T/18446744073709551616^j) hV0
 have hβN:18446744073709551616^(n+2+1)=18446744073709551616^(n+2)*18446744073709551616:=Nat.pow_succ _ _
 have hVβ : V*18446744073709551616<18446744073709551616^(n+2+1):=by rw[hβN];exact Nat.mul_lt_mul_of_pos_right hV (by decide)
 have hVN:V<18446744073709551616^(n+2+1):=Nat.lt_of_le_of_lt (Nat.le_mul_of_pos_right _ (by decide)) hVβ
 have hUN:T/18446744073709551616^j<18446744073709551616^(n+2+1):=Nat.lt_trans hU hVβ
 have hPN:G*V<18446744073709551616^(n+2+1):=by
  refine Nat.lt_of_le_of_lt (Nat.mul_le_mul_right V (Nat.le_of_lt hG)) ?_
  rw[Nat.mul_comm];exact hVβ
 have hPtop:kK 18446744073709551616 G V (n+2)=G*V/18446744073709551616^(n+2)%18446744073709551616:=by
  rw[JG hV]
  refine (Nat.mod_eq_of_lt ?_).symm
  rw[Nat.div_lt_iff_lt_mul (Nat.pow_pos (by decide)),Nat.mul_comm 18446744073709551616,← hβN];exact hPN
 have main:∀ D bo:Nat,D<18446744073709551616^(n+2+1)→(∀ i,i<n+2+1→(D+G*V)/18446744073709551616^i%18446744073709551616=T/18446744073709551616^(j+i)%18446744073709551616)→(D+G*V)/18446744073709551616^(n+2+1)=bo →
   (∀ g13 g14 g15 g16 g17 g18,oW pA call (r1 xC k) ke kn0 ⟨⟨.slc (nm jw) j (n+3) (.exact c),.slc (nm jv) 0 (n+2) (.exact cv),.int .i64 (.ofNat (n+2)),g3,g4,g5,.int .u64 (.ofNat G),g7⟩,⟨g8,g9,g10,.int .i64 (.ofNat (n+2)),.int .i64 (.ofNat (n+2)),g13,g14,g15⟩,⟨g16,g17,g18,.int .u64 (.ofNat bo),.undef,.undef,.undef,.undef⟩,⟨.undef,.undef,.int .u64 (.ofNat 0),.undef,.undef,.undef,.undef,.undef⟩,i8,i8,i8,i8⟩ (hp (L.set jw (.cells (cw (aF 18446744073709551616 M (T%18446744073709551616^j+18446744073709551616^j*D))) 0)))
    = k (.int .u64 (.ofNat (T/18446744073709551616^j/V))) (hp (L.set jw (.cells (cw (aF 18446744073709551616 M (T%18446744073709551616^j+18446744073709551616^j*(T/18446744073709551616^j%V)))) 0)))) →
   oi pM pA pS call (r1 xC k) ke kn0 ⟨⟨.slc (nm jw) j (n+3) (.exact c),.slc (nm jv) 0 (n+2) (.exact cv),.int .i64 (.ofNat (n+2)),g3,g4,g5,.int .u64 (.ofNat G),g7⟩,⟨g8,g9,g10,.undef,.undef,.undef,.undef,.undef⟩,i8,⟨.undef,.undef,.int .u64 (.ofNat 0),.undef,.undef,.undef,.undef,.undef⟩,i8,i8,i8,i8⟩ (hp L)
   = k (.int .u64 (.ofNat (T/18446744073709551616^j/V))) (hp (L.set jw (.cells (cw (aF 18446744073709551616 M (T%18446744073709551616^j+18446744073709551616^j*(T/18446744073709551616^j%V)))) 0))):=by
  intro D bo hD hdig hbo hgo
  have hcb:=Rb hD hPN
  rw[hbo]at hcb
  obtain⟨d1,d2⟩:=iG (β:=18446744073709551616) (by decide) D (G*V) (n+2)
  have hc:=ky (β:=18446744073709551616) (by decide) D (G*V) (n+2)
  have hc':=ky (β:=18446744073709551616) (by decide) D (G*V) (n+2+1)
  have hz:D/18446744073709551616^(n+2)%18446744073709551616<18446744073709551616:=Nat.mod_lt _ (by decide)
  have hy:G*V/18446744073709551616^(n+2)%18446744073709551616<18446744073709551616:=Nat.mod_lt _ (by decide)
  obtain⟨s1,s2⟩:=qL hz hy hc
  rw[d1]at s1 s2
  rw[d2]at s2
  have hb:(if (D+G*V)/18446744073709551616^(n+2)%18446744073709551616<G*V/18446744073709551616^(n+2)%18446744073709551616+np 18446744073709551616 D (G*V) (n+2) then 1 else 0)=np 18446744073709551616 D (G*V) (n+2+1):=by
   split
   ·rename_i h;exact (s2.1 h).symm
   ·rename_i h
    have:np 18446744073709551616 D (G*V) (n+2+1)≠1:=λe=>h (s2.2 e)
    omega
  have hl:(L.set jw (.cells (cw (bc 18446744073709551616 M (j+(n+2)) (T%18446744073709551616^j+18446744073709551616^j*D) T)) 0))[jw]? = some (.cells (cw (bc 18446744073709551616 M (j+(n+2)) (T%18446744073709551616^j+18446744073709551616^j*D) T)) 0):=by rw[List.getElem?_set,if_pos rfl,if_pos hjl]
  have ht:=mA (M:=M) (j:=j+(n+2)) (T:=T) (W:=T%18446744073709551616^j+18446744073709551616^j*D) (by omega)
  rw[← hdig (n+2) (by omega)]at ht
  simp only[oi,zt,aI]
  refine xn hne rfl hw hv hM hmv hn hG (λi hi=>hdig i (by omega)) hMu hA hS _ _ _ _ _ _ _ _ _ _ _ _ _ λg13 g14 g15 g17 g18=>?_
  simp only[Ah,aI]
  rw[iz (by omega),aR hl ht,bJ,hPtop,hS _ _ _ _ _ hc,jN,jJ,iz (by omega),dQ hl (by rw[aS,bh];omega),List.set_set,cU,s1,hb,hcb]
  rw[← iD (T:=T) (D:=D) (j:=j) (i:=n+2) (by decide),cB _ _ _ _ (by omega),Nat.add_assoc j (n+2) 1,qR (by decide) hD hUN]
  have:=hgo g13 g14 g15 (.int .u64 (.ofNat (G*V/18446744073709551616^(n+2)%18446744073709551616))) g17 g18
  simp only[jA]at this
  exact this
 by_cases hGQ:G≤T/18446744073709551616^j/V
 ·have e:G=T/18446744073709551616^j/V:=Nat.le_antisymm hGQ hG1
  have hs:T/18446744073709551616^j%V+G*V=T/18446744073709551616^j:=by rw[e,Nat.mul_comm,Nat.add_comm];exact hdm
  refine main (T/18446744073709551616^j%V) 0 (Nat.lt_trans hml hVN) (λi _=>by rw[hs,fc]) (by rw[hs,Nat.div_eq_of_lt hUN]) λg13 g14 g15 g16 g17 g18=>?_
  simp only[oW,aI]
  rw[kb rfl]
  simp only[aI]
  rw[← e]
 ·have e:G=T/18446744073709551616^j/V+1:=by omega
  have hG0:1≤G:=by rw[e];exact Nat.le_add_left 1 _
  have hGm:G-1=T/18446744073709551616^j/V:=by rw[e,Nat.add_sub_cancel]
  have hGV:G*V=V*(T/18446744073709551616^j/V)+V:=by rw[e,Nat.add_mul,Nat.one_mul,Nat.mul_comm]
  have hs:T/18446744073709551616^j+18446744073709551616^(n+2+1)-G*V+G*V=T/18446744073709551616^j+18446744073709551616^(n+2+1):=Nat.sub_add_cancel (by omega)
  have hlow:∀ (X i:Nat),i<n+2+1→(X+18446744073709551616^(n+2+1))/18446744073709551616^i%18446744073709551616=X/18446744073709551616^i%18446744073709551616:=λX i hi=>by
   have:=i3 (β:=18446744073709551616) X 1 (n+2+1) i hi (by decide)
   rw[Nat.mul_one]at this
   exact this
  have hDV:T/18446744073709551616^j+18446744073709551616^(n+2+1)-G*V+V=T/18446744073709551616^j%V+18446744073709551616^(n+2+1):=by omega
  have hDlt:T/18446744073709551616^j+18446744073709551616^(n+2+1)-G*V<18446744073709551616^(n+2+1):=by omega
  refine main (T/18446744073709551616^j+18446744073709551616^(n+2+1)-G*V) 1 hDlt (λi hi=>by rw[hs,hlow _ _ hi,fc]) (by rw[hs,Nat.add_div_right _ (Nat.pow_pos (by decide)),Nat.div_eq_of_lt hUN]) λg13 g14 g15 g16 g17 g18=>?_
  generalize T/18446744073709551616^j+18446744073709551616^(n+2+1)-G*V=D at hDV hDlt ⊢
  have hl2:(L.set jw (.cells (cw (aF 18446744073709551616 M (T%18446744073709551616^j+18446744073709551616^j*D))) 0))[jw]? = some (.cells (cw (aF 18446744073709551616 M (T%18446744073709551616^j+18446744073709551616^j*D))) 0):=by rw[List.getElem?_set,if_pos rfl,if_pos hjl]
  have hv2:(L.set jw (.cells (cw (aF 18446744073709551616 M (T%18446744073709551616^j+18446744073709551616^j*D))) 0))[jv]? = some (.cells (cw (aF 18446744073709551616 mv V)) 0):=by rw[List.getElem?_set,if_neg hne,hv]
  simp only[oW,aI]
  rw[lR (by decide)]
  simp only[ww,wv,aI]
  refine xt (D:=D) (R:=T/18446744073709551616^j%V) hne rfl hl2 hv2 hM hmv hn (λi _=>iD (by decide)) (λi hi=>by rw[hDV,hlow _ _ (by omega)]) hA _ _ _ _ _ _ _ _ _ _ _ _ _ _ _ λy7 z0=>?_
  rw[List.set_set,A4]
  have hl3:(L.set jw (.cells (cw (bc 18446744073709551616 M (j+(n+2)) (T%18446744073709551616^j+18446744073709551616^j*(T/18446744073709551616^j%V)) (T%18446744073709551616^j+18446744073709551616^j*D))) 0))[jw]? = some (.cells (cw (bc 18446744073709551616 M (j+(n+2)) (T%18446744073709551616^j+18446744073709551616^j*(T/18446744073709551616^j%V)) (T%18446744073709551616^j+18446744073709551616^j*D))) 0):=by rw[List.getElem?_set,if_pos rfl,if_pos hjl]
  have ht:=mA (M:=M) (j:=j+(n+2)) (T:=T%18446744073709551616^j+18446744073709551616^j*D) (W:=T%18446744073709551616^j+18446744073709551616^j*(T/18446744073709551616^j%V)) (by omega)
  rw[iD (by decide)]at ht
  obtain⟨a1,_⟩:=iG (β:=18446744073709551616) (by decide) D V (n+2)
  rw[dt hV,Nat.add_zero,hDV,hlow _ (n+2) (Nat.lt_succ_self _)]at a1
  have hd:=qR (β:=18446744073709551616) (M:=M) (j:=j) (N:=n+2+1) (T:=T%18446744073709551616^j+18446744073709551616^j*D) (D:=T/18446744073709551616^j%V) (by decide) (Nat.lt_trans hml hVN) (by rw[Jc (by decide)];exact hDlt)
  rw[A4]at hd
  simp only[wc,vn,aI]
  rw[iz (by omega),aR hl3 ht,pr,a1,iz (by omega),dQ hl3 (by rw[aS,bh];omega),ee hG0 hG,List.set_set,cU]
  rw[← iD (T:=T) (D:=T/18446744073709551616^j%V) (j:=j) (i:=n+2) (by decide),cB _ _ _ _ (by omega),Nat.add_assoc j (n+2) 1,hd,hGm]
end Go.Ai
namespace Go.Ai
variable [Nu]
def yv(call:Call)(p:ab):Prop:=∀ (L:List Obj) (jw jv j n c cv M mv T V:Nat) (k:af),jw≠jv→L[jw]? = some (.cells (cw (aF 18446744073709551616 M T)) 0)→L[jv]? = some (.cells (cw (aF 18446744073709551616 mv V)) 0)→j+n+3≤M→n+2≤mv→M<67108864 →
 V<18446744073709551616^(n+2)→18446744073709551616≤2*(V/18446744073709551616^(n+1))→T/18446744073709551616^j<V*18446744073709551616 →
 call p [.slc (nm jw) j (n+3) (.exact c),.slc (nm jv) 0 (n+2) (.exact cv)] (hp L) k=k (.int .u64 (.ofNat (T/18446744073709551616^j/V))) (hp (L.set jw (.cells (cw (aF 18446744073709551616 M (T%18446744073709551616^j+18446744073709551616^j*(T/18446744073709551616^j%V)))) 0)))
theorem Mx{j n M mv:Nat}(hM:j+n+3≤M)(hmv:n+2≤mv)(hn:M<67108864):n+2<n+3∧n+1<n+3∧n+1<n+2∧1≤n+2∧n+2<9223372036854775808∧j+(n+2)<M∧j+(n+1)<M∧n+1<mv:=by omega
theorem FC{v un u1:Nat}(h:un=v):18446744073709551615*v+(u1+v)=un*18446744073709551616+u1:=by omega
theorem jE{M T i:Nat}(h:i<M):(cw (aF 18446744073709551616 M T))[i]? = some (.int .u64 (.ofNat (T/18446744073709551616^i%18446744073709551616))):=by
 rw[cw,List.getElem?_map,bb _ _ _ _ h];rfl
theorem yJ{call:Call}{pM pA pS pD:ab}(hA:fk call pA){L:List Obj}{jw jv j n c cv M mv T V un u1 v1 g:Nat}
  (hw:L[jw]? = some (.cells (cw (aF 18446744073709551616 M T)) 0)) (hv:L[jv]? = some (.cells (cw (aF 18446744073709551616 mv V)) 0)) (o1:n+2<n+3) (o2:n+1<n+3) (o3:n+1<n+2) (o4:1≤n+2) (o5:n+2<9223372036854775808)
  (lun:(cw (aF 18446744073709551616 M T))[j+(n+2)]? = some (.int .u64 (.ofNat un))) (lu1:(cw (aF 18446744073709551616 M T))[j+(n+1)]? = some (.int .u64 (.ofNat u1))) (lv1:(cw (aF 18446744073709551616 mv V))[n+1]? = some (.int .u64 (.ofNat v1))) (hge:v1≤un) (hgd:18446744073709551615=g)
  (kr:ar→H→aa) (ke:Nat→ar→H→aa) (kn:ar→H→aa) :
  lQ pA pD pM pS call kr ke kn ⟨⟨.slc (nm jw) j (n+3) (.exact c),.slc (nm jv) 0 (n+2) (.exact cv),.int .i64 (.ofNat (n+2)),.undef,.int .u64 (.ofNat 0),.undef,.int .u64 (.ofNat 0),.undef⟩,⟨.int .u64 (.ofNat 0),.undef,.undef,.undef,.undef,.undef,.undef,.undef⟩,i8,⟨.undef,.undef,.int .u64 (.ofNat 0),.undef,.undef,.undef,.undef,.undef⟩,i8,i8,i8,i8⟩ (hp L) =
  i2 pM pA pS call kr ke kn ⟨⟨.slc (nm jw) j (n+3) (.exact c),.slc (nm jv) 0 (n+2) (.exact cv),.int .i64 (.ofNat (n+2)),.bool true,.int .u64 (.ofNat ((u1+v1)/18446744073709551616)),.undef,.int .u64 (.ofNat g),.undef⟩,⟨.int .u64 (.ofNat ((u1+v1)%18446744073709551616)),.undef,.undef,.undef,.undef,.undef,.undef,.undef⟩,i8,⟨.undef,.undef,.int .u64 (.ofNat 0),.undef,.undef,.undef,.undef,.undef⟩,i8,i8,i8,i8⟩ (hp L):=by
 unfold lQ
 generalize i2 pM pA pS=X
 rw[av,av,aG,eo,lj,iA,ed,iz o1,aR hw lun,eE o4 o5,show n+2-1=n+1 from rfl,bw o3,aR hv lv1,cL hge,ni,cm,fj,bY,av,aG,oR,aG,lj,eo,ed,eE o4 o5,show n+2-1=n+1 from rfl,iz o2,aR hw lu1,eE o4 o5,show n+2-1=n+1 from rfl,bw o3,aR hv lv1,bJ,wI,hA _ _ _ _ _ (by decide),jN,jJ,nu,oX,hgd,Nat.add_zero (u1+v1)]
theorem yc{call:Call}{pM pA pS pD:ab}(hD:oK call pD){L:List Obj}{jw jv j n c cv M mv T V un u1 v1:Nat}
  (hw:L[jw]? = some (.cells (cw (aF 18446744073709551616 M T)) 0)) (hv:L[jv]? = some (.cells (cw (aF 18446744073709551616 mv V)) 0)) (o1:n+2<n+3) (o2:n+1<n+3) (o3:n+1<n+2) (o4:1≤n+2) (o5:n+2<9223372036854775808)
  (lun:(cw (aF 18446744073709551616 M T))[j+(n+2)]? = some (.int .u64 (.ofNat un))) (lu1:(cw (aF 18446744073709551616 M T))[j+(n+1)]? = some (.int .u64 (.ofNat u1))) (lv1:(cw (aF 18446744073709551616 mv V))[n+1]? = some (.int .u64 (.ofNat v1))) (hlt:un<v1) (hu1:u1<18446744073709551616) (hv1:v1<18446744073709551616)
  (kr:ar→H→aa) (ke:Nat→ar→H→aa) (kn:ar→H→aa) :
  lQ pA pD pM pS call kr ke kn ⟨⟨.slc (nm jw) j (n+3) (.exact c),.slc (nm jv) 0 (n+2) (.exact cv),.int .i64 (.ofNat (n+2)),.undef,.int .u64 (.ofNat 0),.undef,.int .u64 (.ofNat 0),.undef⟩,⟨.int .u64 (.ofNat 0),.undef,.undef,.undef,.undef,.undef,.undef,.undef⟩,i8,⟨.undef,.undef,.int .u64 (.ofNat 0),.undef,.undef,.undef,.undef,.undef⟩,i8,i8,i8,i8⟩ (hp L) =
  i2 pM pA pS call kr ke kn ⟨⟨.slc (nm jw) j (n+3) (.exact c),.slc (nm jv) 0 (n+2) (.exact cv),.int .i64 (.ofNat (n+2)),.bool false,.int .u64 (.ofNat 0),.undef,.int .u64 (.ofNat ((un*18446744073709551616+u1)/v1)),.undef⟩,⟨.int .u64 (.ofNat ((un*18446744073709551616+u1)%v1)),.undef,.undef,.undef,.undef,.undef,.undef,.undef⟩,i8,⟨.undef,.undef,.int .u64 (.ofNat 0),.undef,.undef,.undef,.undef,.undef⟩,i8,i8,i8,i8⟩ (hp L):=by
 unfold lQ
 generalize i2 pM pA pS=X
 rw[av,av,aG,eo,lj,iA,ed,iz o1,aR hw lun,eE o4 o5,show n+2-1=n+1 from rfl,bw o3,aR hv lv1,ef hlt,ni,cm,fj,cn,aG,lj,eo,ed,iz o1,aR hw lun,eE o4 o5,show n+2-1=n+1 from rfl,iz o2,aR hw lu1,eE o4 o5,show n+2-1=n+1 from rfl,bw o3,aR hv lv1,bJ,hD _ _ _ _ _ hlt hu1 hv1,jN,jJ,oR,nu]
theorem Hj{call:Call}{pM pA pS pD:ab}(hMu:kD call pM)(hA:fk call pA)(hS:mD call pS)(hDv:oK call pD)(L:List Obj)(jw jv j n c cv M mv T V:Nat)(k:af)(hne:jw≠jv)
  (hw:L[jw]? = some (.cells (cw (aF 18446744073709551616 M T)) 0)) (hv:L[jv]? = some (.cells (cw (aF 18446744073709551616 mv V)) 0)) (hM:j+n+3≤M) (hmv:n+2≤mv) (hn:M<67108864)
  (hV:V<18446744073709551616^(n+2)) (hVt:18446744073709551616≤2*(V/18446744073709551616^(n+1))) (hU:T/18446744073709551616^j<V*18446744073709551616) :
  ES pA pD pM pS call [.slc (nm jw) j (n+3) (.exact c),.slc (nm jv) 0 (n+2) (.exact cv)] (hp L) k=k (.int .u64 (.ofNat (T/18446744073709551616^j/V))) (hp (L.set jw (.cells (cw (aF 18446744073709551616 M (T%18446744073709551616^j+18446744073709551616^j*(T/18446744073709551616^j%V)))) 0))):=by
 obtain⟨b1,b2,b3⟩:=Ge (β:=18446744073709551616) (by decide) hVt hV hU
 have e1:V/18446744073709551616^(n+1)%18446744073709551616=V/18446744073709551616^(n+1):=Nat.mod_eq_of_lt b2
 have hv1:0<V/18446744073709551616^(n+1):=Nat.pos_of_ne_zero λe=>by rw[e]at hVt;exact absurd hVt (by decide)
 obtain⟨o1,o2,o3,o4,o5,o6,o7,o8⟩:=Mx hM hmv hn
 have lun:(cw (aF 18446744073709551616 M T))[j+(n+2)]? = some (.int .u64 (.ofNat (T/18446744073709551616^j/18446744073709551616^(n+2)))):=by
  rw[jE o6,fc,Nat.mod_eq_of_lt (Nat.lt_of_le_of_lt b1 b2)]
 have lu1:(cw (aF 18446744073709551616 M T))[j+(n+1)]? = some (.int .u64 (.ofNat (T/18446744073709551616^j/18446744073709551616^(n+1)%18446744073709551616))):=by rw[jE o7,fc]
 have lv1:(cw (aF 18446744073709551616 mv V))[n+1]? = some (.int .u64 (.ofNat (V/18446744073709551616^(n+1)))):=by rw[jE o8,e1]
 have hu1:T/18446744073709551616^j/18446744073709551616^(n+1)%18446744073709551616<18446744073709551616:=Nat.mod_lt _ (by decide)
 have hsp:=fD (β:=18446744073709551616) (T/18446744073709551616^j) (n+1)
 simp only[ES,DV,Av,A9,zR,aI]
 rw[aK]
 by_cases hge:V/18446744073709551616^(n+1)≤T/18446744073709551616^j/18446744073709551616^(n+2)
 ·obtain⟨g,hgd,hgb,hg1⟩ : ∃ g,18446744073709551615=g∧g<18446744073709551616∧18446744073709551616-1≤g:=⟨_,rfl,by decide,by decide⟩
  have hfm:=FC (u1:=T/18446744073709551616^j/18446744073709551616^(n+1)%18446744073709551616) (Nat.le_antisymm b1 hge)
  rw[hgd]at hfm
  obtain⟨m,h1,h2,h3,h4,h5,h6⟩:=s9 (β:=18446744073709551616) (U:=T/18446744073709551616^j) (V:=V) (n:=n) (g:=g) (r:=T/18446744073709551616^j/18446744073709551616^(n+1)%18446744073709551616+V/18446744073709551616^(n+1)) (by decide) hVt hU hgb (hfm.trans hsp.symm) (.inl hg1)
  have c4:=λ(kr:ar→H→aa) (ke:Nat→ar→H→aa) (kn:ar→H→aa)=>yJ (pM:=pM) (pS:=pS) (pD:=pD) (c:=c) (cv:=cv) hA hw hv o1 o2 o3 o4 o5 lun lu1 lv1 hge hgd kr ke kn
  have l2:=λ(kr:ar→H→aa) (ke:Nat→ar→H→aa) (kn0:ar→H→aa) (g3 g5 g7 g9 g10:AV) (res:aa)=>ph (c:=c) (cv:=cv) hw hv hM hmv hn e1 rfl fc hgb h1 h2 h3 h4 hMu hA (kr:=kr) (ke:=ke) (kn0:=kn0) g3 g5 g7 g9 g10 res
  simp only[jA]at c4 l2
  rw[c4,i2,av,dH]
  refine l2 _ _ _ _ _ _ _ _ _ λg4 g5 g7 g8 g9 g10=>?_
  rw[dK]
  have:=oG (c:=c) (cv:=cv) (ke:=λ_ _ _=>.bad 25) (kn0:=r1 xC k) hne hw hv hM hmv hn hV hU (Nat.lt_of_le_of_lt (Nat.sub_le g m) hgb) h5 h6 hMu hA hS k (.bool true) g4 g5 g7 g8 g9 g10
  simp only[jA]at this
  exact this
 ·have hlt:T/18446744073709551616^j/18446744073709551616^(n+2)<V/18446744073709551616^(n+1):=Nat.lt_of_not_le hge
  have hg:T/18446744073709551616^j/18446744073709551616^(n+1)/(V/18446744073709551616^(n+1))<18446744073709551616:=by
   rw[Nat.div_lt_iff_lt_mul hv1,hsp]
   have h7:(T/18446744073709551616^j/18446744073709551616^(n+2)+1)*18446744073709551616≤V/18446744073709551616^(n+1)*18446744073709551616:=Nat.mul_le_mul_right _ hlt
   rw[Nat.add_mul]at h7
   rw[Nat.mul_comm 18446744073709551616]
   exact Nat.lt_of_lt_of_le (Nat.add_lt_add_left (by rw[Nat.one_mul];exact hu1) _) h7
  have hrl:T/18446744073709551616^j/18446744073709551616^(n+1)%(V/18446744073709551616^(n+1))<18446744073709551616:=Nat.lt_trans (Nat.mod_lt _ hv1) b2
  obtain⟨m,h1,h2,h3,h4,h5,h6⟩:=s9 (β:=18446744073709551616) (U:=T/18446744073709551616^j) (V:=V) (n:=n) (g:=T/18446744073709551616^j/18446744073709551616^(n+1)/(V/18446744073709551616^(n+1))) (r:=T/18446744073709551616^j/18446744073709551616^(n+1)%(V/18446744073709551616^(n+1))) (by decide) hVt hU hg (by rw[Nat.mul_comm];exact Nat.div_add_mod _ _) (.inr b3)
  have c4:=λ(kr:ar→H→aa) (ke:Nat→ar→H→aa) (kn:ar→H→aa)=>yc (pM:=pM) (pS:=pS) (pA:=pA) (c:=c) (cv:=cv) hDv hw hv o1 o2 o3 o4 o5 lun lu1 lv1 hlt hu1 b2 kr ke kn
  have l2:=λ(kr:ar→H→aa) (ke:Nat→ar→H→aa) (kn0:ar→H→aa) (g3 g5 g7 g9 g10:AV) (res:aa)=>ph (c:=c) (cv:=cv) hw hv hM hmv hn e1 rfl fc hg h1 h2 h3 h4 hMu hA (kr:=kr) (ke:=ke) (kn0:=kn0) g3 g5 g7 g9 g10 res
  rw[Nat.div_eq_of_lt hrl,Nat.mod_eq_of_lt hrl]at l2
  rw[← hsp]at c4
  simp only[jA]at c4 l2
  rw[c4,i2,av,dH]
  refine l2 _ _ _ _ _ _ _ _ _ λg4 g5 g7 g8 g9 g10=>?_
  rw[dK]
  have:=oG (c:=c) (cv:=cv) (ke:=λ_ _ _=>.bad 25) (kn0:=r1 xC k) hne hw hv hM hmv hn hV hU (Nat.lt_of_le_of_lt (Nat.sub_le _ m) hg) h5 h6 hMu hA hS k (.bool false) g4 g5 g7 g8 g9 g10
  simp only[jA]at this
  exact this
end Go.Ai
namespace Go.Ai
variable [Nu]
theorem tY{β Q i p:Nat}(hβ : 0<β): β^i*(Q/β^i)/β^p%β = if p<i then 0 else Q/β^p%β:=by
 by_cases h:p<i
 ·rw[if_pos h]
  have:=i3 (β:=β) 0 (Q/β^i) i p h hβ
  rw[Nat.zero_add,Nat.zero_div,Nat.zero_mod]at this
  exact this
 ·rw[if_neg h,show p=i+(p-i) by omega,Nat.pow_add,← Nat.div_div_eq_div_mul,← Nat.div_div_eq_div_mul,Nat.mul_div_cancel_left _ (Nat.pow_pos hβ)]
theorem DK{β M Q i:Nat}(hβ : 0<β):(aF β M (β^(i+1)*(Q/β^(i+1)))).set i (Q/β^i%β)=aF β M (β^i*(Q/β^i)):=by
 apply List.ext_getElem?
 intro p
 rw[List.getElem?_set]
 by_cases hp:p<M
 ·rw[bb _ _ _ _ hp,bb _ _ _ _ hp,aq,tY hβ,tY hβ]
  by_cases e:i=p
  ·subst e;rw[if_pos rfl,if_pos hp,if_neg (Nat.lt_irrefl _)]
  ·rw[if_neg e]
   by_cases h:p<i
   ·rw[if_pos h,if_pos (by omega)]
   ·rw[if_neg h,if_neg (by omega)]
 ·rw[List.getElem?_eq_none (l:=aF β M (β^i*(Q/β^i))) (by rw[aq];omega),List.getElem?_eq_none (by rw[aq];omega),aq]
  by_cases e:i=p
  ·subst e;rw[if_pos rfl,if_neg hp]
  ·rw[if_neg e]
theorem Au{L:List Obj}{jx jy jq m ny c cy cq mx my X Y:Nat}(hqx:jq≠jx)(hqy:jq≠jy)
  (hx:L[jx]? = some (.cells (cw (aF 18446744073709551616 mx X)) 0)) (hy:L[jy]? = some (.cells (cw (aF 18446744073709551616 my Y)) 0)) (hq:L[jq]? = some (.cells (cw (aF 18446744073709551616 m 0)) 0))
  (hm:m≤mx) (hny:0<ny) (hmy:0<my) (hmm:m<67108864) (hY0:0<Y) (hY:Y<18446744073709551616) (hX:X<18446744073709551616^m)
  {call:Call} {pD:ab} (hDv:oK call pD) {kr:ar→H→aa} {ke:Nat→ar→H→aa} {kn0:ar→H→aa} (x2 x3 x5:AV) (a1 a2:F8) (res:aa)
  (hr:∀ x4 x5,ke 0 ⟨⟨.slc (nm jx) 0 m (.exact c),.slc (nm jy) 0 ny (.exact cy),x2,x3,x4,x5,.int .u64 (.ofNat (X%Y)),.slc (nm jq) 0 m (.exact cq)⟩,a1,a2,i8,i8,i8,i8,i8⟩ (hp (L.set jq (.cells (cw (aF 18446744073709551616 m (X/Y))) 0)))=res) :
  kL (oQ pD) call kr ke kn0 ⟨⟨.slc (nm jx) 0 m (.exact c),.slc (nm jy) 0 ny (.exact cy),x2,x3,dn m 0,x5,.int .u64 (.ofNat 0),.slc (nm jq) 0 m (.exact cq)⟩,a1,a2,i8,i8,i8,i8,i8⟩ (hp L)=res:=by
 have hjl:jq<L.length:=(List.getElem?_eq_some_iff.mp hq).1
 have hQ:X/Y<18446744073709551616^m:=Nat.lt_of_le_of_lt (Nat.div_le_self _ _) hX
 refine bM (oQ pD) call _ _ _ (λr fr h=>∃ x5,fr=⟨⟨.slc (nm jx) 0 m (.exact c),.slc (nm jy) 0 ny (.exact cy),x2,x3,dn m r,x5,.int .u64 (.ofNat (X/18446744073709551616^(m-r)%Y)),.slc (nm jq) 0 m (.exact cq)⟩,a1,a2,i8,i8,i8,i8,i8⟩∧h=hp (L.set jq (.cells (cw (aF 18446744073709551616 m (18446744073709551616^(m-r)*(X/Y/18446744073709551616^(m-r))))) 0))) m _ _ _ ⟨x5,?_,?_⟩ ?_ ?_ (by omega)
 ·rw[Nat.sub_zero,Nat.div_eq_of_lt hX,Nat.zero_mod]
 ·rw[Nat.sub_zero,Nat.div_eq_of_lt hQ,Nat.mul_zero,ei hq]
 ·rintro r fr h hr' ⟨x5,rfl,rfl⟩
  obtain⟨i,hi,hi1,hi2⟩ : ∃ i,m-1-r=i∧m-r=i+1∧m-(r+1)=i:=⟨m-1-r,rfl,by omega,by omega⟩
  have him:i<m:=by omega
  obtain⟨l1,l2⟩:=Dv (β:=18446744073709551616) (U:=X) (by decide) hY0 i
  have hrl:X/18446744073709551616^(i+1)%Y<Y:=Nat.mod_lt _ hY0
  have hdl:X/18446744073709551616^i%18446744073709551616<18446744073709551616:=Nat.mod_lt _ (by decide)
  have lx:(cw (aF 18446744073709551616 mx X))[i]? = some (.int .u64 (.ofNat (X/18446744073709551616^i%18446744073709551616))):=jE (Nat.lt_of_lt_of_le him hm)
  have ly:(cw (aF 18446744073709551616 my Y))[0]? = some (.int .u64 (.ofNat Y)):=by rw[jE hmy,Nat.pow_zero,Nat.div_one,Nat.mod_eq_of_lt hY]
  have hlx:(L.set jq (.cells (cw (aF 18446744073709551616 m (18446744073709551616^(i+1)*(X/Y/18446744073709551616^(i+1))))) 0))[jx]? = some (.cells (cw (aF 18446744073709551616 mx X)) 0):=by rw[List.getElem?_set,if_neg hqx,hx]
  have hly:(L.set jq (.cells (cw (aF 18446744073709551616 m (18446744073709551616^(i+1)*(X/Y/18446744073709551616^(i+1))))) 0))[jy]? = some (.cells (cw (aF 18446744073709551616 my Y)) 0):=by rw[List.getElem?_set,if_neg hqy,hy]
  have hlq:(L.set jq (.cells (cw (aF 18446744073709551616 m (18446744073709551616^(i+1)*(X/Y/18446744073709551616^(i+1))))) 0))[jq]? = some (.cells (cw (aF 18446744073709551616 m (18446744073709551616^(i+1)*(X/Y/18446744073709551616^(i+1))))) 0):=by rw[List.getElem?_set,if_pos rfl,if_pos hjl]
  have hyd:=rE hr' (show m<9223372036854775808 by omega)
  have hil:i<(cw (aF 18446744073709551616 m (18446744073709551616^(i+1)*(X/Y/18446744073709551616^(i+1))))).length:=by rw[aS,aq];exact him
  rw[hi]at hyd
  rw[kj hr',hi,hi1,hi2]
  refine⟨_,_,⟨.bool true,rfl,rfl⟩,λkn=>?_⟩
  rw[oQ,av,av,aG,lK,eN,cL (Nat.zero_le _),rj,cm,ic,bY,fy,av,dH,aG,eo,ed,lK,nt,fP,bw him,aR hlx lx,bw hny,aR hly ly,bJ,hDv _ _ _ _ _ hrl hdl hY,jN,bw him,dQ hlq hil,jJ,oR,aG,lK,iA,hyd,oX,List.set_set,cU,← l1,← l2,DK (by decide)]
 ·rintro fr h ⟨x5,rfl,rfl⟩ kn
  rw[pZ,oQ,av,av,aG,lK,eN,iN,rj,cm,ic,cn,me,Nat.sub_self,Nat.pow_zero,Nat.div_one,Nat.div_one,Nat.one_mul]
  exact hr _ _
end Go.Ai
namespace Go.Ai
theorem tr{β X V i T:Nat}(hT:T=X%(V*β^(i+1))):
  T/β^i/V=X/V/β^i%β ∧ T%β^i+β^i*(T/β^i%V)=X%(V*β^i):=by
 have e:V*β^(i+1)=(V*β^i)*β:=by rw[Nat.pow_succ,Nat.mul_assoc]
 constructor
 ·rw[hT,Nat.div_div_eq_div_mul,Nat.mul_comm (β^i) V,e,Nat.mod_mul_right_div_self,Nat.div_div_eq_div_mul]
 ·rw[← Nat.mod_mul,hT,e,Nat.mul_comm (β^i) V,Nat.mod_mul_right_mod]
variable [Nu]
theorem RX{h:H}{k:af}{kd kd':IntKind}{o:ab}{n c lo hi:Nat}(h1:lo≤hi)(h2:hi≤c)(h3:lo<c):
  yX 1 (.slc o 0 n (.exact c)) (some (.int kd (.ofNat lo))) (some (.int kd' (.ofNat hi))) none h k=k (.slc o lo (hi-lo) (.exact (c-lo))) h:=by
 rw[Ia h1 h2 (.inl h3)]
 by_cases e:lo=0
 ·rw[if_pos e,e]
 ·rw[if_neg e,Nat.zero_add]
theorem Br{L:List Obj}{jw jv jq n cv cq M mv J X V:Nat}(hwv:jw≠jv)(hqw:jq≠jw)(hqv:jq≠jv)
  (hw:L[jw]? = some (.cells (cw (aF 18446744073709551616 M X)) 0)) (hv:L[jv]? = some (.cells (cw (aF 18446744073709551616 mv V)) 0)) (hq:L[jq]? = some (.cells (cw (aF 18446744073709551616 J 0)) 0))
  (hM:J+n+2≤M) (hmv:n+2≤mv) (hn:M<67108864) (hV:V<18446744073709551616^(n+2)) (hVt:18446744073709551616≤2*(V/18446744073709551616^(n+1))) (hX:X<V*18446744073709551616^J)
  {call:Call} {pS:ab} (hSt:yv call pS) {kr:ar→H→aa} {ke:Nat→ar→H→aa} {kn0:ar→H→aa} (x0 x1 x2 x3 x8 x12 x15:AV) (a2:F8) (res:aa)
  (hr:∀ x11 x12,ke 2 ⟨⟨x0,x1,x2,x3,.undef,.undef,.undef,.undef⟩,⟨x8,.slc (nm jv) 0 (n+2) (.exact cv),.int .i64 (.ofNat (n+2)),x11,x12,.slc (nm jq) 0 J (.exact cq),.slc (nm jw) 0 M (.exact M),x15⟩,a2,i8,i8,i8,i8,i8⟩ (hp ((L.set jw (.cells (cw (aF 18446744073709551616 M (X%V))) 0)).set jq (.cells (cw (aF 18446744073709551616 J (X/V))) 0)))=res) :
  kL (oU pS) call kr ke kn0 ⟨⟨x0,x1,x2,x3,.undef,.undef,.undef,.undef⟩,⟨x8,.slc (nm jv) 0 (n+2) (.exact cv),.int .i64 (.ofNat (n+2)),dn J 0,x12,.slc (nm jq) 0 J (.exact cq),.slc (nm jw) 0 M (.exact M),x15⟩,a2,i8,i8,i8,i8,i8⟩ (hp L)=res:=by
 have hjl:jq<L.length:=(List.getElem?_eq_some_iff.mp hq).1
 have hwl:jw<L.length:=(List.getElem?_eq_some_iff.mp hw).1
 have hV0:0<V:=Nat.pos_of_ne_zero λe=>by rw[e,Nat.zero_mul]at hX;exact absurd hX (Nat.not_lt_zero _)
 have hQ:X/V<18446744073709551616^J:=by rw[Nat.div_lt_iff_lt_mul hV0,Nat.mul_comm];exact hX
 refine bM (oU pS) call _ _ _ (λr fr h=>∃ x12,fr=⟨⟨x0,x1,x2,x3,.undef,.undef,.undef,.undef⟩,⟨x8,.slc (nm jv) 0 (n+2) (.exact cv),.int .i64 (.ofNat (n+2)),dn J r,x12,.slc (nm jq) 0 J (.exact cq),.slc (nm jw) 0 M (.exact M),x15⟩,a2,i8,i8,i8,i8,i8⟩∧h=hp ((L.set jw (.cells (cw (aF 18446744073709551616 M (X%(V*18446744073709551616^(J-r))))) 0)).set jq (.cells (cw (aF 18446744073709551616 J (18446744073709551616^(J-r)*(X/V/18446744073709551616^(J-r))))) 0))) J _ _ _ ⟨x12,rfl,?_⟩ ?_ ?_ (by omega)
 ·rw[Nat.sub_zero,Nat.div_eq_of_lt hQ,Nat.mul_zero,Nat.mod_eq_of_lt hX,ei hw,ei hq]
 ·rintro r fr h hr' ⟨x12,rfl,rfl⟩
  obtain⟨i,hi,hi1,hi2,hiJ⟩ : ∃ i,J-1-r=i∧J-r=i+1∧J-(r+1)=i∧i<J:=⟨J-1-r,rfl,by omega,by omega,by omega⟩
  obtain⟨l1,l2⟩:=tr (β:=18446744073709551616) (X:=X) (V:=V) (i:=i) rfl
  have hyd:=rE hr' (show J<9223372036854775808 by omega)
  rw[hi]at hyd
  rw[kj hr',hi,hi1,hi2]
  have hw':((L.set jw (.cells (cw (aF 18446744073709551616 M (X%(V*18446744073709551616^(i+1))))) 0)).set jq (.cells (cw (aF 18446744073709551616 J (18446744073709551616^(i+1)*(X/V/18446744073709551616^(i+1))))) 0))[jw]? = some (.cells (cw (aF 18446744073709551616 M (X%(V*18446744073709551616^(i+1))))) 0):=by
   rw[List.getElem?_set,if_neg hqw,List.getElem?_set,if_pos rfl,if_pos hwl]
  have hv':((L.set jw (.cells (cw (aF 18446744073709551616 M (X%(V*18446744073709551616^(i+1))))) 0)).set jq (.cells (cw (aF 18446744073709551616 J (18446744073709551616^(i+1)*(X/V/18446744073709551616^(i+1))))) 0))[jv]? = some (.cells (cw (aF 18446744073709551616 mv V)) 0):=by
   rw[List.getElem?_set,if_neg hqv,List.getElem?_set,if_neg hwv,hv]
  have hU:X%(V*18446744073709551616^(i+1))/18446744073709551616^i<V*18446744073709551616:=by
   rw[Nat.div_lt_iff_lt_mul (Nat.pow_pos (by decide)),Nat.mul_assoc,← Nat.pow_succ']
   exact Nat.mod_lt _ (Nat.mul_pos hV0 (Nat.pow_pos (by decide)))
  have hst:=λk=>hSt _ jw jv i n (M-i) cv M mv _ V k hwv hw' hv' (by omega) hmv hn hV hVt hU
  rw[l1,l2]at hst
  have e1:i+(n+2)+1-i=n+3:=by omega
  have o1:i+(n+2)<9223372036854775808:=by omega
  have o2:i+(n+2)+1<9223372036854775808:=by omega
  have o3:i≤i+(n+2)+1:=by omega
  have o4:i+(n+2)+1≤M:=by omega
  have o5:i<M:=by omega
  have hx:=λk=>RX (h:=hp ((L.set jw (.cells (cw (aF 18446744073709551616 M (X%(V*18446744073709551616^(i+1))))) 0)).set jq (.cells (cw (aF 18446744073709551616 J (18446744073709551616^(i+1)*(X/V/18446744073709551616^(i+1))))) 0))) (k:=k) (kd:=.i64) (kd':=.i64) (o:=nm jw) (n:=M) o3 o4 o5
  rw[e1]at hx
  have hq':(((L.set jw (.cells (cw (aF 18446744073709551616 M (X%(V*18446744073709551616^(i+1))))) 0)).set jq (.cells (cw (aF 18446744073709551616 J (18446744073709551616^(i+1)*(X/V/18446744073709551616^(i+1))))) 0)).set jw (.cells (cw (aF 18446744073709551616 M (X%(V*18446744073709551616^i)))) 0))[jq]? = some (.cells (cw (aF 18446744073709551616 J (18446744073709551616^(i+1)*(X/V/18446744073709551616^(i+1))))) 0):=by
   rw[List.getElem?_set,if_neg (Ne.symm hqw),List.getElem?_set,if_pos rfl,List.length_set,if_pos hjl]
  have aX:∀ b,((((L.set jw (.cells (cw (aF 18446744073709551616 M (X%(V*18446744073709551616^(i+1))))) 0)).set jq (.cells (cw (aF 18446744073709551616 J (18446744073709551616^(i+1)*(X/V/18446744073709551616^(i+1))))) 0)).set jw (.cells (cw (aF 18446744073709551616 M (X%(V*18446744073709551616^i)))) 0)).set jq b)=(L.set jw (.cells (cw (aF 18446744073709551616 M (X%(V*18446744073709551616^i)))) 0)).set jq b:=λb=>by
   rw[List.set_comm _ _ hqw,List.set_set,List.set_set]
  have hil:i<(cw (aF 18446744073709551616 J (18446744073709551616^(i+1)*(X/V/18446744073709551616^(i+1))))).length:=by rw[aS,aq];exact hiJ
  refine⟨_,_,⟨.bool true,rfl,rfl⟩,λkn=>?_⟩
  rw[oU,av,av,aG,mB,eN,cL (Nat.zero_le _),qz,cm,fx,bY,fy,av,dH,aG,mB,lE,bW o1,iA,bW o2,gW,hx,jS,bJ,hst,qW,bw hiJ,dQ hq' hil,aG,mB,hyd,xY,aX,cU,DK (by decide)]
 ·rintro fr h ⟨x12,rfl,rfl⟩ kn
  rw[pZ,oU,av,av,aG,mB,eN,iN,qz,cm,fx,cn,me,Nat.sub_self,Nat.pow_zero,Nat.mul_one,Nat.div_one,Nat.one_mul]
  exact hr _ _
end Go.Ai
namespace Go.Ai
theorem BD{R s:Nat}(hs:s≤63):
  Nat.lor (R%18446744073709551616/2^s) (R/18446744073709551616%18446744073709551616*2^(64-s)%18446744073709551616)=R/2^s%18446744073709551616:=by
 have e64:2^(64-s)*2^s=18446744073709551616:=by rw[← Nat.pow_add,show 64-s+s=64 by omega]
 have hK:0<2^(64-s):=Nat.two_pow_pos _
 have h2s:0<2^s:=Nat.two_pow_pos _
 have e1:R/18446744073709551616%18446744073709551616*2^(64-s)%18446744073709551616=2^(64-s)*(R/18446744073709551616%2^s):=by
  rw[Nat.mul_mod,Nat.mod_mod,← Nat.mul_mod,Nat.mul_comm]
  exact (congrArg (λB=>2^(64-s)*(R/18446744073709551616)%B) e64.symm).trans (Nat.mul_mod_mul_left _ _ _)
 have hc:R%18446744073709551616/2^s<2^(64-s):=by
  rw[Nat.div_lt_iff_lt_mul h2s,e64];exact Nat.mod_lt _ (by decide)
 rw[e1]
 generalize hH:R/18446744073709551616=H
 generalize hL:R%18446744073709551616=L at *
 have hR:R=2^s*(2^(64-s)*H)+L:=by
  rw[← Nat.mul_assoc,Nat.mul_comm (2^s),e64,← hH,← hL];exact (Nat.div_add_mod _ _).symm
 have e2:R/2^s=18446744073709551616*(H/2^s)+(2^(64-s)*(H%2^s)+L/2^s):=by
  rw[hR,Nat.mul_add_div h2s,← e64,Nat.mul_assoc,← Nat.add_assoc,← Nat.mul_add,Nat.div_add_mod]
 have e3:Nat.lor (L/2^s) (2^(64-s)*(H%2^s))=2^(64-s)*(H%2^s)+L/2^s:=by
  rw[Nat.two_pow_add_eq_or_of_lt hc];exact Nat.or_comm _ _
 have hlt:2^(64-s)*(H%2^s)+L/2^s<18446744073709551616:=by
  have h1:2^(64-s)*(H%2^s+1)≤2^(64-s)*2^s:=Nat.mul_le_mul_left _ (Nat.mod_lt _ h2s)
  rw[e64,Nat.mul_add,Nat.mul_one]at h1
  exact Nat.lt_of_lt_of_le (Nat.add_lt_add_left hc _) h1
 rw[e3,e2,Nat.mul_add_mod,Nat.mod_eq_of_lt hlt]
theorem Ib{T i s:Nat}:T/2^s/18446744073709551616^i=T/18446744073709551616^i/2^s:=by
 rw[Nat.div_div_eq_div_mul,Nat.div_div_eq_div_mul,Nat.mul_comm]
variable [Nu]
theorem zu{L:List Obj}{jw M N T s:Nat}(hw:L[jw]? = some (.cells (cw (aF 18446744073709551616 M T)) 0))(hNM:N+1≤M)(hn:M<67108864)(hs:s≤63)(hT:T<18446744073709551616^N)
  {call:Call} {kr:ar→H→aa} {ke:Nat→ar→H→aa} {kn0:ar→H→aa} (a0:F8) (x9 x10 x11 x12 x13 x17 x18 x19 x20 x21 x22 x23:AV) (res:aa)
  (hr:∀ x15 x17 x18 x19,ke 4 ⟨a0,⟨.int .i64 (.ofNat s),x9,x10,x11,x12,x13,.slc (nm jw) 0 M (.exact M),x15⟩,⟨.int .i64 (.ofNat N),x17,x18,x19,x20,x21,x22,x23⟩,i8,i8,i8,i8,i8⟩ (hp (L.set jw (.cells (cw (aF 18446744073709551616 M (T/2^s))) 0)))=res) :
  kL mU call kr ke kn0 ⟨a0,⟨.int .i64 (.ofNat s),x9,x10,x11,x12,x13,.slc (nm jw) 0 M (.exact M),.int .i64 (.ofNat 0)⟩,⟨.int .i64 (.ofNat N),x17,x18,x19,x20,x21,x22,x23⟩,i8,i8,i8,i8,i8⟩ (hp L)=res:=by
 have hwl:jw<L.length:=(List.getElem?_eq_some_iff.mp hw).1
 refine bM mU call _ _ _ (λi fr h=>∃ x17 x18 x19,fr=⟨a0,⟨.int .i64 (.ofNat s),x9,x10,x11,x12,x13,.slc (nm jw) 0 M (.exact M),.int .i64 (.ofNat i)⟩,⟨.int .i64 (.ofNat N),x17,x18,x19,x20,x21,x22,x23⟩,i8,i8,i8,i8,i8⟩∧h=hp (L.set jw (.cells (cw (bc 18446744073709551616 M i (T/2^s) T)) 0))) N _ _ _ ⟨x17,x18,x19,rfl,?_⟩ ?_ ?_ (by omega)
 ·rw[iF,ei hw]
 ·rintro i fr h hi ⟨x17,x18,x19,rfl,rfl⟩
  have o1:i<M:=by omega
  have o2:i+1<M:=by omega
  have o3:i+1<9223372036854775808:=by omega
  have hl:(L.set jw (.cells (cw (bc 18446744073709551616 M i (T/2^s) T)) 0))[jw]? = some (.cells (cw (bc 18446744073709551616 M i (T/2^s) T)) 0):=by rw[List.getElem?_set,if_pos rfl,if_pos hwl]
  have hil:i<(cw (bc 18446744073709551616 M i (T/2^s) T)).length:=by rw[aS,bh];exact o1
  have ld:(cw (bc 18446744073709551616 M i (T/2^s) T))[i]? = some (.int .u64 (.ofNat (T/18446744073709551616^i%18446744073709551616))):=mA o1
  have hl2:(L.set jw (.cells (cw ((bc 18446744073709551616 M i (T/2^s) T).set i (T/18446744073709551616^i%18446744073709551616/2^s))) 0))[jw]? = some (.cells (cw ((bc 18446744073709551616 M i (T/2^s) T).set i (T/18446744073709551616^i%18446744073709551616/2^s))) 0):=by rw[List.getElem?_set,if_pos rfl,if_pos hwl]
  have hil2:i<(cw ((bc 18446744073709551616 M i (T/2^s) T).set i (T/18446744073709551616^i%18446744073709551616/2^s))).length:=by rw[aS,List.length_set,bh];exact o1
  have ld2:(cw ((bc 18446744073709551616 M i (T/2^s) T).set i (T/18446744073709551616^i%18446744073709551616/2^s)))[i]? = some (.int .u64 (.ofNat (T/18446744073709551616^i%18446744073709551616/2^s))):=by
   rw[cw,List.getElem?_map,List.getElem?_set,if_pos rfl,bh,if_pos o1];rfl
  have ld3:(cw ((bc 18446744073709551616 M i (T/2^s) T).set i (T/18446744073709551616^i%18446744073709551616/2^s)))[i+1]? = some (.int .u64 (.ofNat (T/18446744073709551616^(i+1)%18446744073709551616))):=by
   rw[cw,List.getElem?_map,List.getElem?_set,if_neg (Nat.ne_of_lt (Nat.lt_succ_self i)),dO _ _ _ _ _ o2,if_neg (Nat.not_lt.2 (Nat.le_succ i))];rfl
  have hd:=BD (R:=T/18446744073709551616^i) hs
  rw[Nat.div_div_eq_div_mul T (18446744073709551616^i) 18446744073709551616,← Nat.pow_succ,← Ib]at hd
  have b1:T/18446744073709551616^i%18446744073709551616/2^s<18446744073709551616:=Nat.lt_of_le_of_lt (Nat.div_le_self _ _) (Nat.mod_lt _ (by decide))
  have b2:∀ x,x%18446744073709551616<18446744073709551616:=λx=>Nat.mod_lt _ (by decide)
  by_cases h0:0<s
  ·refine⟨_,_,⟨.bool true,.int .i64 (.ofNat i),.bool true,rfl,rfl⟩,λkn=>?_⟩
   rw[mU,av,aG,gb,p9,dz hi,qB,av,cm,sZ,bY,fy,av,dH,av,aG,gb,dZ,uH,av,aG,gW,qM,bw o1,aR hl ld,lk,dP (by omega),bw o1,dQ hl hil,List.set_set,cU,
    av,aG,lk,eN,jf h0,nV,qM,Fr,nV,iA,bW o3,nV,gW,Fr,nV,aK,nV,dz o2,yb,Cb,cm,BV,bY,aG,gW,qM,bw o1,aR hl2 ld2,bW o3,bw o2,aR hl2 ld3,lk,eE (by omega) (by decide),AK (by omega),Fe b1 (b2 _),bw o1,dQ hl2 hil2,List.set_set,cU,List.set_set,hd,cB _ _ _ _ o1,aG,gb,bW o3,qh]
  ·have hs0:s=0:=Nat.eq_zero_of_not_pos h0
   subst hs0
   refine⟨_,_,⟨.bool true,.int .i64 (.ofNat i),.bool false,rfl,rfl⟩,λkn=>?_⟩
   have e1:T/18446744073709551616^i%18446744073709551616/2^0=T/2^0/18446744073709551616^i%18446744073709551616:=by rw[Nat.pow_zero,Nat.div_one,Nat.div_one]
   rw[mU,av,aG,gb,p9,dz hi,qB,av,cm,sZ,bY,fy,av,dH,av,aG,gb,dZ,uH,av,aG,gW,qM,bw o1,aR hl ld,lk,dP (by omega),bw o1,dQ hl hil,List.set_set,cU,
    av,aG,lk,eN,jl (Nat.le_refl _),n8,n8,n8,n8,n8,uD,Mt,Cb,cm,BV,cn,fy,aG,gb,iA,bW o3,qh,e1,cB _ _ _ _ o1]
 ·rintro fr h ⟨x17,x18,x19,rfl,rfl⟩ kn
  have hlow:T/2^s<18446744073709551616^N:=Nat.lt_of_le_of_lt (Nat.div_le_self _ _) hT
  have e:bc 18446744073709551616 M N (T/2^s) T=aF 18446744073709551616 M (T/2^s):=by
   rw[← mj M _ 0]
   refine iy λp hp=>?_
   rw[if_pos hp]
   by_cases h1:p<N
   ·rw[if_pos h1]
   ·rw[if_neg h1,Nat.div_eq_of_lt (Nat.lt_of_lt_of_le hT (Nat.pow_le_pow_right (by decide) (Nat.le_of_not_lt h1))),Nat.div_eq_of_lt (Nat.lt_of_lt_of_le hlow (Nat.pow_le_pow_right (by decide) (Nat.le_of_not_lt h1)))]
  rw[mU,av,aG,gb,p9,dC (Nat.le_refl _),qB,av,cm,sZ,cn,me,e]
  exact hr _ _ _ _
end Go.Ai
namespace Go.Ai
theorem CC{X a b:Nat}(h1:X<18446744073709551616^a)(h2:a=0∨18446744073709551616^(a-1)≤X)(h3:X<18446744073709551616^b)(h4:b=0∨18446744073709551616^(b-1)≤X):a=b:=by
 have key:∀ a b,X<18446744073709551616^b→(a=0∨18446744073709551616^(a-1)≤X)→a≤b:=λa b h h'=>by
  rcases h' with h'|h'
  ·omega
  ·have:=(Nat.pow_lt_pow_iff_right (by decide)).mp (Nat.lt_of_le_of_lt h' h)
   omega
 exact Nat.le_antisymm (key a b h3 h2) (key b a h1 h4)
theorem KY{X Y a b:Nat}(h:X≤Y)(h2:a=0∨18446744073709551616^(a-1)≤X)(h3:Y<18446744073709551616^b):a≤b:=by
 rcases h2 with h2|h2
 ·omega
 ·have:=(Nat.pow_lt_pow_iff_right (by decide)).mp (Nat.lt_of_le_of_lt h2 (Nat.lt_of_le_of_lt h h3))
  omega
theorem Ga{Y y s n:Nat}(hy:y=Y/18446744073709551616^(n+1))(h1:y*2^s<18446744073709551616)(hs:s≤63)(h2:9223372036854775808≤y*2^s):
  Y*2^s<18446744073709551616^(n+2)∧18446744073709551616≤2*(Y*2^s/18446744073709551616^(n+1))∧9223372036854775808*18446744073709551616^(n+1)≤Y*2^s:=by
 have hp:0<18446744073709551616^(n+1):=Nat.pow_pos (by decide)
 have hlo:y*18446744073709551616^(n+1)≤Y:=by rw[hy];exact Nat.div_mul_le_self _ _
 have hhi:Y<(y+1)*18446744073709551616^(n+1):=by
  rw[hy,Nat.mul_comm];exact Nat.lt_mul_div_succ Y hp
 have e64:2^(64-s)*2^s=18446744073709551616:=by rw[← Nat.pow_add,show 64-s+s=64 by omega]
 have hy2:(y+1)*2^s≤18446744073709551616:=by
  rw[← e64]at h1 ⊢
  exact Nat.mul_le_mul_right _ (Nat.lt_of_mul_lt_mul_right h1)
 have hge:y*2^s*18446744073709551616^(n+1)≤Y*2^s:=by
  rw[Nat.mul_right_comm];exact Nat.mul_le_mul_right _ hlo
 refine⟨?_,?_,Nat.le_trans (Nat.mul_le_mul_right _ h2) hge⟩
 ·have h3:Y*2^s<(y+1)*18446744073709551616^(n+1)*2^s:=Nat.mul_lt_mul_of_pos_right hhi (Nat.two_pow_pos _)
  rw[Nat.mul_right_comm]at h3
  rw[Nat.pow_succ 18446744073709551616 (n+1),Nat.mul_comm (18446744073709551616^(n+1))]
  exact Nat.lt_of_lt_of_le h3 (Nat.mul_le_mul_right _ hy2)
 ·have h4:y*2^s≤Y*2^s/18446744073709551616^(n+1):=(Nat.le_div_iff_mul_le hp).2 hge
  omega
theorem cD{L g:List Obj}{j:Nat}{b:Obj}(h:L[j]? = some b):(L++g)[j]? = some b:=by
 rw[List.getElem?_append_left (List.getElem?_eq_some_iff.mp h).1,h]
theorem Kk{m X:Nat}(hX:X<18446744073709551616^m):tl (aF 18446744073709551616 m X)≤m∧X<18446744073709551616^tl (aF 18446744073709551616 m X)∧(tl (aF 18446744073709551616 m X)=0∨18446744073709551616^(tl (aF 18446744073709551616 m X)-1)≤X):=by
 have h1:=nv (aF 18446744073709551616 m X)
 have h2:=mJ 18446744073709551616 (aF 18446744073709551616 m X)
 rw[ck hX]at h2
 have h3:=mR (β:=18446744073709551616) (by decide) ((aF 18446744073709551616 m X).take (tl (aF 18446744073709551616 m X))) λw hw=>jC (by decide) m X w (List.mem_of_mem_take hw)
 rw[h2,List.length_take,Nat.min_eq_left h1]at h3
 rw[aq]at h1
 refine⟨h1,h3,?_⟩
 cases ht:tl (aF 18446744073709551616 m X) with
 | zero=>exact .inl rfl
 | succ n =>
  have:=yP (β:=18446744073709551616) _ n ht
  rw[ck hX]at this
  exact .inr this
theorem Lm(h:H)(k:af):ct (.int .i64 (.negSucc 0)) (.int .i64 (.ofNat 0)) h k=k (.bool true) h:=rfl
def Wd(L:List Obj)(v:AV)(m X:Nat):Prop:=∃ j c M,v = .slc (nm j) 0 m (.exact c)∧L[j]? = some (.cells (cw (aF 18446744073709551616 M X)) 0)∧m≤M∧m≤c∧X<18446744073709551616^m∧(m=0∨18446744073709551616^(m-1)≤X)
theorem Wd.app{L:List Obj}{v:AV}{m X:Nat}(h:Wd L v m X)(g:List Obj):Wd (L++g) v m X:=by
 obtain⟨j,c,M,h1,h2,h3⟩:=h
 exact⟨j,c,M,h1,cD h2,h3⟩
variable [Nu]
theorem ou{call:Call}{p:ab}(hT:mw call p){L:List Obj}{j m c M X:Nat}(hj:L[j]? = some (.cells (cw (aF 18446744073709551616 M X)) 0))(hm:m≤M)(hc:m≤c)(hX:X<18446744073709551616^m)(hmm:m<1073741824):
  ∃ m',(∀ k:af,call p [.slc (nm j) 0 m (.exact c)] (hp L) k=k (.slc (nm j) 0 m' (.exact c)) (hp L))∧Wd L (.slc (nm j) 0 m' (.exact c)) m' X:=by
 obtain⟨h1,h2,h3⟩:=Kk hX
 refine⟨tl (aF 18446744073709551616 m X),λk=>?_,j,c,M,rfl,hj,by omega,by omega,h2,h3⟩
 have:=hT.2 L j 0 c _ (aF 18446744073709551616 m X) k hj (by
  rw[aq]
  apply List.ext_getElem?
  intro i
  rw[List.getElem?_take]
  by_cases h:i<m
  ·rw[if_pos h,jE (by omega),jE h]
  ·rw[if_neg h,List.getElem?_eq_none (by rw[aS,aq];omega)]) (by rw[aq];exact hc) (by rw[aq];exact hmm)
 rw[aq]at this
 exact this
def Ko(call:Call)(p:ab):Prop:=∀ (L:List Obj) (a b:AV) (m n X Y:Nat),Wd L a m X→Wd L b n Y→0<Y→m<33554432→n<33554432 →
 ∃ g q r mq mr,(∀ k:af,call p [a,b] (hp L) k=k (.tup [q,r]) (hp (L++g)))∧(q = .nils∧X/Y=0∨Wd (L++g) q mq (X/Y))∧Wd (L++g) r mr (X%Y)
theorem Hi{call:Call}{pT pL pH pS:ab}(hT:mw call pT)(hLz:yh call pL)(hSh:w9 call pH)(hSt:yv call pS){L:List Obj}{jx jy m n cx cy mx my X Y:Nat}
  (hx:L[jx]? = some (.cells (cw (aF 18446744073709551616 mx X)) 0)) (hy:L[jy]? = some (.cells (cw (aF 18446744073709551616 my Y)) 0)) (hm:m≤mx) (hn:n+2≤my) (hX:X<18446744073709551616^m) (hY:Y<18446744073709551616^(n+2)) (hYn:18446744073709551616^(n+1)≤Y) (hmm:m<33554432) (hnm:n+2≤m) (x2 x3:AV) :
  ∃ g q r mq mr,(∀ (k:af) (ke:Nat→ar→H→aa) (kn:ar→H→aa),yt pL pH pT pS call (r2 nU sN k) ke kn ⟨⟨.slc (nm jx) 0 m (.exact cx),.slc (nm jy) 0 (n+2) (.exact cy),x2,x3,.undef,.undef,.undef,.undef⟩,⟨.undef,.undef,.undef,.undef,.undef,.undef,.undef,.undef⟩,⟨.undef,.undef,.undef,.undef,.nils,.nils,.undef,.undef⟩,i8,i8,i8,i8,i8⟩ (hp L)=k (.tup [q,r]) (hp (L++g)))∧Wd (L++g) q mq (X/Y)∧Wd (L++g) r mr (X%Y):=by
 have hY0:0<Y:=Nat.lt_of_lt_of_le (Nat.pow_pos (by decide)) hYn
 have hyt:Y/18446744073709551616^(n+1)<18446744073709551616:=by rw[Nat.div_lt_iff_lt_mul (Nat.pow_pos (by decide)),← Nat.pow_succ'];exact hY
 have hy0:Y/18446744073709551616^(n+1)≠0:=Nat.pos_iff_ne_zero.mp (Nat.div_pos hYn (Nat.pow_pos (by decide)))
 obtain⟨s,hs,hs1,hs2,hlz⟩:=hLz _ hyt hy0
 obtain⟨hV,hVt,hVl⟩:=Ga (Y:=Y) (n:=n) rfl hs1 hs hs2
 have lb:(cw (aF 18446744073709551616 my Y))[n+1]? = some (.int .u64 (.ofNat (Y/18446744073709551616^(n+1)))):=by rw[jE (by omega),Nat.mod_eq_of_lt hyt]
 have h2s:0<2^s:=Nat.two_pow_pos _
 have h2s':2^s≤9223372036854775808:=Nat.pow_le_pow_right (by decide) hs
 obtain⟨OV,hOV⟩ : ∃ O,Obj.cells (cw (aF 18446744073709551616 (n+2+1) (Y*2^s))) 0=O:=⟨_,rfl⟩
 have hsh1:=λk=>hSh L jy (n+2) cy my Y s k hy hn hY (by omega) hs
 have hVobj:(L++[OV])[L.length]? = some (.cells (cw (aF 18446744073709551616 (n+2+1) (Y*2^s))) 0):=by rw[hOV];exact aO L OV
 rw[hOV]at hsh1
 obtain⟨n',htr,hwd⟩:=ou hT hVobj (Nat.le_refl _) (Nat.le_refl _) (Nat.lt_of_lt_of_le hV (Nat.pow_le_pow_right (by decide) (Nat.le_succ _))) (by omega)
 have hn':n'=n+2:=by
  obtain⟨_,_,_,_,_,_,_,h1,h2⟩:=hwd
  refine CC h1 h2 hV (.inr (Nat.le_trans ?_ hVl))
  exact Nat.le_mul_of_pos_left _ (by decide)
 subst hn'
 obtain⟨L1,hL1⟩ : ∃ L1,L++[OV]=L1:=⟨_,rfl⟩
 rw[hL1]at hsh1 htr hVobj
 have hlen1:L1.length=L.length+1:=by rw[← hL1];simp
 have hsh2:=λk=>hSh L1 jx m cx mx X s k (by rw[← hL1];exact cD hx) hm hX (by omega) hs
 rw[hlen1]at hsh2
 obtain⟨L3,hL3⟩ : ∃ L3,L1++[Obj.cells (cw (aF 18446744073709551616 (m+1) (X*2^s))) 0]++[Obj.cells (cw (aF 18446744073709551616 (m-(n+2)+1) 0)) 0]=L3:=⟨_,rfl⟩
 have hw3:L3[L.length+1]? = some (.cells (cw (aF 18446744073709551616 (m+1) (X*2^s))) 0):=by
  rw[← hL3,← hlen1];exact cD (aO L1 _)
 have hv3:L3[L.length]? = some (.cells (cw (aF 18446744073709551616 (n+2+1) (Y*2^s))) 0):=by
  rw[← hL3];exact cD (cD hVobj)
 have hq3:L3[L.length+2]? = some (.cells (cw (aF 18446744073709551616 (m-(n+2)+1) 0)) 0):=by
  rw[← hL3]
  have:L.length+2=(L1++[Obj.cells (cw (aF 18446744073709551616 (m+1) (X*2^s))) 0]).length:=by simp[hlen1]
  rw[this];exact aO _ _
 have hXV:X*2^s<Y*2^s*18446744073709551616^(m-(n+2)+1):=by
  have h1:X*2^s<18446744073709551616^m*2^s:=Nat.mul_lt_mul_of_pos_right hX h2s
  have h2:18446744073709551616^m*2^s≤18446744073709551616^m*9223372036854775808:=Nat.mul_le_mul_left _ h2s'
  have h3:9223372036854775808*18446744073709551616^(n+1)*18446744073709551616^(m-(n+2)+1)≤Y*2^s*18446744073709551616^(m-(n+2)+1):=Nat.mul_le_mul_right _ hVl
  rw[Nat.mul_assoc,← Nat.pow_add,show n+1+(m-(n+2)+1)=m by omega,Nat.mul_comm]at h3
  exact Nat.lt_of_lt_of_le h1 (Nat.le_trans h2 h3)
 have hdn:AV.int .i64 (.ofNat (m-(n+2)))=dn (m-(n+2)+1) 0:=by rw[kj (Nat.succ_pos _)];rfl
 have e1:X*2^s/(Y*2^s)=X/Y:=Nat.mul_div_mul_right _ _ h2s
 have e2:X*2^s%(Y*2^s)=X%Y*2^s:=Nat.mul_mod_mul_right _ _ _
 have e3:X%Y*2^s/2^s=X%Y:=Nat.mul_div_cancel _ h2s
 have hTn:X%Y*2^s<18446744073709551616^(n+2):=by
  rw[← e2];exact Nat.lt_trans (Nat.mod_lt _ (Nat.mul_pos hY0 h2s)) hV
 have hRn:X%Y<18446744073709551616^(n+2):=Nat.lt_trans (Nat.mod_lt _ hY0) hY
 have hQ:X/Y<18446744073709551616^(m-(n+2)+1):=by
  rw[← e1,Nat.div_lt_iff_lt_mul (Nat.mul_pos hY0 h2s),Nat.mul_comm (18446744073709551616^(m-(n+2)+1))];exact hXV
 obtain⟨L4,hL4⟩ : ∃ L4,((L3.set (L.length+1) (.cells (cw (aF 18446744073709551616 (m+1) (X*2^s%(Y*2^s)))) 0)).set (L.length+2) (.cells (cw (aF 18446744073709551616 (m-(n+2)+1) (X*2^s/(Y*2^s)))) 0))=L4:=⟨_,rfl⟩
 have hw4:L4[L.length+1]? = some (.cells (cw (aF 18446744073709551616 (m+1) (X%Y*2^s))) 0):=by
  rw[← hL4,List.getElem?_set,if_neg (by omega),List.getElem?_set,if_pos rfl,if_pos (List.getElem?_eq_some_iff.mp hw3).1,e2]
 have hq4:L4[L.length+2]? = some (.cells (cw (aF 18446744073709551616 (m-(n+2)+1) (X/Y))) 0):=by
  rw[← hL4,List.getElem?_set,if_pos rfl,List.length_set,if_pos (List.getElem?_eq_some_iff.mp hq3).1,e1]
 obtain⟨L5,hL5⟩ : ∃ L5,L4.set (L.length+1) (.cells (cw (aF 18446744073709551616 (m+1) (X%Y*2^s/2^s))) 0)=L5:=⟨_,rfl⟩
 have hw5:L5[L.length+1]? = some (.cells (cw (aF 18446744073709551616 (m+1) (X%Y))) 0):=by
  rw[← hL5,List.getElem?_set,if_pos rfl,if_pos (List.getElem?_eq_some_iff.mp hw4).1,e3]
 have hq5:L5[L.length+2]? = some (.cells (cw (aF 18446744073709551616 (m-(n+2)+1) (X/Y))) 0):=by
  rw[← hL5,List.getElem?_set,if_neg (by omega),hq4]
 obtain⟨g,hg⟩ : ∃ g,L5=L++g:=by
  refine⟨[OV,.cells (cw (aF 18446744073709551616 (m+1) (X%Y*2^s/2^s))) 0,.cells (cw (aF 18446744073709551616 (m-(n+2)+1) (X*2^s/(Y*2^s)))) 0],?_⟩
  rw[← hL5,← hL4,← hL3,← hL1]
  simp
 obtain⟨mq,htq,hwq⟩:=ou hT hq5 (Nat.le_refl _) (Nat.le_refl _) hQ (by omega)
 obtain⟨mr,htr2,hwr⟩:=ou (m:=n+2) (c:=m+1) hT hw5 (by omega) (by omega) hRn (by omega)
 refine⟨g,_,_,mq,mr,λk ke kn=>?_,hg ▸ hwq,hg ▸ hwr⟩
 have o1:1≤n+2:=by omega
 have o2:n+2<9223372036854775808:=by omega
 have o3:n+1<n+2:=Nat.lt_succ_self _
 have o4:m<9223372036854775808:=by omega
 have o5:m-(n+2)+1<9223372036854775808:=by omega
 have o6:8*(m-(n+2)+1)≤1099511627776:=by omega
 have o7:m-(n+2)+1≤1099511627776:=by omega
 rw[yt,av,aG,ed,aK,iA,eE o1 o2,show n+2-1=n+1 from rfl,bw o3,aR hy lb,bJ,hlz,nu,EA,av,aG,ed,lk,bJ,hsh1,bJ,htr,Ks,EX,av,aG,eo,lk,bJ,hsh2,lS,
  D3,av,aG,jS,aK,xE,EN,av,aG,eo,aK,lE,eE hnm o4,iA,bW o5,wI,kN (Nat.le_refl _) o6 o7,sU,iX,← iP (β:=18446744073709551616),hL3,
  D2,av,av,aG,eo,aK,lE,eE hnm o4,xY,dH,hdn]
 have hlq:(L1++[Obj.cells (cw (aF 18446744073709551616 (m+1) (X*2^s))) 0]).length=L.length+2:=by simp[hlen1]
 rw[hlq]
 refine Br (by omega) (by omega) (by omega) hw3 hv3 hq3 (by omega) (by omega) (by omega) hV hVt hXV hSt _ _ _ _ _ _ _ _ _ λx11 x12=>?_
 rw[hL4,dK,Fa,av,av,aG,lE,dZ,yu,eN,qh,dH]
 refine zu hw4 (by omega) (by omega) hs hTn _ _ _ _ _ _ _ _ _ _ _ _ _ _ λx15 x17 x18 x19=>?_
 rw[hL5,dK,An,av,aG,qW,bJ,htq,gW,lE,If (by omega),bJ,htr2,nT,nJ,lv,Ce,xA,wY,hg]
theorem H3{call:Call}{pC pD pT pL pH pS:ab}(hC:I6 call pC)(hD:oK call pD)(hT:mw call pT)(hLz:yh call pL)(hSh:w9 call pH)(hSt:yv call pS){L:List Obj}{a b:AV}{m n X Y:Nat}(ha:Wd L a m X)(hb:Wd L b n Y)(hY0:0<Y)(hmm:m<33554432)(hnn:n<33554432):
  ∃ g q r mq mr,(∀ k:af,GL pC pD pT pL pH pS call [a,b] (hp L) k=k (.tup [q,r]) (hp (L++g)))∧(q = .nils∧X/Y=0∨Wd (L++g) q mq (X/Y))∧Wd (L++g) r mr (X%Y):=by
 have ha':=ha
 obtain⟨jx,cx,mx,rfl,hx,hm,hcx,hX,hX0⟩:=ha
 obtain⟨jy,cy,my,rfl,hy,hn,hcy,hY,hYn⟩:=hb
 have hcmp:=λk=>hC L jx jy m n cx cy mx my X Y k hx hy hm hn hX hY hX0 hYn (by omega) (by omega)
 by_cases hlt:X<Y
 ·refine⟨[],.nils,_,0,m,λk=>?_,.inl ⟨rfl,Nat.div_eq_of_lt hlt⟩,by rw[List.append_nil,Nat.mod_eq_of_lt hlt];exact ha'⟩
  rw[GL,qE,xB,jA,av,aG,nT,nJ,sk,av,av,aG,eo,ed,bJ,hcmp,nH,if_pos hlt,eN,Lm,rx,cm,lj,bY,av,aG,nT,eo,dZ,nJ,lv,Ce,xA,wY,List.append_nil]
 have hYX:Y≤X:=Nat.le_of_not_lt hlt
 have hnm:n≤m:=KY hYX hYn hX
 have hsg:∀ (h:H) (k:af),ct (nH X Y) (.int .i64 (.ofNat 0)) h k=k (.bool false) h:=λh k=>by
  rw[nH,if_neg hlt]
  split <;> exact dC (by omega)
 by_cases h1:n=1
 ·subst h1
  have hYb:Y<18446744073709551616:=by rw[Nat.pow_one]at hY;exact hY
  obtain⟨L1,hL1⟩ : ∃ L1,L++[Obj.cells (cw (aF 18446744073709551616 m 0)) 0]=L1:=⟨_,rfl⟩
  have hx1:L1[jx]? = some (.cells (cw (aF 18446744073709551616 mx X)) 0):=by rw[← hL1];exact cD hx
  have hy1:L1[jy]? = some (.cells (cw (aF 18446744073709551616 my Y)) 0):=by rw[← hL1];exact cD hy
  have hq1:L1[L.length]? = some (.cells (cw (aF 18446744073709551616 m 0)) 0):=by rw[← hL1];exact aO L _
  have hjx:=(List.getElem?_eq_some_iff.mp hx).1
  have hjy:=(List.getElem?_eq_some_iff.mp hy).1
  obtain⟨L2,hL2⟩ : ∃ L2,L1.set L.length (.cells (cw (aF 18446744073709551616 m (X/Y))) 0)=L2:=⟨_,rfl⟩
  have hq2:L2[L.length]? = some (.cells (cw (aF 18446744073709551616 m (X/Y))) 0):=by rw[← hL2,List.getElem?_set,if_pos rfl,if_pos (List.getElem?_eq_some_iff.mp hq1).1]
  have hl2:L2.length=L.length+1:=by rw[← hL2,← hL1];simp
  have hR:X%Y<18446744073709551616^1:=by rw[Nat.pow_one];exact Nat.lt_trans (Nat.mod_lt _ hY0) hYb
  have hone:([.int .u64 (.ofNat (X%Y))]:List AV)=cw (aF 18446744073709551616 1 (X%Y)):=by
   have:aF 18446744073709551616 1 (X%Y)=[X%Y/18446744073709551616^0%18446744073709551616]:=rfl
   rw[this,Nat.pow_zero,Nat.div_one,Nat.mod_eq_of_lt (a:=X%Y) (b:=18446744073709551616) (by rw[Nat.pow_one]at hR;exact hR)];rfl
  obtain⟨L3,hL3⟩ : ∃ L3,L2++[Obj.cells (cw (aF 18446744073709551616 1 (X%Y))) 0]=L3:=⟨_,rfl⟩
  have hr3:L3[L.length+1]? = some (.cells (cw (aF 18446744073709551616 1 (X%Y))) 0):=by rw[← hL3,← hl2];exact aO L2 _
  obtain⟨mq,htq,hwq⟩:=ou hT hq2 (Nat.le_refl _) (Nat.le_refl _) (Nat.lt_of_le_of_lt (Nat.div_le_self _ _) hX) (by omega)
  obtain⟨mr,htr,hwr⟩:=ou hT hr3 (Nat.le_refl _) (Nat.le_refl _) hR (by omega)
  obtain⟨g,hg⟩ : ∃ g,L3=L++g:=⟨[.cells (cw (aF 18446744073709551616 m (X/Y))) 0,.cells (cw (aF 18446744073709551616 1 (X%Y))) 0],by rw[← hL3,← hL2,← hL1];simp⟩
  refine⟨g,_,_,mq,mr,λk=>?_,.inr (hg ▸ hL3 ▸ hwq.app _),hg ▸ hwr⟩
  have o1:8*m≤1099511627776:=by omega
  have o2:m≤1099511627776:=by omega
  rw[GL,qE,xB,jA,av,aG,nT,nJ,sk,av,av,aG,eo,ed,bJ,hcmp,eN,hsg,rx,cm,lj,cn,fy,yg,av,av,aG,ed,aK,iA,kb rfl,ni,cm,fj,bY,
   av,aG,eo,aK,wI,kN (Nat.le_refl _) o1 o2,sK,iX,← iP (β:=18446744073709551616),hL1,av,aG,oR,av,av,aG,eo,aK,tf (by omega),oX,dH]
  refine Au (by omega) (by omega) hx1 hy1 hq1 hm Nat.one_pos (by omega) (by omega) hY0 hYb hX hD _ _ _ _ _ _ λx4 x5=>?_
  rw[hL2,dK,av,aG,fP,bJ,htq,nt,wt _ _ rfl,hone,hl2,hL3,bJ,htr,nT,nJ,lv,Ce,xA,wY,hg]
 ·obtain⟨n',rfl⟩ : ∃ n',n=n'+2:=by
   refine⟨n-2,?_⟩
   have:n≠0:=λe=>by rw[e,Nat.pow_zero]at hY;omega
   omega
  obtain⟨g,q,r,mq,mr,hrun,hq,hr⟩:=Hi hT hLz hSh hSt (cx:=cx) (cy:=cy) hx hy hm hn hX hY (hYn.resolve_left (by omega)) hmm hnm (.bool false) (.bool false)
  refine⟨g,q,r,mq,mr,λk=>?_,.inr hq,hr⟩
  rw[jA]at hrun
  rw[GL,qE,xB,jA,av,aG,nT,nJ,sk,av,av,aG,eo,ed,bJ,hcmp,eN,hsg,rx,cm,lj,cn,fy,yg,av,av,aG,ed,aK,iA,lR h1,ni,cm,fj,cn,fy,hrun]
end Go.Ai
namespace Go.Ai
inductive Eu:Nat→Nat→Nat→Prop
 | zero (a:Nat):Eu a 0 0
 | succ {a b n:Nat}:b≠0→Eu b (a%b) n→Eu a b (n+1)
theorem EL:∀ (f a b:Nat),b<f→Eu a b (zr f a b)
 | 0,_,_,h=>by omega
 | f+1,a,b,h=>by
  rw[zr]
  by_cases hb:b=0
  ·rw[if_pos hb,hb];exact .zero a
  ·rw[if_neg hb]
   exact .succ hb (EL f b (a%b) (Nat.lt_of_lt_of_le (Nat.mod_lt _ (Nat.pos_of_ne_zero hb)) (Nat.le_of_lt_succ h)))
theorem OH(a b k:Nat)(h:b<2^k):∃ n,n≤2*k∧Eu a b n:=⟨_,Ex k (b+1) a b h,EL _ a b (Nat.lt_succ_self b)⟩
theorem rD:ai 0=[]:=rfl
theorem HI{s:List Nat}(hs:∀ b ∈ s,b<256):aB s<18446744073709551616^((s.length+7)/8):=Nat.lt_of_lt_of_le (d7 s hs) (wb _)
theorem In{L L':List Obj}{v v':AV}{m m' X X':Nat}(h:Wd L v m X)(h':Wd L' v' m' X')(hX:X≤X'):m≤m':=by
 obtain⟨_,_,_,_,_,_,_,_,h2⟩:=h
 obtain⟨_,_,_,_,_,_,_,h3,_⟩:=h'
 exact KY hX h2 h3
variable [Nu]
theorem ol{call:Call}{p:ab}(hW:k9 call p)(L:List Obj){s:List Nat}(hs:∀ b ∈ s,b<256)(hl:s.length<1048576):
  ∃ g v m,(∀ k:af,call p [.str s] (hp L) k=k v (hp (L++g)))∧Wd (L++g) v m (aB s)∧m<131073:=by
 obtain⟨h1,h2,h3⟩:=Kk (HI hs)
 refine⟨_,_,_,λk=>hW L s k hs (by omega),⟨L.length,_,(s.length+7)/8,rfl,aO L _,h1,h1,h2,h3⟩,?_⟩
 have:tl (dr s)≤(s.length+7)/8:=h1
 omega
theorem wG{call:Call}{p:ab}(hP:kY call p){L:List Obj}{v:AV}{m X:Nat}(h:Wd L v m X)(hm:m<67108864):∃ g,∀ k:af,call p [v] (hp L) k=k (.str (ai X)) (hp (L++g)):=by
 obtain⟨j,c,M,rfl,hj,hM,hc,hX,_⟩:=h
 obtain⟨g,hg⟩:=hP.2 L j 0 c _ (aF 18446744073709551616 m X) hj (by
  rw[aq]
  apply List.ext_getElem?
  intro i
  rw[List.getElem?_take]
  by_cases h:i<m
  ·rw[if_pos h,jE (by omega),jE h]
  ·rw[if_neg h,List.getElem?_eq_none (by rw[aS,aq];omega)]) (by rw[aq];exact hc) (by rw[aq];exact hm) (jC (by decide) m X)
 rw[aq,ck hX]at hg
 exact⟨g,hg⟩
theorem Am{call:Call}{pW pD pP:ab}(hW:k9 call pW)(hD:Ko call pD)(hP:kY call pP)(L:List Obj){s t:List Nat}(hs:∀ b ∈ s,b<256)(ht:∀ b ∈ t,b<256)(hsl:s.length<1048576)(htl:t.length<1048576)(h0:0<aB t):
  ∃ g,∀ k:af,sx pW pD pP call [.str s,.str t] (hp L) k=k (.tup [.str (ai (aB s/aB t)),.str (ai (aB s%aB t))]) (hp (L++g)):=by
 obtain⟨g1,a,m,ha,hwa,hm⟩:=ol hW L hs hsl
 obtain⟨g2,b,n,hb,hwb,hn⟩:=ol hW (L++g1) ht htl
 obtain⟨g3,q,r,mq,mr,hrun,hq,hr⟩:=hD (L++g1++g2) a b m n _ _ (hwa.app g2) hwb h0 (by omega) (by omega)
 obtain⟨g4,hp1⟩ : ∃ g,∀ k:af,call pP [q] (hp (L++g1++g2++g3)) k=k (.str (ai (aB s/aB t))) (hp (L++g1++g2++g3++g)):=by
  rcases hq with ⟨rfl,e⟩|hq
  ·refine⟨[],λk=>?_⟩
   rw[hP.1,e,rD,List.append_nil]
  ·exact wG hP hq (by have:=In hq hwa (Nat.div_le_self _ _);omega)
 obtain⟨g5,hp2⟩:=wG hP (hr.app g4) (by have:=In hr hwa (Nat.mod_le _ _);omega)
 refine⟨g1++g2++g3++g4++g5,λk=>?_⟩
 rw[sx,ql,vO,av,aG,jk,oY,av,aG,gI,bJ,ha,fC,bJ,hb,bJ,hrun,jN,jJ,kl,nC,av,aG,kg,bJ,hp1,gf,bJ,hp2,jk,oY,lv,Ce,li,rh]
 simp only[List.append_assoc]
theorem IA{call:Call}{pW pD pP:ab}(hW:k9 call pW)(hD:Ko call pD)(hP:kY call pP)(L:List Obj){s t:List Nat}(hs:∀ b ∈ s,b<256)(ht:∀ b ∈ t,b<256)(hsl:s.length<1048576)(htl:t.length<1048576):
  ∃ g,∀ k:af,NX pW pD pP call [.str s,.str t] (hp L) k=k (.str (ai (Nat.gcd (aB s) (aB t)))) (hp (L++g)):=by
 obtain⟨g1,a,m,ha,hwa,hm⟩:=ol hW L hs hsl
 obtain⟨g2,b,n,hb,hwb,hn⟩:=ol hW (L++g1) ht htl
 obtain⟨N,hN,hE⟩:=OH (aB s) (aB t) (8*t.length) (by rw[← nL];exact d7 t ht)
 have hbits:N<1073741824:=by omega
 obtain⟨fr',h',⟨g3,x2,x3,a',x5,ma,rfl,rfl,hwd,hma⟩,hloop⟩:=dl (sh pD) call (λi fr h=>∃ g a b x3 x5 ma mb A B,fr=⟨.str s,.str t,b,x3,a,x5,.str [],.undef⟩∧h=hp (L++g)∧Wd (L++g) a ma A∧Wd (L++g) b mb B∧Eu A B (N-i)∧Nat.gcd A B=Nat.gcd (aB s) (aB t)∧ma<131073∧mb<131073) N 0
  (λfr h=>∃ g x2 x3 a x5 ma,fr=(⟨.str s,.str t,x2,x3,a,x5,.str [],.undef⟩ : F8)∧h=hp (L++g)∧Wd (L++g) a ma (Nat.gcd (aB s) (aB t))∧ma<131073)
  ⟨.str s,.str t,b,.undef,a,.undef,.str [],.undef⟩ (hp (L++g1++g2)) ⟨g1++g2,a,b,.undef,.undef,m,n,_,_,rfl,by rw[List.append_assoc],by rw[← List.append_assoc];exact hwa.app g2,by rw[← List.append_assoc];exact hwb,hE,rfl,hm,hn⟩ (by
   rintro i fr h hi ⟨g,a,b,x3,x5,ma,mb,A,B,rfl,rfl,ha,hb,hEu,hG,hma,hmb⟩
   obtain⟨d,hd⟩ : ∃ d,N-i=d+1:=⟨N-i-1,by omega⟩
   rw[hd]at hEu
   cases hEu with
   | succ hB hEu' =>
    obtain⟨jb,cb,Mb,rfl,hb'⟩:=id hb
    have hmb0:0<mb:=Nat.pos_of_ne_zero λe=>by
     obtain⟨_,_,_,_,_,_,_,h1,_⟩:=hb
     rw[e,Nat.pow_zero]at h1
     exact hB (Nat.lt_one_iff.mp h1)
    obtain⟨g',q,r,mq,mr,hrun,_,hr⟩:=hD (L++g) a _ ma mb A B ha hb (Nat.pos_of_ne_zero hB) (by omega) (by omega)
    refine⟨_,_,⟨g++g',_,r,.bool true,r,mb,mr,B,A%B,rfl,by rw[← List.append_assoc],by rw[← List.append_assoc];exact hb.app g',by rw[← List.append_assoc];exact hr,by rw[show N-(i+1)=d by omega];exact hEu',?_,hmb,by have:=In hr hb (Nat.le_of_lt (Nat.mod_lt _ (Nat.pos_of_ne_zero hB)));omega⟩,λkr ke kn=>?_⟩
    ·rw[Nat.gcd_comm,← Nat.gcd_rec,Nat.gcd_comm,hG]
    ·rw[sh,av,av,aG,kg,aK,eN,jf hmb0,nC,cm,gf,bY,fy,dH,av,aG,li,kg,bJ,hrun,jN,jJ,oY,aG,kg,dZ,jk,rh,dZ,kl]) (by
   rintro fr h ⟨g,a,b,x3,x5,ma,mb,A,B,rfl,rfl,ha,hb,hEu,hG,hma,hmb⟩
   rw[Nat.sub_self]at hEu
   cases hEu
   obtain⟨jb,cb,Mb,rfl,hb1,hb2,hb3,hb4,hb5⟩:=hb
   have hmb0:mb=0:=hb5.resolve_right λh=>absurd h (Nat.not_le.2 (Nat.pow_pos (by decide)))
   rw[Nat.gcd_zero_right]at hG
   refine⟨_,_,⟨g,.slc (nm jb) 0 mb (.exact cb),.bool false,a,x5,ma,rfl,rfl,hG ▸ ha,hma⟩,λkr ke kn=>?_⟩
   rw[sh,av,av,aG,kg,aK,eN,jl (Nat.le_of_eq hmb0),nC,cm,gf,cn,me]) hbits
 obtain⟨g4,hp1⟩:=wG hP hwd (by omega)
 refine⟨g3++g4,λk=>?_⟩
 rw[NX,ql,KC,av,aG,ul,lV,EU,av,aG,gI,bJ,ha,fC,bJ,hb,jk,kl,DT,av,dH,hloop,dK,Ej,av,aG,li,bJ,hp1,lV,lv,qS,pi,List.append_assoc]
end Go.Ai
