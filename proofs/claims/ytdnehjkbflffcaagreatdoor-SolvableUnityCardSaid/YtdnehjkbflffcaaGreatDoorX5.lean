/- Contracts: what the functions on numbers answer, computed with Lean's numbers. What the functions on numbers do, called through a table. Strings of bytes against each other; exact.NatCmp, exact.NatOf. Integers: what exact's functions answer. Fractions: what exact's functions answer. Contracts of integers and fractions as table entries. The contracts, level by level. Functions on plain values, run without the heap: what they call, one after the other, on numbers. Functions on plain values: each as calls of others on numbers. Calls of plain values that were evaluated beforehand: a table's entry that remembers them, numbers as numbers. -/
import Derived.Test.YtdnehjkbflffcaaGreatDoorX4
import Derived.Test.YtdnehjkbflffcaaGreatDoorX1
import Derived.Test.YtdnehjkbflffcaaGreatDoorA4
import Derived.Test.YtdnehjkbflffcaaGreatDoorA3
set_option linter.unusedVariables false
set_option autoImplicit false
set_option linter.unusedSectionVars false
set_option linter.unusedSimpArgs false
namespace Go.Ai
open Go
noncomputable def AV.nm0:AV→AV
 | .bs n=>.str (lB n)
 | v=>v
noncomputable def AV.nm1:AV→AV
 | .agg cs=>.agg (cs.map AV.nm0)
 | v=>v.nm0
noncomputable def AV.nm:AV→AV
 | .tup vs=>.tup (vs.map AV.nm1)
 | v=>v.nm1
variable [Nu]
theorem Jn:∀ (f N:Nat) (acc:List Nat) (K:List Nat→aa),goK f N acc K=K (CH f N acc)
 | 0,_,_,_=>rfl
 | f+1,N,acc,K=>by
  show Bool.rec (motive:=λ_=>aa) (forceN (Nat.div N 256) λM=>goK f M (Nat.mod N 256::acc) K) (K acc) (Nat.beq N 0)=K (Bool.rec (motive:=λ_=>List Nat) (CH f (Nat.div N 256) (Nat.mod N 256::acc)) acc (Nat.beq N 0))
  cases Nat.beq N 0 with
  | true=>rfl
  | false=>simp only[ao,Jn f]
theorem ip(N:Nat)(K:AV→aa):dv N K=K (.str (ai N)):=by
 have h:N<256^N:=Nat.lt_of_lt_of_le Nat.lt_two_pow_self (Nat.pow_le_pow_left (by decide) N)
 unfold dv
 rw[Jn,yf _ _ _ h,List.append_nil,ff h]
theorem PZ{o b n:Nat}(h:Nat.lor o b<2^n):o<2^n∧b<2^n :=
 ⟨Nat.lt_of_le_of_lt Nat.left_le_or h,Nat.lt_of_le_of_lt Nat.right_le_or h⟩
theorem wR:∀ (s:List Nat) (acc o:Nat) (k:Nat→Nat→aa),MD s acc o k=k (s.foldl (λa b=>a*256+b) acc) (s.foldl Nat.lor o)
 | [],_,_,_=>rfl
 | b::t,acc,o,k=>wR t (acc*256+b) (Nat.lor o b) k
theorem DZ:∀ (s:List Nat) (o:Nat),s.foldl Nat.lor o<256→o<256∧∀ b ∈ s,b<256
 | [],o,h=>⟨h,λ_ h=>(List.not_mem_nil h).elim⟩
 | b::t,o,h=>by
  obtain⟨h1,h2⟩:=DZ t (Nat.lor o b) h
  obtain⟨h3,h4⟩:=PZ (n:=8) h1
  exact⟨h3,λx hx=>by
   rcases List.mem_cons.mp hx with rfl|hx
   ·exact h4
   ·exact h2 x hx⟩
theorem EB:∀ (s:List Nat) (o:Nat),o<256→(∀ b ∈ s,b<256)→s.foldl Nat.lor o<256
 | [],_,h,_=>h
 | b::t,o,h,hs=>EB t (Nat.lor o b) (Nat.or_lt_two_pow (n:=8) h (hs b List.mem_cons_self)) λx hx=>hs x (List.mem_cons_of_mem _ hx)
theorem K2{L:Nat}(s:List Nat):(∀ k,bq (qO L s k))∨(ej s∧aB s<2^L∧∀ k,qO L s k=k (aB s)):=by
 cases s with
 | nil=>exact .inr ⟨⟨λ_ h=>(List.not_mem_nil h).elim,by simp⟩,Nat.two_pow_pos _,λ_=>rfl⟩
 | cons b t =>
  have e:∀ k,qO L (b::t) k=must 71 (Nat.blt 0 b) (MD t b b λn o=>must 70 (Nat.blt o 256) (forceN n λn=>must 72 (Nat.blt n (Nat.pow 2 L)) (k n))):=λ_=>rfl
  have e2:t.foldl (λa b=>a*256+b) b=aB (b::t):=by
   show _=t.foldl (λa b=>a*256+b) (0*256+b)
   rw[Nat.zero_mul,Nat.zero_add]
  simp only[e,wR,ao,e2]
  cases hb:Nat.blt 0 b with
  | false=>exact .inl λ_=>⟨71,rfl⟩
  | true =>
   have hb':0<b:=by rw[az]at hb;exact of_decide_eq_true hb
   simp only[aw]
   cases ho:Nat.blt (t.foldl Nat.lor b) 256 with
   | false=>exact .inl λ_=>⟨70,rfl⟩
   | true =>
    obtain⟨h1,h2⟩:=DZ t b (by rw[az]at ho;exact of_decide_eq_true ho)
    simp only[aw]
    cases hl:Nat.blt (aB (b::t)) (Nat.pow 2 L) with
    | false=>exact .inl λ_=>⟨72,rfl⟩
    | true=>exact .inr ⟨⟨λx hx=>by
      rcases List.mem_cons.mp hx with rfl|hx
      ·exact h1
      ·exact h2 x hx,by simp;omega⟩,by rw[az]at hl;exact of_decide_eq_true hl,λk=>by rw[aw]⟩
theorem ri{s:List Nat}(hs:ej s){L:Nat}(hL:L≤32768)(h:aB s<2^L):s.length<1048576:=by
 cases s with
 | nil=>decide
 | cons b t =>
  have hb':b≠0:=by simpa using hs.2
  have h3:256^t.length≤aB (b::t):=by
   rw[kf]
   have:1*256^t.length≤b*256^t.length:=Nat.mul_le_mul_right _ (Nat.one_le_iff_ne_zero.2 hb')
   omega
  have h4:=h
  have h5:2^(8*t.length)<2^L:=by rw[← nL];exact Nat.lt_of_le_of_lt h3 h4
  have h6:=(Nat.pow_lt_pow_iff_right (by decide)).mp h5
  simp only[List.length_cons]
  omega
variable {P:Program}{ε : bu}{m:cJ}
theorem OU(v:AV)(V:Value):R ε m v.nm0 V↔R ε m v V:=by cases v <;> simp only[AV.nm0,R]
theorem qD{f:AV→AV}(hf:∀ (v:AV) (V:Value),R ε m (f v) V↔R ε m v V):∀ (l:List AV) (L:List Value),Rs ε m (l.map f) L↔Rs ε m l L
 | [],L=>Iff.rfl
 | v::l,L=>by
  simp only[List.map_cons,Rs,hf,qD hf l]
theorem AI(v:AV)(V:Value):R ε m v.nm1 V↔R ε m v V:=by
 cases v with
 | agg cs=>simp only[AV.nm1,R,qD OU]
 | _=>simp only[AV.nm1,OU]
theorem QR(v:AV)(V:Value):R ε m v.nm V↔R ε m v V:=by
 cases v with
 | tup vs=>simp only[AV.nm,R,qD AI]
 | _=>simp only[AV.nm,AI]
structure bG (Sk:SK) where
 sv:Nat→AV
 eq:∀ N K,Sk N K=K (sv N)
 nm:∀ N,(sv N).nm0 = .str (ai N)
 pl:∀ N,(sv N).plain0=true
noncomputable def dy:bG dv:=⟨λN=>.str (ai N),ip,λ_=>rfl,λ_=>rfl⟩
noncomputable def nf:bG AE:=⟨.bs,λ_ _=>rfl,λN=>by rw[AV.nm0,gR],λ_=>rfl⟩
theorem bG.nm1{Sk:SK}(S:bG Sk)(N:Nat):(S.sv N).nm1 = .str (ai N):=by
 have h:=S.nm N
 have p:=S.pl N
 cases e:S.sv N <;> rw[e]at h p <;> simp only[AV.plain0,Bool.false_eq_true]at p <;> exact h
theorem bG.nm2{Sk:SK}(S:bG Sk)(N:Nat):(S.sv N).nm = .str (ai N):=by
 have h:=S.nm N
 have p:=S.pl N
 cases e:S.sv N <;> rw[e]at h p <;> simp only[AV.plain0,Bool.false_eq_true]at p <;> exact h
theorem fb{v:AV}(h:v.plain0=true):v.plain1=true:=by cases v <;> simp only[AV.plain0,Bool.false_eq_true]at h <;> rfl
theorem fU{v:AV}(h:v.plain1=true):v.plain=true:=by cases v <;> first | exact h | (simp only[AV.plain1,AV.plain0,Bool.false_eq_true]at h)
theorem vF{v:AV}(h:v.plain0=true):v.nm1=v.nm0:=by cases v <;> simp only[AV.plain0,Bool.false_eq_true]at h <;> rfl
theorem fw{L:Nat}(v:AV):(∀ k,bq (eZ L v k))∨∃ n,v.nm0 = .str (ai n)∧v.plain0=true∧n<2^L∧∀ k,eZ L v k=k n:=by
 cases v with
 | str s =>
  rcases K2 s with hb|⟨h1,h2,h3⟩
  ·exact .inl λ_=>hb _
  ·exact .inr ⟨aB s,by rw[fE h1];rfl,rfl,h2,h3⟩
 | bs n =>
  have e:∀ k,eZ L (.bs n) k=must 72 (Nat.blt n (Nat.pow 2 L)) (k n):=λ_=>rfl
  simp only[e]
  cases hl:Nat.blt n (Nat.pow 2 L) with
  | false=>exact .inl λ_=>⟨72,rfl⟩
  | true=>exact .inr ⟨n,by rw[AV.nm0,gR],rfl,by rw[az]at hl;exact of_decide_eq_true hl,λk=>by rw[aw]⟩
 | _=>exact .inl λ_=>⟨_,rfl⟩
theorem jO{p:ab}{c:Go.Ai.Call→List AV→H→af→aa}{c0:Call}(hC:aC P c0)
  (hw:∀ call args h,(∀ k,bq (c call args h k))∨∃ v h',args.all AV.plain1=true∧v.plain=true∧(∀ k,c call args h k=k v h)∧∀ k,c0 p (args.map AV.nm1) (.mk .leaf .e) k=k v.nm h'):ac P p c:=by
 intro call _ args h
 rcases hw call args h with hb|⟨v,h',ha,hv,e1,e2⟩
 ·exact .inl hb
 ·refine .inr ⟨v,h,e1,?_⟩
  rcases hC p (args.map AV.nm1) (.mk .leaf .e)with hb|⟨v1,h1,e3,ok⟩
  ·obtain⟨i,hb⟩:=hb λv h=>.fin v h
   rw[e2]at hb;cases hb
  ·have e4:=(e2 λv h=>.fin v h).symm.trans (e3 λv h=>.fin v h)
   cases e4
   have hy:∀ o vs,args ≠ .yld o::vs:=λo vs hy=>by subst hy;simp[AV.plain1,AV.plain0]at ha
   have hy2:∀ o,AV.yld o ∉ args:=λo ho=>by
    have:=List.all_eq_true.mp ha _ ho
    simp[AV.plain1,AV.plain0]at this
   refine pQ (h':=h') ha hv hy (fun ε w hh=>⟨λf A hf hp hr=>?_,λo vs A _ he=>absurd he (hy o vs)⟩) h
   obtain⟨nx,w1,k1,k2,_⟩:=(ok ε w hh).1 f A hf hp ((qD AI _ _).2 hr)
   exact⟨nx,w1,k1,k2.mono λV w' ⟨ε',adv,rV⟩=>⟨ε',adv,(QR _ _).1 rV⟩,.inr hy2⟩
theorem bG.p2{Sk:SK}(S:bG Sk)(N:Nat):(S.sv N).plain=true:=fU (fb (S.pl N))
theorem eJ{p:ab}{f:Nat→Nat→Bool}{r:Nat→Nat→(AV→aa)→aa}{R' R:Nat→Nat→AV}{c0:Call}(hC:aC P c0)
  (hr:∀ a b K,r a b K=K (R' a b)) (hn:∀ a b,(R' a b).nm=R a b) (hpl:∀ a b,(R' a b).plain=true)
  (h:∀ s t,ej s→ej t→s.length<1048576→t.length<1048576→f (aB s) (aB t)=true→∃ g,∀ k:af,c0 p [.str s,.str t] (hp []) k=k (R (aB s) (aB t)) g):ac P p (xq f r):=by
 refine jO hC λcall args hh=>?_
 have e:∀ k,xq f r call args hh k=d9 args λx y=>eZ 32768 x λa=>eZ 32768 y λb=>must 73 (f a b) (r a b λv=>k v hh):=λ_=>rfl
 simp only[e]
 rcases gX args with hb|⟨x,y,rfl⟩
 ·exact .inl λ_=>hb _
 have e2:∀ F:AV→AV→aa,d9 [x,y] F=F x y:=λ_=>rfl
 simp only[e2]
 rcases fw (L:=32768) x with hb|⟨a,hx,px,hal,e3⟩
 ·exact .inl λ_=>hb _
 simp only[e3]
 rcases fw (L:=32768) y with hb|⟨b,hy,py,hbl,e4⟩
 ·exact .inl λ_=>hb _
 simp only[e4]
 cases hf:f a b with
 | false=>exact .inl λ_=>⟨73,rfl⟩
 | true =>
  simp only[aw,hr]
  obtain⟨g,hg⟩:=h (ai a) (ai b) (eF a) (eF b) (ri (eF a) (Nat.le_refl _) (by rw[bS];exact hal)) (ri (eF b) (Nat.le_refl _) (by rw[bS];exact hbl)) (by rw[bS,bS];exact hf)
  rw[bS,bS]at hg
  exact .inr ⟨_,g,by simp[fb px,fb py],hpl _ _,λ_=>rfl,λk=>by rw[hn,List.map_cons,List.map_cons,List.map_nil,vF px,vF py,hx,hy];exact hg k⟩
end Go.Ai
namespace Go.Ai
open Go
structure ID (C:Nat→Call) where
 (trim words pack cmpW nof add sub mulW mul shift step div divMod gcd mul64 div64 add64 sub64 lz len:ab)
 e_trim:∀ n args h k,C (n+1) trim args h k=vU (C n) args h k
 e_words:∀ n args h k,C (n+1) words args h k=xj trim (C n) args h k
 e_pack:∀ n args h k,C (n+1) pack args h k=tz trim (C n) args h k
 e_cmpW:∀ n args h k,C (n+1) cmpW args h k=Fm (C n) args h k
 e_nof:∀ n args h k,C (n+1) nof args h k=YI pack (C n) args h k
 e_add:∀ n args h k,C (n+1) add args h k=JK words add64 pack (C n) args h k
 e_sub:∀ n args h k,C (n+1) sub args h k=M4 words sub64 pack (C n) args h k
 e_mulW:∀ n args h k,C (n+1) mulW args h k=DU mul64 add64 trim (C n) args h k
 e_mul:∀ n args h k,C (n+1) mul args h k=NG words mulW pack (C n) args h k
 e_shift:∀ n args h k,C (n+1) shift args h k=yl (C n) args h k
 e_step:∀ n args h k,C (n+1) step args h k=ES add64 div64 mul64 sub64 (C n) args h k
 e_div:∀ n args h k,C (n+1) div args h k=GL cmpW div64 trim lz shift step (C n) args h k
 e_divMod:∀ n args h k,C (n+1) divMod args h k=sx words div pack (C n) args h k
 e_gcd:∀ n args h k,C (n+1) gcd args h k=NX words div pack (C n) args h k
 e_mul64:∀ n args h k,C (n+1) mul64 args h k=xu (C n) args h k
 e_div64:∀ n args h k,C (n+1) div64 args h k=wL lz (C n) args h k
 e_lz:∀ n args h k,C (n+1) lz args h k=E9 len (C n) args h k
 e_len:∀ n args h k,C (n+1) len args h k=iK (C n) args h k
 e_add64:∀ n args h k,C (n+1) add64 args h k=yr (C n) args h k
 e_sub64:∀ n args h k,C (n+1) sub64 args h k=xh (C n) args h k
structure OX (C:Nat→Call) where
 (trim limbs pack below divMod gcd mul:ab)
 e_trim:∀ n args h k,C (n+1) trim args h k=vr (C n) args h k
 e_limbs:∀ n args h k,C (n+1) limbs args h k=qP trim (C n) args h k
 e_pack:∀ n args h k,C (n+1) pack args h k=wE (C n) args h k
 e_below:∀ n args h k,C (n+1) below args h k=xV trim (C n) args h k
 e_divMod:∀ n args h k,C (n+1) divMod args h k=sn limbs below pack (C n) args h k
 e_gcd:∀ n args h k,C (n+1) gcd args h k=MU divMod (C n) args h k
 e_mul:∀ n args h k,C (n+1) mul args h k=NP limbs pack (C n) args h k
variable [Nu]
theorem Hf{call:Call}{p:ab}(hT:mw call p)(h:H)(k:af):tz p call [.nils] h k=k (.str []) h:=by
 have e:∀ (h:H) (k:af),bN .nils h k=k (.int .i64 (.ofNat 0)) h:=λ_ _=>rfl
 rw[tz,tc,jA,sB,av,aG,ul,lS,av,aG,eo,bJ,hT.1,PB,av,av,aG,eo,e,eN,kb rfl,zB,cm,ed,bY,av,aG,lS,lv,qS,gW]
section
variable {C:Nat→Call}(B:ID C)
include B
theorem tK(n:Nat):mw (C (n+1)) B.trim :=
 ⟨λh k=>by rw[B.e_trim,G8],λl j es c cs ws k h1 h2 h3 h4=>by rw[B.e_trim];exact GD h1 h2 h3 h4 _ k⟩
theorem oj(n:Nat):k9 (C (n+2)) B.words:=λl s k h1 h2=>by rw[B.e_words];exact C3 h1 h2 (tK B n) k
theorem p6(n:Nat):kY (C (n+2)) B.pack :=
 ⟨λl k=>by rw[B.e_pack];exact Hf (tK B n) _ _,λl j es c cs ws h1 h2 h3 h4 h5=>by
  obtain⟨g,hg⟩:=Hq h1 h2 h3 h4 h5 (tK B n)
  exact⟨g,λk=>by rw[B.e_pack];exact hg k⟩⟩
theorem Qk(n:Nat):I6 (C (n+1)) B.cmpW:=λL jx jy m n' cx cy mx my X Y k h1 h2 h3 h4 h5 h6 h7 h8 h9 h10=>by rw[B.e_cmpW];exact FH _ L jx jy m n' cx cy mx my X Y k h1 h2 h3 h4 h5 h6 h7 h8 h9 h10
theorem DW(n:Nat):kD (C (n+1)) B.mul64:=λx y h k h1 h2=>by rw[B.e_mul64];exact CR x y h1 h2 _ h k
theorem yW(n:Nat):fk (C (n+1)) B.add64:=λx y c h k hc=>by
 rw[B.e_add64]
 show must 12 (Nat.ble c 1) (forceN (x+y+c) λs=>forceN (s%18446744073709551616) λl=>forceN (s/18446744073709551616) λu=>k (.tup [.int .u64 (.ofNat l),.int .u64 (.ofNat u)]) h)=_
 rw[Nat.ble_eq.mpr hc,aw,ao,ao,ao]
theorem EZ(n:Nat):mD (C (n+1)) B.sub64:=λx y c h k hc=>by
 rw[B.e_sub64]
 show must 12 (Nat.ble c 1) (forceN ((x+18446744073709551616-y-c)%18446744073709551616) λl=>k (.tup [.int .u64 (.ofNat l),.int .u64 (Bool.casesOn (motive:=λ_=>Int) (Nat.blt x (y+c)) (.ofNat 0) (.ofNat 1))]) h)=_
 rw[Nat.ble_eq.mpr hc,aw,ao,az]
 by_cases h1:x<y+c
 ·rw[decide_eq_true h1,if_pos h1]
 ·rw[decide_eq_false h1,if_neg h1]
theorem RG(n:Nat):Ie (C (n+2)) B.mulW:=λL ja jb m n' ca cb ma mb A C' k h1 h2 h3 h4 h5 h6 h7=>by rw[B.e_mulW];exact Fy (DW B n) (yW B n) (tK B n) L ja jb m n' ca cb ma mb A C' k h1 h2 h3 h4 h5 h6 h7
theorem XZ(n:Nat):D5 (C (n+1)) B.len:=λx hx=>by
 obtain⟨m,h1,h2,h3,h4⟩:=Db hx
 exact⟨m,h1,h2,h3,λh k=>by rw[B.e_len];exact h4 _ h k⟩
theorem SE(n:Nat):yh (C (n+2)) B.lz:=λx hx h0=>by
 obtain⟨s,h1,h2,h3,h4⟩:=F1 (XZ B n) hx h0
 exact⟨s,h1,h2,h3,λh k=>by rw[B.e_lz];exact h4 h k⟩
theorem EM(n:Nat):oK (C (n+3)) B.div64:=λhi lo y h k h1 h2 h3=>by rw[B.e_div64];exact CZ (SE B n) hi lo y h k h1 h2 h3
theorem Mh(n:Nat):w9 (C (n+1)) B.shift:=λL j m c mx X s k h1 h2 h3 h4 h5=>by rw[B.e_shift];exact DA _ L j m c mx X s k h1 h2 h3 h4 h5
theorem RY(n:Nat):yv (C (n+4)) B.step:=λL jw jv j n' c cv M mv T V k h1 h2 h3 h4 h5 h6 h7 h8 h9=>by rw[B.e_step];exact Hj (DW B (n+2)) (yW B (n+2)) (EZ B (n+2)) (EM B n) L jw jv j n' c cv M mv T V k h1 h2 h3 h4 h5 h6 h7 h8 h9
theorem Pw(n:Nat):Ko (C (n+5)) B.div:=λL a b m n' X Y h1 h2 h3 h4 h5=>by
 obtain⟨g,q,r,mq,mr,e,hq,hr⟩:=H3 (Qk B (n+3)) (EM B (n+1)) (tK B (n+3)) (SE B (n+2)) (Mh B (n+3)) (RY B n) h1 h2 h3 h4 h5
 exact⟨g,q,r,mq,mr,λk=>by rw[B.e_div];exact e k,hq,hr⟩
variable {P:Program}
theorem Qq{Sk:SK}(S:bG Sk)(hC:aC P (C 3)):ac P B.add (Cc Sk) :=
 eJ hC (R':=λa b=>S.sv (a+b)) (R:=λa b=>.str (ai (a+b))) (λa b K=>by rw[ao,S.eq];rfl) (λ_ _=>S.nm2 _) (λ_ _=>S.p2 _) λs t hs ht hsl htl _=>by
  obtain⟨g,hg⟩:=Kj hs.1 ht.1 (by omega) (by omega) [] (oj B 0) (yW B 1) (p6 B 0)
  exact⟨_,λk=>by rw[B.e_add];exact hg k⟩
theorem Rf{Sk:SK}(S:bG Sk)(hC:aC P (C 3)):ac P B.sub (Cj Sk) :=
 eJ hC (R':=λa b=>S.sv (a-b)) (R:=λa b=>.str (ai (a-b))) (λa b K=>by rw[ao,S.eq];rfl) (λ_ _=>S.nm2 _) (λ_ _=>S.p2 _) λs t hs ht hsl htl hf=>by
  obtain⟨g,hg⟩:=Kg hs.1 ht.1 (by omega) (by omega) (Nat.le_of_ble_eq_true hf) [] (oj B 0) (EZ B 1) (p6 B 0)
  exact⟨_,λk=>by rw[B.e_sub];exact hg k⟩
theorem QK{Sk:SK}(S:bG Sk)(hC:aC P (C 3)):ac P B.mul (oA Sk) :=
 eJ hC (R':=λa b=>S.sv (a*b)) (R:=λa b=>.str (ai (a*b))) (λa b K=>by rw[ao,S.eq];rfl) (λ_ _=>S.nm2 _) (λ_ _=>S.p2 _) λs t hs ht hsl htl _=>by
  obtain⟨g,hg⟩:=IW hs.1 ht.1 (by omega) (by omega) [] (oj B 0) (RG B 0) (p6 B 0)
  exact⟨_,λk=>by rw[B.e_mul];exact hg k⟩
theorem FV{Sk:SK}(S:bG Sk)(hC:aC P (C 6)):ac P B.divMod (fu Sk) :=
 eJ hC (R':=λa b=>.tup [S.sv (a/b),S.sv (a%b)]) (R:=λa b=>.tup [.str (ai (a/b)),.str (ai (a%b))]) (λa b K=>by rw[ao,S.eq,ao,S.eq];rfl) (λ_ _=>by simp[AV.nm,S.nm1]) (λ_ _=>by simp[AV.plain,fb (S.pl _)]) λs t hs ht hsl htl hf=>by
  obtain⟨g,hg⟩:=Am (oj B 3) (Pw B 0) (p6 B 3) [] hs.1 ht.1 (by omega) (by omega) (by rw[az]at hf;exact of_decide_eq_true hf)
  exact⟨_,λk=>by rw[B.e_divMod];exact hg k⟩
theorem PM{Sk:SK}(S:bG Sk)(hC:aC P (C 6)):ac P B.gcd (rT Sk) :=
 eJ hC (R':=λa b=>S.sv (Nat.gcd a b)) (R:=λa b=>.str (ai (Nat.gcd a b))) (λa b K=>by rw[ao,S.eq]) (λ_ _=>S.nm2 _) (λ_ _=>S.p2 _) λs t hs ht hsl htl _=>by
  obtain⟨g,hg⟩:=IA (oj B 3) (Pw B 0) (p6 B 3) [] hs.1 ht.1 (by omega) (by omega)
  exact⟨_,λk=>by rw[B.e_gcd];exact hg k⟩
end
section
variable {C:Nat→Call}(B:OX C)
include B
theorem E2(n:Nat):sH (C (n+1)) B.trim :=
 ⟨λh k=>by rw[B.e_trim,G9],λl j es i d cs ws k h1 h2 h3 h4=>by rw[B.e_trim];exact G2 h1 h2 h3 h4 _ k⟩
theorem Aj(n:Nat):uh (C (n+2)) B.limbs:=λL s hs hl=>by
 obtain⟨g,v,e,h⟩:=C7 (E2 B n) L hs hl
 exact⟨g,v,λk=>by rw[B.e_limbs];exact e k,h⟩
theorem EE(n:Nat):wJ (C (n+1)) B.pack :=
 ⟨λh k=>by rw[B.e_pack,GT],λL j es i0 cap cs ws h1 h2 h3 h4=>by
  obtain⟨g,hg⟩:=Gn h1 h2 h3 h4 (C n)
  exact⟨g,λk=>by rw[B.e_pack];exact hg k⟩⟩
theorem H9(n:Nat):oD (C (n+2)) B.below:=λL jx jy i0 n' d my e1 e2 X Y cs cs2 cy k h1 h2 h3 h4 h5 h6 h7 h8 h9 h10=>by
 rw[B.e_below];exact Cg (E2 B n) L jx jy i0 n' d my e1 e2 X Y cs cs2 cy k h1 h2 h3 h4 h5 h6 h7 h8 h9 h10
theorem wh(n:Nat):wA (C (n+3)) B.divMod:=λL s t hs ht hsl htl h0=>by
 obtain⟨g,hg⟩:=A8 (Aj B n) (H9 B n) (EE B (n+1)) L hs ht hsl htl h0
 exact⟨g,λk=>by rw[B.e_divMod];exact hg k⟩
variable {P:Program}
theorem B9{Sk:SK}(S:bG Sk)(hC:aC P (C 3)):ac P B.divMod (fu Sk) :=
 eJ hC (R':=λa b=>.tup [S.sv (a/b),S.sv (a%b)]) (R:=λa b=>.tup [.str (ai (a/b)),.str (ai (a%b))]) (λa b K=>by rw[ao,S.eq,ao,S.eq];rfl) (λ_ _=>by simp[AV.nm,S.nm1]) (λ_ _=>by simp[AV.plain,fb (S.pl _)]) λs t hs ht hsl htl hf=>by
  obtain⟨g,hg⟩:=wh B 0 [] s t hs ht hsl htl (λe=>by rw[e]at hf;cases hf)
  exact⟨_,hg⟩
theorem Nf{Sk:SK}(S:bG Sk)(hC:aC P (C 4)):ac P B.gcd (rT Sk) :=
 eJ hC (R':=λa b=>S.sv (Nat.gcd a b)) (R:=λa b=>.str (ai (Nat.gcd a b))) (λa b K=>by rw[ao,S.eq]) (λ_ _=>S.nm2 _) (λ_ _=>S.p2 _) λs t hs ht hsl htl _=>by
  obtain⟨g,hg⟩:=Kt (wh B 0) [] hs ht hsl htl
  exact⟨_,λk=>by rw[B.e_gcd];exact hg k⟩
theorem N6{Sk:SK}(S:bG Sk)(hC:aC P (C 3)):ac P B.mul (oA Sk) :=
 eJ hC (R':=λa b=>S.sv (a*b)) (R:=λa b=>.str (ai (a*b))) (λa b K=>by rw[ao,S.eq];rfl) (λ_ _=>S.nm2 _) (λ_ _=>S.p2 _) λs t hs ht hsl htl _=>by
  obtain⟨g,hg⟩:=H6 (Aj B 0) (EE B 1) [] hs ht hsl htl
  exact⟨_,λk=>by rw[B.e_mul];exact hg k⟩
end
end Go.Ai
namespace Go.Ai
open Go
theorem vM{s t:List Nat}(hs:∀ b ∈ s,b<256)(ht:ej t)(h:s.length<t.length):aB s<aB t:=by
 cases t with
 | nil=>cases h
 | cons b t =>
  have hb:b≠0:=by simpa using ht.2
  have h1:=d7 s hs
  have h2:256^s.length≤256^t.length:=Nat.pow_le_pow_right (by decide) (by simp at h;omega)
  have h3:1*256^t.length≤b*256^t.length:=Nat.mul_le_mul_right _ (Nat.one_le_iff_ne_zero.2 hb)
  rw[kf]
  omega
variable [Nu]
theorem eX:∀ (s t:List Nat),(∀ b ∈ s,b<256)→(∀ b ∈ t,b<256)→∀ F:Bool→aa,seqC s t F=F (decide (s=t))
 | [],[],_,_,F=>rfl
 | [],_::_,_,_,F=>rfl
 | _::_,[],_,_,F=>rfl
 | a::s,b::t,hs,ht,F=>by
  have ha:a<256:=hs a List.mem_cons_self
  have hb:b<256:=ht b List.mem_cons_self
  have ih:=eX s t (λx hx=>hs x (List.mem_cons_of_mem _ hx)) (λx hx=>ht x (List.mem_cons_of_mem _ hx)) F
  show Bool.rec (motive:=λ_=>aa) (Bool.rec (motive:=λ_=>aa) (tW a b s t F) (Bool.rec (motive:=λ_=>aa) (tW a b s t F) (F false) (Nat.blt b 256)) (Nat.blt a 256)) (seqC s t F) (Nat.beq a b)=_
  by_cases e:a=b
  ·subst e
   rw[Nat.beq_refl]
   show seqC s t F=_
   rw[ih]
   simp
  ·rw[xl e,az,az,decide_eq_true ha,decide_eq_true hb]
   show F false=_
   rw[decide_eq_false (λh=>e (List.cons.inj h).1)]
theorem yO{neg:Bool}{s t:List Nat}{h:H}{k:af}(hs:∀ b ∈ s,b<256)(ht:∀ b ∈ t,b<256):ls neg (.str s) (.str t) h k=k (.bool (xor neg (decide (s=t)))) h:=by
 show seqC s t (λb=>cO (cd neg b) λv=>k v h)=_
 rw[eX s t hs ht]
 cases neg <;> cases decide (s=t) <;> rfl
theorem AW:∀ (s t:List Nat),s.length=t.length→(∀ b ∈ s,b<256)→(∀ b ∈ t,b<256)→∀ F:Bool→aa,sltC s t F=F (decide (aB s<aB t))
 | [],[],_,_,_,F=>rfl
 | [],_::_,h,_,_,F=>by cases h
 | _::_,[],h,_,_,F=>by cases h
 | a::s,b::t,hl,hs,ht,F=>by
  have ha:a<256:=hs a List.mem_cons_self
  have hb:b<256:=ht b List.mem_cons_self
  have hl':s.length=t.length:=by simpa using hl
  have hs':∀ x ∈ s,x<256:=λx hx=>hs x (List.mem_cons_of_mem _ hx)
  have ht':∀ x ∈ t,x<256:=λx hx=>ht x (List.mem_cons_of_mem _ hx)
  have ih:=AW s t hl' hs' ht' F
  have h1:=d7 s hs'
  have h2:=d7 t ht'
  show Bool.rec (motive:=λ_=>aa) (Bool.rec (motive:=λ_=>aa) (.bad 4) (Bool.rec (motive:=λ_=>aa) (.bad 4) (F (Nat.blt a b)) (Nat.blt b 256)) (Nat.blt a 256)) (sltC s t F) (Nat.beq a b)=_
  rw[kf,kf,← hl']
  rw[← hl']at h2
  by_cases e:a=b
  ·subst e
   rw[Nat.beq_refl]
   show sltC s t F=_
   rw[ih]
   congr 1
   simp
  ·rw[xl e,show Nat.blt a 256=true by rw[az,decide_eq_true ha],show Nat.blt b 256=true by rw[az,decide_eq_true hb]]
   show F (Nat.blt a b)=_
   rw[az]
   congr 1
   by_cases hab:a<b
   ·have:(a+1)*256^s.length≤b*256^s.length:=Nat.mul_le_mul_right _ hab
    rw[Nat.add_mul,Nat.one_mul]at this
    rw[decide_eq_true hab,decide_eq_true (by omega)]
   ·have:(b+1)*256^s.length≤a*256^s.length:=Nat.mul_le_mul_right _ (by omega)
    rw[Nat.add_mul,Nat.one_mul]at this
    rw[decide_eq_false hab,decide_eq_false (by omega)]
theorem MZ{s t:List Nat}{h:H}{k:af}(hl:s.length=t.length)(hs:∀ b ∈ s,b<256)(ht:∀ b ∈ t,b<256):Sg (.str s) (.str t) h k=k (.bool (decide (aB s<aB t))) h:=by
 show sltC s t (λb=>cO b λv=>k v h)=_
 rw[AW s t hl hs ht]
 cases decide (aB s<aB t) <;> rfl
theorem JH(call:Call){s t:List Nat}(hs:ej s)(ht:ej t)(h:H)(k:af):MS call [.str s,.str t] h k=k (nH (aB s) (aB t)) h:=by
 simp only[MS,H2,eB]
 rw[pj,pj]
 have hne:aB s≠aB t→s≠t:=λh e=>h (by rw[e])
 by_cases h1:s.length<t.length
 ·have hlt:=vM hs.1 ht h1
  rw[dz h1]
  simp only[eB,Pk]
  rw[nH,if_pos hlt]
 ·rw[dC (Nat.le_of_not_lt h1)]
  simp only[eB]
  rw[pj,pj]
  by_cases h2:s.length=t.length
  ·rw[kb h2]
   simp only[eB]
   rw[MZ h2 hs.1 ht.1]
   by_cases hlt:aB s<aB t
   ·rw[decide_eq_true hlt,nH,if_pos hlt]
    simp only[eB]
   ·rw[decide_eq_false hlt,nH,if_neg hlt]
    simp only[eB]
    rw[yO hs.1 ht.1]
    by_cases he:s=t
    ·rw[decide_eq_true he,show (xor false true)=true from rfl,if_neg (by rw[he];omega)]
     simp only[eB]
    ·rw[decide_eq_false he,show (xor false false)=false from rfl,if_pos (by have:aB s≠aB t:=λh=>he (G6 hs ht h);omega)]
     simp only[eB]
  ·have hgt:=vM ht.1 hs (by omega)
   rw[lR h2]
   simp only[eB]
   rw[yO hs.1 ht.1,decide_eq_false (λe=>h2 (by rw[e])),show (xor false false)=false from rfl,nH,if_neg (by omega),if_pos hgt]
   simp only[eB]
end Go.Ai
namespace Go.Ai
open Go
def Sz(i a:Nat):Prop:=a<2^(4096*i)
theorem Sz.mul{i j a b:Nat}(ha:Sz i a)(hb:Sz j b):Sz (i+j) (a*b):=by
 unfold Sz at *
 rw[Nat.mul_add,Nat.pow_add]
 exact Nat.mul_lt_mul'' ha hb
theorem Sz.le{i a b:Nat}(h:Sz i b)(hab:a≤b):Sz i a:=Nat.lt_of_le_of_lt hab h
theorem Sz.mono{i j a:Nat}(h:Sz i a)(hij:i≤j):Sz j a:=Nat.lt_of_lt_of_le h (Nat.pow_le_pow_right (by decide) (Nat.mul_le_mul_left _ hij))
theorem Sz.add{i a b:Nat}(ha:Sz i a)(hb:Sz i b):Sz (i+1) (a+b):=by
 unfold Sz at *
 have h1:2^(4096*i)*2≤2^(4096*(i+1)):=by
  rw[← Nat.pow_succ];exact Nat.pow_le_pow_right (by decide) (by omega)
 omega
noncomputable def iv(b:Bool)(n:Nat):AV:=.agg [.bool b,.str (ai n)]
noncomputable def qv(b:Bool)(n d:Nat):AV:=.agg [.bool b,.str (ai n),.str (ai d)]
theorem jR:∀ s:List Nat,Dc s s=true
 | []=>rfl
 | a::s=>by
  show Bool.rec (motive:=λ_=>Bool) false (Dc s s) (Nat.beq a a)=true
  rw[Nat.beq_refl];exact jR s
theorem cg(s:List Nat):(AV.str s).alike (.str s)=true:=jR s
theorem Hz(b:Bool)(n:Nat):(iv b n).alike (iv b n)=true:=by
 have h:=jR (ai n)
 cases b <;> (
  show Bool.rec (motive:=λ_=>Bool) false (Bool.rec (motive:=λ_=>Bool) false true (Dc (ai n) (ai n))) true=true
  rw[h])
theorem VT(b:Bool)(n d:Nat):(qv b n d).alike (qv b n d)=true:=by
 have h:=jR (ai n)
 have h':=jR (ai d)
 cases b <;> (
  show Bool.rec (motive:=λ_=>Bool) false (Bool.rec (motive:=λ_=>Bool) false (Bool.rec (motive:=λ_=>Bool) false true (Dc (ai d) (ai d))) (Dc (ai n) (ai n))) true=true
  rw[h,h'])
structure YE (call:Call) (pAdd pSub pMul pDM pGcd pCmp pIM:ab):Prop where
 add:∀ {a b:Nat},Sz 8 a→Sz 8 b→∀ h k,call pAdd [.str (ai a),.str (ai b)] h k=k (.str (ai (a+b))) h
 sub:∀ {a b:Nat},Sz 8 a→Sz 8 b→b≤a→∀ h k,call pSub [.str (ai a),.str (ai b)] h k=k (.str (ai (a-b))) h
 mul:∀ {a b:Nat},Sz 8 a→Sz 8 b→∀ h k,call pMul [.str (ai a),.str (ai b)] h k=k (.str (ai (a*b))) h
 dm:∀ {a b:Nat},Sz 8 a→Sz 8 b→0<b→∀ h k,call pDM [.str (ai a),.str (ai b)] h k=k (.tup [.str (ai (a/b)),.str (ai (a%b))]) h
 gcd:∀ {a b:Nat},Sz 8 a→Sz 8 b→∀ h k,call pGcd [.str (ai a),.str (ai b)] h k=k (.str (ai (Nat.gcd a b))) h
 cmp:∀ {a b:Nat},Sz 8 a→Sz 8 b→∀ h k,call pCmp [.str (ai a),.str (ai b)] h k=k (nH a b) h
 im:∀ (b:Bool) (n:Nat) h k,call pIM [.bool b,.str (ai n)] h k=k (iv (b&&decide (n≠0)) n) h
section
variable {call:Call}{pAdd pSub pMul pDM pGcd pCmp pIM:ab}(S:YE call pAdd pSub pMul pDM pGcd pCmp pIM)
include S
theorem Gg{a b:Nat}(ha:Sz 8 a)(hb:Sz 8 b)(na nb:Bool):
  ∃ h',∀ k,K0 pMul pIM call [iv na a,iv nb b] (.mk .leaf .e) k=k (iv (xor na nb&&decide (a*b≠0)) (a*b)) h':=by
 cases na <;> cases nb <;> (
  apply Exists.intro
  intro k
  change call pMul [.str (ai a),.str (ai b)] _ _=_
  rw[S.mul ha hb]
  change call pIM [.bool _,.str (ai (a*b))] _ _=_
  rw[S.im]
  exact rfl)
theorem DP{a b:Nat}(ha:Sz 8 a)(hb:Sz 8 b)(n:Bool):
  ∃ h',∀ k,zG pAdd pIM pCmp pSub call [iv n a,iv n b] (.mk .leaf .e) k=k (iv (n&&decide (a+b≠0)) (a+b)) h':=by
 cases n <;> (
  apply Exists.intro
  intro k
  change call pAdd [.str (ai a),.str (ai b)] _ _=_
  rw[S.add ha hb]
  change call pIM [.bool _,.str (ai (a+b))] _ _=_
  rw[S.im]
  exact rfl)
theorem CX{a b:Nat}(ha:Sz 8 a)(hb:Sz 8 b)(n:Bool)(h:a<b):
  ∃ h',∀ k,zG pAdd pIM pCmp pSub call [iv n a,iv (!n) b] (.mk .leaf .e) k=k (iv (!n&&decide (b-a≠0)) (b-a)) h':=by
 have hs:nH a b = .int .i64 (.negSucc 0):=if_pos h
 cases n <;> (
  apply Exists.intro
  intro k
  change call pCmp [.str (ai a),.str (ai b)] _ _=_
  rw[S.cmp ha hb,hs]
  change call pSub [.str (ai b),.str (ai a)] _ _=_
  rw[S.sub hb ha (Nat.le_of_lt h)]
  change call pIM [.bool _,.str (ai (b-a))] _ _=_
  rw[S.im]
  exact rfl)
theorem CM{a b:Nat}(ha:Sz 8 a)(hb:Sz 8 b)(n:Bool)(h:b≤a):
  ∃ h',∀ k,zG pAdd pIM pCmp pSub call [iv n a,iv (!n) b] (.mk .leaf .e) k=k (iv (n&&decide (a-b≠0)) (a-b)) h':=by
 have hs:∃ x,nH a b = .int .i64 (.ofNat x):=by
  by_cases h2:b<a
  ·exact⟨1,by rw[nH,if_neg (Nat.not_lt.2 h),if_pos h2]⟩
  ·exact⟨0,by rw[nH,if_neg (Nat.not_lt.2 h),if_neg h2]⟩
 obtain⟨x,hs⟩:=hs
 cases n <;> (
  apply Exists.intro
  intro k
  change call pCmp [.str (ai a),.str (ai b)] _ _=_
  rw[S.cmp ha hb,hs]
  change call pSub [.str (ai a),.str (ai b)] _ _=_
  rw[S.sub ha hb h]
  change call pIM [.bool _,.str (ai (a-b))] _ _=_
  rw[S.im]
  exact rfl)
omit S in
theorem mI(a b:Nat):∃ z,nH a b = .int .i64 z:=by
 unfold nH
 by_cases h1:a<b
 ·exact⟨_,if_pos h1⟩
 ·rw[if_neg h1]
  by_cases h2:b<a
  ·exact⟨_,if_pos h2⟩
  ·exact⟨_,if_neg h2⟩
theorem F6{a b:Nat}(ha:Sz 8 a)(hb:Sz 8 b)(na nb:Bool):
  ∃ h',∀ k,Jy pCmp call [iv na a,iv nb b] (.mk .leaf .e) k=k (if na=nb then (if na then nH b a else nH a b) else .int .i64 (if na then .negSucc 0 else .ofNat 1)) h':=by
 obtain⟨z,hz⟩:=mI a b
 obtain⟨z',hz'⟩:=mI b a
 cases na <;> cases nb
 ·apply Exists.intro
  intro k
  change call pCmp [.str (ai a),.str (ai b)] _ _=_
  rw[S.cmp ha hb,hz]
  exact rfl
 ·exact⟨_,λk=>rfl⟩
 ·exact⟨_,λk=>rfl⟩
 ·apply Exists.intro
  intro k
  change call pCmp [.str (ai b),.str (ai a)] _ _=_
  rw[S.cmp hb ha,hz']
  exact rfl
variable [Nu]
theorem GU{a d:Nat}(ha:Sz 8 a)(hd:Sz 8 d)(hg:Nat.gcd a d=1)(na nb:Bool):
  ∃ h',∀ k,Fc pGcd pDM pIM call [iv na a,iv nb d] (.mk .leaf .e) k=k (qv (xor na nb&&decide (a≠0)) a d) h':=by
 have h1:ai 1=[1]:=by decide
 cases na <;> cases nb <;> (
  apply Exists.intro
  intro k
  change call pGcd [.str (ai a),.str (ai d)] _ _=_
  rw[S.gcd ha hd,hg,h1]
  change call pIM [.bool _,.str (ai a)] _ _=_
  rw[S.im]
  change must 12 (AV.alike (.str (ai d)) (.str (ai d))) _=_
  rw[cg,aw]
  exact rfl)
theorem BQ{a d:Nat}(ha:Sz 8 a)(hd:Sz 8 d)(h0:0<d)(hg:Nat.gcd a d≠1)(na nb:Bool):
  ∃ h',∀ k,Fc pGcd pDM pIM call [iv na a,iv nb d] (.mk .leaf .e) k=k (qv (xor na nb&&decide (a/Nat.gcd a d≠0)) (a/Nat.gcd a d) (d/Nat.gcd a d)) h':=by
 have hne:ai (Nat.gcd a d)≠[1]:=λe=>hg (by rw[← bS (Nat.gcd a d),e];rfl)
 have hgp:0<Nat.gcd a d:=Nat.gcd_pos_of_pos_right _ h0
 have hgs:Sz 8 (Nat.gcd a d):=hd.le (Nat.le_of_dvd h0 (Nat.gcd_dvd_right a d))
 cases na <;> cases nb <;> (
  apply Exists.intro
  intro k
  change call pGcd [.str (ai a),.str (ai d)] _ _=_
  rw[S.gcd ha hd]
  rw[jk,av,av,aG,li,yO (cj _) (by decide),decide_eq_false hne]
  change call pDM [.str (ai a),.str (ai (Nat.gcd a d))] _ _=_
  rw[S.dm ha hgs hgp]
  change call pDM [.str (ai d),.str (ai (Nat.gcd a d))] _ _=_
  rw[S.dm hd hgs hgp]
  change call pIM [.bool _,.str (ai (a/Nat.gcd a d))] _ _=_
  rw[S.im]
  change must 12 (AV.alike (.str (ai (d/Nat.gcd a d))) (.str (ai (d/Nat.gcd a d)))) _=_
  rw[cg,aw]
  exact rfl)
theorem xU{pOf:ab}(hOf:∀ h k,call pOf [.int .u64 (.ofNat 1)] h k=k (.str (ai 1)) h){a b:Nat}(ha:Sz 7 a)(hb:Sz 7 b)(h0:0<b)(na nb:Bool):
  ∃ h',∀ k,ta pDM pOf pAdd pSub pIM call [iv na a,iv nb b] (.mk .leaf .e) k =
   k (if na&&decide (a%b≠0) then .tup [iv (xor na nb&&decide (a/b+1≠0)) (a/b+1),iv false (b-a%b)] else .tup [iv (xor na nb&&decide (a/b≠0)) (a/b),iv false (a%b)]) h':=by
 have hd:Sz 7 (a/b):=ha.le (Nat.div_le_self _ _)
 have hr:Sz 7 (a%b):=ha.le (Nat.mod_le _ _)
 have h1:Sz 7 1:=hb.le h0
 cases na
 ·cases nb <;> (
   apply Exists.intro
   intro k
   change call pDM [.str (ai a),.str (ai b)] _ _=_
   rw[S.dm (ha.mono (by decide)) (hb.mono (by decide)) h0]
   change call pIM [.bool _,.str (ai (a/b))] _ _=_
   rw[S.im]
   exact rfl)
 ·by_cases hz:a%b=0
  ·cases nb <;> (
    apply Exists.intro
    intro k
    change call pDM [.str (ai a),.str (ai b)] _ _=_
    rw[S.dm (ha.mono (by decide)) (hb.mono (by decide)) h0,hz,rD]
    change call pIM [.bool _,.str (ai (a/b))] _ _=_
    rw[S.im]
    exact rfl)
  ·have hne:ai (a%b)≠[]:=λe=>hz (kv e)
   rw[decide_eq_true hz]
   cases nb <;> (
    apply Exists.intro
    intro k
    change call pDM [.str (ai a),.str (ai b)] _ _=_
    rw[S.dm (ha.mono (by decide)) (hb.mono (by decide)) h0]
    change seqC (ai (a%b)) [] _=_
    rw[eX _ _ (cj _) (by decide),decide_eq_false hne]
    change call pOf [.int .u64 (.ofNat 1)] _ _=_
    rw[hOf]
    change call pAdd [.str (ai (a/b)),.str (ai 1)] _ _=_
    rw[S.add (hd.mono (by decide)) (h1.mono (by decide))]
    change must 12 (AV.alike (.str (ai b)) (.str (ai b))) _=_
    rw[cg,aw]
    change must 12 (AV.alike (.str (ai b)) (.str (ai b))) _=_
    rw[cg,aw]
    change call pSub [.str (ai b),.str (ai (a%b))] _ _=_
    rw[S.sub (hb.mono (by decide)) (hr.mono (by decide)) (Nat.le_of_lt (Nat.mod_lt _ h0))]
    change call pIM [.bool _,.str (ai (a/b+1))] _ _=_
    rw[S.im]
    exact rfl)
end
end Go.Ai
namespace Go.Ai
open Go
def fK(na:Bool)(a:Nat)(nb:Bool)(b:Nat):Bool × Nat :=
 if na=nb then (na&&decide (a+b≠0),a+b) else if a<b then (nb&&decide (b-a≠0),b-a) else (na&&decide (a-b≠0),a-b)
noncomputable def mkq(s:Bool)(n d:Nat):AV:=qv (s&&decide (n/Nat.gcd n d≠0)) (n/Nat.gcd n d) (d/Nat.gcd n d)
def icmp(na:Bool)(a:Nat)(nb:Bool)(b:Nat):AV:=if na=nb then (if na then nH b a else nH a b) else .int .i64 (if na then .negSucc 0 else .ofNat 1)
noncomputable def radd(na:Bool)(a p:Nat)(nb:Bool)(b q:Nat):AV :=
 if p=q then (if p=1 then qv (fK na a nb b).1 (fK na a nb b).2 1 else mkq (fK na a nb b).1 (fK na a nb b).2 p)
 else mkq (fK (na&&decide (a*q≠0)) (a*q) (nb&&decide (b*p≠0)) (b*p)).1 (fK (na&&decide (a*q≠0)) (a*q) (nb&&decide (b*p≠0)) (b*p)).2 (p*q)
noncomputable def rmul(na:Bool)(a p:Nat)(nb:Bool)(b q:Nat):AV :=
 if p=1∧q=1 then qv (xor na nb&&decide (a*b≠0)) (a*b) 1 else mkq (xor na nb&&decide (a*b≠0)) (a*b) (p*q)
def AY(na:Bool)(a p:Nat)(nb:Bool)(b q:Nat):AV :=
 if p=q then icmp na a nb b else icmp (na&&decide (a*q≠0)) (a*q) (nb&&decide (b*p≠0)) (b*p)
theorem Ed{i a b:Nat}(ha:Sz i a)(hb:Sz i b)(na nb:Bool):Sz (i+1) (fK na a nb b).2:=by
 unfold fK
 split
 ·exact ha.add hb
 split
 ·exact (hb.le (Nat.sub_le _ _)).mono (Nat.le_succ _)
 ·exact (ha.le (Nat.sub_le _ _)).mono (Nat.le_succ _)
theorem Iv{a b:Nat}:ai a=ai b↔a=b:=⟨λh=>by rw[← bS a,h,bS],λh=>by rw[h]⟩
theorem wX{a:Nat}:ai a=[1]↔a=1:=by
 have h1:ai 1=[1]:=by decide
 rw[← h1];exact Iv
structure YP (call:Call) (pMul pIM pIAdd pIMul pICmp pMake pWhole:ab):Prop where
 mul:∀ {a b:Nat},Sz 8 a→Sz 8 b→∀ h k,call pMul [.str (ai a),.str (ai b)] h k=k (.str (ai (a*b))) h
 im:∀ (b:Bool) (n:Nat) h k,call pIM [.bool b,.str (ai n)] h k=k (iv (b&&decide (n≠0)) n) h
 iadd:∀ {a b:Nat},Sz 7 a→Sz 7 b→∀ na nb h k,call pIAdd [iv na a,iv nb b] h k=k (iv (fK na a nb b).1 (fK na a nb b).2) h
 imul:∀ {a b:Nat},Sz 7 a→Sz 7 b→∀ na nb h k,call pIMul [iv na a,iv nb b] h k=k (iv (xor na nb&&decide (a*b≠0)) (a*b)) h
 icmp:∀ {a b:Nat},Sz 7 a→Sz 7 b→∀ na nb h k,call pICmp [iv na a,iv nb b] h k=k (icmp na a nb b) h
 make:∀ {a d:Nat},Sz 7 a→Sz 7 d→0<d→∀ na nb h k,call pMake [iv na a,iv nb d] h k=k (mkq (xor na nb) a d) h
 whole:∀ (b:Bool) (n:Nat) h k,call pWhole [iv b n] h k=k (qv b n 1) h
section
variable {call:Call}{pMul pIM pIAdd pIMul pICmp pMake pWhole:ab}(S:YP call pMul pIM pIAdd pIMul pICmp pMake pWhole)
theorem Qy(b:Bool)(n:Nat):∃ h',∀ k,B8 call [iv b n] (.mk .leaf .e) k=k (qv b n 1) h':=by
 have h1:ai 1=[1]:=by decide
 unfold qv
 rw[h1]
 cases b <;> exact⟨_,λk=>rfl⟩
variable [Nu]
include S
theorem C4{a b p q:Nat}(ha:Sz 3 a)(hb:Sz 3 b)(hp:Sz 3 p)(hq:Sz 3 q)(hp0:0<p)(hq0:0<q)(h:¬(p=1∧q=1))(na nb:Bool):
  ∃ h',∀ k,AR pIMul pWhole pMul pMake call [qv na a p,qv nb b q] (.mk .leaf .e) k=k (mkq (xor na nb&&decide (a*b≠0)) (a*b) (p*q)) h':=by
 have h1:ai 1=[1]:=by decide
 have key:∀ (x:List Nat),x=ai p→(x=[1]→ai q≠[1])→∃ h',∀ k,AR pIMul pWhole pMul pMake call [.agg [.bool na,.str (ai a),.str x],qv nb b q] (.mk .leaf .e) k=k (mkq (xor na nb&&decide (a*b≠0)) (a*b) (p*q)) h':=by
  intro x hx hxq
  by_cases hx1:x=[1]
  ·have hq1:=hxq hx1
   subst hx1
   cases na <;> cases nb <;> (
    apply Exists.intro
    intro k
    change seqC (ai q) [1] _=_
    rw[eX _ _ (cj _) (by decide),decide_eq_false hq1]
    change call pIMul [iv _ a,iv _ b] _ _=_
    rw[S.imul (ha.mono (by decide)) (hb.mono (by decide))]
    change must 12 (AV.alike (.str (ai q)) (.str (ai q))) _=_
    rw[cg,aw]
    change call pMul [.str [1],.str (ai q)] _ _=_
    rw[hx,S.mul (hp.mono (by decide)) (hq.mono (by decide))]
    change call pMake [iv _ (a*b),iv false (p*q)] _ _=_
    rw[S.make ((ha.mul hb).mono (by decide)) ((hp.mul hq).mono (by decide)) (Nat.mul_pos hp0 hq0),Bool.xor_false]
    exact rfl)
  ·subst hx
   cases na <;> cases nb <;> (
    apply Exists.intro
    intro k
    change seqC (ai p) [1] _=_
    rw[eX _ _ (cj _) (by decide),decide_eq_false hx1]
    change call pIMul [iv _ a,iv _ b] _ _=_
    rw[S.imul (ha.mono (by decide)) (hb.mono (by decide))]
    change must 12 (AV.alike (.str (ai p)) (.str (ai p))) _=_
    rw[cg,aw]
    change must 12 (AV.alike (.str (ai q)) (.str (ai q))) _=_
    rw[cg,aw]
    change call pMul [.str (ai p),.str (ai q)] _ _=_
    rw[S.mul (hp.mono (by decide)) (hq.mono (by decide))]
    change call pMake [iv _ (a*b),iv false (p*q)] _ _=_
    rw[S.make ((ha.mul hb).mono (by decide)) ((hp.mul hq).mono (by decide)) (Nat.mul_pos hp0 hq0),Bool.xor_false]
    exact rfl)
 exact key _ rfl λe hq1=>h ⟨wX.1 e,wX.1 hq1⟩
theorem FY{a b p q:Nat}(ha:Sz 3 a)(hb:Sz 3 b)(hp:Sz 3 p)(hq:Sz 3 q)(hp0:0<p)(hq0:0<q)(na nb:Bool):
  ∃ h',∀ k,AR pIMul pWhole pMul pMake call [qv na a p,qv nb b q] (.mk .leaf .e) k=k (rmul na a p nb b q) h':=by
 have h1:ai 1=[1]:=by decide
 by_cases h:p=1∧q=1
 ·rw[rmul,if_pos h]
  obtain⟨rfl,rfl⟩:=h
  unfold qv
  rw[h1]
  cases na <;> cases nb <;> (
   apply Exists.intro
   intro k
   change call pIMul [iv _ a,iv _ b] _ _=_
   rw[S.imul (ha.mono (by decide)) (hb.mono (by decide))]
   change call pWhole [iv _ (a*b)] _ _=_
   rw[S.whole]
   unfold qv
   rw[h1]
   exact rfl)
 ·rw[rmul,if_neg h]
  exact C4 S ha hb hp hq hp0 hq0 h na nb
omit S [Nu] in
theorem Fi{p q:Nat}(h:p≠q):decide (ai p=ai q)=false:=decide_eq_false λe=>h (Iv.1 e)
omit [Nu] in
theorem GJ{a b:Nat}(ha:Sz 3 a)(hb:Sz 3 b)(na nb:Bool){pIA pW pMk:ab}(hIA:pIA=pIAdd)(hW:pW=pWhole):
  ∃ h',∀ k,wo pIA pW pMk pMul pIM call [qv na a 1,qv nb b 1] (.mk .leaf .e) k=k (qv (fK na a nb b).1 (fK na a nb b).2 1) h':=by
 subst hIA hW
 have h1:ai 1=[1]:=by decide
 unfold qv
 rw[h1]
 cases na <;> cases nb <;> (
  apply Exists.intro
  intro k
  change call pIA [iv _ a,iv _ b] _ _=_
  rw[S.iadd (ha.mono (by decide)) (hb.mono (by decide))]
  change call pW [iv _ _] _ _=_
  rw[S.whole]
  unfold qv
  rw[h1]
  exact rfl)
theorem Do{a b p:Nat}(ha:Sz 3 a)(hb:Sz 3 b)(hp:Sz 3 p)(hp0:0<p)(hp1:p≠1)(na nb:Bool):
  ∃ h',∀ k,wo pIAdd pWhole pMake pMul pIM call [qv na a p,qv nb b p] (.mk .leaf .e) k=k (mkq (fK na a nb b).1 (fK na a nb b).2 p) h':=by
 have hne:ai p≠[1]:=λe=>hp1 (wX.1 e)
 cases na <;> cases nb <;> (
  apply Exists.intro
  intro k
  change seqC (ai p) (ai p) _=_
  rw[eX _ _ (cj _) (cj _),decide_eq_true rfl]
  change seqC (ai p) [1] _=_
  rw[eX _ _ (cj _) (by decide),decide_eq_false hne]
  change call pIAdd [iv _ a,iv _ b] _ _=_
  rw[S.iadd (ha.mono (by decide)) (hb.mono (by decide))]
  change must 12 (AV.alike (.str (ai p)) (.str (ai p))) _=_
  rw[cg,aw]
  change call pMake [iv _ _,iv false p] _ _=_
  rw[S.make ((Ed ha hb _ _).mono (by decide)) (hp.mono (by decide)) hp0,Bool.xor_false]
  exact rfl)
theorem CP{a b p q:Nat}(ha:Sz 3 a)(hb:Sz 3 b)(hp:Sz 3 p)(hq:Sz 3 q)(hp0:0<p)(hq0:0<q)(h:p≠q)(na nb:Bool):
  ∃ h',∀ k,wo pIAdd pWhole pMake pMul pIM call [qv na a p,qv nb b q] (.mk .leaf .e) k=k (mkq (fK (na&&decide (a*q≠0)) (a*q) (nb&&decide (b*p≠0)) (b*p)).1 (fK (na&&decide (a*q≠0)) (a*q) (nb&&decide (b*p≠0)) (b*p)).2 (p*q)) h':=by
 have haq:=ha.mul hq
 have hbp:=hb.mul hp
 cases na <;> cases nb <;> (
  apply Exists.intro
  intro k
  change seqC (ai p) (ai q) _=_
  rw[eX _ _ (cj _) (cj _),Fi h]
  change call pMul [.str (ai a),.str (ai q)] _ _=_
  rw[S.mul (ha.mono (by decide)) (hq.mono (by decide))]
  change call pIM [.bool _,.str (ai (a*q))] _ _=_
  rw[S.im]
  change must 12 (AV.alike (.str (ai b)) (.str (ai b))) _=_
  rw[cg,aw]
  change must 12 (AV.alike (.str (ai b)) (.str (ai b))) _=_
  rw[cg,aw]
  change must 12 (AV.alike (.str (ai p)) (.str (ai p))) _=_
  rw[cg,aw]
  change must 12 (AV.alike (.str (ai p)) (.str (ai p))) _=_
  rw[cg,aw]
  change call pMul [.str (ai b),.str (ai p)] _ _=_
  rw[S.mul (hb.mono (by decide)) (hp.mono (by decide))]
  change call pIM [.bool _,.str (ai (b*p))] _ _=_
  rw[S.im]
  change call pIAdd [iv _ (a*q),iv _ (b*p)] _ _=_
  rw[S.iadd (haq.mono (by decide)) (hbp.mono (by decide))]
  change call pMul [.str (ai p),.str (ai q)] _ _=_
  rw[S.mul (hp.mono (by decide)) (hq.mono (by decide))]
  change must 12 (AV.alike (iv _ _) (iv _ _)) _=_
  rw[Hz,aw]
  change call pMake [iv _ _,iv false (p*q)] _ _=_
  rw[S.make (Ed haq hbp _ _) ((hp.mul hq).mono (by decide)) (Nat.mul_pos hp0 hq0),Bool.xor_false]
  exact rfl)
theorem Gf{a b p q:Nat}(ha:Sz 3 a)(hb:Sz 3 b)(hp:Sz 3 p)(hq:Sz 3 q)(hp0:0<p)(hq0:0<q)(na nb:Bool):
  ∃ h',∀ k,wo pIAdd pWhole pMake pMul pIM call [qv na a p,qv nb b q] (.mk .leaf .e) k=k (radd na a p nb b q) h':=by
 unfold radd
 by_cases h:p=q
 ·subst h
  rw[if_pos rfl]
  by_cases h1:p=1
  ·subst h1;rw[if_pos rfl];exact GJ S ha hb na nb rfl rfl
  ·rw[if_neg h1];exact Do S ha hb hp hp0 h1 na nb
 ·rw[if_neg h];exact CP S ha hb hp hq hp0 hq0 h na nb
omit S [Nu] in
theorem jT(na:Bool)(a:Nat)(nb:Bool)(b:Nat):∃ z,icmp na a nb b = .int .i64 z:=by
 unfold icmp
 split
 ·split
  ·exact mI _ _
  ·exact mI _ _
 ·exact⟨_,rfl⟩
theorem F7{a b p q:Nat}(ha:Sz 3 a)(hb:Sz 3 b)(hp:Sz 3 p)(hq:Sz 3 q)(na nb:Bool):
  ∃ h',∀ k,Ky pICmp pMul pIM call [qv na a p,qv nb b q] (.mk .leaf .e) k=k (AY na a p nb b q) h':=by
 unfold AY
 by_cases h:p=q
 ·subst h
  rw[if_pos rfl]
  cases na <;> cases nb <;> (
   apply Exists.intro
   intro k
   change seqC (ai p) (ai p) _=_
   rw[eX _ _ (cj _) (cj _),decide_eq_true rfl]
   change call pICmp [iv _ a,iv _ b] _ _=_
   rw[S.icmp (ha.mono (by decide)) (hb.mono (by decide))]
   obtain⟨z,hz⟩:=jT _ _ _ _
   rw[hz]
   exact rfl)
 ·rw[if_neg h]
  cases na <;> cases nb <;> (
   apply Exists.intro
   intro k
   change seqC (ai p) (ai q) _=_
   rw[eX _ _ (cj _) (cj _),Fi h]
   change call pMul [.str (ai a),.str (ai q)] _ _=_
   rw[S.mul (ha.mono (by decide)) (hq.mono (by decide))]
   change call pIM [.bool _,.str (ai (a*q))] _ _=_
   rw[S.im]
   change must 12 (AV.alike (.str (ai b)) (.str (ai b))) _=_
   rw[cg,aw]
   change must 12 (AV.alike (.str (ai b)) (.str (ai b))) _=_
   rw[cg,aw]
   change must 12 (AV.alike (.str (ai p)) (.str (ai p))) _=_
   rw[cg,aw]
   change must 12 (AV.alike (.str (ai p)) (.str (ai p))) _=_
   rw[cg,aw]
   change call pMul [.str (ai b),.str (ai p)] _ _=_
   rw[S.mul (hb.mono (by decide)) (hp.mono (by decide))]
   change call pIM [.bool _,.str (ai (b*p))] _ _=_
   rw[S.im]
   change call pICmp [iv _ (a*q),iv _ (b*p)] _ _=_
   rw[S.icmp ((ha.mul hq).mono (by decide)) ((hb.mul hp).mono (by decide))]
   obtain⟨z,hz⟩:=jT _ _ _ _
   rw[hz]
   exact rfl)
end
end Go.Ai
namespace Go.Ai
open Go
theorem iB(s:Bool)(n:Nat):nh s n=(s&&decide (n≠0)):=by
 cases s
 ·rfl
 ·show Nat.blt 0 n=(true&&decide (n≠0))
  cases n <;> rfl
variable [Nu]
variable {Sk:SK}(S:bG Sk)
def bG.iv(b:Bool)(n:Nat):AV:=.agg [.bool b,S.sv n]
def bG.qv(b:Bool)(n d:Nat):AV:=.agg [.bool b,S.sv n,S.sv d]
def bG.mkq(s:Bool)(n d:Nat):AV:=S.qv (s&&decide (n/Nat.gcd n d≠0)) (n/Nat.gcd n d) (d/Nat.gcd n d)
theorem bG.iv_nm1(b:Bool)(n:Nat):(S.iv b n).nm1=Go.Ai.iv b n:=by
 show AV.agg [(AV.bool b).nm0,(S.sv n).nm0]=_
 rw[S.nm];rfl
theorem bG.qv_nm1(b:Bool)(n d:Nat):(S.qv b n d).nm1=Go.Ai.qv b n d:=by
 show AV.agg [(AV.bool b).nm0,(S.sv n).nm0,(S.sv d).nm0]=_
 rw[S.nm,S.nm];rfl
theorem bG.iv_nm(b:Bool)(n:Nat):(S.iv b n).nm=Go.Ai.iv b n:=S.iv_nm1 b n
theorem bG.qv_nm(b:Bool)(n d:Nat):(S.qv b n d).nm=Go.Ai.qv b n d:=S.qv_nm1 b n d
theorem bG.iv_pl1(b:Bool)(n:Nat):(S.iv b n).plain1=true:=by
 show ((AV.bool b).plain0&&((S.sv n).plain0&&true))=true
 rw[S.pl];rfl
theorem bG.iv_pl(b:Bool)(n:Nat):(S.iv b n).plain=true:=S.iv_pl1 b n
theorem bG.qv_pl(b:Bool)(n d:Nat):(S.qv b n d).plain=true:=by
 show ((AV.bool b).plain0&&((S.sv n).plain0&&((S.sv d).plain0&&true)))=true
 rw[S.pl,S.pl];rfl
theorem bG.ivK(b:Bool)(n:Nat)(K:AV→aa):ivK Sk b n K=K (S.iv b n):=by
 unfold Go.Ai.ivK bG.iv
 rw[S.eq]
 cases b <;> rfl
theorem bG.qvK(b:Bool)(n d:Nat)(K:AV→aa):qvK Sk b n d K=K (S.qv b n d):=by
 unfold Go.Ai.qvK bG.qv
 rw[S.eq,S.eq]
 cases b <;> rfl
theorem H5(b:Bool)(n:Nat)(K:AV→aa):ivK dv b n K=K (iv b n):=dy.ivK b n K
theorem af8(b:Bool)(n d:Nat)(K:AV→aa):qvK dv b n d K=K (qv b n d):=dy.qvK b n d K
theorem gz{p:Prop}[Decidable p](x y:aa):ifC (decide p) x y=if p then x else y:=by
 by_cases h:p
 ·rw[decide_eq_true h,a7,if_pos h]
 ·rw[decide_eq_false h,a5,if_neg h]
theorem sL(na:Bool)(a:Nat)(nb:Bool)(b:Nat)(K:Bool→Nat→aa):AT na a nb b K=K (fK na a nb b).1 (fK na a nb b).2:=by
 unfold AT fK
 simp only[ao,iB]
 cases na <;> cases nb
 ·exact a5 _ _
 ·refine (a7 _ _).trans ?_
  rw[az,gz,if_neg (Bool.noConfusion:¬ false=true)]
  by_cases h:a<b
  ·rw[if_pos h,if_pos h];rfl
  ·rw[if_neg h,if_neg h];rfl
 ·refine (a7 _ _).trans ?_
  rw[az,gz,if_neg (Bool.noConfusion:¬ true=false)]
  by_cases h:a<b
  ·rw[if_pos h,if_pos h];rfl
  ·rw[if_neg h,if_neg h];rfl
 ·exact a5 _ _
theorem bG.mkqK(s:Bool)(n d:Nat)(K:AV→aa):mkqK Sk s n d K=K (S.mkq s n d):=by
 unfold Go.Ai.mkqK bG.mkq
 simp only[ao,iB,S.qvK]
 rw[dJ,gz]
 split
 ·rename_i h;rw[h,Nat.div_one,Nat.div_one]
 ·rfl
theorem Na(s:Bool)(n d:Nat)(K:AV→aa):mkqK dv s n d K=K (mkq s n d):=dy.mkqK s n d K
theorem sF(a b:Nat)(K:AV→aa):Iu a b K=K (nH a b):=by
 unfold Iu nH
 rw[az,az,gz,gz]
 split
 ·rfl
 ·split <;> rfl
theorem ug(na:Bool)(a:Nat)(nb:Bool)(b:Nat)(K:AV→aa):zh na a nb b K=K (icmp na a nb b):=by
 unfold zh
 cases na <;> cases nb
 ·exact sF _ _ _
 ·rfl
 ·rfl
 ·exact sF _ _ _
def bG.radd(na:Bool)(a p:Nat)(nb:Bool)(b q:Nat):AV :=
 if p=q then (if p=1 then S.qv (fK na a nb b).1 (fK na a nb b).2 1 else S.mkq (fK na a nb b).1 (fK na a nb b).2 p)
 else S.mkq (fK (na&&decide (a*q≠0)) (a*q) (nb&&decide (b*p≠0)) (b*p)).1 (fK (na&&decide (a*q≠0)) (a*q) (nb&&decide (b*p≠0)) (b*p)).2 (p*q)
def bG.rmul(na:Bool)(a p:Nat)(nb:Bool)(b q:Nat):AV :=
 if p=1∧q=1 then S.qv (xor na nb&&decide (a*b≠0)) (a*b) 1 else S.mkq (xor na nb&&decide (a*b≠0)) (a*b) (p*q)
theorem bG.raddK(na:Bool)(a p:Nat)(nb:Bool)(b q:Nat)(K:AV→aa):raddK Sk na a p nb b q K=K (S.radd na a p nb b q):=by
 unfold Go.Ai.raddK bG.radd
 simp only[ao,sL,iB,S.qvK,S.mkqK]
 rw[dJ,dJ,gz,gz]
 split
 ·split <;> rfl
 ·rfl
theorem bG.rmulK(na:Bool)(a p:Nat)(nb:Bool)(b q:Nat)(K:AV→aa):rmulK Sk na a p nb b q K=K (S.rmul na a p nb b q):=by
 unfold Go.Ai.rmulK bG.rmul
 simp only[ao,iB,S.qvK,S.mkqK,cM]
 rw[dJ,dJ,gz,gz]
 by_cases hp:p=1
 ·by_cases hq:q=1
  ·rw[if_pos hp,if_pos hq,if_pos ⟨hp,hq⟩];rfl
  ·rw[if_pos hp,if_neg hq,if_neg λh=>hq h.2,hp,Nat.one_mul];rfl
 ·rw[if_neg hp,if_neg λh=>hp h.1];rfl
theorem bG.radd_nm(na:Bool)(a p:Nat)(nb:Bool)(b q:Nat):(S.radd na a p nb b q).nm=Go.Ai.radd na a p nb b q:=by
 unfold bG.radd Go.Ai.radd
 split
 ·split
  ·exact S.qv_nm _ _ _
  ·exact S.qv_nm _ _ _
 ·exact S.qv_nm _ _ _
theorem bG.rmul_nm(na:Bool)(a p:Nat)(nb:Bool)(b q:Nat):(S.rmul na a p nb b q).nm=Go.Ai.rmul na a p nb b q:=by
 unfold bG.rmul Go.Ai.rmul
 split
 ·exact S.qv_nm _ _ _
 ·exact S.qv_nm _ _ _
theorem bG.radd_pl(na:Bool)(a p:Nat)(nb:Bool)(b q:Nat):(S.radd na a p nb b q).plain=true:=by
 unfold bG.radd
 split
 ·split
  ·exact S.qv_pl _ _ _
  ·exact S.qv_pl _ _ _
 ·exact S.qv_pl _ _ _
theorem bG.rmul_pl(na:Bool)(a p:Nat)(nb:Bool)(b q:Nat):(S.rmul na a p nb b q).plain=true:=by
 unfold bG.rmul
 split
 ·exact S.qv_pl _ _ _
 ·exact S.qv_pl _ _ _
theorem Iy(na:Bool)(a p:Nat)(nb:Bool)(b q:Nat)(K:AV→aa):I9 na a p nb b q K=K (AY na a p nb b q):=by
 unfold I9 AY
 simp only[ao,iB,ug]
 rw[dJ,gz]
 split <;> rfl
theorem JS{L:Nat}(x:AV):(∀ K,bq (zk L x K))∨∃ b n,x.nm1=iv b n∧x.plain1=true∧n<2^L∧∀ K,zk L x K=K b n:=by
 rcases gy x with hb|⟨cs,rfl⟩
 ·exact .inl λ_=>hb _
 have e:∀ K,zk L (.agg cs) K=d9 cs λb s=>b.onBool λb=>eZ L s λn=>K b n:=λ_=>rfl
 simp only[e]
 rcases gX cs with hb|⟨b,s,rfl⟩
 ·exact .inl λ_=>hb _
 have e2:∀ F:AV→AV→aa,d9 [b,s] F=F b s:=λ_=>rfl
 simp only[e2]
 rcases dk b with hb|⟨b,rfl⟩
 ·exact .inl λ_=>hb _
 have e3:∀ F:Bool→aa,(AV.bool b).onBool F=F b:=λ_=>rfl
 simp only[e3]
 rcases fw s with hb|⟨n,hn,ps,hl,e4⟩
 ·exact .inl λ_=>hb _
 simp only[e4]
 exact .inr ⟨b,n,by show AV.agg [(AV.bool b).nm0,s.nm0]=_;rw[hn];rfl,by show ((AV.bool b).plain0&&(s.plain0&&true))=true;rw[ps];rfl,hl,λ_=>rfl⟩
theorem IN{L:Nat}(x:AV):(∀ K,bq (Bx L x K))∨∃ b n d,x.nm1=qv b n d∧x.plain1=true∧n<2^L∧d<2^L∧∀ K,Bx L x K=K b n d:=by
 rcases gy x with hb|⟨cs,rfl⟩
 ·exact .inl λ_=>hb _
 have e:∀ K,Bx L (.agg cs) K=qV cs λb s d=>b.onBool λb=>eZ L s λn=>eZ L d λd=>K b n d:=λ_=>rfl
 simp only[e]
 rcases uE cs with hb|⟨b,s,d,rfl⟩
 ·exact .inl λ_=>hb _
 have e2:∀ F:AV→AV→AV→aa,qV [b,s,d] F=F b s d:=λ_=>rfl
 simp only[e2]
 rcases dk b with hb|⟨b,rfl⟩
 ·exact .inl λ_=>hb _
 have e3:∀ F:Bool→aa,(AV.bool b).onBool F=F b:=λ_=>rfl
 simp only[e3]
 rcases fw s with hb|⟨n,hn,ps,hl,e4⟩
 ·exact .inl λ_=>hb _
 simp only[e4]
 rcases fw d with hb|⟨d',hd,pd,hl',e5⟩
 ·exact .inl λ_=>hb _
 simp only[e5]
 exact .inr ⟨b,n,d',by show AV.agg [(AV.bool b).nm0,s.nm0,d.nm0]=_;rw[hn,hd];rfl,by show ((AV.bool b).plain0&&(s.plain0&&(d.plain0&&true)))=true;rw[ps,pd];rfl,hl,hl',λ_=>rfl⟩
variable {P:Program}
theorem jQ{i:Nat}{p:ab}{f:Nat→Nat→Bool}{r:Bool→Nat→Bool→Nat→(AV→aa)→aa}{R' R:Bool→Nat→Bool→Nat→AV}{c0:Call}(hC:aC P c0)
  (hr:∀ na a nb b K,r na a nb b K=K (R' na a nb b)) (hn:∀ na a nb b,(R' na a nb b).nm=R na a nb b) (hpl:∀ na a nb b,(R' na a nb b).plain=true)
  (h:∀ na a nb b,Sz i a→Sz i b→f a b=true→∃ g,∀ k:af,c0 p [iv na a,iv nb b] (.mk .leaf .e) k=k (R na a nb b) g):ac P p (zP (4096*i) f r):=by
 refine jO hC λcall args hh=>?_
 have e:∀ k,zP (4096*i) f r call args hh k=d9 args λx y=>zk (4096*i) x λna a=>zk (4096*i) y λnb b=>must 73 (f a b) (r na a nb b λv=>k v hh):=λ_=>rfl
 simp only[e]
 rcases gX args with hb|⟨x,y,rfl⟩
 ·exact .inl λ_=>hb _
 have e2:∀ F:AV→AV→aa,d9 [x,y] F=F x y:=λ_=>rfl
 simp only[e2]
 rcases JS x with hb|⟨na,a,hx,px,ha,e3⟩
 ·exact .inl λ_=>hb _
 simp only[e3]
 rcases JS y with hb|⟨nb,b,hy,py,hb',e4⟩
 ·exact .inl λ_=>hb _
 simp only[e4]
 cases hf:f a b with
 | false=>exact .inl λ_=>⟨73,rfl⟩
 | true =>
  simp only[aw,hr]
  obtain⟨g,hg⟩:=h na a nb b ha hb' hf
  exact .inr ⟨_,g,by simp[px,py],hpl _ _ _ _,λ_=>rfl,λk=>by rw[hn,List.map_cons,List.map_cons,List.map_nil,hx,hy];exact hg k⟩
theorem qJ{i:Nat}{p:ab}{r:Bool→Nat→Nat→Bool→Nat→Nat→(AV→aa)→aa}{R' R:Bool→Nat→Nat→Bool→Nat→Nat→AV}{c0:Call}(hC:aC P c0)
  (hr:∀ na a p nb b q K,r na a p nb b q K=K (R' na a p nb b q)) (hn:∀ na a p nb b q,(R' na a p nb b q).nm=R na a p nb b q) (hpl:∀ na a p nb b q,(R' na a p nb b q).plain=true)
  (h:∀ na a d nb b q,Sz i a→Sz i d→Sz i b→Sz i q→0<d→0<q→∃ g,∀ k:af,c0 p [qv na a d,qv nb b q] (.mk .leaf .e) k=k (R na a d nb b q) g):ac P p (Ke (4096*i) r):=by
 refine jO hC λcall args hh=>?_
 have e:∀ k,Ke (4096*i) r call args hh k=d9 args λx y=>Bx (4096*i) x λna a p=>Bx (4096*i) y λnb b q=>must 73 (Nat.blt 0 p) (must 73 (Nat.blt 0 q) (r na a p nb b q λv=>k v hh)):=λ_=>rfl
 simp only[e]
 rcases gX args with hb|⟨x,y,rfl⟩
 ·exact .inl λ_=>hb _
 have e2:∀ F:AV→AV→aa,d9 [x,y] F=F x y:=λ_=>rfl
 simp only[e2]
 rcases IN x with hb|⟨na,a,d,hx,px,ha,hd,e3⟩
 ·exact .inl λ_=>hb _
 simp only[e3]
 rcases IN y with hb|⟨nb,b,q,hy,py,hb',hq,e4⟩
 ·exact .inl λ_=>hb _
 simp only[e4]
 by_cases hd0:0<d
 ·by_cases hq0:0<q
  ·simp only[az,decide_eq_true hd0,decide_eq_true hq0,aw,hr]
   obtain⟨g,hg⟩:=h na a d nb b q ha hd hb' hq hd0 hq0
   exact .inr ⟨_,g,by simp[px,py],hpl _ _ _ _ _ _,λ_=>rfl,λk=>by rw[hn,List.map_cons,List.map_cons,List.map_nil,hx,hy];exact hg k⟩
  ·refine .inl λ_=>⟨73,?_⟩
   simp only[az,decide_eq_true hd0,decide_eq_false hq0,aw];rfl
 ·refine .inl λ_=>⟨73,?_⟩
  simp only[az,decide_eq_false hd0];rfl
end Go.Ai
namespace Go.Ai
open Go
theorem qI(b:Bool)(s:List Nat)(call:Call)(h:H)(k:af):kq call [.bool b,.str s] h k=k (.agg [.bool (b&&decide (s≠[])),.str s]) h:=by
 cases s <;> cases b <;> rfl
theorem OP(b:Bool)(n:Nat):AV.agg [.bool (b&&decide (ai n≠[])),.str (ai n)]=iv (b&&decide (n≠0)) n:=by
 have:decide (ai n≠[])=decide (n≠0):=by
  by_cases h:n=0
  ·subst h;rfl
  ·rw[decide_eq_true (show ai n≠[] from λe=>h (kv e)),decide_eq_true (show n≠0 from h)]
 rw[iv,this]
theorem FS(b:Bool)(n:Nat)(call:Call)(h:H)(k:af):kq call [.bool b,.bs n] h k=k (.agg [.bool (b&&decide (n≠0)),.bs n]) h:=by
 cases n <;> cases b <;> rfl
variable [Nu]
theorem kO{L n:Nat}(h:n<2^L)(k:Nat→aa):qO L (ai n) k=k n:=by
 have hc:=eF n
 have ho:=bS n
 cases hb:ai n with
 | nil =>
  rw[kv hb];rfl
 | cons b t =>
  rw[hb]at hc ho
  have hb0:0<b:=Nat.pos_of_ne_zero (by simpa using hc.2)
  show must 71 (Nat.blt 0 b) (MD t b b λn o=>must 70 (Nat.blt o 256) (forceN n λn=>must 72 (Nat.blt n (Nat.pow 2 L)) (k n)))=_
  have e:t.foldl (λa b=>a*256+b) b=n:=by
   rw[← ho]
   show _=t.foldl (λa b=>a*256+b) (0*256+b)
   rw[Nat.zero_mul,Nat.zero_add]
  rw[az,decide_eq_true hb0,aw,wR,e,az,decide_eq_true (EB t b (hc.1 b List.mem_cons_self) λx hx=>hc.1 x (List.mem_cons_of_mem _ hx)),aw,ao,show Nat.blt n (Nat.pow 2 L)=true by rw[az];exact decide_eq_true h,aw]
theorem sT{Sk:SK}(S:bG Sk)(b:Bool)(s:List Nat)(call:Call)(h:H)(k:af):la Sk call [.agg [.bool b,.str s]] h k=k (.agg [.bool b,.str s,S.sv 1]) h:=by
 show Sk 1 (λd=>Bool.rec (motive:=λ_=>aa) (k (.agg [.bool false,.str s,d]) h) (k (.agg [.bool true,.str s,d]) h) b)=_
 rw[S.eq]
 cases b <;> rfl
theorem FN{Sk:SK}(S:bG Sk)(b:Bool)(n:Nat)(call:Call)(h:H)(k:af):la Sk call [.agg [.bool b,.bs n]] h k=k (.agg [.bool b,.bs n,S.sv 1]) h:=by
 show Sk 1 (λd=>Bool.rec (motive:=λ_=>aa) (k (.agg [.bool false,.bs n,d]) h) (k (.agg [.bool true,.bs n,d]) h) b)=_
 rw[S.eq]
 cases b <;> rfl
theorem kx{f:Nat→Nat→Bool}{r:Nat→Nat→(AV→aa)→aa}{a b:Nat}(ha:Sz 8 a)(hb:Sz 8 b)(hf:f a b=true)(call:Call)(h:H)(k:af):xq f r call [.str (ai a),.str (ai b)] h k=r a b λv=>k v h:=by
 show qO 32768 (ai a) (λa=>qO 32768 (ai b) λb=>must 73 (f a b) (r a b λv=>k v h))=_
 rw[kO ha,kO hb,hf,aw]
theorem sg{i:Nat}{f:Nat→Nat→Bool}{r:Bool→Nat→Bool→Nat→(AV→aa)→aa}{a b:Nat}(ha:Sz i a)(hb:Sz i b)(hf:f a b=true)(na nb:Bool)(call:Call)(h:H)(k:af):zP (4096*i) f r call [iv na a,iv nb b] h k=r na a nb b λv=>k v h:=by
 show qO (4096*i) (ai a) (λa=>qO (4096*i) (ai b) λb=>must 73 (f a b) (r na a nb b λv=>k v h))=_
 rw[kO ha,kO hb,hf,aw]
theorem Rx{u:Nat}(hu:u<18446744073709551616)(call:Call)(h:H)(k:af):OB dv call [.int .u64 (.ofNat u)] h k=k (.str (ai u)) h:=by
 show must 74 (Nat.blt u 18446744073709551616) (dv u λv=>k v h)=_
 rw[az,decide_eq_true hu,aw,ip]
variable {P:Program}
theorem P3{C:Nat→Call}{p:ab}(e:∀ n args h k,C (n+1) p args h k=MS (C n) args h k)(hC:aC P (C 1)):ac P p Cn :=
 eJ hC (R':=nH) (R:=nH) sF (λa b=>by obtain⟨z,hz⟩:=mI a b;rw[hz];rfl) (λa b=>by obtain⟨z,hz⟩:=mI a b;rw[hz];rfl) λs t hs ht _ _ _=>⟨_,λk=>by rw[e,JH _ hs ht]⟩
theorem EQ{n:Nat}:lB n=[]↔n=0:=⟨λh=>sq (h.trans (rfl : []=lB 0)),λh=>by rw[h];rfl⟩
theorem VI{C:Nat→Call}{p:ab}(e:∀ n args h k,C (n+1) p args h k=Ku (C n) args h k)(hC:aC P (C 1)):ac P p kq:=by
 have run:∀ (b:Bool) (s:List Nat),∃ h',∀ k,C 1 p [.bool b,.str s] (.mk .leaf .e) k=k (.agg [.bool (b&&decide (s≠[])),.str s]) h':=λb s=>by
  cases s with
  | nil=>cases b <;> exact⟨_,λk=>by rw[e];exact rfl⟩
  | cons c t=>cases b <;> exact⟨_,λk=>by rw[e];exact rfl⟩
 refine jO hC λcall args hh=>?_
 rcases gX args with hb|⟨x,y,rfl⟩
 ·exact .inl λ_=>hb _
 rcases dk x with hb|⟨b,rfl⟩
 ·exact .inl λ_=>hb _
 cases y with
 | str s =>
  obtain⟨h',hk⟩:=run b s
  exact .inr ⟨_,h',rfl,rfl,λk=>qI _ _ _ _ _,hk⟩
 | bs n =>
  obtain⟨h',hk⟩:=run b (lB n)
  have:decide (lB n≠[])=decide (n≠0):=by
   by_cases h:n=0
   ·rw[decide_eq_false (λg=>g (EQ.2 h)),decide_eq_false (λg=>g h)]
   ·rw[decide_eq_true (show lB n≠[] from λg=>h (EQ.1 g)),decide_eq_true (show n≠0 from h)]
  rw[this]at hk
  exact .inr ⟨_,h',rfl,rfl,λk=>FS _ _ _ _ _,hk⟩
 | _=>exact .inl λ_=>⟨113,rfl⟩
theorem H7{Sk:SK}(S:bG Sk){C:Nat→Call}{p:ab}(e:∀ n args h k,C (n+1) p args h k=B8 (C n) args h k)(hC:aC P (C 1)):ac P p (la Sk):=by
 have h1:ai 1=[1]:=by decide
 have hd:(S.sv 1).nm0 = .str [1]:=by rw[S.nm,h1]
 have run:∀ (b:Bool) (s:List Nat),∃ h',∀ k,C 1 p [.agg [.bool b,.str s]] (.mk .leaf .e) k=k (.agg [.bool b,.str s,.str [1]]) h':=λb s=>by
  cases b <;> exact⟨_,λk=>by rw[e];exact rfl⟩
 refine jO hC λcall args hh=>?_
 rcases qA args with hb|⟨x,rfl⟩
 ·exact .inl λ_=>hb _
 rcases gy x with hb|⟨cs,rfl⟩
 ·exact .inl λ_=>hb _
 rcases gX cs with hb|⟨x,y,rfl⟩
 ·exact .inl λ_=>hb _
 rcases dk x with hb|⟨b,rfl⟩
 ·exact .inl λ_=>hb _
 have ep:∀ y:AV,∀ k,la Sk call [.agg [.bool b,y]] hh k=Sk 1 λd=>y.onSB (λn=>Bool.rec (motive:=λ_=>aa) (k (.agg [.bool false,.bs n,d]) hh) (k (.agg [.bool true,.bs n,d]) hh) b) λs=>Bool.rec (motive:=λ_=>aa) (k (.agg [.bool false,.str s,d]) hh) (k (.agg [.bool true,.str s,d]) hh) b:=λ_ _=>rfl
 have pl:∀ y:AV,y.plain0=true→(AV.agg [.bool b,y,S.sv 1]).plain=true:=λy hy=>by
  show ((AV.bool b).plain0&&(y.plain0&&((S.sv 1).plain0&&true)))=true
  rw[hy,S.pl];rfl
 have nm:∀ y:AV,(AV.agg [.bool b,y,S.sv 1]).nm = .agg [.bool b,y.nm0,.str [1]]:=λy=>by
  show AV.agg [.bool b,y.nm0,(S.sv 1).nm0]=_
  rw[hd]
 cases y with
 | str s =>
  obtain⟨h',hk⟩:=run b s
  exact .inr ⟨_,h',rfl,pl _ rfl,λk=>sT S _ _ _ _ _,λk=>by rw[nm];exact hk k⟩
 | bs n =>
  obtain⟨h',hk⟩:=run b (lB n)
  exact .inr ⟨_,h',rfl,pl _ rfl,λk=>FN S _ _ _ _ _,λk=>by rw[nm];exact hk k⟩
 | _=>exact .inl λk=>by rw[ep,S.eq];exact⟨113,rfl⟩
theorem Wb{Sk:SK}(S:bG Sk){C:Nat→Call}(B:ID C)(hC:aC P (C 3)):ac P B.nof (OB Sk):=by
 refine jO hC λcall args hh=>?_
 rcases qA args with hb|⟨x,rfl⟩
 ·exact .inl λ_=>hb _
 have e0:∀ k,OB Sk call [x] hh k=x.nat λkd u=>must 74 (Nat.beq kd.ctorIdx 7) (must 74 (Nat.blt u 18446744073709551616) (Sk u λv=>k v hh)):=λ_=>rfl
 simp only[e0]
 rcases nF x with hb|⟨kd,u,rfl,e1⟩
 ·exact .inl λ_=>hb _
 simp only[e1]
 by_cases hu:u<18446744073709551616
 ·simp only[az,decide_eq_true hu,aw,S.eq]
  cases kd with
  | u64 =>
   obtain⟨g,hg⟩:=Lx hu [] (p6 B 0)
   exact .inr ⟨_,_,rfl,S.p2 _,λ_=>rfl,λk=>by rw[B.e_nof,S.nm2];exact hg k⟩
  | _=>exact .inl λ_=>⟨74,rfl⟩
 ·refine .inl λk=>⟨74,?_⟩
  rw[az,decide_eq_false hu]
  cases kd <;> rfl
theorem P4{call:Call}{pAdd pSub pMul pDM pGcd pCmp pIM:ab}(eA:call pAdd=Cc dv call)(eS:call pSub=Cj dv call)(eM:call pMul=oA dv call)(eD:call pDM=fu dv call)(eG:call pGcd=rT dv call)(eC:call pCmp=Cn call)(eI:call pIM=kq call):YE call pAdd pSub pMul pDM pGcd pCmp pIM where
 add:=λha hb h k=>by rw[eA,Cc,kx ha hb rfl,ao,ip];rfl
 sub:=λha hb hle h k=>by rw[eS,Cj,kx (f:=λa b=>Nat.ble b a) ha hb (Nat.ble_eq.mpr hle),ao,ip];rfl
 mul:=λha hb h k=>by rw[eM,oA,kx ha hb rfl,ao,ip];rfl
 dm:=λ{a b} ha hb h0 h k=>by rw[eD,fu,kx ha hb (by rw[az,decide_eq_true h0]),ao,ip,ao,ip];rfl
 gcd:=λha hb h k=>by rw[eG,rT,kx ha hb rfl,ao,ip]
 cmp:=λha hb h k=>by rw[eC,Cn,kx ha hb rfl,sF]
 im:=λb n h k=>by rw[eI,qI,OP]
section
variable {call:Call}{pAdd pSub pMul pDM pGcd pCmp pIM:ab}(S:YE call pAdd pSub pMul pDM pGcd pCmp pIM){c:Call}{p:ab}(hC:aC P c)
include S hC
theorem N7{Sk:SK}(T:bG Sk)(e:∀ args h k,c p args h k=K0 pMul pIM call args h k):ac P p (Bj Sk) :=
 jQ (i:=7) hC (R':=λna a nb b=>T.iv (xor na nb&&decide (a*b≠0)) (a*b)) (R:=λna a nb b=>iv (xor na nb&&decide (a*b≠0)) (a*b)) (λna a nb b K=>by rw[ao,T.ivK,iB,cM];rfl) (λ_ _ _ _=>T.iv_nm _ _) (λ_ _ _ _=>T.iv_pl _ _) λna a nb b ha hb _=>by
  obtain⟨g,hg⟩:=Gg S (ha.mono (by decide)) (hb.mono (by decide)) na nb
  exact⟨g,λk=>by rw[e];exact hg k⟩
theorem Od{Sk:SK}(T:bG Sk)(e:∀ args h k,c p args h k=zG pAdd pIM pCmp pSub call args h k):ac P p (zY Sk) :=
 jQ (i:=7) hC (R':=λna a nb b=>T.iv (fK na a nb b).1 (fK na a nb b).2) (R:=λna a nb b=>iv (fK na a nb b).1 (fK na a nb b).2) (λna a nb b K=>by rw[sL,T.ivK]) (λ_ _ _ _=>T.iv_nm _ _) (λ_ _ _ _=>T.iv_pl _ _) λna a nb b ha hb _=>by
  have ha':=ha.mono (show 7≤8 by decide)
  have hb':=hb.mono (show 7≤8 by decide)
  unfold fK
  by_cases h:na=nb
  ·subst h
   obtain⟨g,hg⟩:=DP S ha' hb' na
   exact⟨g,λk=>by rw[e,if_pos rfl];exact hg k⟩
  ·have hn:nb = !na:=by cases na <;> cases nb <;> first | rfl | exact absurd rfl h
   subst hn
   by_cases h2:a<b
   ·obtain⟨g,hg⟩:=CX S ha' hb' na h2
    exact⟨g,λk=>by rw[e,if_neg h,if_pos h2];exact hg k⟩
   ·obtain⟨g,hg⟩:=CM S ha' hb' na (Nat.le_of_not_lt h2)
    exact⟨g,λk=>by rw[e,if_neg h,if_neg h2];exact hg k⟩
theorem LG(e:∀ args h k,c p args h k=Jy pCmp call args h k):ac P p Bs :=
 jQ (i:=7) hC (R':=icmp) (R:=icmp) ug (λna a nb b=>by obtain⟨z,hz⟩:=jT na a nb b;rw[hz];rfl) (λna a nb b=>by obtain⟨z,hz⟩:=jT na a nb b;rw[hz];rfl) λna a nb b ha hb _=>by
  obtain⟨g,hg⟩:=F6 S (ha.mono (by decide)) (hb.mono (by decide)) na nb
  exact⟨g,λk=>by rw[e];exact hg k⟩
theorem NI{Sk:SK}(T:bG Sk)(e:∀ args h k,c p args h k=Fc pGcd pDM pIM call args h k):ac P p (AC Sk) :=
 jQ (i:=7) hC (R':=λna a nb d=>T.mkq (xor na nb) a d) (R:=λna a nb d=>mkq (xor na nb) a d) (λna a nb b K=>by rw[T.mkqK,cM]) (λ_ _ _ _=>T.qv_nm _ _ _) (λ_ _ _ _=>T.qv_pl _ _ _) λna a nb d ha hd hf=>by
  have hd0:0<d:=by rw[az]at hf;exact of_decide_eq_true hf
  unfold mkq
  by_cases h:Nat.gcd a d=1
  ·obtain⟨g,hg⟩:=GU S (ha.mono (by decide)) (hd.mono (by decide)) h na nb
   exact⟨g,λk=>by rw[e,h,Nat.div_one,Nat.div_one];exact hg k⟩
  ·obtain⟨g,hg⟩:=BQ S (ha.mono (by decide)) (hd.mono (by decide)) hd0 h na nb
   exact⟨g,λk=>by rw[e];exact hg k⟩
theorem QL{Sk:SK}(T:bG Sk){pOf:ab}(hOf:call pOf=OB dv call)(e:∀ args h k,c p args h k=ta pDM pOf pAdd pSub pIM call args h k):ac P p (pg Sk) :=
 jQ (i:=7) hC (R':=λna a nb b=>if na&&decide (a%b≠0) then .tup [T.iv (xor na nb&&decide (a/b+1≠0)) (a/b+1),T.iv false (b-a%b)] else .tup [T.iv (xor na nb&&decide (a/b≠0)) (a/b),T.iv false (a%b)]) (R:=λna a nb b=>if na&&decide (a%b≠0) then .tup [iv (xor na nb&&decide (a/b+1≠0)) (a/b+1),iv false (b-a%b)] else .tup [iv (xor na nb&&decide (a/b≠0)) (a/b),iv false (a%b)])
  (λna a nb b K=>by
   rw[ao,ao,iB]
   have e1:∀ x y:aa,ifC (na&&decide (a.mod b≠0)) x y=if (na&&decide (a%b≠0))=true then x else y:=λx y=>by
    show ifC (na&&decide (a%b≠0)) x y=_
    cases na&&decide (a%b≠0) <;> rfl
   rw[e1]
   split
   ·simp only[ao,T.ivK,cM]
    rw[decide_eq_true (Nat.succ_ne_zero (a/b)),Bool.and_true];rfl
   ·simp only[ao,T.ivK,cM,iB];rfl) (λna a nb b=>by
   split
   ·show AV.tup [(T.iv _ _).nm1,(T.iv _ _).nm1]=_
    rw[T.iv_nm1,T.iv_nm1]
   ·show AV.tup [(T.iv _ _).nm1,(T.iv _ _).nm1]=_
    rw[T.iv_nm1,T.iv_nm1]) (λna a nb b=>by
   split
   ·show ((T.iv _ _).plain1&&((T.iv _ _).plain1&&true))=true
    rw[T.iv_pl1,T.iv_pl1];rfl
   ·show ((T.iv _ _).plain1&&((T.iv _ _).plain1&&true))=true
    rw[T.iv_pl1,T.iv_pl1];rfl) λna a nb b ha hb hf=>by
  have hb0:0<b:=by rw[az]at hf;exact of_decide_eq_true hf
  obtain⟨g,hg⟩:=xU S (λh k=>by rw[hOf,Rx (by decide)]) ha hb hb0 na nb
  exact⟨g,λk=>by rw[e];exact hg k⟩
end
theorem P6{call:Call}{pMul pIM pIAdd pIMul pICmp pMake pWhole:ab}(eM:call pMul=oA dv call)(eI:call pIM=kq call)(eIA:call pIAdd=zY dv call)(eIM:call pIMul=Bj dv call)(eIC:call pICmp=Bs call)(eMk:call pMake=AC dv call)(eW:call pWhole=la dv call):YP call pMul pIM pIAdd pIMul pICmp pMake pWhole where
 mul:=λha hb h k=>by rw[eM,oA,kx ha hb rfl,ao,ip];rfl
 im:=λb n h k=>by rw[eI,qI,OP]
 iadd:=λha hb na nb h k=>by rw[eIA];exact (sg (i:=7) ha hb rfl na nb call h k).trans (by rw[sL,H5])
 imul:=λha hb na nb h k=>by rw[eIM];exact (sg (i:=7) ha hb rfl na nb call h k).trans (by rw[ao,H5,iB,cM];rfl)
 icmp:=λha hb na nb h k=>by rw[eIC];exact (sg (i:=7) ha hb rfl na nb call h k).trans (ug _ _ _ _ _)
 make:=λ{a d} ha hd h0 na nb h k=>by rw[eMk];exact (sg (i:=7) (f:=λ_ d=>Nat.blt 0 d) ha hd (by rw[az,decide_eq_true h0]) na nb call h k).trans (by rw[Na,cM])
 whole:=λb n h k=>by
  have h1:ai 1=[1]:=by decide
  rw[eW,iv,sT dy,qv,h1];exact h1 ▸ rfl
section
variable {call:Call}{pMul pIM pIAdd pIMul pICmp pMake pWhole:ab}(S:YP call pMul pIM pIAdd pIMul pICmp pMake pWhole){c:Call}{p:ab}(hC:aC P c)
include S hC
theorem L6{Sk:SK}(T:bG Sk)(e:∀ args h k,c p args h k=AR pIMul pWhole pMul pMake call args h k):ac P p (I4 Sk) :=
 qJ (i:=3) hC (R':=T.rmul) (R:=rmul) T.rmulK T.rmul_nm T.rmul_pl λna a d nb b q ha hd hb hq hd0 hq0=>by
  obtain⟨g,hg⟩:=FY S ha hb hd hq hd0 hq0 na nb
  exact⟨g,λk=>by rw[e];exact hg k⟩
theorem NV{Sk:SK}(T:bG Sk)(e:∀ args h k,c p args h k=wo pIAdd pWhole pMake pMul pIM call args h k):ac P p (JY Sk) :=
 qJ (i:=3) hC (R':=T.radd) (R:=radd) T.raddK T.radd_nm T.radd_pl λna a d nb b q ha hd hb hq hd0 hq0=>by
  obtain⟨g,hg⟩:=Gf S ha hb hd hq hd0 hq0 na nb
  exact⟨g,λk=>by rw[e];exact hg k⟩
theorem Mu(e:∀ args h k,c p args h k=Ky pICmp pMul pIM call args h k):ac P p Jb :=
 have hi:∀ (na:Bool) (a d:Nat) (nb:Bool) (b q:Nat),∃ z,AY na a d nb b q = .int .i64 z:=λna a d nb b q=>by
  unfold AY
  split
  ·exact jT _ _ _ _
  ·exact jT _ _ _ _
 qJ (i:=3) hC (R':=AY) (R:=AY) Iy (λna a d nb b q=>by obtain⟨z,hz⟩:=hi na a d nb b q;rw[hz];rfl) (λna a d nb b q=>by obtain⟨z,hz⟩:=hi na a d nb b q;rw[hz];rfl) λna a d nb b q ha hd hb hq hd0 hq0=>by
  obtain⟨g,hg⟩:=F7 S ha hb hd hq na nb
  exact⟨g,λk=>by rw[e];exact hg k⟩
end
end Go.Ai
namespace Go.Ai
open Go
abbrev En:=Go.Ai.Call→List AV→H→af→aa
noncomputable section
def ib(b:Bool)(n:Nat):AV:=.agg [.bool b,.bs n]
def qb(b:Bool)(n d:Nat):AV:=.agg [.bool b,.bs n,.bs d]
def vb(b:Bool)(n d:Nat)(b':Bool)(n' d':Nat):AV:=.agg [.bool b,.bs n,.bs d,.bool b',.bs n',.bs d']
def h0:H:=.mk .leaf .e
def zw(l:List AV)(F:AV→List AV→aa):aa:=List.rec (motive:=λ_=>aa) (.bad 60) (λa t _=>F a t) l
def rI(x:AV)(K:Bool→Nat→aa):aa:=zk 32768 x K
def rQ(x:AV)(K:Bool→Nat→Nat→aa):aa:=Bx 32768 x K
def rV(x:AV)(K:Bool→Nat→Nat→Bool→Nat→Nat→aa):aa:=x.onAgg λcs=>zw cs λb cs=>zw cs λs cs=>zw cs λd cs=>qV cs λb' s' d'=>b.onBool λb=>eZ 32768 s λn=>eZ 32768 d λd=>b'.onBool λb'=>eZ 32768 s' λn'=>eZ 32768 d' λd'=>K b n d b' n' d'
def rB(x:AV)(K:Bool→aa):aa:=x.onBool K
def rZ(x:AV)(K:IntKind→Int→aa):aa:=x.onInt K
def rS(x:AV)(K:Nat→aa):aa:=eZ 32768 x K
def rII(x:AV)(K:Bool→Nat→Bool→Nat→aa):aa:=x.onTup λvs=>d9 vs λu v=>rI u λa b=>rI v λc d=>K a b c d
def cl(call:Go.Ai.Call)(p:ab)(as:List AV)(F:AV→aa):aa:=call p as h0 λv _=>F v
def vR(v:AV)(k:AV→aa):aa:=AV.casesOn (motive_1:=λ_=>aa) v (.bad 62) (.bad 62) (.bad 62) (.bad 62) (.bad 62) (.bad 62) (λ_=>.bad 62) (λ_ _=>.bad 62) (λ_ _=>.bad 62) (λ_ _ _=>.bad 62) (λ_=>.bad 62) (λ_=>.bad 62) (λ_=>.bad 62) (λs=>eZ 32768 (.str s) λn=>k (.bs n)) (λ_ _ _ _=>.bad 62) (λb=>k (.bool b)) (λ_ _=>.bad 62) (λkd z=>k (.int kd z)) (λ_=>.bad 62) (λn=>eZ 32768 (.bs n) λn=>k (.bs n))
def HZ(l:List AV):(List AV→aa)→aa:=List.rec (motive:=λ_=>(List AV→aa)→aa) (λk=>k []) (λa _ ih k=>vR a λa=>ih λt=>k (a::t)) l
end
noncomputable def Ct:AV→(AV→aa)→aa
 | .agg cs,k=>HZ cs λcs=>k (.agg cs)
 | v,k=>vR v k
noncomputable def GI:List AV→(List AV→aa)→aa
 | [],k=>k []
 | a::t,k=>Ct a λa=>GI t λt=>k (a::t)
noncomputable def JU:AV→(AV→aa)→aa
 | .tup vs,k=>GI vs λvs=>k (.tup vs)
 | v,k=>Ct v k
noncomputable def hf(call:Call):Call:=λp as h k=>qG as (call p as h0 λv _=>JU v λv=>k v h)
variable [Nu]
theorem Ox(v:AV):(∀ k,bq (vR v k))∨∃ v',v'.nm0=v.nm0∧v'.plain0=true∧v.plain0=true∧∀ k,vR v k=k v':=by
 cases v with
 | bool b=>exact .inr ⟨_,rfl,rfl,rfl,λ_=>rfl⟩
 | int kd z=>exact .inr ⟨_,rfl,rfl,rfl,λ_=>rfl⟩
 | str s =>
  have e:∀ k,vR (.str s) k=eZ 32768 (.str s) λn=>k (.bs n):=λ_=>rfl
  simp only[e]
  rcases fw (L:=32768) (.str s)with hb|⟨n,h1,h2,_,h3⟩
  ·exact .inl λ_=>hb _
  ·exact .inr ⟨.bs n,by rw[AV.nm0,gR,h1],rfl,rfl,λk=>h3 _⟩
 | bs n =>
  have e:∀ k,vR (.bs n) k=eZ 32768 (.bs n) λn=>k (.bs n):=λ_=>rfl
  simp only[e]
  rcases fw (L:=32768) (.bs n)with hb|⟨m,h1,h2,_,h3⟩
  ·exact .inl λ_=>hb _
  ·exact .inr ⟨.bs m,by rw[AV.nm0,gR,h1],rfl,rfl,λk=>h3 _⟩
 | _=>exact .inl λ_=>⟨62,rfl⟩
theorem JD:∀ l:List AV,(∀ k,bq (HZ l k))∨∃ l',l'.map AV.nm0=l.map AV.nm0∧l'.all AV.plain0=true∧l.all AV.plain0=true∧∀ k,HZ l k=k l'
 | []=>.inr ⟨[],rfl,rfl,rfl,λ_=>rfl⟩
 | a::t=>by
  have e:∀ k,HZ (a::t) k=vR a λa=>HZ t λt=>k (a::t):=λ_=>rfl
  simp only[e]
  rcases Ox a with hb|⟨a',h1,h2,h3,e1⟩
  ·exact .inl λ_=>hb _
  simp only[e1]
  rcases JD t with hb|⟨t',h4,h5,h6,e2⟩
  ·exact .inl λ_=>hb _
  exact .inr ⟨a'::t',by simp[h1,h4],by simp[h2,h5],by simp[h3,h6],λk=>e2 _⟩
theorem OK(v:AV):(∀ k,bq (Ct v k))∨∃ v',v'.nm1=v.nm1∧v'.plain1=true∧v.plain1=true∧∀ k,Ct v k=k v':=by
 have z:(∀ k,Ct v k=vR v k)→(∀ k,bq (Ct v k))∨∃ v',v'.nm1=v.nm1∧v'.plain1=true∧v.plain1=true∧∀ k,Ct v k=k v':=λe=>by
  simp only[e]
  rcases Ox v with hb|⟨v',h1,h2,h3,e1⟩
  ·exact .inl hb
  ·exact .inr ⟨v',by rw[vF h2,vF h3,h1],fb h2,fb h3,e1⟩
 cases v with
 | agg cs =>
  rcases JD cs with hb|⟨l',h1,h2,h3,e1⟩
  ·exact .inl λk=>hb _
  ·exact .inr ⟨.agg l',by simp only[AV.nm1,h1],h2,h3,λk=>e1 _⟩
 | _=>exact z λ_=>rfl
theorem Jz:∀ l:List AV,(∀ k,bq (GI l k))∨∃ l',l'.map AV.nm1=l.map AV.nm1∧l'.all AV.plain1=true∧l.all AV.plain1=true∧∀ k,GI l k=k l'
 | []=>.inr ⟨[],rfl,rfl,rfl,λ_=>rfl⟩
 | a::t=>by
  have e:∀ k,GI (a::t) k=Ct a λa=>GI t λt=>k (a::t):=λ_=>rfl
  simp only[e]
  rcases OK a with hb|⟨a',h1,h2,h3,e1⟩
  ·exact .inl λ_=>hb _
  simp only[e1]
  rcases Jz t with hb|⟨t',h4,h5,h6,e2⟩
  ·exact .inl λ_=>hb _
  exact .inr ⟨a'::t',by simp[h1,h4],by simp[h2,h5],by simp[h3,h6],λk=>e2 _⟩
theorem mG{v:AV}(h:v.plain1=true):v.nm=v.nm1:=by cases v <;> first | rfl | (simp only[AV.plain1,AV.plain0,Bool.false_eq_true]at h)
theorem V5(v:AV):(∀ k,bq (JU v k))∨∃ v',v'.nm=v.nm∧v'.plain=true∧v.plain=true∧∀ k,JU v k=k v':=by
 have z:(∀ k,JU v k=Ct v k)→(∀ k,bq (JU v k))∨∃ v',v'.nm=v.nm∧v'.plain=true∧v.plain=true∧∀ k,JU v k=k v':=λe=>by
  simp only[e]
  rcases OK v with hb|⟨v',h1,h2,h3,e1⟩
  ·exact .inl hb
  ·exact .inr ⟨v',by rw[mG h2,mG h3,h1],fU h2,fU h3,e1⟩
 cases v with
 | tup vs =>
  rcases Jz vs with hb|⟨l',h1,h2,h3,e1⟩
  ·exact .inl λk=>hb _
  ·exact .inr ⟨.tup l',by simp only[AV.nm,h1],h2,h3,λk=>e1 _⟩
 | _=>exact z λ_=>rfl
variable {P:Program}
theorem Qj{args:List AV}(ha:args.all AV.plain1=true):(∀ o vs,args ≠ .yld o::vs)∧∀ o,AV.yld o ∉ args :=
 ⟨λo vs hy=>by subst hy;simp[AV.plain1,AV.plain0]at ha,λo ho=>by
  have:=List.all_eq_true.mp ha _ ho
  simp[AV.plain1,AV.plain0]at this⟩
theorem sG{p:ab}{args args':List AV}{v v':AV}{h h':H}(ha:args.all AV.plain1=true)(he:args'.map AV.nm1=args.map AV.nm1)(hv:v.plain=true)(hn:v'.nm=v.nm)(ok:gp P p args' h0 v' h'):gp P p args h v h:=by
 obtain⟨hy,hy2⟩:=Qj ha
 refine pQ (h':=h') ha hv hy (fun ε w hh=>⟨λf A hf hp hr=>?_,λo vs A _ he=>absurd he (hy o vs)⟩) h
 obtain⟨nx,w1,k1,k2,_⟩:=(ok ε w hh).1 f A hf hp ((qD AI _ _).1 (by rw[he];exact (qD AI _ _).2 hr))
 exact⟨nx,w1,k1,k2.mono λV w' ⟨ε',adv,rV⟩=>⟨ε',adv,(QR _ _).1 (by rw[← hn];exact (QR _ _).2 rV)⟩,.inr hy2⟩
theorem Nl{call:Call}(hC:aC P call):aC P (hf call):=by
 intro p args h
 have e0:∀ k,hf call p args h k=qG args (call p args h0 λv _=>JU v λv=>k v h):=λ_=>rfl
 simp only[an,e0]
 rcases sV args with hb|⟨ha,e1⟩
 ·exact .inl λ_=>hb _
 simp only[e1]
 rcases hC p args h0 with hb|⟨v,h',e2,ok⟩
 ·exact .inl λ_=>hb _
 simp only[e2]
 rcases V5 v with hb|⟨v',h1,h2,h3,e3⟩
 ·exact .inl λ_=>hb _
 exact .inr ⟨v',h,λk=>e3 _,sG ha rfl h2 h1.symm ok⟩
theorem wm{p:ab}{s c:En}(hs:ac P p s)
  (hw:∀ call,aC P call→∀ args h,(∀ k,bq (c call args h k))∨∃ args' v h',args.all AV.plain1=true∧args'.map AV.nm1=args.map AV.nm1∧v.plain=true∧(∀ k,c call args h k=k v h)∧∀ k,s (hf call) args' h0 k=k v h'):ac P p c:=by
 intro call hC args h
 rcases hw call hC args h with hb|⟨args',v,h',ha,he,hv,e1,e2⟩
 ·exact .inl hb
 refine .inr ⟨v,h,e1,?_⟩
 rcases hs (hf call) (Nl hC) args' h0 with hb|⟨v1,h1,e3,ok⟩
 ·obtain⟨i,hb⟩:=hb λv h=>.fin v h
  rw[e2]at hb;cases hb
 ·have e4:=(e2 λv h=>.fin v h).symm.trans (e3 λv h=>.fin v h)
  cases e4
  exact sG ha he hv rfl ok
def Fz(h:H)(s:af→aa)(F:af→aa):Prop:=(∀ k,bq (F k))∨∃ v h',v.plain=true∧(∀ k,F k=k v h)∧∀ k,s k=k v h'
theorem Fz.ret{h:H}{s:af→aa}{v:AV}(hv:v.plain=true)(e:∃ h',∀ k,s k=k v h'):Fz h s λk=>k v h:=by
 obtain⟨h',e⟩:=e
 exact .inr ⟨v,h',hv,λ_=>rfl,e⟩
theorem Fz.bad{h:H}{s:af→aa}{F:af→aa}(hb:∀ k,bq (F k)):Fz h s F:=.inl hb
theorem Fz.ifC{h:H}{s F G:af→aa}(b:Bool)(hF:b=true→Fz h s F)(hG:b=false→Fz h s G):Fz h s λk=>ifC b (F k) (G k):=by
 cases b with
 | true=>exact hF rfl
 | false=>exact hG rfl
theorem lO{v:AV}{n:Nat}(h:∀ k,eZ 32768 v k=k n):∀ k,vR v k=k (.bs n):=by
 have e:∀ k,vR v k=eZ 32768 v λn=>k (.bs n):=λk=>by
  cases v with
  | str s=>rfl
  | bs n=>rfl
  | _=>have:=h λ_=>.fin .undef h0;cases this
 exact λk=>by rw[e,h]
structure OG {α : Type} (rd:AV→(α → aa)→aa) (bd : α → AV):Prop where
 w:∀ x,(∀ K,bq (rd x K))∨∃ a,x.plain=true∧(∀ K,rd x K=K a)∧∀ k,JU x k=k (bd a)
theorem Fz.cl{α : Type}{rd:AV→(α → aa)→aa}{bd : α → AV}(R:OG rd bd){h:H}{s:af→aa}{call:Call}(hC:aC P call){p:ab}{as:List AV}(ha:as.all AV.plain1=true){F : α → af→aa}
  (hF:∀ a,(∀ h k,hf call p as h k=k (bd a) h)→Fz h s (F a)):Fz h s λk=>cl call p as λv=>rd v λa=>F a k:=by
 rcases hC p as h0 with hb|⟨v,h',e,_⟩
 ·exact .inl λk=>hb _
 have e0:∀ k,Go.Ai.cl call p as (λv=>rd v λa=>F a k)=rd v λa=>F a k:=λk=>e _
 unfold Fz
 simp only[e0]
 rcases R.w v with hb|⟨a,_,h2,h3⟩
 ·exact .inl λ_=>hb _
 simp only[h2]
 refine hF a λh k=>?_
 show qG as (call p as h0 λv _=>JU v λv=>k v h)=_
 rcases sV as with hb|⟨_,e1⟩
 ·exact absurd ha (λha=>by
   obtain⟨i,hi⟩:=hb (.fin .undef h0)
   have:∀ (l:List AV),l.all AV.plain1=true→∀ r,qG l r=r:=λl=>by
    induction l with
    | nil=>exact λ_ _=>rfl
    | cons a t ih =>
     intro h r
     simp only[List.all_cons,Bool.and_eq_true]at h
     have e0:qG (a::t) r=Ld a (qG t r):=rfl
     rw[e0,ih h.2]
     rcases zl a with hb|⟨_,e⟩
     ·exfalso
      obtain⟨i,hi⟩:=hb (.fin .undef h0)
      have hp:=h.1
      have key:∀ (l:List AV),l.all AV.plain0=true→∀ r,oq l r=r:=λl=>by
       induction l with
       | nil=>exact λ_ _=>rfl
       | cons a t ih =>
        intro h r
        simp only[List.all_cons,Bool.and_eq_true]at h
        have e0:oq (a::t) r=Xr a (oq t r):=rfl
        rw[e0,ih h.2]
        cases a <;> first | rfl | (exact absurd h.1 (by simp[AV.plain0]))
      cases a with
      | agg cs =>
       have e1:Ld (.agg cs) (.fin .undef h0)=oq cs (.fin .undef h0):=rfl
       rw[e1,key cs hp]at hi;cases hi
      | _=>first | (cases hi;done) | (exact absurd hp (by simp[AV.plain1,AV.plain0]))
     ·exact e r
   rw[this as ha]at hi;cases hi)
 ·rw[e1,e,h3]
theorem ZS:OG rB AV.bool:=⟨λx=>by
 cases x with
 | bool b=>exact .inr ⟨b,rfl,λ_=>rfl,λ_=>rfl⟩
 | _=>exact .inl λ_=>⟨_,rfl⟩⟩
theorem ace:OG (λx (K:IntKind × Int→aa)=>rZ x λkd z=>K (kd,z)) (λa=>.int a.1 a.2):=⟨λx=>by
 cases x with
 | int kd z=>exact .inr ⟨(kd,z),rfl,λ_=>rfl,λ_=>rfl⟩
 | _=>exact .inl λ_=>⟨_,rfl⟩⟩
theorem acZ:OG rS AV.bs:=⟨λx=>by
 rcases fw (L:=32768) x with hb|⟨n,hn,ps,hl,e⟩
 ·exact .inl hb
 ·refine .inr ⟨n,fU (fb ps),e,λk=>?_⟩
  have:JU x k=vR x k:=by cases x <;> first | rfl | (simp only[AV.plain0,Bool.false_eq_true]at ps)
  rw[this,lO e]⟩
theorem NU(x:AV):(∀ K,bq (rI x K))∨∃ b n,x.nm1=(ib b n).nm1∧x.plain1=true∧(∀ K,rI x K=K b n)∧∀ k,Ct x k=k (ib b n):=by
 rcases gy x with hb|⟨cs,rfl⟩
 ·exact .inl λ_=>hb _
 have e:∀ K,rI (.agg cs) K=d9 cs λb s=>b.onBool λb=>eZ 32768 s λn=>K b n:=λ_=>rfl
 simp only[e]
 rcases gX cs with hb|⟨b,s,rfl⟩
 ·exact .inl λ_=>hb _
 have e2:∀ F:AV→AV→aa,d9 [b,s] F=F b s:=λ_=>rfl
 simp only[e2]
 rcases dk b with hb|⟨b,rfl⟩
 ·exact .inl λ_=>hb _
 have e3:∀ F:Bool→aa,(AV.bool b).onBool F=F b:=λ_=>rfl
 simp only[e3]
 rcases fw (L:=32768) s with hb|⟨n,hn,ps,hl,e4⟩
 ·exact .inl λ_=>hb _
 refine .inr ⟨b,n,?_,?_,λ_=>by rw[e4],λk=>?_⟩
 ·show AV.agg [(AV.bool b).nm0,s.nm0] = .agg [.bool b,.str (lB n)]
  rw[hn,gR];rfl
 ·show ((AV.bool b).plain0&&(s.plain0&&true))=true
  rw[ps];rfl
 ·show vR (.bool b) (λb=>vR s λs=>k (.agg [b,s]))=_
  show vR s (λs=>k (.agg [.bool b,s]))=_
  rw[lO e4];rfl
theorem Xd(x:AV):(∀ K,bq (rQ x K))∨∃ b n d,x.nm1=(qb b n d).nm1∧x.plain1=true∧(∀ K,rQ x K=K b n d)∧∀ k,Ct x k=k (qb b n d):=by
 rcases gy x with hb|⟨cs,rfl⟩
 ·exact .inl λ_=>hb _
 have e:∀ K,rQ (.agg cs) K=qV cs λb s d=>b.onBool λb=>eZ 32768 s λn=>eZ 32768 d λd=>K b n d:=λ_=>rfl
 simp only[e]
 rcases uE cs with hb|⟨b,s,d,rfl⟩
 ·exact .inl λ_=>hb _
 have e2:∀ F:AV→AV→AV→aa,qV [b,s,d] F=F b s d:=λ_=>rfl
 simp only[e2]
 rcases dk b with hb|⟨b,rfl⟩
 ·exact .inl λ_=>hb _
 have e3:∀ F:Bool→aa,(AV.bool b).onBool F=F b:=λ_=>rfl
 simp only[e3]
 rcases fw (L:=32768) s with hb|⟨n,hn,ps,hl,e4⟩
 ·exact .inl λ_=>hb _
 simp only[e4]
 rcases fw (L:=32768) d with hb|⟨d',hd,pd,hl',e5⟩
 ·exact .inl λ_=>hb _
 refine .inr ⟨b,n,d',?_,?_,λ_=>by rw[e5],λk=>?_⟩
 ·show AV.agg [(AV.bool b).nm0,s.nm0,d.nm0] = .agg [.bool b,.str (lB n),.str (lB d')]
  rw[hn,hd,gR,gR];rfl
 ·show ((AV.bool b).plain0&&(s.plain0&&(d.plain0&&true)))=true
  rw[ps,pd];rfl
 ·show vR s (λs=>vR d λd=>k (.agg [.bool b,s,d]))=_
  rw[lO e4,lO e5];rfl
theorem Wg(x:AV):(∀ K,bq (rV x K))∨∃ b n d b' n' d',x.nm1=(vb b n d b' n' d').nm1∧x.plain1=true∧(∀ K,rV x K=K b n d b' n' d')∧∀ k,Ct x k=k (vb b n d b' n' d'):=by
 have unc:∀ l:List AV,(∀ F,bq (zw l F))∨∃ a t,l=a::t∧∀ F,zw l F=F a t:=λl=>by
  cases l with
  | nil=>exact .inl λ_=>⟨60,rfl⟩
  | cons a t=>exact .inr ⟨a,t,rfl,λ_=>rfl⟩
 rcases gy x with hb|⟨cs,rfl⟩
 ·exact .inl λ_=>hb _
 have e:∀ K,rV (.agg cs) K=zw cs λb cs=>zw cs λs cs=>zw cs λd cs=>qV cs λb' s' d'=>b.onBool λb=>eZ 32768 s λn=>eZ 32768 d λd=>b'.onBool λb'=>eZ 32768 s' λn'=>eZ 32768 d' λd'=>K b n d b' n' d':=λ_=>rfl
 simp only[e]
 rcases unc cs with hb|⟨b,cs,rfl,e⟩
 ·exact .inl λ_=>hb _
 simp only[e]
 rcases unc cs with hb|⟨s,cs,rfl,e⟩
 ·exact .inl λ_=>hb _
 simp only[e]
 rcases unc cs with hb|⟨d,cs,rfl,e⟩
 ·exact .inl λ_=>hb _
 simp only[e]
 rcases uE cs with hb|⟨b',s',d',rfl⟩
 ·exact .inl λ_=>hb _
 have e2:∀ F:AV→AV→AV→aa,qV [b',s',d'] F=F b' s' d':=λ_=>rfl
 simp only[e2]
 have e3:∀ (b:Bool) (F:Bool→aa),(AV.bool b).onBool F=F b:=λ_ _=>rfl
 rcases dk b with hb|⟨b,rfl⟩
 ·exact .inl λ_=>hb _
 simp only[e3]
 rcases fw (L:=32768) s with hb|⟨n,hn,ps,hl,e4⟩
 ·exact .inl λ_=>hb _
 simp only[e4]
 rcases fw (L:=32768) d with hb|⟨m,hd,pd,hl',e5⟩
 ·exact .inl λ_=>hb _
 simp only[e5]
 rcases dk b' with hb|⟨b',rfl⟩
 ·exact .inl λ_=>hb _
 simp only[e3]
 rcases fw (L:=32768) s' with hb|⟨n',hn',ps',hl'',e6⟩
 ·exact .inl λ_=>hb _
 simp only[e6]
 rcases fw (L:=32768) d' with hb|⟨m',hd',pd',hl''',e7⟩
 ·exact .inl λ_=>hb _
 refine .inr ⟨b,n,m,b',n',m',?_,?_,λ_=>by rw[e7],λk=>?_⟩
 ·show AV.agg [(AV.bool b).nm0,s.nm0,d.nm0,(AV.bool b').nm0,s'.nm0,d'.nm0] = .agg [.bool b,.str (lB n),.str (lB m),.bool b',.str (lB n'),.str (lB m')]
  rw[hn,hd,hn',hd',gR,gR,gR,gR];rfl
 ·show ((AV.bool b).plain0&&(s.plain0&&(d.plain0&&((AV.bool b').plain0&&(s'.plain0&&(d'.plain0&&true))))))=true
  rw[ps,pd,ps',pd'];rfl
 ·show vR s (λs=>vR d λd=>vR s' λs'=>vR d' λd'=>k (.agg [.bool b,s,d,.bool b',s',d']))=_
  rw[lO e4,lO e5,lO e6,lO e7];rfl
theorem Ju{x:AV}(h:x.plain1=true)(k:AV→aa):JU x k=Ct x k:=by cases x <;> first | rfl | (simp only[AV.plain1,AV.plain0,Bool.false_eq_true]at h)
theorem Z2:OG (λx (K:Bool × Nat→aa)=>rI x λb n=>K (b,n)) (λa=>ib a.1 a.2):=⟨λx=>by
 rcases NU x with hb|⟨b,n,_,hp,e,e'⟩
 ·exact .inl λ_=>hb _
 ·exact .inr ⟨(b,n),fU hp,λ_=>e _,λk=>by rw[Ju hp,e']⟩⟩
theorem ZP:OG (λx (K:Bool × Nat × Nat→aa)=>rQ x λb n d=>K (b,n,d)) (λa=>qb a.1 a.2.1 a.2.2):=⟨λx=>by
 rcases Xd x with hb|⟨b,n,d,_,hp,e,e'⟩
 ·exact .inl λ_=>hb _
 ·exact .inr ⟨(b,n,d),fU hp,λ_=>e _,λk=>by rw[Ju hp,e']⟩⟩
theorem ae1:OG (λx (K:Bool × Nat × Nat × Bool × Nat × Nat→aa)=>rV x λb n d b' n' d'=>K (b,n,d,b',n',d')) (λa=>vb a.1 a.2.1 a.2.2.1 a.2.2.2.1 a.2.2.2.2.1 a.2.2.2.2.2):=⟨λx=>by
 rcases Wg x with hb|⟨b,n,d,b',n',d',_,hp,e,e'⟩
 ·exact .inl λ_=>hb _
 ·exact .inr ⟨(b,n,d,b',n',d'),fU hp,λ_=>e _,λk=>by rw[Ju hp,e']⟩⟩
theorem TK:OG (λx (K:Bool × Nat × Bool × Nat→aa)=>rII x λb n d e=>K (b,n,d,e)) (λa=>.tup [ib a.1 a.2.1,ib a.2.2.1 a.2.2.2]):=⟨λx=>by
 rcases wS x with hb|⟨vs,rfl⟩
 ·exact .inl λ_=>hb _
 rcases gX vs with hb|⟨u,v,rfl⟩
 ·exact .inl λ_=>hb _
 have e:∀ K,rII (.tup [u,v]) K=rI u λa b=>rI v λc d=>K a b c d:=λ_=>rfl
 simp only[e]
 rcases NU u with hb|⟨b,n,_,hp,e1,e1'⟩
 ·exact .inl λ_=>hb _
 simp only[e1]
 rcases NU v with hb|⟨c,d,_,hp',e2,e2'⟩
 ·exact .inl λ_=>hb _
 refine .inr ⟨(b,n,c,d),by show (u.plain1&&(v.plain1&&true))=true;rw[hp,hp'];rfl,λ_=>e2 _,λk=>?_⟩
 show Ct u (λu=>Ct v λv=>k (.tup [u,v]))=_
 rw[e1',e2']⟩
end Go.Ai
namespace Go.Ai
open Go
noncomputable section
def IL(call:Call)(p:ab)(as:List AV)(F:Bool→Nat→aa):aa:=cl call p as λv=>rI v F
def i4(call:Call)(p:ab)(as:List AV)(F:Bool→Nat→Nat→aa):aa:=cl call p as λv=>rQ v F
def vh(call:Call)(p:ab)(as:List AV)(F:Bool→Nat→Nat→Bool→Nat→Nat→aa):aa:=cl call p as λv=>rV v F
def Uf(call:Call)(p:ab)(as:List AV)(F:Bool→aa):aa:=cl call p as λv=>rB v F
def clZ(call:Call)(p:ab)(as:List AV)(F:IntKind→Int→aa):aa:=cl call p as λv=>rZ v F
def Ec(call:Call)(p:ab)(as:List AV)(F:Nat→aa):aa:=cl call p as λv=>rS v F
def Zx(call:Call)(p:ab)(as:List AV)(F:Bool→Nat→Bool→Nat→aa):aa:=cl call p as λv=>rII v F
def Ot(p_eIMake:ab):En:=λcall args h k=>jz args λx=>rI x λb n=>IL call p_eIMake [.bool (cd true b),.bs n] λb n=>k (ib b n) h
def Ya(p_eINeg:ab):En:=λcall args h k=>jz args λx=>rQ x λb n d=>IL call p_eINeg [ib b n] λb n=>k (qb b n d) h
def OO(p_eNeg p_eRAdd:ab):En:=λcall args h k=>d9 args λx y=>rQ x λb n d=>rQ y λb' n' d'=>i4 call p_eNeg [qb b' n' d'] λb' n' d'=>i4 call p_eRAdd [qb b n d,qb b' n' d'] λb n d=>k (qb b n d) h
def Xy(p_eOf:ab):En:=λcall args h k=>jz args λx=>rZ x λkd z=>ct (.int kd z) J0 h λt _=>rB t λt=>ifC t (uQ .u64 (.int kd z) h λa _=>Dn a h λa _=>rZ a λkd z=>Ec call p_eOf [.int kd z] λn=>k (ib true n) h) (uQ .u64 (.int kd z) h λa _=>rZ a λkd z=>Ec call p_eOf [.int kd z] λn=>k (ib false n) h)
def U9(p_eIOf p_eWhole:ab):En:=λcall args h k=>jz args λx=>rZ x λkd z=>IL call p_eIOf [.int kd z] λb n=>i4 call p_eWhole [ib b n] λb n d=>k (qb b n d) h
def Ev:En:=λcall args h k=>jz args λx=>rQ x λb n d=>cO (Nat.beq n 0) λv=>k v h
def Pm(p_eGcd:ab):En:=λcall args h k=>d9 args λx y=>rI x λ_ n=>rI y λ_ m=>Ec call p_eGcd [.bs n,.bs m] λg=>k (ib false g) h
def KO(p_eIDivMod:ab):En:=λcall args h k=>jz args λx=>rQ x λb n d=>Zx call p_eIDivMod [ib b n,ib false d] λb n _ _=>k (ib b n) h
def WN:En:=λcall args h k=>jz args λx=>rQ x λb n d=>k (qb b d n) h
def Ow(p_eIOf p_eTwo:ab):En:=λcall args h k=>jz args λx=>rZ x λkd z=>ct (.int kd z) J0 h λt _=>rB t λt=>ifC t (IL call p_eIOf [J1] λb n=>Dn (.int kd z) h λa _=>rZ a λkd z=>Ec call p_eTwo [.int kd z] λd=>k (qb b n d) h) (Ec call p_eTwo [.int kd z] λn=>k (.agg [.bool false,.bs n,.str [1]]) h)
def Pp(p_eRCmp:ab):En:=λcall args h k=>d9 args λx y=>rQ x λb n d=>rQ y λb' n' d'=>clZ call p_eRCmp [qb b n d,qb b' n' d'] λkd z=>ct (.int kd z) J0 h k
def Jx:En:=λcall args h k=>jz args λx=>rQ x λb n d=>k (vb b n d b n d) h
def Ps(p_vLess:ab):En:=λcall args h k=>d9 args λx y=>rV x λb n d b' n' d'=>rV y λc m e c' m' e' =>
 Uf call p_vLess [qb c m e,qb b n d] λt=>Uf call p_vLess [qb b' n' d',qb c' m' e'] λu =>
 ifC t (ifC u (k (vb c m e c' m' e') h) (k (vb c m e b' n' d') h)) (ifC u (k (vb b n d c' m' e') h) (k (vb b n d b' n' d') h))
def Sw(p_eRMul p_vPoint p_vHull:ab):En:=λcall args h k=>d9 args λx y=>rV x λb n d b' n' d'=>rV y λc m e c' m' e' =>
 i4 call p_eRMul [qb b n d,qb c m e] λb1 n1 d1=>i4 call p_eRMul [qb b n d,qb c' m' e'] λb2 n2 d2=>i4 call p_eRMul [qb b' n' d',qb c m e] λb3 n3 d3=>i4 call p_eRMul [qb b' n' d',qb c' m' e'] λb4 n4 d4 =>
 vh call p_vPoint [qb b1 n1 d1] λx0 x1 x2 x3 x4 x5 =>
 vh call p_vHull [vb x0 x1 x2 x3 x4 x5,vb x0 x1 x2 x3 x4 x5] λy0 y1 y2 y3 y4 y5 =>
 vh call p_vPoint [qb b2 n2 d2] λx0 x1 x2 x3 x4 x5=>vh call p_vHull [vb y0 y1 y2 y3 y4 y5,vb x0 x1 x2 x3 x4 x5] λy0 y1 y2 y3 y4 y5 =>
 vh call p_vPoint [qb b3 n3 d3] λx0 x1 x2 x3 x4 x5=>vh call p_vHull [vb y0 y1 y2 y3 y4 y5,vb x0 x1 x2 x3 x4 x5] λy0 y1 y2 y3 y4 y5 =>
 vh call p_vPoint [qb b4 n4 d4] λx0 x1 x2 x3 x4 x5=>vh call p_vHull [vb y0 y1 y2 y3 y4 y5,vb x0 x1 x2 x3 x4 x5] λy0 y1 y2 y3 y4 y5=>k (vb y0 y1 y2 y3 y4 y5) h
def O4(p_eRAdd:ab):En:=λcall args h k=>d9 args λx y=>rV x λb n d b' n' d'=>rV y λc m e c' m' e'=>i4 call p_eRAdd [qb b n d,qb c m e] λb1 n1 d1=>i4 call p_eRAdd [qb b' n' d',qb c' m' e'] λb2 n2 d2=>k (vb b1 n1 d1 b2 n2 d2) h
def O6(p_eNeg:ab):En:=λcall args h k=>jz args λx=>rV x λb n d b' n' d'=>i4 call p_eNeg [qb b' n' d'] λb1 n1 d1=>i4 call p_eNeg [qb b n d] λb2 n2 d2=>k (vb b1 n1 d1 b2 n2 d2) h
def OE(p_vNeg p_vAdd:ab):En:=λcall args h k=>d9 args λx y=>rV x λb n d b' n' d'=>rV y λc m e c' m' e'=>vh call p_vNeg [vb c m e c' m' e'] λc m e c' m' e'=>vh call p_vAdd [vb b n d b' n' d',vb c m e c' m' e'] λb n d b' n' d'=>k (vb b n d b' n' d') h
def Pl(p_eRTwo p_eRMul p_eFloor p_eTwo p_eMake:ab):En:=λcall args h k=>d9 args λx y=>rQ x λb n d=>rZ y λkd z=>i4 call p_eRTwo [.int kd z] λb1 n1 d1=>i4 call p_eRMul [qb b n d,qb b1 n1 d1] λb2 n2 d2=>IL call p_eFloor [qb b2 n2 d2] λb3 n3=>Ec call p_eTwo [.int kd z] λt=>i4 call p_eMake [ib b3 n3,ib false t] λb n d=>k (qb b n d) h
def K6(p_vDown p_eNeg:ab):En:=λcall args h k=>d9 args λx y=>rV x λb n d b' n' d'=>rZ y λkd z=>i4 call p_vDown [qb b n d,.int kd z] λb1 n1 d1=>i4 call p_eNeg [qb b' n' d'] λb2 n2 d2=>i4 call p_vDown [qb b2 n2 d2,.int kd z] λb3 n3 d3=>i4 call p_eNeg [qb b3 n3 d3] λb4 n4 d4=>k (vb b1 n1 d1 b4 n4 d4) h
def ED(p_vDown p_eNeg:ab):En:=λcall args h k=>d9 args λx y=>rQ x λb n d=>rZ y λkd z=>i4 call p_vDown [qb b n d,.int kd z] λb1 n1 d1=>i4 call p_eNeg [qb b n d] λb2 n2 d2=>i4 call p_vDown [qb b2 n2 d2,.int kd z] λb3 n3 d3=>i4 call p_eNeg [qb b3 n3 d3] λb4 n4 d4=>k (vb b1 n1 d1 b4 n4 d4) h
end
variable [Nu]
theorem JA(b:Bool)(n d:Nat):(qb b n d).alike (qb b n d)=true:=by
 cases b <;> (
  show Bool.rec (motive:=λ_=>Bool) false (Bool.rec (motive:=λ_=>Bool) false (Bool.rec (motive:=λ_=>Bool) false true (Nat.beq d d)) (Nat.beq n n)) true=true
  rw[Nat.beq_refl,Nat.beq_refl])
theorem Iq(b:Bool)(n:Nat):(ib b n).alike (ib b n)=true:=by
 cases b <;> (
  show Bool.rec (motive:=λ_=>Bool) false (Bool.rec (motive:=λ_=>Bool) false true (Nat.beq n n)) true=true
  rw[Nat.beq_refl])
theorem Jw(b:Bool)(n d:Nat)(b':Bool)(n' d':Nat):(vb b n d b' n' d').alike (vb b n d b' n' d')=true:=by
 cases b <;> cases b' <;> (
  show Bool.rec (motive:=λ_=>Bool) false (Bool.rec (motive:=λ_=>Bool) false (Bool.rec (motive:=λ_=>Bool) false (Bool.rec (motive:=λ_=>Bool) false (Bool.rec (motive:=λ_=>Bool) false (Bool.rec (motive:=λ_=>Bool) false true (Nat.beq d' d')) (Nat.beq n' n')) true) (Nat.beq d d)) (Nat.beq n n)) true=true
  rw[Nat.beq_refl,Nat.beq_refl,Nat.beq_refl,Nat.beq_refl])
theorem si{v:AV}(h:v.alike v=true)(r:aa):must 12 (v.alike v) r=r:=by rw[h,aw]
theorem kC(b:Bool)(n d:Nat)(r:aa):must 12 ((qb b n d).alike (qb b n d)) r=r:=si (JA b n d) r
theorem HM(b:Bool)(n d:Nat)(b':Bool)(n' d':Nat)(r:aa):must 12 ((vb b n d b' n' d').alike (vb b n d b' n' d')) r=r:=si (Jw ..) r
theorem aam(b:Bool)(n:Nat)(r:aa):must 12 ((ib b n).alike (ib b n)) r=r:=si (Iq b n) r
theorem aeO(n:Nat)(r:aa):must 12 ((AV.bs n).alike (.bs n)) r=r:=si (v:=.bs n) (Nat.beq_refl n) r
variable {P:Program}{h:H}{s:af→aa}{call:Call}
theorem Ig(kd:IntKind)(z:Int):(∀ h k,bq (ct (.int kd z) J0 h k))∨∃ b,∀ h k,ct (.int kd z) J0 h k=k (.bool b) h:=by
 cases kd with
 | i64 =>
  refine .inr ⟨sw z 0,λh k=>?_⟩
  show cO (sw z (.ofNat 0)) (λv=>k v h)=_
  cases sw z 0 <;> rfl
 | _=>exact .inl λ_ _=>⟨12,rfl⟩
theorem Wq(kd:IntKind)(z:Int):∃ z',∀ h k,uQ .u64 (.int kd z) h k=k (.int .u64 z') h:=⟨IntKind.wrap .u64 z,λh k=>b5 ..⟩
theorem OZ(kd:IntKind)(z:Int):∃ z',∀ h k,Dn (.int kd z) h k=k (.int kd z') h:=⟨kd.wrap (Int.neg z),λh k=>b5 ..⟩
theorem Fz.z(hC:aC P call){p:ab}{as:List AV}(ha:as.all AV.plain1=true){F:IntKind→Int→af→aa}(hF:∀ kd z,(∀ h k,hf call p as h k=k (.int kd z) h)→Fz h s (F kd z)):Fz h s λk=>clZ call p as λkd z=>F kd z k :=
 Fz.cl ace hC ha (F:=λa=>F a.1 a.2) λa=>hF a.1 a.2
theorem Fz.str(hC:aC P call){p:ab}{as:List AV}(ha:as.all AV.plain1=true){F:Nat→af→aa}(hF:∀ n,(∀ h k,hf call p as h k=k (.bs n) h)→Fz h s (F n)):Fz h s λk=>Ec call p as λn=>F n k :=
 Fz.cl acZ hC ha (F:=λa=>F a) hF
theorem Fz.t(hC:aC P call){p:ab}{as:List AV}(ha:as.all AV.plain1=true){F:Bool→Nat→Bool→Nat→af→aa}(hF:∀ b n c m,(∀ h k,hf call p as h k=k (.tup [ib b n,ib c m]) h)→Fz h s (F b n c m)):Fz h s λk=>Zx call p as λb n c m=>F b n c m k :=
 Fz.cl TK hC ha (F:=λa=>F a.1 a.2.1 a.2.2.1 a.2.2.2) λa=>hF a.1 a.2.1 a.2.2.1 a.2.2.2
theorem Gc:∀ x,(∀ K,bq ((λx (K:IntKind × Int→aa)=>rZ x λb n=>K (b,n)) x K))∨∃ a:IntKind × Int,(AV.int a.1 a.2).nm1=x.nm1∧x.plain1=true∧∀ K,(λx (K:IntKind × Int→aa)=>rZ x λb n=>K (b,n)) x K=K a:=λx=>by
 cases x with
 | int kd z=>exact .inr ⟨(kd,z),rfl,rfl,λ_=>rfl⟩
 | _=>exact .inl λ_=>⟨_,rfl⟩
theorem Fz.i(hC:aC P call){p:ab}{as:List AV}(ha:as.all AV.plain1=true){F:Bool→Nat→af→aa}(hF:∀ b n,(∀ h k,hf call p as h k=k (ib b n) h)→Fz h s (F b n)):Fz h s λk=>IL call p as λb n=>F b n k :=
 Fz.cl Z2 hC ha (F:=λa=>F a.1 a.2) λa=>hF a.1 a.2
theorem Fz.q(hC:aC P call){p:ab}{as:List AV}(ha:as.all AV.plain1=true){F:Bool→Nat→Nat→af→aa}(hF:∀ b n d,(∀ h k,hf call p as h k=k (qb b n d) h)→Fz h s (F b n d)):Fz h s λk=>i4 call p as λb n d=>F b n d k :=
 Fz.cl ZP hC ha (F:=λa=>F a.1 a.2.1 a.2.2) λa=>hF a.1 a.2.1 a.2.2
theorem Fz.v(hC:aC P call){p:ab}{as:List AV}(ha:as.all AV.plain1=true){F:Bool→Nat→Nat→Bool→Nat→Nat→af→aa}(hF:∀ b n d b' n' d',(∀ h k,hf call p as h k=k (vb b n d b' n' d') h)→Fz h s (F b n d b' n' d')):Fz h s λk=>vh call p as λb n d b' n' d'=>F b n d b' n' d' k :=
 Fz.cl ae1 hC ha (F:=λa=>F a.1 a.2.1 a.2.2.1 a.2.2.2.1 a.2.2.2.2.1 a.2.2.2.2.2) λa=>hF a.1 a.2.1 a.2.2.1 a.2.2.2.1 a.2.2.2.2.1 a.2.2.2.2.2
theorem Fz.b(hC:aC P call){p:ab}{as:List AV}(ha:as.all AV.plain1=true){F:Bool→af→aa}(hF:∀ b,(∀ h k,hf call p as h k=k (.bool b) h)→Fz h s (F b)):Fz h s λk=>Uf call p as λb=>F b k :=
 Fz.cl ZS hC ha (F:=λa=>F a) hF
theorem nz{p:ab}{s c:En}{α : Type}{rd:AV→(α → aa)→aa}{bd : α → AV}(hr:∀ x,(∀ K,bq (rd x K))∨∃ a,(bd a).nm1=x.nm1∧x.plain1=true∧∀ K,rd x K=K a)(hs:ac P p s)(F:Call → α → H→af→aa)
  (hc:∀ call args h k,c call args h k=jz args λx=>rd x λa=>F call a h k) (hF:∀ call,aC P call→∀ a h,Fz h (s (hf call) [bd a] h0) (F call a h)):ac P p c:=by
 refine wm hs λcall hC args h=>?_
 simp only[hc]
 rcases qA args with hb|⟨x,rfl⟩
 ·exact .inl λ_=>hb _
 have e:∀ G:AV→aa,jz [x] G=G x:=λ_=>rfl
 simp only[e]
 rcases hr x with hb|⟨a,hn,hp,e1⟩
 ·exact .inl λ_=>hb _
 simp only[e1]
 rcases hF call hC a h with hb|⟨v,h',hv,e2,e3⟩
 ·exact .inl hb
 ·exact .inr ⟨[bd a],v,h',by simp[hp],by simp[hn],hv,e2,e3⟩
theorem nB{p:ab}{s c:En}{α β : Type}{rd:AV→(α → aa)→aa}{bd : α → AV}{rd':AV→(β → aa)→aa}{bd' : β → AV}(hr:∀ x,(∀ K,bq (rd x K))∨∃ a,(bd a).nm1=x.nm1∧x.plain1=true∧∀ K,rd x K=K a)(hr':∀ x,(∀ K,bq (rd' x K))∨∃ a,(bd' a).nm1=x.nm1∧x.plain1=true∧∀ K,rd' x K=K a)(hs:ac P p s)(F:Call → α → β → H→af→aa)
  (hc:∀ call args h k,c call args h k=d9 args λx y=>rd x λa=>rd' y λb=>F call a b h k) (hF:∀ call,aC P call→∀ a b h,Fz h (s (hf call) [bd a,bd' b] h0) (F call a b h)):ac P p c:=by
 refine wm hs λcall hC args h=>?_
 simp only[hc]
 rcases gX args with hb|⟨x,y,rfl⟩
 ·exact .inl λ_=>hb _
 have e:∀ G:AV→AV→aa,d9 [x,y] G=G x y:=λ_=>rfl
 simp only[e]
 rcases hr x with hb|⟨a,hn,hp,e1⟩
 ·exact .inl λ_=>hb _
 simp only[e1]
 rcases hr' y with hb|⟨b,hn',hp',e1'⟩
 ·exact .inl λ_=>hb _
 simp only[e1']
 rcases hF call hC a b h with hb|⟨v,h',hv,e2,e3⟩
 ·exact .inl hb
 ·exact .inr ⟨[bd a,bd' b],v,h',by simp[hp,hp'],by simp[hn,hn'],hv,e2,e3⟩
theorem RE:∀ x,(∀ K,bq ((λx (K:Bool × Nat→aa)=>rI x λb n=>K (b,n)) x K))∨∃ a:Bool × Nat,(ib a.1 a.2).nm1=x.nm1∧x.plain1=true∧∀ K,(λx (K:Bool × Nat→aa)=>rI x λb n=>K (b,n)) x K=K a:=λx=>by
 rcases NU x with hb|⟨b,n,h1,h2,h3,_⟩
 ·exact .inl λ_=>hb _
 ·exact .inr ⟨(b,n),h1.symm,h2,λ_=>h3 _⟩
theorem tL:∀ x,(∀ K,bq ((λx (K:Bool × Nat × Nat→aa)=>rQ x λb n d=>K (b,n,d)) x K))∨∃ a:Bool × Nat × Nat,(qb a.1 a.2.1 a.2.2).nm1=x.nm1∧x.plain1=true∧∀ K,(λx (K:Bool × Nat × Nat→aa)=>rQ x λb n d=>K (b,n,d)) x K=K a:=λx=>by
 rcases Xd x with hb|⟨b,n,d,h1,h2,h3,_⟩
 ·exact .inl λ_=>hb _
 ·exact .inr ⟨(b,n,d),h1.symm,h2,λ_=>h3 _⟩
theorem uZ:∀ x,(∀ K,bq ((λx (K:Bool × Nat × Nat × Bool × Nat × Nat→aa)=>rV x λb n d b' n' d'=>K (b,n,d,b',n',d')) x K))∨∃ a:Bool × Nat × Nat × Bool × Nat × Nat,(vb a.1 a.2.1 a.2.2.1 a.2.2.2.1 a.2.2.2.2.1 a.2.2.2.2.2).nm1=x.nm1∧x.plain1=true∧∀ K,(λx (K:Bool × Nat × Nat × Bool × Nat × Nat→aa)=>rV x λb n d b' n' d'=>K (b,n,d,b',n',d')) x K=K a:=λx=>by
 rcases Wg x with hb|⟨b,n,d,b',n',d',h1,h2,h3,_⟩
 ·exact .inl λ_=>hb _
 ·exact .inr ⟨(b,n,d,b',n',d'),h1.symm,h2,λ_=>h3 _⟩
theorem C8{p pIM:ab}(hs:ac P p (PC pIM)):ac P p (Ot pIM) :=
 nz RE hs (λcall a h k=>IL call pIM [.bool (cd true a.1),.bs a.2] λb n=>k (ib b n) h) (λ_ _ _ _=>rfl) λcall hC ⟨b,n⟩ h=>by
  refine .i hC rfl λb1 n1 e1=>.ret rfl ?_
  cases b
  all_goals (
   generalize hf call=cc at e1
   apply Exists.intro
   intro k
   refine (e1 _ _).trans ?_
   exact rfl)
theorem FQ{p pIN:ab}(hs:ac P p (WR pIN)):ac P p (Ya pIN) :=
 nz tL hs (λcall a h k=>IL call pIN [ib a.1 a.2.1] λb n=>k (qb b n a.2.2) h) (λ_ _ _ _=>rfl) λcall hC ⟨b,n,d⟩ h=>by
  refine .i hC rfl λb1 n1 e1=>.ret rfl ?_
  generalize hf call=cc at e1
  apply Exists.intro
  intro k
  refine (e1 _ _).trans ?_
  refine (aeO d _).trans ?_
  exact rfl
theorem BP{p pN pA:ab}(hs:ac P p (OS pN pA)):ac P p (OO pN pA) :=
 nB tL tL hs (λcall a b h k=>i4 call pN [qb b.1 b.2.1 b.2.2] λb' n' d'=>i4 call pA [qb a.1 a.2.1 a.2.2,qb b' n' d'] λb n d=>k (qb b n d) h) (λ_ _ _ _=>rfl) λcall hC ⟨b,n,d⟩ ⟨c,m,e⟩ h=>by
  refine .q hC rfl λb1 n1 d1 e1=>.q hC rfl λb2 n2 d2 e2=>.ret rfl ?_
  generalize hf call=cc at e1 e2
  apply Exists.intro
  intro k
  refine (e1 _ _).trans ?_
  refine (kC b n d _).trans ?_
  refine (e2 _ _).trans ?_
  exact rfl
theorem G4{p pO pW:ab}(hs:ac P p (ST pO pW)):ac P p (U9 pO pW) :=
 nz Gc hs (λcall a h k=>IL call pO [.int a.1 a.2] λb n=>i4 call pW [ib b n] λb n d=>k (qb b n d) h) (λ_ _ _ _=>rfl) λcall hC ⟨kd,z⟩ h=>by
  refine .i hC rfl λb1 n1 e1=>.q hC rfl λb2 n2 d2 e2=>.ret rfl ?_
  generalize hf call=cc at e1 e2
  apply Exists.intro
  intro k
  refine (e1 _ _).trans ?_
  refine (e2 _ _).trans ?_
  exact rfl
theorem CL{p pG:ab}(hs:ac P p (O9 pG)):ac P p (Pm pG) :=
 nB RE RE hs (λcall a b h k=>Ec call pG [.bs a.2,.bs b.2] λg=>k (ib false g) h) (λ_ _ _ _=>rfl) λcall hC ⟨b,n⟩ ⟨c,m⟩ h=>by
  refine .str hC rfl λn1 e1=>.ret rfl ?_
  generalize hf call=cc at e1
  apply Exists.intro
  intro k
  refine (e1 _ _).trans ?_
  exact rfl
theorem AX{p pD:ab}(hs:ac P p (IE pD)):ac P p (KO pD) :=
 nz tL hs (λcall a h k=>Zx call pD [ib a.1 a.2.1,ib false a.2.2] λb n _ _=>k (ib b n) h) (λ_ _ _ _=>rfl) λcall hC ⟨b,n,d⟩ h=>by
  refine .t hC rfl λb1 n1 b2 n2 e1=>.ret rfl ?_
  generalize hf call=cc at e1
  apply Exists.intro
  intro k
  refine (e1 _ _).trans ?_
  exact rfl
theorem He{p:ab}(hs:ac P p UD):ac P p WN :=
 nz tL hs (λcall a h k=>k (qb a.1 a.2.2 a.2.1) h) (λ_ _ _ _=>rfl) λcall hC ⟨b,n,d⟩ h=>by
  refine .ret rfl ?_
  generalize hf call=cc
  apply Exists.intro
  intro k
  exact rfl
theorem zj{p:ab}(hs:ac P p Jg):ac P p Jx :=
 nz tL hs (λcall a h k=>k (vb a.1 a.2.1 a.2.2 a.1 a.2.1 a.2.2) h) (λ_ _ _ _=>rfl) λcall hC ⟨b,n,d⟩ h=>by
  refine .ret rfl ?_
  generalize hf call=cc
  apply Exists.intro
  intro k
  exact rfl
theorem Ds{p pC:ab}(hs:ac P p (HU pC)):ac P p (Pp pC) :=
 nB tL tL hs (λcall a b h k=>clZ call pC [qb a.1 a.2.1 a.2.2,qb b.1 b.2.1 b.2.2] λkd z=>ct (.int kd z) J0 h k) (λ_ _ _ _=>rfl) λcall hC ⟨b,n,d⟩ ⟨c,m,e⟩ h=>by
  refine .z hC rfl λkd z e1=>?_
  rcases Ig kd z with hb|⟨t,e2⟩
  ·exact .bad λk=>hb h k
  rw[show ct (.int kd z) J0 h = λk=>k (.bool t) h from funext λk=>e2 h k]
  refine Fz.ret (v:=.bool t) rfl ?_
  generalize hf call=cc at e1
  unfold HU Ek
  generalize ct=L at e2
  apply Exists.intro
  intro k
  refine (e1 _ _).trans ?_
  refine (e2 _ _).trans ?_
  exact rfl
theorem CB{p pA:ab}(hs:ac P p (Vq pA)):ac P p (O4 pA) :=
 nB uZ uZ hs (λcall a b h k=>i4 call pA [qb a.1 a.2.1 a.2.2.1,qb b.1 b.2.1 b.2.2.1] λb1 n1 d1=>i4 call pA [qb a.2.2.2.1 a.2.2.2.2.1 a.2.2.2.2.2,qb b.2.2.2.1 b.2.2.2.2.1 b.2.2.2.2.2] λb2 n2 d2=>k (vb b1 n1 d1 b2 n2 d2) h) (λ_ _ _ _=>rfl) λcall hC ⟨b,n,d,b',n',d'⟩ ⟨c,m,e,c',m',e'⟩ h=>by
  refine .q hC rfl λb1 n1 d1 e1=>.q hC rfl λb2 n2 d2 e2=>.ret rfl ?_
  generalize hf call=cc at e1 e2
  apply Exists.intro
  intro k
  refine (e1 _ _).trans ?_
  refine (kC b' n' d' _).trans ?_
  refine (kC c' m' e' _).trans ?_
  refine (e2 _ _).trans ?_
  exact rfl
theorem Ck{p pN:ab}(hs:ac P p (Xg pN)):ac P p (O6 pN) :=
 nz uZ hs (λcall a h k=>i4 call pN [qb a.2.2.2.1 a.2.2.2.2.1 a.2.2.2.2.2] λb1 n1 d1=>i4 call pN [qb a.1 a.2.1 a.2.2.1] λb2 n2 d2=>k (vb b1 n1 d1 b2 n2 d2) h) (λ_ _ _ _=>rfl) λcall hC ⟨b,n,d,b',n',d'⟩ h=>by
  refine .q hC rfl λb1 n1 d1 e1=>.q hC rfl λb2 n2 d2 e2=>.ret rfl ?_
  generalize hf call=cc at e1 e2
  apply Exists.intro
  intro k
  refine (e1 _ _).trans ?_
  refine (kC b n d _).trans ?_
  refine (e2 _ _).trans ?_
  exact rfl
theorem Cm{p pN pA:ab}(hs:ac P p (Xp pN pA)):ac P p (OE pN pA) :=
 nB uZ uZ hs (λcall a b h k=>vh call pN [vb b.1 b.2.1 b.2.2.1 b.2.2.2.1 b.2.2.2.2.1 b.2.2.2.2.2] λc m e c' m' e'=>vh call pA [vb a.1 a.2.1 a.2.2.1 a.2.2.2.1 a.2.2.2.2.1 a.2.2.2.2.2,vb c m e c' m' e'] λb n d b' n' d'=>k (vb b n d b' n' d') h) (λ_ _ _ _=>rfl) λcall hC ⟨b,n,d,b',n',d'⟩ ⟨c,m,e,c',m',e'⟩ h=>by
  refine .v hC rfl λ_ _ _ _ _ _ e1=>.v hC rfl λ_ _ _ _ _ _ e2=>.ret rfl ?_
  generalize hf call=cc at e1 e2
  apply Exists.intro
  intro k
  refine (e1 _ _).trans ?_
  refine (HM b n d b' n' d' _).trans ?_
  refine (e2 _ _).trans ?_
  exact rfl
theorem BL{p pL:ab}(hs:ac P p (OY pL)):ac P p (Ps pL) :=
 nB uZ uZ hs (λcall a b h k=>Uf call pL [qb b.1 b.2.1 b.2.2.1,qb a.1 a.2.1 a.2.2.1] λt=>Uf call pL [qb a.2.2.2.1 a.2.2.2.2.1 a.2.2.2.2.2,qb b.2.2.2.1 b.2.2.2.2.1 b.2.2.2.2.2] λu=>ifC t (ifC u (k (vb b.1 b.2.1 b.2.2.1 b.2.2.2.1 b.2.2.2.2.1 b.2.2.2.2.2) h) (k (vb b.1 b.2.1 b.2.2.1 a.2.2.2.1 a.2.2.2.2.1 a.2.2.2.2.2) h)) (ifC u (k (vb a.1 a.2.1 a.2.2.1 b.2.2.2.1 b.2.2.2.2.1 b.2.2.2.2.2) h) (k (vb a.1 a.2.1 a.2.2.1 a.2.2.2.1 a.2.2.2.2.1 a.2.2.2.2.2) h))) (λ_ _ _ _=>rfl) λcall hC ⟨b,n,d,b',n',d'⟩ ⟨c,m,e,c',m',e'⟩ h=>by
  refine .b hC rfl λt e1=>.b hC rfl λu e2=>?_
  cases t <;> cases u
  all_goals (
   refine .ret rfl ?_
   generalize hf call=cc at e1 e2
   apply Exists.intro
   intro k
   refine (e1 _ _).trans ?_
   refine (e2 _ _).trans ?_
   exact rfl)
theorem CQ{p pT pM pF pN pK:ab}(hs:ac P p (PD pT pM pF pN pK)):ac P p (Pl pT pM pF pN pK) :=
 nB tL Gc hs (λcall a b h k=>i4 call pT [.int b.1 b.2] λb1 n1 d1=>i4 call pM [qb a.1 a.2.1 a.2.2,qb b1 n1 d1] λb2 n2 d2=>IL call pF [qb b2 n2 d2] λb3 n3=>Ec call pN [.int b.1 b.2] λt=>i4 call pK [ib b3 n3,ib false t] λb n d=>k (qb b n d) h) (λ_ _ _ _=>rfl) λcall hC ⟨b,n,d⟩ ⟨kd,z⟩ h=>by
  refine .q hC rfl λb1 n1 d1 e1=>.q hC rfl λb2 n2 d2 e2=>.i hC rfl λb3 n3 e3=>.str hC rfl λt e4=>.q hC rfl λb5 n5 d5 e5=>.ret rfl ?_
  generalize hf call=cc at e1 e2 e3 e4 e5
  apply Exists.intro
  intro k
  refine (e1 _ _).trans ?_
  refine (kC b n d _).trans ?_
  refine (e2 _ _).trans ?_
  refine (e3 _ _).trans ?_
  refine (e4 _ _).trans ?_
  refine (aam b3 n3 _).trans ?_
  refine (e5 _ _).trans ?_
  exact rfl
theorem zI{p pD pN:ab}(hs:ac P p (HR pD pN)):ac P p (K6 pD pN) :=
 nB uZ Gc hs (λcall a b h k=>i4 call pD [qb a.1 a.2.1 a.2.2.1,.int b.1 b.2] λb1 n1 d1=>i4 call pN [qb a.2.2.2.1 a.2.2.2.2.1 a.2.2.2.2.2] λb2 n2 d2=>i4 call pD [qb b2 n2 d2,.int b.1 b.2] λb3 n3 d3=>i4 call pN [qb b3 n3 d3] λb4 n4 d4=>k (vb b1 n1 d1 b4 n4 d4) h) (λ_ _ _ _=>rfl) λcall hC ⟨b,n,d,b',n',d'⟩ ⟨kd,z⟩ h=>by
  refine .q hC rfl λb1 n1 d1 e1=>.q hC rfl λb2 n2 d2 e2=>.q hC rfl λb3 n3 d3 e3=>.q hC rfl λb4 n4 d4 e4=>.ret rfl ?_
  generalize hf call=cc at e1 e2 e3 e4
  apply Exists.intro
  intro k
  refine (e1 _ _).trans ?_
  refine (kC b' n' d' _).trans ?_
  refine (e2 _ _).trans ?_
  refine (e3 _ _).trans ?_
  refine (e4 _ _).trans ?_
  exact rfl
theorem xv{p pD pN:ab}(hs:ac P p (Ff pD pN)):ac P p (ED pD pN) :=
 nB tL Gc hs (λcall a b h k=>i4 call pD [qb a.1 a.2.1 a.2.2,.int b.1 b.2] λb1 n1 d1=>i4 call pN [qb a.1 a.2.1 a.2.2] λb2 n2 d2=>i4 call pD [qb b2 n2 d2,.int b.1 b.2] λb3 n3 d3=>i4 call pN [qb b3 n3 d3] λb4 n4 d4=>k (vb b1 n1 d1 b4 n4 d4) h) (λ_ _ _ _=>rfl) λcall hC ⟨b,n,d⟩ ⟨kd,z⟩ h=>by
  refine .q hC rfl λb1 n1 d1 e1=>.q hC rfl λb2 n2 d2 e2=>.q hC rfl λb3 n3 d3 e3=>.q hC rfl λb4 n4 d4 e4=>.ret rfl ?_
  generalize hf call=cc at e1 e2 e3 e4
  apply Exists.intro
  intro k
  refine (e1 _ _).trans ?_
  refine (kC b n d _).trans ?_
  refine (e2 _ _).trans ?_
  refine (e3 _ _).trans ?_
  refine (e4 _ _).trans ?_
  exact rfl
theorem yx{p:ab}(hs:ac P p su):ac P p Ev :=
 nz tL hs (λcall a h k=>cO (Nat.beq a.2.1 0) λv=>k v h) (λ_ _ _ _=>rfl) λcall hC ⟨b,n,d⟩ h=>by
  have e:∀ (h:H) (k:af),ls false (.bs n) E0 h k=cO (Nat.beq n 0) λv=>k v h:=λh k=>by
   show cO (cd false (Nat.beq n 0)) (λv=>k v h)=_
   cases Nat.beq n 0 <;> rfl
  generalize hf call=cc
  have key:∃ h',∀ k,su cc [qb b n d] h0 k=cO (Nat.beq n 0) λv=>k v h':=by
   apply Exists.intro
   intro k
   refine (e _ _).trans ?_
   cases Nat.beq n 0 <;> exact rfl
  obtain⟨h',hk⟩:=key
  show Fz h (su cc [qb b n d] h0) λk=>cO (Nat.beq n 0) λv=>k v h
  cases hz:Nat.beq n 0 with
  | true=>exact Fz.ret (v:=.bool true) rfl ⟨h',λk=>by rw[hk,hz];rfl⟩
  | false=>exact Fz.ret (v:=.bool false) rfl ⟨h',λk=>by rw[hk,hz];rfl⟩
theorem GR{p pO:ab}(hs:ac P p (LM pO)):ac P p (Xy pO) :=
 nz Gc hs (λcall a h k=>ct (.int a.1 a.2) J0 h λt _=>rB t λt=>ifC t (uQ .u64 (.int a.1 a.2) h λa _=>Dn a h λa _=>rZ a λkd z=>Ec call pO [.int kd z] λn=>k (ib true n) h) (uQ .u64 (.int a.1 a.2) h λa _=>rZ a λkd z=>Ec call pO [.int kd z] λn=>k (ib false n) h)) (λ_ _ _ _=>rfl) λcall hC ⟨kd,z⟩ h=>by
  rcases Ig kd z with hb|⟨t,e⟩
  ·exact .bad λk=>hb h _
  obtain⟨u,eu⟩:=Wq kd z
  obtain⟨w,ew⟩:=OZ .u64 u
  simp only[e,eu,ew]
  cases t with
  | true =>
   refine Fz.str (F:=λn k=>k (ib true n) h) hC rfl λn e1=>.ret rfl ?_
   generalize hf call=cc at e1
   unfold LM CI
   generalize ct=L at e
   generalize Dn=N at ew
   generalize uQ=C at eu
   apply Exists.intro
   intro k
   refine (e _ _).trans ?_
   refine (eu _ _).trans ?_
   refine (ew _ _).trans ?_
   refine (e1 _ _).trans ?_
   exact rfl
  | false =>
   refine Fz.str (F:=λn k=>k (ib false n) h) hC rfl λn e1=>.ret rfl ?_
   generalize hf call=cc at e1
   unfold LM CI
   generalize ct=L at e
   generalize Dn=N at ew
   generalize uQ=C at eu
   apply Exists.intro
   intro k
   refine (e _ _).trans ?_
   refine (eu _ _).trans ?_
   refine (e1 _ _).trans ?_
   exact rfl
theorem Dy{p pI pT:ab}(hs:ac P p (E5 pI pT)):ac P p (Ow pI pT) :=
 nz Gc hs (λcall a h k=>ct (.int a.1 a.2) J0 h λt _=>rB t λt=>ifC t (IL call pI [J1] λb n=>Dn (.int a.1 a.2) h λa _=>rZ a λkd z=>Ec call pT [.int kd z] λd=>k (qb b n d) h) (Ec call pT [.int a.1 a.2] λn=>k (.agg [.bool false,.bs n,.str [1]]) h)) (λ_ _ _ _=>rfl) λcall hC ⟨kd,z⟩ h=>by
  rcases Ig kd z with hb|⟨t,e⟩
  ·exact .bad λk=>hb h _
  obtain⟨w,ew⟩:=OZ kd z
  simp only[e,ew]
  cases t with
  | true =>
   refine Fz.i (F:=λb n k=>Ec call pT [.int kd w] λd=>k (qb b n d) h) hC rfl λb n e1=>Fz.str (F:=λd k=>k (qb b n d) h) hC rfl λd e2=>.ret rfl ?_
   generalize hf call=cc at e1 e2
   unfold E5 yG
   generalize ct=L at e
   generalize Dn=N at ew
   apply Exists.intro
   intro k
   refine (e _ _).trans ?_
   refine (e1 _ _).trans ?_
   refine (ew _ _).trans ?_
   refine (e2 _ _).trans ?_
   exact rfl
  | false =>
   refine Fz.str (F:=λn k=>k (.agg [.bool false,.bs n,.str [1]]) h) hC rfl λn e1=>.ret rfl ?_
   generalize hf call=cc at e1
   unfold E5 yG
   generalize ct=L at e
   generalize Dn=N at ew
   apply Exists.intro
   intro k
   refine (e _ _).trans ?_
   refine (e1 _ _).trans ?_
   exact rfl
set_option maxRecDepth 10000 in
theorem FE{p pM pP pH:ab}(hs:ac P p (SP pM pP pH)):ac P p (Sw pM pP pH) :=
 nB uZ uZ hs (λcall a b h k=>i4 call pM [qb a.1 a.2.1 a.2.2.1,qb b.1 b.2.1 b.2.2.1] λb1 n1 d1=>i4 call pM [qb a.1 a.2.1 a.2.2.1,qb b.2.2.2.1 b.2.2.2.2.1 b.2.2.2.2.2] λb2 n2 d2=>i4 call pM [qb a.2.2.2.1 a.2.2.2.2.1 a.2.2.2.2.2,qb b.1 b.2.1 b.2.2.1] λb3 n3 d3=>i4 call pM [qb a.2.2.2.1 a.2.2.2.2.1 a.2.2.2.2.2,qb b.2.2.2.1 b.2.2.2.2.1 b.2.2.2.2.2] λb4 n4 d4 =>
   vh call pP [qb b1 n1 d1] λx0 x1 x2 x3 x4 x5 =>
   vh call pH [vb x0 x1 x2 x3 x4 x5,vb x0 x1 x2 x3 x4 x5] λy0 y1 y2 y3 y4 y5 =>
   vh call pP [qb b2 n2 d2] λx0 x1 x2 x3 x4 x5=>vh call pH [vb y0 y1 y2 y3 y4 y5,vb x0 x1 x2 x3 x4 x5] λy0 y1 y2 y3 y4 y5 =>
   vh call pP [qb b3 n3 d3] λx0 x1 x2 x3 x4 x5=>vh call pH [vb y0 y1 y2 y3 y4 y5,vb x0 x1 x2 x3 x4 x5] λy0 y1 y2 y3 y4 y5 =>
   vh call pP [qb b4 n4 d4] λx0 x1 x2 x3 x4 x5=>vh call pH [vb y0 y1 y2 y3 y4 y5,vb x0 x1 x2 x3 x4 x5] λy0 y1 y2 y3 y4 y5=>k (vb y0 y1 y2 y3 y4 y5) h) (λ_ _ _ _=>rfl) λcall hC ⟨b,n,d,b',n',d'⟩ ⟨c,m,e,c',m',e'⟩ h=>by
  refine .q hC rfl λb1 n1 d1 e1=>.q hC rfl λb2 n2 d2 e2=>.q hC rfl λb3 n3 d3 e3=>.q hC rfl λb4 n4 d4 e4=>.v hC rfl λx0 x1 x2 x3 x4 x5 e5=>.v hC rfl λy0 y1 y2 y3 y4 y5 e6=>.v hC rfl λp0 p1 p2 p3 p4 p5 e7=>.v hC rfl λz0 z1 z2 z3 z4 z5 e8=>.v hC rfl λq0 q1 q2 q3 q4 q5 e9=>.v hC rfl λw0 w1 w2 w3 w4 w5 e10=>.v hC rfl λr0 r1 r2 r3 r4 r5 e11=>.v hC rfl λt0 t1 t2 t3 t4 t5 e12=>.ret rfl ?_
  generalize hf call=cc at e1 e2 e3 e4 e5 e6 e7 e8 e9 e10 e11 e12
  apply Exists.intro
  intro k
  refine (e1 _ _).trans ?_
  refine (kC b n d _).trans ?_
  refine (kC c' m' e' _).trans ?_
  refine (e2 _ _).trans ?_
  refine (kC b' n' d' _).trans ?_
  refine (kC b' n' d' _).trans ?_
  refine (kC c m e _).trans ?_
  refine (kC c m e _).trans ?_
  refine (e3 _ _).trans ?_
  refine (kC b' n' d' _).trans ?_
  refine (kC b' n' d' _).trans ?_
  refine (kC b' n' d' _).trans ?_
  refine (kC c' m' e' _).trans ?_
  refine (kC c' m' e' _).trans ?_
  refine (kC c' m' e' _).trans ?_
  refine (e4 _ _).trans ?_
  refine (e5 _ _).trans ?_
  refine (e5 _ _).trans ?_
  refine (HM x0 x1 x2 x3 x4 x5 _).trans ?_
  refine (e6 _ _).trans ?_
  refine (e7 _ _).trans ?_
  refine (HM y0 y1 y2 y3 y4 y5 _).trans ?_
  refine (e8 _ _).trans ?_
  refine (e9 _ _).trans ?_
  refine (HM z0 z1 z2 z3 z4 z5 _).trans ?_
  refine (e10 _ _).trans ?_
  refine (e11 _ _).trans ?_
  refine (HM w0 w1 w2 w3 w4 w5 _).trans ?_
  refine (e12 _ _).trans ?_
  exact rfl
end Go.Ai
namespace Go.Ai
open Go
noncomputable section
def Sf(v:AV)(k:AV→aa):aa:=AV.rec (motive_1:=λ_=>aa) (motive_2:=λ_=>PUnit) (.bad 62) (.bad 62) (.bad 62) (.bad 62) (.bad 62) (.bad 62) (λ_=>.bad 62) (λ_ _=>.bad 62) (λ_ _ _=>.bad 62) (λ_ _ _ _ _=>.bad 62) (λ_=>.bad 62) (λ_ _=>.bad 62) (λ_ _=>.bad 62) (λs=>qO 32768 s λn=>k (.bs n)) (λ_ _ _ _=>.bad 62) (λb=>k (.bool b)) (λ_ _=>.bad 62) (λkd z=>k (.int kd z)) (λ_=>.bad 62) (λn=>k (.bs n)) PUnit.unit (λ_ _ _ _=>PUnit.unit) v
def GB(l:List AV):(List AV→aa)→aa:=List.rec (motive:=λ_=>(List AV→aa)→aa) (λk=>k []) (λa _ ih k=>Sf a λa=>ih λt=>k (a::t)) l
def Pj(v:AV)(k:AV→aa):aa:=AV.rec (motive_1:=λ_=>aa) (motive_2:=λ_=>PUnit) (.bad 62) (.bad 62) (.bad 62) (.bad 62) (.bad 62) (.bad 62) (λ_=>.bad 62) (λ_ _=>.bad 62) (λ_ _ _=>.bad 62) (λ_ _ _ _ _=>.bad 62) (λ_=>.bad 62) (λ_ _=>.bad 62) (λcs _=>GB cs λcs=>k (.agg cs)) (λs=>qO 32768 s λn=>k (.bs n)) (λ_ _ _ _=>.bad 62) (λb=>k (.bool b)) (λ_ _=>.bad 62) (λkd z=>k (.int kd z)) (λ_=>.bad 62) (λn=>k (.bs n)) PUnit.unit (λ_ _ _ _=>PUnit.unit) v
def Dm(l:List AV):(List AV→aa)→aa:=List.rec (motive:=λ_=>(List AV→aa)→aa) (λk=>k []) (λa _ ih k=>Pj a λa=>ih λt=>k (a::t)) l
def O0(v:AV)(k:AV→aa):aa:=AV.rec (motive_1:=λ_=>aa) (motive_2:=λ_=>PUnit) (.bad 62) (.bad 62) (.bad 62) (.bad 62) (.bad 62) (.bad 62) (λ_=>.bad 62) (λ_ _=>.bad 62) (λ_ _ _=>.bad 62) (λ_ _ _ _ _=>.bad 62) (λ_=>.bad 62) (λvs _=>Dm vs λvs=>k (.tup vs)) (λcs _=>GB cs λcs=>k (.agg cs)) (λs=>qO 32768 s λn=>k (.bs n)) (λ_ _ _ _=>.bad 62) (λb=>k (.bool b)) (λ_ _=>.bad 62) (λkd z=>k (.int kd z)) (λ_=>.bad 62) (λn=>k (.bs n)) PUnit.unit (λ_ _ _ _=>PUnit.unit) v
def nY(l:List AV):List AV→Bool:=List.rec (motive:=λ_=>List AV→Bool) (λm=>List.rec (motive:=λ_=>Bool) true (λ_ _ _=>false) m) (λa _ ih m=>List.rec (motive:=λ_=>Bool) false (λb u _=>Bool.rec (motive:=λ_=>Bool) false (ih u) (a.alike b)) m) l
def VE(l:List (List AV × AV))(s:En):En:=λcall args h k=>Dm args λas=>List.rec (motive:=λ_=>aa) (s call args h k) (λm _ ih=>ifC (nY as m.1) (k m.2 h) ih) l
end
variable [Nu]{P:Program}
theorem Pc(v:AV):(∀ k,bq (Sf v k))∨∃ v',v'.nm0=v.nm0∧v'.plain0=true∧v.plain0=true∧∀ k,Sf v k=k v':=by
 cases v with
 | bool b=>exact .inr ⟨_,rfl,rfl,rfl,λ_=>rfl⟩
 | int kd z=>exact .inr ⟨_,rfl,rfl,rfl,λ_=>rfl⟩
 | str s =>
  have e:∀ k,Sf (.str s) k=qO 32768 s λn=>k (.bs n):=λ_=>rfl
  simp only[e]
  rcases K2 (L:=32768) s with hb|⟨h1,h2,h3⟩
  ·exact .inl λ_=>hb _
  ·exact .inr ⟨.bs (aB s),by rw[AV.nm0,gR,fE h1];rfl,rfl,rfl,λk=>h3 _⟩
 | bs n=>exact .inr ⟨_,rfl,rfl,rfl,λ_=>rfl⟩
 | _=>exact .inl λ_=>⟨62,rfl⟩
theorem HS:∀ l:List AV,(∀ k,bq (GB l k))∨∃ l',l'.map AV.nm0=l.map AV.nm0∧l'.all AV.plain0=true∧l.all AV.plain0=true∧∀ k,GB l k=k l'
 | []=>.inr ⟨[],rfl,rfl,rfl,λ_=>rfl⟩
 | a::t=>by
  have e:∀ k,GB (a::t) k=Sf a λa=>GB t λt=>k (a::t):=λ_=>rfl
  simp only[e]
  rcases Pc a with hb|⟨a',h1,h2,h3,e1⟩
  ·exact .inl λ_=>hb _
  simp only[e1]
  rcases HS t with hb|⟨t',h4,h5,h6,e2⟩
  ·exact .inl λ_=>hb _
  exact .inr ⟨a'::t',by simp[h1,h4],by simp[h2,h5],by simp[h3,h6],λk=>e2 _⟩
theorem Ph(v:AV):(∀ k,bq (Pj v k))∨∃ v',v'.nm1=v.nm1∧v'.plain1=true∧v.plain1=true∧∀ k,Pj v k=k v':=by
 have z:(∀ k,Pj v k=Sf v k)→(∀ k,bq (Pj v k))∨∃ v',v'.nm1=v.nm1∧v'.plain1=true∧v.plain1=true∧∀ k,Pj v k=k v':=λe=>by
  simp only[e]
  rcases Pc v with hb|⟨v',h1,h2,h3,e1⟩
  ·exact .inl hb
  ·exact .inr ⟨v',by rw[vF h2,vF h3,h1],fb h2,fb h3,e1⟩
 cases v with
 | agg cs =>
  rcases HS cs with hb|⟨l',h1,h2,h3,e1⟩
  ·exact .inl λk=>hb _
  ·exact .inr ⟨.agg l',by simp only[AV.nm1,h1],h2,h3,λk=>e1 _⟩
 | _=>exact z λ_=>rfl
theorem BI:∀ l:List AV,(∀ k,bq (Dm l k))∨∃ l',l'.map AV.nm1=l.map AV.nm1∧l'.all AV.plain1=true∧l.all AV.plain1=true∧∀ k,Dm l k=k l'
 | []=>.inr ⟨[],rfl,rfl,rfl,λ_=>rfl⟩
 | a::t=>by
  have e:∀ k,Dm (a::t) k=Pj a λa=>Dm t λt=>k (a::t):=λ_=>rfl
  simp only[e]
  rcases Ph a with hb|⟨a',h1,h2,h3,e1⟩
  ·exact .inl λ_=>hb _
  simp only[e1]
  rcases BI t with hb|⟨t',h4,h5,h6,e2⟩
  ·exact .inl λ_=>hb _
  exact .inr ⟨a'::t',by simp[h1,h4],by simp[h2,h5],by simp[h3,h6],λk=>e2 _⟩
theorem WU(v:AV):(∀ k,bq (O0 v k))∨∃ v',v'.nm=v.nm∧v'.plain=true∧v.plain=true∧∀ k,O0 v k=k v':=by
 have z:(∀ k,O0 v k=Pj v k)→(∀ k,bq (O0 v k))∨∃ v',v'.nm=v.nm∧v'.plain=true∧v.plain=true∧∀ k,O0 v k=k v':=λe=>by
  simp only[e]
  rcases Ph v with hb|⟨v',h1,h2,h3,e1⟩
  ·exact .inl hb
  ·exact .inr ⟨v',by rw[mG h2,mG h3,h1],fU h2,fU h3,e1⟩
 cases v with
 | tup vs =>
  rcases BI vs with hb|⟨l',h1,h2,h3,e1⟩
  ·exact .inl λk=>hb _
  ·exact .inr ⟨.tup l',by simp only[AV.nm,h1],h2,h3,λk=>e1 _⟩
 | _=>exact z λ_=>rfl
theorem vk:∀ (l m:List AV),nY l m=true→l=m
 | [],[],_=>rfl
 | [],_::_,h=>absurd (show false=true from h) (by decide)
 | _::_,[],h=>absurd (show false=true from h) (by decide)
 | a::l,b::m,h=>by
  obtain⟨h1,h2⟩:=gi h
  rw[zW a b h1,vk l m h2]
theorem yV{T:Tb}{n:Nat}(hC:aC P (d6 T n)){p:ab}{args:List AV}{v:AV}(ha:args.all AV.plain1=true)
  (he:d6 T n p args (.mk .leaf .e) (λv _=>O0 v λv=>.fin v (.mk .leaf .e)) = .fin v (.mk .leaf .e)):jc P p args v∧v.plain=true:=by
 rcases hC p args (.mk .leaf .e)with hb|⟨v1,h1,e1,ok⟩
 ·obtain⟨i,hb⟩:=hb λv _=>O0 v λv=>.fin v (.mk .leaf .e)
  rw[hb]at he;cases he
 ·rw[e1]at he
  rcases WU v1 with hb|⟨v',h2,h3,h4,e2⟩
  ·obtain⟨i,hb⟩:=hb λv=>.fin v (.mk .leaf .e)
   rw[hb]at he;cases he
  ·rw[e2]at he
   cases he
   exact⟨λh=>sG ha rfl h3 h2.symm ok,h3⟩
theorem HB{p:ab}{s:En}(hs:ac P p s){l:List (List AV × AV)}(hl:∀ m ∈ l,jc P p m.1 m.2∧m.2.plain=true):ac P p (VE l s):=by
 intro call hC args h
 have e0:∀ k,VE l s call args h k=Dm args λas=>List.rec (motive:=λ_=>aa) (s call args h k) (λm _ ih=>ifC (nY as m.1) (k m.2 h) ih) l:=λ_=>rfl
 simp only[an,e0]
 rcases BI args with hb|⟨as,h1,h2,h3,e1⟩
 ·exact .inl λ_=>hb _
 simp only[e1]
 have key:∀ l:List (List AV × AV),(∀ m ∈ l,jc P p m.1 m.2∧m.2.plain=true)→an (λk=>List.rec (motive:=λ_=>aa) (s call args h k) (λm _ ih=>ifC (nY as m.1) (k m.2 h) ih) l) (gp P p args h):=λl=>by
  induction l with
  | nil=>exact λ_=>hs call hC args h
  | cons m l ih =>
   intro hl
   have ih:=ih λx hx=>hl x (List.mem_cons_of_mem _ hx)
   show an (λk=>ifC (nY as m.1) (k m.2 h) (List.rec (motive:=λ_=>aa) (s call args h k) (λm _ ih=>ifC (nY as m.1) (k m.2 h) ih) l)) _
   cases h4:nY as m.1 with
   | false=>exact ih
   | true =>
    obtain⟨kn,hp⟩:=hl m List.mem_cons_self
    refine .inr ⟨m.2,h,λ_=>rfl,?_⟩
    have:=vk as m.1 h4
    rw[← this]at kn
    exact sG h3 h1 hp rfl (kn (.mk .leaf .e))
 exact key l hl
end Go.Ai
