/- Quiet operations: they depend on what they look at alone. Values that the interpreter finds alike are the same. The orders of a drawn region. The run of a drawn region in its late order. Heaps that hold less, heaps that hold more. Drawn regions: whatever order is drawn, the end is that of the late order. Drawn regions: one operation, wherever it comes. Drawn regions: effects, and the whole. Functions without a body: what the interpreter says of them. Calls that are known: the table's entries that remember. -/
import Derived.Test.YtdnehjkbflffcaaGreatDoorA2
import Derived.Orders
import Derived.OrdersIn
import Derived.Laws.Externs
import Derived.Lib.Bytealg
import Derived.Lib.MakeNoZero
set_option linter.unusedVariables false
set_option autoImplicit false
namespace Go.Ai
set_option linter.unusedSectionVars false
variable [Nu]
open Go
variable {P:Program}{N:Nat}{ε ε':bu}{m m':cJ}{w w':World}
noncomputable def a6.close(x:a6)(fr:FT):a6:=.const (x.ev fr)
noncomputable def mi.close(x:mi)(fr:FT):mi:=match x with
 | .no=>.no
 | .it x=>.it (x.close fr)
noncomputable def gT(l:List a6)(fr:FT):List a6:=l.map (·.close fr)
noncomputable def nP(l:List iC)(fr:FT):List iC:=l.map λp=>⟨p.off,p.size,p.x.close fr⟩
noncomputable def O.close(o:O)(fr:FT):O:=match o with
 | .mov a0=>.mov (a0.close fr)
 | .pick a0 a1 a2=>.pick (a0.close fr) (a1.close fr) (a2.close fr)
 | .alloc a0 a1=>.alloc a0 a1
 | .box a0=>.box (a0.close fr)
 | .build a0 a1=>.build a0 (nP a1 fr)
 | .buildSlice a0 a1 a2=>.buildSlice a0 a1 (nP a2 fr)
 | .loadS a0=>.loadS (a0.close fr)
 | .loadA a0 a1=>.loadA a0 (a1.close fr)
 | .store a0 a1 a2=>.store a0 (a1.close fr) (a2.close fr)
 | .nilCheck a0=>.nilCheck (a0.close fr)
 | .iadd a0 a1=>.iadd (a0.close fr) (a1.close fr)
 | .isub a0 a1=>.isub (a0.close fr) (a1.close fr)
 | .imul a0 a1=>.imul (a0.close fr) (a1.close fr)
 | .iquo a0 a1=>.iquo (a0.close fr) (a1.close fr)
 | .irem a0 a1=>.irem (a0.close fr) (a1.close fr)
 | .iand a0 a1=>.iand (a0.close fr) (a1.close fr)
 | .ior a0 a1=>.ior (a0.close fr) (a1.close fr)
 | .ishl a0 a1=>.ishl (a0.close fr) (a1.close fr)
 | .ishr a0 a1=>.ishr (a0.close fr) (a1.close fr)
 | .cmp a0 a1 a2 a3=>.cmp a0 a1 (a2.close fr) (a3.close fr)
 | .ieq a0 a1 a2=>.ieq a0 (a1.close fr) (a2.close fr)
 | .sadd a0 a1=>.sadd (a0.close fr) (a1.close fr)
 | .seq a0 a1 a2=>.seq a0 (a1.close fr) (a2.close fr)
 | .slt a0 a1=>.slt (a0.close fr) (a1.close fr)
 | .eqv a0 a1 a2 a3 a4=>.eqv a0 a1 a2 (a3.close fr) (a4.close fr)
 | .isnil a0 a1 a2=>.isnil a0 a1 (a2.close fr)
 | .not a0=>.not (a0.close fr)
 | .neg a0=>.neg (a0.close fr)
 | .convI a0 a1=>.convI a0 (a1.close fr)
 | .b2s a0=>.b2s (a0.close fr)
 | .s2b a0 a1=>.s2b a0 (a1.close fr)
 | .mkSlice a0 a1 a2 a3 a4=>.mkSlice a0 a1 a2 (a3.close fr) (a4.close fr)
 | .sliceStr a0 a1 a2=>.sliceStr (a0.close fr) (a1.close fr) (a2.close fr)
 | .sliceSlc a0 a1 a2 a3 a4=>.sliceSlc a0 (a1.close fr) (a2.close fr) (a3.close fr) (a4.close fr)
 | .sliceArr a0 a1 a2 a3 a4=>.sliceArr a0 a1 (a2.close fr) (a3.close fr) (a4.close fr)
 | .faddr a0 a1=>.faddr a0 (a1.close fr)
 | .field a0 a1 a2 a3=>.field a0 a1 a2 (a3.close fr)
 | .iaddrS a0 a1 a2=>.iaddrS a0 (a1.close fr) (a2.close fr)
 | .iaddrA a0 a1 a2 a3=>.iaddrA a0 a1 (a2.close fr) (a3.close fr)
 | .indexStr a0 a1=>.indexStr (a0.close fr) (a1.close fr)
 | .indexArr a0 a1 a2 a3 a4=>.indexArr a0 a1 a2 (a3.close fr) (a4.close fr)
 | .lookup a0 a1 a2 a3 a4=>.lookup a0 a1 a2 (a3.close fr) (a4.close fr)
 | .mapUpd a0 a1 a2 a3=>.mapUpd a0 (a1.close fr) (a2.close fr) (a3.close fr)
 | .mkMap =>.mkMap
 | .mkFunc a0 a1 a2=>.mkFunc a0 (gT a1 fr) (gT a2 fr)
 | .extract a0 a1=>.extract a0 (a1.close fr)
 | .call a0 a1=>.call a0 (gT a1 fr)
 | .callv a0 a1=>.callv (a0.close fr) (gT a1 fr)
 | .len a0=>.len (a0.close fr)
 | .lenStr a0=>.lenStr (a0.close fr)
 | .lenMap a0=>.lenMap (a0.close fr)
 | .lenC a0=>.lenC a0
 | .append a0 a1 a2 a3 a4=>.append a0 a1 a2 (a3.close fr) (a4.close fr)
 | .copy a0 a1 a2=>.copy a0 (a1.close fr) (a2.close fr)
 | .imax a0 a1=>.imax (a0.close fr) (a1.close fr)
 | .imin a0 a1=>.imin (a0.close fr) (a1.close fr)
 | .ubs a0 a1 a2=>.ubs a0 (a1.close fr) (a2.close fr)
 | .rangeE a0=>.rangeE (a0.close fr)
 | .nextE a0=>.nextE (a0.close fr)
 | .sdata a0=>.sdata (a0.close fr)
 | .p2u a0=>.p2u (a0.close fr)
 | .u2p a0 a1 a2=>.u2p a0 a1 (a2.close fr)
 | .peq a0 a1 a2=>.peq a0 (a1.close fr) (a2.close fr)
 | .capS a0=>.capS (a0.close fr)
 | .clear a0 a1=>.clear a0 (a1.close fr)
theorem lg(l:List a6)(fr fr':FT):qF (gT l fr) fr'=qF l fr:=by
 induction l with
 | nil=>rfl
 | cons x t ih=>exact congrArg (x.ev fr :: ·) ih
theorem lN(l:List iC)(fr fr':FT)(cs:List AV)(k:List AV→aa):putParts (nP l fr) fr' cs k=putParts l fr cs k:=by
 induction l generalizing cs with
 | nil=>rfl
 | cons p t ih =>
  have e:putParts (nP (p::t) fr) fr' cs k=must 12 (Nat.beq (aW (p.x.ev fr).cells) p.size) (lput (p.x.ev fr).cells cs p.off λcs=>putParts (nP t fr) fr' cs k):=rfl
  have e':putParts (p::t) fr cs k=must 12 (Nat.beq (aW (p.x.ev fr).cells) p.size) (lput (p.x.ev fr).cells cs p.off λcs=>putParts t fr cs k):=rfl
  rw[e,e']
  simp only[ih]
theorem tv(o:O)(call:Go.Ai.Call)(fr fr':FT)(h:H)(k:af):(o.close fr).step call fr' h k=o.step call fr h k:=by
 cases o with
 | build z ps=>exact lN ps fr fr' z _
 | buildSlice n z ps=>exact lN ps fr fr' z _
 | mkFunc f a c =>
  show k (.fn f (qF (gT a fr) fr') (qF (gT c fr) fr')) h=k (.fn f (qF a fr) (qF c fr)) h
  rw[lg,lg]
 | call f a =>
  show Aa (gT a fr) fr' _=Aa a fr _
  rw[oL,oL,lg]
 | callv f a =>
  show (f.ev fr).onFnY (λg b c=>must 12 (Nat.blt g 8191) (call (ae g) (cZ b (cZ (qF (gT a fr) fr') c)) h k)) (λo=>call (ae 8191) (.yld o::qF (gT a fr) fr') h k)=(f.ev fr).onFnY (λg b c=>must 12 (Nat.blt g 8191) (call (ae g) (cZ b (cZ (qF a fr) c)) h k)) (λo=>call (ae 8191) (.yld o::qF a fr) h k)
  rw[lg]
 | sliceStr x l u=>cases l <;> cases u <;> rfl
 | sliceSlc s x l u m=>cases l <;> cases u <;> cases m <;> rfl
 | sliceArr n s x l u=>cases l <;> cases u <;> rfl
 | _=>rfl
theorem dj{x:a6}{fr fr':FT}(h:∀ p ∈ i5 x,b6 p fr=b6 p fr'):x.close fr=x.close fr':=by
 cases x with
 | tmp x =>
  have h1:=h x.p (by simp[i5])
  exact congrArg a6.const (by show x.get fr=x.get fr';rw[x.okg,x.okg];exact h1)
 | const v=>rfl
theorem jP{x:mi}{fr fr':FT}(h:∀ p ∈ Hk x,b6 p fr=b6 p fr'):x.close fr=x.close fr':=by
 cases x with
 | no=>rfl
 | it x=>exact congrArg mi.it (dj h)
theorem kW{l:List a6}{fr fr':FT}(h:∀ p ∈ l.flatMap i5,b6 p fr=b6 p fr'):gT l fr=gT l fr':=by
 refine List.map_congr_left λx hx=>dj λp hp=>h p ?_
 exact List.mem_flatMap.2 ⟨x,hx,hp⟩
theorem zm{l:List iC}{fr fr':FT}(h:∀ p ∈ l.flatMap OW,b6 p fr=b6 p fr'):nP l fr=nP l fr':=by
 refine List.map_congr_left λx hx=>?_
 have h1:x.x.close fr=x.x.close fr':=dj λp hp=>h p (List.mem_flatMap.2 ⟨x,hx,hp⟩)
 rw[h1]
theorem At{o:O}{fr fr':FT}(h:∀ p ∈ o.tmps,b6 p fr=b6 p fr'):o.close fr=o.close fr':=by
 cases o <;> simp only[O.tmps,List.mem_append,or_imp,forall_and,List.not_mem_nil,false_imp_iff,implies_true]at h <;> simp only[O.close] <;> first
  | done
  | rw[dj h]
  | rw[zm h]
  | rw[kW h]
  | rw[dj h.1,dj h.2]
  | rw[dj h.1,kW h.2]
  | rw[kW h.1,kW h.2]
  | rw[dj h.1.1,dj h.1.2,dj h.2]
  | rw[dj h.1.1,jP h.1.2,jP h.2]
  | rw[dj h.1.1.1,jP h.1.1.2,jP h.1.2,jP h.2]
theorem CW{o:O}{fr fr':FT}(h:∀ p ∈ o.tmps,b6 p fr=b6 p fr')(call:Go.Ai.Call)(hh:H)(k:af):o.step call fr hh k=o.step call fr' hh k:=by
 rw[← tv o call fr .leaf hh k,← tv o call fr' .leaf hh k,At h]
theorem wz{o:O}(hk:cz o = .pure)(call:Go.Ai.Call)(fr:FT)(h h0:H)(k:af):o.step call fr h k=o.step call fr h0 λv _=>k v h:=by
 cases o <;> first | rfl | cases hk
theorem R.at_has{v:AV}{V:Value}(r:R ε m v V){o:ab}(h:o ∈ v.at):m.has o:=by
 cases v <;> simp only[AV.at,List.mem_singleton,List.not_mem_nil]at h <;> (subst h;simp only[R]at r;exact r.1)
theorem kF{o:ab}{h h':H}(e:h.mem o=h'.mem o)(k:List AV→Nat→aa):cellsOf o h k=cellsOf o h' k:=by
 cases h with
 | mk t n=>cases h' with
  | mk t' n' =>
   have e':ax o t=ax o t':=e
   show Obj.casesOn (motive:=λ_=>aa) (ax o t) (.bad 7) k (λ_ _=>.bad 8) (.bad 9) (λ_ _ _ _ _ _=>.bad 9)=Obj.casesOn (motive:=λ_=>aa) (ax o t') (.bad 7) k (λ_ _=>.bad 8) (.bad 9) (λ_ _ _ _ _ _=>.bad 9)
   rw[e']
theorem tZ{o:ab}{h h':H}(e:h.mem o=h'.mem o)(k:List pV→Nat→aa):mapOf o h k=mapOf o h' k:=by
 cases h with
 | mk t n=>cases h' with
  | mk t' n' =>
   have e':ax o t=ax o t':=e
   show Obj.casesOn (motive:=λ_=>aa) (ax o t) (.bad 10) (λ_ _=>.bad 10) k (.bad 10) (λ_ _ _ _ _ _=>.bad 10)=Obj.casesOn (motive:=λ_=>aa) (ax o t') (.bad 10) (λ_ _=>.bad 10) k (.bad 10) (λ_ _ _ _ _ _=>.bad 10)
   rw[e']
theorem vq{o:O}(hk:cz o = .read)(call:Go.Ai.Call)(fr:FT)(h h0:H)(k:af)(hm:∀ x,o.main=some x→∀ p ∈ (x.ev fr).at,h.mem p=h0.mem p):o.step call fr h k=o.step call fr h0 λv _=>k v h:=by
 cases o <;> first | cases hk | skip
 case loadS x =>
  have hm:=hm x rfl
  show ((x.ev fr).onPtr λo i=>cellsOf o h λcs _=>nthC cs i λv=>k v h)=(x.ev fr).onPtr λo i=>cellsOf o h0 λcs _=>nthC cs i λv=>k v h
  generalize x.ev fr=v at *
  cases v <;> first | rfl | exact kF (hm _ (by simp[AV.at])) _
 case loadA n x =>
  have hm:=hm x rfl
  show ((x.ev fr).onPtr λo i=>cellsOf o h λcs _=>ldropC i cs λcs=>ltake n cs λcs=>k (.agg cs) h)=(x.ev fr).onPtr λo i=>cellsOf o h0 λcs _=>ldropC i cs λcs=>ltake n cs λcs=>k (.agg cs) h
  generalize x.ev fr=v at *
  cases v <;> first | rfl | exact kF (hm _ (by simp[AV.at])) _
 case b2s x =>
  have hm:=hm x rfl
  show ((x.ev fr).lenC λn=>sliceCells 1 (x.ev fr) n h λcs=>bytesC cs λl=>k (.str l) h)=(x.ev fr).lenC λn=>sliceCells 1 (x.ev fr) n h0 λcs=>bytesC cs λl=>k (.str l) h
  generalize x.ev fr=v at *
  cases v <;> first | rfl | skip
  case slc o i n c =>
   show must 12 (Nat.ble n n) (cellsOf o h λcs _=>ldropC i cs λcs=>ltake (Nat.mul n 1) cs λcs=>bytesC cs λl=>k (.str l) h)=must 12 (Nat.ble n n) (cellsOf o h0 λcs _=>ldropC i cs λcs=>ltake (Nat.mul n 1) cs λcs=>bytesC cs λl=>k (.str l) h)
   rw[kF (hm o (by simp[AV.at]))]
 case lookup s z c x y =>
  have hm:=hm x rfl
  show must 12 ((y.ev fr).isKey s) ((x.ev fr).onMapN (dD c z false h k) λo=>mapOf o h λes _=>findEnt (y.ev fr) es (λq=>Option.casesOn (motive:=λ_=>aa) q (dD c z false h k) (λq=>dD c q.1 true h k)) 0)=must 12 ((y.ev fr).isKey s) ((x.ev fr).onMapN (dD c z false h0 λv _=>k v h) λo=>mapOf o h0 λes _=>findEnt (y.ev fr) es (λq=>Option.casesOn (motive:=λ_=>aa) q (dD c z false h0 λv _=>k v h) (λq=>dD c q.1 true h0 λv _=>k v h)) 0)
  have hf:∀ v b,(dD c v b h0 λv _=>k v h)=dD c v b h k:=λv b=>by cases c <;> rfl
  simp only[hf]
  generalize x.ev fr=v at *
  cases v <;> first | rfl | skip
  case map o=>exact congrArg _ (tZ (hm o (by simp[AV.at])) _)
 case lenMap x =>
  have hm:=hm x rfl
  show ((x.ev fr).onMapN (k (.int .i64 0) h) λo=>mapOf o h λes _=>forceN (aW es) λn=>k (.int .i64 (.ofNat n)) h)=(x.ev fr).onMapN (k (.int .i64 0) h) λo=>mapOf o h0 λes _=>forceN (aW es) λn=>k (.int .i64 (.ofNat n)) h
  generalize x.ev fr=v at *
  cases v <;> first | rfl | exact tZ (hm _ (by simp[AV.at])) _
theorem tM(l:List iC)(fr:FT)(cs:List AV):(∀ k,bq (putParts l fr cs k))∨∃ cs',∀ k,putParts l fr cs k=k cs':=by
 induction l generalizing cs with
 | nil=>exact .inr ⟨cs,λ_=>rfl⟩
 | cons p t ih =>
  have e':∀ k,putParts (p::t) fr cs k=must 12 (Nat.beq (aW (p.x.ev fr).cells) p.size) (lput (p.x.ev fr).cells cs p.off λcs=>putParts t fr cs k):=λ_=>rfl
  simp only[e']
  rcases ay 12 (Nat.beq (aW (p.x.ev fr).cells) p.size)with hb|⟨h2,e2⟩
  ·exact .inl λ_=>hb _
  simp only[e2]
  rcases oa (p.x.ev fr).cells cs p.off with hb|⟨h3,e3⟩
  ·exact .inl λ_=>hb _
  simp only[e3]
  exact ih _
theorem Di{o:O}(hk:cz o = .alloc)(call:Go.Ai.Call)(fr:FT):(∀ h k,bq (o.step call fr h k))∨∃ (b:Obj) (mk:ab→AV),b ≠ .none∧∀ h k,o.step call fr h k=newObj b h λo h=>k (mk o) h:=by
 cases o <;> first | cases hk | skip
 case alloc es z=>exact .inr ⟨.cells z es,λo=>.ptr o 0,by simp,λ_ _=>rfl⟩
 case box x=>exact .inr ⟨.cells (x.ev fr).cells 0,λo=>.ptr o 0,by simp,λ_ _=>rfl⟩
 case mkMap=>exact .inr ⟨.map [] 0,.map,by simp,λ_ _=>rfl⟩
 case buildSlice n z ps =>
  have e0:∀ h k,(O.buildSlice n z ps).step call fr h k=putParts ps fr z λcs=>newObj (.cells cs 0) h λo h=>k (.slc o 0 n (.exact n)) h:=λ_ _=>rfl
  simp only[e0]
  rcases tM ps fr z with hb|⟨cs,e⟩
  ·exact .inl λ_ _=>hb _
  simp only[e]
  exact .inr ⟨.cells cs 0,λo=>.slc o 0 n (.exact n),by simp,λ_ _=>rfl⟩
 case s2b es x =>
  have e0:∀ h k,(O.s2b es x).step call fr h k=(x.ev fr).onStr λs=>newObj (.cells (cT s) es) h λo h=>k (.slc o 0 (aW s) (.opn (aW s))) h:=λ_ _=>rfl
  simp only[e0]
  rcases fZ (x.ev fr)with hb|⟨s,e⟩
  ·exact .inl λ_ _=>hb _
  simp only[e.1]
  exact .inr ⟨.cells (cT s) es,λo=>.slc o 0 (aW s) (.opn (aW s)),by simp,λ_ _=>rfl⟩
 case mkSlice s b z l c =>
  have e0:∀ h k,(O.mkSlice s b z l c).step call fr h k=evNat l fr λl=>evNat c fr λc=>must 12 (Nat.ble l c) (must 12 (Nat.ble (Nat.mul b c) 1099511627776) (must 12 (Nat.ble c 1099511627776) (newObj (.cells (eQ z c) 0) h λo h=>forceN l λl=>forceN c λc=>k (.slc o 0 l (.exact c)) h))):=λ_ _=>rfl
  simp only[e0,ao]
  rcases fm l fr with hb|⟨kd,n,e1,e2⟩
  ·exact .inl λ_ _=>hb _
  simp only[e2]
  rcases fm c fr with hb|⟨kd',q,e3,e4⟩
  ·exact .inl λ_ _=>hb _
  simp only[e4]
  rcases ay 12 (Nat.ble n q)with hb|⟨h5,e5⟩
  ·exact .inl λ_ _=>hb _
  simp only[e5]
  rcases ay 12 (Nat.ble (Nat.mul b q) 1099511627776)with hb|⟨h6,e6⟩
  ·exact .inl λ_ _=>hb _
  simp only[e6]
  rcases ay 12 (Nat.ble q 1099511627776)with hb|⟨h7,e7⟩
  ·exact .inl λ_ _=>hb _
  simp only[e7]
  exact .inr ⟨.cells (eQ z q) 0,λo=>.slc o 0 n (.exact q),by simp,λ_ _=>rfl⟩
theorem vz{b:Obj}{t:HT}{n:ab}(e:ax n t = .none)(k:ab→H→aa):newObj b (.mk t n) k=k n (.mk (aX b n t) n.inc):=by
 show Obj.casesOn (motive:=λ_=>aa) (ax n t) (k n (.mk (aX b n t) n.inc)) (λ_ _=>.bad 6) (λ_ _=>.bad 6) (.bad 6) (λ_ _ _ _ _ _=>.bad 6)=_
 rw[e]
theorem Cx{b:Obj}{t:HT}{n:ab}(e:ax n t ≠ .none)(k:ab→H→aa):bq (newObj b (.mk t n) k):=by
 show bq (Obj.casesOn (motive:=λ_=>aa) (ax n t) (k n (.mk (aX b n t) n.inc)) (λ_ _=>.bad 6) (λ_ _=>.bad 6) (.bad 6) (λ_ _ _ _ _ _=>.bad 6))
 cases h:ax n t <;> first | exact absurd h e | exact⟨6,rfl⟩
def og(o:O)(call:Go.Ai.Call)(fr:FT)(h:H)(v:AV)(h':H):Prop:=∀ k,o.step call fr h k=k v h'
theorem og.uniq{o:O}{call:Go.Ai.Call}{fr:FT}{h h1 h2:H}{v1 v2:AV}(a:og o call fr h v1 h1)(b:og o call fr h v2 h2):v1=v2∧h1=h2:=by
 have:=(a λv h=>.fin v h).symm.trans (b λv h=>.fin v h)
 cases this;exact⟨rfl,rfl⟩
theorem og.notBad{o:O}{call:Go.Ai.Call}{fr:FT}{h h1:H}{v:AV}(a:og o call fr h v h1)(hb:∀ k,bq (o.step call fr h k)):False:=by
 obtain⟨i,e⟩:=hb λv h=>.fin v h
 rw[a]at e;cases e
theorem og.agree{o:O}{call:Go.Ai.Call}{fr fr':FT}{h h1:H}{v:AV}(a:og o call fr h v h1)(hf:∀ p ∈ o.tmps,b6 p fr=b6 p fr'):og o call fr' h v h1:=λk=>by rw[← CW hf];exact a k
theorem og.pure_heap{o:O}{call:Go.Ai.Call}{fr:FT}{h h1:H}{v:AV}(hk:cz o = .pure)(a:og o call fr h v h1):h1=h:=by
 have h2:=a λv h=>.fin v h
 rw[wz hk call fr h h,a]at h2
 cases h2;rfl
theorem og.pure_any{o:O}{call:Go.Ai.Call}{fr:FT}{h h1:H}{v:AV}(hk:cz o = .pure)(a:og o call fr h v h1)(h0:H):og o call fr h0 v h0:=λk=>by
 rw[wz hk call fr h0 h];exact a _
theorem og.read_heap{o:O}{call:Go.Ai.Call}{fr:FT}{h h1:H}{v:AV}(hk:cz o = .read)(a:og o call fr h v h1):h1=h:=by
 have h2:=a λv h=>.fin v h
 rw[vq hk call fr h h _ (λ_ _ _ _=>rfl),a]at h2
 cases h2;rfl
theorem og.read_any{o:O}{call:Go.Ai.Call}{fr:FT}{h h1:H}{v:AV}(hk:cz o = .read)(a:og o call fr h v h1)(h0:H)(hm:∀ x,o.main=some x→∀ p ∈ (x.ev fr).at,h0.mem p=h.mem p):og o call fr h0 v h0:=λk=>by
 rw[vq hk call fr h0 h k hm];exact a _
def H.next:H→ab
 | .mk _ n=>n
def H.tree:H→HT
 | .mk t _=>t
theorem og.alloc_any{o:O}{call:Go.Ai.Call}{fr:FT}{h h1:H}{v:AV}(hk:cz o = .alloc)(a:og o call fr h v h1):¬ h.mem.has h.next∧∃ b,b ≠ .none∧h1.mem=upd h.mem h.next b∧∀ t,ax h.next t = .none→og o call fr (.mk t h.next) v (.mk (aX b h.next t) h.next.inc):=by
 cases h with
 | mk t n =>
  rcases Di hk call fr with hb|⟨b,mk,hb,e⟩
  ·exact (a.notBad λk=>hb _ k).elim
  by_cases hn:ax n t = .none
  ·have e1:∀ k,o.step call fr (.mk t n) k=k (mk n) (.mk (aX b n t) n.inc):=λk=>by rw[e,vz hn]
   obtain⟨rfl,rfl⟩:=a.uniq e1
   refine⟨λh=>h hn,b,hb,?_,λt' hn' k=>?_⟩
   ·funext p;exact cC b p n t
   ·have hn'':ax n t' = .none:=hn'
    show o.step call fr (.mk t' n) k=k (mk n) (.mk (aX b n t') n.inc)
    rw[e,vz hn'']
  ·exact (a.notBad λk=>by rw[e];exact Cx hn _).elim
end Go.Ai
namespace Go.Ai
set_option linter.unusedSectionVars false
variable [Nu]
open Go
theorem gi{a b:Bool}(h:Bool.casesOn (motive:=λ_=>Bool) a false b=true):a=true∧b=true:=by
 cases a
 ·exact absurd (show false=true from h) (by decide)
 ·exact⟨rfl,h⟩
theorem gA:∀ (p q:ab),p.beq q=true→p=q
 | .e,.e,_=>rfl
 | .e,.l _,h=>absurd (show false=true from h) (by decide)
 | .e,.r _,h=>absurd (show false=true from h) (by decide)
 | .l _,.e,h=>absurd (show false=true from h) (by decide)
 | .l p,.l q,h=>by rw[gA p q h]
 | .l _,.r _,h=>absurd (show false=true from h) (by decide)
 | .r _,.e,h=>absurd (show false=true from h) (by decide)
 | .r _,.l _,h=>absurd (show false=true from h) (by decide)
 | .r p,.r q,h=>by rw[gA p q h]
theorem El:∀ (l m:List Nat),Dc l m=true→l=m
 | [],[],_=>rfl
 | [],_::_,h=>absurd (show false=true from h) (by decide)
 | _::_,[],h=>absurd (show false=true from h) (by decide)
 | a::l,b::m,h=>by
  obtain⟨h1,h2⟩:=gi h
  rw[Nat.eq_of_beq_eq_true h1,El l m h2]
theorem MW:∀ (n m:Int),ieq n m=true→n=m
 | .ofNat a,.ofNat b,h=>by rw[Nat.eq_of_beq_eq_true h]
 | .ofNat _,.negSucc _,h=>absurd (show false=true from h) (by decide)
 | .negSucc _,.ofNat _,h=>absurd (show false=true from h) (by decide)
 | .negSucc a,.negSucc b,h=>by rw[Nat.eq_of_beq_eq_true h]
theorem EJ(v w:AV)(h:v.same w=true):v=w:=by
 cases v <;> cases w <;> first
  | exact absurd (show false=true from h) (by decide)
  | rfl
  | skip
 case bool.bool b c=>cases b <;> cases c <;> first | rfl | exact absurd (show false=true from h) (by decide)
 case int.int k n j m =>
  obtain⟨h1,h2⟩:=gi h
  rw[MW n m h2]
  have h3:=Nat.eq_of_beq_eq_true h1
  congr 1
  cases k <;> cases j <;> first | rfl | (exact absurd h3 (by decide))
 case str.str s t=>rw[El s t h]
 case bs.bs n m=>rw[Nat.eq_of_beq_eq_true h]
 case ptr.ptr o i q j =>
  obtain⟨h1,h2⟩:=gi h
  rw[Nat.eq_of_beq_eq_true h1,gA o q h2]
 case slc.slc o i n c q j m d =>
  obtain⟨h1,h⟩:=gi h
  obtain⟨h2,h⟩:=gi h
  obtain⟨h3,h⟩:=gi h
  rw[Nat.eq_of_beq_eq_true h1,Nat.eq_of_beq_eq_true h2,gA o q h3]
  cases c <;> cases d <;> first
   | (rw[Nat.eq_of_beq_eq_true h])
   | exact absurd (show false=true from h) (by decide)
 case map.map o q=>rw[gA o q h]
 case sle.sle o i q j =>
  obtain⟨h1,h2⟩:=gi h
  rw[Nat.eq_of_beq_eq_true h1,gA o q h2]
theorem mC:∀ (l m:List AV),tp l m=true→l=m
 | [],[],_=>rfl
 | [],_::_,h=>absurd (show false=true from h) (by decide)
 | _::_,[],h=>absurd (show false=true from h) (by decide)
 | a::l,b::m,h=>by
  obtain⟨h1,h2⟩:=gi h
  rw[EJ a b h1,mC l m h2]
theorem zW(v w:AV)(h:v.alike w=true):v=w:=by
 by_cases hs:v.same w=true
 ·exact EJ v w hs
 ·cases v <;> first
   | exact absurd h hs
   | skip
  case fn f a c =>
   cases w <;> first | exact absurd (show false=true from h) (by decide) | skip
   obtain⟨h1,h⟩:=gi h
   obtain⟨h2,h3⟩:=gi h
   rw[Nat.eq_of_beq_eq_true h1,mC _ _ h2,mC _ _ h3]
  case agg cs =>
   cases w <;> first | exact absurd (show false=true from h) (by decide) | skip
   rw[mC _ _ h]
end Go.Ai
namespace Go.Ai
set_option linter.unusedSectionVars false
variable [Nu]
open Go
variable {P:Program}{N:Nat}{ops:Array Oper}{b:Array Nat}
def fX(acc:Array Nat)(o:Oper):Nat:=o.after.foldl (λs e=>if Region.binds .any e then s ||| 2^e.on ||| acc.getD e.on 0 else s) 0
theorem yw(acc:Array Nat)(o:Oper){j:Nat}(h:(fX acc o).testBit j=true):∃ e ∈ o.after,Region.binds .any e=true∧(e.on=j∨(acc.getD e.on 0).testBit j=true):=by
 have key:∀ (l:List Edge) (s:Nat),(l.foldl (λs e=>if Region.binds .any e then s ||| 2^e.on ||| acc.getD e.on 0 else s) s).testBit j=true→s.testBit j=true∨∃ e ∈ l,Region.binds .any e=true∧(e.on=j∨(acc.getD e.on 0).testBit j=true):=by
  intro l
  induction l with
  | nil=>exact λs h=>.inl h
  | cons e t ih =>
   intro s h
   rw[List.foldl_cons]at h
   rcases ih _ h with h1|⟨e',he',h1⟩
   ·by_cases hb:Region.binds .any e=true
    ·rw[if_pos hb,Nat.testBit_or,Nat.testBit_or,Bool.or_eq_true,Bool.or_eq_true]at h1
     rcases h1 with (h1|h1) | h1
     ·exact .inl h1
     ·rw[Nat.testBit_two_pow]at h1
      exact .inr ⟨e,by simp,hb,.inl (by simpa using h1)⟩
     ·exact .inr ⟨e,by simp,hb,.inr h1⟩
    ·rw[if_neg hb]at h1;exact .inl h1
   ·exact .inr ⟨e',by simp[he'],h1⟩
 unfold fX at h
 rw[← Array.foldl_toList]at h
 rcases key _ _ h with h1|⟨e,he,h1⟩
 ·simp at h1
 ·exact⟨e,by simpa using he,h1⟩
theorem uP(acc:Array Nat)(o:Oper){e:Edge}(he:e ∈ o.after)(hb:Region.binds .any e=true):(fX acc o).testBit e.on=true:=by
 have grow:∀ (l:List Edge) (s:Nat),s.testBit e.on=true→(l.foldl (λs e=>if Region.binds .any e then s ||| 2^e.on ||| acc.getD e.on 0 else s) s).testBit e.on=true:=by
  intro l
  induction l with
  | nil=>exact λs h=>h
  | cons x t ih =>
   intro s h
   rw[List.foldl_cons]
   refine ih _ ?_
   split
   ·rw[Nat.testBit_or,Nat.testBit_or,h];rfl
   ·exact h
 have key:∀ (l:List Edge) (s:Nat),e ∈ l→(l.foldl (λs e=>if Region.binds .any e then s ||| 2^e.on ||| acc.getD e.on 0 else s) s).testBit e.on=true:=by
  intro l
  induction l with
  | nil=>exact λs h=>by cases h
  | cons x t ih =>
   intro s h
   rw[List.foldl_cons]
   rcases List.mem_cons.1 h with rfl|h
   ·refine grow _ _ ?_
    rw[if_pos hb,Nat.testBit_or,Nat.testBit_or,Nat.testBit_two_pow];simp
   ·exact ih _ h
 unfold fX
 rw[← Array.foldl_toList]
 exact key _ _ (by simpa using he)
theorem ii(A:Array Nat)(x:Nat){i:Nat}(h:i<A.size):(A.push x).getD i 0=A.getD i 0:=by
 simp[Array.getD_eq_getD_getElem?,Array.getElem?_push,Nat.ne_of_lt h]
theorem oJ(A:Array Nat)(x:Nat):(A.push x).getD A.size 0=x:=by
 simp[Array.getD_eq_getD_getElem?]
def xQ(ops:Array Oper)(acc:Array Nat):Prop:=∀ i,i<acc.size→∃ o,ops[i]? = some o∧(∀ j,(acc.getD i 0).testBit j=true→∃ e ∈ o.after,Region.binds .any e=true∧(e.on=j∨(e.on<i∧(acc.getD e.on 0).testBit j=true)))∧∀ e ∈ o.after,Region.binds .any e=true→(acc.getD i 0).testBit e.on=true
theorem p7(ops:Array Oper):xQ ops (Region.before ops)∧(Region.before ops).size=ops.size:=by
 have key:∀ (l:List Oper) (acc:Array Nat),xQ ops acc→ops.toList.drop acc.size=l→xQ ops (l.foldl (λacc o=>acc.push (fX acc o)) acc)∧(l.foldl (λacc o=>acc.push (fX acc o)) acc).size=acc.size+l.length:=by
  intro l
  induction l with
  | nil=>exact λacc h _=>⟨h,rfl⟩
  | cons o t ih =>
   intro acc h hl
   have hi:ops[acc.size]? = some o:=by
    have:=congrArg (·[0]?) hl
    simpa using this
   have ht:ops.toList.drop (acc.size+1)=t:=by rw[← List.drop_drop,hl];rfl
   have h2:xQ ops (acc.push (fX acc o)):=by
    intro i hi'
    rw[Array.size_push]at hi'
    by_cases hlt:i<acc.size
    ·obtain⟨o',ho',h3,h4⟩:=h i hlt
     refine⟨o',ho',λj hj=>?_,λe he hb=>?_⟩
     ·rw[ii _ _ hlt]at hj
      obtain⟨e,he,hb,h5⟩:=h3 j hj
      refine⟨e,he,hb,h5.imp id λ⟨h6,h7⟩=>⟨h6,?_⟩⟩
      rw[ii _ _ (by omega)];exact h7
     ·rw[ii _ _ hlt];exact h4 e he hb
    ·have hieq:i=acc.size:=by omega
     subst hieq
     refine⟨o,hi,λj hj=>?_,λe he hb=>?_⟩
     ·rw[oJ]at hj
      obtain⟨e,he,hb,h5⟩:=yw acc o hj
      refine⟨e,he,hb,h5.imp id λh6=>?_⟩
      have h7:e.on<acc.size:=by
       by_cases h7:e.on<acc.size
       ·exact h7
       ·have:acc.getD e.on 0=0:=by simp[Array.getD_eq_getD_getElem?,h7]
        rw[this]at h6;simp at h6
      exact⟨h7,by rw[ii _ _ h7];exact h6⟩
     ·rw[oJ];exact uP acc o he hb
   have h3:=ih (acc.push (fX acc o)) h2 (by rw[Array.size_push];exact ht)
   rw[List.foldl_cons]
   exact⟨h3.1,by rw[h3.2,Array.size_push,List.length_cons];omega⟩
 have h0:=key ops.toList #[] (λi hi=>absurd hi (by simp)) (by simp)
 have e:Region.before ops=ops.toList.foldl (λacc o=>acc.push (fX acc o)) #[]:=by
  unfold Region.before
  rw[← Array.foldl_toList];rfl
 rw[e]
 exact⟨h0.1,by rw[h0.2];simp⟩
def xf(ops:Array Oper)(D:Nat→Prop):Prop:=∀ i o,D i→ops[i]? = some o→∀ e ∈ o.after,Region.binds .any e=true→D e.on
theorem xf.bit{D:Nat→Prop}(h:xf ops D):∀ (i:Nat),(∀ o,ops[i]? = some o→∀ e ∈ o.after,Region.binds .any e=true→D e.on)→∀ j,((Region.before ops).getD i 0).testBit j=true→D j:=by
 intro i
 induction i using Nat.strongRecOn with
 | ind i ih =>
  intro hr j hj
  have hi:i<(Region.before ops).size:=by
   by_cases h7:i<(Region.before ops).size
   ·exact h7
   ·have:(Region.before ops).getD i 0=0:=by simp[Array.getD_eq_getD_getElem?,h7]
    rw[this]at hj;simp at hj
  obtain⟨o,ho,h3,_⟩:=(p7 ops).1 i hi
  obtain⟨e,he,hb,h5⟩:=h3 j hj
  have hD:=hr o ho e he hb
  rcases h5 with rfl|⟨h5,h6⟩
  ·exact hD
  ·exact ih e.on h5 (λo' ho'=>h e.on o' hD ho') j h6
def gv(l:List Nat)(m p:Nat):Nat:=(l.take p).foldl (λm i=>m ||| 2^i) m
theorem tE(i:Nat):∀ (l:List Nat) (m p:Nat),(gv l m p).testBit i=true↔m.testBit i=true∨i ∈ l.take p
 | [],m,p=>by simp[gv]
 | x::t,m,0=>by simp[gv]
 | x::t,m,p+1=>by
  have e:gv (x::t) m (p+1)=gv t (m ||| 2^x) p:=rfl
  rw[e,tE i t,Nat.testBit_or,Nat.testBit_two_pow]
  simp only[Bool.or_eq_true,decide_eq_true_eq,List.take_succ_cons,List.mem_cons]
  constructor
  ·rintro ((h | h) | h)
   ·exact .inl h
   ·exact .inr (.inl h.symm)
   ·exact .inr (.inr h)
  ·rintro (h | h | h)
   ·exact .inl (.inl h)
   ·exact .inl (.inr h.symm)
   ·exact .inr h
theorem uL:∀ (l:List Nat) (m:Nat),kZ P N ops b l m=true→(∀ p i,l[p]? = some i→∃ o,ops[i]? = some o∧(gv l m p).testBit i=false∧(b.getD i 0) &&& gv l m p=b.getD i 0∧(isEff P N ops i=true→b.getD i 0=gv l m p)∧sD ops b i o=true∧((dh P N o).tmps.all λp=>(i1 ops o).any λt=>decide (t<N)&&ab.beq p (ae t))=true∧s7 (dh P N o)=true)∧∀ i,i<ops.size→(gv l m l.length).testBit i=true
 | [],m,h=>by
  refine⟨λp i hp=>by simp at hp,λi hi=>?_⟩
  simp only[kZ,List.all_eq_true,List.mem_range]at h
  exact h i hi
 | x::t,m,h=>by
  unfold kZ at h
  cases ho:ops[x]? with
  | none=>rw[ho]at h;cases h
  | some o =>
   rw[ho]at h
   simp only[Bool.and_eq_true,Bool.or_eq_true,Bool.not_eq_true',beq_iff_eq]at h
   obtain⟨⟨⟨⟨⟨⟨h1,h2⟩,h3⟩,h4⟩,h5⟩,h7⟩,h6⟩:=h
   obtain⟨k1,k2⟩:=uL t (m ||| 2^x) h6
   refine⟨λp i hp=>?_,k2⟩
   cases p with
   | zero =>
    simp at hp;subst hp
    refine⟨o,ho,h1,h2,λhe=>?_,h4,h5,h7⟩
    rcases h3 with h3|h3
    ·rw[he]at h3;cases h3
    ·exact h3
   | succ p =>
    simp at hp
    exact k1 p i hp
structure OF (P:Program) (N:Nat) (ops:Array Oper) (n:Nat) (ix:Nat→Nat) (oo:Nat→Oper) (bp:Nat→Nat→Prop):Prop where
 op:∀ p,p<n→ops[ix p]? = some (oo p)
 inj:∀ p p',p<n→p'<n→ix p=ix p'→p=p'
 surj:∀ i,i<ops.size→∃ p,p<n∧ix p=i
 lt:∀ p p',p<n→p'<n→bp p p'→p'<p
 edge:∀ p,p<n→∀ e ∈ (oo p).after,Region.binds .any e=true→∃ p',p'<p∧ix p'=e.on
 eff:∀ p,p<n→isEff P N ops (ix p)=true→∀ p',p'<p→bp p p'
 dst:∀ p p',p<n→p'<n→p≠p'→∀ t,(oo p').dst=some t→(oo p).dst≠some t
 look:∀ p p',p<n→p'<n→p≠p'→∀ t,(oo p').dst=some t→t ∈ i1 ops (oo p)→bp p p'∨bp p' p
 tmps:∀ p,p<n→∀ q ∈ (dh P N (oo p)).tmps,∃ t ∈ i1 ops (oo p),t<N∧q=ae t
 main:∀ p,p<n→s7 (dh P N (oo p))=true
 closed:∀ D:Nat→Prop,xf ops D→∀ p p',p<n→bp p p'→(∀ e ∈ (oo p).after,Region.binds .any e=true→D e.on)→D (ix p')
theorem Bb{ord:List Nat}(h:kZ P N ops (Region.before ops) ord 0=true):∃ oo:Nat→Oper,OF P N ops ord.length (λp=>ord.getD p 0) oo (λp p'=>((Region.before ops).getD (ord.getD p 0) 0).testBit (ord.getD p' 0)=true):=by
 obtain⟨h1,h2⟩:=uL ord 0 h
 have hix:∀ p,p<ord.length→ord[p]? = some (ord.getD p 0):=λp hp=>by simp[List.getD_eq_getElem?_getD,hp]
 have hbit:∀ p i,(gv ord 0 p).testBit i=true↔∃ p',p'<p∧p'<ord.length∧ord.getD p' 0=i:=λp i=>by
  rw[tE]
  simp only[Nat.zero_testBit,Bool.false_eq_true,false_or,List.mem_take_iff_getElem]
  constructor
  ·rintro ⟨q,hq,e⟩
   refine⟨q,by omega,by omega,?_⟩
   rw[List.getD_eq_getElem?_getD,List.getElem?_eq_getElem (by omega)];exact e
  ·rintro ⟨q,hq,hq2,e⟩
   refine⟨q,by omega,?_⟩
   rw[List.getD_eq_getElem?_getD,List.getElem?_eq_getElem (by omega)]at e;exact e
 have hex:∀ p,∃ o,p<ord.length→ops[ord.getD p 0]? = some o:=λp=>by
  by_cases hp:p<ord.length
  ·obtain⟨o,ho,_⟩:=h1 p _ (hix p hp);exact⟨o,λ_=>ho⟩
  ·by_cases h0:0<ord.length
   ·obtain⟨o,ho,_⟩:=h1 0 _ (hix 0 h0);exact⟨o,λh=>absurd h hp⟩
   ·exact⟨{ dst:=none,op:=.move (.tmp 0),type:=0,pos:=default,after:=#[],guard:=none },λh=>absurd h hp⟩
 let oo:Nat→Oper:=λp=>(hex p).choose
 have hop:∀ p,p<ord.length→ops[ord.getD p 0]? = some (oo p):=λp hp=>(hex p).choose_spec hp
 have hat:∀ p,p<ord.length→(gv ord 0 p).testBit (ord.getD p 0)=false∧((Region.before ops).getD (ord.getD p 0) 0) &&& gv ord 0 p=(Region.before ops).getD (ord.getD p 0) 0∧(isEff P N ops (ord.getD p 0)=true→(Region.before ops).getD (ord.getD p 0) 0=gv ord 0 p)∧sD ops (Region.before ops) (ord.getD p 0) (oo p)=true∧((dh P N (oo p)).tmps.all λq=>(i1 ops (oo p)).any λt=>decide (t<N)&&ab.beq q (ae t))=true∧s7 (dh P N (oo p))=true:=λp hp=>by
  obtain⟨o,ho,k⟩:=h1 p _ (hix p hp)
  rw[hop p hp]at ho;cases ho
  exact k
 have hinj:∀ p p',p<ord.length→p'<ord.length→p'<p→ord.getD p 0≠ord.getD p' 0:=λp p' hp hp' hlt e=>by
  have k:=(hat p hp).1
  have:=(hbit p (ord.getD p 0)).2 ⟨p',hlt,hp',e.symm⟩
  rw[this]at k;cases k
 have hinj2:∀ p p',p<ord.length→p'<ord.length→ord.getD p 0=ord.getD p' 0→p=p':=λp p' hp hp' e=>by
  rcases Nat.lt_trichotomy p p' with hlt|rfl|hlt
  ·exact absurd e.symm (hinj p' p hp' hp hlt)
  ·rfl
  ·exact absurd e (hinj p p' hp hp' hlt)
 have hbef:∀ p,p<ord.length→∀ i,((Region.before ops).getD (ord.getD p 0) 0).testBit i=true→∃ p',p'<p∧p'<ord.length∧ord.getD p' 0=i:=λp hp i hi=>by
  have k:=(hat p hp).2.1
  rw[← k,Nat.testBit_and,Bool.and_eq_true]at hi
  exact (hbit p i).1 hi.2
 have hzip:∀ p',p'<ord.length→(oo p',ord.getD p' 0) ∈ ops.toList.zipIdx:=λp' hp'=>by
  rw[List.mem_zipIdx_iff_getElem?];simpa using hop p' hp'
 have hap:∀ p p',p<ord.length→p'<ord.length→p≠p'→∀ t,(oo p').dst=some t→(oo p).dst≠some t∧(t ∈ i1 ops (oo p)→((Region.before ops).getD (ord.getD p 0) 0).testBit (ord.getD p' 0)=true∨((Region.before ops).getD (ord.getD p' 0) 0).testBit (ord.getD p 0)=true):=λp p' hp hp' hne t ht=>by
  have k:=(hat p hp).2.2.2.1
  unfold sD at k
  have k2:=List.all_eq_true.1 k _ (hzip p' hp')
  simp only[Bool.or_eq_true,beq_iff_eq,ht,Bool.and_eq_true,bne_iff_ne,ne_eq,Bool.not_eq_true',List.contains_eq_mem,decide_eq_false_iff_not]at k2
  rcases k2 with k2|⟨k2,k3⟩
  ·exact absurd (hinj2 p p' hp hp' k2.symm) hne
  ·refine⟨k2,λhw=>?_⟩
   rcases k3 with (k3|k3) | k3
   ·exact absurd hw k3
   ·exact .inl k3
   ·exact .inr k3
 refine⟨oo,⟨hop,hinj2,λi hi=>?_,λp p' hp hp' hb=>?_,λp hp e he hb=>?_,λp hp he p' hlt=>?_,λp p' hp hp' hne t ht=>(hap p p' hp hp' hne t ht).1,λp p' hp hp' hne t ht=>(hap p p' hp hp' hne t ht).2,λp hp q hq=>?_,λp hp=>(hat p hp).2.2.2.2.2,λD hD p p' hp hb hr=>?_⟩⟩
 ·obtain⟨p,_,hp,e⟩:=(hbit _ i).1 (h2 i hi)
  exact⟨p,hp,e⟩
 ·obtain⟨q,hq,hq2,e⟩:=hbef p hp _ hb
  rw[← hinj2 q p' hq2 hp' e];exact hq
 ·have hlt:ord.getD p 0<(Region.before ops).size:=by
   rw[(p7 ops).2]
   have:=hop p hp
   exact (Array.getElem?_eq_some_iff.1 this).1
  obtain⟨o,ho,_,h4⟩:=(p7 ops).1 _ hlt
  rw[hop p hp]at ho;cases ho
  obtain⟨q,hq,_,e'⟩:=hbef p hp _ (h4 e he hb)
  exact⟨q,hq,e'⟩
 ·show ((Region.before ops).getD (ord.getD p 0) 0).testBit (ord.getD p' 0)=true
  rw[(hat p hp).2.2.1 he]
  exact (hbit p _).2 ⟨p',hlt,by omega,rfl⟩
 ·have k:=List.all_eq_true.1 (hat p hp).2.2.2.2.1 q hq
  obtain⟨t,ht,hb⟩:=List.any_eq_true.1 k
  rw[Bool.and_eq_true,decide_eq_true_eq]at hb
  exact⟨t,ht,hb.1,gA _ _ hb.2⟩
 ·exact hD.bit _ (λo ho=>by rw[hop p hp]at ho;cases ho;exact hr) _ hb
end Go.Ai
namespace Go.Ai
set_option linter.unusedSectionVars false
variable [Nu]
open Go
variable {P:Program}{N:Nat}{ops:Array Oper}{b:Array Nat}
def cN(eff:Nat→Bool)(ix:Nat→Nat)(Hs:Nat→H)(eh:List (Nat × H)):Nat→List (Nat × H)
 | 0=>eh
 | p+1=>if eff (ix p) then (ix p,Hs p)::cN eff ix Hs eh p else cN eff ix Hs eh p
theorem cN.shift(eff:Nat→Bool)(ix:Nat→Nat)(Hs:Nat→H)(eh:List (Nat × H)):∀ p,cN eff ix Hs eh (p+1)=cN eff (λp=>ix (p+1)) (λp=>Hs (p+1)) (cN eff ix Hs eh 1) p
 | 0=>rfl
 | p+1=>by
  show (if eff (ix (p+1)) then (ix (p+1),Hs (p+1))::cN eff ix Hs eh (p+1) else cN eff ix Hs eh (p+1))=_
  rw[cN.shift eff ix Hs eh p];rfl
theorem cN.mem{eff:Nat→Bool}{ix:Nat→Nat}{Hs:Nat→H}{eh:List (Nat × H)}{e:Nat}(he:eff (ix e)=true):∀ {p:Nat},e<p→(ix e,Hs e) ∈ cN eff ix Hs eh p
 | p+1,hlt=>by
  unfold cN
  by_cases h:e=p
  ·subst h;rw[if_pos he];simp
  ·have h2:=cN.mem (Hs:=Hs) (eh:=eh) he (show e<p by omega)
   split
   ·exact List.mem_cons_of_mem _ h2
   ·exact h2
theorem cN.while{eff:Nat→Bool}{ix:Nat→Nat}{Hs:Nat→H}{eh:List (Nat × H)}{q:Nat→Bool}{e:Nat}(he:eff (ix e)=true):∀ {p:Nat},e<p→(∀ e',e≤e'→e'<p→eff (ix e')=true→q (ix e')=true)→(ix e,Hs e) ∈ (cN eff ix Hs eh p).takeWhile λx=>q x.1
 | p+1,hlt,hq=>by
  unfold cN
  by_cases h:e=p
  ·subst h
   rw[if_pos he,List.takeWhile_cons_of_pos (p:=λx:Nat × H=>q x.1) (hq e (Nat.le_refl _) hlt he)];simp
  ·have h2:=cN.while (Hs:=Hs) (eh:=eh) he (show e<p by omega) λe' h1 h2 h3=>hq e' h1 (by omega) h3
   split
   ·rename_i hp
    rw[List.takeWhile_cons_of_pos (p:=λx:Nat × H=>q x.1) (hq p (by omega) (by omega) hp)]
    exact List.mem_cons_of_mem _ h2
   ·exact h2
theorem D1{o:O}{call:Go.Ai.Call}{fr:FT}{v:AV}(hG:∀ h,(∀ k,bq (o.step call fr h k))∨∃ w h',og o call fr h w h')(q:Nat→Bool):∀ (R:List (Nat × H)),
  (∀ k,bq (gl o.step call fr v k ((R.map (·.1)).takeWhile q).length (R.map (·.2))))∨((∀ k,gl o.step call fr v k ((R.map (·.1)).takeWhile q).length (R.map (·.2))=k)∧∀ x ∈ R.takeWhile λx=>q x.1,∃ h',og o call fr x.2 v h')
 | []=>.inr ⟨λ_=>rfl,λx hx=>by simp at hx⟩
 | (i,h)::t=>by
  by_cases hq:q i=true
  ·have e1:(((i,h)::t).map (·.1)).takeWhile q=i::(t.map (·.1)).takeWhile q:=by
    rw[List.map_cons,List.takeWhile_cons_of_pos hq]
   have e2:((i,h)::t).takeWhile (λx=>q x.1)=(i,h)::t.takeWhile λx=>q x.1:=List.takeWhile_cons_of_pos hq
   rw[e1,e2]
   have e3:∀ k,gl o.step call fr v k (i::(t.map (·.1)).takeWhile q).length (((i,h)::t).map (·.2))=o.step call fr h λw _=>must 12 (w.alike v) (gl o.step call fr v k ((t.map (·.1)).takeWhile q).length (t.map (·.2))):=λ_=>rfl
   simp only[e3]
   rcases hG h with hb|⟨w,h',ho⟩
   ·exact .inl λ_=>hb _
   simp only[ho _]
   rcases ay 12 (w.alike v)with hb|⟨h4,h5⟩
   ·exact .inl λ_=>hb _
   simp only[h5]
   have hwv:=zW w v h4
   subst hwv
   rcases D1 hG q t with hb|⟨h6,h7⟩
   ·exact .inl hb
   refine .inr ⟨h6,λx hx=>?_⟩
   rcases List.mem_cons.1 hx with rfl|hx
   ·exact⟨h',ho⟩
   ·exact h7 x hx
  ·have e1:(((i,h)::t).map (·.1)).takeWhile q=[]:=by
    rw[List.map_cons,List.takeWhile_cons_of_neg hq]
   have e2:((i,h)::t).takeWhile (λx=>q x.1)=[]:=List.takeWhile_cons_of_neg hq
   rw[e1,e2]
   exact .inr ⟨λ_=>rfl,λx hx=>by cases hx⟩
theorem E6(h:H):∀ (hs:List H),(∀ k,bq (dq true h k hs))∨((∀ k,dq true h k hs=k)∧∀ s ∈ hs,¬ s.mem.has h.next)
 | []=>.inr ⟨λk=>by cases h;rfl,λs hs=>by cases hs⟩
 | .mk t n'::hs=>by
  cases h with
  | mk t0 n =>
   have e0:∀ k,dq true (.mk t0 n) k (.mk t n'::hs)=Obj.casesOn (motive:=λ_=>aa) (ax n t) (dq true (.mk t0 n) k hs) (λ_ _=>.bad 50) (λ_ _=>.bad 50) (.bad 50) (λ_ _ _ _ _ _=>.bad 50):=λ_=>rfl
   simp only[e0]
   cases e:ax n t with
   | none =>
    rcases E6 (.mk t0 n) hs with hb|⟨h1,h2⟩
    ·exact .inl hb
    refine .inr ⟨h1,λs hs'=>?_⟩
    rcases List.mem_cons.1 hs' with rfl|hs'
    ·exact λh=>h e
    ·exact h2 s hs'
   | _=>exact .inl λ_=>⟨50,rfl⟩
def wT(P:Program)(N:Nat)(ops:Array Oper)(b:Array Nat)(call:Go.Ai.Call)(i:Nat)(o:Oper)(R:List (Nat × H))(fr fr':FT)(h h':H)(v:AV)(wn:Bool):Prop :=
 ∃ d g,nn N o.dst=some d∧gj N ops o.guard=some g∧(∀ y z,g.on' fr y z=ifC wn y z)∧fr'=d.put v fr ∧
  (wn=true→og (dh P N o) call fr h v h')∧(wn=false→h'=h∧v = .undef) ∧
  (wn=true→cz (dh P N o) = .read→∀ x ∈ R.takeWhile (λx=>!(b.getD i 0).testBit x.1),∃ h'',og (dh P N o) call fr x.2 v h'') ∧
  (wn=true→cz (dh P N o) = .alloc→∀ x ∈ R,¬ x.2.mem.has h.next)
theorem uz{call:Go.Ai.Call}(hC:aC P call)(o:Oper)(fr:FT)(h:H):(∀ k,bq ((dh P N o).step call fr h k))∨∃ v h',og (dh P N o) call fr h v h':=by
 rcases fv (N:=N) hC o fr h with hb|⟨_,hb|⟨v,h',e,_⟩⟩
 ·exact .inl hb
 ·exact .inl hb
 ·exact .inr ⟨v,h',e⟩
theorem XY{call:Go.Ai.Call}(hC:aC P call){o:Oper}{d:D}{g:G}(hd:nn N o.dst=some d)(hg:gj N ops o.guard=some g)(i:Nat)(R:List (Nat × H))(fr:FT)(h:H)(back:Nat)(eff al:Bool)(rest:L)
  (hb:cz (dh P N o) = .read→back=((R.map (·.1)).takeWhile λe=>!(b.getD i 0).testBit e).length) (hb0:cz (dh P N o) ≠ .read→back=0) (ha:al=true↔cz (dh P N o) = .alloc) :
  bq ((L.dop d g (dh P N o) back eff al rest).run call fr h (R.map (·.2)))∨∃ fr' h' v wn,wT P N ops b call i o R fr fr' h h' v wn ∧
   (L.dop d g (dh P N o) back eff al rest).run call fr h (R.map (·.2))=rest.run call fr' h' (((if eff then [(i,h)] else [])++R).map (·.2)):=by
 have e0:(L.dop d g (dh P N o) back eff al rest).run call fr h (R.map (·.2))=g.on' fr ((dh P N o).step call fr h λv h'=>gl (dh P N o).step call fr v (dq al h (rest.run call (d.put v fr) h' (Bool.casesOn (motive:=λ_=>List H) eff (R.map (·.2)) (h::R.map (·.2)))) (R.map (·.2))) back (R.map (·.2))) (rest.run call (d.put .undef fr) h (Bool.casesOn (motive:=λ_=>List H) eff (R.map (·.2)) (h::R.map (·.2)))):=by
  cases d with
  | no=>rfl
  | to x=>cases g with
   | on y w=>rfl
   | no=>cases back with
    | succ n=>rfl
    | zero=>cases eff <;> cases al <;> rfl
 have e9:(Bool.casesOn (motive:=λ_=>List H) eff (R.map (·.2)) (h::R.map (·.2)))=((if eff then [(i,h)] else [])++R).map (·.2):=by cases eff <;> rfl
 rw[e0,e9]
 rcases xr hg fr with hbad|⟨wn,e1,_⟩
 ·exact .inl (hbad _ _)
 rw[e1]
 cases wn with
 | false =>
  rw[a5]
  exact .inr ⟨_,h,.undef,false,⟨d,g,hd,hg,e1,rfl,(λh=>by cases h),(λ_=>⟨rfl,rfl⟩),(λh=>by cases h),(λh=>by cases h)⟩,rfl⟩
 | true =>
  rw[a7]
  rcases uz (N:=N) hC o fr h with hbad|⟨v,h',ho⟩
  ·exact .inl (hbad _)
  rw[ho]
  by_cases hr:cz (dh P N o) = .read
  ·have hal:al=false:=by
    cases al
    ·rfl
    ·rw[ha.1 rfl]at hr;cases hr
   subst hal
   rw[hb hr]
   rcases D1 (v:=v) (λh=>uz (N:=N) hC o fr h) (λe=>!(b.getD i 0).testBit e) R with hbad|⟨h1,h2⟩
   ·exact .inl (hbad _)
   rw[h1]
   exact .inr ⟨_,h',v,true,⟨d,g,hd,hg,e1,rfl,(λ_=>ho),(λh=>by cases h),(λ_ _=>h2),(λ_ h=>by rw[hr]at h;cases h)⟩,rfl⟩
  ·rw[hb0 hr]
   have e2:∀ k,gl (dh P N o).step call fr v k 0 (R.map (·.2))=k:=λ_=>rfl
   rw[e2]
   cases al with
   | false =>
    refine .inr ⟨_,h',v,true,⟨d,g,hd,hg,e1,rfl,(λ_=>ho),(λh=>by cases h),(λ_ h=>absurd h hr),λ_ h=>?_⟩,rfl⟩
    have:=ha.2 h;cases this
   | true =>
    rcases E6 h (R.map (·.2))with hbad|⟨h1,h2⟩
    ·exact .inl (hbad _)
    rw[h1]
    exact .inr ⟨_,h',v,true,⟨d,g,hd,hg,e1,rfl,(λ_=>ho),(λh=>by cases h),(λ_ h=>absurd h hr),λ_ _ x hx=>h2 x.2 (List.mem_map.2 ⟨x,hx,rfl⟩)⟩,rfl⟩
theorem th{i:Nat}{o:Oper}(ho:ops[i]? = some o):isEff P N ops i=true↔cz (dh P N o) = .eff:=by
 unfold isEff;rw[ho];simp
theorem wa{call:Go.Ai.Call}(hC:aC P call):∀ (l:List Nat) (R:List (Nat × H)) (fr:FT) (h:H),
  bq ((gS P N ops b l (R.map (·.1))).run call fr h (R.map (·.2)))∨∃ (fs:Nat→FT) (Hs:Nat→H) (v:Nat→AV) (wn:Nat→Bool),(gS P N ops b l (R.map (·.1))).run call fr h (R.map (·.2)) = .nrm (fs l.length) (Hs l.length)∧fs 0=fr∧Hs 0=h ∧
   ∀ p o,p<l.length→ops[l.getD p 0]? = some o→wT P N ops b call (l.getD p 0) o (cN (isEff P N ops) (λp=>l.getD p 0) Hs R p) (fs p) (fs (p+1)) (Hs p) (Hs (p+1)) (v p) (wn p)
 | [],R,fr,h=>.inr ⟨λ_=>fr,λ_=>h,λ_=>.undef,λ_=>false,rfl,rfl,rfl,λp o hp=>absurd hp (by simp)⟩
 | i::t,R,fr,h=>by
  have hbadL:bq ((L.op .no .no gK .nil).run call fr h (R.map (·.2))):=ge call fr h λv h=>.nrm fr h
  cases ho:ops[i]? with
  | none =>
   left
   have e0:gS P N ops b (i::t) (R.map (·.1)) = .op .no .no gK .nil:=by rw[gS];rw[ho]
   rw[e0];exact hbadL
  | some o =>
   cases hd:nn N o.dst with
   | none =>
    left
    have e0:gS P N ops b (i::t) (R.map (·.1)) = .op .no .no gK .nil:=by rw[gS];simp only[ho,hd]
    rw[e0];exact hbadL
   | some d =>
    cases hg:gj N ops o.guard with
    | none =>
     left
     have e0:gS P N ops b (i::t) (R.map (·.1)) = .op .no .no gK .nil:=by rw[gS];simp only[ho,hd,hg]
     rw[e0];exact hbadL
    | some g =>
     have hstep:∃ back eff al,gS P N ops b (i::t) (R.map (·.1)) = .dop d g (dh P N o) back eff al (gS P N ops b t (((if eff then [(i,h)] else [])++R).map (·.1)))∧(cz (dh P N o) = .read→back=((R.map (·.1)).takeWhile λe=>!(b.getD i 0).testBit e).length)∧(cz (dh P N o) ≠ .read→back=0)∧(al=true↔cz (dh P N o) = .alloc)∧(eff=true↔cz (dh P N o) = .eff):=by
      cases hk:cz (dh P N o) with
      | eff=>exact⟨0,true,false,by rw[gS];simp only[ho,hd,hg,hk];rfl,by simp⟩
      | read=>exact⟨_,false,false,by rw[gS];simp only[ho,hd,hg,hk];rfl,by simp⟩
      | alloc=>exact⟨0,false,true,by rw[gS];simp only[ho,hd,hg,hk];rfl,by simp⟩
      | pure=>exact⟨0,false,false,by rw[gS];simp only[ho,hd,hg,hk];rfl,by simp⟩
     obtain⟨back,eff,al,e1,hb1,hb2,hal,heff⟩:=hstep
     rw[e1]
     rcases XY (b:=b) hC hd hg i R fr h back eff al (gS P N ops b t (((if eff then [(i,h)] else [])++R).map (·.1))) hb1 hb2 hal with hb|⟨fr1,h1,v1,wn1,hs1,e2⟩
     ·exact .inl hb
     rw[e2]
     rcases wa hC t ((if eff then [(i,h)] else [])++R) fr1 h1 with hb|⟨fs,Hs,v,wn,e3,e4,e5,hrest⟩
     ·exact .inl hb
     refine .inr ⟨λp=>match p with | 0=>fr | p+1=>fs p,λp=>match p with | 0=>h | p+1=>Hs p,λp=>match p with | 0=>v1 | p+1=>v p,λp=>match p with | 0=>wn1 | p+1=>wn p,e3,rfl,rfl,λp o' hp ho'=>?_⟩
     cases p with
     | zero =>
      have ho'':ops[i]? = some o':=ho'
      rw[ho]at ho'';cases ho''
      show wT P N ops b call i o R fr (fs 0) h (Hs 0) v1 wn1
      rw[e4,e5];exact hs1
     | succ p =>
      have hk:=hrest p o' (by simpa using hp) (by simpa using ho')
      have hR:cN (isEff P N ops) (λp=>(i::t).getD p 0) (λp=>match p with | 0=>h | p+1=>Hs p) R (p+1)=cN (isEff P N ops) (λp=>t.getD p 0) Hs ((if eff then [(i,h)] else [])++R) p:=by
       rw[cN.shift]
       have h8:cN (isEff P N ops) (λp=>(i::t).getD p 0) (λp=>match p with | 0=>h | p+1=>Hs p) R 1=(if eff then [(i,h)] else [])++R:=by
        show (if isEff P N ops i then (i,h)::R else R)=_
        by_cases he:eff=true
        ·rw[if_pos ((th ho).2 (heff.1 he)),if_pos he];rfl
        ·rw[if_neg (λh=>he (heff.2 ((th ho).1 h))),if_neg he];rfl
       rw[h8]
       rfl
      rw[hR]
      exact hk
end Go.Ai
namespace Go.Ai
set_option linter.unusedSectionVars false
variable [Nu]
open Go
variable {P:Program}{ε ε' ε1:bu}{m m' M:cJ}{w w' w1:World}
mutual
theorem R.narrow:∀ (v:AV) (V V1:Value),R ε1 m v V1→R ε M v V→R ε m v V
 | .undef,V,V1,_,r=>by simpa [R] using r
 | .bool b,V,V1,_,r=>by simpa [R] using r
 | .int k n,V,V1,_,r=>by simpa [R] using r
 | .str s,V,V1,_,r=>by simpa [R] using r
 | .nilp,V,V1,_,r=>by simpa [R] using r
 | .ptr o i,V,V1,r1,r=>by simp only[R]at r1 r ⊢;exact⟨r1.1,r.2⟩
 | .nils,V,V1,_,r=>by simpa [R] using r
 | .slc o i n c,V,V1,r1,r=>by simp only[R]at r1 r ⊢;exact⟨r1.1,r.2⟩
 | .nilm,V,V1,_,r=>by simpa [R] using r
 | .map o,V,V1,r1,r=>by simp only[R]at r1 r ⊢;exact⟨r1.1,r.2⟩
 | .nilf,V,V1,_,r=>by simpa [R] using r
 | .fn f a c,V,V1,r1,r=>by
  simp only[R]at r1 r ⊢
  obtain⟨A,C,e,ra,rc⟩:=r
  obtain⟨A1,C1,_,ra1,rc1⟩:=r1
  exact⟨A,C,e,Rs.narrow a A A1 ra1 ra,Rs.narrow c C C1 rc1 rc⟩
 | .nili,V,V1,_,r=>by simpa [R] using r
 | .ifc t v,V,V1,r1,r=>by
  simp only[R]at r1 r ⊢
  obtain⟨W,e,rv⟩:=r
  obtain⟨W1,_,rv1⟩:=r1
  exact⟨W,e,R.narrow v W W1 rv1 rv⟩
 | .agg cs,V,V1,r1,r=>by
  simp only[R]at r1 r ⊢
  obtain⟨C,e,rc⟩:=r
  obtain⟨C1,_,rc1⟩:=r1
  exact⟨C,e,Rs.narrow cs C C1 rc1 rc⟩
 | .tup vs,V,V1,r1,r=>by
  simp only[R]at r1 r ⊢
  obtain⟨C,e,rc⟩:=r
  obtain⟨C1,_,rc1⟩:=r1
  exact⟨C,e,Rs.narrow vs C C1 rc1 rc⟩
 | .ub c,V,V1,_,r=>by simpa [R] using r
 | .bs n,V,V1,_,r=>by simpa [R] using r
 | .yld o,V,V1,r1,r=>by simp only[R]at r1 r ⊢;exact⟨r1.1,r.2⟩
 | .sle o i,V,V1,r1,r=>by simp only[R]at r1 r ⊢;exact⟨r1.1,r.2⟩
theorem Rs.narrow:∀ (l:List AV) (L L1:List Value),Rs ε1 m l L1→Rs ε M l L→Rs ε m l L
 | [],L,L1,_,r=>by simpa [Rs] using r
 | v::t,L,L1,r1,r=>by
  simp only[Rs]at r1 r ⊢
  obtain⟨V,U,e,rv,rt⟩:=r
  obtain⟨V1,U1,_,rv1,rt1⟩:=r1
  exact⟨V,U,e,R.narrow v V V1 rv1 rv,Rs.narrow t U U1 rt1 rt⟩
end
theorem bT.narrow:∀ {es:List pV} {E E1:List MapEntry},bT ε1 m es E1→bT ε M es E→bT ε m es E
 | [],_,_,_,r=>r
 | e::t,Es,Es1,r1,r=>by
  obtain⟨E,U,h,⟨a,b,c⟩,d⟩:=r
  obtain⟨E1,U1,_,⟨a1,b1,_⟩,d1⟩:=r1
  exact⟨E,U,h,⟨R.narrow _ _ _ a1 a,R.narrow _ _ _ b1 b,c⟩,bT.narrow d1 d⟩
theorem b9.narrow{fr:FT}{T T1:Array Value}(hs:T1.size=T.size)(r1:b9 ε1 m fr T1)(r:b9 ε M fr T):b9 ε m fr T:=λt ht=>by
 obtain⟨V,e,rv⟩:=r t ht
 obtain⟨V1,_,rv1⟩:=r1 t (hs ▸ ht)
 exact⟨V,e,R.narrow _ _ _ rv1 rv⟩
theorem co.narrow{o:ab}{cs:List AV}{es:Nat}(r1:co ε1 m o cs es w1)(r:co ε M o cs es w):co ε m o cs es w:=by
 obtain⟨C,elem,fz,h1,h2,h3,h4⟩:=r
 obtain⟨C1,_,_,_,_,h31,_⟩:=r1
 exact⟨C,elem,fz,h1,h2,Rs.narrow _ _ _ h31 h3,h4⟩
theorem Mw{N N':Nat}{c c':C}(h:ze N c=ze N' c'):N=N'∧c=c':=by
 unfold ze at h
 injection h with h1 h2 h3
 injection h3 with h3
 exact⟨h3,h2⟩
theorem bX.narrow(h1:bX P ε1 m w1)(h:bX P ε M w)(hs:∀ o,m.has o→M o=m o):bX P ε m w:=by
 have hl:∀ o,dw (m o)→M o=m o:=λo ho=>hs o (fg ho)
 refine⟨λo cs es e=>?_,λo es clk e=>?_,λo st pd fr ps a b e=>?_,λo o' hne h2 h3=>h.apart o o' hne (by rw[hl o h2];exact h2) (by rw[hl o' h3];exact h3)⟩
 ·have e':M o = .cells cs es:=by rw[hl o (by rw[e];trivial),e]
  exact (h1.cells o cs es e).narrow (h.cells o cs es e')
 ·have e':M o = .map es clk:=by rw[hl o (by rw[e];trivial),e]
  obtain⟨E,g,r⟩:=h.maps o es clk e'
  obtain⟨E1,_,r1⟩:=h1.maps o es clk e
  exact⟨E,g,r1.narrow r⟩
 ·have e':M o = .loop st pd fr ps a b:=by rw[hl o (by rw[e];trivial),e]
  rcases h.loops o st pd fr ps a b e' with ⟨L,g,l1,l2,l3,l4,l5,l6,l7,l8⟩|⟨h9,g0,q,s,l,g1,g2,g3⟩
  ·rcases h1.loops o st pd fr ps a b e with ⟨L1,_,_,_,k3,_,_,k6,_,_⟩|⟨h9,_⟩
   ·have hsz:=(Mw (k6.symm.trans l6)).1
    exact .inl ⟨L,g,l1,l2,b9.narrow hsz k3 l3,l4,l5,l6,l7,l8⟩
   ·subst h9;cases l1
  ·rcases h1.loops o st pd fr ps a b e with ⟨L1,_,k⟩|⟨_,_,q',_,_,k1,k2,_⟩
   ·exact absurd h9 k.st
   ·have hq:q'=q:=by rw[g1]at k1;cases k1;rfl
    subst hq
    exact .inr ⟨h9,g0,q',s,l,g1,k2,g3⟩
open Classical in
noncomputable def xa(m' M:cJ):cJ:=λo=>if m'.has o then m' o else M o
theorem dX{o:ab}(h:m'.has o):xa m' M o=m' o:=by unfold xa;rw[if_pos h]
theorem dE{o:ab}(h:¬ m'.has o):xa m' M o=M o:=by unfold xa;rw[if_neg h]
theorem de.widen(hW:bX P ε M w)(hs:∀ o,m.has o→M o=m o)(h:de P ε m w ε' m' w')(hf:∀ o,M.has o→¬ m.has o→¬ m'.has o):de P ε M w ε' (xa m' M) w':=by
 have hms:∀ o,m.has o→M.has o:=λo ho=>by unfold cJ.has;rw[hs o ho];exact ho
 have hown:∀ b,iS ε m b→iS ε M b:=λb ⟨o,hl,e⟩=>⟨o,by rw[hs o (fg hl)];exact hl,e⟩
 have stays:cG ε M ε' (xa m' M):=λo ho=>by
  by_cases hm:m.has o
  ·obtain⟨h1,h2⟩:=h.stays o hm
   exact⟨by unfold cJ.has;rw[dX h1];exact h1,h2⟩
  ·have hn:=hf o ho hm
   exact⟨by unfold cJ.has;rw[dE hn];exact ho,h.fresh o hn⟩
 have stays':cG ε' m' ε' (xa m' M):=λo ho=>⟨by unfold cJ.has;rw[dX ho];exact ho,rfl⟩
 have hold:∀ o,¬ m'.has o→dw (M o)→w'.heap[(ε o).blk]? = w.heap[(ε o).blk]?:=λo hn hl=>by
  refine h.frame _ (hW.blk_lt hl) ?_
  rintro ⟨q,hq,e⟩
  have hqm:=hs q (fg hq)
  have hne:q≠o:=λe'=>hn (e' ▸ (h.stays q (fg hq)).1)
  exact hW.apart q o hne (by rw[hqm];exact hq) hl e
 refine⟨stays,λo ho=>h.fresh o λhn=>ho (by unfold cJ.has;rw[dX hn];exact hn),h.os,h.tape,h.output,h.size,λb hb ho=>h.frame b hb λhq=>ho (hown b hq),λo hl=>?_,λo hl=>?_,⟨λo cs es e=>?_,λo es clk e=>?_,λo st pd fr ps a b e=>?_,λo o' hne hl hl'=>?_⟩⟩
 ·by_cases hn:m'.has o
  ·rw[dX hn]at hl;exact (h.own o hl).imp (hown _) id
  ·rw[dE hn]at hl;left;rw[h.fresh o hn];exact⟨o,hl,rfl⟩
 ·by_cases hm:m.has o
  ·rw[hs o hm]at hl
   rw[dX (h.stays o hm).1];exact h.loop o hl
  ·have hM:M.has o:=ur hl
   rw[dE (hf o hM hm)];exact hl
 ·by_cases hn:m'.has o
  ·rw[dX hn]at e;exact co.mono stays' hn (h.rel.cells o cs es e)
  ·exact (hW.carry stays (hold o hn) (dE hn)).1 cs es e
 ·by_cases hn:m'.has o
  ·rw[dX hn]at e
   obtain⟨E,g,r⟩:=h.rel.maps o es clk e
   exact⟨E,g,r.mono stays'⟩
  ·exact (hW.carry stays (hold o hn) (dE hn)).2.1 es clk e
 ·by_cases hn:m'.has o
  ·rw[dX hn]at e
   exact (h.rel.loops o st pd fr ps a b e).mono stays' hn rfl
  ·exact (hW.carry stays (hold o hn) (dE hn)).2.2 st pd fr ps a b e
 ·have mixed:∀ q q',m'.has q→¬ m'.has q'→dw (m' q)→dw (M q')→(ε' q).blk≠(ε' q').blk:=λq q' h1 h2 h3 h4 e=>by
   rw[h.fresh q' h2]at e
   rcases h.own q h3 with ⟨z,hz,ez⟩|h5
   ·have hzm:=hs z (fg hz)
    have hne:z≠q':=λe'=>h2 (e' ▸ (h.stays z (fg hz)).1)
    exact hW.apart z q' hne (by rw[hzm];exact hz) h4 (ez.trans e)
   ·have:=hW.blk_lt h4;omega
  by_cases hn:m'.has o <;> by_cases hn':m'.has o'
  ·rw[dX hn]at hl;rw[dX hn']at hl';exact h.rel.apart o o' hne hl hl'
  ·rw[dX hn]at hl;rw[dE hn']at hl';exact mixed o o' hn hn' hl hl'
  ·rw[dE hn]at hl;rw[dX hn']at hl';exact (mixed o' o hn' hn hl' hl).symm
  ·rw[dE hn]at hl;rw[dE hn']at hl'
   rw[h.fresh o hn,h.fresh o' hn'];exact hW.apart o o' hne hl hl'
theorem sl:∀ (t:HT),∃ S:List ab,∀ o,ax o t ≠ .none→o ∈ S
 | .leaf=>⟨[],λo h=>by simp at h⟩
 | .node l v r=>by
  obtain⟨A,hA⟩:=sl l
  obtain⟨B,hB⟩:=sl r
  refine⟨.e::(A.map .l++B.map .r),λo h=>?_⟩
  cases o with
  | e=>simp
  | l p=>have:=hA p (by simpa using h);simp[this]
  | r p=>have:=hB p (by simpa using h);simp[this]
theorem LS(m:cJ):∀ (S:List ab),(∀ o,m o ≠ .none→o ∈ S)→∃ t,∀ o,ax o t=m o:=λS hS=>by
 have key:∀ (S:List ab),∃ t:HT,∀ o,(o ∈ S→ax o t=m o)∧(o ∉ S→ax o t = .none):=by
  intro S
  induction S with
  | nil=>exact⟨.leaf,λo=>⟨(λh=>by cases h),λ_=>by simp⟩⟩
  | cons p S ih =>
   obtain⟨t,ht⟩:=ih
   refine⟨aX (m p) p t,λo=>⟨λh=>?_,λh=>?_⟩⟩
   ·rw[cC]
    by_cases e:o=p
    ·rw[if_pos e,e]
    ·rw[if_neg e];exact (ht o).1 ((List.mem_cons.1 h).resolve_left e)
   ·rw[cC,if_neg (λe=>h (by rw[e];exact List.mem_cons_self ..))]
    exact (ht o).2 λh'=>h (List.mem_cons_of_mem _ h')
 obtain⟨t,ht⟩:=key S
 refine⟨t,λo=>?_⟩
 by_cases h:o ∈ S
 ·exact (ht o).1 h
 ·rw[(ht o).2 h]
  by_cases h2:m o = .none
  ·exact h2.symm
  ·exact absurd (hS o h2) h
theorem sR(f:Nat→AV):∀ (N:Nat),N≤1048576→∃ fr,∀ t,t<N→b6 (ae t) fr=f t
 | 0,_=>⟨.leaf,λt h=>absurd h (by omega)⟩
 | N+1,hN=>by
  obtain⟨fr,h⟩:=sR f N (by omega)
  refine⟨kh (f N) (ae N) fr,λt ht=>?_⟩
  rw[eK]
  by_cases e:t=N
  ·subst e;rw[if_pos rfl]
  ·rw[if_neg λh=>e (c9 (by omega) (by omega) h)];exact h t (by omega)
theorem tu(Q:Nat→Prop)(x:Nat):∀ y,(∀ p,x≤p→p<y→¬ Q p)∨∃ e,x≤e∧e<y∧Q e∧∀ p,x≤p→p<e→¬ Q p
 | 0=>.inl λp _ h=>absurd h (by omega)
 | y+1=>by
  rcases tu Q x y with h|⟨e,h1,h2,h3⟩
  ·by_cases hy:x≤y∧Q y
   ·exact .inr ⟨y,hy.1,by omega,hy.2,h⟩
   ·refine .inl λp h1 h2 hq=>?_
    by_cases e:p=y
    ·subst e;exact hy ⟨h1,hq⟩
    ·exact h p h1 (by omega) hq
  ·exact .inr ⟨e,h1,by omega,h3⟩
theorem og.read_has{o:O}{call:Go.Ai.Call}{fr:FT}{h h1:H}{v:AV}(hk:cz o = .read)(a:og o call fr h v h1){x:a6}(hx:o.main=some x){p:ab}(hp:p ∈ (x.ev fr).at):h.mem.has p:=by
 by_cases hn:h.mem.has p
 ·exact hn
 have hn':h.mem p = .none:=Classical.byContradiction hn
 have hcell:∀ k,bq (cellsOf p h k):=λk=>by
  cases h with
  | mk t n =>
   show bq (Obj.casesOn (motive:=λ_=>aa) (ax p t) (.bad 7) k (λ_ _=>.bad 8) (.bad 9) (λ_ _ _ _ _ _=>.bad 9))
   rw[show ax p t = .none from hn'];exact⟨7,rfl⟩
 have hmap:∀ k,bq (mapOf p h k):=λk=>by
  cases h with
  | mk t n =>
   show bq (Obj.casesOn (motive:=λ_=>aa) (ax p t) (.bad 10) (λ_ _=>.bad 10) k (.bad 10) (λ_ _ _ _ _ _=>.bad 10))
   rw[show ax p t = .none from hn'];exact⟨10,rfl⟩
 refine (a.notBad λk=>?_).elim
 cases o <;> first | (cases hk;done) | skip
 case loadS y =>
  cases hx
  show bq ((x.ev fr).onPtr λo i=>cellsOf o h λcs _=>nthC cs i λv=>k v h)
  generalize x.ev fr=u at *
  cases u <;> first | exact⟨_,rfl⟩ | skip
  case ptr o i=>simp only[AV.at,List.mem_singleton]at hp;subst hp;exact hcell _
 case loadA n y =>
  cases hx
  show bq ((x.ev fr).onPtr λo i=>cellsOf o h λcs _=>ldropC i cs λcs=>ltake n cs λcs=>k (.agg cs) h)
  generalize x.ev fr=u at *
  cases u <;> first | exact⟨_,rfl⟩ | skip
  case ptr o i=>simp only[AV.at,List.mem_singleton]at hp;subst hp;exact hcell _
 case b2s y =>
  cases hx
  show bq ((x.ev fr).lenC λn=>sliceCells 1 (x.ev fr) n h λcs=>bytesC cs λl=>k (.str l) h)
  generalize x.ev fr=u at *
  cases u <;> first | (simp only[AV.at,List.not_mem_nil]at hp;done) | exact⟨_,rfl⟩ | skip
  case slc o i n c =>
   simp only[AV.at,List.mem_singleton]at hp;subst hp
   show bq (must 12 (Nat.ble n n) (cellsOf p h λcs _=>ldropC i cs λcs=>ltake (Nat.mul n 1) cs λcs=>bytesC cs λl=>k (.str l) h))
   rcases ay 12 (Nat.ble n n)with hb|⟨_,e⟩
   ·exact hb _
   ·rw[e];exact hcell _
 case lookup s z c y q =>
  cases hx
  show bq (must 12 ((q.ev fr).isKey s) ((x.ev fr).onMapN (dD c z false h k) λo=>mapOf o h λes _=>findEnt (q.ev fr) es (λq=>Option.casesOn (motive:=λ_=>aa) q (dD c z false h k) (λq=>dD c q.1 true h k)) 0))
  rcases ay 12 ((q.ev fr).isKey s)with hb|⟨_,e⟩
  ·exact hb _
  rw[e]
  generalize x.ev fr=u at *
  cases u <;> first | (simp only[AV.at,List.not_mem_nil]at hp;done) | exact⟨_,rfl⟩ | skip
  case map o=>simp only[AV.at,List.mem_singleton]at hp;subst hp;exact hmap _
 case lenMap y =>
  cases hx
  show bq ((x.ev fr).onMapN (k (.int .i64 0) h) λo=>mapOf o h λes _=>forceN (aW es) λn=>k (.int .i64 (.ofNat n)) h)
  generalize x.ev fr=u at *
  cases u <;> first | (simp only[AV.at,List.not_mem_nil]at hp;done) | exact⟨_,rfl⟩ | skip
  case map o=>simp only[AV.at,List.mem_singleton]at hp;subst hp;exact hmap _
end Go.Ai
namespace Go.Ai
set_option linter.unusedSectionVars false
variable [Nu]
open Go
structure LD (P:Program) (N:Nat) (ops:Array Oper) (call:Go.Ai.Call) (n:Nat) (ix:Nat→Nat) (oo:Nat→Oper) (fs:Nat→FT) (Hs:Nat→H) (v:Nat→AV) (wn:Nat→Bool):Prop where
 of:OF P N ops n ix oo λp p'=>((Region.before ops).getD (ix p) 0).testBit (ix p')=true
 step:∀ p,p<n→wT P N ops (Region.before ops) call (ix p) (oo p) (cN (isEff P N ops) ix Hs [] p) (fs p) (fs (p+1)) (Hs p) (Hs (p+1)) (v p) (wn p)
section
variable {P:Program}{N:Nat}{ops:Array Oper}{call:Go.Ai.Call}{n:Nat}{ix:Nat→Nat}{oo:Nat→Oper}{fs:Nat→FT}{Hs:Nat→H}{v:Nat→AV}{wn:Nat→Bool}
def Bp(ops:Array Oper)(ix:Nat→Nat)(p p':Nat):Prop:=((Region.before ops).getD (ix p) 0).testBit (ix p')=true
def vd(P:Program)(N:Nat)(oo:Nat→Oper)(p:Nat):Prop:=cz (dh P N (oo p)) = .eff
def Al(P:Program)(N:Nat)(oo:Nat→Oper)(wn:Nat→Bool)(p:Nat):Prop:=wn p=true∧cz (dh P N (oo p)) = .alloc
theorem LD.isEff(L:LD P N ops call n ix oo fs Hs v wn){p:Nat}(hp:p<n):isEff P N ops (ix p)=true↔vd P N oo p:=th (L.of.op p hp)
theorem LD.quiet(L:LD P N ops call n ix oo fs Hs v wn){p:Nat}(hp:p<n)(hq:¬ vd P N oo p):(¬ Al P N oo wn p∧(Hs (p+1)).mem=(Hs p).mem)∨(Al P N oo wn p∧¬ (Hs p).mem.has (Hs p).next∧∃ b,b ≠ .none∧(Hs (p+1)).mem=upd (Hs p).mem (Hs p).next b):=by
 obtain⟨d,g,_,_,_,_,h1,h2,_,_⟩:=L.step p hp
 cases hw:wn p with
 | false=>exact .inl ⟨λh=>(by rw[Al,hw]at h;cases h.1),by rw[(h2 hw).1]⟩
 | true =>
  have ho:=h1 hw
  cases hk:cz (dh P N (oo p)) with
  | eff=>exact absurd hk hq
  | pure=>exact .inl ⟨λh=>(by rw[Al,hk]at h;cases h.2),by rw[ho.pure_heap hk]⟩
  | read=>exact .inl ⟨λh=>(by rw[Al,hk]at h;cases h.2),by rw[ho.read_heap hk]⟩
  | alloc =>
   obtain⟨h3,b,hb,h4,_⟩:=ho.alloc_any hk
   exact .inr ⟨⟨hw,hk⟩,h3,b,hb,h4⟩
theorem LD.stay(L:LD P N ops call n ix oo fs Hs v wn){x:Nat}{o:ab}:∀ {y:Nat},x≤y→y≤n→(∀ p,x≤p→p<y→¬ vd P N oo p)→(Hs x).mem.has o→(Hs y).mem o=(Hs x).mem o
 | 0,h,_,_,_=>by
            have:x=0:=by omega
            subst this;rfl
 | y+1,h,hn,hq,ho=>by
  by_cases e:x=y+1
  ·subst e;rfl
  ·have ih:=L.stay (show x≤y by omega) (by omega) (λp h1 h2=>hq p h1 (by omega)) ho
   rcases L.quiet (show y<n by omega) (hq y (by omega) (by omega)) with ⟨_,h1⟩|⟨_,h1,b,_,h2⟩
   ·rw[h1];exact ih
   ·rw[h2,bO _ _ λe=>h1 ?_]
    ·exact ih
    ·rw[← e];unfold cJ.has;rw[ih];exact ho
theorem LD.stayH(L:LD P N ops call n ix oo fs Hs v wn){x y:Nat}{o:ab}(h:x≤y)(hn:y≤n)(hq:∀ p,x≤p→p<y→¬ vd P N oo p)(ho:(Hs x).mem.has o):(Hs y).mem.has o:=by
 unfold cJ.has;rw[L.stay h hn hq ho];exact ho
theorem LD.grow(L:LD P N ops call n ix oo fs Hs v wn){x:Nat}{o:ab}:∀ {y:Nat},x≤y→y≤n→(∀ p,x≤p→p<y→¬ vd P N oo p)→(Hs y).mem.has o→(Hs x).mem.has o∨∃ p,x≤p∧p<y∧Al P N oo wn p∧(Hs p).next=o
 | 0,h,_,_,ho=>by
             have:x=0:=by omega
             subst this;exact .inl ho
 | y+1,h,hn,hq,ho=>by
  by_cases e:x=y+1
  ·subst e;exact .inl ho
  ·have ih:=L.grow (o:=o) (show x≤y by omega) (by omega) (λp h1 h2=>hq p h1 (by omega))
   rcases L.quiet (show y<n by omega) (hq y (by omega) (by omega)) with ⟨_,h1⟩|⟨ha,h1,b,_,h2⟩
   ·rw[h1]at ho
    exact (ih ho).imp id λ⟨p,h1,h2,h3⟩=>⟨p,h1,by omega,h3⟩
   ·by_cases e2:(Hs y).next=o
    ·exact .inr ⟨y,by omega,by omega,ha,e2⟩
    ·unfold cJ.has at ho
     rw[h2,bO _ _ λe=>e2 e.symm]at ho
     exact (ih ho).imp id λ⟨p,h1,h2,h3⟩=>⟨p,h1,by omega,h3⟩
theorem LD.new(L:LD P N ops call n ix oo fs Hs v wn){p x:Nat}(hp:p<n)(ha:Al P N oo wn p)(hx:x≤p):¬ (Hs x).mem.has (Hs p).next:=by
 intro hh
 obtain⟨d,g,_,_,_,_,h1,_,_,h4⟩:=L.step p hp
 rcases tu (vd P N oo) x p with h|⟨e,h5,h6,h7,h8⟩
 ·exact ((h1 ha.1).alloc_any ha.2).1 (L.stayH hx (by omega) h hh)
 ·refine h4 ha.1 ha.2 (ix e,Hs e) (cN.mem ((L.isEff (by omega)).2 h7) h6) ?_
  exact L.stayH h5 (by omega) h8 hh
theorem LD.has(L:LD P N ops call n ix oo fs Hs v wn){p:Nat}(hp:p<n)(ha:Al P N oo wn p):(Hs (p+1)).mem.has (Hs p).next:=by
 rcases L.quiet hp (λh=>by rw[vd,ha.2]at h;cases h) with ⟨h,_⟩|⟨_,_,b,hb,h2⟩
 ·exact absurd ha h
 ·unfold cJ.has;rw[h2,aM];exact hb
open Classical in
noncomputable def JB(v:Nat→AV)(Q:Nat→Prop)(x:AV):AV:=if h:∃ p,Q p then v h.choose else x
noncomputable def Wv(n:Nat)(oo:Nat→Oper)(fs:Nat→FT)(v:Nat→AV)(D:Nat→Prop)(t:Nat):AV:=JB v (λp=>p<n∧D p∧(oo p).dst=some t) (b6 (ae t) (fs 0))
theorem oS{D D':Nat→Prop}{t:Nat}(h:∀ p,p<n→(oo p).dst=some t→(D p↔D' p)):Wv n oo fs v D t=Wv n oo fs v D' t:=by
 unfold Wv
 congr 1
 funext p
 apply propext
 constructor
 ·rintro ⟨a,b,c⟩;exact⟨a,(h p a c).1 b,c⟩
 ·rintro ⟨a,b,c⟩;exact⟨a,(h p a c).2 b,c⟩
theorem ys{D:Nat→Prop}{t:Nat}(h:∀ p,p<n→(oo p).dst=some t→¬ D p):Wv n oo fs v D t=b6 (ae t) (fs 0):=by
 unfold Wv JB
 rw[dif_neg]
 rintro ⟨p,a,b,c⟩
 exact h p a c b
theorem LD.Wv_at(L:LD P N ops call n ix oo fs Hs v wn){D:Nat→Prop}{t p:Nat}(hp:p<n)(hD:D p)(ht:(oo p).dst=some t):Wv n oo fs v D t=v p:=by
 have hex:∃ p,p<n∧D p∧(oo p).dst=some t:=⟨p,hp,hD,ht⟩
 unfold Wv JB
 rw[dif_pos hex]
 obtain⟨a,_,c⟩:=hex.choose_spec
 by_cases e:hex.choose=p
 ·rw[e]
 ·exact absurd c (L.of.dst _ _ a hp e t ht)
theorem LD.Wv_put(L:LD P N ops call n ix oo fs Hs v wn){D D':Nat→Prop}{t p:Nat}(hp:p<n)(hD:∀ q,D' q↔D q∨q=p):Wv n oo fs v D' t=if (oo p).dst=some t then v p else Wv n oo fs v D t:=by
 by_cases h:(oo p).dst=some t
 ·rw[if_pos h];exact L.Wv_at hp ((hD p).2 (.inr rfl)) h
 ·rw[if_neg h]
  refine oS λq _ hq=>?_
  rw[hD q]
  constructor
  ·rintro (h1 | rfl)
   ·exact h1
   ·exact absurd hq h
  ·exact .inl
theorem LD.fs_at(L:LD P N ops call n ix oo fs Hs v wn)(hN:N≤1048576){t:Nat}(ht:t<N):∀ {p:Nat},p≤n→b6 (ae t) (fs p)=Wv n oo fs v (λq=>q<p) t
 | 0,_=>(ys λq _ _ h=>absurd h (by omega)).symm
 | p+1,hp=>by
  obtain⟨d,g,hd,_,_,h1,_⟩:=L.step p (by omega)
  rw[L.Wv_put (D:=λq=>q<p) (show p<n by omega) (λq=>by omega),← L.fs_at hN ht (show p≤n by omega),h1]
  cases hdst:(oo p).dst with
  | none=>rw[hdst]at hd;cases hd;simp;rfl
  | some t0 =>
   rw[hdst]at hd
   simp only[nn]at hd
   split at hd
   ·rename_i ht0
    cases hd
    show b6 (ae t) (kh (v p) (ae t0) (fs p))=_
    rw[eK]
    by_cases e:t0=t
    ·subst e;simp
    ·rw[if_neg (λh=>e (c9 (Nat.lt_of_lt_of_le ht hN) (Nat.lt_of_lt_of_le ht0 hN) h).symm),if_neg (λh=>e (by injection h))]
   ·cases hd
theorem LD.look(L:LD P N ops call n ix oo fs Hs v wn){D:Nat→Prop}{p t:Nat}(hp:p<n)(hDp:¬ D p)(hr:∀ q,q<n→Bp ops ix p q→D q)(hc:∀ q,q<n→D q→Bp ops ix q p→D p)(ht:t ∈ i1 ops (oo p)):Wv n oo fs v D t=Wv n oo fs v (λq=>q<p) t:=by
 refine oS λq hq hd=>?_
 by_cases e:q=p
 ·subst e;exact⟨λh=>absurd h hDp,λh=>absurd h (by omega)⟩
 ·rcases L.of.look p q hp hq (Ne.symm e) t hd ht with h|h
  ·exact⟨λ_=>L.of.lt p q hp hq h,λ_=>hr q hq h⟩
  ·exact⟨λhD=>absurd (hc q hq hD h) hDp,λhlt=>absurd (L.of.lt q p hq hp h) (by omega)⟩
theorem DO{K:Value→World→Prop}{nx:Next}{w:World}(h:lG P K nx w):∃ V w',K V w':=by
 cases nx <;> simp only[lG]at h <;> first
  | exact⟨_,_,h⟩
  | exact h.elim
  | (
    obtain⟨e,w',fr,hb,_⟩:=h.2 [] (room_wide _)
    cases e <;> first | exact⟨_,_,hb⟩ | exact hb.elim)
  | (obtain⟨v,w',hk,_⟩:=h default [] (room_wide _);exact⟨_,_,hk⟩)
  | (
    obtain⟨e,w',hb,_⟩:=h.2 default [] (room_wide _)
    cases e <;> first | exact⟨_,_,hb⟩ | exact hb.elim)
def SY(P:Program)(N:Nat)(fr:FT)(h:H):Prop:=∃ (ε : bu) (T:Array Value) (w:World),T.size=N∧b9 ε h.mem fr T∧bX P ε h.mem w
theorem AH{T:Array Value}{d:Option Tmp}{V:Value}:((Act.mk T []).put d V).tmps.size=T.size:=iZ _ _ _
theorem LD.sat(L:LD P N ops call n ix oo fs Hs v wn)(hC:aC P call)(hN:N≤1048576)(h0:SY P N (fs 0) (Hs 0)):∀ p,p≤n→SY P N (fs p) (Hs p)
 | 0,_=>h0
 | p+1,hp=>by
  obtain⟨ε,T,w,hT,hF,hh⟩:=L.sat hC hN h0 p (by omega)
  obtain⟨d,g,hd,_,_,h1,h2,h3,_⟩:=L.step p (by omega)
  rw[h1]
  cases hw:wn p with
  | false =>
   obtain⟨h4,h5⟩:=h3 hw
   rw[h4,h5]
   exact⟨ε,((Act.mk T []).put (oo p).dst undef).tmps,w,by rw[AH];exact hT,xo hd hT hN hF rfl,hh⟩
  | true =>
   have ho:=h2 hw
   rcases fv (N:=N) hC (oo p) (fs p) (Hs p)with hb|⟨_,hb|⟨v',h',e,ok⟩⟩
   ·exact (ho.notBad hb).elim
   ·exact (ho.notBad hb).elim
   obtain⟨rfl,rfl⟩:=ho.uniq e
   obtain⟨nx,w1,_,hre⟩:=ok ε T [] w hT hF hh
   obtain⟨V,w',ε',adv,r⟩:=DO hre
   exact⟨ε',((Act.mk T []).put (oo p).dst V).tmps,w',by rw[AH];exact hT,xo hd hT hN (hF.mono adv.stays) r,adv.rel⟩
def kE(P:Program)(N:Nat)(n:Nat)(oo:Nat→Oper)(fs:Nat→FT)(Hs:Nat→H)(v:Nat→AV)(wn:Nat→Bool)(ε0:bu)(w0:World)(a0:Act)(D:Nat→Prop)(a:Act)(w:World):Prop :=
 ∃ (p0:Nat) (ε : bu) (t:HT),p0≤n∧(∀ p,p<p0→D p)∧(∀ p,p0≤p→p<n→D p→¬ vd P N oo p) ∧
  (∀ o,(Hs p0).mem.has o→ax o t=(Hs p0).mem o) ∧
  (∀ p,p0≤p→p<n→D p→Al P N oo wn p→ax (Hs p).next t=(Hs (p+1)).mem (Hs p).next) ∧
  (∀ o,ax o t ≠ .none→(Hs p0).mem.has o∨∃ p,p0≤p∧p<n∧D p∧Al P N oo wn p∧(Hs p).next=o) ∧
  de P ε0 (Hs 0).mem w0 ε (λo=>ax o t) w∧a.tmps.size=N ∧
  (∀ t',t'<N→∃ V,a.tmps[t']? = some V∧R ε (λo=>ax o t) (Wv n oo fs v D t') V)∧a.defers=a0.defers
theorem Nc{a:Act}{d:Option Tmp}{V:Value}{t':Nat}(ht:t'<a.tmps.size):(a.put d V).tmps[t']? = if d=some t' then some V else a.tmps[t']?:=by
 cases d with
 | none=>simp[Act.put]
 | some s =>
  simp only[Act.put]
  by_cases e:s=t'
  ·subst e;simp[ht]
  ·rw[Array.getElem?_setIfInBounds_ne e,if_neg (λh=>e (by injection h))]
theorem LD.sub(L:LD P N ops call n ix oo fs Hs v wn){D:Nat→Prop}{p0 g:Nat}{t:HT}(hg:p0≤g)(hn:g≤n)(hq:∀ p,p0≤p→p<g→¬ vd P N oo p)(hD:∀ p,p0≤p→p<g→D p)
  (h1:∀ o,(Hs p0).mem.has o→ax o t=(Hs p0).mem o) (h2:∀ p,p0≤p→p<n→D p→Al P N oo wn p→ax (Hs p).next t=(Hs (p+1)).mem (Hs p).next) {o:ab} (ho:(Hs g).mem.has o):ax o t=(Hs g).mem o:=by
 rcases L.grow hg hn hq ho with h|⟨p,h3,h4,h5,rfl⟩
 ·rw[h1 o h,L.stay hg hn hq h]
 ·rw[h2 p h3 (by omega) (hD p h3 h4) h5]
  exact (L.stay (x:=p+1) (by omega) hn (λq h6 h7=>hq q (by omega) h7) (L.has (by omega) h5)).symm
theorem LD.meet(L:LD P N ops call n ix oo fs Hs v wn){D:Nat→Prop}{p0 g:Nat}{t:HT}(hg:p0≤g)(hn:g≤n)(hq:∀ p,p0≤p→p<g→¬ vd P N oo p)
  (h1:∀ o,(Hs p0).mem.has o→ax o t=(Hs p0).mem o) (h2:∀ p,p0≤p→p<n→D p→Al P N oo wn p→ax (Hs p).next t=(Hs (p+1)).mem (Hs p).next)
  (h3:∀ o,ax o t ≠ .none→(Hs p0).mem.has o∨∃ p,p0≤p∧p<n∧D p∧Al P N oo wn p∧(Hs p).next=o) {o:ab} (ho:(Hs g).mem.has o) (ht:ax o t ≠ .none):ax o t=(Hs g).mem o:=by
 rcases h3 o ht with h|⟨p,h4,h5,h6,h7,rfl⟩
 ·rw[h1 o h,L.stay hg hn hq h]
 ·by_cases hlt:p<g
  ·rw[h2 p h4 h5 h6 h7]
   exact (L.stay (x:=p+1) (by omega) hn (λq h8 h9=>hq q (by omega) h9) (L.has h5 h7)).symm
  ·exact absurd ho (L.new h5 h7 (by omega))
theorem z9{ops:Array Oper}{gd:Option (Nat × Bool)}{g:G}(hg:gj N ops gd=some g){fr fr':FT}(h:∀ j w t,gd=some (j,w)→((ops[j]?).bind (·.dst))=some t→t<N→b6 (ae t) fr=b6 (ae t) fr')(y z:aa):g.on' fr y z=g.on' fr' y z:=by
 cases gd with
 | none=>cases hg;rfl
 | some p =>
  obtain⟨j,want⟩:=p
  simp only[gj,Option.bind_eq_some_iff]at hg
  obtain⟨t,hj,hg⟩:=hg
  split at hg
  ·rename_i ht
   cases hg
   show (b6 (ae t) fr).onGuard want y z=(b6 (ae t) fr').onGuard want y z
   rw[h j want t rfl (by simp only[Option.bind_eq_some_iff];exact hj) ht]
  ·cases hg
theorem rU{ops:Array Oper}{o:Oper}{j:Nat}{w:Bool}{t:Tmp}(h:o.guard=some (j,w))(ht:((ops[j]?).bind (·.dst))=some t):t ∈ i1 ops o:=by
 unfold i1
 rw[h]
 exact List.mem_append_right _ (by simp[ht])
theorem uU{ops:Array Oper}{o:Oper}{t:Tmp}(h:Operand.tmp t ∈ o.op.operands):t ∈ i1 ops o:=by
 unfold i1
 exact List.mem_append_left _ (List.mem_filterMap.2 ⟨.tmp t,by simpa using h,rfl⟩)
end
end Go.Ai
namespace Go.Ai
set_option linter.unusedSectionVars false
variable [Nu]
open Go
section
variable {P:Program}{N:Nat}{ops:Array Oper}{call:Go.Ai.Call}{n:Nat}{ix:Nat→Nat}{oo:Nat→Oper}{fs:Nat→FT}{Hs:Nat→H}{v:Nat→AV}{wn:Nat→Bool}
theorem LD.tmps(L:LD P N ops call n ix oo fs Hs v wn){D D':Nat→Prop}{p:Nat}(hp:p<n)(hD:∀ q,D' q↔D q∨q=p){ε ε':bu}{m m':cJ}(hs:cG ε m ε' m'){a:Act}(hT:a.tmps.size=N){V:Value}(rV:R ε' m' (v p) V)
  (h:∀ t',t'<N→∃ V,a.tmps[t']? = some V∧R ε m (Wv n oo fs v D t') V):∀ t',t'<N→∃ V',(a.put (oo p).dst V).tmps[t']? = some V'∧R ε' m' (Wv n oo fs v D' t') V':=λt' ht=>by
 rw[L.Wv_put hp hD,Nc (hT.symm ▸ ht)]
 by_cases e:(oo p).dst=some t'
 ·rw[if_pos e,if_pos e];exact⟨V,rfl,rV⟩
 ·rw[if_neg e,if_neg e]
  obtain⟨W,h1,h2⟩:=h t' ht
  exact⟨W,h1,R.mono hs _ _ h2⟩
theorem LD.skip(L:LD P N ops call n ix oo fs Hs v wn){ε0:bu}{w0:World}{a0:Act}{D D':Nat→Prop}{a:Act}{w:World}{p:Nat}(hp:p<n)(hDp:¬ D p)(hD:∀ q,D' q↔D q∨q=p)(hr:∀ q,q<n→Bp ops ix p q→D q)(hw:wn p=false)
  (hI:kE P N n oo fs Hs v wn ε0 w0 a0 D a w):kE P N n oo fs Hs v wn ε0 w0 a0 D' (a.put (oo p).dst undef) w:=by
 obtain⟨p0,ε,t,h0,h1,h2,h3,h4,h5,adv,hT,hF,hd⟩:=hI
 obtain⟨d,g,_,_,_,_,_,hs,_⟩:=L.step p hp
 obtain⟨hH,hv⟩:=hs hw
 have hp0:p0≤p:=by
  by_cases h:p0≤p
  ·exact h
  ·exact absurd (h1 p (by omega)) hDp
 have hal:¬ Al P N oo wn p:=λh=>by rw[Al,hw]at h;cases h.1
 have hF':=L.tmps (D:=D) (V:=undef) hp hD (cG.refl ε λo=>ax o t) hT (by rw[hv];rfl) hF
 by_cases he:vd P N oo p
 ·have hDlt:∀ q,q<p→D q:=λq hq=>hr q (by omega) (L.of.eff p hp ((L.isEff hp).2 he) q hq)
  have hq:∀ q,p0≤q→q<p→¬ vd P N oo q:=λq h6 h7=>h2 q h6 (by omega) (hDlt q h7)
  refine⟨p+1,ε,t,by omega,λq hq'=>?_,λq h6 h7 h8=>?_,λo ho=>?_,λq h6 h7 h8 h9=>?_,λo ho=>?_,adv,by rw[iZ];exact hT,hF',by rw[gw];exact hd⟩
  ·rw[hD]
   by_cases e:q=p
   ·exact .inr e
   ·exact .inl (hDlt q (by omega))
  ·rcases (hD q).1 h8 with h8|rfl
   ·exact h2 q (by omega) h7 h8
   ·omega
  ·rw[hH]at ho ⊢
   exact L.sub hp0 (by omega) hq (λq h6 h7=>hDlt q h7) h3 h4 ho
  ·rcases (hD q).1 h8 with h8|rfl
   ·exact h4 q (by omega) h7 h8 h9
   ·omega
  ·rw[hH]
   rcases h5 o ho with h|⟨q,h6,h7,h8,h9,rfl⟩
   ·exact .inl (L.stayH hp0 (by omega) hq h)
   ·by_cases hlt:q<p
    ·exact .inl (L.stayH (x:=q+1) (by omega) (by omega) (λz h10 h11=>hq z (by omega) h11) (L.has h7 h9))
    ·refine .inr ⟨q,?_,h7,(hD q).2 (.inl h8),h9,rfl⟩
     have:q≠p:=λe=>hDp (e ▸ h8)
     omega
 ·refine⟨p0,ε,t,h0,λq hq=>(hD q).2 (.inl (h1 q hq)),λq h6 h7 h8=>?_,h3,λq h6 h7 h8 h9=>?_,λo ho=>?_,adv,by rw[iZ];exact hT,hF',by rw[gw];exact hd⟩
  ·rcases (hD q).1 h8 with h8|rfl
   ·exact h2 q h6 h7 h8
   ·exact he
  ·rcases (hD q).1 h8 with h8|rfl
   ·exact h4 q h6 h7 h8 h9
   ·exact absurd h9 hal
  ·exact (h5 o ho).imp id λ⟨q,h6,h7,h8,h9⟩=>⟨q,h6,h7,(hD q).2 (.inl h8),h9⟩
theorem LD.outQuiet(L:LD P N ops call n ix oo fs Hs v wn){D:Nat→Prop}{p p0:Nat}{t:HT}{fr:FT}{ε : bu}{T:Array Value}(hp:p<n)(hp0:p0≤p)(hDp:¬ D p)(hr:∀ q,q<n→Bp ops ix p q→D q)(hw:wn p=true)(he:¬ vd P N oo p)
  (h2:∀ p,p0≤p→p<n→D p→¬ vd P N oo p)
  (h3:∀ o,(Hs p0).mem.has o→ax o t=(Hs p0).mem o) (h4:∀ p,p0≤p→p<n→D p→Al P N oo wn p→ax (Hs p).next t=(Hs (p+1)).mem (Hs p).next)
  (h5:∀ o,ax o t ≠ .none→(Hs p0).mem.has o∨∃ p,p0≤p∧p<n∧D p∧Al P N oo wn p∧(Hs p).next=o)
  (hT:T.size=N) (hF:b9 ε (λo=>ax o t) fr T) (hfr:∀ t',t'<N→t' ∈ i1 ops (oo p)→b6 (ae t') fr=b6 (ae t') (fs p)) :
  ∃ t1,og (dh P N (oo p)) call fr (.mk t (Hs p).next) (v p) t1∧((¬ Al P N oo wn p∧t1.mem = λo=>ax o t)∨(Al P N oo wn p∧(∀ o,o≠(Hs p).next→t1.mem o=ax o t)∧t1.mem (Hs p).next=(Hs (p+1)).mem (Hs p).next)):=by
 have hag:∀ q ∈ (dh P N (oo p)).tmps,b6 q (fs p)=b6 q fr:=λq hq=>by
  obtain⟨t',h6,h7,rfl⟩:=L.of.tmps p hp q hq
  exact (hfr t' h7 h6).symm
 obtain⟨d,g,_,_,_,_,hs1,_,hs3,hs4⟩:=L.step p hp
 have ho:=(hs1 hw).agree hag
 cases hk:cz (dh P N (oo p)) with
 | eff=>exact absurd hk he
 | pure=>exact⟨_,ho.pure_any hk (.mk t (Hs p).next),.inl ⟨λh=>(by rw[Al,hk]at h;cases h.2),rfl⟩⟩
 | read =>
  have hG:∃ g',p0≤g'∧g'≤n∧(∀ q,p0≤q→q<g'→¬ vd P N oo q)∧∃ h',og (dh P N (oo p)) call (fs p) (Hs g') (v p) h':=by
   rcases tu (vd P N oo) p0 p with h|⟨e,h6,h7,h8,h9⟩
   ·exact⟨p,hp0,by omega,h,_,hs1 hw⟩
   ·refine⟨e,h6,by omega,h9,?_⟩
    obtain⟨h',k⟩:=hs3 hw hk (ix e,Hs e) (cN.while (q:=λe=>!((Region.before ops).getD (ix p) 0).testBit e) ((L.isEff (by omega)).2 h8) h7 λe' k1 k2 k3=>by
     rw[Bool.not_eq_true']
     cases hb:((Region.before ops).getD (ix p) 0).testBit (ix e') with
     | false=>rfl
     | true=>exact absurd ((L.isEff (by omega)).1 k3) (h2 e' (by omega) (by omega) (hr e' (by omega) hb)))
    exact⟨h',k⟩
  obtain⟨g',k1,k2,k3,h',k4⟩:=hG
  have k5:=k4.agree hag
  refine⟨_,k5.read_any hk (.mk t (Hs p).next) λx hx q hq=>?_,.inl ⟨λh=>(by rw[Al,hk]at h;cases h.2),rfl⟩⟩
  have hg:=k5.read_has hk hx hq
  have hm:ax q t ≠ .none:=by
   have hmain:=L.of.main p hp
   cases x with
   | const u =>
    unfold s7 at hmain
    rw[hx]at hmain
    have hq':q ∈ u.at:=hq
    simp only[List.isEmpty_iff]at hmain
    rw[hmain]at hq';cases hq'
   | tmp y =>
    have hq':y.p ∈ (dh P N (oo p)).tmps:=by
     cases ho':dh P N (oo p) <;> rw[ho']at hx <;> first | (cases hx;done) | skip
     all_goals (cases hx;simp[O.tmps,i5])
    obtain⟨t',_,h7,h8⟩:=L.of.tmps p hp y.p hq'
    obtain⟨V,_,rV⟩:=hF t' (hT.symm ▸ h7)
    have hq2:q ∈ (y.get fr).at:=hq
    rw[y.okg,h8]at hq2
    exact R.at_has rV hq2
  exact L.meet k1 k2 k3 h3 h4 h5 hg hm
 | alloc =>
  have hal:Al P N oo wn p:=⟨hw,hk⟩
  obtain⟨k1,b,hb,k2,_⟩:=(hs1 hw).alloc_any hk
  have hnone:ax (Hs p).next t = .none:=by
   refine Classical.byContradiction λhne=>?_
   rcases h5 _ hne with h|⟨q,h6,h7,h8,h9,h10⟩
   ·exact L.new hp hal hp0 h
   ·have hqp:q≠p:=λe=>hDp (e ▸ h8)
    by_cases hlt:q<p
    ·exact L.new hp hal (x:=q+1) (by omega) (by rw[← h10];exact L.has h7 h9)
    ·exact L.new h7 h9 (x:=p+1) (by omega) (by rw[h10];exact L.has hp hal)
  obtain⟨_,b',hb',k3,k4⟩:=ho.alloc_any hk
  refine⟨_,k4 t hnone,.inr ⟨hal,λo ho'=>?_,?_⟩⟩
  ·show ax o (aX b' (Hs p).next t)=_
   rw[cC,if_neg ho']
  ·show ax (Hs p).next (aX b' (Hs p).next t)=_
   rw[cC,if_pos rfl,k3,aM]
theorem LD.goQuiet(L:LD P N ops call n ix oo fs Hs v wn)(hC:aC P call)(hN:N≤1048576){r:Option Nat}{ε0:bu}{w0:World}{a0:Act}{D D':Nat→Prop}{a:Act}{w:World}{p:Nat}{K:Act→World→Prop}{Q:Exit→Act→World→Prop}(hp:p<n)(hDp:¬ D p)(hD:∀ q,D' q↔D q∨q=p)(hr:∀ q,q<n→Bp ops ix p q→D q)(hc:∀ q,q<n→D q→Bp ops ix q p→D p)(hw:wn p=true)(he:¬ vd P N oo p)
  (hI:kE P N n oo fs Hs v wn ε0 w0 a0 D a w) (hK:∀ a' w',kE P N n oo fs Hs v wn ε0 w0 a0 D' a' w'→K a' w'):(oo p).wpIn (fa r) 0 P a w K Q:=by
 obtain⟨p0,ε,t,h0,h1,h2,h3,h4,h5,adv,hT,hF,hd⟩:=hI
 have hp0:p0≤p:=by
  by_cases h:p0≤p
  ·exact h
  ·exact absurd (h1 p (by omega)) hDp
 obtain⟨fr,hfr⟩:=sR (Wv n oo fs v D) N hN
 have hFR:b9 ε (λo=>ax o t) fr a.tmps:=λt' ht=>by
  rw[hT]at ht
  obtain⟨V,e,rV⟩:=hF t' ht
  exact⟨V,e,by rw[hfr t' ht];exact rV⟩
 obtain⟨t1,ho,hmem⟩:=L.outQuiet hp hp0 hDp hr hw he h2 h3 h4 h5 hT hFR λt' ht hwt=>by
  rw[hfr t' ht,L.fs_at hN ht (by omega)];exact L.look hp hDp hr hc hwt
 rcases fv (N:=N) hC (oo p) fr (.mk t (Hs p).next)with hb|⟨hnd,hb|⟨v',h',e,ok⟩⟩
 ·exact (ho.notBad hb).elim
 ·exact (ho.notBad hb).elim
 obtain⟨rfl,rfl⟩:=ho.uniq e
 obtain⟨nx,w1,hrun,hre⟩:=ok ε a.tmps a.defers w hT hFR adv.rel
 refine nI hnd hrun hre λV w' ⟨ε',adv',rV⟩=>hK _ _ ?_
 have adv2:=adv.trans adv'
 have hF':=L.tmps (D:=D) hp hD adv'.stays hT rV hF
 cases ht1:t1 with
 | mk t2 c2 =>
  subst ht1
  refine⟨p0,ε',t2,h0,λq hq=>(hD q).2 (.inl (h1 q hq)),λq h6 h7 h8=>?_,λo ho'=>?_,λq h6 h7 h8 h9=>?_,λo ho'=>?_,adv2,by rw[iZ];exact hT,hF',by rw[gw];exact hd⟩
  ·rcases (hD q).1 h8 with h8|rfl
   ·exact h2 q h6 h7 h8
   ·exact he
  ·rcases hmem with ⟨_,hm⟩|⟨ha,hm,_⟩
   ·rw[show ax o t2=ax o t from congrFun hm o];exact h3 o ho'
   ·rw[show ax o t2=ax o t from hm o λe=>L.new hp ha hp0 (e ▸ ho')];exact h3 o ho'
  ·rcases hmem with ⟨hna,hm⟩|⟨ha,hm,hm2⟩
   ·rcases (hD q).1 h8 with h8|rfl
    ·rw[show ax (Hs q).next t2=ax (Hs q).next t from congrFun hm _];exact h4 q h6 h7 h8 h9
    ·exact absurd h9 hna
   ·by_cases hqp:q=p
    ·subst hqp;exact hm2
    ·have h8':=((hD q).1 h8).resolve_right hqp
     have hne:(Hs q).next≠(Hs p).next:=λe=>by
      by_cases hlt:q<p
      ·exact L.new hp ha (x:=q+1) (by omega) (by rw[← e];exact L.has h7 h9)
      ·exact L.new h7 h9 (x:=p+1) (by omega) (by rw[e];exact L.has hp ha)
     rw[show ax (Hs q).next t2=ax (Hs q).next t from hm _ hne];exact h4 q h6 h7 h8' h9
  ·rcases hmem with ⟨hna,hm⟩|⟨ha,hm,hm2⟩
   ·rw[show ax o t2=ax o t from congrFun hm o]at ho'
    exact (h5 o ho').imp id λ⟨q,h6,h7,h8,h9⟩=>⟨q,h6,h7,(hD q).2 (.inl h8),h9⟩
   ·by_cases e:o=(Hs p).next
    ·exact .inr ⟨p,hp0,hp,(hD p).2 (.inr rfl),ha,e.symm⟩
    ·rw[show ax o t2=ax o t from hm o e]at ho'
     exact (h5 o ho').imp id λ⟨q,h6,h7,h8,h9⟩=>⟨q,h6,h7,(hD q).2 (.inl h8),h9⟩
end
end Go.Ai
namespace Go.Ai
set_option linter.unusedSectionVars false
variable [Nu]
open Go
section
variable {P:Program}{N:Nat}{ops:Array Oper}{call:Go.Ai.Call}{n:Nat}{ix:Nat→Nat}{oo:Nat→Oper}{fs:Nat→FT}{Hs:Nat→H}{v:Nat→AV}{wn:Nat→Bool}
theorem LD.goEff(L:LD P N ops call n ix oo fs Hs v wn)(hC:aC P call)(hN:N≤1048576){r:Option Nat}{ε0:bu}{w0:World}{a0:Act}{D D':Nat→Prop}{a:Act}{w:World}{p:Nat}{K:Act→World→Prop}{Q:Exit→Act→World→Prop}(hp:p<n)(hDp:¬ D p)(hD:∀ q,D' q↔D q∨q=p)(hr:∀ q,q<n→Bp ops ix p q→D q)(hc:∀ q,q<n→D q→Bp ops ix q p→D p)(hw:wn p=true)(he:vd P N oo p)
  (hsz:a0.tmps.size=N) (hF0:b9 ε0 (Hs 0).mem (fs 0) a0.tmps) (hsat:∀ p,p≤n→SY P N (fs p) (Hs p))
  (hI:kE P N n oo fs Hs v wn ε0 w0 a0 D a w) (hK:∀ a' w',kE P N n oo fs Hs v wn ε0 w0 a0 D' a' w'→K a' w'):(oo p).wpIn (fa r) 0 P a w K Q:=by
 obtain⟨p0,ε,t,h0,h1,h2,h3,h4,h5,adv,hT,hF,hd⟩:=hI
 have hp0:p0≤p:=by
  by_cases h:p0≤p
  ·exact h
  ·exact absurd (h1 p (by omega)) hDp
 have hDlt:∀ q,q<p→D q:=λq hq=>hr q (by omega) (L.of.eff p hp ((L.isEff hp).2 he) q hq)
 have hq:∀ q,p0≤q→q<p→¬ vd P N oo q:=λq h6 h7=>h2 q h6 (by omega) (hDlt q h7)
 have hsub:∀ o,(Hs p).mem.has o→ax o t=(Hs p).mem o:=λo ho=>L.sub hp0 (by omega) hq (λq h6 h7=>hDlt q h7) h3 h4 ho
 obtain⟨ε1,T1,w1,hT1,hF1,hh1⟩:=hsat p (by omega)
 have hh:bX P ε (Hs p).mem w:=hh1.narrow adv.rel hsub
 have hval:∀ t',∃ V,t'<N→R ε (Hs p).mem (b6 (ae t') (fs p)) V∧(t' ∈ i1 ops (oo p)→a.tmps[t']? = some V):=λt'=>by
  by_cases ht:t'<N
  ·obtain⟨V1,_,r1⟩:=hF1 t' (hT1.symm ▸ ht)
   by_cases hx:∃ q,q<n∧p<q∧D q∧(oo q).dst=some t'
   ·obtain⟨q,q1,q2,q3,q4⟩:=hx
    obtain⟨V,e,rV⟩:=hF0 t' (hsz.symm ▸ ht)
    have hold:b6 (ae t') (fs p)=b6 (ae t') (fs 0):=by
     rw[L.fs_at hN ht (by omega)]
     refine ys λz hz hdz hlt=>?_
     have hne:q≠z:=by omega
     exact L.of.dst q z q1 hz hne t' hdz q4
    refine⟨V,λ_=>⟨R.narrow _ _ _ r1 (by rw[hold];exact R.mono adv.stays _ _ rV),λhwt=>?_⟩⟩
    rcases L.of.look p q hp q1 (by omega) t' q4 hwt with h|h
    ·exact absurd (L.of.lt p q hp q1 h) (by omega)
    ·exact absurd (hc q q1 q3 h) hDp
   ·obtain⟨V,e,rV⟩:=hF t' ht
    have hsame:Wv n oo fs v D t'=b6 (ae t') (fs p):=by
     rw[L.fs_at hN ht (by omega)]
     refine oS λq q1 q2=>⟨λh=>?_,λh=>hDlt q h⟩
     have hqp:q≠p:=λe=>hDp (e ▸ h)
     have:¬ p<q:=λh'=>hx ⟨q,q1,h',h,q2⟩
     omega
    exact⟨V,λ_=>⟨R.narrow _ _ _ r1 (by rw[← hsame];exact rV),λ_=>e⟩⟩
  ·exact⟨undef,λh=>absurd h ht⟩
 let T2:Array Value:=((List.range N).map λt'=>(hval t').choose).toArray
 have hT2:T2.size=N:=by simp[T2]
 have hT2g:∀ t',t'<N→T2[t']? = some (hval t').choose:=λt' ht=>by simp[T2,ht]
 have hF2:b9 ε (Hs p).mem (fs p) T2:=λt' ht=>by
  rw[hT2]at ht
  exact⟨_,hT2g t' ht,((hval t').choose_spec ht).1⟩
 obtain⟨d,g,_,_,_,_,hs1,_,_,_⟩:=L.step p hp
 have ho:=hs1 hw
 rcases fv (N:=N) hC (oo p) (fs p) (Hs p)with hb|⟨hnd,hb|⟨v',h',e,ok⟩⟩
 ·exact (ho.notBad hb).elim
 ·exact (ho.notBad hb).elim
 obtain⟨rfl,rfl⟩:=ho.uniq e
 obtain⟨nx,w2,hrun,hre⟩:=ok ε T2 a.defers w hT2 hF2 hh
 have hsel:∀ cs b,(oo p).op ≠ .select cs b:=λcs b hs=>by
  have h6:dh P N (oo p)=gK:=by unfold dh;rw[hs];rfl
  rw[h6]at ho
  exact ho.notBad λk=>ge _ _ _ k
 have hev:∀ x ∈ (oo p).op.operands,(Act.mk T2 a.defers).eval x=a.eval x:=λx hx=>by
  cases x with
  | tmp t' =>
   have hwt:t' ∈ i1 ops (oo p):=uU hx
   have hg:T2[t']? = a.tmps[t']?:=by
    by_cases ht:t'<N
    ·exact (hT2g t' ht).trans (((hval t').choose_spec ht).2 hwt).symm
    ·rw[Array.getElem?_eq_none (by rw[hT2];exact Nat.le_of_not_lt ht),Array.getElem?_eq_none (by rw[hT];exact Nat.le_of_not_lt ht)]
   simp[Act.eval,hg]
  | _=>rfl
 rw[execOp_congr (oo p) hsel hev]at hrun
 refine nI hnd hrun hre λV w' ⟨ε',adv',rV⟩=>hK _ _ ?_
 have hfresh:∀ o,ax o t ≠ .none→¬ (Hs p).mem.has o→¬ (Hs (p+1)).mem.has o:=λo k1 k2=>by
  rcases h5 o k1 with h|⟨q,h6,h7,h8,h9,rfl⟩
  ·exact absurd (L.stayH hp0 (by omega) hq h) k2
  ·by_cases hlt:q<p
   ·exact absurd (L.stayH (x:=q+1) (by omega) (by omega) (λz h10 h11=>hq z (by omega) h11) (L.has h7 h9)) k2
   ·have hqp:q≠p:=λe=>hDp (e ▸ h8)
    exact L.new h7 h9 (by omega)
 have advW:=de.widen adv.rel hsub adv' hfresh
 obtain⟨S1,hS1⟩:=sl t
 obtain⟨S2,hS2⟩:=sl (Hs (p+1)).tree
 have htree:∀ o,ax o (Hs (p+1)).tree=(Hs (p+1)).mem o:=λo=>by cases Hs (p+1);rfl
 obtain⟨t2,ht2⟩:=LS (xa (Hs (p+1)).mem λo=>ax o t) (S1++S2) λo ho'=>by
  by_cases h6:(Hs (p+1)).mem.has o
  ·exact List.mem_append_right _ (hS2 o (by rw[htree];exact h6))
  ·rw[dE h6]at ho';exact List.mem_append_left _ (hS1 o ho')
 have ht2':(λo=>ax o t2)=xa (Hs (p+1)).mem λo=>ax o t:=funext ht2
 rw[← ht2']at advW
 have adv2:=adv.trans advW
 have stays':cG ε' (Hs (p+1)).mem ε' (λo=>ax o t2):=λo ho'=>⟨by show ax o t2 ≠ .none;rw[ht2,dX ho'];exact ho',rfl⟩
 have hF':=L.tmps (D:=D) hp hD advW.stays hT (R.mono stays' _ _ rV) hF
 refine⟨p+1,ε',t2,by omega,λq hq'=>?_,λq h6 h7 h8=>?_,λo ho'=>?_,λq h6 h7 h8 h9=>?_,λo ho'=>?_,adv2,by rw[iZ];exact hT,hF',by rw[gw];exact hd⟩
 ·rw[hD]
  by_cases e:q=p
  ·exact .inr e
  ·exact .inl (hDlt q (by omega))
 ·rcases (hD q).1 h8 with h8|rfl
  ·exact h2 q (by omega) h7 h8
  ·omega
 ·rw[ht2,dX ho']
 ·have h8':D q:=by
   rcases (hD q).1 h8 with h8|rfl
   ·exact h8
   ·omega
  rw[ht2,dE (L.new h7 h9 h6)]
  exact h4 q (by omega) h7 h8' h9
 ·rw[ht2]at ho'
  by_cases h6:(Hs (p+1)).mem.has o
  ·exact .inl h6
  ·rw[dE h6]at ho'
   rcases h5 o ho' with h|⟨q,h7,h8,h9,h10,rfl⟩
   ·exact absurd ((adv'.stays o (L.stayH hp0 (by omega) hq h)).1) h6
   ·by_cases hlt:q<p
    ·exact absurd ((adv'.stays _ (L.stayH (x:=q+1) (by omega) (by omega) (λz h11 h12=>hq z (by omega) h12) (L.has h8 h10))).1) h6
    ·have hqp:q≠p:=λe=>hDp (e ▸ h9)
     exact .inr ⟨q,by omega,h8,(hD q).2 (.inl h9),h10,rfl⟩
theorem LD.go(L:LD P N ops call n ix oo fs Hs v wn)(hC:aC P call)(hN:N≤1048576){r:Option Nat}{ε0:bu}{w0:World}{a0:Act}{D D':Nat→Prop}{a:Act}{w:World}{p:Nat}{K:Act→World→Prop}{Q:Exit→Act→World→Prop}(hp:p<n)(hDp:¬ D p)(hD:∀ q,D' q↔D q∨q=p)(hr:∀ q,q<n→Bp ops ix p q→D q)(hc:∀ q,q<n→D q→Bp ops ix q p→D p)
  (hsz:a0.tmps.size=N) (hF0:b9 ε0 (Hs 0).mem (fs 0) a0.tmps) (hsat:∀ p,p≤n→SY P N (fs p) (Hs p))
  (hI:kE P N n oo fs Hs v wn ε0 w0 a0 D a w) (hK:∀ a' w',kE P N n oo fs Hs v wn ε0 w0 a0 D' a' w'→K a' w'):wpOpIn (fa r) 0 P ops Q (ix p) K a w:=by
 have hop:=L.of.op p hp
 obtain⟨d,g,hd,hg,hgw,_⟩:=L.step p hp
 have hwant:Region.wanted (oo p) (yielded ops a.tmps)=wn p:=by
  obtain⟨p0,ε,t,_,_,_,_,_,_,adv,hT,hF,_⟩:=hI
  obtain⟨fr,hfr⟩:=sR (Wv n oo fs v D) N hN
  have hFR:b9 ε (λo=>ax o t) fr a.tmps:=λt' ht=>by
   rw[hT]at ht
   obtain⟨V,e,rV⟩:=hF t' ht
   exact⟨V,e,by rw[hfr t' ht];exact rV⟩
  have hsame:∀ y z,g.on' fr y z=ifC (wn p) y z:=λy z=>by
   rw[← hgw y z]
   refine z9 hg (λj w' t' e1 e2 ht=>?_) y z
   rw[hfr t' ht,L.fs_at hN ht (by omega)]
   exact L.look hp hDp hr hc (rU e1 e2)
  rcases xr hg fr with hb|⟨b,e1,e2⟩
  ·obtain⟨i,hb⟩:=hb (.fin .undef (.mk .leaf .e)) (.fin .undef (.mk .leaf .e))
   rw[hsame]at hb
   cases hw:wn p <;> rw[hw]at hb <;> cases hb
  ·rw[e2 ε _ a.tmps (oo p) rfl hT hFR]
   have h3:=(e1 (.bad 0) (.bad 1)).symm.trans (hsame (.bad 0) (.bad 1))
   cases b <;> cases hw:wn p <;> rw[hw]at h3 <;> first | rfl | (injection h3 with h3;cases h3)
 unfold wpOpIn
 simp only[hop,hwant]
 cases hw:wn p with
 | false =>
  simp only[Bool.false_eq_true,if_false]
  exact⟨λ_ _=>trivial,hK _ _ (L.skip hp hDp hD hr hw hI)⟩
 | true =>
  simp only[if_true]
  by_cases he:vd P N oo p
  ·exact L.goEff hC hN hp hDp hD hr hc hw he hsz hF0 hsat hI hK
  ·exact L.goQuiet hC hN hp hDp hD hr hc hw he hI hK
theorem LD.fin(L:LD P N ops call n ix oo fs Hs v wn)(hN:N≤1048576){ε0:bu}{w0:World}{a0:Act}{D:Nat→Prop}{a:Act}{w:World}(hall:∀ p,p<n→D p)(hI:kE P N n oo fs Hs v wn ε0 w0 a0 D a w):
  ∃ ε,de P ε0 (Hs 0).mem w0 ε (Hs n).mem w∧a.tmps.size=N∧b9 ε (Hs n).mem (fs n) a.tmps∧a.defers=a0.defers:=by
 obtain⟨p0,ε,t,h0,h1,h2,h3,h4,h5,adv,hT,hF,hd⟩:=hI
 have hq:∀ q,p0≤q→q<n→¬ vd P N oo q:=λq h6 h7=>h2 q h6 h7 (hall q h7)
 have hm:(λo=>ax o t)=(Hs n).mem:=by
  funext o
  by_cases ho:(Hs n).mem.has o
  ·exact L.sub h0 (Nat.le_refl _) hq (λq h6 h7=>hall q h7) h3 h4 ho
  ·have hn:(Hs n).mem o = .none:=Classical.byContradiction ho
   show ax o t=_
   rw[hn]
   refine Classical.byContradiction λhne=>ho ?_
   rcases h5 o hne with h|⟨q,h6,h7,h8,h9,rfl⟩
   ·exact L.stayH h0 (Nat.le_refl _) hq h
   ·exact L.stayH (x:=q+1) (by omega) (Nat.le_refl _) (λz h10 h11=>hq z (by omega) h11) (L.has h7 h9)
 rw[hm]at adv hF
 refine⟨ε,adv,hT,λt' ht=>?_,hd⟩
 rw[hT]at ht
 obtain⟨V,e,rV⟩:=hF t' ht
 refine⟨V,e,?_⟩
 rw[L.fs_at hN ht (Nat.le_refl _)]
 rwa [oS (D:=D) (D':=λq=>q<n) λq hq _=>⟨λ_=>hq,λ_=>hall q hq⟩]at rV
def todo(n:Nat)(ix:Nat→Nat)(listed:Array Bool):List Nat:=(List.range n).filter λp=>!(listed.getD (ix p) true)
theorem LD.any(L:LD P N ops call n ix oo fs Hs v wn)(hC:aC P call)(hN:N≤1048576){r:Option Nat}{ε0:bu}{w0:World}{a0:Act}{Q:Exit→Act→World→Prop}
  (hsz:a0.tmps.size=N) (hF0:b9 ε0 (Hs 0).mem (fs 0) a0.tmps) (hsat:∀ p,p≤n→SY P N (fs p) (Hs p))
  (hQ:∀ ε a w,de P ε0 (Hs 0).mem w0 ε (Hs n).mem w→a.tmps.size=N→b9 ε (Hs n).mem (fs n) a.tmps→a.defers=a0.defers→Q .normal a w) :
  ∀ (fuel:Nat) (listed:Array Bool) (a:Act) (w:World),listed.size=ops.size→xf ops (λi=>listed[i]? = some true)→(todo n ix listed).length≤fuel→kE P N n oo fs Hs v wn ε0 w0 a0 (λp=>listed[ix p]? = some true) a w →
   wpAnyIn (fa r) 0 P .any ops Q fuel listed a w:=by
 have hlt:∀ p,p<n→ix p<ops.size:=λp hp=>(Array.getElem?_eq_some_iff.1 (L.of.op p hp)).1
 have hread:∀ (listed:Array Bool) (i:Nat),listed.size=ops.size→i<ops.size→(listed.getD i true=true↔listed[i]? = some true)∧(listed.getD i false=true↔listed[i]? = some true):=λlisted i hs hi=>by
  have:i<listed.size:=by omega
  simp[Array.getD_eq_getD_getElem?,this]
 have hend:∀ (listed:Array Bool) (a:Act) (w:World),listed.size=ops.size→(∀ p,p<n→listed[ix p]? = some true)→kE P N n oo fs Hs v wn ε0 w0 a0 (λp=>listed[ix p]? = some true) a w→Q .normal a w:=λlisted a w hs hall hI=>by
  obtain⟨ε,k1,k2,k3,k4⟩:=L.fin hN hall hI
  exact hQ ε a w k1 k2 k3 k4
 have hnone:∀ (listed:Array Bool),listed.size=ops.size→Region.ready .any ops listed=[]→∀ p,p<n→listed[ix p]? = some true:=λlisted hs hr p=>by
  induction p using Nat.strongRecOn with
  | ind p ih =>
   intro hp
   refine Classical.byContradiction λhno=>?_
   have hmem:ix p ∈ Region.ready .any ops listed:=by
    unfold Region.ready
    rw[List.mem_filter]
    refine⟨List.mem_range.2 (hlt p hp),?_⟩
    have h1:listed.getD (ix p) true=false:=by
     cases hb:listed.getD (ix p) true with
     | false=>rfl
     | true=>exact absurd ((hread listed _ hs (hlt p hp)).1.1 hb) hno
    rw[h1,L.of.op p hp]
    simp only[Bool.not_false,Option.map_some,Option.getD_some,Bool.true_and,Array.all_eq_true_iff_forall_mem,Bool.or_eq_true,Bool.not_eq_true']
    intro e he
    cases hb:Region.binds .any e with
    | false=>exact .inl rfl
    | true =>
     right
     obtain⟨q,hq,hqe⟩:=L.of.edge p hp e he hb
     have h2:=ih q hq (by omega)
     rw[hqe]at h2
     exact (hread listed e.on hs (by rw[← hqe];exact hlt q (by omega))).2.2 h2
   rw[hr]at hmem;cases hmem
 intro fuel
 induction fuel with
 | zero =>
  intro listed a w hs hcl htodo hI
  have hall:∀ p,p<n→listed[ix p]? = some true:=λp hp=>by
   have h1:todo n ix listed=[]:=List.eq_nil_of_length_eq_zero (by omega)
   have h2:p ∉ todo n ix listed:=by rw[h1];simp
   unfold todo at h2
   rw[List.mem_filter,List.mem_range]at h2
   refine (hread listed _ hs (hlt p hp)).1.1 ?_
   cases hb:listed.getD (ix p) true with
   | true=>rfl
   | false=>exact absurd ⟨hp,by rw[hb];rfl⟩ h2
  refine⟨?_,hend listed a w hs hall hI⟩
  unfold Region.ready
  rw[List.filter_eq_nil_iff]
  intro i hi
  rw[List.mem_range]at hi
  obtain⟨p,hp,rfl⟩:=L.of.surj i hi
  rw[(hread listed _ hs hi).1.2 (hall p hp)]
  simp
 | succ fuel ih =>
  intro listed a w hs hcl htodo hI
  refine⟨λhr=>hend listed a w hs (hnone listed hs hr) hI,λi hi=>?_⟩
  unfold Region.ready at hi
  rw[List.mem_filter,List.mem_range]at hi
  obtain⟨hi,hi2⟩:=hi
  obtain⟨p,hp,rfl⟩:=L.of.surj i hi
  rw[L.of.op p hp]at hi2
  simp only[Option.map_some,Option.getD_some,Bool.and_eq_true,Bool.not_eq_true',Array.all_eq_true_iff_forall_mem,Bool.or_eq_true]at hi2
  obtain⟨hno,hedge⟩:=hi2
  have hDp:¬ listed[ix p]? = some true:=λh=>by rw[(hread listed _ hs hi).1.2 h]at hno;cases hno
  have hedge':∀ e ∈ (oo p).after,Region.binds .any e=true→listed[e.on]? = some true:=λe he hb=>by
   rcases hedge e he with h|h
   ·rw[hb]at h;cases h
   ·have he2:e.on<ops.size:=by
     by_cases h3:e.on<listed.size
     ·omega
     ·simp[Array.getD_eq_getD_getElem?,h3]at h
    exact (hread listed e.on hs he2).2.1 h
  have aX:∀ j:Nat,(listed.setIfInBounds (ix p) true)[j]? = some true↔listed[j]? = some true∨j=ix p:=λj=>by
   by_cases e:ix p=j
   ·subst e
    have:ix p<listed.size:=by omega
    simp[this]
   ·rw[Array.getElem?_setIfInBounds_ne e]
    exact⟨.inl,λh=>h.resolve_right λh=>e h.symm⟩
  have hD':∀ q,q<n→((listed.setIfInBounds (ix p) true)[ix q]? = some true↔listed[ix q]? = some true∨q=p):=λq hq=>by
   rw[aX]
   constructor
   ·rintro (h | h)
    ·exact .inl h
    ·exact .inr (L.of.inj q p hq hp h)
   ·rintro (h | rfl)
    ·exact .inl h
    ·exact .inr rfl
  let D':Nat→Prop:=λq=>listed[ix q]? = some true∨q=p
  refine L.go (D:=λp=>listed[ix p]? = some true) (D':=D') hC hN hp hDp (λq=>Iff.rfl) (λq hq hb=>L.of.closed _ hcl p q hp hb hedge') (λq hq hDq hb=>L.of.closed _ hcl q p hq hb λe he hbe=>hcl (ix q) (oo q) hDq (L.of.op q hq) e he hbe) hsz hF0 hsat hI λa' w' hI'=>?_
  refine ih _ a' w' (by simpa using hs) (λj o hj ho e he hb=>?_) ?_ ?_
  ·show (listed.setIfInBounds (ix p) true)[e.on]? = some true
   rw[aX]
   rcases (aX j).1 hj with hj|rfl
   ·exact .inl (hcl j o hj ho e he hb)
   ·rw[L.of.op p hp]at ho;cases ho
    exact .inl (hedge' e he hb)
  ·have hsub:todo n ix (listed.setIfInBounds (ix p) true)=(todo n ix listed).filter λq=>q != p:=by
    unfold todo
    rw[List.filter_filter]
    refine List.filter_congr λq hq=>?_
    rw[List.mem_range]at hq
    have hsz':(listed.setIfInBounds (ix p) true).size=ops.size:=by simpa using hs
    have h3:=hD' q hq
    rw[← (hread _ _ hsz' (hlt q hq)).1,← (hread listed _ hs (hlt q hq)).1]at h3
    by_cases e:q=p
    ·subst e
     rw[h3.2 (.inr rfl)];simp
    ·cases hb:listed.getD (ix q) true with
     | true=>rw[h3.2 (.inl hb)];simp
     | false =>
      cases hb2:(listed.setIfInBounds (ix p) true).getD (ix q) true with
      | true =>
           rcases h3.1 hb2 with h4|h4
           ·rw[hb]at h4;cases h4
           ·exact absurd h4 e
      | false=>simp[e]
   have hmem:p ∈ todo n ix listed:=by
    unfold todo
    rw[List.mem_filter,List.mem_range]
    exact⟨hp,by rw[hno];rfl⟩
   have:(todo n ix (listed.setIfInBounds (ix p) true)).length<(todo n ix listed).length:=by
    rw[hsub,List.length_filter_lt_length_iff_exists]
    exact⟨p,hmem,by simp⟩
   omega
  ·obtain⟨p0,ε,t,h0,h1,h2,h3,h4,h5,h6,h7,h8,h9⟩:=hI'
   refine⟨p0,ε,t,h0,λq hq=>(hD' q (by omega)).2 (h1 q hq),λq k1 k2 k3=>h2 q k1 k2 ((hD' q k2).1 k3),h3,λq k1 k2 k3 k4=>h4 q k1 k2 ((hD' q k2).1 k3) k4,λo ho=>(h5 o ho).imp id λ⟨q,k1,k2,k3,k4⟩=>⟨q,k1,k2,(hD' q k2).2 k3,k4⟩,h6,h7,λt' ht=>?_,h9⟩
   obtain⟨V,k1,k2⟩:=h8 t' ht
   refine⟨V,k1,?_⟩
   rwa [oS (D:=D') (D':=λq=>(listed.setIfInBounds (ix p) true)[ix q]? = some true) λq hq _=>(hD' q hq).symm]at k2
end
theorem Co{P:Program}(hm:P.follows .mixedOrders=true):cK P:=by
 intro call N r id ops fr h hC hN
 have e0:(C.reg (fR P N ops)).run call fr h=(fR P N ops).run call fr h []:=rfl
 rw[e0]
 by_cases hok:((jX ops.size (Region.before ops) ((List.range ops.size).filter (isEff P N ops))).length == ops.size&&kZ P N ops (Region.before ops) (jX ops.size (Region.before ops) ((List.range ops.size).filter (isEff P N ops))) 0)=true
 ·have e1:fR P N ops=gS P N ops (Region.before ops) (jX ops.size (Region.before ops) ((List.range ops.size).filter (isEff P N ops))) []:=by
   unfold fR
   exact if_pos hok
  rw[e1]
  generalize jX ops.size (Region.before ops) ((List.range ops.size).filter (isEff P N ops))=ord at *
  rw[Bool.and_eq_true,beq_iff_eq]at hok
  obtain⟨hlen,hok⟩:=hok
  obtain⟨oo,of⟩:=Bb hok
  rcases wa (ops:=ops) (b:=Region.before ops) hC ord [] fr h with hb|⟨fs,Hs,v,wn,e2,rfl,rfl,hstep⟩
  ·exact .inl hb
  have L:LD P N ops call ord.length (λp=>ord.getD p 0) oo fs Hs v wn:=⟨of,λp hp=>hstep p (oo p) hp (of.op p hp)⟩
  refine .inr ⟨.normal,fs ord.length,Hs ord.length,by rw[show gS P N ops (Region.before ops) ord []=gS P N ops (Region.before ops) ord (([]:List (Nat × H)).map (·.1)) from rfl,show ([]:List H)=([]:List (Nat × H)).map (·.2) from rfl,e2];exact .nrm _ _,λbase ε a w Q hT hF hh hb hc hq=>?_⟩
  refine wpIn_region_any hm ?_
  have hno:∀ i:Nat,¬ (Array.replicate ops.size false)[i]? = some true:=λi h=>by
   rw[Array.getElem?_replicate]at h
   split at h <;> cases h
  have hsat:=L.sat hC hN ⟨ε,a.tmps,w,hT,hF,hh⟩
  have adv0:=de.drew hh (w.drawn+1)
  refine L.any (ε0:=ε) (w0:=w) (a0:=a) hC hN hT hF hsat (fun ε' a' w' k1 k2 k3 k4=>hq ε' a' w' k2 (by rw[k4];exact hc.adv k1) k1 k3) ops.size _ a _ (by simp) (λi o hi=>absurd hi (hno i)) ?_ ?_
  ·refine Nat.le_trans (List.length_filter_le _ _) ?_
   rw[List.length_range,hlen];exact Nat.le_refl _
  ·refine⟨0,ε,(Hs 0).tree,Nat.zero_le _,λp hp=>absurd hp (by omega),λp _ _ hD=>absurd hD (hno _),λo _=>by cases Hs 0;rfl,λp _ _ hD=>absurd hD (hno _),λo ho=>.inl (by cases hH:Hs 0;rw[hH]at ho;exact ho),?_,hT,λt' ht=>?_,rfl⟩
   ·have e3:(λo=>ax o (Hs 0).tree)=(Hs 0).mem:=by cases Hs 0;rfl
    rw[e3];exact adv0
   ·obtain⟨V,k1,k2⟩:=hF t' (hT.symm ▸ ht)
    refine⟨V,k1,?_⟩
    have e3:(λo=>ax o (Hs 0).tree)=(Hs 0).mem:=by cases Hs 0;rfl
    rw[e3,ys λp _ _=>hno _]
    exact k2
 ·left
  have e1:fR P N ops = .op .no .no gK .nil:=by
   unfold fR
   exact if_neg hok
  rw[e1]
  exact ge call fr h λv h=>.nrm fr h
end Go.Ai
namespace Go.Ai
set_option linter.unusedSectionVars false
variable [Nu]
open Go
variable {P:Program}{ε : bu}{m:cJ}{w:World}
noncomputable section
def jz(args:List AV)(k:AV→aa):aa:=List.casesOn (motive:=λ_=>aa) args (.bad 60) λx t=>List.casesOn (motive:=λ_=>aa) t (k x) (λ_ _=>.bad 60)
def d9(args:List AV)(k:AV→AV→aa):aa:=List.casesOn (motive:=λ_=>aa) args (.bad 60) λx t=>jz t λy=>k x y
def qV(args:List AV)(k:AV→AV→AV→aa):aa:=List.casesOn (motive:=λ_=>aa) args (.bad 60) λx t=>d9 t λy z=>k x y z
def AV.nat(v:AV)(k:IntKind→Nat→aa):aa:=v.onInt λkd n=>natOf n λn=>k kd n
def RZ(_:Go.Ai.Call)(args:List AV)(h:H)(k:af):aa:=jz args λx=>x.onPtrN (k .nilp h) λo i=>k (.ptr o i) h
def Hh(es:Nat)(_:Go.Ai.Call)(args:List AV)(h:H)(k:af):aa:=jz args λx=>x.nat λkd n=>must 12 (Nat.beq kd.ctorIdx 3) (must 12 (Nat.ble n 1099511627776) (newObj (.cells [] es) h λo h=>k (.slc o 0 n (.opn 0)) h))
def yr(_:Go.Ai.Call)(args:List AV)(h:H)(k:af):aa:=qV args λx y z=>x.nat λ_ a=>y.nat λ_ b=>z.nat λ_ c=>must 12 (Nat.ble c 1)
 (forceN (Nat.add (Nat.add a b) c) λs=>forceN (Nat.mod s 18446744073709551616) λl=>forceN (Nat.div s 18446744073709551616) λu=>k (.tup [.int .u64 (.ofNat l),.int .u64 (.ofNat u)]) h)
def xh(_:Go.Ai.Call)(args:List AV)(h:H)(k:af):aa:=qV args λx y z=>x.nat λ_ a=>y.nat λ_ b=>z.nat λ_ c=>must 12 (Nat.ble c 1)
 (forceN (Nat.mod (Nat.sub (Nat.sub (Nat.add a 18446744073709551616) b) c) 18446744073709551616) λl=>k (.tup [.int .u64 (.ofNat l),.int .u64 (Bool.casesOn (motive:=λ_=>Int) (Nat.blt a (Nat.add b c)) (.ofNat 0) (.ofNat 1))]) h)
def Jd(l:List Nat):Bool:=List.rec (motive:=λ_=>Bool) true (λb _ ih=>Bool.casesOn (motive:=λ_=>Bool) (Nat.blt b 256) false ih) l
def Hy(c:Nat)(l:List Nat):Bool:=Bool.casesOn (motive:=λ_=>Bool) (Nat.beq c 32) (Bool.casesOn (motive:=λ_=>Bool) (Nat.beq c 10) (Jd l) true) true
def kU(c:Nat)(l:List Nat):Nat:=List.rec (motive:=λ_=>Nat) 0 (λb _ ih=>Bool.casesOn (motive:=λ_=>Nat) (Nat.beq b c) ih (Nat.succ ih)) l
def M6(_:Go.Ai.Call)(args:List AV)(h:H)(k:af):aa:=d9 args λx y=>x.onStr λs=>y.nat λkd c=>must 12 (Nat.beq kd.ctorIdx 4) (must 12 (Nat.blt c 256) (must 12 (Hy c s) (forceN (kU c s) λn=>k (.int .i64 (.ofNat n)) h)))
def nK(c:Nat)(l:List Nat):Nat→(Int→aa)→aa:=List.rec (motive:=λ_=>Nat→(Int→aa)→aa) (λ_ k=>k (.negSucc 0)) (λb _ ih i k=>Bool.casesOn (motive:=λ_=>aa) (Nat.beq b c) (ih (Nat.succ i) k) (k (.ofNat i))) l
def Mf(_:Go.Ai.Call)(args:List AV)(h:H)(k:af):aa:=d9 args λx y=>x.onStr λs=>y.nat λkd c=>must 12 (Nat.beq kd.ctorIdx 4) (must 12 (Nat.blt c 256) (must 12 (Hy c s) (nK c s 0 λn=>k (.int .i64 n) h)))
end
theorem qA(args:List AV):(∀ k,bq (jz args k))∨∃ x,args=[x]:=by
 match args with
 | []=>exact .inl λ_=>⟨60,rfl⟩
 | [x]=>exact .inr ⟨x,rfl⟩
 | _::_::_=>exact .inl λ_=>⟨60,rfl⟩
theorem gX(args:List AV):(∀ k,bq (d9 args k))∨∃ x y,args=[x,y]:=by
 match args with
 | []=>exact .inl λ_=>⟨60,rfl⟩
 | x::t =>
  rcases qA t with hb|⟨y,rfl⟩
  ·exact .inl λ_=>hb _
  ·exact .inr ⟨x,y,rfl⟩
theorem uE(args:List AV):(∀ k,bq (qV args k))∨∃ x y z,args=[x,y,z]:=by
 match args with
 | []=>exact .inl λ_=>⟨60,rfl⟩
 | x::t =>
  rcases gX t with hb|⟨y,z,rfl⟩
  ·exact .inl λ_=>hb _
  ·exact .inr ⟨x,y,z,rfl⟩
theorem nF(v:AV):(∀ k,bq (v.nat k))∨∃ kd n,v = .int kd ((n:Nat):Int)∧∀ k,v.nat k=k kd n:=by
 rcases fq v with hb|⟨kd,n,rfl⟩
 ·exact .inl λ_=>hb _
 ·cases n with
  | ofNat n=>exact .inr ⟨kd,n,rfl,λ_=>rfl⟩
  | negSucc n=>exact .inl λ_=>⟨1,rfl⟩
structure jF (P:Program) (f:FuncId) (e:Array Value→Sem Value):Prop where
 lt:f<8191
 fn:∃ func,P.funcs[f]? = some func∧(func.name == "runtime.NumGoroutine")=false∧func.body.isNone=true∧Extern.findNext func=none∧Extern.find func=some e
theorem jF.run{f:FuncId}{e:Array Value→Sem Value}(hn:jF P f e){A:Array Value}{V:Value}{w':World}(h:(e A).run P w = .ok V w'):(callFunc f A).run P w = .ok (.value V) w':=by
 obtain⟨func,h1,h2,h3,h4,h5⟩:=hn.fn
 have h2':func.name ≠ "runtime.NumGoroutine":=by simpa using h2
 have h3':func.body=none:=by simpa using h3
 simp[callFunc,h1,h2',h3',h4,h5,h]
theorem jF.ok{f:FuncId}{e:Array Value→Sem Value}(hn:jF P f e){args:List AV}{h h':H}{v:AV}(hy:∀ o,AV.yld o ∉ args)
  (hk:∀ (ε : bu) (w:World) (A:List Value),bX P ε h.mem w→Rs ε h.mem args A→∃ ε' V w',(e A.toArray).run P w = .ok V w'∧de P ε h.mem w ε' h'.mem w'∧R ε' h'.mem v V):gp P (ae f) args h v h':=by
 intro ε w hh
 refine⟨λg A hg hp hr=>?_,λo vs A hp=>absurd (c9 (Nat.lt_trans hn.lt (by decide)) (by decide) hp) (Nat.ne_of_lt hn.lt)⟩
 have hfg:=c9 (Nat.lt_trans hn.lt (by decide)) (Nat.lt_trans hg (by decide)) hp
 subst hfg
 obtain⟨ε',V,w',h1,h2,h3⟩:=hk ε w A hh hr
 exact⟨_,w',hn.run h1,⟨ε',h2,h3⟩,.inr hy⟩
theorem Rs.one{v:AV}{A:List Value}(r:Rs ε m [v] A):∃ V,A=[V]∧R ε m v V:=by
 obtain⟨V,U,rfl,h1,h2⟩:=r
 simp only[Rs]at h2;subst h2
 exact⟨V,rfl,h1⟩
theorem Rs.two{u v:AV}{A:List Value}(r:Rs ε m [u,v] A):∃ U V,A=[U,V]∧R ε m u U∧R ε m v V:=by
 obtain⟨U,T,rfl,h1,h2⟩:=r
 obtain⟨V,rfl,h3⟩:=Rs.one h2
 exact⟨U,V,rfl,h1,h3⟩
theorem Rs.three{u v t:AV}{A:List Value}(r:Rs ε m [u,v,t] A):∃ U V T,A=[U,V,T]∧R ε m u U∧R ε m v V∧R ε m t T:=by
 obtain⟨U,T,rfl,h1,h2⟩:=r
 obtain⟨V,T,rfl,h3,h4⟩:=Rs.two h2
 exact⟨U,V,T,rfl,h1,h3,h4⟩
theorem So{f:FuncId}(hn:jF P f Extern.AbiNoEscape.same):ac P (ae f) RZ:=by
 intro call _ args h
 show an (λk=>jz args λx=>x.onPtrN (k .nilp h) λo i=>k (.ptr o i) h) _
 rcases qA args with hb|⟨x,rfl⟩
 ·exact .inl λ_=>hb _
 rcases lJ x with hb|rfl|⟨o,i,rfl⟩
 ·exact .inl λ_=>hb _ _
 ·refine .inr ⟨.nilp,h,λ_=>rfl,hn.ok (by simp) fun ε w A hh hr=>?_⟩
  obtain⟨V,rfl,rV⟩:=hr.one
  exact⟨ε,V,w,rfl,.refl hh,rV⟩
 ·refine .inr ⟨.ptr o i,h,λ_=>rfl,hn.ok (by simp) fun ε w A hh hr=>?_⟩
  obtain⟨V,rfl,rV⟩:=hr.one
  exact⟨ε,V,w,rfl,.refl hh,rV⟩
theorem Ul{k:IntKind}(h:Nat.beq k.ctorIdx 3=true):k = .i64:=kA (j:=.i64) h
theorem O5{k:IntKind}(h:Nat.beq k.ctorIdx 4=true):k = .u8:=kA (j:=.u8) h
theorem qd(name:String)(k1 k2 k3:IntKind)(a b c:Nat)(hc:c≤1):(Extern.MathBitsCarry.three name #[.int k1 (a:Int),.int k2 (b:Int),.int k3 (c:Int)]).run P w = .ok (a,b,c) w:=by
 have hdef:Extern.MathBitsCarry.three name #[.int k1 (a:Int),.int k2 (b:Int),.int k3 (c:Int)]=(do
  let c:=(← asInt (.int k3 (c:Int))).toNat
  if c>1 then unsupported (.noEntry ("extern/math/bits." ++ name ++ ": a carry that is neither 0 nor 1"))
  pure ((← asInt (.int k1 (a:Int))).toNat,(← asInt (.int k2 (b:Int))).toNat,c)):=rfl
 rw[hdef]
 simp[asInt,asIntOf]
 omega
theorem BZ{f:FuncId}{e:Array Value→Sem Value}(hn:jF P f e)(he:∀ A,e A=(do
  let (x,y,c)←Extern.MathBitsCarry.three "Add64" A
  pure (Extern.MathBitsCarry.pair ((x+y+c)%Extern.MathBitsCarry.m64) ((x+y+c)/Extern.MathBitsCarry.m64)))):ac P (ae f) yr:=by
 intro call _ args h
 show an (λk=>qV args λx y z=>x.nat λ_ a=>y.nat λ_ b=>z.nat λ_ c=>must 12 (Nat.ble c 1)
  (forceN (a+b+c) λs=>forceN (s%18446744073709551616) λl=>forceN (s/18446744073709551616) λu=>k (.tup [.int .u64 (.ofNat l),.int .u64 (.ofNat u)]) h)) _
 rcases uE args with hb|⟨x,y,z,rfl⟩
 ·exact .inl λ_=>hb _
 show an (λk=>x.nat λ_ a=>y.nat λ_ b=>z.nat λ_ c=>must 12 (Nat.ble c 1)
  (forceN (a+b+c) λs=>forceN (s%18446744073709551616) λl=>forceN (s/18446744073709551616) λu=>k (.tup [.int .u64 (.ofNat l),.int .u64 (.ofNat u)]) h)) _
 rcases nF x with hb|⟨k1,a,rfl,e1⟩
 ·exact .inl λ_=>hb _
 simp only[e1]
 rcases nF y with hb|⟨k2,b,rfl,e2⟩
 ·exact .inl λ_=>hb _
 simp only[e2]
 rcases nF z with hb|⟨k3,c,rfl,e3⟩
 ·exact .inl λ_=>hb _
 simp only[e3,ao]
 rcases ay 12 (Nat.ble c 1)with hb|⟨h4,e4⟩
 ·exact .inl λ_=>hb _
 simp only[e4]
 refine .inr ⟨_,h,λ_=>rfl,hn.ok (by simp) fun ε w A hh hr=>?_⟩
 obtain⟨U,V,T,rfl,r1,r2,r3⟩:=hr.three
 simp only[R]at r1 r2 r3
 subst r1;subst r2;subst r3
 have hc:=dV h4
 refine⟨ε,_,w,?_,.refl hh,⟨_,rfl,_,_,rfl,rfl,_,_,rfl,rfl,rfl⟩⟩
 rw[he]
 simp[qd _ k1 k2 k3 a b c hc,Extern.MathBitsCarry.pair,Extern.MathBitsCarry.m64]
theorem DL{f:FuncId}{e:Array Value→Sem Value}(hn:jF P f e)(he:∀ A,e A=(do
  let (x,y,b)←Extern.MathBitsCarry.three "Sub64" A
  pure (Extern.MathBitsCarry.pair ((x+Extern.MathBitsCarry.m64-y-b)%Extern.MathBitsCarry.m64) (if x<y+b then 1 else 0)))):ac P (ae f) xh:=by
 intro call _ args h
 show an (λk=>qV args λx y z=>x.nat λ_ a=>y.nat λ_ b=>z.nat λ_ c=>must 12 (Nat.ble c 1)
  (forceN ((a+18446744073709551616-b-c)%18446744073709551616) λl=>k (.tup [.int .u64 (.ofNat l),.int .u64 (Bool.casesOn (motive:=λ_=>Int) (Nat.blt a (b+c)) (.ofNat 0) (.ofNat 1))]) h)) _
 rcases uE args with hb|⟨x,y,z,rfl⟩
 ·exact .inl λ_=>hb _
 show an (λk=>x.nat λ_ a=>y.nat λ_ b=>z.nat λ_ c=>must 12 (Nat.ble c 1)
  (forceN ((a+18446744073709551616-b-c)%18446744073709551616) λl=>k (.tup [.int .u64 (.ofNat l),.int .u64 (Bool.casesOn (motive:=λ_=>Int) (Nat.blt a (b+c)) (.ofNat 0) (.ofNat 1))]) h)) _
 rcases nF x with hb|⟨k1,a,rfl,e1⟩
 ·exact .inl λ_=>hb _
 simp only[e1]
 rcases nF y with hb|⟨k2,b,rfl,e2⟩
 ·exact .inl λ_=>hb _
 simp only[e2]
 rcases nF z with hb|⟨k3,c,rfl,e3⟩
 ·exact .inl λ_=>hb _
 simp only[e3,ao]
 rcases ay 12 (Nat.ble c 1)with hb|⟨h4,e4⟩
 ·exact .inl λ_=>hb _
 simp only[e4]
 refine .inr ⟨_,h,λ_=>rfl,hn.ok (by simp) fun ε w A hh hr=>?_⟩
 obtain⟨U,V,T,rfl,r1,r2,r3⟩:=hr.three
 simp only[R]at r1 r2 r3
 subst r1;subst r2;subst r3
 have hc:=dV h4
 refine⟨ε,_,w,?_,.refl hh,⟨_,rfl,_,_,rfl,rfl,_,_,rfl,rfl,rfl⟩⟩
 rw[he,az]
 by_cases hlt:a<b+c
 ·simp[qd _ k1 k2 k3 a b c hc,Extern.MathBitsCarry.pair,Extern.MathBitsCarry.m64,hlt]
 ·simp[qd _ k1 k2 k3 a b c hc,Extern.MathBitsCarry.pair,Extern.MathBitsCarry.m64,hlt]
theorem zy:∀ {l:List Nat},Jd l=true→∀ b ∈ l,b<256
 | [],_,_,hb=>by cases hb
 | a::l,h,b,hb=>by
  have e:Jd (a::l)=Bool.casesOn (motive:=λ_=>Bool) (Nat.blt a 256) false (Jd l):=rfl
  rw[e]at h
  cases ha:Nat.blt a 256 with
  | false=>rw[ha]at h;cases h
  | true =>
   rw[ha]at h
   rcases List.mem_cons.1 hb with rfl|hb
   ·exact eP ha
   ·exact zy h b hb
theorem EO{c:Nat}{l:List Nat}(h:Hy c l=true):∀ b ∈ l,b<256∨c=32∨c=10:=by
 intro b hb
 have e:Hy c l=Bool.casesOn (motive:=λ_=>Bool) (Nat.beq c 32) (Bool.casesOn (motive:=λ_=>Bool) (Nat.beq c 10) (Jd l) true) true:=rfl
 rw[e]at h
 cases h1:Nat.beq c 32 with
 | true=>exact .inr (.inl (Nat.eq_of_beq_eq_true h1))
 | false =>
  rw[h1]at h
  cases h2:Nat.beq c 10 with
  | true=>exact .inr (.inr (Nat.eq_of_beq_eq_true h2))
  | false=>rw[h2]at h;exact .inl (zy h b hb)
theorem Eo{b c:Nat}(hc:c<256)(hb:b<256∨c=32∨c=10):(Nu.f b == c.toUInt8)=Nat.beq b c:=by
 rw[dJ]
 have:(Nu.f b == c.toUInt8)=decide (Nu.f b=c.toUInt8):=rfl
 rw[this]
 congr 1
 apply propext
 by_cases hl:b<256
 ·rw[Nu.lo b hl]
  exact⟨λh=>re hl hc h,λh=>by rw[h]⟩
 ·have hge:=Nat.le_of_not_lt hl
  refine⟨λh=>?_,λh=>absurd (h ▸ hc) hl⟩
  rcases hb with hb|rfl|rfl
  ·exact absurd hb hl
  ·exact absurd h (Nu.sp b hge)
  ·exact absurd h (Nu.nl b hge)
theorem AU{c:Nat}(hc:c<256):∀ (l:List Nat),(∀ b ∈ l,b<256∨c=32∨c=10)→Lib.countByte (l.map Nu.f) c.toUInt8=kU c l
 | [],_=>rfl
 | b::l,ho=>by
  have e:kU c (b::l)=Bool.casesOn (motive:=λ_=>Nat) (Nat.beq b c) (kU c l) (kU c l+1):=rfl
  have ih:=AU hc l λx hx=>ho x (List.mem_cons_of_mem _ hx)
  unfold Lib.countByte at ih ⊢
  rw[List.map_cons,List.count_cons,ih,e,Eo hc (ho b List.mem_cons_self)]
  cases Nat.beq b c <;> rfl
theorem R5{f:FuncId}(hn:jF P f Extern.BytealgCount.count):ac P (ae f) M6:=by
 intro call _ args h
 show an (λk=>d9 args λx y=>x.onStr λs=>y.nat λkd c=>must 12 (Nat.beq kd.ctorIdx 4) (must 12 (Nat.blt c 256) (must 12 (Hy c s) (forceN (kU c s) λn=>k (.int .i64 (.ofNat n)) h)))) _
 rcases gX args with hb|⟨x,y,rfl⟩
 ·exact .inl λ_=>hb _
 show an (λk=>x.onStr λs=>y.nat λkd c=>must 12 (Nat.beq kd.ctorIdx 4) (must 12 (Nat.blt c 256) (must 12 (Hy c s) (forceN (kU c s) λn=>k (.int .i64 (.ofNat n)) h)))) _
 rcases fZ x with hb|⟨s,ex⟩
 ·exact .inl λ_=>hb _
 simp only[ex.1]
 show an (λk=>y.nat λkd c=>must 12 (Nat.beq kd.ctorIdx 4) (must 12 (Nat.blt c 256) (must 12 (Hy c s) (forceN (kU c s) λn=>k (.int .i64 (.ofNat n)) h)))) _
 rcases nF y with hb|⟨kd,c,rfl,e2⟩
 ·exact .inl λ_=>hb _
 simp only[e2,ao]
 rcases ay 12 (Nat.beq kd.ctorIdx 4)with hb|⟨h3,e3⟩
 ·exact .inl λ_=>hb _
 simp only[e3]
 rcases ay 12 (Nat.blt c 256)with hb|⟨h4,e4⟩
 ·exact .inl λ_=>hb _
 simp only[e4]
 rcases ay 12 (Hy c s)with hb|⟨h9,e9⟩
 ·exact .inl λ_=>hb _
 simp only[e9]
 have ho:=EO h9
 have hk:=O5 h3
 subst hk
 rw[az]at h4
 have hc:=of_decide_eq_true h4
 refine .inr ⟨_,h,λ_=>rfl,hn.ok (by simp;rintro o rfl;have e:aa.bad 113=aa.bad 0:=ex.1 λ_=>.bad 0;injection e with e;exact absurd e (by decide)) fun ε w A hh hr=>?_⟩
 obtain⟨U,V,rfl,r1,r2⟩:=hr.two
 replace r1:=ex.2 _ _ _ r1;simp only[R]at r2
 subst r1;subst r2
 refine⟨ε,.int .i64 (kU c s:Nat),w,?_,.refl hh,rfl⟩
 have h5:=Lib.run_countString (P:=P) (aD s) (c:Int) w
 have h6:(aD s).data.toList=s.map Nu.f:=by simp[aD]
 rw[h6,Int.toNat_natCast,AU hc s ho]at h5
 exact h5
theorem AF{c:Nat}(hc:c<256):∀ (l:List Nat) (i:Nat) (k:Int→aa),(∀ b ∈ l,b<256∨c=32∨c=10)→nK c l i k=k (if Lib.indexByte (l.map Nu.f) c.toUInt8 = -1 then -1 else Lib.indexByte (l.map Nu.f) c.toUInt8+i)
 | [],i,k,_=>rfl
 | b::l,i,k,ho=>by
  have e:nK c (b::l) i k=Bool.casesOn (motive:=λ_=>aa) (Nat.beq b c) (nK c l (i+1) k) (k (.ofNat i)):=rfl
  have hge:=Lib.indexByte_ge (l.map Nu.f) c.toUInt8
  have e2:Lib.indexByte (Nu.f b::l.map Nu.f) c.toUInt8=if Nu.f b == c.toUInt8 then 0 else if Lib.indexByte (l.map Nu.f) c.toUInt8 == -1 then -1 else Lib.indexByte (l.map Nu.f) c.toUInt8+1:=rfl
  rw[e,AF hc l (i+1) k (λx hx=>ho x (List.mem_cons_of_mem _ hx)),List.map_cons,e2,Eo hc (ho b List.mem_cons_self)]
  cases Nat.beq b c with
  | true=>simp
  | false =>
   simp only[Bool.false_eq_true,if_false,beq_iff_eq]
   show k _=k _
   congr 1
   generalize Lib.indexByte (l.map Nu.f) c.toUInt8=z at *
   by_cases hz:z = -1
   ·simp[hz]
   ·rw[if_neg hz,if_neg hz,if_neg (by omega)];omega
theorem RL{f:FuncId}(hn:jF P f Extern.BytealgIndexByte.indexByte):ac P (ae f) Mf:=by
 intro call _ args h
 show an (λk=>d9 args λx y=>x.onStr λs=>y.nat λkd c=>must 12 (Nat.beq kd.ctorIdx 4) (must 12 (Nat.blt c 256) (must 12 (Hy c s) (nK c s 0 λn=>k (.int .i64 n) h)))) _
 rcases gX args with hb|⟨x,y,rfl⟩
 ·exact .inl λ_=>hb _
 show an (λk=>x.onStr λs=>y.nat λkd c=>must 12 (Nat.beq kd.ctorIdx 4) (must 12 (Nat.blt c 256) (must 12 (Hy c s) (nK c s 0 λn=>k (.int .i64 n) h)))) _
 rcases fZ x with hb|⟨s,ex⟩
 ·exact .inl λ_=>hb _
 simp only[ex.1]
 show an (λk=>y.nat λkd c=>must 12 (Nat.beq kd.ctorIdx 4) (must 12 (Nat.blt c 256) (must 12 (Hy c s) (nK c s 0 λn=>k (.int .i64 n) h)))) _
 rcases nF y with hb|⟨kd,c,rfl,e2⟩
 ·exact .inl λ_=>hb _
 simp only[e2]
 rcases ay 12 (Nat.beq kd.ctorIdx 4)with hb|⟨h3,e3⟩
 ·exact .inl λ_=>hb _
 simp only[e3]
 rcases ay 12 (Nat.blt c 256)with hb|⟨h4,e4⟩
 ·exact .inl λ_=>hb _
 simp only[e4]
 rcases ay 12 (Hy c s)with hb|⟨h9,e9⟩
 ·exact .inl λ_=>hb _
 simp only[e9]
 have ho:=EO h9
 have hk:=O5 h3
 subst hk
 rw[az]at h4
 have hc:=of_decide_eq_true h4
 simp only[AF hc s _ _ ho]
 refine .inr ⟨_,h,λ_=>rfl,hn.ok (by simp;rintro o rfl;have e:aa.bad 113=aa.bad 0:=ex.1 λ_=>.bad 0;injection e with e;exact absurd e (by decide)) fun ε w A hh hr=>?_⟩
 obtain⟨U,V,rfl,r1,r2⟩:=hr.two
 replace r1:=ex.2 _ _ _ r1;simp only[R]at r2
 subst r1;subst r2
 refine⟨ε,_,w,?_,.refl hh,rfl⟩
 have h5:=Lib.run_indexByteString (P:=P) (aD s) (c:Int) w
 have h6:(aD s).data.toList=s.map Nu.f:=by simp[aD]
 rw[h6,Int.toNat_natCast]at h5
 have h7:(if Lib.indexByte (s.map Nu.f) c.toUInt8 = -1 then -1 else Lib.indexByte (s.map Nu.f) c.toUInt8+(0:Nat))=Lib.indexByte (s.map Nu.f) c.toUInt8:=by
  split
  ·rename_i h;exact h.symm
  ·simp
 rw[h7]
 exact h5
theorem Mn{f:FuncId}{elem t:TypeId}{ps:Array TypeId}(hn:jF P f (Extern.BytealgMakeNoZero.makeNoZero ps #[t]))(ht:P.underlying t=some (.slice elem))(hlt:elem<4294901760):ac P (ae f) (Hh (65536+elem)):=by
 intro call _ args h
 show an (λk=>jz args λx=>x.nat λkd n=>must 12 (Nat.beq kd.ctorIdx 3) (must 12 (Nat.ble n 1099511627776) (newObj (.cells [] (65536+elem)) h λo h=>k (.slc o 0 n (.opn 0)) h))) _
 rcases qA args with hb|⟨x,rfl⟩
 ·exact .inl λ_=>hb _
 show an (λk=>x.nat λkd n=>must 12 (Nat.beq kd.ctorIdx 3) (must 12 (Nat.ble n 1099511627776) (newObj (.cells [] (65536+elem)) h λo h=>k (.slc o 0 n (.opn 0)) h))) _
 rcases nF x with hb|⟨kd,n,rfl,e1⟩
 ·exact .inl λ_=>hb _
 simp only[e1]
 rcases ay 12 (Nat.beq kd.ctorIdx 3)with hb|⟨h3,e3⟩
 ·exact .inl λ_=>hb _
 simp only[e3]
 rcases ay 12 (Nat.ble n 1099511627776)with hb|⟨h4,e4⟩
 ·exact .inl λ_=>hb _
 simp only[e4]
 rcases dF (.cells [] (65536+elem)) h with hb|⟨o,h',ho,hm,e5⟩
 ·exact .inl λ_=>hb _
 simp only[e5]
 have hk:=Ul h3
 subst hk
 have hle:=dV h4
 refine .inr ⟨_,h',λ_=>rfl,hn.ok (by simp) fun ε w A hh hr=>?_⟩
 obtain⟨V,rfl,rV⟩:=hr.one
 simp only[R]at rV
 subst rV
 obtain⟨cs,hrun,hcs⟩:=Lib.run_makeNoZero (P:=P) w ps t elem ht n (by omega)
 have adv:=((de.drew hh (w.drawn+1)).trans (de.drew (w:=w.drew) (hh.heap rfl) (w.drew.drawn+1))).trans (de.newCells (w:=w.drew.drew) (hh.heap rfl) ho [] (65536+elem) cs.size [] cs.toList elem rfl (by rw[oB];simp) (iR.row elem 0 hlt))
 rw[List.nil_append,Array.toArray_toList]at adv
 rw[hm]
 refine⟨_,_,_,hrun,adv,⟨je _ _ _ _,?_⟩⟩
 rw[fT]
 simp only[bu.cap,aM,Nat.zero_add]
 rfl
end Go.Ai
namespace Go.Ai
set_option linter.unusedSectionVars false
variable [Nu]
open Go
variable {P:Program}{ε ε':bu}{m m':cJ}{w w':World}
theorem lG.mono{K K':Value→World→Prop}(h:∀ V w,K V w→K' V w):∀ {nx:Next} {w:World},lG P K nx w→lG P K' nx w:=λ{nx w} hr=>by
 have hb:∀ e w,uc K e w→uc K' e w:=λe w h'=>by cases e <;> first | exact h _ _ h' | exact h'.elim
 cases nx <;> simp only[lG]at hr ⊢ <;> first
  | exact h _ _ hr
  | exact CallsIn.mono hr hb
  | exact RowsIn.mono hr h
  | exact RoundIn.mono hr hb
  | exact hr
def AV.plain0:AV→Bool
 | .bool _ | .int _ _ | .str _ | .bs _ | .nilp | .nils | .nilm | .nilf | .nili=>true
 | _=>false
def AV.plain1:AV→Bool
 | .agg cs=>cs.all AV.plain0
 | v=>v.plain0
def AV.plain:AV→Bool
 | .tup vs=>vs.all AV.plain1
 | v=>v.plain1
theorem Be{v:AV}{V:Value}(h:v.plain0=true)(r:R ε m v V):R ε' m' v V:=by
 cases v <;> simp only[AV.plain0,Bool.false_eq_true]at h <;> (simp only[R]at r ⊢;exact r)
theorem mZ{p:AV→Bool}(hp:∀ (v:AV) (V:Value),p v=true→R ε m v V→R ε' m' v V):∀ {l:List AV} {L:List Value},l.all p=true→Rs ε m l L→Rs ε' m' l L
 | [],L,_,r=>r
 | v::l,L,h,r=>by
  obtain⟨V,U,e,rv,rt⟩:=r
  simp only[List.all_cons,Bool.and_eq_true]at h
  exact⟨V,U,e,hp v V h.1 rv,mZ hp h.2 rt⟩
theorem tg(v:AV)(V:Value)(h:v.plain1=true)(r:R ε m v V):R ε' m' v V:=by
 cases v with
 | agg cs =>
  simp only[AV.plain1]at h
  obtain⟨C,e,rc⟩:=r
  exact⟨C,e,mZ (λv V h r=>Be h r) h rc⟩
 | _=>exact Be h r
theorem Ob(v:AV)(V:Value)(h:v.plain=true)(r:R ε m v V):R ε' m' v V:=by
 cases v with
 | tup vs =>
  simp only[AV.plain]at h
  obtain⟨C,e,rc⟩:=r
  exact⟨C,e,mZ tg h rc⟩
 | _=>exact tg _ V h r
def jc(P:Program)(p:ab)(args:List AV)(v:AV):Prop:=∀ h,gp P p args h v h
theorem bX.empty(ε : bu)(w:World):bX P ε (H.mk .leaf .e).mem w:=by
 have h:∀ o,(H.mk .leaf .e).mem o = .none:=λo=>hget_leaf o
 refine⟨λo cs es e=>?_,λo es clk e=>?_,λo st pd fr ps a b e=>?_,λo o' _ hl=>?_⟩
 ·rw[h]at e;cases e
 ·rw[h]at e;cases e
 ·rw[h]at e;cases e
 ·rw[h]at hl;exact hl.elim
theorem de.forget{h':H}(hh:bX P ε m w)(a:de P ε (H.mk .leaf .e).mem w ε' h'.mem w'):de P ε m w ε m w':=by
 have hno:∀ b,¬ iS ε (H.mk .leaf .e).mem b:=λb ⟨o,hl,_⟩=>by
  rw[show (H.mk .leaf .e).mem o = .none from hget_leaf o]at hl;exact hl.elim
 have hold:∀ q,dw (m q)→w'.heap[(ε q).blk]? = w.heap[(ε q).blk]?:=λq hl=>a.frame _ (hh.blk_lt hl) (hno _)
 refine⟨.refl _ _,λ_ _=>rfl,a.os,a.tape,a.output,a.size,λb hb _=>a.frame b hb (hno b),λo hl=>.inl ⟨o,hl,rfl⟩,λ_ h=>h,⟨λo cs es e=>?_,λo es clk e=>?_,λo st pd fr ps c d e=>?_,hh.apart⟩⟩
 ·exact (hh.carry (.refl _ _) (hold o) rfl).1 cs es e
 ·exact (hh.carry (.refl _ _) (hold o) rfl).2.1 es clk e
 ·exact (hh.carry (.refl _ _) (hold o) rfl).2.2 st pd fr ps c d e
theorem pQ{p:ab}{args:List AV}{v:AV}{h':H}(ha:args.all AV.plain1=true)(hv:v.plain=true)(hy:∀ o vs,args ≠ .yld o::vs)(hc:gp P p args (.mk .leaf .e) v h'):jc P p args v:=by
 intro h ε w hh
 obtain⟨h1,_⟩:=hc ε w (bX.empty ε w)
 refine⟨λf A hf hp hr=>?_,λo vs A _ he=>absurd he (hy o vs)⟩
 obtain⟨nx,w1,k1,k2,k3⟩:=h1 f A hf hp (mZ tg ha hr)
 refine⟨nx,w1,k1,?_,k3⟩
 exact k2.mono λV w' ⟨ε',adv,rV⟩=>⟨ε,adv.forget hh,Ob v V hv rV⟩
theorem DR{f:FuncId}{func:Func}{s:Go.Ai.Call→List AV→H→af→aa}(hDr:cK P)(hlt:f<8191)(hf:P.funcs[f]? = some func)(hn:(func.name == "runtime.NumGoroutine")=false)(hs:(fn P func).map enter=some s):ac P (ae f) s:=by
 simp only[Option.map_eq_some_iff]at hs
 obtain⟨q,hq,rfl⟩:=hs
 intro call hC args h
 refine (A3 hC hDr hf hq args h).mono λv h' hk ε w hh=>⟨λg A hg hgp hr=>?_,λo vs A hgp=>absurd (c9 (Nat.lt_trans hlt (by decide)) (by decide) hgp) (Nat.ne_of_lt hlt)⟩
 have hfg:=c9 (Nat.lt_trans hlt (by decide)) (Nat.lt_trans hg (by decide)) hgp
 subst hfg
 obtain⟨b,res,hb,_⟩:=pJ hq
 exact⟨_,w,kz hf hn (by rw[hb];rfl),hk ε w A hh hr,.inl ⟨rfl,rfl⟩⟩
def RM(P:Program)(pre:ab→ab)(t:Tb):Prop:=∀ p,ya P (pre p) (H1 p t)
theorem RM.leaf{pre:ab→ab}:RM P pre .leaf:=λp=>by cases p <;> trivial
theorem RM.node{pre:ab→ab}{l r:Tb}{e:nq}(hl:RM P (λp=>pre (.l p)) l)(he:ya P (pre .e) e)(hr:RM P (λp=>pre (.r p)) r):RM P pre (.node l e r):=λp=>by
 cases p with
 | e=>exact he
 | l p=>exact hl p
 | r p=>exact hr p
theorem s6{f:FuncId}{A:List Value}{args:List AV}{v:AV}(hlt:f<8191)(hk:jc P (ae f) args v)(hr:Rs (λ_=>⟨0,0,0⟩) (λ_=>.none) args A){w:World}(hen:∀ w,(callFunc f A.toArray).run P w = .ok (.enter f A.toArray) w):
  Calls P f A.toArray w λe w'=>∃ V,e = .returned V∧R (λ_=>⟨0,0,0⟩) (λ_=>.none) v V∧de P (λ_=>⟨0,0,0⟩) (λ_=>.none) w (λ_=>⟨0,0,0⟩) (λ_=>.none) w':=by
 have hmem:(H.mk .leaf .e).mem = λ_=>.none:=funext λo=>hget_leaf o
 obtain⟨h1,_⟩:=hk (.mk .leaf .e) (λ_=>⟨0,0,0⟩) w (bX.empty _ _)
 rw[hmem]at h1
 obtain⟨nx,w1,k1,k2,_⟩:=h1 f A hlt rfl hr
 rw[hen]at k1
 cases k1
 have k3:CallsIn Fence.wide 0 P f A.toArray w _:=k2
 refine (callsIn_wide.1 k3).mono λe w' hb=>?_
 cases e with
 | returned V =>
  obtain⟨ε',adv,r⟩:=hb
  have hε : ε' = λ_=>⟨0,0,0⟩:=funext λo=>adv.fresh o λh=>h rfl
  subst hε
  exact⟨V,rfl,r,adv⟩
 | panicked _=>exact hb.elim
 | outgrown=>exact hb.elim
end Go.Ai
