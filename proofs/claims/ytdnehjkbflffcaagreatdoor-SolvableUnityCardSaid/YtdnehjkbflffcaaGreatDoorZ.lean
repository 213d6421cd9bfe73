/- SolvableUnity returns true for every number. Conditions: none beyond the given card's. -/
import Derived.Test.YtdnehjkbflffcaaGreatDoorF
import Derived.Test.YtdnehjkbflffcaaGreatDoorA4
import Derived.Test.YtdnehjkbflffcaaGreatDoorD
import Derived.Test.YtdnehjkbflffcaaGreatDoorCards
import Derived.Test.YtdnehjkbflffcaaGreatDoorU3
import Derived.Test.YtdnehjkbflffcaaGreatDoorY0
import Derived.Test.YtdnehjkbflffcaaGreatDoorY1
import Derived.ProofKit
import Derived.OpenShut
import Derived.Deep.DeepHandedRow
import Derived.Deep.DeepWitnessRowRef
import Derived.Lib.LaidTab
set_option maxRecDepth 100000
set_option maxHeartbeats 0
namespace Go.Proofs.YtdnehjkbflffcaaGreatDoor.un
open Go Go.ChangeShapes Go.WideShapes Go.ChangeAt Go.RowKit
theorem byte_inj {a b : Nat} (ha : a < 256) (hb : b < 256) (h : a.toUInt8 = b.toUInt8) : a = b := by
  have h1 := congrArg UInt8.toNat h
  simpa [Nat.mod_eq_of_lt ha, Nat.mod_eq_of_lt hb] using h1
/-- no unknown bytes -/
abbrev nuZ : Ai.Nu where
  f c := if c < 256 then c.toUInt8 else if c = 353 then 98 else 97
  lo c h := if_pos h
  sp c h := by rw [if_neg (by omega)]; split <;> decide
  nl c h := by rw [if_neg (by omega)]; split <;> decide
  ne d h := by
    rw [if_neg (by omega)]
    split
    · rename_i e
      have : d = 97 := by omega
      subst this; decide
    · rename_i e
      intro e2
      have := byte_inj (a := 97) (by decide) h e2
      omega
theorem own:ownKnob Tryz.prog.godebug=none:=by kernel_rfl
theorem Ix(H:Type)(enc:TypeId × Value→H)(W:World)(base:Nat)(args:Array Value)(ds gs:List (DataW H))(before:List MemPlace)
  (hval:∀ (j:Nat) t v,Tryz.f3.params[j]? = some t→args[j]? = some v→Value.okWide Tryz.prog W .any base t v)
  (hW:DataW.Whole enc Tryz.prog Tryz.f3.params.toList Rows.solvableUnitySpec.vars false W args.toList ds gs before) :
  Calls Tryz.prog 3 args W λe W'=>∃ v,e = .returned v∧Rows.solvableUnitySpec.post enc Tryz.prog Tryz.f3 false true false false W args v W':=by
 have hW':=hW
 obtain⟨p,q,hA0,hV,rfl,hfz,hnd⟩:=hW
 have hA:DataW.TrodAll enc Tryz.prog W 0 (λ_=>true) true Tryz.f3.params.toList args.toList ds p:=hA0
 rw[Tryz.params3]at hA hval
 obtain⟨v0,vs0,d0,ds0,p0,q0,hargs,rfl,rfl,h0,r0⟩:=trodAll_cons hA
 obtain⟨rfl,rfl,rfl⟩:=trodAll_nil r0
 obtain rfl:args = #[v0]:=by cases args;simp_all
 obtain⟨rfl,rfl⟩:=trodVars_none hV
 obtain⟨n,rfl,rfl,rfl,hn⟩:=open_int Tryz.underlying3 (hval 0 3 v0 rfl rfl) h0
 clear hA0
 simp only[List.append_nil]at hW'
 haveI : Ai.Nu := nuZ
 refine (Ai.calls_true (func:=Tryz.f3) (by decide) Tryz.func3 (by kernel_rfl) (by kernel_rfl) (Ai.un_known n) (A:=[.int .i64 n]) ⟨_,_,rfl,rfl,rfl⟩ W).mono λe W' ⟨he,hs⟩=>?_
 subst he
 exact⟨_,rfl,Ai.post_of_same (pa:=[]) (pv:=[]) hW' (λ_ _ _=>trodAll_cons_mk (shut_bool Tryz.underlying4 _) trodAll_mk0) (λ_ _=>trodAll_cons_mk (shut_int Tryz.underlying3 hn) trodAll_mk0) (λ_ _=>rfl) rfl
  (hs.kept _) hs.frozen (ok_one (by kernel_rfl) rfl (okWide_bool_mk Tryz.underlying4 _))⟩
def Qx(d:DataW Unit):List Value:=match d with
 | .agg ps=>ps.map λp=>match p with | .lit (.int k n)=>.int k n | _=>.bool false
 | _=>[]
abbrev Qu:ByteArray:={ data:=#[118,97,108,117,101,32,111,117,116,32,111,102,32,114,97,110,103,101] }
abbrev MI:ByteArray:={ data:=#[105,110,118,97,108,105,100,32,115,121,110,116,97,120] }
noncomputable def low:Nat:=(World.holding Tryz.prog default ⟨#[],#[],[]⟩).heap.size
noncomputable def tT(g:Nat)(cs:List Value)(h:Array Obj):Array Obj:=h.modify g fun
 | .cells _ t frozen=>.cells cs.toArray t frozen
 | o=>o
noncomputable def qn(os:Os):World :=
 let w0:=World.holding Tryz.prog os ⟨#[.cells #[.string Qu] 752,.cells #[.string MI] 752],#[],[]⟩
 { w0 with heap:=tT 5 (Qx Rows.laid_math_bits_deBruijn32tab) (tT 6 (Qx Rows.laid_math_bits_deBruijn64tab) (tT 4 (Qx Rows.laid_internal_strconv_uint64pow10)
   (tT 3 [.iface 750 (.pointer (some ⟨low,0,none⟩))] (tT 2 [.iface 750 (.pointer (some ⟨low+1,0,none⟩))] w0.heap)))) }
theorem KV(os:Os):laidMet Tryz.prog Rows.solvableUnityRow.laid ((qn os).forCall (λ_ _=>0) ⟨#[],#[.int .i64 0],[]⟩).memory :=
 laidMet_of_run' 8 (by kernel_rfl) (by kernel_rfl)
theorem WE(os:Os){H:Type}(enc:TypeId × Value→H):∃ places,DataW.whole enc Tryz.prog ((qn os).forCall (λ_ _=>0) ⟨#[],#[.int .i64 0],[]⟩).memory Tryz.f3.params.toList Rows.solvableUnitySpec.vars false #[Value.int .i64 0].toList 8=some ([.lit (.int .i64 0)],[],places) :=
 ⟨[],by kernel_rfl⟩
theorem lifted(os:Os)(started:os.Started)(H:Type)(enc:TypeId × Value→H)(F:Stop.Interp):
  ReturnsInHanded {} Tryz.checked os 3 .any ((OpenSpec.ofChange Rows.solvableUnitySpec).preRow enc Tryz.prog Tryz.f3 Rows.solvableUnityRow.domain false Rows.solvableUnityRow.laid) (((OpenSpec.ofChange Rows.solvableUnitySpec).at F).post enc Tryz.prog Tryz.f3 false true false false):=by
 obtain⟨places,hx⟩:=WE os enc
 refine returnsInHanded_of_row (C:=Tryz.checked) (s:=OpenSpec.ofChange Rows.solvableUnitySpec) own started (by kernel_rfl) Tryz.func3
  (witness_row_atRef (enc:=enc) (C:=Tryz.checked) false (qn os) #[.int .i64 0] rfl (by kernel_rfl) (by kernel_rfl) (by kernel_rfl)
   (OpenSpec.preRow_of_cond 8 hx (by kernel_rfl) (λk hk=>by cases hk) (by kernel_rfl) (KV os))) ?_
 intro W base args ds gs before hval hW _ _ _ hL _ _
 exact Ix H enc W base args ds gs before hval hW
theorem ach:Rows.SolvableUnitySaid :=
 OpenClaim.holds_of_cond 3 Tryz.f3 rfl rfl rfl rfl rfl rfl rfl ⟨rfl,rfl,rfl,rfl,rfl⟩ rfl rfl rfl rfl rfl (by kernel_rfl) Tryz.func3 UV
  (of_decide_eq_true (by kernel_rfl)) (by unfold Func.isWrapper;first | (rw[if_pos (by decide +kernel)];kernel_rfl) | (rw[if_neg (by decide +kernel)];exact⟨rfl,rfl⟩))
  (λos started H enc _ F=>by rw[OpenClaim.pre_eq_preRow];exact lifted os started H enc F)
theorem plain(f:FuncId)(fn:Func)(hf:Tryz.pinned.checked.prog.funcNamed "galois/galoislaw54.SolvableUnity" = some f)(hfn:Tryz.pinned.checked.prog.funcs[f]? = some fn):
  true=Tryz.pinned.checked.prog.looks []∧∀ (j:Nat) t,fn.params[j]? = some t→Tryz.pinned.checked.prog.wantsStandIn t=false:=by
 obtain rfl:f=3:=Option.some.inj (named_is.symm.trans hf) |>.symm
 obtain rfl:fn=Tryz.f3:=(Option.some.inj (Tryz.func3.symm.trans hfn)).symm
 refine⟨looks_is,λj t ht=>?_⟩
 rw[Tryz.params3]at ht
 obtain rfl:t=3:=by simpa using Array.mem_of_getElem? ht
 exact (show Tryz.prog.wantsStandIn 3=false by kernel_rfl)
theorem LL:Rows.solvableUnityRow.wfByText (OpenSpec.ofChange Rows.solvableUnitySpec)=true:=by kernel_rfl
theorem MR:Tryz.pinned.checked.prog.mainIs=some (true, "6f43aeec9f11058440a700a2d3ab1a3fa981849a38013f6c96c60d0f39d3768c".toList):=by kernel_rfl
theorem card:Rows.SolvableUnityCardSaid :=
 Claim7.holds_tied_plain_at .later [] _ _ _ _ ach (λ_ h=>by cases h) LL (λ_ h=>by cases h) lp rfl ⟨rfl,rfl⟩ MR rfl plain (Ai.goesBy_none rfl IB)
end Go.Proofs.YtdnehjkbflffcaaGreatDoor.un
