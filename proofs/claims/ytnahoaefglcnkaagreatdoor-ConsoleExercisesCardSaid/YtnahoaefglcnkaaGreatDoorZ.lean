/- ConsoleExercises returns true for every number and word. Conditions: none beyond the given card's. -/
import Derived.Test.YtnahoaefglcnkaaGreatDoorE
import Derived.Test.YtnahoaefglcnkaaGreatDoorE0
import Derived.Test.YtnahoaefglcnkaaGreatDoorA4
import Derived.Test.YtnahoaefglcnkaaGreatDoorD
import Derived.Test.YtnahoaefglcnkaaGreatDoorCards
import Derived.Test.YtnahoaefglcnkaaGreatDoorU3
import Derived.ProofKit
import Derived.OpenShut
import Derived.ChangeMaps5
import Derived.Deep.DeepHandedRow
import Derived.Deep.DeepWitnessRowRef
import Derived.Lib.LaidTab
set_option maxRecDepth 100000
set_option maxHeartbeats 0
namespace Go.Proofs.YtnahoaefglcnkaaGreatDoor.ex
open Go Go.ChangeShapes Go.WideShapes Go.ChangeAt Go.RowKit

theorem own : ownKnob Tryz.prog.godebug = none := by kernel_rfl
theorem called (n : Int) (s : ByteArray) (W : World) : Calls Tryz.prog 3 #[.int .i64 n, .string s] W fun e W' => e = .returned (.bool true) ∧ Ai.Stood W W' := by
  obtain ⟨nu, cs, hcs, hk⟩ := Ai.ex_all (fun nu => @Ai.C1 nu) n s.data.toList
  have hb : @Ai.bytesOf nu cs = s := by
    show ByteArray.mk ((cs.map nu.f).toArray) = s
    rw [hcs]
  exact @Ai.calls_true nu Tryz.prog 3 Tryz.f3 (by decide) Tryz.func3 (by kernel_rfl) (by kernel_rfl) [.int .i64 n, .string s] [.int .i64 n, .str cs]
    (@Ai.known_fin nu Tryz.prog Ai.T1 400 (@Ai.C1 nu) _ _ _ rfl rfl hk) ⟨_, _, rfl, rfl, ⟨_, _, rfl, by rw [← hb]; rfl, rfl⟩⟩ W
theorem contract (H : Type) (enc : TypeId × Value → H) (W : World) (base : Nat) (args : Array Value) (ds gs : List (DataW H)) (before : List MemPlace)
    (hval : ∀ (j : Nat) t v, Tryz.f3.params[j]? = some t → args[j]? = some v → Value.okWide Tryz.prog W .any base t v)
    (hW : DataW.Whole enc Tryz.prog Tryz.f3.params.toList Rows.consoleExercisesSpec.vars false W args.toList ds gs before) :
    Calls Tryz.prog 3 args W fun e W' => ∃ v, e = .returned v ∧ Rows.consoleExercisesSpec.post enc Tryz.prog Tryz.f3 false true false false W args v W' := by
  have hW' := hW
  obtain ⟨p, q, hA0, hV, rfl, hfz, hnd⟩ := hW
  have hA : DataW.TrodAll enc Tryz.prog W 0 (fun _ => true) true Tryz.f3.params.toList args.toList ds p := hA0
  rw [Tryz.params3] at hA hval
  obtain ⟨v0, vs0, d0, ds0, p0, q0, hargs, rfl, rfl, h0, r0⟩ := trodAll_cons hA
  obtain ⟨v1, vs1, d1, ds1, p1, q1, hargs1, rfl, rfl, h1, r1⟩ := trodAll_cons r0
  obtain ⟨rfl, rfl, rfl⟩ := trodAll_nil r1
  subst hargs1
  obtain rfl : args = #[v0, v1] := by cases args; simp_all
  obtain ⟨rfl, rfl⟩ := trodVars_none hV
  obtain ⟨n, rfl, rfl, rfl, hn⟩ := open_int Tryz.underlying3 (hval 0 3 v0 rfl rfl) h0
  obtain ⟨s, rfl, rfl, rfl, hs⟩ := Go.ChangeMaps.open_string Tryz.underlying9 (hval 1 9 v1 rfl rfl) h1
  clear hA0
  simp only [List.append_nil] at hW'
  haveI : Ai.Nu := Ai.nu0
  refine (called n s W).mono fun e W' ⟨he, hst⟩ => ?_
  subst he
  exact ⟨_, rfl, Ai.post_of_same (pa := []) (pv := []) hW' (fun _ _ _ => trodAll_cons_mk (shut_bool Tryz.underlying4 _) trodAll_mk0) (fun _ _ => trodAll_cons_mk (shut_int Tryz.underlying3 hn) (trodAll_cons_mk (Go.ChangeMaps.shut_string Tryz.underlying9 hs) trodAll_mk0)) (fun _ _ => rfl) rfl
    (hst.kept _) hst.frozen (ok_one (by kernel_rfl) rfl (okWide_bool_mk Tryz.underlying4 _))⟩

def lits (d : DataW Unit) : List Value := match d with
  | .agg ps => ps.map fun p => match p with | .lit (.int k n) => .int k n | _ => .bool false
  | _ => []
def lits2 (d : DataW Unit) : List Value := match d with
  | .agg ps => ps.flatMap lits
  | _ => []
abbrev rangeS : ByteArray := { data := #[118, 97, 108, 117, 101, 32, 111, 117, 116, 32, 111, 102, 32, 114, 97, 110, 103, 101] }
abbrev syntaxS : ByteArray := { data := #[105, 110, 118, 97, 108, 105, 100, 32, 115, 121, 110, 116, 97, 120] }
abbrev noS : ByteArray := { data := #[] }
noncomputable def low : Nat := (World.holding Tryz.prog default ⟨#[], #[], []⟩).heap.size
noncomputable def setRow (g : Nat) (cs : List Value) (h : Array Obj) : Array Obj := h.modify g fun
  | .cells _ t frozen => .cells cs.toArray t frozen
  | o => o
noncomputable def laidWorld (os : Os) : World :=
  let w0 := World.holding Tryz.prog os ⟨#[.cells #[.string rangeS] 530, .cells #[.string syntaxS] 530], #[], []⟩
  { w0 with heap := setRow 8 (lits Rows.laid_math_bits_deBruijn32tab) (setRow 9 (lits Rows.laid_math_bits_deBruijn64tab) (setRow 5 (lits Rows.laid_internal_strconv_uint64pow10) (setRow 7 (lits2 Rows.laid_unicode_utf8_acceptRanges)
      (setRow 2 [.iface 528 (.pointer (some ⟨low, 0, none⟩))] (setRow 1 [.iface 528 (.pointer (some ⟨low + 1, 0, none⟩))] (setRow 6 (lits Rows.laid_unicode_utf8_first) w0.heap)))))) }
theorem laid_met (os : Os) : laidMet Tryz.prog Rows.consoleExercisesRow.laid ((laidWorld os).forCall (fun _ _ => 0) ⟨#[], #[.int .i64 0, .string noS], []⟩).memory :=
  laidMet_of_run' 8 (by kernel_rfl) (by kernel_rfl)
theorem reads (os : Os) {H : Type} (enc : TypeId × Value → H) : ∃ places, DataW.whole enc Tryz.prog ((laidWorld os).forCall (fun _ _ => 0) ⟨#[], #[.int .i64 0, .string noS], []⟩).memory Tryz.f3.params.toList Rows.consoleExercisesSpec.vars false #[Value.int .i64 0, .string noS].toList 8 = some ([.lit (.int .i64 0), .lit (.string [])], [], places) :=
  ⟨[], by kernel_rfl⟩
theorem lifted (os : Os) (started : os.Started) (H : Type) (enc : TypeId × Value → H) (F : Stop.Interp) :
    ReturnsInHanded {} Tryz.checked os 3 .any ((OpenSpec.ofChange Rows.consoleExercisesSpec).preRow enc Tryz.prog Tryz.f3 Rows.consoleExercisesRow.domain false Rows.consoleExercisesRow.laid) (((OpenSpec.ofChange Rows.consoleExercisesSpec).at F).post enc Tryz.prog Tryz.f3 false true false false) := by
  obtain ⟨places, hx⟩ := reads os enc
  refine returnsInHanded_of_row (C := Tryz.checked) (s := OpenSpec.ofChange Rows.consoleExercisesSpec) own started (by kernel_rfl) Tryz.func3
    (witness_row_atRef (enc := enc) (C := Tryz.checked) false (laidWorld os) #[.int .i64 0, .string noS] rfl (by kernel_rfl) (by kernel_rfl) (by kernel_rfl)
      (OpenSpec.preRow_of_cond 8 hx (by kernel_rfl) (fun k hk => by cases hk) (by kernel_rfl) (laid_met os))) ?_
  intro W base args ds gs before hval hW _ _ _ hL _ _
  exact contract H enc W base args ds gs before hval hW
theorem said : Rows.ConsoleExercisesSaid :=
  OpenClaim.holds_of_cond 3 Tryz.f3 rfl rfl rfl rfl rfl rfl rfl ⟨rfl, rfl, rfl, rfl, rfl⟩ rfl rfl rfl rfl rfl (by kernel_rfl) Tryz.func3 facts
    (of_decide_eq_true (by kernel_rfl)) (by unfold Func.isWrapper; first | (rw [if_pos (by decide +kernel)]; kernel_rfl) | (rw [if_neg (by decide +kernel)]; exact ⟨rfl, rfl⟩))
    (fun os started H enc _ F => by rw [OpenClaim.pre_eq_preRow]; exact lifted os started H enc F)
theorem plain (f : FuncId) (fn : Func) (hf : Tryz.pinned.checked.prog.funcNamed "galois/galoislaw61.ConsoleExercises" = some f) (hfn : Tryz.pinned.checked.prog.funcs[f]? = some fn) :
    true = Tryz.pinned.checked.prog.looks [] ∧ ∀ (j : Nat) t, fn.params[j]? = some t → Tryz.pinned.checked.prog.wantsStandIn t = false := by
  obtain rfl : f = 3 := Option.some.inj ((show Tryz.prog.funcNamed "galois/galoislaw61.ConsoleExercises" = some 3 by kernel_rfl).symm.trans hf) |>.symm
  obtain rfl : fn = Tryz.f3 := (Option.some.inj (Tryz.func3.symm.trans hfn)).symm
  refine ⟨by kernel_rfl, fun j t ht => ?_⟩
  rw [Tryz.params3] at ht
  have h2 : t = 3 ∨ t = 9 := by simpa using Array.mem_of_getElem? ht
  rcases h2 with rfl | rfl
  · exact (show Tryz.prog.wantsStandIn 3 = false by kernel_rfl)
  · exact (show Tryz.prog.wantsStandIn 9 = false by kernel_rfl)
theorem wf_text : Rows.consoleExercisesRow.wfByText (OpenSpec.ofChange Rows.consoleExercisesSpec) = true := by kernel_rfl
theorem main_is : Tryz.pinned.checked.prog.mainIs = some (true, "90f96365d1c448d14ba55a194a92ce2637ea3cfb03d822dc154e7779407c8b39".toList) := by kernel_rfl
theorem card : Rows.ConsoleExercisesCardSaid :=
  Claim7.holds_tied_plain_at .later [] _ _ _ _ said (fun _ h => by cases h) wf_text (fun _ h => by cases h) consoleExercises_row_tie rfl ⟨rfl, rfl⟩ main_is rfl plain (Ai.goesBy_none rfl goes_all)
end Go.Proofs.YtnahoaefglcnkaaGreatDoor.ex
