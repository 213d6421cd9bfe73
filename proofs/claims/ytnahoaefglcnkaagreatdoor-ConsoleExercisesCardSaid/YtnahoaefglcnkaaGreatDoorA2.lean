/- Operations: making, converting, appending, copying. Operations: append. Operations: make, copy, clear, maps. Operations: maps. Operations of strings.Builder: unsafe pointers, unsafe.String, unsafe.SliceData, cap. What the compiler makes of an operation is good. Calls, and the operations of a frame. Regions in their written order. The control flow of a frame. A loop over a function. Functions: entry and end. Functions and rounds: the entries of the table do what the interpreter says. -/
import Derived.Test.YtnahoaefglcnkaaGreatDoorA1
import Derived.Laws.BytesString
import Derived.Laws.IdiomStrings
import Derived.Laws.AppendOwn
import Derived.IntWalk
import Derived.MapKept
import Derived.Lib.UnsafeStr
import Derived.OrdersIn
import Derived.LoopNIn
import Derived.ControlIn
import Derived.RangeFuncLeaves
set_option autoImplicit false
namespace Go.Ai
set_option linter.unusedSectionVars false
variable [Nu]
open Go
variable {P : Program} {N : Nat} {ε : Env} {m : Mem} {w : World} {x y : Operand} {a b : Opd}

theorem onSlcZ_w (v : AV) : (∀ z kk, Bad (v.onSlcZ z kk)) ∨ (v = .nils ∨ ∃ o i, v = .sle o i) ∨ ∃ o i n c, v = .slc o i n c := by
  cases v <;> first | exact .inr (.inr ⟨_, _, _, _, rfl⟩) | exact .inr (.inl (.inl rfl)) | exact .inr (.inl (.inr ⟨_, _, rfl⟩)) | exact .inl fun _ _ => ⟨_, rfl⟩
theorem sliceCells_w (size : Nat) (v : AV) (n : Nat) (h : H) : (∀ k, Bad (sliceCells size v n h k)) ∨ ∃ cs : List AV, (∀ k, sliceCells size v n h k = k cs) ∧ cs.length = n * size ∧
    ∀ (ε : Env) (w : World) (V : Value), R ε h.mem v V → HRel P ε h.mem w → ∃ L : List Value, Rs ε h.mem cs L ∧ ∃ A l c, V = .slice A l c ∧ n ≤ l ∧ (Builtin.firstCells size n V).run P w = .ok L.toArray w ∧ (∀ ad, A = some ad → (loadCells ad (n * size)).run P w = .ok L.toArray w) ∧ ∀ ad, A = some ad → ∀ j v, L[j]? = some v → w.cell? (ad.add j) = some v := by
  have e0 : ∀ k, sliceCells size v n h k = v.onSlcZ (must 12 (Nat.beq n 0) (k [])) fun o i m _ => must 12 (Nat.ble n m) (cellsOf o h fun cs _ => ldropC i cs fun cs => ltake (n * size) cs k) := fun _ => rfl
  simp only [e0]
  rcases onSlcZ_w v with hb | hz | ⟨o, i, l, c, rfl⟩
  · exact .inl fun _ => hb _ _
  · have e1 : ∀ k : List AV → Res, v.onSlcZ (must 12 (Nat.beq n 0) (k [])) (fun o i m _ => must 12 (Nat.ble n m) (cellsOf o h fun cs _ => ldropC i cs fun cs => ltake (n * size) cs k)) = must 12 (Nat.beq n 0) (k []) := fun k => by rcases hz with rfl | ⟨o, i, rfl⟩ <;> rfl
    simp only [e1]
    rcases must_w 12 (Nat.beq n 0) with hb | ⟨h1, h2⟩
    · exact .inl fun _ => hb _
    simp only [h2]
    have hn := Nat.eq_of_beq_eq_true h1
    subst hn
    refine .inr ⟨[], fun _ => rfl, by simp, fun ε w V r hh => ⟨[], rfl, ?_⟩⟩
    rcases hz with rfl | ⟨o, i, rfl⟩
    · simp only [R] at r; subst r
      exact ⟨none, 0, 0, rfl, Nat.le_refl _, by simp [Builtin.firstCells], fun ad h => (by cases h), fun ad h => (by cases h)⟩
    · simp only [R] at r
      obtain ⟨_, A, rfl, _⟩ := r
      exact ⟨some A, 0, _, rfl, Nat.le_refl _, by simp [Builtin.firstCells, loadCells, loadCellsFrom], fun ad h => (by simp [loadCells, loadCellsFrom]), fun ad h j v hj => (by simp at hj)⟩
  · show (∀ k, Bad (must 12 (Nat.ble n l) (cellsOf o h fun cs _ => ldropC i cs fun cs => ltake (n * size) cs k))) ∨ ∃ cs, (∀ k, must 12 (Nat.ble n l) (cellsOf o h fun cs _ => ldropC i cs fun cs => ltake (n * size) cs k) = k cs) ∧ _
    rcases must_w 12 (Nat.ble n l) with hb | ⟨h1, h2⟩
    · exact .inl fun _ => hb _
    simp only [h2]
    rcases cellsOf_w o h with hb | ⟨cs, es, h3, h4⟩
    · exact .inl fun _ => hb _
    simp only [h4]
    rcases ldropC_w i cs with hb | ⟨h5, h6⟩
    · exact .inl fun _ => hb _
    simp only [h6]
    rcases ltake_w (n * size) (cs.drop i) with hb | ⟨h7, h8⟩
    · exact .inl fun _ => hb _
    simp only [h8]
    refine .inr ⟨_, fun _ => rfl, by simp; simp at h7; omega, fun ε w V r hh => ?_⟩
    simp only [R] at r
    obtain ⟨L, hl, rl, hc⟩ := (hh.cells o cs es h3).vals i (n * size) (by simp at h7; omega)
    have hld := run_loadCells_list (P := P) w (ε.addr o i) L hc
    rw [hl] at hld
    refine ⟨L, rl, some (ε.addr o i), l, _, r.2, ble_le h1, ?_, (fun ad h => by cases h; exact hld), fun ad h => by cases h; exact hc⟩
    rw [r.2]; simp [Builtin.firstCells, hld]
theorem bytesC_w (cs : List AV) : (∀ k, Bad (bytesC cs k)) ∨ ∃ l : List Nat, (∀ k, bytesC cs k = k l) ∧ cs = (l.map fun n : Nat => AV.int .u8 (n : Int)) ∧ ∀ n ∈ l, n < 256 := by
  induction cs with
  | nil => exact .inr ⟨[], fun _ => rfl, rfl, by simp⟩
  | cons v t ih =>
    have e0 : ∀ k, bytesC (v :: t) k = v.onInt fun kd n => must 12 (Nat.beq kd.ctorIdx 4) (natOf n fun m => must 12 (Nat.blt m 256) (bytesC t fun t => k (m :: t))) := fun _ => rfl
    simp only [e0]
    rcases onInt_w v with hb | ⟨kd, n, rfl⟩
    · exact .inl fun _ => hb _
    have e1 : ∀ k : List Nat → Res, (AV.int kd n).onInt (fun kd n => must 12 (Nat.beq kd.ctorIdx 4) (natOf n fun m => must 12 (Nat.blt m 256) (bytesC t fun t => k (m :: t)))) = must 12 (Nat.beq kd.ctorIdx 4) (natOf n fun m => must 12 (Nat.blt m 256) (bytesC t fun t => k (m :: t))) := fun _ => rfl
    simp only [e1]
    rcases must_w 12 (Nat.beq kd.ctorIdx 4) with hb | ⟨h1, h2⟩
    · exact .inl fun _ => hb _
    simp only [h2]
    have hk : kd = .u8 := by cases kd <;> first | rfl | cases h1
    subst hk
    rcases natOf_w n with hb | ⟨i, rfl, h3⟩
    · exact .inl fun _ => hb _
    simp only [h3]
    rcases must_w 12 (Nat.blt i 256) with hb | ⟨h6, h7⟩
    · exact .inl fun _ => hb _
    simp only [h7]
    have hi := blt_lt h6
    rcases ih with hb | ⟨l, h4, h5, h8⟩
    · exact .inl fun _ => hb _
    · exact .inr ⟨i :: l, fun k => h4 _, by rw [h5]; rfl, fun n hn => by
        rcases List.mem_cons.1 hn with rfl | hn
        · exact hi
        · exact h8 n hn⟩
theorem bytesOf_lo {l : List Nat} (h : ∀ n ∈ l, n < 256) : bytesOf l = ⟨(l.map Nat.toUInt8).toArray⟩ := by
  unfold bytesOf
  rw [List.map_congr_left fun n hn => Nu.lo n (h n hn)]
theorem bytes_fold (l : List Nat) : ∀ s : ByteArray, (l.map (fun n : Nat => (n : Int))).foldl (fun r n => r.push (UInt8.ofNat n.toNat)) s = ⟨s.data ++ (l.map Nat.toUInt8).toArray⟩ := by
  induction l with
  | nil => intro s; simp
  | cons n l ih =>
    intro s
    simp only [List.map_cons, List.foldl_cons, Int.toNat_natCast]
    rw [ih]
    apply ByteArray.ext
    apply Array.ext'
    simp [ByteArray.push]
theorem Rs.bytes {l : List Nat} : ∀ {L : List Value}, Rs ε m (l.map fun n : Nat => AV.int .u8 (n : Int)) L → L = (l.map (fun n : Nat => (n : Int))).map (Value.int .u8) := by
  induction l with
  | nil => intro L r; simp [Rs] at r; simp [r]
  | cons n l ih =>
    intro L r
    simp only [List.map_cons, Rs] at r
    obtain ⟨V, U, rfl, rv, rt⟩ := r
    simp only [R] at rv
    rw [rv, ih rt]; rfl
theorem good_b2s {s d e : TypeId} (hx : opd N x = some a) (hs : P.underlying s = some (.slice e)) (hd : P.underlying d = some .string) (he : P.underlying e = some (.int .u8)) : Good P N (.b2s a) (.convert s d x) := by
  rintro oper ho call fr h
  show Gives (fun k => (a.ev fr).lenC fun n => sliceCells 1 (a.ev fr) n h fun cs => bytesC cs fun l => k (.str l) h) _
  rcases lenC_w (a.ev fr) with hb | ⟨n, e1, e2⟩
  · exact .inl fun _ => hb _
  simp only [e1]
  rcases sliceCells_w (P := P) 1 (a.ev fr) n h with hb | ⟨cs, e3, e4, e5⟩
  · exact .inl fun _ => hb _
  simp only [e3]
  rcases bytesC_w cs with hb | ⟨l, e6, e7, e8⟩
  · exact .inl fun _ => hb _
  simp only [e6]
  refine Gives.now (Okay.same fun ε T D w hT hF hh => ⟨_, rfl, ?_⟩)
  have h1 := opd_ok hx hT hF D
  obtain ⟨A0, c0, h2⟩ := e2 ε _ _ h1
  obtain ⟨L, r, A, ln, c, h3, h4, h5, h6, _⟩ := e5 ε w _ h1 hh
  rw [h2] at h3
  cases h3
  rw [e7] at r
  have hL := r.bytes
  have hlen : l.length = n := by rw [e7] at e4; simpa using e4
  simp only [execOp, ho, Sem.run_bind, h2]
  rw [run_convert_bytes_string w s d e A0 n c0 hs he hd]
  cases A0 with
  | none =>
    have hn0 : n = 0 := by
      rcases onSlcZ_w (a.ev fr) with hb | hz | ⟨o, i, l', c', ez⟩
      · obtain ⟨q, hq⟩ := hb (.fin .undef (.mk .leaf .e)) fun _ _ _ _ => .fin .undef (.mk .leaf .e)
        have e0 : (a.ev fr).lenC (fun _ => .fin .undef (.mk .leaf .e)) = (a.ev fr).onSlcZ (.fin .undef (.mk .leaf .e)) fun _ _ _ _ => .fin .undef (.mk .leaf .e) := rfl
        rw [← e0, e1] at hq; cases hq
      · rcases hz with ez | ⟨o, i, ez⟩ <;> rw [ez] at h1 <;> simp only [R] at h1
        · rw [h1] at h2; cases h2; rfl
        · obtain ⟨_, A, h1, _⟩ := h1; rw [h1] at h2; cases h2
      · rw [ez] at h1; simp only [R] at h1; rw [h1.2] at h2; cases h2
    subst hn0
    have : l = [] := List.eq_nil_of_length_eq_zero hlen
    subst this
    simp [Conv.bytesToString, bytesOf]; rfl
  | some ad =>
    have h7 := h6 ad rfl
    rw [hL, Nat.mul_one] at h7
    rw [run_bytesToString w ad n c0 _ h7, bytes_fold, bytesOf_lo e8]
    simp
theorem ofBytes_eq (s : List Nat) : ofBytes s = s.map fun b => if b < 256 then .int .u8 ((b : Nat) : Int) else .ub b := by
  induction s with
  | nil => rfl
  | cons b t ih =>
    have e : ofBytes (b :: t) = Bool.casesOn (motive := fun _ => AV) (Nat.blt b 256) (.ub b) (.int .u8 (.ofNat b)) :: ofBytes t := rfl
    rw [e, ih, List.map_cons, blt_dec]
    by_cases h : b < 256
    · rw [decide_eq_true h, if_pos h]; rfl
    · rw [decide_eq_false h, if_neg h]
theorem ofBytes_R (s : List Nat) : Rs ε m (ofBytes s) ((bytesOf s).data.toList.map fun b => Value.int .u8 (b.toNat : Int)) := by
  rw [ofBytes_eq]
  induction s with
  | nil => rfl
  | cons b t ih =>
    have e : (bytesOf (b :: t)).data.toList = Nu.f b :: (bytesOf t).data.toList := by simp [bytesOf]
    rw [e]
    refine ⟨_, _, rfl, ?_, ih⟩
    by_cases h : b < 256
    · simp only [if_pos h, R]
      rw [Nu.lo b h]
      simp
      omega
    · simp only [if_neg h, R]
      exact ⟨Nat.le_of_not_lt h, trivial⟩
theorem Adv.newCellsF (h : HRel P ε m w) {o : Path} (ho : ¬ m.has o) (cs : List AV) (es sp : Nat) (L rest : List Value) (elem : TypeId) (fz : Nat × Nat) (hr : Rs ε m cs L) (hl : sp * strd es ≤ rest.length) (he : ElOk es elem 0) (hf : ∀ i, i < cs.length + sp * strd es → ¬(fz.1 ≤ i ∧ i < fz.2)) :
    Adv P ε m w (upd ε o ⟨w.heap.size, 0, sp⟩) (upd m o (.cells cs es)) { w with heap := w.heap.push (.cells (L ++ rest).toArray elem fz) } := by
  refine Adv.new h ho (.cells cs es) trivial _ sp ?_
  rintro ε' m' w' rfl rfl rfl hs hx
  have hlen := hr.length
  refine ⟨fun cs' es' e => ?_, fun _ _ e => (by cases e), fun _ _ _ _ _ _ e => (by cases e)⟩
  cases e
  refine ⟨(L ++ rest).toArray, elem, fz, hx, ?_, ?_, ?_, by rw [upd_same]; exact he⟩
  · rw [upd_same]; simp; omega
  · rw [upd_same]
    have : ((L ++ rest).toArray.toList.drop 0).take cs.length = L := by simp [hlen]
    rw [this]
    exact Rs.mono hs _ _ hr
  · rw [upd_same]; intro i _ h2; exact hf i (by simpa using h2)
theorem good_s2b {s d e : TypeId} (hx : opd N x = some a) (hs : P.underlying s = some .string) (hd : P.underlying d = some (.slice e)) (he : P.underlying e = some (.int .u8)) (hlt : e < 4294901760) : Good P N (.s2b (65536 + e) a) (.convert s d x) := by
  rintro oper ho call fr h
  show Gives (fun k => (a.ev fr).onStr fun s => newObj (.cells (ofBytes s) (65536 + e)) h fun o h => k (.slc o 0 (llen s) (.opn (llen s))) h) _
  rcases onStr_w (a.ev fr) with hb | ⟨s', e1⟩
  · exact .inl fun _ => hb _
  simp only [e1]
  show Gives (fun k => newObj (.cells (ofBytes s') (65536 + e)) h fun o h => k (.slc o 0 (llen s') (.opn (llen s'))) h) _
  rcases newObj_w (.cells (ofBytes s') (65536 + e)) h with hb | ⟨o, h', hn, hm, e2⟩
  · exact .inl fun _ => hb _
  simp only [e2, llen_eq]
  refine .inr ⟨_, h', fun _ => rfl, ?_⟩
  intro ε T D w hT hF hh
  have h1 := opd_ok hx hT hF D
  rw [e1] at h1; simp only [R] at h1
  have hrun := run_bytes_of_string (P := P) w s d e (bytesOf s') hs hd he
  have hsz : (bytesOf s').size = s'.length := bytesOf_size s'
  generalize hc : grownCap w (bytesOf s').size 0 e = cap at hrun
  have hcap : s'.length ≤ cap := by rw [← hc, hsz]; exact Nat.le_add_right _ _
  have hh1 : HRel P ε h.mem w.drew := hh.heap rfl
  let elems := (bytesOf s').data.toList.map fun b => Value.int .u8 (b.toNat : Int)
  have hel : elems.length = s'.length := by simp [elems, bytesOf]
  have hrow : bytesRow (bytesOf s') cap = (elems ++ List.replicate (cap - s'.length) (Value.int .u8 0)).toArray := by
    apply Array.ext'; simp [bytesRow, elems, hsz]
  have hrs : (bytesRow (bytesOf s') cap).size = cap := by rw [hrow]; simp [hel]; omega
  have adv := (Adv.drew hh (w.drawn + 1)).trans (Adv.newCellsF hh1 hn (ofBytes s') (65536 + e) (cap - s'.length) elems (List.replicate (cap - s'.length) (Value.int .u8 0)) e (cap, cap + 1) (ofBytes_R s') (by rw [strd_row]; simp) (ElOk.row e 0 hlt) (by
    intro i hi
    have : (ofBytes s').length = s'.length := by rw [ofBytes_eq]; simp
    rw [strd_row] at hi
    omega))
  rw [hm]
  rw [hrs, hrow, hsz] at hrun
  refine ⟨_, _, _, adv, ⟨has_new _ _ _ _, rfl⟩, .inl ?_⟩
  have hcv : Env.cap (upd ε o ⟨w.drew.heap.size, 0, cap - s'.length⟩) o (.opn s'.length) = cap := by simp [Env.cap, upd_same]; omega
  rw [hcv, addr_new]
  simp only [execOp, ho, Sem.run_bind, h1, hrun]
  rfl
end Go.Ai
set_option autoImplicit false
namespace Go.Ai
set_option linter.unusedSectionVars false
variable [Nu]
open Go
variable {P : Program} {N : Nat} {ε : Env} {m : Mem} {w : World} {x y : Operand} {a b : Opd}

structure AppT (P : Program) (ts : Array TypeId) (e : TypeId) (i : TypeInfo) (Z : Value) (size : Nat) : Prop where
  t0 : ∃ t, ts[0]? = some t ∧ P.underlying t = some (.slice e)
  t1 : ∃ t u, ts[1]? = some t ∧ P.underlying t = some u ∧ (u = .string ∨ ∃ e', u = .slice e')
  info : P.info? e = some i
  zero : i.zero = some Z
  sz : i.size = size
  zsz : Z.cells.size = size
theorem run_append_fit {ts : Array TypeId} {e ty : TypeId} {i : TypeInfo} {Z : Value} {size n cap l : Nat} {base : Option Addr} {X : Value} {L : Array Value} (A : AppT P ts e i Z size)
    (hl : (Builtin.lenOf X).run P w = .ok l w) (hf : (Builtin.firstCells size l X).run P w = .ok L w) (hn : n + l ≤ cap) {w' : World}
    (hs : ∀ a, base = some a → (storeCells (a.add (n * size)) L.toList).run P w = .ok () w') (hs0 : base = none → w' = w) :
    (Builtin.append_ ts ty #[.slice base n cap, X]).run P w = .ok (.slice base (n + l) cap) w' := by
  obtain ⟨⟨t, h0, h0'⟩, ⟨t1, u, h1, h1', hu⟩, hi, hz, hsz, hzs⟩ := A
  cases base with
  | none =>
    rw [hs0 rfl]
    rcases hu with rfl | ⟨e', rfl⟩ <;> simp [Builtin.append_, h0, h1, run_underlying h0', run_underlying h1', sizeOf, typeInfo, hi, hsz, hl, hn, hf]
  | some ad =>
    have := hs ad rfl
    rcases hu with rfl | ⟨e', rfl⟩ <;> simp [Builtin.append_, h0, h1, run_underlying h0', run_underlying h1', sizeOf, typeInfo, hi, hsz, hl, hn, hf, this]
theorem run_append_more {ts : Array TypeId} {e ty : TypeId} {i : TypeInfo} {Z : Value} {size n cap l : Nat} {base : Option Addr} {X : Value} {L O : Array Value} (A : AppT P ts e i Z size)
    (hl : (Builtin.lenOf X).run P w = .ok l w) (hf : (Builtin.firstCells size l X).run P w.drew = .ok L w.drew) (ho : (Builtin.firstCells size n (.slice base n cap)).run P w.drew = .ok O w.drew) (hn : cap < n + l)
    (hb : (n + l) * (i.bytes + 1) ≤ 1073741824) :
    (Builtin.append_ ts ty #[.slice base n cap, X]).run P w = .ok (.slice (some ⟨w.heap.size, 0, none⟩) (n + l) (grownCap w (n + l) cap e))
      (w.drew.alloc (.cells (O.toList ++ (L.toList ++ (Builtin.zeroCells Z.cells (grownCap w (n + l) cap e - (n + l))).toList)).toArray e)) := by
  obtain ⟨⟨t, h0, h0'⟩, ⟨t1, u, h1, h1', hu⟩, hi, hz, hsz, hzs⟩ := A
  have hn' : ¬ (n + l ≤ cap) := by omega
  have h2 : (n + l) * i.bytes + (n + l) ≤ 1073741824 := by rwa [Nat.mul_succ] at hb
  have h63 : ¬ (9223372036854775807 < ((n : Int) + (l : Int))) := by omega
  have hfit := growslice_fits (bytes := i.bytes) hn (by omega)
  have h48 : ¬ (281474976710656 < Builtin.nextslicecap (n + l) cap * i.bytes) := by omega
  rcases hu with rfl | ⟨e', rfl⟩ <;> simp [Builtin.append_, h0, h1, run_underlying h0', run_underlying h1', sizeOf, typeInfo, zeroValue, hi, hz, hsz, hl, hn', hf, h63, h48, Question.forced, ho, newRow, grownCap] <;> rw [← Array.append_assoc] <;> (congr 2; apply Array.ext'; simp)
theorem onSlcE_w (v : AV) : (∀ z kk ke, Bad (v.onSlcE z kk ke)) ∨ v = .nils ∨ (∃ o i n c, v = .slc o i n c) ∨ ∃ o i, v = .sle o i := by
  cases v <;> first | exact .inr (.inr (.inl ⟨_, _, _, _, rfl⟩)) | exact .inr (.inr (.inr ⟨_, _, rfl⟩)) | exact .inr (.inl rfl) | exact .inl fun _ _ _ => ⟨_, rfl⟩
theorem ofBytes_length (s : List Nat) : (ofBytes s).length = s.length := by rw [ofBytes_eq]; simp
theorem srcCells_w (size : Nat) (v : AV) (h : H) : (∀ k, Bad (srcCells size v h k)) ∨ ∃ (n : Nat) (cs : List AV), (∀ k, srcCells size v h k = k n cs) ∧ cs.length = n * size ∧
    ∀ (ε : Env) (V : Value), R ε h.mem v V → (∀ w, (Builtin.lenOf V).run P w = .ok n w) ∧ ∀ w, HRel P ε h.mem w → ∃ L : List Value, Rs ε h.mem cs L ∧ (Builtin.firstCells size n V).run P w = .ok L.toArray w := by
  by_cases hv : ∃ s, v = .str s
  · obtain ⟨s, rfl⟩ := hv
    have e0 : ∀ k, srcCells size (.str s) h k = must 12 (Nat.beq size 1) (k (llen s) (ofBytes s)) := fun _ => rfl
    simp only [e0]
    rcases must_w 12 (Nat.beq size 1) with hb | ⟨h1, h2⟩
    · exact .inl fun _ => hb _
    simp only [h2]
    have hn := Nat.eq_of_beq_eq_true h1
    subst hn
    refine .inr ⟨_, _, fun _ => rfl, by rw [ofBytes_length, llen_eq, Nat.mul_one], fun ε V r => ?_⟩
    simp only [R] at r; subst r
    have hz : (bytesOf s).size = s.length := bytesOf_size s
    refine ⟨fun w => by simp [Builtin.lenOf, hz, llen_eq], fun w hh => ⟨_, ofBytes_R s, ?_⟩⟩
    have hx : (bytesOf s).extract 0 s.length = bytesOf s := by rw [extract_bytes]; simp
    simp only [Builtin.firstCells, llen_eq, hx]
    show Result.ok _ _ = _
    congr 1
    apply Array.ext'; simp
  · have e0 : ∀ k, srcCells size v h k = v.lenC fun n => sliceCells size v n h fun cs => k n cs := fun k => by cases v <;> first | rfl | exact absurd ⟨_, rfl⟩ hv
    simp only [e0]
    rcases lenC_w v with hb | ⟨n, e1, e2⟩
    · exact .inl fun _ => hb _
    simp only [e1]
    rcases sliceCells_w (P := P) size v n h with hb | ⟨cs, e3, e4, e5⟩
    · exact .inl fun _ => hb _
    refine .inr ⟨n, cs, fun k => e3 _, e4, fun ε V r => ⟨fun w => ?_, fun w hh => ?_⟩⟩
    · obtain ⟨A, c, rfl⟩ := e2 ε _ _ r
      simp [Builtin.lenOf]
    · obtain ⟨L, rl, A, l, c, _, _, h6, _⟩ := e5 ε w V r hh
      exact ⟨L, rl, h6⟩
theorem renew_list {α : Type} {C L : List α} {off i j n : Nat} (hij : i ≤ j) (hj : j ≤ n) (hC : off + n ≤ C.length) : ((putL C (off + j) L).drop (off + i)).take (j - i + L.length) = (((C.drop off).take n).drop i).take (j - i) ++ L := by
  have l2 : ((C.take (off + j)).drop (off + i)).length = j - i := by simp; omega
  have l3 : ((C.take (off + j)).drop (off + i)) = (((C.drop off).take n).drop i).take (j - i) := by
    rw [List.drop_take, List.drop_take, List.take_take, List.drop_drop, Nat.min_eq_left (by omega)]
    congr 1
    omega
  unfold putL
  rw [List.append_assoc, List.drop_append_of_le_length (by simp; omega), List.take_append, l2, l3, Nat.add_sub_cancel_left, List.take_append_of_le_length (Nat.le_refl _), List.take_of_length_le (Nat.le_refl L.length), List.take_of_length_le (by rw [← l3, l2]; omega)]
theorem Adv.renew (h : HRel P ε m w) {o o' : Path} {cs : List AV} {es : Nat} (ho : m o = .cells cs es) (ho' : ¬ Mem.has (upd m o .dead) o') {i j sp : Nat} {old new : List AV} {L : List Value} (hr : Rs ε m new L) (hs : scals new = true) (hold : old = (cs.drop i).take (j - i)) (hij : i ≤ j) (hj : j ≤ cs.length) (hfit : j + new.length + sp * strd es ≤ cs.length + (ε o).sp * strd es) (hlt : es < 4294967296) :
    (storeCells (ε.addr o j) L).run P w = .ok () (w.setCells (ε o).blk ((ε o).off + j) L) ∧
    Adv P ε m w (upd ε o' ⟨(ε o).blk, (ε o).off + i, sp⟩) (upd (upd m o .dead) o' (.cells (old ++ new) es)) (w.setCells (ε o).blk ((ε o).off + j) L) := by
  obtain ⟨C, elem, fz, hg, hsz, hR, hf⟩ := h.cells o cs es ho
  have hlen := hr.length
  have hl : live (m o) := by rw [ho]; trivial
  obtain ⟨C', e1, hs', hp⟩ := setCells_eq L ((ε o).off + j) w C hg (by omega)
  have hne : o' ≠ o := fun e => ho' (by subst e; unfold Mem.has; rw [upd_same]; simp)
  constructor
  · have := run_storeCells_cells (P := P) (ε o).blk ((ε o).off + j) L 0 w (fun k hk => ?_) (fun k hk => ?_) (scals_one hs hr)
    · simpa [Env.addr] using this
    · simp only [World.cell?, hg]; simp; omega
    · simp only [World.frozen?, hg]
      have := hf.1 ((ε o).off + j + 0 + k) (by omega) (by omega)
      simpa using this
  · rw [e1]
    have st1 := Stays.put ε m o .dead (by simp)
    have st := st1.trans (Stays.upd ε (upd m o .dead) o' ⟨(ε o).blk, (ε o).off + i, sp⟩ (.cells (old ++ new) es) ho')
    have heap : ∀ k, k ≠ (ε o).blk → (w.heap.setIfInBounds (ε o).blk (.cells C' elem fz))[k]? = w.heap[k]? := fun k hk => Array.getElem?_setIfInBounds_ne (Ne.symm hk)
    have hother : ∀ q, q ≠ o' → live (upd (upd m o .dead) o' (.cells (old ++ new) es) q) → q ≠ o ∧ live (m q) := fun q hq hlq => by
      rw [upd_ne _ _ hq] at hlq
      by_cases e : q = o
      · subst e; rw [upd_same] at hlq; exact hlq.elim
      · rw [upd_ne _ _ e] at hlq; exact ⟨e, hlq⟩
    have hblk : (upd ε o' ⟨(ε o).blk, (ε o).off + i, sp⟩ o') = ⟨(ε o).blk, (ε o).off + i, sp⟩ := upd_same _ _ _
    have hcarry : ∀ q, q ≠ o' → q ≠ o → _ := fun q hq hqo => h.carry (o := q) (w' := { w with heap := w.heap.setIfInBounds (ε o).blk (.cells C' elem fz) }) st (fun hlq => heap _ (h.apart q o hqo hlq hl)) ((upd_ne _ _ hq).trans (upd_ne _ _ hqo))
    refine ⟨st, fun q hq => ?_, rfl, rfl, rfl, by simp, fun k _ hk => heap k fun e => hk ⟨o, hl, e.symm⟩, fun q hlq => .inl ?_, fun q hq => ?_, ⟨fun q cs' es' e => ?_, fun q es' clk e => ?_, fun q st' pd fr ps a b e => ?_, fun q q' hqq hlq hlq' => ?_⟩⟩
    · refine upd_ne _ _ fun e => hq ?_
      subst e; unfold Mem.has; rw [upd_same]; simp
    · by_cases e : q = o'
      · subst e; exact ⟨o, hl, by rw [hblk]⟩
      · rw [upd_ne _ _ e]; exact ⟨q, (hother q e hlq).2, rfl⟩
    · have h1 : q ≠ o := fun e => by subst e; rw [ho] at hq; exact hq
      have h2 : q ≠ o' := fun e => by
        subst e
        apply ho'
        unfold Mem.has
        rw [upd_ne _ _ h1]
        intro e; rw [e] at hq; exact hq
      rw [upd_ne _ _ h2, upd_ne _ _ h1]; exact hq
    · by_cases eq : q = o'
      · subst eq
        rw [upd_same] at e
        cases e
        have hol : old.length = j - i := by rw [hold]; simp; omega
        refine ⟨C', elem, fz, by rw [hblk]; exact heap_set_same _ _ hg, by rw [hblk, hs']; simp [hol]; omega, ?_, by rw [hblk]; simp only [List.length_append, hol]; refine ⟨fun k h1 h2 => hf.1 k (by omega) (by omega), hf.2.move hlt _⟩⟩
        rw [hblk, hp]
        have e2 : ((putL C.toList ((ε o).off + j) L).drop ((ε o).off + i)).take (old ++ new).length = ((((C.toList.drop (ε o).off).take cs.length).drop i).take (j - i)) ++ L := by
          rw [List.length_append, hol, hlen]
          exact renew_list hij hj (by simp; omega)
        rw [e2]
        have q : Rs ε m old ((((C.toList.drop (ε o).off).take cs.length).drop i).take (j - i)) := by rw [hold]; exact (hR.drop i).take (j - i)
        exact Rs.append (Rs.mono st _ _ q) (Rs.mono st _ _ hr)
      · have hl' := hother q eq (by rw [e]; trivial)
        exact (hcarry q eq hl'.1).1 cs' es' e
    · by_cases eq : q = o'
      · subst eq; rw [upd_same] at e; cases e
      · have hl' := hother q eq (by rw [e]; trivial)
        exact (hcarry q eq hl'.1).2.1 es' clk e
    · by_cases eq : q = o'
      · subst eq; rw [upd_same] at e; cases e
      · have hl' := hother q eq (by rw [e]; trivial)
        exact (hcarry q eq hl'.1).2.2 st' pd fr ps a b e
    · by_cases eq : q = o'
      · subst eq
        have eq' : q' ≠ q := fun e => hqq e.symm
        have hl' := hother q' eq' hlq'
        rw [hblk, upd_ne _ _ eq']
        exact h.apart o q' (Ne.symm hl'.1) hl hl'.2
      · have hl1 := hother q eq hlq
        rw [upd_ne _ _ eq]
        by_cases eq' : q' = o'
        · subst eq'
          rw [hblk]; exact h.apart q o hl1.1 hl1.2 hl
        · rw [upd_ne _ _ eq']
          exact h.apart q q' hqq hl1.2 (hother q' eq' hlq').2
theorem Adv.more (h : HRel P ε m w) {o' : Path} (ho' : ¬ m.has o') {cs : List AV} {size es need : Nat} {L : List Value} {e : TypeId} {Z : Value} (cap : Nat) (hr : Rs ε m cs L) (hz : Z.cells.size = size) (hst : strd es = size) (hel : ElOk es e 0) :
    Adv P ε m w (upd ε o' ⟨w.heap.size, 0, cap - need⟩) (upd m o' (.cells cs es)) (w.drew.alloc (.cells (L ++ (Builtin.zeroCells Z.cells (cap - need)).toList).toArray e)) :=
  (Adv.drew h (w.drawn + 1)).trans (Adv.newCells (w := w.drew) (h.heap rfl) ho' cs es (cap - need) L _ e hr (by rw [Array.length_toList, size_zeroCells, hz, hst]; exact Nat.le_refl _) hel)
theorem Adv.kill (h : HRel P ε m w) {o : Path} (ho : live (m o)) (hlo : ¬ isLoop (m o)) : Adv P ε m w ε (upd m o .dead) w :=
  Adv.set h ho .dead (by simp) (fun hq => (hlo hq).elim) w.heap rfl (fun _ _ => rfl) (by
    rintro m' w' rfl rfl _
    exact ⟨fun _ _ e => (by cases e), fun _ _ e => (by cases e), fun _ _ _ _ _ _ e => (by cases e)⟩)
theorem grownCap_sub {w : World} {n c : Nat} {e : TypeId} : n + (grownCap w n c e - n) = grownCap w n c e := by have := grownCap_ge w n c e; omega
theorem appended_w (es need : Nat) (cs : List AV) (h : H) : (∀ k, Bad (appended es need cs h k)) ∨ ∃ o h', ¬ h.mem.has o ∧ h'.mem = upd h.mem o (.cells cs es) ∧ ∀ k, appended es need cs h k = k (.slc o 0 need (.opn need)) h' := by
  have e0 : ∀ k, appended es need cs h k = newObj (.cells cs es) h fun o h => forceN need fun n => k (.slc o 0 n (.opn n)) h := fun _ => rfl
  simp only [e0, forceN_eq]
  rcases newObj_w (.cells cs es) h with hb | ⟨o, h', h1, h2, h3⟩
  · exact .inl fun _ => hb _
  · exact .inr ⟨o, h', h1, h2, fun k => h3 _⟩
theorem inPlace_w (size : Nat) (o : Path) (i n l : Nat) (c : Cap) (new cs : List AV) (es : Nat) (h : H) : (∀ k, Bad (inPlace size o i n l c new cs es h k)) ∨ (scals new = true ∧ (new = [] ∨ i + n * size + new.length ≤ cs.length) ∧
    ∀ k, inPlace size o i n l c new cs es h k = k (.slc o i (n + l) c) (setObj o (.cells (if new = [] then cs else putL cs (i + n * size) new) es) h)) := by
  have e0 : ∀ k, inPlace size o i n l c new cs es h k = must 12 (scals new) (lput new cs (i + n * size) fun cs => forceN (n + l) fun q => k (.slc o i q c) (setObj o (.cells cs es) h)) := fun _ => rfl
  simp only [e0, forceN_eq]
  rcases must_w 12 (scals new) with hb | ⟨h1, e1⟩
  · exact .inl fun _ => hb _
  simp only [e1]
  rcases lput_w new cs (i + n * size) with hb | ⟨h2, e2⟩
  · exact .inl fun _ => hb _
  exact .inr ⟨h1, h2, fun k => e2 _⟩
theorem grow_ok {es : Nat} {ts : Array TypeId} {e ty : TypeId} {i : TypeInfo} {Z : Value} {size n cap l : Nat} {base : Option Addr} {X : Value} {L O : List Value} {old new : List AV} {m1 : Mem} {o' : Path} (A : AppT P ts e i Z size) (hst : strd es = size) (hel : ElOk es e 0) (hk : Adv P ε m w ε m1 w)
    (ho' : ¬ m1.has o') (hl : (Builtin.lenOf X).run P w = .ok l w) (hf : (Builtin.firstCells size l X).run P w.drew = .ok L.toArray w.drew) (ho : (Builtin.firstCells size n (.slice base n cap)).run P w.drew = .ok O.toArray w.drew) (hn : cap < n + l)
    (hb : (n + l) * (i.bytes + 1) ≤ 1073741824) (ro : Rs ε m old O) (rl : Rs ε m new L) :
    ∃ ε' V w', Adv P ε m w ε' (upd m1 o' (.cells (old ++ new) es)) w' ∧ R ε' (upd m1 o' (.cells (old ++ new) es)) (.slc o' 0 (n + l) (.opn (n + l))) V ∧ (Builtin.append_ ts ty #[.slice base n cap, X]).run P w = .ok V w' := by
  have hrun := run_append_more (ty := ty) A hl hf ho hn hb
  have adv := hk.trans (Adv.more (e := e) (need := n + l) hk.rel ho' (grownCap w (n + l) cap e) (Rs.mono hk.stays _ _ (ro.append rl)) A.zsz hst hel)
  rw [List.append_assoc] at adv
  refine ⟨_, _, _, adv, ⟨has_new _ _ _ _, ?_⟩, hrun⟩
  rw [addr_new]
  simp only [Env.cap, upd_same]
  rw [grownCap_sub]
theorem ble_dec (p q : Nat) : Nat.ble p q = decide (p ≤ q) := by
  cases h : Nat.ble p q with
  | true => simp [Nat.le_of_ble_eq_true h]
  | false => have : ¬ p ≤ q := fun hh => by rw [Nat.ble_eq_true_of_le hh] at h; cases h
             simp [this]
theorem renew_ok {es : Nat} {ts : Array TypeId} {e ty : TypeId} {i : TypeInfo} {Z : Value} {size n l d i' : Nat} {B : Addr} {X : Value} {cs new : List AV} {O : List Value} {o o' : Path} (A : AppT P ts e i Z size) (hst : strd es = size) (hel : ElOk es e 0) (hes : es < 4294967296) (hh : HRel P ε m w) (hcs : m o = .cells cs es)
    (ho' : ¬ Mem.has (upd m o .dead) o') (hB : 0 < d + (ε o).sp → B = ε.addr o i') (hd : i' + d * size = cs.length) (hnd : n ≤ d) (hs : scals new = true) (hnew : new.length = l * size) (hl : (Builtin.lenOf X).run P w = .ok l w)
    (hx : ∀ w, HRel P ε m w → ∃ L : List Value, Rs ε m new L ∧ (Builtin.firstCells size l X).run P w = .ok L.toArray w) (ro : Rs ε m ((cs.drop i').take (n * size)) O) (ho : (Builtin.firstCells size n (.slice (some B) n (d + (ε o).sp))).run P w.drew = .ok O.toArray w.drew)
    (hn : d < n + l) (hb : (n + l) * (i.bytes + 1) ≤ 1073741824) :
    ∃ ε' V w', Adv P ε m w ε' (upd (upd m o .dead) o' (.cells ((cs.drop i').take (n * size) ++ new) es)) w' ∧ R ε' (upd (upd m o .dead) o' (.cells ((cs.drop i').take (n * size) ++ new) es)) (.slc o' 0 (n + l) (.opn (n + l))) V ∧
      (Builtin.append_ ts ty #[.slice (some B) n (d + (ε o).sp), X]).run P w = .ok V w' := by
  by_cases hc : n + l ≤ d + (ε o).sp
  · obtain ⟨L, rl, h1⟩ := hx w hh
    have hB' := hB (by omega)
    have hnd' : n * size ≤ d * size := Nat.mul_le_mul_right _ hnd
    have hsum : (n + l + (d + (ε o).sp - (n + l))) * size = (d + (ε o).sp) * size := by congr 1; omega
    simp only [Nat.add_mul] at hsum
    obtain ⟨hrun, adv⟩ := Adv.renew (i := i') (j := i' + n * size) (sp := d + (ε o).sp - (n + l)) (old := (cs.drop i').take (n * size)) hh hcs ho' rl hs (by rw [Nat.add_sub_cancel_left]) (Nat.le_add_right _ _) (by omega) (by rw [hnew, hst]; omega) hes
    refine ⟨_, _, _, adv, ⟨has_new _ _ _ _, ?_⟩, run_append_fit A hl h1 hc (fun ad e => ?_) fun e => by cases e⟩
    · rw [hB']
      have : Env.addr (upd ε o' ⟨(ε o).blk, (ε o).off + i', d + (ε o).sp - (n + l)⟩) o' 0 = ε.addr o i' := by simp [Env.addr, upd_same]
      rw [this]
      simp only [Env.cap, upd_same]
      congr 1; omega
    · cases e
      rw [hB', addr_add]; exact hrun
  · obtain ⟨L, rl, h1⟩ := hx w.drew (hh.heap rfl)
    have hl' : live (m o) := by rw [hcs]; trivial
    exact grow_ok A hst hel (.kill hh hl' (by rw [hcs]; exact fun h => h)) ho' hl h1 ho (by omega) hb ro rl
theorem good_append {es0 : Nat} {c : Go.Call} {e : TypeId} {i : TypeInfo} {Z : Value} {size : Nat} (hst : strd es0 = size) (hel : ElOk es0 e 0) (hes0 : es0 < 4294967296) (hx : opd N x = some a) (hy : opd N y = some b) (hc : c.callee = .builtin .append) (ha : c.args.toList = [x, y]) (A : AppT P c.argTypes e i Z size) : Good P N (.append size i.bytes es0 a b) (.call c) := by
  rintro oper ho call fr h
  have ha' : c.args = #[x, y] := by apply Array.ext'; simpa using ha
  have hex : ∀ (ρ : Operand → Value) (w : World) (V : Value) (w' : World), (Builtin.append_ c.argTypes oper.type #[ρ x, ρ y]).run P w = .ok V w' → Run P oper ρ w V w' := fun ρ w V w' hr => by
    left; simp [execOp, ho, resolve, hc, ha', invoke, builtin, hr]
  show Gives (fun k => srcCells size (b.ev fr) h fun m new => (a.ev fr).onSlcE (Nat.casesOn (motive := fun _ => Res) m (k .nils h) (fun _ => must 12 (Nat.ble (m * (i.bytes + 1)) 1073741824) (appended es0 m new h k)))
    (fun o i' n c => cellsOf o h fun cs es => must 12 (Nat.ble ((n + m) * (i.bytes + 1)) 1073741824) (ldropC i' cs fun cs' => ltake (n * size) cs' fun old =>
      Cap.casesOn (motive := fun _ => Res) c
        (fun d => ifC (Nat.ble (n + m) d) (inPlace size o i' n m c new cs es h k) (appended es0 (n + m) (lapp old new) h k))
        (fun d => ifC (Nat.ble (n + m) d) (inPlace size o i' n m c new cs es h k)
          (must 12 (scals new) (must 12 (Nat.beq es es0) (must 12 (Nat.beq (i' + d * size) (llen cs)) (must 12 (Nat.ble n d) (appended es0 (n + m) (lapp old new) (setObj o .dead h) k))))))))
    fun o i' => cellsOf o h fun cs es => must 12 (Nat.blt 0 m) (must 12 (Nat.ble (m * (i.bytes + 1)) 1073741824) (must 12 (scals new) (must 12 (Nat.beq es es0) (must 12 (Nat.beq i' (llen cs)) (appended es0 m new (setObj o .dead h) k)))))) _
  rcases srcCells_w (P := P) size (b.ev fr) h with hb | ⟨l, new, e1, e2, e3⟩
  · exact .inl fun _ => hb _
  simp only [e1]
  rcases onSlcE_w (a.ev fr) with hb | ea | ⟨o, i', n, cp, ea⟩ | ⟨o, i', ea⟩
  · exact .inl fun _ => hb _ _ _
  · simp only [ea]
    show Gives (fun k => Nat.casesOn (motive := fun _ => Res) l (k .nils h) (fun _ => must 12 (Nat.ble (l * (i.bytes + 1)) 1073741824) (appended es0 l new h k))) _
    cases l with
    | zero =>
      refine Gives.now fun ε T D w hT hF hh => ⟨ε, .slice none 0 0, w, .refl hh, rfl, hex _ _ _ _ ?_⟩
      have h1 := opd_ok hx hT hF D
      rw [ea] at h1; simp only [R] at h1
      obtain ⟨h4, h5⟩ := e3 ε _ (opd_ok hy hT hF D)
      obtain ⟨L, _, h6⟩ := h5 w hh
      rw [h1]
      exact run_append_fit A (h4 w) h6 (Nat.le_refl _) (fun a e => by cases e) fun _ => rfl
    | succ l =>
      show Gives (fun k => must 12 (Nat.ble ((l + 1) * (i.bytes + 1)) 1073741824) (appended es0 (l + 1) new h k)) _
      rcases must_w 12 (Nat.ble ((l + 1) * (i.bytes + 1)) 1073741824) with hb | ⟨h4, e4⟩
      · exact .inl fun _ => hb _
      simp only [e4]
      rcases appended_w es0 (l + 1) new h with hb | ⟨o', h', hn, hm, e5⟩
      · exact .inl fun _ => hb _
      simp only [e5]
      refine .inr ⟨_, h', fun _ => rfl, fun ε T D w hT hF hh => ?_⟩
      have h1 := opd_ok hx hT hF D
      rw [ea] at h1; simp only [R] at h1
      obtain ⟨h6, h7⟩ := e3 ε _ (opd_ok hy hT hF D)
      obtain ⟨L, rl, h8⟩ := h7 w.drew (hh.heap rfl)
      obtain ⟨ε', V, w', q1, q2, q3⟩ := grow_ok (ty := oper.type) (n := 0) (cap := 0) (base := none) (O := []) (old := []) A hst hel (.refl hh) hn (h6 w) h8 (by simp [Builtin.firstCells]) (by omega) (by rw [Nat.zero_add]; exact ble_le h4) rfl rl
      rw [Nat.zero_add, List.nil_append] at q2
      rw [List.nil_append] at q1
      rw [hm]
      exact ⟨ε', V, w', q1, q2, hex _ _ _ _ (by rw [h1]; exact q3)⟩
  · simp only [ea]
    show Gives (fun k => cellsOf o h fun cs es => must 12 (Nat.ble ((n + l) * (i.bytes + 1)) 1073741824) (ldropC i' cs fun cs' => ltake (n * size) cs' fun old =>
      Cap.casesOn (motive := fun _ => Res) cp
        (fun d => ifC (Nat.ble (n + l) d) (inPlace size o i' n l cp new cs es h k) (appended es0 (n + l) (lapp old new) h k))
        (fun d => ifC (Nat.ble (n + l) d) (inPlace size o i' n l cp new cs es h k)
          (must 12 (scals new) (must 12 (Nat.beq es es0) (must 12 (Nat.beq (i' + d * size) (llen cs)) (must 12 (Nat.ble n d) (appended es0 (n + l) (lapp old new) (setObj o .dead h) k)))))))) _
    rcases cellsOf_w o h with hb | ⟨cs, es, hcs, e4⟩
    · exact .inl fun _ => hb _
    simp only [e4]
    rcases must_w 12 (Nat.ble ((n + l) * (i.bytes + 1)) 1073741824) with hb | ⟨h5, e5⟩
    · exact .inl fun _ => hb _
    simp only [e5]
    rcases ldropC_w i' cs with hb | ⟨h6, e6⟩
    · exact .inl fun _ => hb _
    simp only [e6]
    rcases ltake_w (n * size) (cs.drop i') with hb | ⟨h7, e7⟩
    · exact .inl fun _ => hb _
    simp only [e7]
    have h7' : i' + n * size ≤ cs.length := by simp at h7; omega
    have old_ok : ∀ (ε : Env) (w : World), HRel P ε h.mem w → ∃ O : List Value, Rs ε h.mem ((cs.drop i').take (n * size)) O ∧ ∀ cap, (Builtin.firstCells size n (.slice (some (ε.addr o i')) n cap)).run P w = .ok O.toArray w := fun ε w hh => by
      obtain ⟨O, hl, rl, hc⟩ := (hh.cells o cs es hcs).vals i' (n * size) h7'
      have hld := run_loadCells_list (P := P) w (ε.addr o i') O hc
      rw [hl] at hld
      exact ⟨O, rl, fun cap => by simp [Builtin.firstCells, hld]⟩
    have fit : ∀ d, n + l ≤ d → (∀ ε : Env, d ≤ ε.cap o cp) → Gives (fun k => inPlace size o i' n l cp new cs es h k) (Okay P N oper fr h) := fun d hd hcap => by
      rcases inPlace_w size o i' n l cp new cs es h with hb | ⟨h8, h9, e8⟩
      · exact .inl hb
      refine .inr ⟨_, _, e8, fun ε T D w hT hF hh => ?_⟩
      have h1 := opd_ok hx hT hF D
      rw [ea] at h1; simp only [R] at h1
      obtain ⟨h10, h11⟩ := e3 ε _ (opd_ok hy hT hF D)
      obtain ⟨L, rl, h12⟩ := h11 w hh
      have hadd : (ε.addr o i').add (n * size) = ε.addr o (i' + n * size) := addr_add ..
      rw [mem_setObj]
      by_cases hne : new = []
      · rw [if_pos hne]
        subst hne
        have hL : L = [] := by simpa [Rs] using rl
        subst hL
        have hm : upd h.mem o (.cells cs es) = h.mem := by
          funext q; by_cases e : q = o
          · subst e; rw [upd_same, hcs]
          · exact upd_ne _ _ e
        rw [hm]
        refine ⟨ε, _, w, .refl hh, ⟨h1.1, rfl⟩, hex _ _ _ _ ?_⟩
        rw [h1.2]
        exact run_append_fit A (h10 w) h12 (Nat.le_trans hd (hcap ε)) (fun ad _ => rfl) fun e => by cases e
      · rw [if_neg hne]
        obtain ⟨hrun, adv⟩ := Adv.store hh hcs (i' + n * size) rl h8 (h9.resolve_left hne)
        refine ⟨ε, _, _, adv, ⟨(adv.stays o h1.1).1, rfl⟩, hex _ _ _ _ ?_⟩
        rw [h1.2]
        exact run_append_fit A (h10 w) h12 (Nat.le_trans hd (hcap ε)) (fun ad e => by cases e; rw [hadd]; exact hrun) fun e => by cases e
    cases cp with
    | exact d =>
      show Gives (fun k => ifC (Nat.ble (n + l) d) (inPlace size o i' n l (.exact d) new cs es h k) (appended es0 (n + l) (lapp ((cs.drop i').take (n * size)) new) h k)) _
      by_cases hd : n + l ≤ d
      · simp only [ble_dec, decide_eq_true hd, ifC_true]
        exact fit d hd fun _ => Nat.le_refl _
      · simp only [ble_dec, decide_eq_false hd, ifC_false, lapp_eq]
        rcases appended_w es0 (n + l) ((cs.drop i').take (n * size) ++ new) h with hb | ⟨o', h', hn, hm, e8⟩
        · exact .inl hb
        refine .inr ⟨_, h', e8, fun ε T D w hT hF hh => ?_⟩
        have h1 := opd_ok hx hT hF D
        rw [ea] at h1; simp only [R] at h1
        obtain ⟨h10, h11⟩ := e3 ε _ (opd_ok hy hT hF D)
        obtain ⟨L, rl, h12⟩ := h11 w.drew (hh.heap rfl)
        obtain ⟨O, ro, h13⟩ := old_ok ε w.drew (hh.heap rfl)
        obtain ⟨ε', V, w', q1, q2, q3⟩ := grow_ok (ty := oper.type) A hst hel (.refl hh) hn (h10 w) h12 (h13 d) (by omega) (ble_le h5) ro rl
        rw [hm]
        exact ⟨ε', V, w', q1, q2, hex _ _ _ _ (by rw [h1.2]; exact q3)⟩
    | opn d =>
      show Gives (fun k => ifC (Nat.ble (n + l) d) (inPlace size o i' n l (.opn d) new cs es h k)
          (must 12 (scals new) (must 12 (Nat.beq es es0) (must 12 (Nat.beq (i' + d * size) (llen cs)) (must 12 (Nat.ble n d) (appended es0 (n + l) (lapp ((cs.drop i').take (n * size)) new) (setObj o .dead h) k)))))) _
      by_cases hd : n + l ≤ d
      · simp only [ble_dec, decide_eq_true hd, ifC_true]
        exact fit d hd fun ε => by simp [Env.cap]
      · have hq : Nat.ble (n + l) d = false := by rw [ble_dec]; exact decide_eq_false hd
        simp only [hq, ifC_false, lapp_eq]
        rcases must_w 12 (scals new) with hb | ⟨h8, e8⟩
        · exact .inl fun _ => hb _
        simp only [e8]
        rcases must_w 12 (Nat.beq es es0) with hb | ⟨h9, e9⟩
        · exact .inl fun _ => hb _
        simp only [e9]
        rcases must_w 12 (Nat.beq (i' + d * size) (llen cs)) with hb | ⟨h10, e10⟩
        · exact .inl fun _ => hb _
        simp only [e10]
        rcases must_w 12 (Nat.ble n d) with hb | ⟨h11, e11⟩
        · exact .inl fun _ => hb _
        simp only [e11]
        have hes := Nat.eq_of_beq_eq_true h9
        subst hes
        have hend := Nat.eq_of_beq_eq_true h10
        rw [llen_eq] at hend
        rcases appended_w es (n + l) ((cs.drop i').take (n * size) ++ new) (setObj o .dead h) with hb | ⟨o', h', hn, hm, e12⟩
        · exact .inl hb
        refine .inr ⟨_, h', e12, fun ε T D w hT hF hh => ?_⟩
        have h1 := opd_ok hx hT hF D
        rw [ea] at h1; simp only [R] at h1
        obtain ⟨h13, h14⟩ := e3 ε _ (opd_ok hy hT hF D)
        obtain ⟨O, ro, h15⟩ := old_ok ε w.drew (hh.heap rfl)
        rw [mem_setObj] at hn hm
        obtain ⟨ε', V, w', q1, q2, q3⟩ := renew_ok (ty := oper.type) (B := ε.addr o i') A hst hel hes0 hh hcs hn (fun _ => rfl) hend (ble_le h11) h8 e2 (h13 w) h14 ro (h15 _) (by omega) (ble_le h5)
        rw [hm]
        exact ⟨ε', V, w', q1, q2, hex _ _ _ _ (by rw [h1.2]; exact q3)⟩
  · simp only [ea]
    show Gives (fun k => cellsOf o h fun cs es => must 12 (Nat.blt 0 l) (must 12 (Nat.ble (l * (i.bytes + 1)) 1073741824) (must 12 (scals new) (must 12 (Nat.beq es es0) (must 12 (Nat.beq i' (llen cs)) (appended es0 l new (setObj o .dead h) k)))))) _
    rcases cellsOf_w o h with hb | ⟨cs, es, hcs, e4⟩
    · exact .inl fun _ => hb _
    simp only [e4]
    rcases must_w 12 (Nat.blt 0 l) with hb | ⟨h5, e5⟩
    · exact .inl fun _ => hb _
    simp only [e5]
    rcases must_w 12 (Nat.ble (l * (i.bytes + 1)) 1073741824) with hb | ⟨h6, e6⟩
    · exact .inl fun _ => hb _
    simp only [e6]
    rcases must_w 12 (scals new) with hb | ⟨h7, e7⟩
    · exact .inl fun _ => hb _
    simp only [e7]
    rcases must_w 12 (Nat.beq es es0) with hb | ⟨h8, e8⟩
    · exact .inl fun _ => hb _
    simp only [e8]
    rcases must_w 12 (Nat.beq i' (llen cs)) with hb | ⟨h9, e9⟩
    · exact .inl fun _ => hb _
    simp only [e9]
    have hes := Nat.eq_of_beq_eq_true h8
    subst hes
    have hend := Nat.eq_of_beq_eq_true h9
    rw [llen_eq] at hend
    rw [blt_dec] at h5
    have h5' := of_decide_eq_true h5
    rcases appended_w es l new (setObj o .dead h) with hb | ⟨o', h', hn, hm, e12⟩
    · exact .inl hb
    refine .inr ⟨_, h', e12, fun ε T D w hT hF hh => ?_⟩
    have h1 := opd_ok hx hT hF D
    rw [ea] at h1; simp only [R] at h1
    obtain ⟨h10, B, h11, h12⟩ := h1
    obtain ⟨h13, h14⟩ := e3 ε _ (opd_ok hy hT hF D)
    rw [mem_setObj] at hn hm
    obtain ⟨ε', V, w', q1, q2, q3⟩ := renew_ok (ty := oper.type) (n := 0) (d := 0) (i' := i') (O := []) (B := B) A hst hel hes0 hh hcs hn (fun h => h12 (by omega)) (by omega) (Nat.le_refl _) h7 e2 (h13 w) h14 (by simp [Rs]) (by simp [Builtin.firstCells, loadCells, loadCellsFrom]) (by omega) (by rw [Nat.zero_add]; exact ble_le h6)
    rw [Nat.zero_add] at q2
    simp only [Nat.zero_mul, List.take_zero, List.nil_append] at q1 q2
    rw [hm]
    exact ⟨ε', V, w', q1, q2, hex _ _ _ _ (by rw [h11]; rw [Nat.zero_add] at q3; exact q3)⟩
end Go.Ai
set_option autoImplicit false
namespace Go.Ai
set_option linter.unusedSectionVars false
variable [Nu]
open Go
variable {P : Program} {N : Nat} {ε : Env} {m : Mem} {w : World} {x y : Operand} {a b : Opd}

theorem wrap_small {n : Nat} (h : n ≤ 1099511627776) : IntKind.i64.wrap (n : Int) = n := IntWalk.i64_in _ (by omega)
theorem good_mkSlice {t e : TypeId} {i : TypeInfo} {z : List AV} {s : Nat} {lo cp : Operand} {l c : Opd} (ht : P.underlying t = some (.slice e)) (hs : sizeT P e = some s) (hi : P.info? e = some i) (hz : zeroCellsT P e = some z) (hzl : z.length = s) (hl : opd N lo = some l) (hc : opd N cp = some c) : Good P N (.mkSlice s i.bytes z l c) (.makeSlice t lo cp) := by
  rintro oper ho call fr h
  show Gives (fun k => evNat l fr fun l => evNat c fr fun c => must 12 (Nat.ble l c) (must 12 (Nat.ble (i.bytes * c) 1099511627776) (must 12 (Nat.ble c 1099511627776) (newObj (.cells (lrep z c) 0) h fun o h => forceN l fun l => forceN c fun c => k (.slc o 0 l (.exact c)) h)))) _
  simp only [forceN_eq]
  rcases evNat_w l fr with hb | ⟨kd, n, e1, e2⟩
  · exact .inl fun _ => hb _
  simp only [e2]
  rcases evNat_w c fr with hb | ⟨kd', q, e3, e4⟩
  · exact .inl fun _ => hb _
  simp only [e4]
  rcases must_w 12 (Nat.ble n q) with hb | ⟨h5, e5⟩
  · exact .inl fun _ => hb _
  simp only [e5]
  rcases must_w 12 (Nat.ble (i.bytes * q) 1099511627776) with hb | ⟨h6, e6⟩
  · exact .inl fun _ => hb _
  simp only [e6]
  rcases must_w 12 (Nat.ble q 1099511627776) with hb | ⟨h7, e7⟩
  · exact .inl fun _ => hb _
  simp only [e7]
  rcases newObj_w (.cells (lrep z q) 0) h with hb | ⟨o, h', hn, hm, e8⟩
  · exact .inl fun _ => hb _
  simp only [e8]
  refine .inr ⟨_, h', fun _ => rfl, fun ε T D w hT hF hh => ?_⟩
  have h1 := opd_ok hl hT hF D
  have h2 := opd_ok hc hT hF D
  rw [e1] at h1; rw [e3] at h2
  simp only [R] at h1 h2
  obtain ⟨Z, z1, z2⟩ := zeroCells_ok (ε := ε) (m := h.mem) (w := w) hz
  have hZs : Z.cells.size = s := by have := z2.length; rw [hzl] at this; simpa using this.symm
  have g5 := ble_le h5
  have g6 := ble_le h6
  have g7 := ble_le h7
  have hrow : ((Array.range (q * s)).map (Z.cells[· % Z.cells.size]!)).toList = (List.replicate q Z.cells.toList).flatten := by rw [← hZs]; exact zeros_eq _ _
  have adv := Adv.newCells hh hn (lrep z q) 0 0 _ [] e (z2.rep q) (by simp)
  rw [List.append_nil, ← hrow, Array.toArray_toList] at adv
  rw [hm]
  refine ⟨_, _, _, adv, ⟨has_new _ _ _ _, rfl⟩, .inl ?_⟩
  rw [addr_new]
  have g8 : ¬ (281474976710656 < (i.bytes : Int) * (q : Int)) := by
    rw [← Int.natCast_mul]; omega
  have hsz := (sizeT_size (w := w) hs).1
  by_cases hq : q * s = 0
  · have hq0 : q = 0 := by rcases Nat.mul_eq_zero.1 hq with h | h; exact h; exact absurd h (sizeT_size (w := w) hs).2
    subst hq0
    have hn0 : n = 0 := by omega
    subst hn0
    have e9 : IntKind.i64.wrap 0 = 0 := by decide
    have e0 : ∀ f : Nat → Value, (Array.range 0).map f = #[] := fun f => by simp
    simp [execOp, ho, Instr.makeSlice, run_underlying ht, h1, h2, asInt, asIntOf, typeInfo, hi, hsz, newRow, Env.cap, e9, e0]
  · have e9 : IntKind.i64.wrap (q : Int) = q := wrap_small g7
    have e10 : IntKind.i64.wrap (n : Int) = n := wrap_small (Nat.le_trans g5 g7)
    simp [execOp, ho, Instr.makeSlice, run_underlying ht, h1, h2, asInt, asIntOf, typeInfo, hi, hsz, e9, e10, g8, hq, z1, newRow, Env.cap, (show ¬ ((q : Int) < 0) by omega), (show ¬ ((n : Int) < 0) by omega), (show ¬ (q < n) by omega)]
theorem srcCells_take (size : Nat) (v : AV) (h : H) : (∀ k, Bad (srcCells size v h k)) ∨ ∃ (n : Nat) (cs : List AV), (∀ k, srcCells size v h k = k n cs) ∧ cs.length = n * size ∧
    ∀ (ε : Env) (V : Value), R ε h.mem v V → (∀ w, (Builtin.lenOf V).run P w = .ok n w) ∧ ∀ w, HRel P ε h.mem w → ∀ q, q ≤ n → ∃ L : List Value, Rs ε h.mem (cs.take (q * size)) L ∧ (Builtin.firstCells size q V).run P w = .ok L.toArray w := by
  by_cases hv : ∃ s, v = .str s
  · obtain ⟨s, rfl⟩ := hv
    have e0 : ∀ k, srcCells size (.str s) h k = must 12 (Nat.beq size 1) (k (llen s) (ofBytes s)) := fun _ => rfl
    simp only [e0]
    rcases must_w 12 (Nat.beq size 1) with hb | ⟨h1, h2⟩
    · exact .inl fun _ => hb _
    simp only [h2]
    have hn := Nat.eq_of_beq_eq_true h1
    subst hn
    refine .inr ⟨_, _, fun _ => rfl, by rw [ofBytes_length, llen_eq, Nat.mul_one], fun ε V r => ?_⟩
    simp only [R] at r; subst r
    have hz : (bytesOf s).size = s.length := bytesOf_size s
    refine ⟨fun w => by simp [Builtin.lenOf, hz, llen_eq], fun w hh q hq => ⟨_, (ofBytes_R s).take _, ?_⟩⟩
    have hx : (bytesOf s).extract 0 q = bytesOf (s.take q) := by rw [extract_bytes]; simp
    simp only [Builtin.firstCells, hx]
    show Result.ok _ _ = _
    congr 1
    apply Array.ext'; simp [bytesOf]
  · have e0 : ∀ k, srcCells size v h k = v.lenC fun n => sliceCells size v n h fun cs => k n cs := fun k => by cases v <;> first | rfl | exact absurd ⟨_, rfl⟩ hv
    simp only [e0]
    rcases lenC_w v with hb | ⟨n, e1, e2⟩
    · exact .inl fun _ => hb _
    simp only [e1]
    rcases sliceCells_w (P := P) size v n h with hb | ⟨cs, e3, e4, e5⟩
    · exact .inl fun _ => hb _
    refine .inr ⟨n, cs, fun k => e3 _, e4, fun ε V r => ⟨fun w => ?_, fun w hh q hq => ?_⟩⟩
    · obtain ⟨A, c, rfl⟩ := e2 ε _ _ r
      simp [Builtin.lenOf]
    · obtain ⟨L, rl, A, l, c, rfl, h5, h6, _, h7⟩ := e5 ε w V r hh
      refine ⟨_, rl.take (q * size), ?_⟩
      cases A with
      | none =>
        have hL : L = [] := by
          simp [Builtin.firstCells] at h6
          exact h6
        simp [Builtin.firstCells, hL]
      | some ad =>
        have h8 := h7 ad rfl
        have hle : q * size ≤ n * size := Nat.mul_le_mul_right _ hq
        have hln := rl.length
        have hld := run_loadCells_list (P := P) w ad (L.take (q * size)) fun j u hj => by
          rw [List.getElem?_take] at hj
          split at hj
          · exact h8 j u hj
          · cases hj
        rw [List.length_take, Nat.min_eq_left (by omega)] at hld
        simpa [Builtin.firstCells] using hld
theorem take_zero {cs : List AV} {L : List Value} (size : Nat) (r : Rs ε m (cs.take (0 * size)) L) : L = [] := by
  rw [Nat.zero_mul, List.take_zero] at r; simpa [Rs] using r
theorem good_copy {c : Go.Call} {t e : TypeId} {size : Nat} (hx : opd N x = some a) (hy : opd N y = some b) (hc : c.callee = .builtin .copy) (ha : c.args.toList = [x, y]) (h0 : c.argTypes.toList.head? = some t) (ht : P.underlying t = some (.slice e)) (hs : sizeT P e = some size) : Good P N (.copy size a b) (.call c) := by
  rintro oper ho call fr h
  have ha' : c.args = #[x, y] := by apply Array.ext'; simpa using ha
  have ht0 : c.argTypes[0]? = some t := by cases hq : c.argTypes with | mk l => rw [hq] at h0; cases l <;> simp_all
  have hsz : ∀ w, (sizeOf e).run P w = .ok size w := fun w => (sizeT_size hs).1
  have hex : ∀ (ρ : Operand → Value) (w : World) (A : Option Addr) (n l cp : Nat) (L : List Value) (w' : World), ρ x = .slice A n cp → (Builtin.lenOf (ρ y)).run P w = .ok l w → (Builtin.firstCells size (Nat.min l n) (ρ y)).run P w = .ok L.toArray w → (∀ ad, A = some ad → (storeCells ad L).run P w = .ok () w') → (A = none → w' = w) → Run P oper ρ w (.int .i64 (Nat.min l n : Nat)) w' := fun ρ w A n l cp L w' h1 h2 h3 h4 h5 => by
    left
    cases A with
    | none => rw [h5 rfl]; simp [execOp, ho, resolve, hc, ha', invoke, builtin, Builtin.copy_, ht0, run_underlying ht, h1, h2, hsz, h3, goInt]
    | some ad => simp [execOp, ho, resolve, hc, ha', invoke, builtin, Builtin.copy_, ht0, run_underlying ht, h1, h2, hsz, h3, h4 ad rfl, goInt]
  show Gives (fun k => srcCells size (b.ev fr) h fun m new => (a.ev fr).onSlcZ (k (.int .i64 0) h) fun o i n _ => ltake (minN m n * size) new fun new => must 12 (scals new) (cellsOf o h fun cs es => lput new cs i fun cs => forceN (minN m n) fun q => k (.int .i64 (.ofNat q)) (setObj o (.cells cs es) h))) _
  rcases srcCells_take (P := P) size (b.ev fr) h with hb | ⟨l, new, e1, e2, e3⟩
  · exact .inl fun _ => hb _
  simp only [e1, forceN_eq, minN_eq]
  rcases onSlcZ_w (a.ev fr) with hb | hz | ⟨o, i, n, cp, ea⟩
  · exact .inl fun _ => hb _ _
  · have ez : ∀ z kk, (a.ev fr).onSlcZ z kk = z := fun z kk => by rcases hz with e | ⟨o, i, e⟩ <;> rw [e] <;> rfl
    simp only [ez]
    refine Gives.now fun ε T D w hT hF hh => ⟨ε, .int .i64 0, w, .refl hh, rfl, ?_⟩
    obtain ⟨h4, h5⟩ := e3 ε _ (opd_ok hy hT hF D)
    obtain ⟨L, rl, h6⟩ := h5 w hh 0 (Nat.zero_le _)
    have hL := take_zero size rl
    subst hL
    have h1 := opd_ok hx hT hF D
    have h7 : ∃ A cp, (Act.mk T D).eval x = .slice A 0 cp := by
      rcases hz with e | ⟨o, i, e⟩ <;> rw [e] at h1 <;> simp only [R] at h1
      · exact ⟨_, _, h1⟩
      · obtain ⟨_, A, h1, _⟩ := h1; exact ⟨_, _, h1⟩
    obtain ⟨A, cp, h7⟩ := h7
    have := hex _ w A 0 l cp [] w h7 (h4 w) (by simpa using h6) (fun ad _ => rfl) fun _ => rfl
    simpa using this
  simp only [ea]
  show Gives (fun k => ltake (min l n * size) new fun new => must 12 (scals new) (cellsOf o h fun cs es => lput new cs i fun cs => k (.int .i64 (.ofNat (min l n))) (setObj o (.cells cs es) h))) _
  rcases ltake_w (min l n * size) new with hb | ⟨h4, e4⟩
  · exact .inl fun _ => hb _
  simp only [e4]
  rcases must_w 12 (scals (new.take (min l n * size))) with hb | ⟨h5, e5⟩
  · exact .inl fun _ => hb _
  simp only [e5]
  rcases cellsOf_w o h with hb | ⟨cs, es, hcs, e6⟩
  · exact .inl fun _ => hb _
  simp only [e6]
  rcases lput_w (new.take (min l n * size)) cs i with hb | ⟨h7, e7⟩
  · exact .inl fun _ => hb _
  simp only [e7]
  refine .inr ⟨_, _, fun _ => rfl, fun ε T D w hT hF hh => ?_⟩
  have h1 := opd_ok hx hT hF D
  rw [ea] at h1; simp only [R] at h1
  obtain ⟨h8, h9⟩ := e3 ε _ (opd_ok hy hT hF D)
  obtain ⟨L, rl, h10⟩ := h9 w hh (min l n) (Nat.min_le_left _ _)
  rw [mem_setObj]
  by_cases hne : new.take (min l n * size) = []
  · rw [if_pos hne]
    rw [hne] at rl
    have hL : L = [] := by simpa [Rs] using rl
    subst hL
    have hm : upd h.mem o (.cells cs es) = h.mem := by
      funext q; by_cases e : q = o
      · subst e; rw [upd_same, hcs]
      · exact upd_ne _ _ e
    rw [hm]
    exact ⟨ε, _, w, .refl hh, rfl, hex _ w _ n l _ [] w h1.2 (h8 w) h10 (fun ad _ => rfl) fun _ => rfl⟩
  · rw [if_neg hne]
    obtain ⟨hrun, adv⟩ := Adv.store hh hcs i rl h5 (h7.resolve_left hne)
    exact ⟨ε, _, _, adv, rfl, hex _ w _ n l _ L _ h1.2 (h8 w) h10 (fun ad e => by cases e; exact hrun) fun e => by cases e⟩
theorem good_clear {c : Go.Call} {t e : TypeId} {z : List AV} (hx : opd N x = some a) (hc : c.callee = .builtin .clear) (ha : c.args.toList = [x]) (h0 : c.argTypes.toList.head? = some t) (ht : P.underlying t = some (.slice e)) (hz : zeroCellsT P e = some z) : Good P N (.clear z a) (.call c) := by
  rintro oper ho call fr h
  have ha' : c.args = #[x] := by apply Array.ext'; simpa using ha
  have ht0 : c.argTypes[0]? = some t := by cases hq : c.argTypes with | mk l => rw [hq] at h0; cases l <;> simp_all
  have hex : ∀ (ρ : Operand → Value) (w : World) (A : Option Addr) (n cp : Nat) (Z : Value) (L : List Value) (w' : World), ρ x = .slice A n cp → (zeroValue e).run P w = .ok Z w → (Builtin.zeroCells Z.cells n).toList = L → (∀ ad, A = some ad → n ≠ 0 → (storeCells ad L).run P w = .ok () w') → (A = none ∨ n = 0 → w' = w) → Run P oper ρ w (.tuple #[]) w' := fun ρ w A n cp Z L w' h1 h2 h3 h4 h5 => by
    left
    cases A with
    | none => rw [h5 (.inl rfl)]; simp [execOp, ho, resolve, hc, ha', invoke, builtin, Builtin.clear_, ht0, run_underlying ht, h1]
    | some ad =>
      cases n with
      | zero => rw [h5 (.inr rfl)]; simp [execOp, ho, resolve, hc, ha', invoke, builtin, Builtin.clear_, ht0, run_underlying ht, h1]
      | succ n => simp [execOp, ho, resolve, hc, ha', invoke, builtin, Builtin.clear_, ht0, run_underlying ht, h1, h2, h3, h4 ad rfl]
  show Gives (fun k => (a.ev fr).onSlcZ (k (.tup []) h) fun o i n _ => must 12 (scals (lrep z n)) (cellsOf o h fun cs es => lput (lrep z n) cs i fun cs => k (.tup []) (setObj o (.cells cs es) h))) _
  rcases onSlcZ_w (a.ev fr) with hb | hz' | ⟨o, i, n, cp, ea⟩
  · exact .inl fun _ => hb _ _
  · have ez : ∀ z kk, (a.ev fr).onSlcZ z kk = z := fun z kk => by rcases hz' with e | ⟨o, i, e⟩ <;> rw [e] <;> rfl
    simp only [ez]
    refine Gives.now fun ε T D w hT hF hh => ⟨ε, .tuple #[], w, .refl hh, ⟨[], rfl, rfl⟩, ?_⟩
    have h1 := opd_ok hx hT hF D
    have h7 : ∃ A cp, (Act.mk T D).eval x = .slice A 0 cp := by
      rcases hz' with e | ⟨o, i, e⟩ <;> rw [e] at h1 <;> simp only [R] at h1
      · exact ⟨_, _, h1⟩
      · obtain ⟨_, A, h1, _⟩ := h1; exact ⟨_, _, h1⟩
    obtain ⟨A, cp, h7⟩ := h7
    obtain ⟨Z, z1, z2⟩ := zeroCells_ok (ε := ε) (m := h.mem) (w := w) hz
    exact hex _ w A 0 cp Z _ w h7 z1 rfl (fun ad _ hn => absurd rfl hn) fun _ => rfl
  simp only [ea]
  show Gives (fun k => must 12 (scals (lrep z n)) (cellsOf o h fun cs es => lput (lrep z n) cs i fun cs => k (.tup []) (setObj o (.cells cs es) h))) _
  rcases must_w 12 (scals (lrep z n)) with hb | ⟨h5, e5⟩
  · exact .inl fun _ => hb _
  simp only [e5]
  rcases cellsOf_w o h with hb | ⟨cs, es, hcs, e6⟩
  · exact .inl fun _ => hb _
  simp only [e6]
  rcases lput_w (lrep z n) cs i with hb | ⟨h7, e7⟩
  · exact .inl fun _ => hb _
  simp only [e7]
  refine .inr ⟨_, _, fun _ => rfl, fun ε T D w hT hF hh => ?_⟩
  have h1 := opd_ok hx hT hF D
  rw [ea] at h1; simp only [R] at h1
  obtain ⟨Z, z1, z2⟩ := zeroCells_ok (ε := ε) (m := h.mem) (w := w) hz
  have hrow : (Builtin.zeroCells Z.cells n).toList = (List.replicate n Z.cells.toList).flatten := zeros_eq _ _
  have rl : Rs ε h.mem (lrep z n) (Builtin.zeroCells Z.cells n).toList := by rw [hrow]; exact z2.rep n
  rw [mem_setObj]
  by_cases hne : lrep z n = []
  · rw [if_pos hne]
    have hm : upd h.mem o (.cells cs es) = h.mem := by
      funext q; by_cases e : q = o
      · subst e; rw [upd_same, hcs]
      · exact upd_ne _ _ e
    rw [hm]
    have hL : (Builtin.zeroCells Z.cells n).toList = [] := by rw [hne] at rl; simpa [Rs] using rl
    exact ⟨ε, _, w, .refl hh, ⟨[], rfl, rfl⟩, hex _ w _ n _ Z _ w h1.2 z1 hL (fun ad _ _ => rfl) fun _ => rfl⟩
  · rw [if_neg hne]
    obtain ⟨hrun, adv⟩ := Adv.store hh hcs i rl h5 (h7.resolve_left hne)
    refine ⟨ε, _, _, adv, ⟨[], rfl, rfl⟩, hex _ w _ n _ Z _ _ h1.2 z1 rfl (fun ad e _ => by cases e; exact hrun) fun e => ?_⟩
    rcases e with e | e
    · cases e
    · subst e; exact absurd rfl hne
end Go.Ai
set_option autoImplicit false
namespace Go.Ai
set_option linter.unusedSectionVars false
variable [Nu]
open Go
variable {P : Program} {N : Nat} {ε : Env} {m : Mem} {w : World} {x y : Operand} {a b : Opd}

def KeyKind (str : Bool) (d : TypeDesc) : Prop := (str = true ∧ d = .string) ∨ (str = false ∧ ∃ k, d = .int k)
theorem isKey_w {str : Bool} {v : AV} (h : v.isKey str = true) : (str = true ∧ ∃ s, v = .str s) ∨ (str = false ∧ ∃ k n, v = .int k n) := by
  cases v <;> first | (cases h; done) | (exact .inl ⟨h, _, rfl⟩) | (refine .inr ⟨?_, _, _, rfl⟩; cases str <;> first | rfl | cases h)
theorem bytes_beq (s r : List Nat) : (bytesOf s == bytesOf r) = (s.map Nu.f == r.map Nu.f) := by
  show ((s.map Nu.f).toArray == (r.map Nu.f).toArray) = _
  simp
theorem keyC_w {str : Bool} {v u : AV} (hk : v.isKey str = true) : (∀ y n, Bad (v.keyC u y n)) ∨ ∃ q : Bool, (∀ y n, v.keyC u y n = ifC q y n) ∧
    ∀ (ε : Env) (m : Mem) (d : TypeDesc) (K K' : Value), KeyKind str d → R ε m v K → R ε m u K' → Instr.sameNow d K K' = some q ∧ (q = true → K' = K) ∧ Instr.sameBits 10000 K K = true := by
  rcases isKey_w hk with ⟨rfl, s, rfl⟩ | ⟨rfl, k, n, rfl⟩
  · by_cases hu : ∃ r, u = .str r
    · obtain ⟨r, rfl⟩ := hu
      have e0 : ∀ y n, (AV.str s).keyC (.str r) y n = seqC s r fun b => ifC b y n := fun _ _ => rfl
      simp only [e0]
      rcases seqC_w s r with hb | ⟨q, e1, e2⟩
      · exact .inl fun _ _ => hb _
      refine .inr ⟨q, fun y n => e1 _, fun ε m d K K' hd r1 r2 => ?_⟩
      simp only [R] at r1 r2
      subst r1; subst r2
      obtain ⟨_, rfl⟩ | ⟨h, _⟩ := hd
      · have h1 : (bytesOf s == bytesOf r) = q := by rw [bytes_beq, e2]
        refine ⟨by simp [Instr.sameNow, h1], fun hq => ?_, by simp [Instr.sameBits, bytes_beq]⟩
        rw [hq] at e2
        have := eq_of_beq e2
        unfold bytesOf; rw [this]
      · cases h
    · refine .inl fun y n => ?_
      cases u <;> first | exact ⟨_, rfl⟩ | exact absurd ⟨_, rfl⟩ hu
  · by_cases hu : ∃ j r, u = .int j r
    · obtain ⟨j, r, rfl⟩ := hu
      have e0 : ∀ y z, (AV.int k n).keyC (.int j r) y z = must 12 (Nat.beq k.ctorIdx j.ctorIdx) (ifC (Go.Ai.ieq n r) y z) := fun _ _ => rfl
      simp only [e0]
      rcases must_w 12 (Nat.beq k.ctorIdx j.ctorIdx) with hb | ⟨h1, e1⟩
      · exact .inl fun _ _ => hb _
      simp only [e1]
      have hkj := kind_eq h1
      subst hkj
      refine .inr ⟨_, fun _ _ => rfl, fun ε m d K K' hd r1 r2 => ?_⟩
      simp only [R] at r1 r2
      subst r1; subst r2
      obtain ⟨h, _⟩ | ⟨_, kk, rfl⟩ := hd
      · cases h
      · rw [ieq_eq]
        refine ⟨by simp [Instr.sameNow]; rfl, fun hq => ?_, by simp [Instr.sameBits]⟩
        have := of_decide_eq_true hq
        rw [this]
    · refine .inl fun y z => ?_
      cases u <;> first | exact ⟨_, rfl⟩ | exact absurd ⟨_, _, rfl⟩ hu
theorem EntsR.get : ∀ {es : List Ent} {Es : List MapEntry}, EntsR ε m es Es → ∀ (i : Nat) (e : Ent), es[i]? = some e → ∃ E, Es[i]? = some E ∧ EntR ε m e E
  | [], _, _, i, e, h => by simp at h
  | e :: t, _, r, 0, e', h => by obtain ⟨E, U, rfl, r1, _⟩ := r; simp at h; subst h; exact ⟨E, by simp, r1⟩
  | e :: t, _, r, i + 1, e', h => by
    obtain ⟨E, U, rfl, _, r2⟩ := r
    obtain ⟨E', h1, h2⟩ := EntsR.get r2 i e' (by simpa using h)
    exact ⟨E', by simpa using h1, h2⟩
theorem EntsR.set : ∀ {es : List Ent} {Es : List MapEntry}, EntsR ε m es Es → ∀ (i : Nat) {e : Ent} {E : MapEntry}, EntR ε m e E → EntsR ε m (es.set i e) (Es.set i E)
  | [], _, r, _, _, _, _ => by simp [EntsR] at r; simp [r, EntsR]
  | e :: t, _, r, 0, e', E', h => by obtain ⟨E, U, rfl, r1, r2⟩ := r; exact ⟨E', U, rfl, h, r2⟩
  | e :: t, _, r, i + 1, e', E', h => by obtain ⟨E, U, rfl, r1, r2⟩ := r; exact ⟨E, U.set i E', rfl, r1, EntsR.set r2 i h⟩
theorem EntsR.push : ∀ {es : List Ent} {Es : List MapEntry}, EntsR ε m es Es → ∀ {e : Ent} {E : MapEntry}, EntR ε m e E → EntsR ε m (es ++ [e]) (Es ++ [E])
  | [], _, r, e', E', h => by simp [EntsR] at r; subst r; exact ⟨E', [], rfl, h, rfl⟩
  | e :: t, _, r, e', E', h => by obtain ⟨E, U, rfl, r1, r2⟩ := r; exact ⟨E, U ++ [E'], rfl, r1, EntsR.push r2 h⟩
theorem findEnt_w {str : Bool} {v : AV} (hk : v.isKey str = true) : ∀ (es : List Ent) (i : Nat), (∀ k, Bad (findEnt v es k i)) ∨ ∃ r : Option (AV × Nat), (∀ k, findEnt v es k i = k r) ∧
    ∀ (ε : Env) (m : Mem) (d : TypeDesc) (K : Value) (Es : List MapEntry), KeyKind str d → R ε m v K → EntsR ε m es Es →
      (r = none ∧ Instr.findNow d K Es i = some none) ∨ ∃ (j : Nat) (e : Ent) (E : MapEntry), r = some (e.val, i + j) ∧ es[j]? = some e ∧ Es[j]? = some E ∧ EntR ε m e E ∧ E.key = K ∧ Instr.findNow d K Es i = some (some (i + j, E.val)) := by
  intro es
  induction es with
  | nil =>
    intro i
    refine .inr ⟨none, fun _ => rfl, fun ε m d K Es _ _ r => .inl ⟨rfl, ?_⟩⟩
    simp [EntsR] at r; subst r; rfl
  | cons e t ih =>
    intro i
    have e0 : ∀ k, findEnt v (e :: t) k i = v.keyC e.key (k (some (e.val, i))) (findEnt v t k (i + 1)) := fun _ => rfl
    simp only [e0]
    rcases keyC_w (u := e.key) hk with hb | ⟨q, e1, e2⟩
    · exact .inl fun _ => hb _ _
    simp only [e1]
    cases q with
    | true =>
      simp only [ifC_true]
      refine .inr ⟨_, fun _ => rfl, fun ε m d K Es hd r1 r2 => .inr ?_⟩
      obtain ⟨E, U, rfl, r3, r4⟩ := r2
      obtain ⟨h1, h2, _⟩ := e2 ε m d K E.key hd r1 r3.1
      exact ⟨0, e, E, rfl, by simp, by simp, r3, h2 rfl, by simp [Instr.findNow, h1]⟩
    | false =>
      simp only [ifC_false]
      rcases ih (i + 1) with hb | ⟨r, e3, e4⟩
      · exact .inl fun _ => hb _
      refine .inr ⟨r, fun _ => e3 _, fun ε m d K Es hd r1 r2 => ?_⟩
      obtain ⟨E, U, rfl, r3, r4⟩ := r2
      obtain ⟨h1, _, _⟩ := e2 ε m d K E.key hd r1 r3.1
      rcases e4 ε m d K U hd r1 r4 with ⟨h5, h6⟩ | ⟨j, e', E', h5, h6, h7, h8, h9, h10⟩
      · exact .inl ⟨h5, by simp [Instr.findNow, h1, h6]⟩
      · refine .inr ⟨j + 1, e', E', by rw [h5]; congr 2; omega, by simpa using h6, by simpa using h7, h8, h9, ?_⟩
        simp only [Instr.findNow, h1, h10]
        congr 3; omega
theorem checkKey_ok' {d : TypeDesc} {str em : Bool} (hd : KeyKind str d) {kt : TypeId} (hk : P.underlying kt = some d) (V : Value) (n : Nat) : (Instr.checkKey em (n + 1) kt V).run P w = .ok () w := by
  rw [Instr.checkKey]
  obtain ⟨_, rfl⟩ | ⟨_, k, rfl⟩ := hd <;> simp [run_underlying hk]
theorem checkKey_ok {d : TypeDesc} {str em : Bool} (hd : KeyKind str d) {kt : TypeId} (hk : P.underlying kt = some d) (V : Value) : (Instr.checkKey em 10000 kt V).run P w = .ok () w := checkKey_ok' hd hk V 9999
theorem good_lookup {t kt e : TypeId} {d : TypeDesc} {str ok : Bool} {z : AV} (hx : opd N x = some a) (hy : opd N y = some b) (ht : P.underlying t = some (.map kt e)) (hk : P.underlying kt = some d) (hd : KeyKind str d) (hz : zeroT P e = some z) : Good P N (.lookup str z ok a b) (.lookup t x y ok) := by
  rintro oper ho call fr h
  have hzero : ∀ (ε : Env) (w : World), ∃ Z : Value, (zeroValue e).run P w = .ok Z w ∧ R ε h.mem z Z := fun ε w => by
    unfold zeroT at hz
    simp only [Option.bind_eq_some_iff] at hz
    obtain ⟨Z, ⟨i, hi, hz⟩, hv⟩ := hz
    exact ⟨Z, by simp [zeroValue, typeInfo, hi, hz], toAV_ok hv⟩
  show Gives (fun k => must 12 ((b.ev fr).isKey str) ((a.ev fr).onMapN (found ok z false h k) fun o => mapOf o h fun es _ => findEnt (b.ev fr) es (fun q => Option.casesOn (motive := fun _ => Res) q (found ok z false h k) (fun q => found ok q.1 true h k)) 0)) _
  rcases must_w 12 ((b.ev fr).isKey str) with hb | ⟨h1, e1⟩
  · exact .inl fun _ => hb _
  simp only [e1]
  have fin : ∀ (v : AV) (t' : Bool), (∀ (ε : Env) (T : Array Value) (D : List Deferred) (w : World), T.size = N → FRel ε h.mem fr T → HRel P ε h.mem w → ∃ V, R ε h.mem v V ∧ (execOp (Act.mk T D).eval oper).run P w = .ok (.value (if ok then .tuple #[V, .bool t'] else V)) w) → Gives (fun k => found ok v t' h k) (Okay P N oper fr h) := fun v t' hv => by
    cases ok with
    | true =>
      refine Gives.now (Okay.same fun ε T D w hT hF hh => ?_)
      obtain ⟨V, r, e⟩ := hv ε T D w hT hF hh
      exact ⟨_, ⟨[V, .bool t'], rfl, ⟨V, _, rfl, r, ⟨_, _, rfl, rfl, rfl⟩⟩⟩, e⟩
    | false =>
      refine Gives.now (Okay.same fun ε T D w hT hF hh => ?_)
      obtain ⟨V, r, e⟩ := hv ε T D w hT hF hh
      exact ⟨V, r, e⟩
  rcases onMapN_w (a.ev fr) with hb | ea | ⟨o, ea⟩
  · exact .inl fun _ => hb _ _
  · simp only [ea]
    refine fin z false fun ε T D w hT hF hh => ?_
    obtain ⟨Z, z1, z2⟩ := hzero ε w
    have h2 := opd_ok hx hT hF D
    rw [ea] at h2; simp only [R] at h2
    refine ⟨Z, z2, ?_⟩
    simp [execOp, ho, Instr.lookup, run_underlying ht, h2, checkKey_ok hd hk, Instr.findKey, run_underlying hk, Instr.findNow, z1]
  · simp only [ea]
    show Gives (fun k => mapOf o h fun es _ => findEnt (b.ev fr) es (fun q => Option.casesOn (motive := fun _ => Res) q (found ok z false h k) (fun q => found ok q.1 true h k)) 0) _
    rcases mapOf_w o h with hb | ⟨es, clk, hm, e2⟩
    · exact .inl fun _ => hb _
    simp only [e2]
    rcases findEnt_w h1 es 0 with hb | ⟨r, e3, e4⟩
    · exact .inl fun _ => hb _
    simp only [e3]
    have hrun : ∀ (ε : Env) (T : Array Value) (D : List Deferred) (w : World), T.size = N → FRel ε h.mem fr T → HRel P ε h.mem w → ∃ (K : Value) (Es : List MapEntry), R ε h.mem (b.ev fr) K ∧ EntsR ε h.mem es Es ∧
        ∀ V t', (match Instr.findNow d K Es 0 with | some (some (_, V')) => V = V' ∧ t' = true | some none => (zeroValue e).run P w = .ok V w ∧ t' = false | none => False) → (execOp (Act.mk T D).eval oper).run P w = .ok (.value (if ok then .tuple #[V, .bool t'] else V)) w := fun ε T D w hT hF hh => by
      have h2 := opd_ok hx hT hF D
      rw [ea] at h2; simp only [R] at h2
      obtain ⟨Es, h3, h4⟩ := hh.maps o es clk hm
      refine ⟨_, Es, opd_ok hy hT hF D, h4, fun V t' hf => ?_⟩
      have h5 : (getObj (ε o).blk).run P w = .ok (.map Es.toArray clk) w := by simp [getObj, Sem.run, h3]
      cases hfn : Instr.findNow d ((Act.mk T D).eval y) Es 0 with
      | none => rw [hfn] at hf; exact hf.elim
      | some r =>
        rw [hfn] at hf
        cases r with
        | none =>
          obtain ⟨hf1, rfl⟩ := hf
          simp [execOp, ho, Instr.lookup, run_underlying ht, h2.2, h5, checkKey_ok hd hk, Instr.findKey, run_underlying hk, hfn, hf1]
        | some p =>
          obtain ⟨hf1, rfl⟩ := hf
          subst hf1
          simp [execOp, ho, Instr.lookup, run_underlying ht, h2.2, h5, checkKey_ok hd hk, Instr.findKey, run_underlying hk, hfn]
    cases r with
    | none =>
      refine fin z false fun ε T D w hT hF hh => ?_
      obtain ⟨Z, z1, z2⟩ := hzero ε w
      obtain ⟨K, Es, q1, q2, q3⟩ := hrun ε T D w hT hF hh
      rcases e4 ε h.mem d K Es hd q1 q2 with ⟨_, h6⟩ | ⟨j, e', E', h5, _⟩
      · exact ⟨Z, z2, q3 Z false (by rw [h6]; exact ⟨z1, rfl⟩)⟩
      · cases h5
    | some p =>
      refine fin p.1 true fun ε T D w hT hF hh => ?_
      obtain ⟨K, Es, q1, q2, q3⟩ := hrun ε T D w hT hF hh
      rcases e4 ε h.mem d K Es hd q1 q2 with ⟨h6, _⟩ | ⟨j, e', E', h5, h6, h7, h8, h9, h10⟩
      · cases h6
      · cases h5
        exact ⟨E'.val, h8.2.1, q3 _ _ (by rw [h10]; exact ⟨rfl, rfl⟩)⟩
theorem map_set (E' : MapEntry) (l : List MapEntry) (j : Nat) (f : MapEntry → MapEntry) {E : MapEntry} (h : l[j]? = some E) (hf : f E = E') : l.modify j f = l.set j E' := by
  apply List.ext_getElem?
  intro i
  rw [List.getElem?_modify, List.getElem?_set]
  by_cases hij : j = i
  · subst hij
    have := (List.getElem?_eq_some_iff.1 h).1
    rw [h]; simp [hf, this]
  · simp [hij]
theorem good_mapUpd {op : Op} {t kt e : TypeId} {d : TypeDesc} {str : Bool} {z : Operand} {c : Opd} (hop : op = .mapUpdate t x y z ∨ op = .insert t x y z) (hx : opd N x = some a) (hy : opd N y = some b) (hz : opd N z = some c) (ht : P.underlying t = some (.map kt e)) (hk : P.underlying kt = some d) (hd : KeyKind str d) : Good P N (.mapUpd str a b c) op := by
  rintro oper ho call fr h
  show Gives (fun k => must 12 ((b.ev fr).isKey str) ((a.ev fr).onMap fun o => mapOf o h fun es clock => findEnt (b.ev fr) es (fun q => Option.casesOn (motive := fun _ => Res) q (k .undef (setObj o (.map (lapp es [⟨b.ev fr, c.ev fr, clock⟩]) (clock + 1)) h))
    (fun q => nthC es q.2 fun e => k .undef (setObj o (.map (lset ⟨b.ev fr, c.ev fr, e.born⟩ es q.2) clock) h))) 0)) _
  rcases must_w 12 ((b.ev fr).isKey str) with hb | ⟨h1, e1⟩
  · exact .inl fun _ => hb _
  simp only [e1]
  rcases onMap_w (a.ev fr) with hb | ⟨o, ea⟩
  · exact .inl fun _ => hb _
  simp only [ea]
  show Gives (fun k => mapOf o h fun es clock => findEnt (b.ev fr) es (fun q => Option.casesOn (motive := fun _ => Res) q (k .undef (setObj o (.map (lapp es [⟨b.ev fr, c.ev fr, clock⟩]) (clock + 1)) h))
    (fun q => nthC es q.2 fun e => k .undef (setObj o (.map (lset ⟨b.ev fr, c.ev fr, e.born⟩ es q.2) clock) h))) 0) _
  rcases mapOf_w o h with hb | ⟨es, clk, hm, e2⟩
  · exact .inl fun _ => hb _
  simp only [e2]
  rcases findEnt_w h1 es 0 with hb | ⟨r, e3, e4⟩
  · exact .inl fun _ => hb _
  simp only [e3]
  have key : ∀ (ε : Env) (w : World) (K : Value), R ε h.mem (b.ev fr) K → Instr.sameBits 10000 K K = true := fun ε w K r => by
    rcases isKey_w h1 with ⟨_, s, e⟩ | ⟨_, k, n, e⟩ <;> rw [e] at r <;> simp only [R] at r <;> subst r
    · simp [Instr.sameBits, bytes_beq]
    · simp [Instr.sameBits]
  have put : ∀ (ε : Env) (w : World) (Es Es' : List MapEntry) (es' : List Ent) (clk' : Nat), HRel P ε h.mem w → w.heap[(ε o).blk]? = some (.map Es.toArray clk) → EntsR ε h.mem es' Es' →
      Adv P ε h.mem w ε (upd h.mem o (.map es' clk')) { w with heap := w.heap.setIfInBounds (ε o).blk (.map Es'.toArray clk') } := fun ε w Es Es' es' clk' hh hg hr => by
    refine Adv.set hh (by rw [hm]; trivial) _ (by simp) (fun hq => by rw [hm] at hq; exact hq.elim) _ (by simp) (fun k hk => Array.getElem?_setIfInBounds_ne (Ne.symm hk)) ?_
    rintro m' w' rfl rfl hst
    refine ⟨fun _ _ e => (by cases e), fun es2 clk2 e => ?_, fun _ _ _ _ _ _ e => (by cases e)⟩
    cases e
    exact ⟨Es', heap_set_same _ _ hg, hr.mono hst⟩
  have hin : ∀ (w : World) (ρ : Operand → Value), (execOp ρ oper).run P w = (do Instr.mapUpdate t (ρ x) (ρ y) (ρ z); pure Next.skip : Sem Next).run P w := fun w ρ => by
    rcases hop with h | h <;> rw [h] at ho <;> simp only [execOp, ho]
  cases r with
  | none =>
    refine Gives.now fun ε T D w hT hF hh => ?_
    have h2 := opd_ok hx hT hF D
    rw [ea] at h2; simp only [R] at h2
    have h3 := opd_ok hy hT hF D
    have h4 := opd_ok hz hT hF D
    obtain ⟨Es, h5, h6⟩ := hh.maps o es clk hm
    have h7 : (getObj (ε o).blk).run P w = .ok (.map Es.toArray clk) w := by simp [getObj, Sem.run, h5]
    rcases e4 ε h.mem d _ Es hd h3 h6 with ⟨_, h8⟩ | ⟨j, e', E', h8, _⟩
    · have hr := h6.push (e := ⟨b.ev fr, c.ev fr, clk⟩) (E := { key := (Act.mk T D).eval y, val := (Act.mk T D).eval z, born := clk }) ⟨h3, h4, rfl⟩
      have adv := put ε w Es _ _ (clk + 1) hh h5 hr
      rw [mem_setObj, lapp_eq]
      refine ⟨ε, undef, _, adv, rfl, .inr ⟨?_, rfl⟩⟩
      rw [hin]
      have h9 : ∀ X : Go.Obj, (Go.setObj (ε o).blk X).run P w = .ok () { w with heap := w.heap.setIfInBounds (ε o).blk X } := fun X => by simp [Go.setObj, Sem.run, h5]
      simp [Instr.mapUpdate, run_underlying ht, h2.2, h7, checkKey_ok hd hk, Instr.findKey, run_underlying hk, h8, h9]
    · cases h8
  | some p =>
    show Gives (fun k => nthC es p.2 fun e => k .undef (setObj o (.map (lset ⟨b.ev fr, c.ev fr, e.born⟩ es p.2) clk) h)) _
    rcases nthC_w es p.2 with hb | ⟨e0, h2, e5⟩
    · exact .inl fun _ => hb _
    simp only [e5]
    refine Gives.now fun ε T D w hT hF hh => ?_
    have q2 := opd_ok hx hT hF D
    rw [ea] at q2; simp only [R] at q2
    have h3 := opd_ok hy hT hF D
    have h4 := opd_ok hz hT hF D
    obtain ⟨Es, h5, h6⟩ := hh.maps o es clk hm
    have h7 : (getObj (ε o).blk).run P w = .ok (.map Es.toArray clk) w := by simp [getObj, Sem.run, h5]
    rcases e4 ε h.mem d _ Es hd h3 h6 with ⟨h8, _⟩ | ⟨j, e', E', h8, h10, h11, h12, h13, h14⟩
    · cases h8
    · cases h8
      rw [Nat.zero_add] at h2 h14
      rw [h10] at h2; cases h2
      have hr := h6.set j (e := ⟨b.ev fr, c.ev fr, e0.born⟩) (E := { E' with key := (Act.mk T D).eval y, val := (Act.mk T D).eval z }) ⟨h3, h4, h12.2.2⟩
      have adv := put ε w Es _ _ clk hh h5 hr
      simp only [mem_setObj, lset_eq, Nat.zero_add]
      refine ⟨ε, undef, _, adv, rfl, .inr ⟨?_, rfl⟩⟩
      rw [hin]
      have h9 : ∀ X : Go.Obj, (Go.setObj (ε o).blk X).run P w = .ok () { w with heap := w.heap.setIfInBounds (ε o).blk X } := fun X => by simp [Go.setObj, Sem.run, h5]
      have h15 := map_set { E' with key := (Act.mk T D).eval y, val := (Act.mk T D).eval z } Es j (fun e => { e with key := (Act.mk T D).eval y, val := (Act.mk T D).eval z }) h11 rfl
      have h16 : (Instr.keyThatStays ((Act.mk T D).eval y) ((Act.mk T D).eval y)).run P w = .ok ((Act.mk T D).eval y) w := by simp [Instr.keyThatStays, key ε w _ h3]
      simp [Instr.mapUpdate, run_underlying ht, q2.2, h7, checkKey_ok hd hk, Instr.findKey, run_underlying hk, h14, h9, h11, h13, h16, h15]
end Go.Ai
set_option autoImplicit false
namespace Go.Ai
set_option linter.unusedSectionVars false
variable [Nu]
open Go
variable {P : Program} {N : Nat} {ε : Env} {m : Mem} {w : World} {x y : Operand} {a b : Opd}

theorem onPtrN_w (v : AV) : (∀ z kk, Bad (v.onPtrN z kk)) ∨ v = .nilp ∨ ∃ o i, v = .ptr o i := by cases v <;> first | exact .inr (.inr ⟨_, _, rfl⟩) | exact .inr (.inl rfl) | exact .inl fun _ _ => ⟨_, rfl⟩
theorem good_sdata {c : Go.Call} (hx : opd N x = some a) (hc : c.callee = .builtin .unsafeSliceData) (ha : c.args.toList = [x]) : Good P N (.sdata a) (.call c) := by
  rintro oper ho call fr h
  have ha' : c.args = #[x] := by apply Array.ext'; simpa using ha
  show Gives (fun k => (a.ev fr).onSlc (k .nilp h) fun o i _ c => must 12 (Nat.blt 0 (Cap.casesOn (motive := fun _ => Nat) c (fun c => c) (fun d => d))) (k (.ptr o i) h)) _
  rcases onSlc_w (a.ev fr) with hb | e | ⟨o, i, n, cp, e⟩
  · exact .inl fun _ => hb _ _
  · simp only [e]
    refine Gives.now (Okay.same fun ε T D w hT hF hh => ⟨_, rfl, ?_⟩)
    have h1 := opd_ok hx hT hF D
    rw [e] at h1; simp only [R] at h1
    simp [execOp, ho, resolve, hc, ha', invoke, builtin, h1, Lib.run_unsafeSliceData_nil]
  · simp only [e]
    show Gives (fun k => must 12 (Nat.blt 0 (Cap.casesOn (motive := fun _ => Nat) cp (fun c => c) (fun d => d))) (k (.ptr o i) h)) _
    rcases must_w 12 (Nat.blt 0 (Cap.casesOn (motive := fun _ => Nat) cp (fun c => c) (fun d => d))) with hb | ⟨h2, e2⟩
    · exact .inl fun _ => hb _
    simp only [e2]
    rw [blt_dec] at h2
    have h2' := of_decide_eq_true h2
    refine Gives.now (Okay.same fun ε T D w hT hF hh => ?_)
    have h1 := opd_ok hx hT hF D
    rw [e] at h1; simp only [R] at h1
    refine ⟨_, ⟨h1.1, rfl⟩, ?_⟩
    have hcap : ε.cap o cp ≠ 0 := by cases cp <;> simp [Env.cap] at h2' ⊢ <;> omega
    simp [execOp, ho, resolve, hc, ha', invoke, builtin, h1.2, Lib.run_unsafeSliceData_row _ _ _ _ _ _ hcap]
theorem good_capS {c : Go.Call} {t e : TypeId} (hx : opd N x = some a) (hc : c.callee = .builtin .cap) (ha : c.args.toList = [x]) (h0 : c.argTypes.toList.head? = some t) (ht : P.underlying t = some (.slice e)) : Good P N (.capS a) (.call c) := by
  rintro oper ho call fr h
  have ha' : c.args = #[x] := by apply Array.ext'; simpa using ha
  have ht0 : c.argTypes[0]? = some t := by cases hq : c.argTypes with | mk l => rw [hq] at h0; cases l <;> simp_all
  show Gives (fun k => (a.ev fr).onSlc (k (.int .i64 0) h) fun _ _ _ c => Cap.casesOn (motive := fun _ => Res) c (fun c => k (.int .i64 (.ofNat c)) h) (fun _ => .bad 51)) _
  rcases onSlc_w (a.ev fr) with hb | e1 | ⟨o, i, n, cp, e1⟩
  · exact .inl fun _ => hb _ _
  · simp only [e1]
    refine Gives.now (Okay.same fun ε T D w hT hF hh => ⟨_, rfl, ?_⟩)
    have h1 := opd_ok hx hT hF D
    rw [e1] at h1; simp only [R] at h1
    simp [execOp, ho, resolve, hc, ha', invoke, builtin, h1, Builtin.cap_, ht0, run_underlying ht, goInt]
  · simp only [e1]
    cases cp with
    | opn d => exact .inl fun _ => ⟨51, rfl⟩
    | exact d =>
      refine Gives.now (Okay.same fun ε T D w hT hF hh => ⟨_, rfl, ?_⟩)
      have h1 := opd_ok hx hT hF D
      rw [e1] at h1; simp only [R] at h1
      simp [execOp, ho, resolve, hc, ha', invoke, builtin, h1.2, Builtin.cap_, ht0, run_underlying ht, goInt, Env.cap]
theorem ptr_equal {t e : TypeId} {n : Nat} (ht : P.underlying t = some (.pointer e)) (hs : sizeT P e = some n) (A : Addr) : (Op.equal t (.pointer (some A)) (.pointer (some A))).run P w = .ok true w := by
  have hsz := sizeT_size (w := w) hs
  show (Op.equalIn (9999 + 1) t (.pointer (some A)) (.pointer (some A))).run P w = _
  unfold Op.equalIn
  simp [run_underlying ht, hsz.1, sameAddr]
theorem ptr_guard {op : BinOp} {t : TypeId} (p q : Operand) (A : Addr) : (eqGuard op t p q (.pointer (some A)) (.pointer (some A))).run P w = .ok () w := by
  unfold eqGuard
  split <;> rfl
theorem good_peq {op : BinOp} {neg : Bool} {t e u : TypeId} {n : Nat} (hop : (op = .eql ∧ neg = false) ∨ (op = .neq ∧ neg = true)) (hx : opd N x = some a) (hy : opd N y = some b) (ht : P.underlying t = some (.pointer e)) (hs : sizeT P e = some n) : Good P N (.peq neg a b) (.binOp op t x y u) := by
  rintro oper ho call fr h
  show Gives (fun k => (a.ev fr).onPtr fun o i => (b.ev fr).onPtr fun q j => must 12 (o.beq q) (must 12 (Nat.beq i j) (k (.bool (xorB neg true)) h))) _
  rcases onPtr_w (a.ev fr) with hb | ⟨o, i, e1⟩
  · exact .inl fun _ => hb _
  simp only [e1]
  show Gives (fun k => (b.ev fr).onPtr fun q j => must 12 (o.beq q) (must 12 (Nat.beq i j) (k (.bool (xorB neg true)) h))) _
  rcases onPtr_w (b.ev fr) with hb | ⟨q, j, e2⟩
  · exact .inl fun _ => hb _
  simp only [e2]
  show Gives (fun k => must 12 (o.beq q) (must 12 (Nat.beq i j) (k (.bool (xorB neg true)) h))) _
  rcases must_w 12 (o.beq q) with hb | ⟨h3, e3⟩
  · exact .inl fun _ => hb _
  simp only [e3]
  rcases must_w 12 (Nat.beq i j) with hb | ⟨h4, e4⟩
  · exact .inl fun _ => hb _
  simp only [e4]
  have hij := Nat.eq_of_beq_eq_true h4
  subst hij
  have hoq : o = q := by
    have key : ∀ (p q : Path), p.beq q = true → p = q := by
      intro p
      induction p with
      | e => intro q h; cases q <;> first | rfl | exact absurd (show false = true from h) (by decide)
      | l p ih => intro q h; cases q <;> first | (rw [ih _ h]; done) | exact absurd (show false = true from h) (by decide)
      | r p ih => intro q h; cases q <;> first | (rw [ih _ h]; done) | exact absurd (show false = true from h) (by decide)
    exact key _ _ h3
  subst hoq
  refine Gives.now (Okay.same fun ε T D w hT hF hh => ⟨_, rfl, ?_⟩)
  have h1 := opd_ok hx hT hF D
  have h2 := opd_ok hy hT hF D
  rw [e1] at h1; rw [e2] at h2
  simp only [R] at h1 h2
  have he := ptr_equal (w := w) ht hs (ε.addr o i)
  have hg := ptr_guard (P := P) (w := w) (op := op) (t := t) x y (ε.addr o i)
  have hb : (Go.binOp op t (.pointer (some (ε.addr o i))) (.pointer (some (ε.addr o i)))).run P w = .ok (.bool (xorB neg true)) w := by
    rcases hop with ⟨rfl, rfl⟩ | ⟨rfl, rfl⟩ <;> simp [Go.binOp, he, xorB_eq]
  simp [execOp, ho, h1.2, h2.2, hg, hb]
theorem good_p2u {s d t : TypeId} {n : Nat} (hx : opd N x = some a) (hs : P.underlying s = some (.pointer t)) (hd : P.underlying d = some .unsafePointer) (hn : sizeT P t = some n) : Good P N (.p2u a) (.convert s d x) := by
  rintro oper ho call fr h
  show Gives (fun k => (a.ev fr).onPtrN (k .nilp h) fun o i => cellsOf o h fun cs _ => must 12 (Nat.blt i (llen cs)) (k (.ptr o i) h)) _
  rcases onPtrN_w (a.ev fr) with hb | e | ⟨o, i, e⟩
  · exact .inl fun _ => hb _ _
  · simp only [e]
    refine Gives.now (Okay.same fun ε T D w hT hF hh => ⟨_, rfl, ?_⟩)
    have h1 := opd_ok hx hT hF D
    rw [e] at h1; simp only [R] at h1
    simp [execOp, ho, convert, run_underlying hs, run_underlying hd, h1, Conv.unsafePointer]
  · simp only [e]
    show Gives (fun k => cellsOf o h fun cs _ => must 12 (Nat.blt i (llen cs)) (k (.ptr o i) h)) _
    rcases cellsOf_w o h with hb | ⟨cs, es, hcs, e2⟩
    · exact .inl fun _ => hb _
    simp only [e2, llen_eq]
    rcases must_w 12 (Nat.blt i cs.length) with hb | ⟨h3, e3⟩
    · exact .inl fun _ => hb _
    simp only [e3]
    rw [blt_dec] at h3
    have h3' := of_decide_eq_true h3
    refine Gives.now (Okay.same fun ε T D w hT hF hh => ?_)
    have h1 := opd_ok hx hT hF D
    rw [e] at h1; simp only [R] at h1
    refine ⟨_, ⟨h1.1, rfl⟩, ?_⟩
    obtain ⟨C, elem, fz, hg, hsz, hR, hf⟩ := hh.cells o cs es hcs
    have hsh : w.shape? (ε o).blk = some (elem, C.size) := by simp [World.shape?, hg]
    have hn' := sizeT_size (w := w) hn
    have hlt : ¬ (C.size ≤ (ε o).off + i) := by omega
    simp [execOp, ho, convert, run_underlying hs, run_underlying hd, h1.2, Conv.unsafePointer, Conv.seenAt, viewAt, cellsIn, Env.addr, hsh, hn'.1, hn'.2, hlt]
theorem sizeT_cells {t : TypeId} {n : Nat} (h : sizeT P t = some n) : P.cellsOf t = n := by
  unfold sizeT at h
  simp only [Option.bind_eq_some_iff, Option.map_eq_some_iff] at h
  obtain ⟨k, ⟨i, hi, rfl⟩, h⟩ := h
  split at h
  · cases h
  · cases h; simp [Program.cellsOf, hi]
theorem liesAt_row {e : TypeId} {s : Nat} (hs : P.cellsOf e = s) (h0 : s ≠ 0) (count off n : Nat) (hr : off % s = 0) (hn : off / s + n ≤ count) : liesAt P P.depth e count off e n = true := by
  have hd : P.depth = (2 * (P.types.size + Made.depth) + 1) + 1 := rfl
  rw [hd]
  simp only [liesAt, Bool.or_eq_true]
  left
  rw [hd]
  simp [rowAt, hs, h0, hr, hn, sameLayout]
theorem good_u2p {s d u : TypeId} {n : Nat} (hx : opd N x = some a) (hs : P.underlying s = some .unsafePointer) (hd : P.underlying d = some (.pointer u)) (hn : sizeT P u = some n) : Good P N (.u2p (4294967296 + u) n a) (.convert s d x) := by
  rintro oper ho call fr h
  show Gives (fun k => (a.ev fr).onPtrN (k .nilp h) fun o i => cellsOf o h fun cs es => must 12 (Nat.beq es (4294967296 + u)) (must 12 (Nat.beq (i % n) 0) (must 12 (Nat.ble (i + n) (llen cs)) (k (.ptr o i) h)))) _
  rcases onPtrN_w (a.ev fr) with hb | e | ⟨o, i, e⟩
  · exact .inl fun _ => hb _ _
  · simp only [e]
    refine Gives.now (Okay.same fun ε T D w hT hF hh => ⟨_, rfl, ?_⟩)
    have h1 := opd_ok hx hT hF D
    rw [e] at h1; simp only [R] at h1
    simp [execOp, ho, convert, run_underlying hs, run_underlying hd, h1, Conv.unsafePointer]
  · simp only [e]
    show Gives (fun k => cellsOf o h fun cs es => must 12 (Nat.beq es (4294967296 + u)) (must 12 (Nat.beq (i % n) 0) (must 12 (Nat.ble (i + n) (llen cs)) (k (.ptr o i) h)))) _
    rcases cellsOf_w o h with hb | ⟨cs, es, hcs, e2⟩
    · exact .inl fun _ => hb _
    simp only [e2, llen_eq]
    rcases must_w 12 (Nat.beq es (4294967296 + u)) with hb | ⟨h3, e3⟩
    · exact .inl fun _ => hb _
    simp only [e3]
    rcases must_w 12 (Nat.beq (i % n) 0) with hb | ⟨h4, e4⟩
    · exact .inl fun _ => hb _
    simp only [e4]
    rcases must_w 12 (Nat.ble (i + n) cs.length) with hb | ⟨h5, e5⟩
    · exact .inl fun _ => hb _
    simp only [e5]
    have hes := Nat.eq_of_beq_eq_true h3
    have hmod := Nat.eq_of_beq_eq_true h4
    have hle := ble_le h5
    refine Gives.now (Okay.same fun ε T D w hT hF hh => ?_)
    have h1 := opd_ok hx hT hF D
    rw [e] at h1; simp only [R] at h1
    refine ⟨_, ⟨h1.1, rfl⟩, ?_⟩
    obtain ⟨C, elem, fz, hg, hsz, hR, hf, _, hwh⟩ := hh.cells o cs es hcs
    obtain ⟨hel, hoff⟩ := hwh (by omega)
    have helu : elem = u := Nat.add_left_cancel (hel.symm.trans hes)
    subst helu
    have hsh : w.shape? (ε o).blk = some (elem, C.size) := by simp [World.shape?, hg]
    have hn' := sizeT_size (w := w) hn
    have hc := sizeT_cells hn
    have hdiv : i / n + 1 ≤ C.size / n := by
      have h6 : (i / n + 1) * n ≤ C.size := by
        have h7 := Nat.div_add_mod i n
        rw [hmod, Nat.add_zero] at h7
        rw [Nat.add_mul, Nat.one_mul, Nat.mul_comm, h7]
        omega
      exact (Nat.le_div_iff_mul_le (Nat.pos_of_ne_zero hn'.2)).2 h6
    have hl := liesAt_row (P := P) hc hn'.2 (C.size / n) i 1 hmod hdiv
    simp [execOp, ho, convert, run_underlying hs, run_underlying hd, h1.2, Conv.unsafePointer, Conv.seenAt, viewAt, Env.addr, hsh, hn'.1, hn'.2, variablesAt, hc, hoff, hl]
theorem run_loadBytes' : ∀ (l : List Nat) (a : Addr) (acc : ByteArray), (∀ (j n : Nat), l[j]? = some n → w.cell? (a.add j) = some (.int .u8 (n : Int))) → (loadBytes a acc l.length).run P w = .ok ⟨acc.data ++ (l.map Nat.toUInt8).toArray⟩ w
  | [], a, acc, _ => by simp [loadBytes]
  | x :: l, a, acc, h => by
    have h0 : w.cell? a = some (.int .u8 (x : Int)) := by
      have := h 0 x rfl
      simpa [Addr.add] using this
    have ih := run_loadBytes' l (a.add 1) (acc.push x.toUInt8) (fun j y hy => by
      have := h (j + 1) y (by simpa using hy)
      have e : (a.add 1).add j = a.add (j + 1) := by
        unfold Addr.add
        by_cases hj : j = 0
        · subst hj; simp
        · simp [hj]; omega
      rw [e]; exact this)
    simp only [List.length_cons, loadBytes, Sem.run_bind, run_load, h0, Result.andThen, Int.toNat_natCast]
    rw [ih]
    congr 1
    apply ByteArray.ext
    simp [ByteArray.push]
theorem good_ubs {c : Go.Call} {t u : TypeId} (hx : opd N x = some a) (hy : opd N y = some b) (hc : c.callee = .builtin .unsafeString) (ha : c.args.toList = [x, y]) (h0 : c.argTypes.toList.head? = some t) (ht : P.underlying t = some (.pointer u)) (hu : sizeT P u = some 1) (hlt : u < 4294901760) : Good P N (.ubs (65536 + u) a b) (.call c) := by
  rintro oper ho call fr h
  have ha' : c.args = #[x, y] := by apply Array.ext'; simpa using ha
  have ht0 : c.argTypes[0]? = some t := by cases hq : c.argTypes with | mk l => rw [hq] at h0; cases l <;> simp_all
  have hmax : IntKind.i64.max = 9223372036854775807 := rfl
  have hex : ∀ (ρ : Operand → Value) (w w' : World) (V : Value), (Builtin.unsafeString_ c.argTypes oper.type #[ρ x, ρ y]).run P w = .ok V w' → Run P oper ρ w V w' := fun ρ w w' V hr => by
    left; simp [execOp, ho, resolve, hc, ha', invoke, builtin, hr]
  show Gives (fun k => evNat b fr fun n => (a.ev fr).onPtrN (must 12 (Nat.beq n 0) (k (.str []) h)) fun o i => must 12 (Nat.blt 0 n) (must 12 (Nat.ble n 1099511627776) (cellsOf o h fun cs es => must 12 (Nat.beq es (65536 + u)) (ldropC i cs fun cs => ltake n cs fun cs => bytesC cs fun l => k (.str l) (setObj o .dead h))))) _
  rcases evNat_w b fr with hb | ⟨kd, n, e1, e2⟩
  · exact .inl fun _ => hb _
  simp only [e2]
  rcases onPtrN_w (a.ev fr) with hb | e | ⟨o, i, e⟩
  · exact .inl fun _ => hb _ _
  · simp only [e]
    show Gives (fun k => must 12 (Nat.beq n 0) (k (.str []) h)) _
    rcases must_w 12 (Nat.beq n 0) with hb | ⟨h3, e3⟩
    · exact .inl fun _ => hb _
    simp only [e3]
    have hn0 := Nat.eq_of_beq_eq_true h3
    subst hn0
    refine Gives.now fun ε T D w hT hF hh => ⟨ε, .string .empty, w, .refl hh, ?_, hex _ _ _ _ ?_⟩
    · show R ε h.mem (.str []) (.string .empty)
      simp only [R]; rfl
    · have h1 := opd_ok hx hT hF D
      have h2 := opd_ok hy hT hF D
      rw [e] at h1; rw [e1] at h2
      simp only [R] at h1 h2
      have hdef : Builtin.unsafeString_ c.argTypes oper.type #[.pointer none, .int kd 0] =
          (do
            let n ← asInt (.int kd 0)
            let some pt := c.argTypes[0]? | stuck "unsafe.String: no argument types"
            if n < 0 then runtimePanic (.error "unsafe.String: len out of range")
            if n > IntKind.i64.max then unsupported (.unsafePointer "String: a length above the largest int")
            if n = 0 then pure (.string .empty)
            else runtimePanic (.error "unsafe.String: ptr is nil and len is not zero")) := rfl
      rw [h1, h2]
      show (Builtin.unsafeString_ c.argTypes oper.type #[.pointer none, .int kd 0]).run P w = _
      rw [hdef]
      simp [asInt, asIntOf, hmax, ht0]
  · simp only [e]
    show Gives (fun k => must 12 (Nat.blt 0 n) (must 12 (Nat.ble n 1099511627776) (cellsOf o h fun cs es => must 12 (Nat.beq es (65536 + u)) (ldropC i cs fun cs => ltake n cs fun cs => bytesC cs fun l => k (.str l) (setObj o .dead h))))) _
    rcases must_w 12 (Nat.blt 0 n) with hb | ⟨h3, e3⟩
    · exact .inl fun _ => hb _
    simp only [e3]
    rw [blt_dec] at h3
    have hpos := of_decide_eq_true h3
    rcases must_w 12 (Nat.ble n 1099511627776) with hb | ⟨h3', e3'⟩
    · exact .inl fun _ => hb _
    simp only [e3']
    have hbig' := ble_le h3'
    rcases cellsOf_w o h with hb | ⟨cs, es, hcs, e4⟩
    · exact .inl fun _ => hb _
    simp only [e4]
    rcases must_w 12 (Nat.beq es (65536 + u)) with hb | ⟨h5, e5⟩
    · exact .inl fun _ => hb _
    simp only [e5]
    rcases ldropC_w i cs with hb | ⟨h6, e6⟩
    · exact .inl fun _ => hb _
    simp only [e6]
    rcases ltake_w n (cs.drop i) with hb | ⟨h7, e7⟩
    · exact .inl fun _ => hb _
    simp only [e7]
    rcases bytesC_w ((cs.drop i).take n) with hb | ⟨l, e8, e9, e10⟩
    · exact .inl fun _ => hb _
    simp only [e8]
    have hes := Nat.eq_of_beq_eq_true h5
    have h7' : i + n ≤ cs.length := by rw [List.length_drop] at h7; omega
    refine .inr ⟨_, _, fun _ => rfl, fun ε T D w hT hF hh => ?_⟩
    have h1 := opd_ok hx hT hF D
    have h2 := opd_ok hy hT hF D
    rw [e] at h1; rw [e1] at h2
    simp only [R] at h1 h2
    have hcell := hh.cells o cs es hcs
    obtain ⟨L, hL, rL, hv⟩ := hcell.vals i n h7'
    obtain ⟨C, elem, fz, hg, hsz, hR, hf, hrow, _⟩ := hcell
    have hel := hrow (by rw [hes]; exact Nat.le_add_right _ _) (by rw [hes]; exact Nat.add_lt_add_left hlt 65536)
    have helu : elem = u := Nat.add_left_cancel (hel.symm.trans hes)
    subst helu
    have hln : l.length = n := by have h8 := congrArg List.length e9; rw [List.length_take, List.length_map, List.length_drop] at h8; omega
    rw [e9] at rL
    have hLb := rL.bytes
    have hcells : ∀ (j k : Nat), l[j]? = some k → w.cell? ((ε.addr o i).add j) = some (.int .u8 (k : Int)) := fun j k hj => by
      refine hv j _ ?_
      rw [hLb]; simp [hj]
    have hlb := run_loadBytes' (P := P) l (ε.addr o i) .empty hcells
    have hsh : w.shape? (ε o).blk = some (elem, C.size) := by simp [World.shape?, hg]
    have hc1 := sizeT_cells hu
    have hlies := liesAt_row (P := P) hc1 (by omega) (C.size / 1) ((ε o).off + i) n (Nat.mod_one _) (by rw [Nat.div_one, Nat.div_one]; omega)
    have hfz : ∃ fz', w.freeze (ε.addr o i) n = { w with heap := w.heap.setIfInBounds (ε o).blk (.cells C elem fz') } := by
      unfold World.freeze
      rw [if_neg (by omega)]
      refine ⟨if fz.1 == fz.2 then ((ε.addr o i).off, (ε.addr o i).off + n) else (min fz.1 (ε.addr o i).off, max fz.2 ((ε.addr o i).off + n)), ?_⟩
      congr 1
      apply Array.ext_getElem?
      intro k
      rw [Array.getElem?_modify, Array.getElem?_setIfInBounds]
      by_cases hk : (ε o).blk = k
      · subst hk
        have hlt' := lt_of_some hg
        have hg' : w.heap[(ε o).blk] = .cells C elem fz := by
          have := hg; rw [Array.getElem?_eq_getElem hlt'] at this; exact Option.some.inj this
        simp [Env.addr, hlt', hg']
      · simp [Env.addr, hk]
    obtain ⟨fz', hfz⟩ := hfz
    have hlive : live (h.mem o) := by rw [hcs]; trivial
    have adv : Adv P ε h.mem w ε (upd h.mem o .dead) (w.freeze (ε.addr o i) n) := by
      rw [hfz]
      refine Adv.set hh hlive .dead (by simp) (fun hq => by rw [hcs] at hq; exact hq.elim) _ (by simp) (fun k hk => Array.getElem?_setIfInBounds_ne (Ne.symm hk)) ?_
      rintro m' w' rfl rfl _
      exact ⟨fun _ _ e => (by cases e), fun _ _ e => (by cases e), fun _ _ _ _ _ _ e => (by cases e)⟩
    rw [mem_setObj]
    refine ⟨ε, .string ⟨(l.map Nat.toUInt8).toArray⟩, _, adv, by simp only [R]; rw [bytesOf_lo e10], hex _ _ _ _ ?_⟩
    rw [h1.2, h2]
    have hneg : ¬ ((n : Int) < 0) := by omega
    have hbig : ¬ (9223372036854775807 : Int) < (n : Int) := by omega
    · have hn0 : n ≠ 0 := by omega
      rw [hln] at hlb
      have hemp : ByteArray.empty.data ++ (l.map Nat.toUInt8).toArray = (l.map Nat.toUInt8).toArray := by simp
      have hdef : Builtin.unsafeString_ c.argTypes oper.type #[.pointer (some (ε.addr o i)), .int kd (n : Int)] =
          (do
            let k ← asInt (.int kd (n : Int))
            let some pt := c.argTypes[0]? | stuck "unsafe.String: no argument types"
            if k < 0 then runtimePanic (.error "unsafe.String: len out of range")
            if k > IntKind.i64.max then unsupported (.unsafePointer "String: a length above the largest int")
            if k = 0 then pure (.string .empty)
            else if ← variablesAt (ε.addr o i) (← elemOf pt) k.toNat then do
              let s ← loadBytes (ε.addr o i) .empty k.toNat
              freeze (ε.addr o i) k.toNat
              pure (.string s)
            else unsupported (.unsafePointer "String: not so many bytes at ptr")) := rfl
      rw [hdef]
      simp [asInt, asIntOf, hmax, hbig, hneg, hn0, ht0, variablesAt, Env.addr, hsh, elemOf, run_underlying ht, hc1] at hlb hlies ⊢
      simp [hlies, hlb]
theorem onMap_w' (v : AV) : (∀ kk, Bad (v.onMap kk)) ∨ ∃ o, v = .map o := onMap_w v
theorem good_rangeE {t k e : TypeId} (hx : opd N x = some a) (ht : P.underlying t = some (.map k e)) : Good P N (.rangeE a) (.range t x) := by
  rintro oper ho call fr h
  show Gives (fun kk => (a.ev fr).onMap fun q => mapOf q h fun es _ => List.casesOn (motive := fun _ => Res) es (newObj (.loop 9 .no (fset (.map q) .e .leaf) [] .skip .skip) h fun o h => kk (.ptr o 0) h) (fun _ _ => .bad 52)) _
  rcases onMap_w (a.ev fr) with hb | ⟨q, e1⟩
  · exact .inl fun _ => hb _
  simp only [e1]
  show Gives (fun kk => mapOf q h fun es _ => List.casesOn (motive := fun _ => Res) es (newObj (.loop 9 .no (fset (.map q) .e .leaf) [] .skip .skip) h fun o h => kk (.ptr o 0) h) (fun _ _ => .bad 52)) _
  rcases mapOf_w q h with hb | ⟨es, clk, hq, e2⟩
  · exact .inl fun _ => hb _
  simp only [e2]
  cases es with
  | cons _ _ => exact .inl fun _ => ⟨52, rfl⟩
  | nil =>
    show Gives (fun kk => newObj (.loop 9 .no (fset (.map q) .e .leaf) [] .skip .skip) h fun o h => kk (.ptr o 0) h) _
    rcases newObj_w (.loop 9 .no (fset (.map q) .e .leaf) [] .skip .skip) h with hb | ⟨o, h', hn, hm, e3⟩
    · exact .inl fun _ => hb _
    simp only [e3]
    refine .inr ⟨_, h', fun _ => rfl, fun ε T D w hT hF hh => ?_⟩
    have h1 := opd_ok hx hT hF D
    rw [e1] at h1; simp only [R] at h1
    obtain ⟨Es, hg, hE⟩ := hh.maps q [] clk hq
    simp only [EntsR] at hE; subst hE
    have adv := Adv.new hh hn (.loop 9 .no (fset (.map q) .e .leaf) [] .skip .skip) trivial (.mapIter (some (ε q).blk) clk #[] clk) 0 (by
      rintro ε' m' w' rfl rfl rfl hs hx'
      refine ⟨fun _ _ e => (by cases e), fun _ _ e => (by cases e), fun st pd f ps a' b' e => ?_⟩
      cases e
      refine .inr ⟨rfl, by rw [upd_same], q, clk, clk, rfl, (hs q h1.1).1, ?_⟩
      rw [(hs q h1.1).2]; exact hx')
    rw [hm]
    refine ⟨_, _, _, adv, ⟨by unfold Mem.has; rw [upd_same]; simp, rfl⟩, .inl ?_⟩
    rw [addr_new]
    simp [execOp, ho, Instr.range, run_underlying ht, h1.2, getObj, Sem.run, hg]
theorem iterOf_w (o : Path) (h : H) : (∀ k, Bad (iterOf o h k)) ∨ ∃ pd f ps c d q, h.mem o = .loop 9 pd f ps c d ∧ fget .e f = .map q ∧ ∀ k, iterOf o h k = k q := by
  cases h with
  | mk t n =>
    have e0 : ∀ k, iterOf o (.mk t n) k = Obj.casesOn (motive := fun _ => Res) (hget o t) (.bad 53) (fun _ _ => .bad 53) (fun _ _ => .bad 53) (.bad 53) (fun st _ f _ _ _ => must 12 (Nat.beq st 9) ((fget .e f).onMap k)) := fun _ => rfl
    simp only [e0]
    cases e : hget o t with
    | loop st pd f ps c d =>
      show (∀ k : Path → Res, Bad (must 12 (Nat.beq st 9) ((fget .e f).onMap k))) ∨ _
      rcases must_w 12 (Nat.beq st 9) with hb | ⟨h2, e2⟩
      · exact .inl fun _ => hb _
      have hst := Nat.eq_of_beq_eq_true h2
      subst hst
      rcases onMap_w (fget .e f) with hb | ⟨q, e3⟩
      · exact .inl fun k => by rw [e2]; exact hb _
      · exact .inr ⟨pd, f, ps, c, d, q, e, e3, fun k => (e2 _).trans (by rw [e3]; rfl)⟩
    | _ => exact .inl fun _ => ⟨53, rfl⟩
theorem good_nextE (hx : opd N x = some a) : Good P N (.nextE a) (.next x false) := by
  rintro oper ho call fr h
  show Gives (fun kk => (a.ev fr).onPtr fun o i => must 12 (Nat.beq i 0) (iterOf o h fun q => mapOf q h fun es _ => List.casesOn (motive := fun _ => Res) es (kk (.tup [.bool false]) h) (fun _ _ => .bad 52))) _
  rcases onPtr_w (a.ev fr) with hb | ⟨o, i, e1⟩
  · exact .inl fun _ => hb _
  simp only [e1]
  show Gives (fun kk => must 12 (Nat.beq i 0) (iterOf o h fun q => mapOf q h fun es _ => List.casesOn (motive := fun _ => Res) es (kk (.tup [.bool false]) h) (fun _ _ => .bad 52))) _
  rcases must_w 12 (Nat.beq i 0) with hb | ⟨h2, e2⟩
  · exact .inl fun _ => hb _
  simp only [e2]
  have hi := Nat.eq_of_beq_eq_true h2
  subst hi
  rcases iterOf_w o h with hb | ⟨pd, f, ps, c, d, q, hm, hf, e3⟩
  · exact .inl fun _ => hb _
  simp only [e3]
  rcases mapOf_w q h with hb | ⟨es, clk, hq, e4⟩
  · exact .inl fun _ => hb _
  simp only [e4]
  cases es with
  | cons _ _ => exact .inl fun _ => ⟨52, rfl⟩
  | nil =>
    refine .inr ⟨_, _, fun _ => rfl, fun ε T D w hT hF hh => ?_⟩
    have h1 := opd_ok hx hT hF D
    rw [e1] at h1; simp only [R] at h1
    obtain ⟨h5, q', since, last, h6, h7, h8⟩ := ((hh.loops o 9 pd f ps c d hm).resolve_left fun ⟨L, _, r⟩ => r.st rfl).2
    rw [hf] at h6; cases h6
    obtain ⟨Es, hg, hE⟩ := hh.maps q [] clk hq
    simp only [EntsR] at hE; subst hE
    refine ⟨ε, _, w, .refl hh, ⟨_, rfl, _, _, rfl, rfl, rfl⟩, .inl ?_⟩
    simp [execOp, ho, Instr.next, h1.2, Env.addr, h5, getObj, Sem.run, h8, hg, Question.forced]
end Go.Ai
set_option autoImplicit false
namespace Go.Ai
set_option linter.unusedSectionVars false
variable [Nu]
open Go
variable {P : Program} {N : Nat} {ε : Env} {m : Mem} {w : World} {x y : Operand} {a b : Opd}

theorem good_convS {s d : TypeId} (hx : opd N x = some a) (hs : P.underlying s = some .string) (hd : P.underlying d = some .string) : Good P N (.sliceStr a .no .no) (.convert s d x) := by
  rintro oper ho call fr h
  show Gives (fun k => (a.ev fr).onStr fun s => ldropC 0 s fun s => k (.str s) h) _
  rcases onStr_w (a.ev fr) with hb | ⟨s', e1⟩
  · exact .inl fun _ => hb _
  simp only [e1]
  show Gives (fun k => ldropC 0 s' fun s => k (.str s) h) _
  rcases ldropC_w 0 s' with hb | ⟨h4, e4⟩
  · exact .inl fun _ => hb _
  simp only [e4, List.drop_zero]
  refine Gives.now (Okay.same fun ε T D w hT hF hh => ⟨_, rfl, ?_⟩)
  have h1 := opd_ok hx hT hF D
  rw [e1] at h1; simp only [R] at h1
  simp [execOp, ho, convert, run_underlying hs, run_underlying hd, h1]
theorem compBuiltin_good {c : Go.Call} {bi : Builtin} {q : O} (hc : c.callee = .builtin bi) (h : compBuiltin P N bi c.argTypes.toList c.args.toList = some q) : Good P N q (.call c) := by
  unfold compBuiltin at h
  split at h
  · rename_i _ _ x ha
    simp only [Option.bind_eq_some_iff] at h
    obtain ⟨a, hx, h⟩ := h
    cases h0 : c.argTypes.toList.head? with
    | none => rw [h0] at h; simp at h
    | some t =>
      rw [h0] at h
      simp only [Option.bind_some] at h
      split at h
      · rename_i ht; cases h; exact good_lenStr hx hc ha h0 ht
      · rename_i ht; cases h; exact good_lenS hx hc ha h0 ht
      · rename_i ht; cases h; exact good_lenMap hx hc ha h0 ht
      · rename_i ht; cases h; exact good_lenArr hc ha h0 ht
      · cases h
  · rename_i _ _ x y ha
    have tail : ∀ (t t1 e : TypeId) (u : TypeDesc), c.argTypes.toList.head? = some t → P.underlying t = some (.slice e) → c.argTypes.toList[1]? = some t1 → P.underlying t1 = some u → (u = .string ∨ ∃ e', u = .slice e') →
        ((sizeT P e).bind fun s => (P.info? e).bind fun i => (zeroCellsT P e).bind fun z => (opd N x).bind fun a => (opd N y).bind fun b => if z.length == s && s < 65536 && e < 4294901760 then some (.append s i.bytes (if s = 1 then 65536 + e else s) a b) else none) = some q → Good P N q (.call c) := by
      intro t t1 e u h0 h0' h1 h1' hu hq
      simp only [Option.bind_eq_some_iff] at hq
      obtain ⟨s, hs, i, hi, z, hz, a, hx, b, hy, hq⟩ := hq
      split at hq
      · rename_i hl
        cases hq
        simp only [Bool.and_eq_true, decide_eq_true_eq] at hl
        obtain ⟨⟨hl, hs6⟩, he6⟩ := hl
        have hl' := eq_of_beq hl
        have hst : strd (if s = 1 then 65536 + e else s) = s := by
          by_cases h1 : s = 1
          · rw [if_pos h1, strd_row, h1]
          · rw [if_neg h1, strd_small hs6]
        have hel : ElOk (if s = 1 then 65536 + e else s) e 0 := by
          by_cases h1 : s = 1
          · rw [if_pos h1]; exact ElOk.row e 0 he6
          · rw [if_neg h1]; exact ElOk.small hs6
        have hes0 : (if s = 1 then 65536 + e else s) < 4294967296 := by
          by_cases h1 : s = 1
          · rw [if_pos h1]; exact Nat.add_lt_add_left he6 65536
          · rw [if_neg h1]; exact Nat.lt_trans hs6 (by decide)
        unfold zeroCellsT zeroT at hz
        simp only [Option.map_eq_some_iff, Option.bind_eq_some_iff] at hz
        obtain ⟨v, ⟨Z, ⟨i', hi', hz⟩, hv⟩, rfl⟩ := hz
        rw [hi] at hi'; cases hi'
        have hr : Rs (fun _ => ⟨0, 0, 0⟩) (fun _ => .none) v.cells Z.cells.toList := R.cells (toAV_ok hv)
        have hsz : i.size = s := by
          unfold sizeT at hs
          rw [hi] at hs
          simp at hs
          exact hs.2
        refine good_append (e := e) (Z := Z) hst hel hes0 hx hy hc ha ⟨⟨t, ?_, h0'⟩, ⟨t1, u, ?_, h1', hu⟩, hi, hz, hsz, ?_⟩
        · cases hq : c.argTypes with | mk l => rw [hq] at h0; cases l <;> simp_all
        · rw [← h1]; simp
        · have := hr.length; rw [hl'] at this; simpa using this.symm
      · cases hq
    cases h0 : c.argTypes.toList.head? with
    | none => rw [h0] at h; simp at h
    | some t =>
      cases h1 : c.argTypes.toList[1]? with
      | none => rw [h1] at h; simp at h
      | some t1 =>
        rw [h0, h1] at h
        simp only [Option.bind_some] at h
        split at h
        · rename_i hu1 hu2; exact tail _ _ _ _ h0 hu1 h1 hu2 (.inr ⟨_, rfl⟩) h
        · rename_i hu1 hu2; exact tail _ _ _ _ h0 hu1 h1 hu2 (.inl rfl) h
        · cases h
  · rename_i _ _ x y ha
    cases h0 : c.argTypes.toList.head? with
    | none => rw [h0] at h; simp at h
    | some t =>
      rw [h0] at h
      simp only [Option.bind_some] at h
      split at h
      · rename_i ht
        simp only [Option.bind_eq_some_iff, Option.map_eq_some_iff] at h
        obtain ⟨s, hs, a, hx, b, hy, rfl⟩ := h
        exact good_copy hx hy hc ha h0 ht hs
      · cases h
  · rename_i _ _ x ha
    cases h0 : c.argTypes.toList.head? with
    | none => rw [h0] at h; simp at h
    | some t =>
      rw [h0] at h
      simp only [Option.bind_some] at h
      split at h
      · rename_i ht
        simp only [Option.map_eq_some_iff] at h
        obtain ⟨a, hx, rfl⟩ := h
        exact good_capS hx hc ha h0 ht
      · cases h
  · rename_i _ _ x ha
    simp only [Option.map_eq_some_iff] at h
    obtain ⟨a, hx, rfl⟩ := h
    exact good_sdata hx hc ha
  · rename_i _ _ x y ha
    cases h0 : c.argTypes.toList.head? with
    | none => rw [h0] at h; simp at h
    | some t =>
      rw [h0] at h
      simp only [Option.bind_some] at h
      split at h
      · rename_i u ht
        simp only [Option.bind_eq_some_iff] at h
        obtain ⟨a, hx, b, hy, h⟩ := h
        split at h
        · rename_i hcond
          simp only [Bool.and_eq_true, decide_eq_true_eq] at hcond
          cases h
          exact good_ubs hx hy hc ha h0 ht hcond.1 hcond.2
        · cases h
      · cases h
  · rename_i _ _ x ha
    cases h0 : c.argTypes.toList.head? with
    | none => rw [h0] at h; simp at h
    | some t =>
      rw [h0] at h
      simp only [Option.bind_some] at h
      split at h
      · rename_i ht
        simp only [Option.bind_eq_some_iff, Option.map_eq_some_iff] at h
        obtain ⟨z, hz, a, hx, rfl⟩ := h
        exact good_clear hx hc ha h0 ht hz
      · cases h
  · rename_i _ _ x y ha
    simp only [Option.bind_eq_some_iff, Option.map_eq_some_iff] at h
    obtain ⟨a, hx, b, hy, rfl⟩ := h
    exact good_imax hx hy hc ha
  · rename_i _ _ x y ha
    simp only [Option.bind_eq_some_iff, Option.map_eq_some_iff] at h
    obtain ⟨a, hx, b, hy, rfl⟩ := h
    exact good_imin hx hy hc ha
  · cases h
theorem compNil_good {neg : Bool} {op : BinOp} {t u : TypeId} {q : O} (hop : (op = .eql ∧ neg = false) ∨ (op = .neq ∧ neg = true)) (hx : opd N x = some a) (hy : opd N y = some b) (h : compNil P neg t x y a b = some q) : Good P N q (.binOp op t x y u) := by
  unfold compNil at h
  simp only [Option.bind_eq_some_iff] at h
  obtain ⟨k, hk, h⟩ := h
  split at h
  · rename_i hz; cases h; exact (good_isnil hop hx y u hk hz).1
  · split at h
    · rename_i hz; cases h; exact (good_isnil hop hy x u hk hz).2
    · cases h
theorem compBin_good {op : BinOp} {t u : TypeId} {q : O} (h : compBin P N op t x y = some q) : Good P N q (.binOp op t x y u) := by
  unfold compBin at h
  simp only [Option.bind_eq_some_iff] at h
  obtain ⟨a, hx, b, hy, h⟩ := h
  split at h
  all_goals first
    | (cases h; exact good_iadd hx hy _ _)
    | (cases h; exact good_isub hx hy _ _)
    | (cases h; exact good_imul hx hy _ _)
    | (cases h; exact good_iquo hx hy _ _)
    | (cases h; exact good_irem hx hy _ _)
    | (cases h; exact good_iand hx hy _ _)
    | (cases h; exact good_ior hx hy _ _)
    | (cases h; exact good_ishl hx hy _ _)
    | (cases h; exact good_ishr hx hy _ _)
    | (cases h; exact good_lss hx hy _ _)
    | (cases h; exact good_gtr hx hy _ _)
    | (cases h; exact good_geq hx hy _ _)
    | (cases h; exact good_leq hx hy _ _)
    | (cases h; exact good_ieql hx hy _ _)
    | (cases h; exact good_ineq hx hy _ _)
    | (cases h; exact good_sadd hx hy _ _)
    | (cases h; exact good_seq hx hy _ _)
    | (cases h; exact good_sne hx hy _ _)
    | (cases h; exact good_slt hx hy _ _)
    | (rename_i ht; cases h; exact good_eqBool (.inl ⟨rfl, rfl⟩) hx hy u ht)
    | (rename_i ht; cases h; exact good_eqBool (.inr ⟨rfl, rfl⟩) hx hy u ht)
    | exact compNil_good (.inl ⟨rfl, rfl⟩) hx hy h
    | (rename_i ht; split at h
       · exact compNil_good (.inl ⟨rfl, rfl⟩) hx hy h
       · simp only [Option.map_eq_some_iff] at h; obtain ⟨n, hn, rfl⟩ := h; exact good_peq (.inl ⟨rfl, rfl⟩) hx hy ht hn)
    | (rename_i ht; split at h
       · exact compNil_good (.inr ⟨rfl, rfl⟩) hx hy h
       · simp only [Option.map_eq_some_iff] at h; obtain ⟨n, hn, rfl⟩ := h; exact good_peq (.inr ⟨rfl, rfl⟩) hx hy ht hn)
    | exact compNil_good (.inr ⟨rfl, rfl⟩) hx hy h
    | (rename_i ht; split at h
       · cases h
       · rename_i hg; simp only [Option.map_eq_some_iff] at h; obtain ⟨ks, hf, rfl⟩ := h; exact good_eqStruct (.inl ⟨rfl, rfl⟩) hx hy u ht (by simpa using hg) hf)
    | (rename_i ht; split at h
       · cases h
       · rename_i hg; simp only [Option.map_eq_some_iff] at h; obtain ⟨ks, hf, rfl⟩ := h; exact good_eqStruct (.inr ⟨rfl, rfl⟩) hx hy u ht (by simpa using hg) hf)
    | cases h
theorem compOp_good {o : Op} {q : O} (h : compOp P N o = some q) (hc : ∀ c, o = .call c → ∃ b, c.callee = .builtin b) : Good P N q o := by
  unfold compOp at h
  split at h
  · simp only [Option.map_eq_some_iff] at h; obtain ⟨a, hx, rfl⟩ := h; exact good_mov hx
  · simp only [Option.map_eq_some_iff] at h; obtain ⟨a, hx, rfl⟩ := h; exact good_assign hx
  · simp only [Option.map_eq_some_iff, Option.bind_eq_some_iff] at h; obtain ⟨a, hx, b, hy, c, hz, rfl⟩ := h; exact good_pick hx hy hz
  · simp only [Option.map_eq_some_iff] at h; obtain ⟨a, hx, rfl⟩ := h; exact good_alloc hx
  · simp only [Option.map_eq_some_iff] at h; obtain ⟨a, hx, rfl⟩ := h; exact good_box hx
  · simp only [Option.bind_eq_some_iff] at h
    obtain ⟨z, hz, h⟩ := h
    split at h
    · rename_i ht
      simp only [Option.map_eq_some_iff, Option.bind_eq_some_iff] at h
      obtain ⟨pl, hp, q', hq, rfl⟩ := h
      exact good_buildStruct hz ht hp hq
    · rename_i ht
      simp only [Option.map_eq_some_iff, Option.bind_eq_some_iff] at h
      obtain ⟨s, hs, q', hq, rfl⟩ := h
      exact good_buildArray hz ht hs hq
    · cases h
  · split at h
    · rename_i ht
      simp only [Option.bind_eq_some_iff] at h
      obtain ⟨s, hs, z, hz, q', hq, h⟩ := h
      split at h
      · rename_i hc'
        cases h
        simp only [Bool.and_eq_true, decide_eq_true_eq, beq_iff_eq] at hc'
        exact good_buildSlice ht hs hz hq hc'.1 hc'.2
      · cases h
    · cases h
  · simp only [Option.bind_eq_some_iff] at h
    obtain ⟨a, hx, g, hg, h⟩ := h
    split at h
    · rename_i hgt
      subst hgt
      simp only [Option.map_eq_some_iff] at h
      obtain ⟨n, hn, rfl⟩ := h
      exact good_loadA hx hg hn
    · rename_i hgt
      cases h
      exact good_loadS hx (by rw [hg]; simp at hgt; rw [hgt])
  · simp only [Option.map_eq_some_iff, Option.bind_eq_some_iff] at h
    obtain ⟨a, hx, b, hy, n, hn, rfl⟩ := h
    exact good_store hx hy hn
  · simp only [Option.map_eq_some_iff] at h; obtain ⟨a, hx, rfl⟩ := h; exact good_nilCheck hx
  · exact compBin_good h
  · simp only [Option.map_eq_some_iff] at h; obtain ⟨a, hx, rfl⟩ := h; exact good_not hx _
  · split at h
    · simp only [Option.map_eq_some_iff] at h; obtain ⟨a, hx, rfl⟩ := h; exact good_neg hx _
    · cases h
  · simp only [Option.bind_eq_some_iff] at h
    obtain ⟨a, hx, h⟩ := h
    split at h
    · rename_i hs hd; cases h; exact good_convI hx hs hd
    · rename_i hs hd; cases h; exact good_convS hx hs hd
    · rename_i hs hd
      split at h
      · rename_i he; cases h; exact good_b2s hx hs hd he
      · cases h
    · rename_i hs hd
      split at h
      · rename_i he
        split at h
        · rename_i hlt; cases h; exact good_s2b hx hs hd he hlt
        · cases h
      · cases h
    · rename_i hs hd
      simp only [Option.map_eq_some_iff] at h
      obtain ⟨n, hn, rfl⟩ := h
      exact good_p2u hx hs hd hn
    · rename_i hs hd
      simp only [Option.map_eq_some_iff] at h
      obtain ⟨n, hn, rfl⟩ := h
      exact good_u2p hx hs hd hn
    · cases h
  · simp only [Option.map_eq_some_iff, Option.bind_eq_some_iff] at h
    obtain ⟨p, hp, q', hq, rfl⟩ := h
    exact good_mkFunc hp hq
  · cases h; exact good_mkMap
  · split at h
    · rename_i ht
      simp only [Option.bind_eq_some_iff] at h
      obtain ⟨s, hs, i, hi, z, hz, l, hl, c, hc', h⟩ := h
      split at h
      · rename_i hzl; cases h; exact good_mkSlice ht hs hi hz (eq_of_beq hzl) hl hc'
      · cases h
    · cases h
  · rename_i t x lo hi mx
    simp only [Option.bind_eq_some_iff] at h
    obtain ⟨a, hx, l, hl, h', hh, m, hm, h⟩ := h
    have hno : opo N mx = some .no → mx = none := fun hm => by
      cases mx with
      | none => rfl
      | some y => simp [opo] at hm
    split at h
    · rename_i ht
      cases h
      have := hno hm
      subst this
      exact good_sliceStr hx hl hh ht
    · rename_i ht
      split at h
      · cases h
      · rename_i hn
        simp only [Option.map_eq_some_iff] at h
        obtain ⟨s, hs, rfl⟩ := h
        refine good_sliceSlc hx hl hh hm ht hs fun hi => ?_
        subst hi
        cases mx with
        | none => rfl
        | some y => simp at hn
    · rename_i ht
      simp only [Option.map_eq_some_iff] at h
      obtain ⟨s, hs, rfl⟩ := h
      have := hno hm
      subst this
      exact good_sliceArr hx hl hh ht hs
    · cases h
  · simp only [Option.bind_eq_some_iff] at h
    obtain ⟨a, hx, h⟩ := h
    split at h
    · rename_i ht
      simp only [Option.map_eq_some_iff, Option.bind_eq_some_iff] at h
      obtain ⟨fd, hf, n, hn, rfl⟩ := h
      exact good_faddr hx ht hf hn
    · cases h
  · simp only [Option.bind_eq_some_iff] at h
    obtain ⟨a, hx, h⟩ := h
    split at h
    · rename_i ht
      simp only [Option.map_eq_some_iff, Option.bind_eq_some_iff] at h
      obtain ⟨fd, hf, n, hn, g, hg, rfl⟩ := h
      exact good_field hx ht hf hn hg
    · cases h
  · simp only [Option.bind_eq_some_iff] at h
    obtain ⟨a, hx, b, hy, h⟩ := h
    split at h
    · rename_i ht
      simp only [Option.map_eq_some_iff] at h
      obtain ⟨s, hs, rfl⟩ := h
      exact good_iaddrS hx hy ht hs
    · rename_i ht
      simp only [Option.map_eq_some_iff] at h
      obtain ⟨s, hs, rfl⟩ := h
      exact good_iaddrA hx hy ht hs
    · cases h
  · simp only [Option.bind_eq_some_iff] at h
    obtain ⟨a, hx, b, hy, h⟩ := h
    split at h
    · rename_i ht
      cases h
      exact good_indexStr hx hy ht
    · rename_i ht
      simp only [Option.map_eq_some_iff, Option.bind_eq_some_iff] at h
      obtain ⟨s, hs, g, hg, rfl⟩ := h
      exact good_indexArr hx hy ht hs hg
    · cases h
  · simp only [Option.bind_eq_some_iff] at h
    obtain ⟨a, hx, b, hy, h⟩ := h
    split at h
    · rename_i ht
      split at h
      · rename_i hk
        simp only [Option.map_eq_some_iff] at h
        obtain ⟨z, hz, rfl⟩ := h
        exact good_lookup hx hy ht hk (.inl ⟨rfl, rfl⟩) hz
      · rename_i hk
        simp only [Option.map_eq_some_iff] at h
        obtain ⟨z, hz, rfl⟩ := h
        exact good_lookup hx hy ht hk (.inr ⟨rfl, _, rfl⟩) hz
      · cases h
    · cases h
  · simp only [Option.bind_eq_some_iff] at h
    obtain ⟨a, hx, b, hy, c, hz, h⟩ := h
    split at h
    · rename_i ht
      split at h
      · rename_i hk; cases h; exact good_mapUpd (.inl rfl) hx hy hz ht hk (.inl ⟨rfl, rfl⟩)
      · rename_i hk; cases h; exact good_mapUpd (.inl rfl) hx hy hz ht hk (.inr ⟨rfl, _, rfl⟩)
      · cases h
    · cases h
  · simp only [Option.bind_eq_some_iff] at h
    obtain ⟨a, hx, b, hy, c, hz, h⟩ := h
    split at h
    · rename_i ht
      split at h
      · rename_i hk; cases h; exact good_mapUpd (.inr rfl) hx hy hz ht hk (.inl ⟨rfl, rfl⟩)
      · rename_i hk; cases h; exact good_mapUpd (.inr rfl) hx hy hz ht hk (.inr ⟨rfl, _, rfl⟩)
      · cases h
    · cases h
  · split at h
    · rename_i ht
      simp only [Option.map_eq_some_iff] at h
      obtain ⟨a, hx, rfl⟩ := h
      exact good_rangeE hx ht
    · cases h
  · simp only [Option.map_eq_some_iff] at h; obtain ⟨a, hx, rfl⟩ := h; exact good_nextE hx
  · simp only [Option.map_eq_some_iff] at h; obtain ⟨a, hx, rfl⟩ := h; exact good_extract hx
  · rename_i c
    obtain ⟨bi, hb⟩ := hc c rfl
    rw [hb] at h
    exact compBuiltin_good hb h
  · cases h
end Go.Ai
set_option autoImplicit false
namespace Go.Ai
set_option linter.unusedSectionVars false
variable [Nu]
open Go
variable {P : Program} {N : Nat} {ε : Env} {m : Mem} {w : World}

def Back (Q : Value → World → Prop) : Ending → World → Prop
  | .returned v, w => Q v w
  | _, _ => False
def Reach (P : Program) (Q : Value → World → Prop) : Next → World → Prop
  | .value v, w => Q v w
  | .skip, w => Q undef w
  | .enter f args, w => CallsIn Fence.wide 0 P f args w (Back Q)
  | .row r args, w => RowsIn Fence.wide 0 P r args w Q
  | .round l f tmps assign body, w => RoundIn Fence.wide 0 P l f tmps assign body w (Back Q)
  | _, _ => False
def Rel (P : Program) (ε : Env) (m : Mem) (w : World) (v : AV) (m' : Mem) : Value → World → Prop := fun V w' => ∃ ε', Adv P ε m w ε' m' w' ∧ R ε' m' v V
def CallOk (P : Program) (p : Path) (args : List AV) (h : H) (v : AV) (h' : H) : Prop := ∀ (ε : Env) (w : World), HRel P ε h.mem w →
  (∀ (f : FuncId) (A : List Value), f < 8191 → p = pathOf f → Rs ε h.mem args A → ∃ nx w1, (callFunc f A.toArray).run P w = .ok nx w1 ∧ Reach P (Rel P ε h.mem w v h'.mem) nx w1 ∧ ((nx = .enter f A.toArray ∧ w1 = w) ∨ ∀ o, AV.yld o ∉ args)) ∧
  (∀ (o : Path) (vs : List AV) (A : List Value), p = pathOf 8191 → args = .yld o :: vs → h.mem.has o → Rs ε h.mem vs A → ∃ nx w1, (Instr.yield (ε o).blk A.toArray).run P w = .ok nx w1 ∧ Reach P (Rel P ε h.mem w v h'.mem) nx w1)
def CallGood (P : Program) (call : Call) : Prop := ∀ p args h, Gives (call p args h) (CallOk P p args h)
def OkayC (P : Program) (N : Nat) (oper : Oper) (fr : FT) (h : H) (v : AV) (h' : H) : Prop :=
  ∀ (ε : Env) (T : Array Value) (D : List Deferred) (w : World), T.size = N → FRel ε h.mem fr T → HRel P ε h.mem w →
    ∃ nx w1, (execOp (Act.mk T D).eval oper).run P w = .ok nx w1 ∧ Reach P (Rel P ε h.mem w v h'.mem) nx w1
theorem Okay.toC {oper : Oper} {fr : FT} {h h' : H} {v : AV} (hk : Okay P N oper fr h v h') : OkayC P N oper fr h v h' := by
  intro ε T D w hT hF hh
  obtain ⟨ε', V, w', adv, r, h1 | ⟨h1, rfl⟩⟩ := hk ε T D w hT hF hh
  · exact ⟨_, _, h1, ε', adv, r⟩
  · exact ⟨_, _, h1, ε', adv, r⟩
theorem Gives.mono {r : Kont → Res} {Φ Ψ : AV → H → Prop} (h : Gives r Φ) (hi : ∀ v h, Φ v h → Ψ v h) : Gives r Ψ := by
  rcases h with hb | ⟨v, h, e, p⟩
  · exact .inl hb
  · exact .inr ⟨v, h, e, hi _ _ p⟩
theorem evs_ok {args : List Operand} {as : List Opd} {fr : FT} {T : Array Value} (h : opds N args = some as) (hT : T.size = N) (hF : FRel ε m fr T) (D : List Deferred) : Rs ε m (evs as fr) (args.map (Act.mk T D).eval) := opds_ok h hT hF D
theorem onFnY_w (v : AV) : (∀ kk yy, Bad (v.onFnY kk yy)) ∨ (∃ f a c, v = .fn f a c) ∨ ∃ o, v = .yld o := by
  cases v <;> first | exact .inr (.inl ⟨_, _, _, rfl⟩) | exact .inr (.inr ⟨_, rfl⟩) | exact .inl fun _ _ => ⟨_, rfl⟩
theorem force_eq (v : AV) (k : AV → Res) : v.force k = k v := by cases v <;> rfl
theorem evsK_eq (l : List Opd) (fr : FT) (k : List AV → Res) : evsK l fr k = k (evs l fr) := by
  induction l generalizing k with
  | nil => rfl
  | cons x t ih =>
    show (x.ev fr).force (fun v => evsK t fr fun vs => k (v :: vs)) = _
    rw [force_eq, ih]; rfl
theorem good_calls {call : Call} (hC : CallGood P call) {oper : Oper} {q : O} (hq : compOp P N oper.op = some q) (fr : FT) (h : H) : Gives (q.step call fr h) (OkayC P N oper fr h) := by
  by_cases hc : ∀ c, oper.op = .call c → ∃ b, c.callee = .builtin b
  · exact (compOp_good hq hc oper rfl call fr h).mono fun _ _ => Okay.toC
  · simp only [Classical.not_forall] at hc
    obtain ⟨c, ho, hb⟩ := hc
    rw [ho] at hq
    unfold compOp at hq
    cases hcl : c.callee with
    | builtin b => exact absurd ⟨b, hcl⟩ hb
    | invoke r n => simp only [hcl] at hq; cases hq
    | value x =>
      have hargs : ∀ ρ : Operand → Value, c.args.map ρ = (c.args.toList.map ρ).toArray := fun ρ => by apply Array.ext'; simp
      by_cases hx : ∃ f, x = .func f
      · obtain ⟨f, rfl⟩ := hx
        simp only [hcl] at hq
        split at hq
        · rename_i hf
          simp only [Option.map_eq_some_iff] at hq
          obtain ⟨as, ha, rfl⟩ := hq
          have e0 : (fun k => (O.call (pathOf f) as).step call fr h k) = fun k => call (pathOf f) (evs as fr) h k := funext fun k => by
            show evsK as fr _ = _
            rw [evsK_eq]
          show Gives (fun k => (O.call (pathOf f) as).step call fr h k) _
          rw [e0]
          refine (hC (pathOf f) (evs as fr) h).mono fun v h' hk ε T D w hT hF hh => ?_
          obtain ⟨nx, w1, h1, h2, _⟩ := (hk ε w hh).1 f _ hf rfl (evs_ok ha hT hF D)
          refine ⟨nx, w1, ?_, h2⟩
          simp [execOp, ho, resolve, hcl, hargs, Deferred.ofValue, Act.eval, invoke, h1]
        · cases hq
      · have hq' : ((opd N x).bind fun x => (opds N c.args.toList).map fun a => O.callv x a) = some q := by
          simp only [hcl] at hq
          cases x <;> first | exact hq | exact absurd ⟨_, rfl⟩ hx
        simp only [Option.map_eq_some_iff, Option.bind_eq_some_iff] at hq'
        obtain ⟨a, hx', as, ha, rfl⟩ := hq'
        show Gives (fun k => (a.ev fr).onFnY (fun g p c => must 12 (Nat.blt g 8191) (call (pathOf g) (lapp p (lapp (evs as fr) c)) h k)) (fun o => call (pathOf 8191) (.yld o :: evs as fr) h k)) _
        rcases onFnY_w (a.ev fr) with hb | ⟨g, p, cc, e1⟩ | ⟨o, e1⟩
        · exact .inl fun _ => hb _ _
        · simp only [e1]
          show Gives (fun k => must 12 (Nat.blt g 8191) (call (pathOf g) (lapp p (lapp (evs as fr) cc)) h k)) _
          rcases must_w 12 (Nat.blt g 8191) with hb | ⟨h2, e2⟩
          · exact .inl fun _ => hb _
          simp only [e2]
          refine (hC (pathOf g) _ h).mono fun v h' hk ε T D w hT hF hh => ?_
          have h3 := opd_ok hx' hT hF D
          rw [e1] at h3; simp only [R] at h3
          obtain ⟨A, C, h4, r1, r2⟩ := h3
          rw [blt_dec] at h2
          rw [lapp_eq, lapp_eq] at hk
          obtain ⟨nx, w1, h5, h6, _⟩ := (hk ε w hh).1 g _ (of_decide_eq_true h2) rfl (r1.append ((evs_ok ha hT hF D).append r2))
          refine ⟨nx, w1, ?_, h6⟩
          have h7 : (A.toArray ++ (c.args.toList.map (Act.mk T D).eval).toArray) ++ C.toArray = (A ++ (c.args.toList.map (Act.mk T D).eval ++ C)).toArray := by apply Array.ext'; simp
          clear hq
          have h8 : (invoke (.fn (.func g) C.toArray) (A.toArray ++ (c.args.toList.map (Act.mk T D).eval).toArray)).run P w = .ok nx w1 := by
            show (callFunc g ((A.toArray ++ (c.args.toList.map (Act.mk T D).eval).toArray) ++ C.toArray)).run P w = _
            rw [h7, h5]
          simp only [execOp, ho, resolve, hcl, hargs, h4, Deferred.ofValue, Sem.run_bind, Sem.run_pure, Result.andThen]
          exact h8
        · simp only [e1]
          show Gives (fun k => call (pathOf 8191) (.yld o :: evs as fr) h k) _
          refine (hC (pathOf 8191) _ h).mono fun v h' hk ε T D w hT hF hh => ?_
          have h3 := opd_ok hx' hT hF D
          rw [e1] at h3; simp only [R] at h3
          obtain ⟨nx, w1, h5, h6⟩ := (hk ε w hh).2 o _ _ rfl rfl h3.1 (evs_ok ha hT hF D)
          refine ⟨nx, w1, ?_, h6⟩
          clear hq
          have h8 : (invoke (.fn (.yield (ε o).blk) #[]) (#[] ++ (c.args.toList.map (Act.mk T D).eval).toArray)).run P w = .ok nx w1 := by
            rw [Array.empty_append]
            exact h5
          simp only [execOp, ho, resolve, hcl, hargs, h3.2, Deferred.ofValue, Sem.run_bind, Sem.run_pure, Result.andThen]
          exact h8
end Go.Ai
set_option autoImplicit false
namespace Go.Ai
set_option linter.unusedSectionVars false
variable [Nu]
open Go
variable {P : Program} {N : Nat} {ε : Env} {m : Mem} {w : World}

def wideR (r : Option Nat) : Fence := { Fence.wide with round := r }
theorem reach_wpIn {r : Option Nat} {o : Oper} {a : Act} {next : Act → World → Prop} {Q : Exit → Act → World → Prop} {nx : Next} {w w1 : World} (hd : ∀ c, o.op ≠ .defer c) (hrun : (execOp a.eval o).run P w = .ok nx w1) {K : Value → World → Prop} (hre : Reach P K nx w1) (hk : ∀ V w', K V w' → next (a.put o.dst V) w') :
    o.wpIn (wideR r) 0 P a w next Q := by
  refine ⟨fun _ _ => trivial, ?_⟩
  rw [Oper.semAt_eq _ _ _ hd, hrun]
  cases nx <;> simp only [Reach] at hre <;> first
    | exact hk _ _ hre
    | exact hre.elim
    | (refine ⟨fun h => (by cases h), ?_⟩
       have h1 : CallsIn (wideR r) 0 P _ _ w1 (Back K) := hre
       exact h1.mono fun e w' h => by cases e <;> first | exact hk _ _ h | exact h.elim)
    | (refine ⟨fun h => (by cases h), ?_⟩
       have h1 : RowsIn (wideR r) 0 P _ _ w1 K := hre
       exact h1.mono fun v w' h => hk _ _ h)
    | (refine ⟨fun h => (by cases h), ?_⟩
       have h1 : RoundIn (wideR r) 0 P _ _ _ _ _ w1 (Back K) := hre
       exact h1.mono fun e w' h => by cases e <;> first | exact hk _ _ h | exact h.elim)
theorem badO_bad (call : Call) (fr : FT) (h : H) (k : Kont) : Bad (badO.step call fr h k) := ⟨_, rfl⟩
theorem oper_gives {call : Call} (hC : CallGood P call) (oper : Oper) (fr : FT) (h : H) : (∀ k, Bad (((compOp P N oper.op).getD badO).step call fr h k)) ∨ ((∀ c, oper.op ≠ .defer c) ∧ Gives (((compOp P N oper.op).getD badO).step call fr h) (OkayC P N oper fr h)) := by
  cases hq : compOp P N oper.op with
  | none => exact .inl fun k => badO_bad call fr h k
  | some q =>
    have h1 := good_calls hC hq fr h
    exact .inr ⟨fun c hc => (by rw [hc] at hq; cases hq), h1⟩
theorem onGuard_w (v : AV) (want : Bool) : (∀ y n, Bad (v.onGuard want y n)) ∨ ∃ t : Bool, (∀ y n, v.onGuard want y n = ifC t y n) ∧ ((v = .undef ∧ t = false) ∨ ∃ b, v = .bool b ∧ t = (b == want)) := by
  cases v <;> first
    | exact .inr ⟨false, fun _ _ => rfl, .inl ⟨rfl, rfl⟩⟩
    | exact .inl fun _ _ => ⟨_, rfl⟩
    | (rename_i b; exact .inr ⟨b == want, fun y n => by cases b <;> cases want <;> rfl, .inr ⟨b, rfl, rfl⟩⟩)
theorem guard_w {ops : Array Oper} {gd : Option (Nat × Bool)} {g : G} (hg : guardOf N ops gd = some g) (fr : FT) : (∀ y n, Bad (g.on' fr y n)) ∨ ∃ t : Bool, (∀ y n, g.on' fr y n = ifC t y n) ∧
    ∀ (ε : Env) (m : Mem) (T : Array Value) (o : Oper), o.guard = gd → T.size = N → FRel ε m fr T → Region.wanted o (yielded ops T) = t := by
  cases gd with
  | none => cases hg; exact .inr ⟨true, fun _ _ => rfl, fun ε m T o ho _ _ => by simp [Region.wanted, ho]⟩
  | some p =>
    obtain ⟨j, want⟩ := p
    simp only [guardOf, Option.bind_eq_some_iff] at hg
    obtain ⟨t, hj, hg⟩ := hg
    split at hg
    · rename_i ht
      cases hg
      have e0 : ∀ y n, (G.on (tmOf t) want).on' fr y n = (fget (pathOf t) fr).onGuard want y n := fun _ _ => rfl
      simp only [e0]
      rcases onGuard_w (fget (pathOf t) fr) want with hb | ⟨b, e1, e2⟩
      · exact .inl hb
      refine .inr ⟨b, e1, fun ε m T o ho hT hF => ?_⟩
      obtain ⟨V, h1, h2⟩ := hF t (hT.symm ▸ ht)
      obtain ⟨o', ho', hd⟩ := hj
      have h3 : yielded ops T j = match V with | .bool b => some b | _ => none := by
        unfold yielded
        rw [ho']
        simp only [Option.bind_some, hd, h1]
        cases V <;> rfl
      simp only [Region.wanted, ho, h3]
      rcases e2 with ⟨e2, rfl⟩ | ⟨c, e2, rfl⟩ <;> rw [e2] at h2 <;> simp only [R] at h2 <;> subst h2
      · rfl
      · cases c <;> cases want <;> rfl
    · cases hg
theorem put_size (a : Act) (d : Option Tmp) (V : Value) : (a.put d V).tmps.size = a.tmps.size := by cases d <;> simp [Act.put]
theorem put_defers (a : Act) (d : Option Tmp) (V : Value) : (a.put d V).defers = a.defers := by cases d <;> rfl
theorem put_ok {d : Option Tmp} {dd : D} (hd : dstOf N d = some dd) {a : Act} {fr : FT} {v : AV} {V : Value} (hT : a.tmps.size = N) (hN : N ≤ 1048576) (hF : FRel ε m fr a.tmps) (r : R ε m v V) : FRel ε m (dd.put v fr) (a.put d V).tmps := by
  cases d with
  | none => cases hd; exact hF
  | some t =>
    simp only [dstOf] at hd
    split at hd
    · rename_i ht
      cases hd
      exact hF.put (by omega) (hT.symm ▸ ht) r
    · cases hd
def Goes (P : Program) (N : Nat) (Q : Exit → Act → World → Prop) (fr' : FT) (h' : H) (e : Exit) (ε : Env) (m : Mem) (a : Act) (w : World) : Prop :=
  ∀ ε' a' w', a'.tmps.size = N → a'.defers = a.defers → Adv P ε m w ε' h'.mem w' → FRel ε' h'.mem fr' a'.tmps → Q e a' w'
theorem seqRegion {call : Call} (hC : CallGood P call) (hN : N ≤ 1048576) (ops : Array Oper) (r : Option Nat) : ∀ (l : List Oper) (i : Nat) (fr : FT) (h : H) (hs : List H), ops.toList.drop i = l → Bad ((region P N ops l).run call fr h hs) ∨ ∃ fr' h', (region P N ops l).run call fr h hs = .nrm fr' h' ∧
    ∀ (ε : Env) (a : Act) (w : World) (Q : Exit → Act → World → Prop), a.tmps.size = N → FRel ε h.mem fr a.tmps → HRel P ε h.mem w → Goes P N Q fr' h' .normal ε h.mem a w → wpOpsIn (wideR r) 0 P ops Q (List.range' i l.length) a w := by
  intro l
  induction l with
  | nil =>
    intro i fr h hs _
    exact .inr ⟨fr, h, rfl, fun ε a w Q hT hF hh hq => hq ε a w hT rfl (.refl hh) hF⟩
  | cons o t ih =>
    intro i fr h hs hl
    have hi : ops[i]? = some o := by
      have := congrArg (·[0]?) hl
      simpa using this
    have ht : ops.toList.drop (i + 1) = t := by rw [← List.drop_drop, hl]; rfl
    cases hd : dstOf N o.dst with
    | none =>
      left
      have e0 : region P N ops (o :: t) = .op .no .no badO .nil := by rw [region]; rw [hd]
      rw [e0]
      exact badO_bad call fr h fun v h => .nrm fr h
    | some d =>
      cases hg : guardOf N ops o.guard with
      | none =>
        left
        have e0 : region P N ops (o :: t) = .op .no .no badO .nil := by rw [region]; rw [hd, hg]
        rw [e0]
        exact badO_bad call fr h fun v h => .nrm fr h
      | some g =>
        have e0 : region P N ops (o :: t) = .op d g ((compOp P N o.op).getD badO) (region P N ops t) := by rw [region]; rw [hd, hg]
        rw [e0]
        have e1 : (L.op d g ((compOp P N o.op).getD badO) (region P N ops t)).run call fr h hs = g.on' fr (((compOp P N o.op).getD badO).step call fr h fun v h => (region P N ops t).run call (d.put v fr) h hs) ((region P N ops t).run call (d.put .undef fr) h hs) := by cases d <;> cases g <;> rfl
        rw [e1]
        rcases guard_w hg fr with hb | ⟨b, e2, e3⟩
        · exact .inl (hb _ _)
        rw [e2]
        cases b with
        | true =>
          rw [ifC_true]
          rcases oper_gives (N := N) hC o fr h with hb | ⟨hnd, hb | ⟨v, h1, e4, ok⟩⟩
          · exact .inl (hb _)
          · exact .inl (hb _)
          rw [e4]
          rcases ih (i + 1) (d.put v fr) h1 hs ht with hb | ⟨fr', h', e5, hgo⟩
          · exact .inl hb
          refine .inr ⟨fr', h', e5, fun ε a w Q hT hF hh hq => ?_⟩
          have hw := e3 ε h.mem a.tmps o rfl hT hF
          rw [List.length_cons, List.range'_succ]
          simp only [wpOpsIn, hi, hw, if_true]
          obtain ⟨nx, w1, hrun, hre⟩ := ok ε a.tmps a.defers w hT hF hh
          refine reach_wpIn hnd hrun hre fun V w' ⟨ε', adv, rV⟩ => ?_
          refine hgo ε' (a.put o.dst V) w' Q (by rw [put_size]; exact hT) (put_ok hd hT hN (hF.mono adv.stays) rV) adv.rel fun ε'' a'' w'' h3 h4 h5 h6 => hq ε'' a'' w'' h3 (by rw [h4, put_defers]) (adv.trans h5) h6
        | false =>
          rw [ifC_false]
          rcases ih (i + 1) (d.put .undef fr) h hs ht with hb | ⟨fr', h', e5, hgo⟩
          · exact .inl hb
          refine .inr ⟨fr', h', e5, fun ε a w Q hT hF hh hq => ?_⟩
          have hw := e3 ε h.mem a.tmps o rfl hT hF
          rw [List.length_cons, List.range'_succ]
          simp only [wpOpsIn, hi, hw, Bool.false_eq_true, if_false]
          refine ⟨fun _ _ => trivial, ?_⟩
          refine hgo ε (a.put o.dst undef) w Q (by rw [put_size]; exact hT) (put_ok hd hT hN hF rfl) hh fun ε'' a'' w'' h3 h4 h5 h6 => hq ε'' a'' w'' h3 (by rw [h4, put_defers]) h5 h6
end Go.Ai
set_option autoImplicit false
namespace Go.Ai
set_option linter.unusedSectionVars false
variable [Nu]
open Go
variable {P : Program} {N : Nat} {ε ε' : Env} {m m' : Mem} {w w' : World}

theorem stepR_scope {P : Program} {b : Frame} {a : Act} {k : List Item} {cs : List Frame} {w : World} {c : Code} : step P (lone (b.atR a (.code (.scope c) :: k)) cs w) = .next (lone (b.atR a (.code c :: .inScope c :: k)) cs w) :=
  step_lone_go (by simp [stepG, stepG.exec, Frame.atR])
theorem stepR_inScope {P : Program} {b : Frame} {a : Act} {k : List Item} {cs : List Frame} {w : World} {c : Code} : step P (lone (b.atR a (.inScope c :: k)) cs w) = .next (lone (b.atR a k) cs w) :=
  step_lone_go (by simp [stepG, stepG.exec, Frame.atR])
theorem wpIn_scope {F : Fence} {n : Nat} {c : Code} {Q : Exit → Act → World → Prop} {a : Act} {w : World} (h : c.wpIn F n P (fun e a w => (∀ l, e ≠ .goto l) ∧ Q e a w) a w) : (Code.scope c).wpIn F n P Q a w := by
  intro b k cs hro hb hr
  have h0 : (lone (b.atR a (.code (.scope c) :: k)) cs w).fenced P F := fenced_calm hb hr rfl
  obtain ⟨e, a₁, w₁, ⟨hg, hq⟩, harr⟩ := h b (.inScope c :: k) cs hro hb hr
  cases e with
  | normal => exact ⟨.normal, a₁, w₁, hq, .head h0 stepR_scope (StepsIn.trans harr (.one (fenced_calm hb hr rfl) stepR_inScope))⟩
  | exit id =>
    have hx : exitTo id (.inScope c :: k) = exitTo id k := by simp [exitTo]
    exact ⟨_, a₁, w₁, hq, fun k' hk => .head h0 stepR_scope (harr.1 k' (by rw [hx]; exact hk)),
      fun hr' hk => let ⟨k₁, h1, h2⟩ := harr.2 hr' (by rw [hx]; exact hk); ⟨k₁, h1, .head h0 stepR_scope h2⟩⟩
  | goto l => exact absurd rfl (hg l)
  | ret => exact ⟨_, a₁, w₁, hq, .of_steps (.one h0 stepR_scope) harr⟩
  | panic ch => exact ⟨_, a₁, w₁, hq, .of_steps (.one h0 stepR_scope) harr⟩
  | outgrown => exact ⟨_, a₁, w₁, hq, .of_steps (.one h0 stepR_scope) harr⟩
def markOf (r : Nat) : Deferred := { target := .collected r, args := #[] }
def Ctx (r : Option Nat) (base : Nat) (D : List Deferred) (ε : Env) (m : Mem) (w : World) : Prop :=
  match r with
  | none => ∃ rs : List Nat, D = rs.map markOf ∧ rs.Nodup ∧ ∀ b ∈ rs, base ≤ b ∧ b < w.heap.size ∧ w.heap[b]? = some (.deferred (some [])) ∧ ¬ owned ε m b
  | some l => D = [] ∧ ∃ o, (ε o).blk = l ∧ isLoop (m o)
theorem Adv.free (h : Adv P ε m w ε' m' w') {b : Nat} (hb : b < w.heap.size) (ho : ¬ owned ε m b) : ¬ owned ε' m' b := by
  rintro ⟨o, hl, rfl⟩
  rcases h.own o hl with h1 | h1
  · exact ho h1
  · omega
theorem isLoop_has {m : Mem} {o : Path} (h : isLoop (m o)) : m.has o := fun e => by rw [e] at h; exact h
theorem Ctx.adv {r : Option Nat} {base : Nat} {D : List Deferred} (h : Ctx r base D ε m w) (adv : Adv P ε m w ε' m' w') : Ctx r base D ε' m' w' := by
  cases r with
  | none =>
    obtain ⟨rs, h1, h2, h3⟩ := h
    refine ⟨rs, h1, h2, fun b hb => ?_⟩
    obtain ⟨h4, h5, h6, h7⟩ := h3 b hb
    exact ⟨h4, Nat.lt_of_lt_of_le h5 adv.size, by rw [adv.frame b h5 h7]; exact h6, adv.free h5 h7⟩
  | some l =>
    obtain ⟨h1, o, h2, h3⟩ := h
    exact ⟨h1, o, by rw [(adv.stays o (isLoop_has h3)).2]; exact h2, adv.loop o h3⟩
inductive Ends : Res → Exit → FT → H → Prop
  | nrm (fr : FT) (h : H) : Ends (.nrm fr h) .normal fr h
  | ext (id : Nat) (fr : FT) (h : H) : Ends (.ext id fr h) (.exit id) fr h
  | ret (fr : FT) (h : H) : Ends (.ret fr h) .ret fr h
def Then (P : Program) (N : Nat) (r : Option Nat) (base : Nat) (Q : Exit → Act → World → Prop) (fr' : FT) (h' : H) (e : Exit) (ε : Env) (m : Mem) (w : World) : Prop :=
  ∀ ε' a' w', a'.tmps.size = N → Ctx r base a'.defers ε' h'.mem w' → Adv P ε m w ε' h'.mem w' → FRel ε' h'.mem fr' a'.tmps → Q e a' w'
def CodeOk (P : Program) (N : Nat) (r : Option Nat) (c : Code) (fr : FT) (h : H) (res : Res) : Prop :=
  Bad res ∨ ∃ e fr' h', Ends res e fr' h' ∧ ∀ (base : Nat) (ε : Env) (a : Act) (w : World) (Q : Exit → Act → World → Prop), a.tmps.size = N → FRel ε h.mem fr a.tmps → HRel P ε h.mem w → base ≤ w.heap.size → Ctx r base a.defers ε h.mem w →
    Then P N r base Q fr' h' e ε h.mem w → c.wpIn (wideR r) 0 P Q a w
theorem ends_bad {res : Res} {e : Exit} {fr : FT} {h : H} (he : Ends res e fr h) : (e = .normal ∧ res = .nrm fr h) ∨ (∃ id, e = .exit id ∧ res = .ext id fr h) ∨ (e = .ret ∧ res = .ret fr h) := by
  cases he with
  | nrm => exact .inl ⟨rfl, rfl⟩
  | ext id => exact .inr (.inl ⟨id, rfl, rfl⟩)
  | ret => exact .inr (.inr ⟨rfl, rfl⟩)
theorem then_nrm {K : Act → World → Prop} {Q : Exit → Act → World → Prop} {r : Option Nat} {base : Nat} {fr' : FT} {h' : H} {e : Exit} (hn : e = .normal → Then P N r base (fun _ a w => K a w) fr' h' .normal ε m w) (he : e ≠ .normal → Then P N r base Q fr' h' e ε m w) : Then P N r base (Exit.then K Q) fr' h' e ε m w := by
  cases e with
  | normal => exact hn rfl
  | _ => exact he (by simp)
theorem rounds_ok {call : Call} {r : Option Nat} {c : Code} (ih : ∀ (fr : FT) (h : H), CodeOk P N r c fr h ((code P N c).run call fr h)) : ∀ (n : Nat) (fr : FT) (h : H), Bad (rounds ((code P N c).run call) n fr h) ∨ ∃ e fr' h', Ends (rounds ((code P N c).run call) n fr h) e fr' h' ∧
    ∀ (base : Nat) (ε : Env) (a : Act) (w : World) (Q : Exit → Act → World → Prop) (k : Nat), a.tmps.size = N → FRel ε h.mem fr a.tmps → HRel P ε h.mem w → base ≤ w.heap.size → Ctx r base a.defers ε h.mem w →
      (e = .normal → Then P N r base (fun _ a w => Code.roundsIn (wideR r) 0 P c Q k a w) fr' h' .normal ε h.mem w) → (e ≠ .normal → Then P N r base Q fr' h' e ε h.mem w) → Code.roundsIn (wideR r) 0 P c Q (k + 2 ^ n) a w := by
  intro n
  induction n with
  | zero =>
    intro fr h
    rcases ih fr h with hb | ⟨e, fr1, h1, he, hx⟩
    · exact .inl hb
    exact .inr ⟨e, fr1, h1, he, fun base ε a w Q k hT hF hh hb hc hn hq => hx base ε a w _ hT hF hh hb hc (then_nrm hn hq)⟩
  | succ n ihn =>
    intro fr h
    have e0 : rounds ((code P N c).run call) (n + 1) fr h = Res.casesOn (motive := fun _ => Res) (rounds ((code P N c).run call) n fr h) (rounds ((code P N c).run call) n) .ext .ret .fin .bad := rfl
    rw [e0]
    rcases ihn fr h with ⟨i, hb⟩ | ⟨e, fr1, h1, he, hx⟩
    · rw [hb]; exact .inl ⟨i, rfl⟩
    have hp : ∀ k, k + 2 ^ (n + 1) = k + 2 ^ n + 2 ^ n := fun k => by rw [Nat.pow_succ]; omega
    rcases ends_bad he with ⟨rfl, e1⟩ | ⟨j, rfl, e1⟩ | ⟨rfl, e1⟩ <;> rw [e1]
    · rcases ihn fr1 h1 with hb | ⟨e2, fr2, h2, he2, hy⟩
      · exact .inl hb
      refine .inr ⟨e2, fr2, h2, he2, fun base ε a w Q k hT hF hh hb hc hn hq => ?_⟩
      rw [hp]
      refine hx base ε a w Q (k + 2 ^ n) hT hF hh hb hc (fun _ => ?_) (fun h => absurd rfl h)
      intro ε' a' w' k1 k2 k3 k4
      exact hy base ε' a' w' Q k k1 k4 k3.rel (Nat.le_trans hb k3.size) k2 (fun he ε'' a'' w'' k5 k6 k7 k8 => hn he ε'' a'' w'' k5 k6 (k3.trans k7) k8) (fun he ε'' a'' w'' k5 k6 k7 k8 => hq he ε'' a'' w'' k5 k6 (k3.trans k7) k8)
    · refine .inr ⟨_, fr1, h1, .ext j fr1 h1, fun base ε a w Q k hT hF hh hb hc hn hq => ?_⟩
      rw [hp]
      exact hx base ε a w Q (k + 2 ^ n) hT hF hh hb hc (fun h => by cases h) hq
    · refine .inr ⟨_, fr1, h1, .ret fr1 h1, fun base ε a w Q k hT hF hh hb hc hn hq => ?_⟩
      rw [hp]
      exact hx base ε a w Q (k + 2 ^ n) hT hF hh hb hc (fun h => by cases h) hq
theorem code_ok {call : Call} (hC : CallGood P call) (hN : N ≤ 1048576) (r : Option Nat)
    (hD : ∀ (id : Nat) (ops : Array Oper) (fr : FT) (h : H), CodeOk P N r (.region id ops true) fr h ((C.reg (dregion P N ops)).run call fr h))
    (hR : ∀ (f : Operand) (x : Opd) (ps : Array Tmp) (a b : Code) (fr : FT) (h : H), opd N f = some x → ps.all (· < N) = true → CodeOk P N r (.rangeFunc f ps a b) fr h ((C.rangeF x (ps.toList.map pathOf) (tag N (code P N a)) (code P N b)).run call fr h)) :
    ∀ (c : Code) (fr : FT) (h : H), CodeOk P N r c fr h ((code P N c).run call fr h) := by
  intro c
  induction c with
  | skip => exact fun fr h => .inr ⟨_, _, _, .nrm fr h, fun base ε a w Q hT hF hh hb hc hq => wpIn_skip (hq ε a w hT hc (.refl hh) hF)⟩
  | label l => exact fun fr h => .inr ⟨_, _, _, .nrm fr h, fun base ε a w Q hT hF hh hb hc hq => wpIn_label (hq ε a w hT hc (.refl hh) hF)⟩
  | exit id => exact fun fr h => .inr ⟨_, _, _, .ext id fr h, fun base ε a w Q hT hF hh hb hc hq => wpIn_exit (hq ε a w hT hc (.refl hh) hF)⟩
  | ret => exact fun fr h => .inr ⟨_, _, _, .ret fr h, fun base ε a w Q hT hF hh hb hc hq => wpIn_ret (hq ε a w hT hc (.refl hh) hF)⟩
  | goto l => exact fun fr h => .inl ⟨_, rfl⟩
  | refuse y => exact fun fr h => .inl ⟨_, rfl⟩
  | region id ops d =>
    intro fr h
    cases d with
    | true => exact hD id ops fr h
    | false =>
      rcases seqRegion hC hN ops r ops.toList 0 fr h [] rfl with hb | ⟨fr', h', e1, hgo⟩
      · exact .inl hb
      refine .inr ⟨.normal, fr', h', ?_, fun base ε a w Q hT hF hh hb hc hq => ?_⟩
      · show Ends ((region P N ops ops.toList).run call fr h []) _ _ _
        rw [e1]; exact .nrm fr' h'
      · refine wpIn_region ?_
        rw [List.range_eq_range', ← Array.length_toList]
        exact hgo ε a w Q hT hF hh fun ε' a' w' h1 h2 h3 h4 => hq ε' a' w' h1 (by rw [h2]; exact hc.adv h3) h3 h4
  | seq x y ihx ihy =>
    intro fr h
    have e0 : (code P N (.seq x y)).run call fr h = Res.casesOn (motive := fun _ => Res) ((code P N x).run call fr h) ((code P N y).run call) .ext .ret .fin .bad := rfl
    rw [e0]
    rcases ihx fr h with ⟨n, hb⟩ | ⟨e, fr1, h1, he, hx⟩
    · rw [hb]; exact .inl ⟨n, rfl⟩
    rcases ends_bad he with ⟨rfl, e1⟩ | ⟨id, rfl, e1⟩ | ⟨rfl, e1⟩ <;> rw [e1]
    · rcases ihy fr1 h1 with hb | ⟨e2, fr2, h2, he2, hy⟩
      · exact .inl hb
      refine .inr ⟨e2, fr2, h2, he2, fun base ε a w Q hT hF hh hb hc hq => wpIn_seq (hx base ε a w _ hT hF hh hb hc fun ε' a' w' k1 k2 k3 k4 => ?_)⟩
      exact hy base ε' a' w' Q k1 k4 k3.rel (Nat.le_trans hb k3.size) k2 fun ε'' a'' w'' k5 k6 k7 k8 => hq ε'' a'' w'' k5 k6 (k3.trans k7) k8
    · exact .inr ⟨_, fr1, h1, .ext id fr1 h1, fun base ε a w Q hT hF hh hb hc hq => wpIn_seq (hx base ε a w _ hT hF hh hb hc hq)⟩
    · exact .inr ⟨_, fr1, h1, .ret fr1 h1, fun base ε a w Q hT hF hh hb hc hq => wpIn_seq (hx base ε a w _ hT hF hh hb hc hq)⟩
  | cond c x y ihx ihy =>
    intro fr h
    have e0 : code P N (.cond c x y) = match opd N c with | some z => C.cond z (code P N x) (code P N y) | none => .no 33 := rfl
    rw [e0]
    cases hc' : opd N c with
    | none => exact .inl ⟨_, rfl⟩
    | some z =>
      have e1 : (C.cond z (code P N x) (code P N y)).run call fr h = (z.ev fr).onBool fun t => Bool.casesOn (motive := fun _ => Res) t ((code P N y).run call fr h) ((code P N x).run call fr h) := rfl
      show CodeOk P N r _ fr h ((C.cond z (code P N x) (code P N y)).run call fr h)
      rw [e1]
      rcases onBool_w (z.ev fr) with hb | ⟨t, e2⟩
      · exact .inl (hb _)
      rw [e2]
      have hev : ∀ (ε : Env) (a : Act), a.tmps.size = N → FRel ε h.mem fr a.tmps → a.eval c = .bool t := fun ε a hT hF => by
        have := opd_ok hc' hT hF a.defers
        rw [e2] at this; simpa only [R] using this
      cases t with
      | true =>
        show CodeOk P N r _ fr h ((code P N x).run call fr h)
        rcases ihx fr h with hb | ⟨e, fr1, h1, he, hx⟩
        · exact .inl hb
        exact .inr ⟨e, fr1, h1, he, fun base ε a w Q hT hF hh hb hc hq => wpIn_cond_true (hev ε a hT hF) (hx base ε a w Q hT hF hh hb hc hq)⟩
      | false =>
        show CodeOk P N r _ fr h ((code P N y).run call fr h)
        rcases ihy fr h with hb | ⟨e, fr1, h1, he, hx⟩
        · exact .inl hb
        exact .inr ⟨e, fr1, h1, he, fun base ε a w Q hT hF hh hb hc hq => wpIn_cond_false (hev ε a hT hF) (hx base ε a w Q hT hF hh hb hc hq)⟩
  | block id x ih =>
    intro fr h
    have e0 : (code P N (.block id x)).run call fr h = Res.casesOn (motive := fun _ => Res) ((code P N x).run call fr h) .nrm (fun j fr h => ifC (Nat.beq j id) (.nrm fr h) (.ext j fr h)) .ret .fin .bad := rfl
    rw [e0]
    rcases ih fr h with ⟨n, hb⟩ | ⟨e, fr1, h1, he, hx⟩
    · rw [hb]; exact .inl ⟨n, rfl⟩
    rcases ends_bad he with ⟨rfl, e1⟩ | ⟨j, rfl, e1⟩ | ⟨rfl, e1⟩ <;> rw [e1]
    · exact .inr ⟨_, fr1, h1, .nrm fr1 h1, fun base ε a w Q hT hF hh hb hc hq => wpIn_block (hx base ε a w _ hT hF hh hb hc hq)⟩
    · show CodeOk P N r _ fr h (ifC (Nat.beq j id) (.nrm fr1 h1) (.ext j fr1 h1))
      rw [beq_dec]
      by_cases hj : j = id
      · rw [decide_eq_true hj, ifC_true]
        exact .inr ⟨_, fr1, h1, .nrm fr1 h1, fun base ε a w Q hT hF hh hb hc hq => wpIn_block (hx base ε a w _ hT hF hh hb hc fun ε' a' w' k1 k2 k3 k4 => by simp only [Exit.inBlock, hj, if_true]; exact hq ε' a' w' k1 k2 k3 k4)⟩
      · rw [decide_eq_false hj, ifC_false]
        exact .inr ⟨_, fr1, h1, .ext j fr1 h1, fun base ε a w Q hT hF hh hb hc hq => wpIn_block (hx base ε a w _ hT hF hh hb hc fun ε' a' w' k1 k2 k3 k4 => by simp only [Exit.inBlock, hj, if_false]; exact hq ε' a' w' k1 k2 k3 k4)⟩
    · exact .inr ⟨_, fr1, h1, .ret fr1 h1, fun base ε a w Q hT hF hh hb hc hq => wpIn_block (hx base ε a w _ hT hF hh hb hc hq)⟩
  | scope x ih =>
    intro fr h
    show CodeOk P N r _ fr h ((code P N x).run call fr h)
    rcases ih fr h with hb | ⟨e, fr1, h1, he, hx⟩
    · exact .inl hb
    refine .inr ⟨e, fr1, h1, he, fun base ε a w Q hT hF hh hb hc hq => wpIn_scope (hx base ε a w _ hT hF hh hb hc fun ε' a' w' k1 k2 k3 k4 => ⟨fun l hl => ?_, hq ε' a' w' k1 k2 k3 k4⟩)⟩
    rcases ends_bad he with ⟨h, _⟩ | ⟨_, h, _⟩ | ⟨h, _⟩ <;> (rw [hl] at h; cases h)
  | loop x ih =>
    intro fr h
    have e0 : (code P N (.loop x)).run call fr h = Res.casesOn (motive := fun _ => Res) (rounds ((code P N x).run call) 30 fr h) (fun _ _ => .bad 23) .ext .ret .fin .bad := rfl
    rw [e0]
    rcases rounds_ok ih 30 fr h with ⟨i, hb⟩ | ⟨e, fr1, h1, he, hx⟩
    · rw [hb]; exact .inl ⟨i, rfl⟩
    rcases ends_bad he with ⟨rfl, e1⟩ | ⟨j, rfl, e1⟩ | ⟨rfl, e1⟩ <;> rw [e1]
    · exact .inl ⟨_, rfl⟩
    · exact .inr ⟨_, fr1, h1, .ext j fr1 h1, fun base ε a w Q hT hF hh hb hc hq => wpIn_loop_rounds (0 + 2 ^ 30) (hx base ε a w Q 0 hT hF hh hb hc (fun h => by cases h) fun _ => hq)⟩
    · exact .inr ⟨_, fr1, h1, .ret fr1 h1, fun base ε a w Q hT hF hh hb hc hq => wpIn_loop_rounds (0 + 2 ^ 30) (hx base ε a w Q 0 hT hF hh hb hc (fun h => by cases h) fun _ => hq)⟩
  | rangeFunc f ps x y _ _ =>
    intro fr h
    have e0 : code P N (.rangeFunc f ps x y) = match opd N f with | some z => if ps.all (· < N) then .rangeF z (ps.toList.map pathOf) (tag N (code P N x)) (code P N y) else .no 31 | none => .no 31 := rfl
    rw [e0]
    cases hf : opd N f with
    | none => exact .inl ⟨_, rfl⟩
    | some z =>
      show CodeOk P N r _ fr h ((if ps.all (· < N) then C.rangeF z (ps.toList.map pathOf) (tag N (code P N x)) (code P N y) else .no 31).run call fr h)
      by_cases hp : ps.all (· < N) = true
      · rw [if_pos hp]; exact hR f z ps x y fr h hf hp
      · rw [if_neg hp]; exact .inl ⟨_, rfl⟩
end Go.Ai
set_option autoImplicit false
namespace Go.Ai
set_option linter.unusedSectionVars false
variable [Nu]
open Go
variable {P : Program} {N : Nat} {ε ε' : Env} {m m' : Mem} {w w' : World}

theorem Adv.foreign (h : HRel P ε m w) (x : Go.Obj) : Adv P ε m w ε m { w with heap := w.heap.push x } := by
  have hold : ∀ q, live (m q) → ({ w with heap := w.heap.push x } : World).heap[(ε q).blk]? = w.heap[(ε q).blk]? := fun q hl => heap_push_lt w x (h.blk_lt hl)
  refine ⟨.refl _ _, fun _ _ => rfl, rfl, rfl, rfl, by simp, fun k hk _ => heap_push_lt w x hk, fun q hl => .inl ⟨q, hl, rfl⟩, fun _ hq => hq, ⟨fun q cs es e => ?_, fun q es clk e => ?_, fun q st pd fr ps a c e => ?_, h.apart⟩⟩
  · exact (h.carry (.refl _ _) (hold q) rfl).1 cs es e
  · exact (h.carry (.refl _ _) (hold q) rfl).2.1 es clk e
  · exact (h.carry (.refl _ _) (hold q) rfl).2.2 st pd fr ps a c e
theorem run_getLoop {l : Nat} {L : Go.Loop} (h : w.heap[l]? = some (.loop L)) : (Instr.getLoop l).run P w = .ok L w := by
  simp [Instr.getLoop, getObj, Sem.run, h]
theorem run_setLoop {l : Nat} {L L' : Go.Loop} (h : w.heap[l]? = some (.loop L)) : (Go.setObj l (.loop L')).run P w = .ok () { w with heap := w.heap.setIfInBounds l (.loop L') } := by
  simp [Go.setObj, Sem.run, h]
theorem endLoop_w (o : Path) (fr : FT) (h : H) : Bad (endLoop o fr h) ∨ ∃ st pd f ps a b h', h.mem o = .loop st pd f ps a b ∧ st ≠ 1 ∧ h'.mem = upd h.mem o (.loop 3 pd f ps a b) ∧ st ≠ 9 ∧
    ((pd = .no ∧ endLoop o fr h = .nrm fr h') ∨ (pd = .ret ∧ endLoop o fr h = .ret fr h') ∨ ∃ id, pd = .exit id ∧ endLoop o fr h = .ext id fr h') := by
  cases h with
  | mk t n =>
    have e0 : endLoop o fr (.mk t n) = Obj.casesOn (motive := fun _ => Res) (hget o t) (.bad 40) (fun _ _ => .bad 40) (fun _ _ => .bad 40) (.bad 40) (fun st pd f ps a b => must 12 (Nat.blt st 4) (Bool.casesOn (motive := fun _ => Res) (Nat.beq st 1) (Jump.casesOn (motive := fun _ => Res) pd (.nrm fr (.mk (hset (.loop 3 pd f ps a b) o t) n)) (.ret fr (.mk (hset (.loop 3 pd f ps a b) o t) n)) (fun id => .ext id fr (.mk (hset (.loop 3 pd f ps a b) o t) n))) (.bad 41))) := rfl
    cases e : hget o t with
    | loop st pd f ps a b =>
      have e1 : endLoop o fr (.mk t n) = must 12 (Nat.blt st 4) (Bool.casesOn (motive := fun _ => Res) (Nat.beq st 1) (Jump.casesOn (motive := fun _ => Res) pd (.nrm fr (.mk (hset (.loop 3 pd f ps a b) o t) n)) (.ret fr (.mk (hset (.loop 3 pd f ps a b) o t) n)) (fun id => .ext id fr (.mk (hset (.loop 3 pd f ps a b) o t) n))) (.bad 41)) := by
        rw [e0, e]
      rcases must_w 12 (Nat.blt st 4) with hb | ⟨h4, e4⟩
      · exact .inl (by rw [e1]; exact hb _)
      rw [e4] at e1
      rw [blt_dec] at h4
      have h4' := of_decide_eq_true h4
      by_cases hs : st = 1
      · subst hs; exact .inl ⟨41, e1⟩
      · have hb : Nat.beq st 1 = false := by rw [beq_dec]; exact decide_eq_false hs
        rw [hb] at e1
        have hm : (H.mk (hset (.loop 3 pd f ps a b) o t) n).mem = upd (H.mk t n).mem o (.loop 3 pd f ps a b) := by funext q; exact hget_hset _ q o t
        refine .inr ⟨st, pd, f, ps, a, b, .mk (hset (.loop 3 pd f ps a b) o t) n, e, hs, hm, by omega, ?_⟩
        cases pd with
        | no => exact .inl ⟨rfl, e1⟩
        | ret => exact .inr (.inl ⟨rfl, e1⟩)
        | exit id => exact .inr (.inr ⟨id, rfl, e1⟩)
    | _ => exact .inl ⟨40, by rw [e0, e]⟩
theorem endLoop_ok {o : Path} {st : Nat} {pd : Jump} {f : FT} {ps : List Path} {a b : C} (hh : HRel P ε m w) (hm : m o = .loop st pd f ps a b) (hs : st ≠ 1) (h9 : st ≠ 9) : ∃ w', (Instr.endLoop (ε o).blk).run P w = .ok (jumpOf pd) w' ∧ Adv P ε m w ε (upd m o (.loop 3 pd f ps a b)) w' := by
  obtain ⟨L, hg, h1, h2, h3, h4, h5, h6, h7⟩ := (hh.loops o st pd f ps a b hm).resolve_right fun h => h9 h.1
  refine ⟨{ w with heap := w.heap.setIfInBounds (ε o).blk (.loop { L with state := .exhausted }) }, ?_, ?_⟩
  · have hb : ¬ (L.state = .busy) := fun e => by
      rw [e] at h1
      match st, hs, h1 with
      | 0, _, h => cases h
      | 1, hs, _ => exact hs rfl
      | 2, _, h => cases h
      | 3, _, h => cases h
      | _ + 4, _, h => cases h
    simp [Instr.endLoop, run_getLoop hg, run_setLoop hg, h2]
    exact fun h => absurd h hb
  · refine Adv.set hh (by rw [hm]; trivial) (.loop 3 pd f ps a b) (by simp) (fun _ => by show (3 : Nat) ≠ 9; decide) _ (by simp) (fun k hk => Array.getElem?_setIfInBounds_ne (Ne.symm hk)) ?_
    rintro m' w' rfl rfl hst
    refine ⟨fun _ _ e => (by cases e), fun _ _ e => (by cases e), fun st' pd' f' ps' a' b' e => ?_⟩
    cases e
    exact .inl ⟨_, heap_set_same _ _ hg, rfl, h2, h3.mono hst, h4, h5, h6, h7⟩
theorem lt_of_all {ps : Array Tmp} (h : ps.all (· < N) = true) : ∀ t ∈ ps.toList, t < N := fun t ht => by
  have := Array.all_eq_true_iff_forall_mem.1 h t (by simpa using ht)
  simpa using this
theorem enterLoop_ok (hN : N ≤ 1048576) (fn : FuncId) {r : Option Nat} {base : Nat} {T : Array Value} {D : List Deferred} {fr : FT} {ps : Array Tmp} {x y : Code} {o : Path} (hh : HRel P ε m w) (hT : T.size = N) (hF : FRel ε m fr T) (ho : ¬ m.has o) (hp : ps.all (· < N) = true) (hb : base ≤ w.heap.size) (hc : Ctx r base D ε m w) :
    ∃ l mark ε' w', (Instr.enterLoop fn T ps x y r).run P w = .ok (l, mark) w' ∧ Adv P ε m w ε' (upd m o (.loop 0 .no fr (ps.toList.map pathOf) (tag N (code P N x)) (code P N y))) w' ∧ (ε' o).blk = l ∧ Ctx r base (mark ++ D) ε' (upd m o (.loop 0 .no fr (ps.toList.map pathOf) (tag N (code P N x)) (code P N y))) w' := by
  have hnew : ∀ (w : World) (L : Go.Loop), HRel P ε m w → FRel ε m fr T → L.state = .ready → L.pending = none → L.tmps = T → L.params = ps → L.assign = x → L.body = y →
      Adv P ε m w (upd ε o ⟨w.heap.size, 0, 0⟩) (upd m o (.loop 0 .no fr (ps.toList.map pathOf) (tag N (code P N x)) (code P N y))) { w with heap := w.heap.push (.loop L) } := fun w L hh hF h1 h2 h3 h4 h5 h6 => by
    refine Adv.new hh ho (.loop 0 .no fr (ps.toList.map pathOf) (tag N (code P N x)) (code P N y)) trivial _ 0 ?_
    rintro ε' m' w' rfl rfl rfl hs hx
    refine ⟨fun _ _ e => (by cases e), fun _ _ e => (by cases e), fun st pd f ps' a b e => ?_⟩
    cases e
    refine .inl ⟨L, hx, ?_, h2, ?_, ?_, ?_, ?_, ?_, ?_⟩
    · rw [h1]; rfl
    · rw [h3]; exact hF.mono hs
    · rw [h4]
    · rw [h4, h3, hT]; exact lt_of_all hp
    · rw [h3, hT, h5]
    · rw [h3, hT, h6]
    · rw [h3, hT]; exact hN
  cases r with
  | none =>
    let w1 : World := { w with heap := w.heap.push (.deferred (some [])) }
    have adv1 : Adv P ε m w ε m w1 := Adv.foreign hh _
    let L : Go.Loop := { state := .ready, pending := none, fn, tmps := T, params := ps, assign := x, body := y, defers := w.heap.size }
    have adv2 := hnew w1 L adv1.rel (hF.mono adv1.stays) rfl rfl rfl rfl rfl rfl
    refine ⟨w.heap.size + 1, [markOf w.heap.size], _, _, ?_, adv1.trans adv2, ?_, ?_⟩
    · simp [Instr.enterLoop, markOf, w1, L]
      rfl
    · rw [upd_same]; simp [w1]
    · have hc1 := hc.adv (adv1.trans adv2)
      obtain ⟨rs, h1, h2, h3⟩ := hc1
      obtain ⟨rs0, g1, g2, g3⟩ := hc
      have hrs : rs = rs0 := by
        have := h1.symm.trans g1
        exact (List.map_inj_right (fun a b h => by simpa [markOf] using h)).1 this
      subst hrs
      refine ⟨w.heap.size :: rs, by rw [h1]; rfl, List.nodup_cons.2 ⟨fun hin => ?_, h2⟩, fun b hb' => ?_⟩
      · have := (g3 _ hin).2.1; omega
      · rcases List.mem_cons.1 hb' with rfl | hb'
        · have h0 : w1.heap[w.heap.size]? = some (.deferred (some [])) := heap_push_eq w _
          have hno : ¬ owned ε m w.heap.size := by
            rintro ⟨q, hl, e⟩
            have := hh.blk_lt hl; omega
          have hlt : w.heap.size < w1.heap.size := by simp [w1]
          exact ⟨hb, Nat.lt_of_lt_of_le hlt adv2.size, by rw [adv2.frame _ hlt hno]; exact h0, adv2.free hlt hno⟩
        · exact h3 b hb'
  | some l0 =>
    obtain ⟨h1, q, h2, h3⟩ := hc
    have hl : ∃ L0, w.heap[l0]? = some (.loop L0) := by
      cases e : m q with
      | loop st pd f ps a b =>
        rw [e] at h3
        obtain ⟨L0, h4, _⟩ := (hh.loops q st pd f ps a b e).resolve_right fun h => h3 h.1
        rw [h2] at h4; exact ⟨L0, h4⟩
      | _ => rw [e] at h3; exact h3.elim
    obtain ⟨L0, hL0⟩ := hl
    let L : Go.Loop := { state := .ready, pending := none, fn, tmps := T, params := ps, assign := x, body := y, defers := L0.defers }
    have adv2 := hnew w L hh hF rfl rfl rfl rfl rfl rfl
    refine ⟨w.heap.size, [], _, _, ?_, adv2, by rw [upd_same], ?_⟩
    · simp [Instr.enterLoop, run_getLoop hL0, L]
    · exact Ctx.adv ⟨h1, q, h2, h3⟩ adv2
theorem Res.onFnY_eq (v : AV) {f : Nat} {a c : List AV} (h : v = .fn f a c) (kk : Nat → List AV → List AV → Res) (yy : Path → Res) : v.onFnY kk yy = kk f a c := by subst h; rfl
theorem range_ok {call : Call} (hC : CallGood P call) (hN : N ≤ 1048576) (r : Option Nat) (f : Operand) (z : Opd) (ps : Array Tmp) (x y : Code) (fr : FT) (h : H) (hz : opd N f = some z) (hp : ps.all (· < N) = true) :
    CodeOk P N r (.rangeFunc f ps x y) fr h ((C.rangeF z (ps.toList.map pathOf) (tag N (code P N x)) (code P N y)).run call fr h) := by
  have e0 : (C.rangeF z (ps.toList.map pathOf) (tag N (code P N x)) (code P N y)).run call fr h = newObj (.loop 0 .no fr (ps.toList.map pathOf) (tag N (code P N x)) (code P N y)) h fun o h => (z.ev fr).onFnY (fun g a c => must 12 (Nat.blt g 8191) (call (pathOf g) (lapp a (.yld o :: c)) h fun _ h => endLoop o fr h)) (fun _ => .bad 42) := rfl
  rw [e0]
  rcases newObj_w (.loop 0 .no fr (ps.toList.map pathOf) (tag N (code P N x)) (code P N y)) h with hb | ⟨o, h1, ho, hm, e1⟩
  · exact .inl (hb _)
  rw [e1]
  rcases onFnY_w (z.ev fr) with hb | ⟨g, p, c, e2⟩ | ⟨q, e2⟩
  · exact .inl (hb _ _)
  · rw [Res.onFnY_eq _ e2]
    rcases must_w 12 (Nat.blt g 8191) with hb | ⟨hg, e3⟩
    · exact .inl (hb _)
    rw [e3, lapp_eq]
    rw [blt_dec] at hg
    have hg' := of_decide_eq_true hg
    rcases hC (pathOf g) (p ++ .yld o :: c) h1 with hb | ⟨v, h2, e4, ok⟩
    · exact .inl (hb _)
    rw [e4]
    rcases endLoop_w o fr h2 with hb | ⟨st, pd, f', ps', a', b', h3, hm2, hs, hm3, h9, hend⟩
    · exact .inl hb
    have main : ∀ e, (∀ (Q : Exit → Act → World → Prop) (a : Act) (w : World), Q e a w → (match jumpOf pd with | none => Q .normal a w | some c => c.wpIn (wideR r) 0 P Q a w)) → ∀ (base : Nat) (ε : Env) (a : Act) (w : World) (Q : Exit → Act → World → Prop), a.tmps.size = N → FRel ε h.mem fr a.tmps → HRel P ε h.mem w → base ≤ w.heap.size → Ctx r base a.defers ε h.mem w →
        Then P N r base Q fr h3 e ε h.mem w → (Code.rangeFunc f ps x y).wpIn (wideR r) 0 P Q a w := by
      intro e hj base ε a w Q hT hF hh hb hc hq
      refine wpIn_rangeFunc fun fn _ => ?_
      obtain ⟨l, mark, ε1, w1, hent, adv1, hblk, hc1⟩ := enterLoop_ok hN fn (r := r) hh hT hF ho hp hb hc
      rw [← hm] at adv1 hc1
      have hz' := opd_ok hz hT hF a.defers
      rw [e2] at hz'; simp only [R] at hz'
      obtain ⟨A, C, hfv, rA, rC⟩ := hz'
      have hoh : h1.mem.has o := by rw [hm]; unfold Mem.has; rw [upd_same]; simp
      have rargs : Rs ε1 h1.mem (p ++ .yld o :: c) (A ++ Value.func (.yield l) #[] #[] :: C) := (Rs.mono adv1.stays _ _ rA).append ⟨_, _, rfl, ⟨hoh, by rw [hblk]⟩, Rs.mono adv1.stays _ _ rC⟩
      obtain ⟨nx, w2, hcall, hre, hnx⟩ := (ok ε1 w1 adv1.rel).1 g _ hg' rfl rargs
      rcases hnx with ⟨rfl, rfl⟩ | hno
      · have harr : (A.toArray ++ #[Value.func (.yield l) #[] #[]]) ++ C.toArray = (A ++ Value.func (.yield l) #[] #[] :: C).toArray := by apply Array.ext'; simp
        refine ⟨l, mark, w2, { target := .fn (.func g) C.toArray, args := A.toArray ++ #[Value.func (.yield l) #[] #[]] }, w2, g, (A ++ Value.func (.yield l) #[] #[] :: C).toArray, w2, hent, ?_, fun _ _ => trivial, ?_, fun h => (by cases h), ?_⟩
        · have hfv' : a.eval f = .func (.func g) A.toArray C.toArray := hfv
          have h9 : resolve a.eval (rangeCall f l) 0 = Deferred.ofValue (a.eval f) #[Value.func (.yield l) #[] #[]] := by simp [resolve, Act.eval]
          rw [h9, hfv']; rfl
        · show (callFunc g ((A.toArray ++ #[Value.func (.yield l) #[] #[]]) ++ C.toArray)).run P w2 = _
          rw [harr]; exact hcall
        · have h5 : CallsIn (wideR r) 0 P g (A ++ Value.func (.yield l) #[] #[] :: C).toArray w2 (Back (Rel P ε1 h1.mem w2 v h2.mem)) := hre
          refine h5.mono fun en w3 hb3 => ?_
          cases en with
          | returned V =>
            obtain ⟨ε2, adv2, _⟩ := hb3
            obtain ⟨w4, hel, adv3⟩ := endLoop_ok adv2.rel hm2 hs h9
            have hblk2 : (ε2 o).blk = l := by rw [(adv2.stays o hoh).2]; exact hblk
            rw [hblk2] at hel
            rw [← hm3] at adv3
            have adv := (adv1.trans adv2).trans adv3
            refine ⟨_, w4, hel, hj Q _ _ (hq ε2 _ w4 hT ((hc1.adv adv2).adv adv3) adv (hF.mono adv.stays))⟩
          | panicked ch => exact hb3.elim
          | outgrown => exact hb3.elim
      · exact absurd (List.mem_append_right _ (List.mem_cons_self ..)) (hno o)
    rcases hend with ⟨rfl, e5⟩ | ⟨rfl, e5⟩ | ⟨id, rfl, e5⟩ <;> rw [e5]
    · exact .inr ⟨_, fr, h3, .nrm fr h3, main .normal fun Q a w hq => hq⟩
    · exact .inr ⟨_, fr, h3, .ret fr h3, main .ret fun Q a w hq => wpIn_ret hq⟩
    · exact .inr ⟨_, fr, h3, .ext id fr h3, main (.exit id) fun Q a w hq => wpIn_exit hq⟩
  · rw [e2]; exact .inl ⟨42, rfl⟩
end Go.Ai
set_option autoImplicit false
namespace Go.Ai
set_option linter.unusedSectionVars false
variable [Nu]
open Go
variable {P : Program} {N : Nat} {ε ε' : Env} {m m' : Mem} {w w' : World}

theorem setArgs_ok : ∀ (ps : List Tmp) (vs : List AV) (fr : FT), (∀ k, Bad (setArgs (ps.map pathOf) vs fr k)) ∨ ∃ fr', (∀ k, setArgs (ps.map pathOf) vs fr k = k fr') ∧ ps.length = vs.length ∧
    ∀ (ε : Env) (m : Mem) (T : Array Value) (A : List Value), FRel ε m fr T → T.size ≤ 1048576 → (∀ t ∈ ps, t < T.size) → Rs ε m vs A → FRel ε m fr' ((ps.zip A).foldl (fun T p => T.setIfInBounds p.1 p.2) T)
  | [], [], fr => .inr ⟨fr, fun _ => rfl, rfl, fun ε m T A hF _ _ _ => by simpa using hF⟩
  | [], _ :: _, fr => .inl fun _ => ⟨24, rfl⟩
  | _ :: _, [], fr => .inl fun _ => ⟨24, rfl⟩
  | q :: ps, v :: vs, fr => by
    have e0 : ∀ k, setArgs ((q :: ps).map pathOf) (v :: vs) fr k = setArgs (ps.map pathOf) vs (fset v (pathOf q) fr) k := fun _ => rfl
    simp only [e0]
    rcases setArgs_ok ps vs (fset v (pathOf q) fr) with hb | ⟨fr', e1, e2, e3⟩
    · exact .inl hb
    refine .inr ⟨fr', e1, by simp [e2], fun ε m T A hF hT ht hr => ?_⟩
    obtain ⟨V, U, rfl, rv, rt⟩ := hr
    have h1 := hF.put hT (ht q (by simp)) rv
    exact e3 ε m _ U h1 (by simpa using hT) (fun t h => by simpa using ht t (by simp [h])) rt
theorem Adv.setForeign (h : Adv P ε m w ε' m' w') {b : Nat} (hb : w.heap.size ≤ b) (ho : ¬ owned ε' m' b) (x : Go.Obj) : Adv P ε m w ε' m' { w' with heap := w'.heap.setIfInBounds b x } := by
  have hold : ∀ q, live (m' q) → ({ w' with heap := w'.heap.setIfInBounds b x } : World).heap[(ε' q).blk]? = w'.heap[(ε' q).blk]? := fun q hl => Array.getElem?_setIfInBounds_ne fun e => ho ⟨q, hl, e.symm⟩
  refine ⟨h.stays, h.fresh, h.os, h.tape, h.output, by simpa using h.size, fun k hk hno => ?_, h.own, h.loop, ⟨fun q cs es e => ?_, fun q es clk e => ?_, fun q st pd fr ps a c e => ?_, h.rel.apart⟩⟩
  · have : b ≠ k := by omega
    show (w'.heap.setIfInBounds b x)[k]? = _
    rw [Array.getElem?_setIfInBounds_ne this]; exact h.frame k hk hno
  · exact (h.rel.carry (.refl _ _) (hold q) rfl).1 cs es e
  · exact (h.rel.carry (.refl _ _) (hold q) rfl).2.1 es clk e
  · exact (h.rel.carry (.refl _ _) (hold q) rfl).2.2 st pd fr ps a c e
theorem leaves_marks {fn : Func} {T : Array Value} {Q : Ending → World → Prop} {ε0 : Env} {m0 : Mem} {w0 : World} : ∀ (rs : List Nat) (w : World), Adv P ε0 m0 w0 ε m w → rs.Nodup → (∀ b ∈ rs, w0.heap.size ≤ b ∧ b < w.heap.size ∧ w.heap[b]? = some (.deferred (some [])) ∧ ¬ owned ε m b) →
    (∀ w', Adv P ε0 m0 w0 ε m w' → ∃ v, (results fn T).run P w' = .ok v w' ∧ Q (.returned v) w') → LeavesInM (wideR none) 0 P fn T Q (rs.map markOf) .returning w
  | [], w, adv, _, _, hq => hq w adv
  | b :: rs, w, adv, hn, hb, hq => by
    obtain ⟨h1, h2, h3, h4⟩ := hb b (by simp)
    obtain ⟨h5, h6⟩ := List.nodup_cons.1 hn
    refine ⟨by simp, .inl ⟨b, { w with heap := w.heap.setIfInBounds b (.deferred none) }, rfl, by simp [Instr.takeDeferred, getObj, Go.setObj, Sem.run, h3], ?_⟩⟩
    refine leaves_marks rs _ (adv.setForeign h1 h4 _) h6 (fun c hc => ?_) hq
    obtain ⟨k1, k2, k3, k4⟩ := hb c (by simp [hc])
    have hne : b ≠ c := fun e => h5 (e ▸ hc)
    exact ⟨k1, by simpa using k2, by show (w.heap.setIfInBounds b _)[c]? = _; rw [Array.getElem?_setIfInBounds_ne hne]; exact k3, k4⟩
def resOf (T : Array Value) : ResultVar → Sem Value
  | .tmp t => pure (T.getD t undef)
  | .cell a t => do loadVar t (← asAddr (T.getD a undef))
theorem rvs_ok : ∀ (vs : List ResultVar) (l : List RV) (fr : FT) (h : H), rvs' P N vs = some l → (∀ k, Bad (rvs l fr h k)) ∨ ∃ out, (∀ k, rvs l fr h k = k out) ∧
    ∀ (ε : Env) (T : Array Value) (w : World), T.size = N → FRel ε h.mem fr T → HRel P ε h.mem w → ∃ L : List Value, Rs ε h.mem out L ∧ (vs.mapM (resOf T)).run P w = .ok L w
  | [], l, fr, h, hl => by
    cases hl
    exact .inr ⟨[], fun _ => rfl, fun ε T w hT hF hh => ⟨[], rfl, rfl⟩⟩
  | x :: vs, l, fr, h, hl => by
    simp only [rvs', Option.bind_eq_some_iff, Option.map_eq_some_iff] at hl
    obtain ⟨q, hq, l', hl', rfl⟩ := hl
    cases x with
    | tmp t =>
      simp only [rv] at hq
      split at hq
      · rename_i ht
        cases hq
        have e0 : ∀ k, rvs (.tmp (pathOf t) :: l') fr h k = rvs l' fr h fun u => k (fget (pathOf t) fr :: u) := fun _ => rfl
        simp only [e0]
        rcases rvs_ok vs l' fr h hl' with hb | ⟨out, e1, ok⟩
        · exact .inl fun _ => hb _
        refine .inr ⟨_, fun _ => e1 _, fun ε T w hT hF hh => ?_⟩
        obtain ⟨L, r, e2⟩ := ok ε T w hT hF hh
        obtain ⟨V, h1, h2⟩ := hF t (hT.symm ▸ ht)
        refine ⟨V :: L, ⟨V, L, rfl, h2, r⟩, ?_⟩
        have h3 : T.getD t undef = V := by simp [Array.getD_eq_getD_getElem?, h1]
        have h4 : resOf T (.tmp t) = pure V := by simp [resOf, h3]
        simp [List.mapM_cons, h4, e2]
      · cases hq
    | cell a t =>
      simp only [rv] at hq
      split at hq
      · cases hq
      rename_i ha
      have ha' : a < N := Nat.lt_of_not_le ha
      simp only [Option.bind_eq_some_iff] at hq
      obtain ⟨g, hg, hq⟩ := hq
      have hptr : ∀ (ε : Env) (T : Array Value) (o : Path) (i : Nat), T.size = N → FRel ε h.mem fr T → fget (pathOf a) fr = .ptr o i → h.mem.has o ∧ T.getD a undef = .pointer (some (ε.addr o i)) := fun ε T o i hT hF e => by
        obtain ⟨V, h1, h2⟩ := hF a (hT.symm ▸ ha')
        rw [e] at h2; simp only [R] at h2
        exact ⟨h2.1, by rw [← h2.2]; simp [Array.getD_eq_getD_getElem?, h1]⟩
      cases g with
      | true =>
        simp only [if_true, Option.map_eq_some_iff] at hq
        obtain ⟨n, hn, rfl⟩ := hq
        have e0 : ∀ k, rvs (.agg (pathOf a) n :: l') fr h k = (fget (pathOf a) fr).onPtr fun o i => cellsOf o h fun cs _ => ldropC i cs fun cs => ltake n cs fun cs => rvs l' fr h fun u => k (.agg cs :: u) := fun _ => rfl
        simp only [e0]
        rcases onPtr_w (fget (pathOf a) fr) with hb | ⟨o, i, e1⟩
        · exact .inl fun _ => hb _
        simp only [e1]
        have e9 : ∀ k : List AV → Res, ((AV.ptr o i).onPtr fun o i => cellsOf o h fun cs _ => ldropC i cs fun cs => ltake n cs fun cs => rvs l' fr h fun u => k (.agg cs :: u)) = cellsOf o h fun cs _ => ldropC i cs fun cs => ltake n cs fun cs => rvs l' fr h fun u => k (.agg cs :: u) := fun _ => rfl
        simp only [e9]
        rcases cellsOf_w o h with hb | ⟨cs, es, hcs, e2⟩
        · exact .inl fun _ => hb _
        simp only [e2]
        rcases ldropC_w i cs with hb | ⟨h3, e3⟩
        · exact .inl fun _ => hb _
        simp only [e3]
        rcases ltake_w n (cs.drop i) with hb | ⟨h4, e4⟩
        · exact .inl fun _ => hb _
        simp only [e4]
        rcases rvs_ok vs l' fr h hl' with hb | ⟨out, e5, ok⟩
        · exact .inl fun _ => hb _
        refine .inr ⟨_, fun _ => e5 _, fun ε T w hT hF hh => ?_⟩
        obtain ⟨L, r, e6⟩ := ok ε T w hT hF hh
        obtain ⟨ho, hp⟩ := hptr ε T o i hT hF e1
        obtain ⟨X, hl2, rl, hc⟩ := (hh.cells o cs es hcs).vals i n (by simp at h4; omega)
        have hld := run_loadCells_list (P := P) w (ε.addr o i) X hc
        rw [hl2] at hld
        refine ⟨.agg X.toArray :: L, ⟨_, L, rfl, ⟨X, rfl, rl⟩, r⟩, ?_⟩
        have h7 : (resOf T (.cell a t)).run P w = .ok (.agg X.toArray) w := by
          simp [resOf, hp, asAddr, loadVar, aggO_run hg, (sizeT_size (w := w) hn).1, hld]
        simp [List.mapM_cons, Sem.run_bind, h7, e6]
      | false =>
        simp only [Bool.false_eq_true, if_false] at hq
        cases hq
        have e0 : ∀ k, rvs (.cell (pathOf a) :: l') fr h k = (fget (pathOf a) fr).onPtr fun o i => cellsOf o h fun cs _ => nthC cs i fun v => rvs l' fr h fun u => k (v :: u) := fun _ => rfl
        simp only [e0]
        rcases onPtr_w (fget (pathOf a) fr) with hb | ⟨o, i, e1⟩
        · exact .inl fun _ => hb _
        simp only [e1]
        have e9 : ∀ k : List AV → Res, ((AV.ptr o i).onPtr fun o i => cellsOf o h fun cs _ => nthC cs i fun v => rvs l' fr h fun u => k (v :: u)) = cellsOf o h fun cs _ => nthC cs i fun v => rvs l' fr h fun u => k (v :: u) := fun _ => rfl
        simp only [e9]
        rcases cellsOf_w o h with hb | ⟨cs, es, hcs, e2⟩
        · exact .inl fun _ => hb _
        simp only [e2]
        rcases nthC_w cs i with hb | ⟨v, h3, e3⟩
        · exact .inl fun _ => hb _
        simp only [e3]
        rcases rvs_ok vs l' fr h hl' with hb | ⟨out, e5, ok⟩
        · exact .inl fun _ => hb _
        refine .inr ⟨_, fun _ => e5 _, fun ε T w hT hF hh => ?_⟩
        obtain ⟨L, r, e6⟩ := ok ε T w hT hF hh
        obtain ⟨ho, hp⟩ := hptr ε T o i hT hF e1
        obtain ⟨V, hV, rV⟩ := (hh.cells o cs es hcs).cell h3
        refine ⟨V :: L, ⟨V, L, rfl, rV, r⟩, ?_⟩
        have h7 : (resOf T (.cell a t)).run P w = .ok V w := by
          simp [resOf, hp, asAddr, loadVar, aggO_run hg, hV]
        simp [List.mapM_cons, Sem.run_bind, h7, e6]
theorem one_R {vs : List AV} {L : List Value} (r : Rs ε m vs L) : R ε m (one vs) (if h : L.toArray.size = 1 then L.toArray[0] else .tuple L.toArray) := by
  match vs, L, r with
  | [], _, r => simp only [Rs] at r; subst r; exact ⟨[], rfl, rfl⟩
  | [v], _, r =>
    obtain ⟨V, U, rfl, rv, rt⟩ := r
    simp only [Rs] at rt; subst rt
    exact rv
  | v :: u :: t, _, r =>
    obtain ⟨V, U, rfl, rv, rt⟩ := r
    obtain ⟨V', U', rfl, rv', rt'⟩ := rt
    rw [dif_neg (by simp)]
    exact ⟨_, rfl, V, _, rfl, rv, V', _, rfl, rv', rt'⟩
theorem results_ok {fn : Func} {T : Array Value} {L : List Value} (h : (fn.results.toList.mapM (resOf T)).run P w = .ok L w) : (results fn T).run P w = .ok (if h : L.toArray.size = 1 then L.toArray[0] else .tuple L.toArray) w := by
  have e : results fn T = (fn.results.mapM (resOf T) >>= fun vs => pure (if h : vs.size = 1 then vs[0] else .tuple vs)) := by
    unfold results
    congr 1
  rw [e, Array.mapM_eq_mapM_toList]
  simp [h]
end Go.Ai
set_option autoImplicit false
namespace Go.Ai
set_option linter.unusedSectionVars false
variable [Nu]
open Go
variable {P : Program} {N : Nat} {ε ε' : Env} {m m' : Mem} {w w' : World}

def DrawnGood (P : Program) : Prop := ∀ (call : Go.Ai.Call) (N : Nat) (r : Option Nat) (id : Nat) (ops : Array Oper) (fr : FT) (h : H), CallGood P call → N ≤ 1048576 →
  CodeOk P N r (.region id ops true) fr h ((C.reg (dregion P N ops)).run call fr h)
theorem code_good {call : Go.Ai.Call} (hC : CallGood P call) (hDr : DrawnGood P) (hN : N ≤ 1048576) (r : Option Nat) (c : Code) (fr : FT) (h : H) : CodeOk P N r c fr h ((code P N c).run call fr h) :=
  code_ok hC hN r (fun id ops fr h => hDr call N r id ops fr h hC hN) (fun f x ps a b fr h hx hp => range_ok hC hN r f x ps a b fr h hx hp) c fr h

theorem fold_args : ∀ (A pre : List Value) (m : Nat), A.length ≤ m → ((List.range' pre.length A.length).zip A).foldl (fun T p => T.setIfInBounds p.1 p.2) (pre ++ List.replicate m undef).toArray = (pre ++ A ++ List.replicate (m - A.length) undef).toArray
  | [], pre, m, _ => by simp
  | a :: A, pre, 0, h => by simp at h
  | a :: A, pre, m + 1, h => by
    simp only [List.length_cons, List.range'_succ, List.zip_cons_cons, List.foldl_cons]
    have h1 : (pre ++ List.replicate (m + 1) undef).toArray.setIfInBounds pre.length a = ((pre ++ [a]) ++ List.replicate m undef).toArray := by
      apply Array.ext'
      simp [List.replicate_succ, List.set_append_right]
    rw [h1]
    have h2 := fold_args A (pre ++ [a]) m (by simpa using h)
    rw [List.length_append, List.length_singleton] at h2
    rw [h2]
    simp
theorem FRel.leaf (n : Nat) : FRel ε m .leaf (Array.replicate n undef) := fun t ht => ⟨undef, by
  have h : t < n := by simpa using ht
  simp [h], by rw [fget_leaf]; rfl⟩
theorem args_ok {n k : Nat} {args : List AV} {A : List Value} (hk : k ≤ n) (hl : (List.range k).length = args.length) (r : Rs ε m args A) :
    (((List.range k).zip A).foldl (fun T p => T.setIfInBounds p.1 p.2) (Array.replicate n undef)) = A.toArray ++ Array.replicate (n - A.toArray.size) undef := by
  have h1 : k = A.length := by rw [← r.length, ← hl, List.length_range]
  subst h1
  have h2 := fold_args A [] n hk
  rw [List.length_nil, List.nil_append, ← List.range_eq_range'] at h2
  have h3 : (List.replicate n undef).toArray = Array.replicate n undef := by apply Array.ext'; simp
  rw [h3] at h2
  rw [h2]
  apply Array.ext'
  simp

theorem fn_some {f : Func} {q : Fn} (h : fn P f = some q) : ∃ b res, f.body = some b ∧ rvs' P f.ntmps f.results.toList = some res ∧ f.params.size + f.nfree ≤ f.ntmps ∧ f.ntmps ≤ 1048576 ∧
    q = { params := (List.range (f.params.size + f.nfree)).map pathOf, body := code P f.ntmps b, res := res } := by
  simp only [fn, Option.bind_eq_some_iff] at h
  obtain ⟨b, hb, res, hr, h⟩ := h
  split at h
  · rename_i hc
    simp only [Bool.and_eq_true, decide_eq_true_eq] at hc
    cases h
    exact ⟨b, res, hb, hr, hc.1, hc.2, rfl⟩
  · cases h
theorem leave_ok {func : Func} {fr : FT} {h h0 : H} {out : List AV} {ε0 : Env} {w0 : World} {a : Act}
    (hout : ∀ (ε : Env) (T : Array Value) (w : World), T.size = func.ntmps → FRel ε h.mem fr T → HRel P ε h.mem w → ∃ L : List Value, Rs ε h.mem out L ∧ (func.results.toList.mapM (resOf T)).run P w = .ok L w)
    (hT : a.tmps.size = func.ntmps) (hc : Ctx none w0.heap.size a.defers ε h.mem w) (adv : Adv P ε0 h0.mem w0 ε h.mem w) (hF : FRel ε h.mem fr a.tmps) :
    LeavesInM Fence.wide 0 P func a.tmps (Back (Rel P ε0 h0.mem w0 (one out) h.mem)) a.defers .returning w := by
  obtain ⟨rs, h1, h2, h3⟩ := hc
  rw [h1]
  refine leaves_marks (Q := Back (Rel P ε0 h0.mem w0 (one out) h.mem)) rs w adv h2 h3 fun w' adv' => ?_
  obtain ⟨L, rL, hL⟩ := hout ε a.tmps w' hT hF adv'.rel
  exact ⟨_, results_ok hL, ε, adv', one_R rL⟩
theorem enter_ok {call : Go.Ai.Call} (hC : CallGood P call) (hDr : DrawnGood P) {f : FuncId} {func : Func} {q : Fn} (hf : P.funcs[f]? = some func) (hq : fn P func = some q) (args : List AV) (h : H) :
    Gives (enter q call args h) fun v h' => ∀ (ε : Env) (w : World) (A : List Value), HRel P ε h.mem w → Rs ε h.mem args A → CallsIn Fence.wide 0 P f A.toArray w (Back (Rel P ε h.mem w v h'.mem)) := by
  obtain ⟨b, res, hb, hres, hk, hN, rfl⟩ := fn_some hq
  have e0 : ∀ k, enter { params := (List.range (func.params.size + func.nfree)).map pathOf, body := code P func.ntmps b, res := res } call args h k = setArgs ((List.range (func.params.size + func.nfree)).map pathOf) args .leaf fun fr => Res.casesOn (motive := fun _ => Res) ((code P func.ntmps b).run call fr h) (fun fr h => rvs res fr h fun vs => k (one vs) h) (fun _ _ _ => .bad 25) (fun fr h => rvs res fr h fun vs => k (one vs) h) (fun _ _ => .bad 26) .bad := fun _ => rfl
  unfold Gives
  simp only [e0]
  rcases setArgs_ok (List.range (func.params.size + func.nfree)) args .leaf with hbad | ⟨fr0, e1, hl, hset⟩
  · exact .inl fun _ => hbad _
  simp only [e1]
  rcases code_good hC hDr hN none b fr0 h with ⟨i, hbad⟩ | ⟨e, fr1, h1, he, hx⟩
  · simp only [hbad]; exact .inl fun _ => ⟨i, rfl⟩
  have start : ∀ (ε : Env) (w : World) (A : List Value) (Q : Exit → Act → World → Prop), HRel P ε h.mem w → Rs ε h.mem args A → Then P func.ntmps none w.heap.size Q fr1 h1 e ε h.mem w →
      b.wpIn Fence.wide 0 P Q { tmps := A.toArray ++ Array.replicate (func.ntmps - A.toArray.size) undef, defers := [] } w := fun ε w A Q hh r hq => by
    have h2 := hset ε h.mem (Array.replicate func.ntmps undef) A (FRel.leaf _) (by simpa using hN) (fun t ht => by
      have h4 := List.mem_range.1 ht
      rw [Array.size_replicate]; exact Nat.lt_of_lt_of_le h4 hk) r
    rw [args_ok hk hl r] at h2
    have h3 : A.length ≤ func.ntmps := by have := r.length; simp at hl; omega
    exact hx w.heap.size ε _ w Q (by simp; omega) h2 hh (Nat.le_refl _) ⟨[], rfl, List.nodup_nil, fun b hb => by simp at hb⟩ hq
  rcases ends_bad he with ⟨rfl, e2⟩ | ⟨j, rfl, e2⟩ | ⟨rfl, e2⟩
  · simp only [e2]
    rcases rvs_ok func.results.toList res fr1 h1 hres with hbad | ⟨out, e3, hout⟩
    · exact .inl fun _ => hbad _
    simp only [e3]
    refine .inr ⟨one out, h1, fun _ => rfl, fun ε w A hh r => callsIn_of_wp_marks hf hb trivial (start ε w A _ hh r fun ε' a' w' k1 k2 k3 k4 => ?_)⟩
    exact leave_ok hout k1 k2 k3 k4
  · simp only [e2]; exact .inl fun _ => ⟨25, rfl⟩
  · simp only [e2]
    rcases rvs_ok func.results.toList res fr1 h1 hres with hbad | ⟨out, e3, hout⟩
    · exact .inl fun _ => hbad _
    simp only [e3]
    refine .inr ⟨one out, h1, fun _ => rfl, fun ε w A hh r => callsIn_of_wp_marks hf hb trivial (start ε w A _ hh r fun ε' a' w' k1 k2 k3 k4 => ?_)⟩
    exact leave_ok hout k1 k2 k3 k4
theorem setArgs_w : ∀ (ps : List Path) (vs : List AV) (fr : FT), (∀ k, Bad (setArgs ps vs fr k)) ∨ ∃ fr', ∀ k, setArgs ps vs fr k = k fr'
  | [], [], fr => .inr ⟨fr, fun _ => rfl⟩
  | [], _ :: _, _ => .inl fun _ => ⟨24, rfl⟩
  | _ :: _, [], _ => .inl fun _ => ⟨24, rfl⟩
  | q :: ps, v :: vs, fr => setArgs_w ps vs (fset v q fr)
theorem beginRound_w (o : Path) (h : H) : (∀ k, Bad (beginRound o h k)) ∨ ∃ pd f ps a b h', h.mem o = .loop 0 pd f ps a b ∧ h'.mem = upd h.mem o (.loop 1 pd f ps a b) ∧ ∀ k, beginRound o h k = k h' := by
  cases h with
  | mk t n =>
    have e0 : ∀ k, beginRound o (.mk t n) k = Obj.casesOn (motive := fun _ => Res) (hget o t) (.bad 44) (fun _ _ => .bad 44) (fun _ _ => .bad 44) (.bad 44) (fun st pd f ps a b => must 12 (Nat.beq st 0) (k (.mk (hset (.loop 1 pd f ps a b) o t) n))) := fun _ => rfl
    simp only [e0]
    cases e : hget o t with
    | loop st pd f ps a b =>
      show (∀ k : H → Res, Bad (must 12 (Nat.beq st 0) (k (.mk (hset (.loop 1 pd f ps a b) o t) n)))) ∨ _
      rcases must_w 12 (Nat.beq st 0) with hb | ⟨h2, e2⟩
      · exact .inl fun _ => hb _
      refine .inr ⟨pd, f, ps, a, b, .mk (hset (.loop 1 pd f ps a b) o t) n, ?_, ?_, fun k => e2 _⟩
      · have := Nat.eq_of_beq_eq_true h2; subst this; exact e
      · funext q; exact hget_hset _ q o t
    | _ => exact .inl fun _ => ⟨44, rfl⟩
def jState : Jump → Nat
  | .no => 0
  | _ => 2
theorem endRound_w (o : Path) (j : Jump) (h : H) : (∀ k, Bad (endRound o j h k)) ∨ ∃ st pd f ps a b h', h.mem o = .loop st pd f ps a b ∧ h'.mem = upd h.mem o (.loop (jState j) j f ps a b) ∧ st ≠ 9 ∧ ∀ k, endRound o j h k = k (.bool (jumpOf j).isNone) h' := by
  cases h with
  | mk t n =>
    have e0 : ∀ k, endRound o j (.mk t n) k = Obj.casesOn (motive := fun _ => Res) (hget o t) (.bad 43) (fun _ _ => .bad 43) (fun _ _ => .bad 43) (.bad 43) (fun st _ f ps a b =>
      must 12 (Nat.blt st 4) (Jump.casesOn (motive := fun _ => Res) j (k (.bool true) (.mk (hset (.loop 0 .no f ps a b) o t) n)) (k (.bool false) (.mk (hset (.loop 2 .ret f ps a b) o t) n)) (fun id => k (.bool false) (.mk (hset (.loop 2 (.exit id) f ps a b) o t) n)))) := fun _ => rfl
    simp only [e0]
    cases e : hget o t with
    | loop st pd f ps a b =>
      show (∀ k : Kont, Bad (must 12 (Nat.blt st 4) (Jump.casesOn (motive := fun _ => Res) j (k (.bool true) (.mk (hset (.loop 0 .no f ps a b) o t) n)) (k (.bool false) (.mk (hset (.loop 2 .ret f ps a b) o t) n)) (fun id => k (.bool false) (.mk (hset (.loop 2 (.exit id) f ps a b) o t) n))))) ∨ _
      rcases must_w 12 (Nat.blt st 4) with hb | ⟨h4, e4⟩
      · exact .inl fun _ => hb _
      rw [blt_dec] at h4
      have h4' := of_decide_eq_true h4
      refine .inr ⟨st, pd, f, ps, a, b, .mk (hset (.loop (jState j) j f ps a b) o t) n, e, ?_, by omega, fun k => ?_⟩
      · funext q; exact hget_hset _ q o t
      · exact (e4 _).trans (by cases j <;> rfl)
    | _ => exact .inl fun _ => ⟨43, rfl⟩
theorem beginRound_ok {o : Path} {pd : Jump} {f : FT} {ps : List Path} {a b : C} (hh : HRel P ε m w) (hm : m o = .loop 0 pd f ps a b) : ∃ w', (Instr.beginRound (ε o).blk).run P w = .ok () w' ∧ Adv P ε m w ε (upd m o (.loop 1 pd f ps a b)) w' := by
  obtain ⟨L, hg, h1, h2, h3, h4, h5, h6, h7⟩ := (hh.loops o 0 pd f ps a b hm).resolve_right fun h => by cases h.1
  have hr : L.state = .ready := by simpa [stateOf] using h1.symm
  refine ⟨{ w with heap := w.heap.setIfInBounds (ε o).blk (.loop { L with state := .busy }) }, ?_, ?_⟩
  · simp [Instr.beginRound, run_getLoop hg, run_setLoop hg, hr]
  · refine Adv.set hh (by rw [hm]; trivial) (.loop 1 pd f ps a b) (by simp) (fun _ => by show (1 : Nat) ≠ 9; decide) _ (by simp) (fun k hk => Array.getElem?_setIfInBounds_ne (Ne.symm hk)) ?_
    rintro m' w' rfl rfl hst
    refine ⟨fun _ _ e => (by cases e), fun _ _ e => (by cases e), fun st' pd' f' ps' a' b' e => ?_⟩
    cases e
    exact .inl ⟨_, heap_set_same _ _ hg, rfl, h2, h3.mono hst, h4, h5, h6, h7⟩
theorem endRound_ok {o : Path} {st : Nat} {pd : Jump} (j : Jump) {f : FT} {ps : List Path} {a b : C} (hh : HRel P ε m w) (hm : m o = .loop st pd f ps a b) (h9 : st ≠ 9) : ∃ w', (Instr.endRound (ε o).blk (jumpOf j)).run P w = .ok (.bool (jumpOf j).isNone) w' ∧ Adv P ε m w ε (upd m o (.loop (jState j) j f ps a b)) w' := by
  obtain ⟨L, hg, h1, h2, h3, h4, h5, h6, h7⟩ := (hh.loops o st pd f ps a b hm).resolve_right fun h => h9 h.1
  refine ⟨{ w with heap := w.heap.setIfInBounds (ε o).blk (.loop { L with state := if (jumpOf j).isNone then .ready else .done, pending := jumpOf j }) }, ?_, ?_⟩
  · simp [Instr.endRound, run_getLoop hg, run_setLoop hg]
  · refine Adv.set hh (by rw [hm]; trivial) (.loop (jState j) j f ps a b) (by simp) (fun _ => by show jState j ≠ 9; cases j <;> simp [jState]) _ (by simp) (fun k hk => Array.getElem?_setIfInBounds_ne (Ne.symm hk)) ?_
    rintro m' w' rfl rfl hst
    refine ⟨fun _ _ e => (by cases e), fun _ _ e => (by cases e), fun st' pd' f' ps' a' b' e => ?_⟩
    cases e
    exact .inl ⟨_, heap_set_same _ _ hg, by cases j <;> rfl, rfl, h3.mono hst, h4, h5, h6, h7⟩
theorem CodeOk.nrm {r : Option Nat} {c : Code} {fr fr1 : FT} {h h1 : H} {res : Res} (hk : CodeOk P N r c fr h res) (e : res = .nrm fr1 h1) : ∀ (base : Nat) (ε : Env) (a : Act) (w : World) (Q : Exit → Act → World → Prop), a.tmps.size = N → FRel ε h.mem fr a.tmps → HRel P ε h.mem w → base ≤ w.heap.size → Ctx r base a.defers ε h.mem w →
    Then P N r base Q fr1 h1 .normal ε h.mem w → c.wpIn (wideR r) 0 P Q a w := by
  rcases hk with ⟨i, hb⟩ | ⟨e', fr', h', he, hx⟩
  · rw [e] at hb; cases hb
  · subst e; cases he; exact hx
theorem CodeOk.ext {r : Option Nat} {c : Code} {fr fr1 : FT} {h h1 : H} {res : Res} {id : Nat} (hk : CodeOk P N r c fr h res) (e : res = .ext id fr1 h1) : ∀ (base : Nat) (ε : Env) (a : Act) (w : World) (Q : Exit → Act → World → Prop), a.tmps.size = N → FRel ε h.mem fr a.tmps → HRel P ε h.mem w → base ≤ w.heap.size → Ctx r base a.defers ε h.mem w →
    Then P N r base Q fr1 h1 (.exit id) ε h.mem w → c.wpIn (wideR r) 0 P Q a w := by
  rcases hk with ⟨i, hb⟩ | ⟨e', fr', h', he, hx⟩
  · rw [e] at hb; cases hb
  · subst e; cases he; exact hx
theorem CodeOk.ret {r : Option Nat} {c : Code} {fr fr1 : FT} {h h1 : H} {res : Res} (hk : CodeOk P N r c fr h res) (e : res = .ret fr1 h1) : ∀ (base : Nat) (ε : Env) (a : Act) (w : World) (Q : Exit → Act → World → Prop), a.tmps.size = N → FRel ε h.mem fr a.tmps → HRel P ε h.mem w → base ≤ w.heap.size → Ctx r base a.defers ε h.mem w →
    Then P N r base Q fr1 h1 .ret ε h.mem w → c.wpIn (wideR r) 0 P Q a w := by
  rcases hk with ⟨i, hb⟩ | ⟨e', fr', h', he, hx⟩
  · rw [e] at hb; cases hb
  · subst e; cases he; exact hx
theorem inRound_w (o : Path) (res : Res) : (∀ k, Bad (inRound o res k)) ∨ ∃ (e : Exit) (j : Jump) (fr : FT) (h : H), Ends res e fr h ∧ (∀ k, inRound o res k = endRound o j h k) ∧ ((e = .normal ∧ j = .no) ∨ (∃ id, e = .exit id ∧ j = .exit id) ∨ (e = .ret ∧ j = .ret)) := by
  cases res with
  | nrm fr h => exact .inr ⟨.normal, .no, fr, h, .nrm fr h, fun _ => rfl, .inl ⟨rfl, rfl⟩⟩
  | ext id fr h => exact .inr ⟨.exit id, .exit id, fr, h, .ext id fr h, fun _ => rfl, .inr (.inl ⟨id, rfl, rfl⟩)⟩
  | ret fr h => exact .inr ⟨.ret, .ret, fr, h, .ret fr h, fun _ => rfl, .inr (.inr ⟨rfl, rfl⟩)⟩
  | fin v h => exact .inl fun _ => ⟨45, rfl⟩
  | bad i => exact .inl fun _ => ⟨i, rfl⟩
theorem CodeOk.ends {r : Option Nat} {c : Code} {fr fr1 : FT} {h h1 : H} {res : Res} {e : Exit} (hk : CodeOk P N r c fr h res) (he : Ends res e fr1 h1) : ∀ (base : Nat) (ε : Env) (a : Act) (w : World) (Q : Exit → Act → World → Prop), a.tmps.size = N → FRel ε h.mem fr a.tmps → HRel P ε h.mem w → base ≤ w.heap.size → Ctx r base a.defers ε h.mem w →
    Then P N r base Q fr1 h1 e ε h.mem w → c.wpIn (wideR r) 0 P Q a w := by
  cases he with
  | nrm => exact hk.nrm rfl
  | ext id => exact hk.ext rfl
  | ret => exact hk.ret rfl
theorem round_good {call : Go.Ai.Call} (hC : CallGood P call) (hDr : DrawnGood P) (args : List AV) (h : H) : Gives (round call args h) (CallOk P (pathOf 8191) args h) := by
  cases args with
  | nil => exact .inl fun _ => ⟨46, rfl⟩
  | cons y vs =>
    cases y with
    | yld o =>
      cases h with
      | mk t n =>
        have e0 : ∀ k, round call (.yld o :: vs) (.mk t n) k = Obj.casesOn (motive := fun _ => Res) (hget o t) (.bad 47) (fun _ _ => .bad 47) (fun _ _ => .bad 47) (.bad 47) (fun st _ f ps a b =>
          must 12 (Nat.blt st 4) (setArgs ps vs f fun fr => Res.casesOn (motive := fun _ => Res) (a.run call fr (.mk t n)) (fun fr h => beginRound o h fun h => inRound o (b.run call fr h) k) (fun _ _ _ => .bad 48) (fun _ _ => .bad 48) (fun _ _ => .bad 48) .bad)) := fun _ => rfl
        unfold Gives
        simp only [e0]
        cases e : hget o t with
        | loop st pd f ps a b =>
          show (∀ k : Kont, Bad (must 12 (Nat.blt st 4) (setArgs ps vs f fun fr => Res.casesOn (motive := fun _ => Res) (a.run call fr (.mk t n)) (fun fr h => beginRound o h fun h => inRound o (b.run call fr h) k) (fun _ _ _ => .bad 48) (fun _ _ => .bad 48) (fun _ _ => .bad 48) .bad))) ∨ ∃ v h, (∀ k : Kont, must 12 (Nat.blt st 4) (setArgs ps vs f fun fr => Res.casesOn (motive := fun _ => Res) (a.run call fr (.mk t n)) (fun fr h => beginRound o h fun h => inRound o (b.run call fr h) k) (fun _ _ _ => .bad 48) (fun _ _ => .bad 48) (fun _ _ => .bad 48) .bad) = k v h) ∧ _
          rcases must_w 12 (Nat.blt st 4) with hb | ⟨h4, e4⟩
          · exact .inl fun _ => hb _
          rw [blt_dec] at h4
          have h9 : st ≠ 9 := by have := of_decide_eq_true h4; omega
          simp only [e4]
          show (∀ k : Kont, Bad (setArgs ps vs f fun fr => Res.casesOn (motive := fun _ => Res) (a.run call fr (.mk t n)) (fun fr h => beginRound o h fun h => inRound o (b.run call fr h) k) (fun _ _ _ => .bad 48) (fun _ _ => .bad 48) (fun _ _ => .bad 48) .bad)) ∨ ∃ v h, (∀ k : Kont, (setArgs ps vs f fun fr => Res.casesOn (motive := fun _ => Res) (a.run call fr (.mk t n)) (fun fr h => beginRound o h fun h => inRound o (b.run call fr h) k) (fun _ _ _ => .bad 48) (fun _ _ => .bad 48) (fun _ _ => .bad 48) .bad) = k v h) ∧ _
          rcases setArgs_w ps vs f with hb | ⟨fr0, e1⟩
          · exact .inl fun _ => hb _
          simp only [e1]
          cases e2 : a.run call fr0 (.mk t n) with
          | ext id fr1 h1 => exact .inl fun _ => ⟨48, rfl⟩
          | ret fr1 h1 => exact .inl fun _ => ⟨48, rfl⟩
          | fin v1 h1 => exact .inl fun _ => ⟨48, rfl⟩
          | bad i => exact .inl fun _ => ⟨i, rfl⟩
          | nrm fr1 h1 =>
            show (∀ k : Kont, Bad (beginRound o h1 fun h => inRound o (b.run call fr1 h) k)) ∨ ∃ v h, (∀ k : Kont, (beginRound o h1 fun h => inRound o (b.run call fr1 h) k) = k v h) ∧ _
            rcases beginRound_w o h1 with hb | ⟨pd1, f1, ps1, a1, b1, h2, hm1, hm2, e3⟩
            · exact .inl fun _ => hb _
            simp only [e3]
            rcases inRound_w o (b.run call fr1 h2) with hb | ⟨ex, j, fr3, h3, hen, e4, hej⟩
            · exact .inl hb
            simp only [e4]
            rcases endRound_w o j h3 with hb | ⟨st3, pd3, f3, ps3, a3, b3, h4, hm3, hm4, h93, e5⟩
            · exact .inl hb
            simp only [e5]
            refine .inr ⟨_, h4, fun _ => rfl, fun ε w hh => ⟨fun g A hg hp _ => ?_, fun o' vs' A _ harg ho hr => ?_⟩⟩
            · exact absurd (pathOf_inj (Nat.lt_trans hg (by decide)) (by decide) hp.symm) (Nat.ne_of_lt hg)
            · cases harg
              obtain ⟨L, hg, l1, l2, l3, rfl, l5, rfl, rfl, l8⟩ := (hh.loops o st pd f ps a b e).resolve_right fun h => h9 h.1
              rcases setArgs_ok L.params.toList vs f with hb | ⟨fr0', e1', hlen, hset⟩
              · obtain ⟨i, hb⟩ := hb fun fr => .nrm fr h1
                rw [e1] at hb; cases hb
              have hfr : fr0' = fr0 := by
                have h5 := (e1 fun fr => .nrm fr h1).symm.trans (e1' fun fr => .nrm fr h1)
                cases h5; rfl
              subst hfr
              have hF0 := hset ε _ L.tmps A l3 l8 l5 hr
              have hsz : A.toArray.size = L.params.size := by have := hr.length; simp at hlen ⊢; omega
              have hy : (Instr.yield (ε o).blk A.toArray).run P w = .ok (.round (ε o).blk L.fn ((L.params.toList.zip A).foldl (fun T p => T.setIfInBounds p.1 p.2) L.tmps) L.assign L.body) w := by
                have hz : (L.params.zip A.toArray).foldl (fun tmps (x : Tmp × Value) => tmps.setIfInBounds x.1 x.2) L.tmps = (L.params.toList.zip A).foldl (fun T p => T.setIfInBounds p.1 p.2) L.tmps := by
                  rw [← Array.foldl_toList, Array.toList_zip]
                simp only [Instr.yield, Sem.run_bind, run_getLoop hg, Result.andThen, hsz, ne_eq, not_true_eq_false, if_false, Sem.run_pure]
                rw [hz]
              refine ⟨_, w, hy, ?_⟩
              have hN0 : ((L.params.toList.zip A).foldl (fun T p => T.setIfInBounds p.1 p.2) L.tmps).size = L.tmps.size := by
                generalize L.params.toList.zip A = z
                generalize L.tmps = T
                induction z generalizing T with
                | nil => rfl
                | cons q z ih => rw [List.foldl_cons, ih]; simp
              have hc0 : Ctx (some (ε o).blk) 0 [] ε (H.mk t n).mem w := ⟨rfl, o, rfl, by show isLoop (hget o t); rw [e]; exact h9⟩
              refine roundIn_of_wpIn (F := Fence.wide) trivial ?_
              refine (code_good hC hDr l8 (some (ε o).blk) L.assign fr0' (.mk t n)).nrm (show (code P L.tmps.size L.assign).run call fr0' (.mk t n) = _ from e2) 0 ε _ w _ hN0 hF0 hh (Nat.zero_le _) hc0 fun ε1 a1' w1 k1 k2 k3 k4 => ?_
              show ∃ w₂, (Instr.beginRound (ε o).blk).run P w1 = .ok () w₂ ∧ L.body.wpIn (wideR (some (ε o).blk)) 0 P (roundPost P (ε o).blk _) a1' w₂
              have ho1 := k3.stays o ho
              obtain ⟨w2, hbr, adv2⟩ := beginRound_ok k3.rel hm1
              rw [← hm2] at adv2
              rw [ho1.2] at hbr
              refine ⟨w2, hbr, ?_⟩
              refine (code_good hC hDr l8 (some (ε o).blk) L.body fr1 h2).ends hen 0 ε1 a1' w2 _ k1 (k4.mono adv2.stays) adv2.rel (Nat.zero_le _) (k2.adv adv2) fun ε3 a3' w3 q1 q2 q3 q4 => ?_
              have ho2 := adv2.stays o ho1.1
              have ho3 := q3.stays o ho2.1
              obtain ⟨w4, her, adv4⟩ := endRound_ok j q3.rel hm3 h93
              rw [← hm4] at adv4
              rw [ho3.2, ho1.2] at her
              have hfin : Back (Rel P ε (H.mk t n).mem w (.bool (jumpOf j).isNone) h4.mem) (.returned (.bool (jumpOf j).isNone)) w4 := ⟨ε3, ((k3.trans adv2).trans q3).trans adv4, rfl⟩
              rcases hej with ⟨rfl, rfl⟩ | ⟨id, rfl, rfl⟩ | ⟨rfl, rfl⟩
              · exact ⟨_, w4, her, hfin⟩
              · exact ⟨_, w4, her, hfin⟩
              · exact ⟨_, w4, her, hfin⟩
        | _ => exact .inl fun _ => ⟨47, rfl⟩
    | _ => exact .inl fun _ => ⟨_, rfl⟩
def IntrGood (P : Program) (p : Path) (g : Go.Ai.Call → List AV → H → Kont → Res) : Prop := ∀ call, CallGood P call → ∀ args h, Gives (g call args h) (CallOk P p args h)
def EntryOk (P : Program) (p : Path) : Entry → Prop
  | .none => True
  | .go q => ∃ f func, p = pathOf f ∧ f < 8191 ∧ P.funcs[f]? = some func ∧ (func.name == "runtime.NumGoroutine") = false ∧ fn P func = some q
  | .intr g => IntrGood P p g
  | .yld => p = pathOf 8191
def TableOk (P : Program) (T : Tb) : Prop := ∀ p, EntryOk P p (tget p T)
theorem run_callFunc {f : FuncId} {func : Func} {A : Array Value} (hf : P.funcs[f]? = some func) (hn : (func.name == "runtime.NumGoroutine") = false) (hb : func.body.isSome = true) : (callFunc f A).run P w = .ok (.enter f A) w := by
  have h2 : func.body ≠ none := by cases e : func.body <;> simp_all
  have h3 : func.name ≠ "runtime.NumGoroutine" := by simpa using hn
  simp [callFunc, hf, h3, h2]
theorem calls_good (hDr : DrawnGood P) {T : Tb} (hT : TableOk P T) (fuel : Nat) : CallGood P (calls T fuel) := by
  induction fuel with
  | zero => exact fun p args h => .inl fun _ => ⟨27, rfl⟩
  | succ n ih =>
    intro p args h
    have e0 : ∀ k, calls T (n + 1) p args h k = Entry.casesOn (motive := fun _ => Res) (tget p T) (.bad 28) (fun fn => enter fn (calls T n) args h k) (fun g => g (calls T n) args h k) (round (calls T n) args h k) := fun _ => rfl
    unfold Gives
    simp only [e0]
    have hp := hT p
    cases e : tget p T with
    | none => exact .inl fun _ => ⟨28, rfl⟩
    | go q =>
      rw [e] at hp
      obtain ⟨f, func, rfl, hf8, hf, hn, hq⟩ := hp
      refine (enter_ok ih hDr hf hq args h).mono fun v h' hk ε w hh => ⟨fun g A hg hgp hr => ?_, fun o vs A hgp => absurd (pathOf_inj (Nat.lt_trans hf8 (by decide)) (by decide) hgp) (Nat.ne_of_lt hf8)⟩
      have hfg := pathOf_inj (Nat.lt_trans hf8 (by decide)) (Nat.lt_trans hg (by decide)) hgp
      subst hfg
      obtain ⟨b, res, hb, _⟩ := fn_some hq
      exact ⟨_, w, run_callFunc hf hn (by rw [hb]; rfl), hk ε w A hh hr, .inl ⟨rfl, rfl⟩⟩
    | intr g =>
      rw [e] at hp
      exact hp (calls T n) ih args h
    | yld =>
      rw [e] at hp
      have hp' : p = pathOf 8191 := hp
      subst hp'
      exact round_good ih hDr args h
end Go.Ai
