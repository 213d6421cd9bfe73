/- ConsoleExercises on the empty word, long words, and numbers out of range. ConsoleExercises returns true for every number and word. -/
import Derived.Test.YtnahoaefglcnkaaGreatDoorJ
import Derived.KernelRfl
import Derived.Test.YtnahoaefglcnkaaGreatDoorL0
import Derived.Test.YtnahoaefglcnkaaGreatDoorL1
import Derived.Test.YtnahoaefglcnkaaGreatDoorL2
import Derived.Test.YtnahoaefglcnkaaGreatDoorL3
import Derived.Test.YtnahoaefglcnkaaGreatDoorH0
import Derived.Test.YtnahoaefglcnkaaGreatDoorH1
import Derived.Test.YtnahoaefglcnkaaGreatDoorS0
import Derived.Test.YtnahoaefglcnkaaGreatDoorS1
set_option autoImplicit false
namespace Go.Ai
open Go
set_option maxRecDepth 100000
set_option maxHeartbeats 0
theorem em0 : forR 100 emR 0 done = done := by kernel_rfl
theorem lg0 (x : Nat → Nat) (t : List Nat) : forR 100 (lgR x t) 0 done = done := by kernel_rfl
theorem big0 (n : Nat) (w : List Nat) : exq (n + 100) w done = done := by kernel_rfl
theorem neg0 (n : Nat) (w : List Nat) : run1 (calls T1 400) (pathOf 3) [.int .i64 (.negSucc n), .str w] done = done := by kernel_rfl
end Go.Ai
set_option autoImplicit false
set_option linter.unusedSectionVars false
namespace Go.Ai
open Go
set_option maxRecDepth 100000
def ExOk (n : Int) (w : List Nat) : Prop := calls T1 400 (pathOf 3) [.int .i64 n, .str w] (.mk .leaf .e) (fun v _ => .fin v (.mk .leaf .e)) = done
section
variable [Nu] {P : Program} (hC : CallGood P (calls T1 400))
include hC
theorem exq_ok {n : Nat} {w : List Nat} {k : Res} (h : exq n w k = done) : ExOk (.ofNat n) w ∧ k = done := run1_ok hC h
theorem hiR_ok {n : Nat} {k : Res} (h : hiR n k = done) : (∀ L, 1 ≤ L → L < 21 → ExOk (.ofNat n) (wd L 512)) ∧ k = done :=
  forR_ok (Q := fun L => ExOk (.ofNat n) (wd L 512)) (fun L k h => exq_ok hC (by rw [forceW_eq] at h; exact h)) 20 1 k h
def Lo (n : Nat) (nm : List Nat) : Prop := (∀ L, 1 ≤ L → L < 21 → L ≠ nm.length → ExOk (.ofNat n) (wd L 512)) ∧ ExOk (.ofNat n) nm ∧ ∀ p, p < nm.length → ExOk (.ofNat n) (dif nm p 512)
theorem loR_ok {n : Nat} {nm : List Nat} {k : Res} (h : loR n nm k = done) : Lo n nm ∧ k = done := by
  unfold loR at h
  obtain ⟨h1, h2⟩ := forR_ok (Q := fun L => L ≠ nm.length → ExOk (.ofNat n) (wd L 512)) (fun L k h => by
    cases hq : Nat.beq L (llen nm) with
    | true =>
      rw [hq] at h
      refine ⟨fun hne => absurd ?_ hne, h⟩
      rw [← llen_len]; exact Nat.eq_of_beq_eq_true hq
    | false =>
      rw [hq] at h
      have h' := exq_ok hC (k := k) (n := n) (w := wd L 512) (by rw [← h]; exact (forceW_eq (wd L 512) fun w => exq n w k).symm)
      exact ⟨fun _ => h'.1, h'.2⟩) 20 1 _ h
  obtain ⟨h3, h4⟩ := exq_ok hC h2
  obtain ⟨h5, h6⟩ := forR_ok (Q := fun p => ExOk (.ofNat n) (dif nm p 512)) (fun p k h => exq_ok hC (by rw [forceW_eq] at h; exact h)) _ 0 _ h4
  refine ⟨⟨fun L h7 h8 => h1 L h7 (by omega), h3, fun p hp => h5 p (Nat.zero_le _) ?_⟩, h6⟩
  rw [llen_len]; omega
theorem loAll_ok : ∀ (l : List (List Nat)) (a : Nat) (k : Res), loAll l a k = done → (∀ i nm, l[i]? = some nm → Lo (a + i) nm) ∧ k = done
  | [], _, _, h => ⟨fun i nm hi => by simp at hi, h⟩
  | nm :: l, a, k, h => by
    have e : loAll (nm :: l) a k = forceN a fun n => loR n nm (loAll l (n + 1) k) := rfl
    rw [e, forceN_eq] at h
    obtain ⟨h1, h2⟩ := loR_ok hC h
    obtain ⟨h3, h4⟩ := loAll_ok l (a + 1) k h2
    refine ⟨fun i nm' hi => ?_, h4⟩
    cases i with
    | zero => simp at hi; subst hi; exact h1
    | succ i =>
      have := h3 i nm' (by simpa using hi)
      rw [show a + (i + 1) = a + 1 + i by omega]
      exact this
theorem spR_ok {x : Nat → Nat} {n : Nat} {k : Res} (h : spR x n k = done) : (∀ q r c, q + r < 20 → c = 32 ∨ c = 10 → ExOk (.ofNat n) (wd q 512 ++ c :: fr x r 0)) ∧ k = done := by
  have hs : ∀ (l : List Nat) (F : List Nat → Res), spineK l F = F l := fun l F => spineK_eq l F
  unfold spR at h
  obtain ⟨h1, h2⟩ := forR_ok (Q := fun q => ∀ r c, q + r < 20 → c = 32 ∨ c = 10 → ExOk (.ofNat n) (wd q 512 ++ c :: fr x r 0)) (fun q k h => by
    obtain ⟨h1, h2⟩ := forR_ok (Q := fun r => ∀ c, c = 32 ∨ c = 10 → ExOk (.ofNat n) (wd q 512 ++ c :: fr x r 0)) (fun r k h => by
      rw [hs] at h
      obtain ⟨h1, h2⟩ := exq_ok hC h
      rw [hs] at h2
      obtain ⟨h3, h4⟩ := exq_ok hC h2
      rw [lapp_eq] at h1 h3
      refine ⟨fun c hc => ?_, h4⟩
      rcases hc with rfl | rfl
      · exact h1
      · exact h3) _ 0 k h
    refine ⟨fun r c hr hc => h1 r (Nat.zero_le _) ?_ c hc, h2⟩
    show r < 0 + (20 - q)
    omega) 20 0 k h
  exact ⟨fun q r c hq hc => h1 q (Nat.zero_le _) (by omega) r c hq hc, h2⟩
theorem hi_all (n L : Nat) (h1 : 35 ≤ n) (h2 : n < 100) (h3 : 1 ≤ L) (h4 : L < 21) : ExOk (.ofNat n) (wd L 512) := by
  by_cases h : n < 68
  · exact (forR_ok (fun i k h => hiR_ok hC h) 33 35 done hi0).1 n h1 (by omega) L h3 h4
  · exact (forR_ok (fun i k h => hiR_ok hC h) 32 68 done hi1).1 n (by omega) (by omega) L h3 h4
theorem sp_all (x : Nat → Nat) (n : Nat) (h2 : n < 100) : ∀ q r c, q + r < 20 → c = 32 ∨ c = 10 → ExOk (.ofNat n) (wd q 512 ++ c :: fr x r 0) := by
  by_cases h : n < 50
  · exact (forR_ok (fun i k h => spR_ok hC h) 50 0 done (sp0 x)).1 n (by omega) (by omega)
  · exact (forR_ok (fun i k h => spR_ok hC h) 50 50 done (sp1 x)).1 n (by omega) (by omega)
theorem em_all (n : Nat) (h2 : n < 100) : ExOk (.ofNat n) [] :=
  (forR_ok (Q := fun n => ExOk (.ofNat n) []) (fun i k h => exq_ok hC h) 100 0 done em0).1 n (by omega) (by omega)
theorem lg_all (x : Nat → Nat) (t : List Nat) (n : Nat) (h2 : n < 100) : ExOk (.ofNat n) (fr x 21 0 ++ t) :=
  (forR_ok (Q := fun n => ExOk (.ofNat n) (fr x 21 0 ++ t)) (fun i k h => by
    unfold lgR at h
    rw [spineK_eq, lapp_eq] at h
    exact exq_ok hC h) 100 0 done (lg0 x t)).1 n (by omega) (by omega)
theorem big_all (n : Nat) (w : List Nat) (h : 100 ≤ n) : ExOk (.ofNat n) w := by
  have := (exq_ok hC (big0 (n - 100) w)).1
  rwa [show n - 100 + 100 = n by omega] at this
theorem neg_all (n : Nat) (w : List Nat) : ExOk (.negSucc n) w := (run1_ok hC (neg0 n w)).1
theorem lo_all (n : Nat) (h : n < 35) : ∃ nm : List UInt8, Lo n (nm.map (·.toNat)) := by
  have key : ∀ (l : List (List Nat)) (a : Nat), loAll l a done = done → l.all (fun w => w.all (· < 256)) = true → a ≤ n → n < a + l.length → ∃ nm : List UInt8, Lo n (nm.map (·.toNat)) := fun l a hl hb h1 h2 => by
    obtain ⟨h3, _⟩ := loAll_ok hC l a done hl
    have hi : n - a < l.length := by omega
    have h4 := h3 (n - a) l[n - a] (List.getElem?_eq_getElem hi)
    rw [show a + (n - a) = n by omega] at h4
    refine ⟨l[n - a].map Nat.toUInt8, ?_⟩
    have hb' : ∀ c ∈ l[n - a], c < 256 := by
      have := List.all_eq_true.1 hb _ (List.getElem_mem hi)
      intro c hc
      exact of_decide_eq_true (List.all_eq_true.1 this c hc)
    have e : (l[n - a].map Nat.toUInt8).map (·.toNat) = l[n - a] := by
      rw [List.map_map]
      conv => rhs; rw [← List.map_id l[n - a]]
      apply List.map_congr_left
      intro c hc
      have := hb' c hc
      simp; omega
    rw [e]; exact h4
  by_cases h1 : n < 9
  · exact key names0 0 lo0 (by decide) (by omega) (by show n < 0 + 9; omega)
  by_cases h2 : n < 18
  · exact key names1 9 lo1 (by decide) (by omega) (by show n < 9 + 9; omega)
  by_cases h3 : n < 27
  · exact key names2 18 lo2 (by decide) (by omega) (by show n < 18 + 9; omega)
  · exact key names3 27 lo3 (by decide) (by omega) (by show n < 27 + 8; omega)
end
theorem fr_take (l : List Nat) (k : Nat) (h : k ≤ l.length) : fr (fun i => l.getD i 0) k 0 = l.take k := by
  rw [fr_eq]
  apply List.ext_getElem?
  intro i
  rw [List.getElem?_map, List.getElem?_take]
  by_cases hi : i < k
  · rw [if_pos hi, List.getElem?_range' hi, List.getElem?_eq_getElem (by omega)]
    show some (l.getD (0 + 1 * i) 0) = _
    rw [show 0 + 1 * i = i by omega, List.getD_eq_getElem?_getD, List.getElem?_eq_getElem (by omega)]
    rfl
  · rw [if_neg hi, List.getElem?_eq_none (by simp; omega)]; rfl
theorem ex_words (E : Int → List Nat → Prop) (hneg : ∀ n w, E (.negSucc n) w) (hbig : ∀ n w, 100 ≤ n → E (.ofNat n) w) (hem : ∀ n, n < 100 → E (.ofNat n) [])
    (hlg : ∀ (x : Nat → Nat) (t : List Nat) n, n < 100 → E (.ofNat n) (fr x 21 0 ++ t)) (hsp : ∀ (x : Nat → Nat) n, n < 100 → ∀ q r c, q + r < 20 → c = 32 ∨ c = 10 → E (.ofNat n) (wd q 512 ++ c :: fr x r 0))
    (hhi : ∀ n L, 35 ≤ n → n < 100 → 1 ≤ L → L < 21 → E (.ofNat n) (wd L 512))
    (hlo : ∀ n, n < 35 → ∃ nm : List UInt8, (∀ L, 1 ≤ L → L < 21 → L ≠ (nm.map (·.toNat)).length → E (.ofNat n) (wd L 512)) ∧ E (.ofNat n) (nm.map (·.toNat)) ∧ ∀ p, p < (nm.map (·.toNat)).length → E (.ofNat n) (dif (nm.map (·.toNat)) p 512))
    (n : Int) (B : List UInt8) : ∃ (nu : Nu) (cs : List Nat), cs.map nu.f = B ∧ E n cs := by
  have plain : E n (B.map (·.toNat)) → ∃ (nu : Nu) (cs : List Nat), cs.map nu.f = B ∧ E n cs := fun h => ⟨nu0, _, map_known nu0 B, h⟩
  match n with
  | .negSucc n => exact plain (hneg n _)
  | .ofNat n =>
  by_cases hn : 100 ≤ n
  · exact plain (hbig n _ hn)
  have hn : n < 100 := by omega
  by_cases h0 : B = []
  · subst h0; exact plain (hem n hn)
  have h0 : 1 ≤ B.length := by cases B with
    | nil => exact absurd rfl h0
    | cons _ _ => simp
  by_cases hl : 21 ≤ B.length
  · refine plain ?_
    have h1 := hlg (fun i => (B.map (·.toNat)).getD i 0) ((B.map (·.toNat)).drop 21) n hn
    have e : fr (fun i => (B.map (·.toNat)).getD i 0) 21 0 = (B.map (·.toNat)).take 21 := fr_take _ _ (by simpa using hl)
    rw [e, List.take_append_drop] at h1
    exact h1
  rcases calm_split B with hc | ⟨p, s, t, rfl, hs, hp⟩
  · have wide : (∀ L, 1 ≤ L → L < 21 → L = B.length → E (.ofNat n) (wd L 512)) → ∃ (nu : Nu) (cs : List Nat), cs.map nu.f = B ∧ E (.ofNat n) cs := fun h =>
      ⟨nuOf B 0 97 hc (by decide) (by constructor <;> decide), wd B.length 512, map_unknown B 0 97 hc (by decide) (by constructor <;> decide) 0 B rfl, h B.length h0 (by omega) rfl⟩
    by_cases h35 : 35 ≤ n
    · exact wide fun L h1 h2 _ => hhi n L h35 hn h1 h2
    obtain ⟨nm, h1, h2, h3⟩ := hlo n (by omega)
    by_cases hlen : B.length = nm.length
    · rcases first_diff B nm hlen with rfl | ⟨p, b, t, d, u, rfl, rfl, hd⟩
      · exact plain h2
      · have hd' : b ≠ d.toNat.toUInt8 := by simpa using hd
        have hb : Calm b := hc b (by simp)
        refine ⟨nuOf (p ++ b :: t) d.toNat b hc hd' hb, dif ((p ++ d :: u).map (·.toNat)) p.length 512, ?_, h3 p.length (by simp)⟩
        have hlt : u.length = t.length := by simp at hlen; omega
        have e := dif_at d.toNat (u.map (·.toNat)) (p.map (·.toNat)) 512
        rw [List.length_map, List.length_map] at e
        rw [List.map_append, List.map_cons, e, List.map_append, List.map_cons, map_known]
        have e2 := map_unknown (p ++ b :: t) d.toNat b hc hd' hb (p.length + 1) t (by simp)
        rw [hlt, show 512 + p.length + 1 = 512 + (p.length + 1) by omega, e2]
        congr 2
        show nuF (p ++ b :: t) d.toNat b (256 + d.toNat) = b
        have := d.toNat_lt
        unfold nuF
        rw [if_neg (by omega), if_pos (by omega), if_pos rfl]
    · exact wide fun L h4 h5 h6 => h1 L h4 h5 (by simpa [h6] using hlen)
  · have hs' : s.toNat = 32 ∨ s.toNat = 10 := by rcases hs with rfl | rfl <;> decide
    have h1 := hsp (fun i => (t.map (·.toNat)).getD i 0) n hn p.length t.length s.toNat (by simp at hl; omega) hs'
    have e : fr (fun i => (t.map (·.toNat)).getD i 0) t.length 0 = t.map (·.toNat) := by
      have := fr_take (t.map (·.toNat)) t.length (by simp)
      rw [this, List.take_of_length_le (by simp)]
    rw [e] at h1
    refine ⟨nuOf p 0 97 hp (by decide) (by constructor <;> decide), _, ?_, h1⟩
    have e2 := map_unknown p 0 97 hp (by decide) (by constructor <;> decide) 0 p rfl
    rw [List.map_append, e2]
    congr 1
    exact map_known _ (s :: t)
theorem ex_all {P : Program} (hC : ∀ nu : Nu, @CallGood nu P (calls T1 400)) (n : Int) (B : List UInt8) : ∃ (nu : Nu) (cs : List Nat), cs.map nu.f = B ∧ ExOk n cs :=
  ex_words ExOk (@neg_all nu0 P (hC nu0)) (@big_all nu0 P (hC nu0)) (@em_all nu0 P (hC nu0)) (@lg_all nu0 P (hC nu0)) (@sp_all nu0 P (hC nu0)) (@hi_all nu0 P (hC nu0)) (@lo_all nu0 P (hC nu0)) n B
end Go.Ai
