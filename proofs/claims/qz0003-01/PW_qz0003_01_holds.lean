import PyProof.Rows.All
import PyProof.FactsAll.set
import PyProof.FactsAll.dict_keyiterator
import PyProof.CollectIter
import Wide.All
import OpenK.AllK
import KE.KSortTup
import Wide.FinOn
import Lean
import PySem.Challenge.RW_qz0003_01
set_option genSizeOf false
set_option Elab.async false
set_option maxRecDepth 100000
set_option linter.unusedVariables false
set_option linter.unusedSimpArgs false
namespace Mine
theorem hideG {G : Prop} (h : ∀ X : Prop, (G → X) → X) : G := h G id
end Mine
section
open Lean Meta PySem PySem.W PySem.Spec PySem.Calls PyProof.Rows
namespace Mine

theorem sub_news {h₀ h : Heap} {L : Addr} {l l' : List (Addr × Obj)} (N : News h₀ L h l) (hs : ∀ p ∈ l', p ∈ l) : News h₀ L h l' := fun p hp => N p (hs p hp)

noncomputable def RestIn (h₀ : Heap) (L : Addr) (rest : List (Addr × Obj)) (h : Heap) : Prop := News h₀ L h rest

/-- the program's order: more active first, then the least number -/
noncomputable def beforeB (act : List Int) (a b : Int) : Bool :=
  if act.getD a.toNat 0 = act.getD b.toNat 0 then decide (a < b) else decide (act.getD b.toNat 0 < act.getD a.toNat 0)
end Mine
namespace Mine
noncomputable def Valid (n : Nat) (heap : List Int) : Prop := ∀ k : Nat, 0 ≤ heap.getD k 0 ∧ heap.getD k 0 < (n : Int)
theorem Valid.set {n : Nat} {heap : List Int} (h : Valid n heap) {v : Int} (h0 : 0 ≤ v) (h1 : v < (n : Int)) (i : Nat) : Valid n (heap.set i v) := by
  intro k
  rw [List.getD_eq_getElem?_getD, List.getElem?_set]
  have := h k
  rw [List.getD_eq_getElem?_getD] at this
  split
  · split
    · simpa using ⟨h0, h1⟩
    · have h2 := h heap.length
      rw [List.getD_eq_getElem?_getD] at h2
      simp at h2 ⊢
      (first | lia | omega)
  · exact this
noncomputable def betterF (act heap : List Int) (s : Int) : Int :=
  if (heap.length : Int) ≤ 2 * s + 1 then -1
  else if 2 * s + 1 + 1 < (heap.length : Int) ∧ beforeB act (heap.getD (2 * s + 1 + 1).toNat 0) (heap.getD (2 * s + 1).toNat 0) = true then 2 * s + 1 + 1 else 2 * s + 1
noncomputable def sinkL (act : List Int) (var : Int) : Nat → List Int → List Int → Int → List Int × List Int
  | 0, h, p, s => (h.set s.toNat var, p.set var.toNat s)
  | n + 1, h, p, s =>
    if 0 ≤ betterF act h s ∧ beforeB act (h.getD (betterF act h s).toNat 0) var = true then
      sinkL act var n (h.set s.toNat (h.getD (betterF act h s).toNat 0)) (p.set (h.getD (betterF act h s).toNat 0).toNat s) (betterF act h s)
    else (h.set s.toNat var, p.set var.toNat s)
noncomputable def sinkF (act heap place : List Int) (s : Int) : List Int × List Int := sinkL act (heap.getD s.toNat 0) heap.length heap place s
noncomputable def riseL (act : List Int) (var : Int) : Nat → List Int → List Int → Int → List Int × List Int
  | 0, h, p, s => (h.set s.toNat var, p.set var.toNat s)
  | n + 1, h, p, s =>
    if 0 < s ∧ beforeB act var (h.getD ((s - 1).fdiv 2).toNat 0) = true then
      riseL act var n (h.set s.toNat (h.getD ((s - 1).fdiv 2).toNat 0)) (p.set (h.getD ((s - 1).fdiv 2).toNat 0).toNat s) ((s - 1).fdiv 2)
    else (h.set s.toNat var, p.set var.toNat s)
noncomputable def riseF (act heap place : List Int) (s : Int) : List Int × List Int := riseL act (heap.getD s.toNat 0) heap.length heap place s
end Mine
namespace Mine
noncomputable def SinkRel (act : List Int) (var : Int) (h₀ p₀ : List Int) (i spot : Int) (h p : List Int) : Prop :=
  ∃ n : Nat, (h.length : Int) ≤ spot + n ∧ sinkL act var h₀.length h₀ p₀ i = sinkL act var n h p spot
theorem SinkRel.start {act : List Int} {h₀ p₀ : List Int} {i : Int} {var : Int} (hi : 0 ≤ i) : SinkRel act var h₀ p₀ i i h₀ p₀ := ⟨h₀.length, by (first | lia | omega), rfl⟩
theorem betterF_lt {act h : List Int} {s : Int} (h0 : 0 ≤ s) (hb : 0 ≤ betterF act h s) : s < betterF act h s ∧ betterF act h s < h.length := by
  unfold betterF at *
  split at hb
  · (first | lia | omega)
  · split at hb
    · rw [if_neg (by assumption), if_pos (by assumption)]; (first | lia | omega)
    · rw [if_neg (by assumption), if_neg (by assumption)]; (first | lia | omega)
theorem SinkRel.step {act : List Int} {var : Int} {h₀ p₀ : List Int} {i spot : Int} {h p : List Int} (H : SinkRel act var h₀ p₀ i spot h p) (h0 : 0 ≤ spot) (h1 : spot < h.length)
    (hb : 0 ≤ betterF act h spot) (hB : beforeB act (h.getD (betterF act h spot).toNat 0) var = true) :
    SinkRel act var h₀ p₀ i (betterF act h spot) (h.set spot.toNat (h.getD (betterF act h spot).toNat 0)) (p.set (h.getD (betterF act h spot).toNat 0).toNat spot) := by
  obtain ⟨n, hn, e⟩ := H
  have hlt := betterF_lt (act := act) (h := h) h0 hb
  cases n with
  | zero => (first | lia | omega)
  | succ n =>
    refine ⟨n, by rw [List.length_set]; (first | lia | omega), ?_⟩
    rw [e]
    conv => lhs; unfold sinkL
    rw [if_pos ⟨hb, hB⟩]
theorem SinkRel.done {act : List Int} {var : Int} {h₀ p₀ : List Int} {i spot : Int} {h p : List Int} (H : SinkRel act var h₀ p₀ i spot h p) (h0 : 0 ≤ spot) (h1 : spot < h.length)
    (hb : ¬ (0 ≤ betterF act h spot ∧ beforeB act (h.getD (betterF act h spot).toNat 0) var = true)) :
    sinkL act var h₀.length h₀ p₀ i = (h.set spot.toNat var, p.set var.toNat spot) := by
  obtain ⟨n, hn, e⟩ := H
  cases n with
  | zero => (first | lia | omega)
  | succ n => rw [e]; unfold sinkL; rw [if_neg hb]
end Mine
namespace Mine
theorem Valid.lo {n : Nat} {heap : List Int} {k : Nat} (h : Valid n heap) : 0 ≤ heap.getD k 0 := (h k).1
theorem Valid.hi {n : Nat} {b : Int} {heap : List Int} {k : Nat} (h : Valid n heap) (e : (n : Int) ≤ b) : heap.getD k 0 < b := Int.lt_of_lt_of_le (h k).2 e
theorem betterF_le {act h : List Int} {s : Int} (h0 : 0 ≤ s) : betterF act h s < (h.length : Int) := by
  by_cases hb : 0 ≤ betterF act h s
  · exact (betterF_lt h0 hb).2
  · (first | lia | omega)
end Mine
namespace Mine
theorem sink_turn {act h p h₀ p₀ : List Int} {i spot b b' var : Int} {bb : Bool} {N M : Nat} (h0 : 0 ≤ spot) (h1 : spot < (h.length : Int)) (hl : h.length = N) (hp : p.length = M) (hv : Valid M h) (hb : b = betterF act h spot)
    (hr : SinkRel act var h₀ p₀ i spot h p) (hb0 : 0 ≤ b) (hB : bb = beforeB act (h.getD b.toNat 0) var) (hbt : bb = true) (hb' : b' = betterF act (h.set spot.toNat (h.getD b.toNat 0)) b) :
    0 ≤ b ∧ b < ((h.set spot.toNat (h.getD b.toNat 0)).length : Int) ∧ (h.set spot.toNat (h.getD b.toNat 0)).length = N ∧ (p.set (h.getD b.toNat 0).toNat spot).length = M ∧ Valid M (h.set spot.toNat (h.getD b.toNat 0)) ∧
      b' < ((h.set spot.toNat (h.getD b.toNat 0)).length : Int) ∧ b' = betterF act (h.set spot.toNat (h.getD b.toNat 0)) b ∧ SinkRel act var h₀ p₀ i b (h.set spot.toNat (h.getD b.toNat 0)) (p.set (h.getD b.toNat 0).toNat spot) := by
  have hlt := betterF_lt (act := act) (h := h) h0 (hb ▸ hb0)
  rw [← hb] at hlt
  refine ⟨hb0, by rw [List.length_set]; exact hlt.2, by rw [List.length_set]; exact hl, by rw [List.length_set]; exact hp, hv.set (hv _).1 (hv _).2 _, by rw [hb']; exact betterF_le hb0, hb', ?_⟩
  have := SinkRel.step hr h0 h1 (hb ▸ hb0) (by rw [← hb, ← hB]; exact hbt)
  rw [← hb] at this
  exact this
theorem sink_out {act h p h₀ p₀ : List Int} {i spot b : Int} (hb : b = betterF act h spot)
    (hr : SinkRel act (h₀.getD i.toNat 0) h₀ p₀ i spot h p) (h0 : 0 ≤ spot) (h1 : spot < (h.length : Int)) (hn : ¬ (0 ≤ b ∧ beforeB act (h.getD b.toNat 0) (h₀.getD i.toNat 0) = true)) :
    sinkF act h₀ p₀ i = (h.set spot.toNat (h₀.getD i.toNat 0), p.set (h₀.getD i.toNat 0).toNat spot) := by
  unfold sinkF
  exact SinkRel.done hr h0 h1 (hb ▸ hn)
end Mine
namespace Mine
theorem sink_meas {act h : List Int} {spot b : Int} {N : Nat} (hb : b = betterF act h spot) (h0 : 0 ≤ spot) (h1 : spot < (h.length : Int)) (hl : h.length = N) (hb0 : 0 ≤ b) : ((N : Int) - b).toNat < ((N : Int) - spot).toNat := by
  have := betterF_lt (act := act) (h := h) h0 (hb ▸ hb0)
  rw [← hb] at this
  (first | lia | omega)
end Mine
namespace Mine
noncomputable def RiseRel (act : List Int) (var : Int) (h₀ p₀ : List Int) (i spot : Int) (h p : List Int) : Prop :=
  ∃ n : Nat, spot < (n : Int) ∧ riseL act var h₀.length h₀ p₀ i = riseL act var n h p spot
theorem RiseRel.start {act : List Int} {h₀ p₀ : List Int} {i : Int} {var : Int} (hi : i < (h₀.length : Int)) : RiseRel act var h₀ p₀ i i h₀ p₀ := ⟨h₀.length, hi, rfl⟩
theorem rise_turn {act h p h₀ p₀ : List Int} {i spot var : Int} {bb : Bool} {N M : Nat} (hs : 0 < spot) (h1 : spot < (h.length : Int)) (hl : h.length = N) (hp : p.length = M) (hv : Valid M h)
    (hr : RiseRel act var h₀ p₀ i spot h p) (hB : bb = beforeB act var (h.getD ((spot - 1).fdiv 2).toNat 0)) (hbt : bb = true) :
    0 ≤ (spot - 1).fdiv 2 ∧ (spot - 1).fdiv 2 < ((h.set spot.toNat (h.getD ((spot - 1).fdiv 2).toNat 0)).length : Int) ∧ (h.set spot.toNat (h.getD ((spot - 1).fdiv 2).toNat 0)).length = N ∧ (p.set (h.getD ((spot - 1).fdiv 2).toNat 0).toNat spot).length = M ∧ Valid M (h.set spot.toNat (h.getD ((spot - 1).fdiv 2).toNat 0)) ∧
      RiseRel act var h₀ p₀ i ((spot - 1).fdiv 2) (h.set spot.toNat (h.getD ((spot - 1).fdiv 2).toNat 0)) (p.set (h.getD ((spot - 1).fdiv 2).toNat 0).toNat spot) := by
  have hf : (spot - 1).fdiv 2 = (spot - 1) / 2 := Int.fdiv_eq_ediv_of_nonneg _ (by decide)
  refine ⟨by (first | lia | omega), by rw [List.length_set]; (first | lia | omega), by rw [List.length_set]; exact hl, by rw [List.length_set]; exact hp, hv.set (hv _).1 (hv _).2 _, ?_⟩
  obtain ⟨n, hn, e⟩ := hr
  cases n with
  | zero => (first | lia | omega)
  | succ n =>
    refine ⟨n, by (first | lia | omega), ?_⟩
    rw [e]
    conv => lhs; unfold riseL
    rw [if_pos ⟨hs, by rw [← hB]; exact hbt⟩]
theorem rise_meas {spot : Int} (hs : 0 < spot) : ((spot - 1).fdiv 2).toNat < spot.toNat := by
  have hf : (spot - 1).fdiv 2 = (spot - 1) / 2 := Int.fdiv_eq_ediv_of_nonneg _ (by decide)
  (first | lia | omega)
theorem rise_out {act h p h₀ p₀ : List Int} {i spot : Int}
    (hr : RiseRel act (h₀.getD i.toNat 0) h₀ p₀ i spot h p) (h0 : 0 ≤ spot) (hn : ¬ (0 < spot ∧ beforeB act (h₀.getD i.toNat 0) (h.getD ((spot - 1).fdiv 2).toNat 0) = true)) :
    riseF act h₀ p₀ i = (h.set spot.toNat (h₀.getD i.toNat 0), p.set (h₀.getD i.toNat 0).toNat spot) := by
  unfold riseF
  obtain ⟨n, hn', e⟩ := hr
  rw [e]
  cases n with
  | zero => (first | lia | omega)
  | succ n => unfold riseL; rw [if_neg hn]
end Mine
namespace Mine
noncomputable def pushF (act heap place : List Int) (v : Int) : List Int × List Int :=
  if 0 ≤ place.getD v.toNat 0 then (heap, place)
  else riseF act (heap ++ [v]) (place.set v.toNat (((heap ++ [v]).length : Int) - 1)) (((heap ++ [v]).length : Int) - 1)
theorem Valid.push {n : Nat} {heap : List Int} (h : Valid n heap) {v : Int} (h0 : 0 ≤ v) (h1 : v < (n : Int)) : Valid n (heap ++ [v]) := by
  intro k
  have := h k
  rw [List.getD_eq_getElem?_getD] at this ⊢
  rw [List.getElem?_append]
  split
  · exact this
  · cases hk : k - heap.length with
    | zero => simpa using ⟨h0, h1⟩
    | succ j => simp; (first | lia | omega)
end Mine
namespace Mine
noncomputable def popF (act heap place : List Int) : Int × List Int × List Int :=
  if heap.length = 0 then (0, heap, place)
  else if 0 < heap.dropLast.length then (heap.getD 0 0, sinkF act (heap.dropLast.set 0 (heap.getLastD 0)) ((place.set (heap.getD 0 0).toNat (-1)).set (heap.getLastD 0).toNat 0) 0)
  else (heap.getD 0 0, heap.dropLast, place.set (heap.getD 0 0).toNat (-1))
theorem Valid.pop {n : Nat} {heap : List Int} (h : Valid n heap) (hn : 0 < n) : Valid n heap.dropLast := by
  intro k
  have := h k
  rw [List.getD_eq_getElem?_getD] at this ⊢
  rw [List.getElem?_dropLast]
  split
  · exact this
  · simp; (first | lia | omega)
end Mine
namespace Mine
theorem getLastD_eq (heap : List Int) : heap.getLastD 0 = heap.getD (heap.length - 1) 0 := by
  rw [List.getLastD_eq_getLast?, List.getD_eq_getElem?_getD, List.getLast?_eq_getElem?]
theorem Valid.last {n : Nat} {heap : List Int} (h : Valid n heap) : 0 ≤ heap.getLastD 0 ∧ heap.getLastD 0 < (n : Int) := by
  rw [getLastD_eq]; exact h _
end Mine
namespace Mine
theorem riseL_ok {act : List Int} {var : Int} : ∀ (n : Nat) (h p : List Int) (s : Int), (riseL act var n h p s).1.length = h.length ∧ (riseL act var n h p s).2.length = p.length
  | 0, h, p, s => by unfold riseL; simp
  | n + 1, h, p, s => by
    unfold riseL
    split
    · have := riseL_ok (act := act) (var := var) n (h.set s.toNat (h.getD ((s - 1).fdiv 2).toNat 0)) (p.set (h.getD ((s - 1).fdiv 2).toNat 0).toNat s) ((s - 1).fdiv 2)
      simpa using this
    · simp
theorem riseL_valid {act : List Int} {var : Int} {N : Nat} (h0 : 0 ≤ var) (h1 : var < (N : Int)) : ∀ (n : Nat) (h p : List Int) (s : Int), Valid N h → Valid N (riseL act var n h p s).1
  | 0, h, p, s, hv => by unfold riseL; exact hv.set h0 h1 _
  | n + 1, h, p, s, hv => by
    unfold riseL
    split
    · exact riseL_valid h0 h1 n _ _ _ (hv.set (hv _).1 (hv _).2 _)
    · exact hv.set h0 h1 _
theorem sinkL_ok {act : List Int} {var : Int} : ∀ (n : Nat) (h p : List Int) (s : Int), (sinkL act var n h p s).1.length = h.length ∧ (sinkL act var n h p s).2.length = p.length
  | 0, h, p, s => by unfold sinkL; simp
  | n + 1, h, p, s => by
    unfold sinkL
    split
    · have := sinkL_ok (act := act) (var := var) n (h.set s.toNat (h.getD (betterF act h s).toNat 0)) (p.set (h.getD (betterF act h s).toNat 0).toNat s) (betterF act h s)
      simpa using this
    · simp
theorem sinkL_valid {act : List Int} {var : Int} {N : Nat} (h0 : 0 ≤ var) (h1 : var < (N : Int)) : ∀ (n : Nat) (h p : List Int) (s : Int), Valid N h → Valid N (sinkL act var n h p s).1
  | 0, h, p, s, hv => by unfold sinkL; exact hv.set h0 h1 _
  | n + 1, h, p, s, hv => by
    unfold sinkL
    split
    · exact sinkL_valid h0 h1 n _ _ _ (hv.set (hv _).1 (hv _).2 _)
    · exact hv.set h0 h1 _
theorem sinkF_len (act heap place : List Int) (s : Int) : (sinkF act heap place s).1.length = heap.length ∧ (sinkF act heap place s).2.length = place.length := sinkL_ok _ _ _ _
theorem sinkF_valid {act heap place : List Int} {s : Int} {N : Nat} (hv : Valid N heap) : Valid N (sinkF act heap place s).1 := sinkL_valid (hv _).1 (hv _).2 _ _ _ _ hv
theorem riseF_len (act heap place : List Int) (s : Int) : (riseF act heap place s).1.length = heap.length ∧ (riseF act heap place s).2.length = place.length := riseL_ok _ _ _ _
theorem riseF_valid {act heap place : List Int} {s : Int} {N : Nat} (hv : Valid N heap) : Valid N (riseF act heap place s).1 := riseL_valid (hv _).1 (hv _).2 _ _ _ _ hv
theorem pushF_len (act heap place : List Int) (v : Int) : (pushF act heap place v).1.length ≤ heap.length + 1 ∧ (pushF act heap place v).2.length = place.length := by
  unfold pushF
  split
  · simp
  · have := riseF_len act (heap ++ [v]) (place.set v.toNat (((heap ++ [v]).length : Int) - 1)) (((heap ++ [v]).length : Int) - 1)
    simp only [List.length_append, List.length_set, List.length_cons, List.length_nil] at this ⊢
    (first | lia | omega)
theorem pushF_valid {act heap place : List Int} {v : Int} {N : Nat} (hv : Valid N heap) (h0 : 0 ≤ v) (h1 : v < (N : Int)) : Valid N (pushF act heap place v).1 := by
  unfold pushF
  split
  · exact hv
  · exact riseF_valid (hv.push h0 h1)
theorem Valid.mono {n m : Nat} {heap : List Int} (h : Valid n heap) (e : n ≤ m) : Valid m heap := fun k => ⟨(h k).1, by have := (h k).2; (first | lia | omega)⟩

noncomputable def growL : Nat → List Int → List Int → List Int → List Int × List Int × List Int
  | 0, a, h, p => (a, h, p)
  | j + 1, a, h, p => growL j (a ++ [0]) (pushF (a ++ [0]) h (p ++ [-1]) (((a ++ [0]).length : Int) - 1)).1 (pushF (a ++ [0]) h (p ++ [-1]) (((a ++ [0]).length : Int) - 1)).2
noncomputable def growF (act heap place : List Int) (k : Int) : List Int × List Int × List Int := growL (k + 1 - act.length).toNat act heap place
end Mine
namespace Mine
noncomputable def GrowRel (act₀ heap₀ place₀ : List Int) (k : Int) (a h p : List Int) : Prop := growF act₀ heap₀ place₀ k = growF a h p k
theorem grow_turn {act₀ heap₀ place₀ : List Int} {k : Int} {a h p h2 p2 : List Int} (hr : GrowRel act₀ heap₀ place₀ k a h p) (hk : (a.length : Int) - 1 < k) (hk2 : k < 100) (hpl : p.length = a.length) (hv : Valid a.length h) (hh : h.length < a.length)
    (e1 : h2 = (pushF (a ++ [0]) h (p ++ [-1]) (((a ++ [0]).length : Int) - 1)).1) (e2 : p2 = (pushF (a ++ [0]) h (p ++ [-1]) (((a ++ [0]).length : Int) - 1)).2) :
    p2.length = (a ++ [0]).length ∧ Valid (a ++ [0]).length h2 ∧ h2.length < (a ++ [0]).length ∧ (a ++ [0]).length ≤ 100 ∧ GrowRel act₀ heap₀ place₀ k (a ++ [0]) h2 p2 := by
  have hl := pushF_len (a ++ [0]) h (p ++ [-1]) (((a ++ [0]).length : Int) - 1)
  have hla : (a ++ [0]).length = a.length + 1 := by simp
  have hlp : (p ++ [-1]).length = p.length + 1 := by simp
  refine ⟨by rw [e2, hl.2]; (first | lia | omega), ?_, by rw [e1]; (first | lia | omega), by (first | lia | omega), ?_⟩
  · rw [e1]; exact pushF_valid (hv.mono (by (first | lia | omega))) (by (first | lia | omega)) (by (first | lia | omega))
  · unfold GrowRel at *
    rw [hr, e1, e2]
    unfold growF
    have : (k + 1 - (a.length : Int)).toNat = (k + 1 - ((a ++ [0]).length : Int)).toNat + 1 := by (first | lia | omega)
    rw [this]
    rfl
theorem grow_out {act₀ heap₀ place₀ : List Int} {k : Int} {a h p : List Int} (hr : GrowRel act₀ heap₀ place₀ k a h p) (hk : ¬ (a.length : Int) - 1 < k) : growF act₀ heap₀ place₀ k = (a, h, p) := by
  unfold GrowRel at hr
  rw [hr]
  unfold growF
  rw [show (k + 1 - (a.length : Int)).toNat = 0 by (first | lia | omega)]
  rfl
end Mine
end
section
open Lean Meta PySem PySem.W PySem.Spec PySem.Calls PyProof.Rows
namespace Mine

end Mine
namespace Mine
/-- callF for a def with cells -/
theorem callFC {prog : Program} {w : World} {A A₀ : Around} {s : Shared} {K : Frag} {L : Addr} {h₀ base : Heap} {m mg mb : Str → Option Value} {C rest : List (Addr × Obj)} {p : Program} {loose : List Str} {mean : ExcName → Option Value}
    {env : Env} {outer : List Env} {R : Result → Shared → Prop} {name qual : Str} {params : Arguments} {body : List Stmt} {scope : Scope} {dV kV doc pm cdv ct oc : Value} {an od : Option Addr} {osl : Array (Option Value)} {f : Addr} {args : Args} {binds : List (Str × Value)}
    (B : Below A₀ base outer h₀) (F : Fr h₀ L s.heap m) (X₀ : K.In h₀) (N : News h₀ L s.heap (C ++ rest)) (hsep : ∀ p ∈ rest, ∀ q ∈ C, p.1 ≠ q.1) (T : Top p loose mean mg mb h₀) (hA : A.frames = some (env :: outer)) (hf : env.frame = some L) (hke : env.scope.kind = .function)
    (ho : K.lookup f = some ⟨oc, od, .func (fnOf name qual params body scope dV kV doc pm an cdv ct), osl⟩) (hcd : codeIn K cdv qual = true) (hroom : A.depth < recursionLimit)
    (hbind : BindsTo s (fnOf name qual params body scope dV kV doc pm an cdv ct) args binds) (hkind : (binds.all fun y => scope.names.lookup y.1 == some .local || scope.names.lookup y.1 == some .cell) = true)
    (hnd : ((cellsFrom 0 scope.names []).map (·.1)).Nodup)
    (h : ∀ (R' : Value → Shared → Prop) g L' h₁ tk cells, (∀ v s', (RestIn h₀ L rest s'.heap → R (.ok (.ret v)) s') → R' v s') → Fr h₀ L g m → Fr g L' h₁ (bindL (envOfC qual scope L' f cdv).kindOf binds fun _ => none) → News g L' h₁ (cells ++ C) →
      CellsAre (bindC (envOfC qual scope L' f cdv).kindOf binds fun _ => none) (cellsFrom (L' + 1) scope.names []) cells → Below A base (env :: outer) g → K.In g → Top p loose mean mg mb g → (∀ p ∈ C, p.1 < L') → (∀ p ∈ rest, p.1 < L') →
      wpAny (model prog w) (A.deeper (envOfC qual scope L' f cdv)) (execs body (envOfC qual scope L' f cdv))
        (fun fl s' => LeaveK h₀ L m g (fun r s' => match r with | .ok (.ret v) => R' v s' | _ => False) (match fl with | .ret v => v | _ => .none) s')
        (fun e s' => wpAny (model prog w) (A.deeper (envOfC qual scope L' f cdv)) (leaving (envOfC qual scope L' f cdv) e) (fun _ s'' => R (.error e) s'') (fun e' s'' => R (.error e') s'') s')
        { s with heap := h₁, toks := tk })
    (hco : scope.isCoroutine = false) (hgen : scope.isGenerator = false) (hk : scope.kind = .function) : codeAny (model prog w) A (.call (.ref f) args) R s := by
  have NC : News h₀ L s.heap C := sub_news N fun p hp => List.mem_append_left _ hp
  have NR : News h₀ L s.heap rest := sub_news N fun p hp => List.mem_append_right _ hp
  obtain ⟨FG, BG, st, lv⟩ := groundX (R := fun r s' => match r with | .ok (.ret v) => (RestIn h₀ L rest s'.heap → R (.ok (.ret v)) s') | _ => False) B F NC hA hf hke
  refine codeAny_call_function hroom ((X₀.keeps F.keep) _ _ ho) rfl hco hgen rfl (codeRec_of (X₀.keeps F.keep) hcd) (hbind _ _ _ _ ?_)
  refine wpAny_newFunctionEnv_cells hk (kindsX hkind _) fun env' he s' x => ?_
  subst he
  refine ⟨(T.nolimit.keeps F.keep).keeps x.toInCall.keep, codeAny_func ?_⟩
  obtain ⟨h₁, tk, rfl, _⟩ := x.done
  have hk₁ := x.toInCall.keep
  obtain ⟨cells, NCl, Y⟩ := Cl.news (h₀ := s.heap) (Nat.le_refl _) fun n c hm => ⟨x.cell n c (lookup_of_mem_nodup (cellsFrom_names scope.names 0 (s.heap.objs.size + 1) [] [] rfl ▸ hnd) hm), x.above n c hm⟩
  refine wpAny_mono (h (fun v s' => RestIn h₀ L rest s'.heap → R (.ok (.ret v)) s') _ s.heap.objs.size h₁ tk cells (fun _ _ z => z) FG ⟨x.toInCall.ns, fun b o e => hk₁ b o (of_hideAll _ e), Nat.le_of_eq (hideAll_size _ _)⟩ (fun p hp => ?_) Y BG (X₀.keeps st) (T.keeps st) (fun p hp => Heap.lt_size (NC p hp).1) (fun p hp => Heap.lt_size (NR p hp).1)) (fun fl s' hl => ?_) fun _ _ y => y
  · rcases List.mem_append.mp hp with hp | hp
    · refine ⟨(NCl p hp).1, (NCl p hp).2.1, ?_⟩
      cases q : (hideAll s.heap (C.map (·.1))).get? p.1 with
      | none => rfl
      | some o => have := of_hideAll _ q; rw [(NCl p hp).2.2] at this; cases this
    · exact ⟨hk₁ _ _ (NC p hp).1, Nat.ne_of_lt (Heap.lt_size (NC p hp).1), hideAll_none _ (List.mem_map_of_mem hp)⟩
  · refine lv _ _ hl ?_
    obtain ⟨L', m', news', F', N', k⟩ := hl
    intro p hp
    refine ⟨F'.keep _ _ (hideAll_get _ (NR p hp).1 fun q => ?_), (NR p hp).2⟩
    obtain ⟨q', hq', e⟩ := List.mem_map.mp q
    exact hsep p hp q' hq' e.symm
end Mine
namespace Mine
noncomputable def bfN (many spot : Nat) : Nat → List Nat
  | 0 => [spot]
  | i + 1 => if h : i < (bfN many spot i).length then bfN many spot i ++ [2 * (bfN many spot i)[i] + 1, 2 * (bfN many spot i)[i] + 2].filter (· < many) else bfN many spot i
noncomputable def belowF (many spot : Nat) : List Nat := bfN many spot 12
end Mine
namespace Mine
end Mine
namespace Mine
theorem ints_at {k : Int} : ∀ {vs : List Value} {ns : List Int} {i : Nat} {v : Value}, IntsAre vs ns → vs[i]? = some v → ns[i]? = some k → ∃ t, v = .int k t
  | _, _, _, _, .nil, h, _ => by simp at h
  | _, _, 0, _, .cons i t h, hv, hk => by
    simp at hv hk
    exact ⟨t, by rw [← hv, ← hk]⟩
  | _, _, j + 1, _, .cons i t h, hv, hk => by
    simp at hv hk
    exact ints_at h hv hk
theorem ints_some {vs : List Value} {ns : List Int} {i : Nat} {v : Value} (h : IntsAre vs ns) (hv : vs[i]? = some v) : ∃ k t, ns[i]? = some k ∧ v = .int k t := by
  have hl := h.length
  have : i < vs.length := by
    rcases Nat.lt_or_ge i vs.length with q | q
    · exact q
    · rw [List.getElem?_eq_none q] at hv; cases hv
  have hk : ns[i]? = some ns[i] := List.getElem?_eq_getElem (by (first | lia | omega))
  obtain ⟨t, e⟩ := ints_at h hv hk
  exact ⟨_, t, hk, e⟩
theorem bfN_mem : ∀ many ≤ 12, ∀ spot < many, ∀ i ≤ 12, ∀ k ∈ bfN many spot i, k < many := by decide +kernel
end Mine
end
section
open Lean Meta PySem PySem.W PySem.Spec PySem.Calls PyProof.Rows
namespace Mine
open PyProof.Rows.LCg PyProof.Rows.LCt
section
variable {prog : Program} {w : World} {A : Around} {E : Value → Shared → Prop} {s : Shared} {h₀ : Heap} {L : Addr} {m : Str → Option Value} {env : Env}
end
end Mine
namespace Mine
theorem line1000 {n : Nat} (h : n ≤ 100000) : n ≤ sizeLine := by rw [sizeLine_eq]; (first | lia | omega)
end Mine
namespace Mine
theorem ints_append {vs us : List Value} {ns ms : List Int} (h : IntsAre vs ns) (k : IntsAre us ms) : IntsAre (vs ++ us) (ns ++ ms) := by
  induction h with
  | nil => exact k
  | cons i t _ ih => exact .cons i t ih
end Mine
namespace Mine
end Mine
end
section
open Lean Meta PySem PySem.W PySem.Spec PySem.Calls PyProof.Rows
namespace Mine
open PyProof.Rows.LCg PyProof.Rows.LCt

section
variable {prog : Program} {w : World} {A : Around} {E : Value → Shared → Prop} {s : Shared} {env : Env} {h₀ : Heap} {x : Str} {px pos : Pos} {body : List Stmt} {iter : PySem.Expr} {Q : Flow → Shared → Prop} {m₀ : Str → Option Value}

end
end Mine
namespace Mine
open PyProof.Rows.LCg PyProof.Rows.LCt
section
variable {prog : Program} {w : World} {A : Around} {E : Value → Shared → Prop} {s : Shared} {env : Env} {h₀ : Heap} {x : Str} {px pos : Pos} {body : List Stmt} {iter : PySem.Expr} {Q : Flow → Shared → Prop} {m₀ : Str → Option Value}

end
end Mine
end
section
open Lean Meta PySem PySem.W PySem.Spec PySem.Calls PyProof.Rows
namespace Mine
open PyProof.Rows.LCg PyProof.Rows.LCt
section
variable {prog : Program} {w : World} {A : Around} {E : Value → Shared → Prop} {s : Shared} {h₀ : Heap} {L : Addr} {m : Str → Option Value} {env : Env}

end
end Mine
namespace Mine
end Mine
namespace Mine
end Mine
namespace Mine
end Mine
end
section
open PySem PySem.W PySem.Spec PySem.Calls PyProof.Rows PyProof.Rows.LCg
namespace Mine

/-- values without their tokens -/
inductive AV where
  | int (i : Int) | str (x : Str) | val (v : Value)
noncomputable abbrev AV.ref (a : Addr) : AV := .val (.ref a)
noncomputable abbrev AV.bool (b : Bool) : AV := .val (.bool b)
noncomputable def RV : AV → Value → Prop
  | .int i, v => ∃ t, v = .int i t
  | .str x, v => ∃ t, v = .str x t
  | .val a, v => v = a
/-- objects -/
inductive AO where
  | ints (l : List Int) | pairs (l : List (Int × Int)) | tup (l : List AV) | dict (kvs : List (Str × AV)) | idict (kvs : List (Str × AV)) | inst (C d : Addr) | rng (a b c : Int) | opq (q : Obj → Prop)
inductive F2 {α β : Type} (R : α → β → Prop) : List α → List β → Prop
  | nil : F2 R [] []
  | cons {a b l r} : R a b → F2 R l r → F2 R (a :: l) (b :: r)
noncomputable abbrev tupObj (l : List Value) (n : Nat) : Obj := { cls := .type "tuple", data := .seq l.toArray n }
noncomputable def IsPair (all : List (Addr × Obj)) (p : Int × Int) (v : Value) : Prop := ∃ a t u n, v = .ref a ∧ (a, tupObj [.int p.1 t, .int p.2 u] n) ∈ all
noncomputable abbrev rngObj (a b c : Int) (t u v : Tok) : Obj := { cls := .type "range", dict := none, data := .fields #[.int a t, .int b u, .int c v], slots := #[] }
noncomputable def OR (prog : Program) (w : World) (all : List (Addr × Obj)) (a : Addr) : AO → Obj → Prop
  | .ints l, o => ∃ vs n, o = W.listOf (List.toArray vs) n ∧ IntsAre vs l
  | .pairs l, o => ∃ vs n, o = W.listOf (List.toArray vs) n ∧ F2 (IsPair all) l vs
  | .tup l, o => ∃ vs n, o = tupObj vs n ∧ F2 RV l vs
  | .dict kvs, o => (a == sysModules) = false ∧ ∃ ks, Obj.IsDictOf (PySem.strKind prog w) o ks ∧ F2 (fun (p : Str × AV) (q : Str × Value) => q.1 = p.1 ∧ RV p.2 q.2) kvs ks
  | .idict kvs, o => ∃ es n, o = dictOf es n ∧ F2 (fun (p : Str × AV) (e : DictEntry) => (∃ t, e.key = .str p.1 t) ∧ RV p.2 e.val) kvs es
  | .inst C d, o => o = instObj C d
  | .rng x y z, o => ∃ t u v, o = rngObj x y z t u v
  | .opq q, o => q o

noncomputable abbrev Objs := List (Addr × AO)
structure HA (prog : Program) (w : World) (ex : List (Addr × Obj)) (objs : Objs) (all : List (Addr × Obj)) : Prop where
  nd : (all.map (·.1)).Nodup
  sb : ∀ p ∈ ex, p ∈ all
  ob : ∀ p ∈ objs, ∃ o, (p.1, o) ∈ all ∧ OR prog w all p.1 p.2 o
  on : (objs.map (·.1)).Nodup
  ap : ∀ p ∈ objs, ∀ q ∈ ex, p.1 ≠ q.1
inductive HR (prog : Program) (w : World) (h₀ : Heap) (L : Addr) (m : Str → Option Value) (ex : List (Addr × Obj)) (objs : Objs) (h : Heap) : Prop
  | mk (fr : Fr h₀ L h m) (all : List (Addr × Obj)) (nw : News h₀ L h all) (ha : HA prog w ex objs all)
theorem HR.fr {prog : Program} {w : World} {h₀ : Heap} {L : Addr} {m : Str → Option Value} {ex : List (Addr × Obj)} {objs : Objs} {h : Heap} (H : HR prog w h₀ L m ex objs h) : Fr h₀ L h m := by cases H; assumption

/-- the program at hand -/
structure Pg where
  prog : Program
  p : Program
  loose : List Str
  K : Params → Frag
  sa : Addr
  sl : List Int
structure Fx (P : Pg) (w : World) (A : Around) (h₀ : Heap) (L : Addr) (b : Nat) : Prop where
  has : ∃ A₀ base outer fenv mean mg mb, Below A₀ base outer h₀ ∧ Top P.p P.loose mean mg mb h₀ ∧ A.frames = some (fenv :: outer) ∧ fenv.frame = some L ∧ fenv.scope.kind = .function
  X : (P.K w.params).In h₀
  scr : ∃ vs, h₀.IsList P.sa (List.toArray vs) ∧ IntsAre vs P.sl
  hh : A.handled = none
  hd : A.depth + b < recursionLimit
  hu : A.units + 100 * b + 100 < cLine
structure Same3 {α β γ : Type} (a a' : α) (b b' : β) (c c' : γ) : Prop where
  gens : a' = a
  drawn : b' = b
  os : c' = c
noncomputable def Same (s s' : Shared) : Prop := Same3 s.gens s'.gens s.gens s'.gens s.os s'.os
theorem Same.rfl {s : Shared} : Same s s := ⟨_root_.rfl, _root_.rfl, _root_.rfl⟩
theorem Same.trans {s s' s'' : Shared} (a : Same s s') (b : Same s' s'') : Same s s'' := ⟨b.1.trans a.1, b.2.trans a.2, b.3.trans a.3⟩

/-- a tree of the semantics, run upon objects -/
noncomputable def CL (P : Pg) (w : World) (b : Nat) {α β : Type} (t : Sem α) (R : β → α → Prop) (objs : Objs) (Kk : β → Objs → Prop) : Prop :=
  ∀ (A : Around) (h₀ : Heap) (L : Addr) (m : Str → Option Value) (ex : List (Addr × Obj)) (s : Shared) (Q : α → Shared → Prop) (E : Value → Shared → Prop),
    Fx P w A h₀ L b → HR P.prog w h₀ L m ex objs s.heap →
    (∀ v objs' v' s', Kk v objs' → R v v' → HR P.prog w h₀ L m ex objs' s'.heap → Same s s' → Q v' s') → wpAny (model P.prog w) A t Q E s
noncomputable def VarOK (L : Addr) (env : Env) (m : Str → Option Value) (ex : List (Addr × Obj)) (x : Str) (v : AV) : Prop :=
  ∃ v', RV v v' ∧ ((env.kindOf x = some .local ∧ env.locals = L ∧ m x = some v') ∨
    (env.kindOf x = some .local ∧ ∃ o m₂, (env.locals, o) ∈ ex ∧ NsObj o m₂ ∧ m₂ x = some v') ∨
    ((env.kindOf x = some .cell ∨ env.kindOf x = some .free) ∧ ∃ c o, env.cells.lookup x = some c ∧ (c, o) ∈ ex ∧ o.data = .cell (some v')))
noncomputable abbrev Vars := List (Str × AV)
noncomputable def VarsOK (L : Addr) (env : Env) (m : Str → Option Value) (ex : List (Addr × Obj)) (vars : Vars) : Prop := ∀ p ∈ vars, VarOK L env m ex p.1 p.2
structure EnvOK (sc : Scope) (L : Addr) (env : Env) : Prop where
  scope : env.scope = sc
  kind : sc.kind = .function
  globals : env.globals = mainGlobals
  builtins : env.builtins = builtinsNs
  cells : ∀ x, env.kindOf x = some .cell ∨ env.kindOf x = some .free → ∃ c, env.cells.lookup x = some c
/-- a tree under names that stay -/
noncomputable def WX (P : Pg) (w : World) (sc : Scope) (b : Nat) {α β : Type} (t : Env → Sem α) (R : β → α → Prop) (vars : Vars) (objs : Objs) (Kk : β → Objs → Prop) : Prop :=
  ∀ (A : Around) (h₀ : Heap) (L : Addr) (m : Str → Option Value) (ex : List (Addr × Obj)) (env : Env) (s : Shared) (Q : α → Shared → Prop) (E : Value → Shared → Prop),
    Fx P w A h₀ L b → EnvOK sc L env → VarsOK L env m ex vars → HR P.prog w h₀ L m ex objs s.heap →
    (∀ v objs' v' s', Kk v objs' → R v v' → HR P.prog w h₀ L m ex objs' s'.heap → Same s s' → Q v' s') → wpAny (model P.prog w) A (t env) Q E s

section
variable {P : Pg} {w : World} {sc : Scope} {b : Nat} {α β γ δ : Type} {vars : Vars} {objs : Objs}

theorem WX.mono {t : Env → Sem α} {R : β → α → Prop} {K K' : β → Objs → Prop} (h : WX P w sc b t R vars objs K) (hk : ∀ v o, K v o → K' v o) : WX P w sc b t R vars objs K' :=
  fun A h₀ L m ex env s Q E fx eo vo hr k => h A h₀ L m ex env s Q E fx eo vo hr fun v o v' s' hK => k v o v' s' (hk v o hK)
end

/-- some of the objects, in whatever order -/
noncomputable def Pick (l o : Objs) : Prop := (∀ p ∈ l, p ∈ o) ∧ ((o.map (·.1)).Nodup → (l.map (·.1)).Nodup)
theorem Pick.of_sub {l o : Objs} (h : List.Sublist l o) : Pick l o := ⟨fun _ hp => h.subset hp, fun hn => (h.map _).nodup hn⟩
/- lists of objects -/
inductive Up (D : Addr) (o o' : AO) : Objs → Objs → Prop
  | head {r} : Up D o o' ((D, o) :: r) ((D, o') :: r)
  | tail {p r r'} : Up D o o' r r' → Up D o o' (p :: r) (p :: r')
theorem Up.mem {D : Addr} {o o' : AO} {l l' : Objs} (h : Up D o o' l l') : (D, o) ∈ l := by
  induction h with
  | head => exact .head _
  | tail _ ih => exact .tail _ ih
theorem Up.fst {D : Addr} {o o' : AO} {l l' : Objs} (h : Up D o o' l l') : l'.map (·.1) = l.map (·.1) := by
  induction h with
  | head => rfl
  | tail _ ih => simp only [List.map_cons, ih]
theorem Up.cases {D : Addr} {o o' : AO} {l l' : Objs} (h : Up D o o' l l') (hn : (l.map (·.1)).Nodup) : ∀ p ∈ l', p = (D, o') ∨ (p ∈ l ∧ p.1 ≠ D) := by
  induction h with
  | head =>
    rw [List.map_cons, List.nodup_cons] at hn
    intro p hp
    rcases List.mem_cons.mp hp with rfl | hp
    · exact .inl rfl
    · exact .inr ⟨.tail _ hp, fun e => hn.1 (by rw [show (D, o).1 = p.1 from e.symm]; exact List.mem_map_of_mem (f := (·.1)) hp)⟩
  | @tail q r r' hu ih =>
    rw [List.map_cons, List.nodup_cons] at hn
    intro p hp
    rcases List.mem_cons.mp hp with rfl | hp
    · refine .inr ⟨.head _, fun e => hn.1 ?_⟩
      have := List.mem_map_of_mem (f := (·.1)) hu.mem
      rw [e]; exact this
    · rcases ih hn.2 p hp with e | ⟨e, n⟩
      · exact .inl e
      · exact .inr ⟨.tail _ e, n⟩
theorem Up.self {D : Addr} {o o' : AO} {l l' : Objs} (h : Up D o o' l l') : (D, o') ∈ l' := by
  induction h with
  | head => exact .head _
  | tail _ ih => exact .tail _ ih

theorem nodup_key {all : List (Addr × Obj)} (hn : (all.map (·.1)).Nodup) {a : Addr} {o o' : Obj} (h : (a, o) ∈ all) (h' : (a, o') ∈ all) : o = o' := by
  induction all with
  | nil => cases h
  | cons p r ih =>
    rw [List.map_cons, List.nodup_cons] at hn
    rcases List.mem_cons.mp h with rfl | h1
    · rcases List.mem_cons.mp h' with e | h2
      · exact (Prod.mk.inj e).2.symm
      · exact absurd (List.mem_map_of_mem (f := (·.1)) h2) hn.1
    · rcases List.mem_cons.mp h' with e | h2
      · exact absurd (e ▸ List.mem_map_of_mem (f := (·.1)) h1) hn.1
      · exact ih hn.2 h1 h2

/-- the split of the ledger at one object -/
theorem split_at {all : List (Addr × Obj)} (hn : (all.map (·.1)).Nodup) {a : Addr} {o : Obj} (h : (a, o) ∈ all) :
    ∃ pre post, all = pre ++ (a, o) :: post ∧ (∀ p ∈ pre, p.1 ≠ a) ∧ ∀ p ∈ post, p.1 ≠ a := by
  obtain ⟨pre, post, rfl⟩ := List.append_of_mem h
  refine ⟨pre, post, rfl, fun p hp e => ?_, fun p hp e => ?_⟩
  · rw [List.map_append, List.nodup_append] at hn
    exact hn.2.2 _ (List.mem_map_of_mem hp) _ (List.mem_map_of_mem (List.mem_cons_self)) e
  · rw [List.map_append, List.nodup_append, List.map_cons, List.nodup_cons] at hn
    exact hn.2.1.1 (by rw [show (a, o).1 = p.1 from e.symm]; exact List.mem_map_of_mem (f := (·.1)) hp)
theorem updF_of {a : Addr} {o : Obj} : ∀ {pre post : List (Addr × Obj)}, (∀ p ∈ pre, p.1 ≠ a) → (∀ p ∈ post, p.1 ≠ a) → UpdF a o (pre ++ (a, o) :: post) (fun o' => pre ++ (a, o') :: post)
  | [], _, _, h2 => .head h2
  | p :: pre, _, h1, h2 => .tail (h1 p (.head _)) (updF_of (fun q hq => h1 q (.tail _ hq)) h2)
theorem upd_of {a : Addr} {o o' : Obj} : ∀ {pre post : List (Addr × Obj)}, (∀ p ∈ pre, p.1 ≠ a) → (∀ p ∈ post, p.1 ≠ a) → W.Upd a o o' (pre ++ (a, o) :: post) (pre ++ (a, o') :: post)
  | [], _, _, h2 => .head h2
  | p :: pre, _, h1, h2 => .tail (h1 p (.head _)) (upd_of (fun q hq => h1 q (.tail _ hq)) h2)

theorem F2.imp {α β : Type} {R S : α → β → Prop} (h : ∀ a b, R a b → S a b) : ∀ {l r}, F2 R l r → F2 S l r
  | _, _, .nil => .nil
  | _, _, .cons a b => .cons (h _ _ a) (b.imp h)
theorem F2.length {α β : Type} {R : α → β → Prop} : ∀ {l r}, F2 R l r → r.length = l.length
  | _, _, .nil => rfl
  | _, _, .cons a b => by simp only [List.length_cons, b.length]
theorem F2.append {α β : Type} {R : α → β → Prop} : ∀ {l r l' r'}, F2 R l r → F2 R l' r' → F2 R (l ++ l') (r ++ r')
  | _, _, _, _, .nil, h => h
  | _, _, _, _, .cons a b, h => .cons a (b.append h)
theorem F2.get {α β : Type} {R : α → β → Prop} : ∀ {l r} {i : Nat} {x : β}, F2 R l r → r[i]? = some x → ∃ a, l[i]? = some a ∧ R a x
  | _, _, _, _, .nil, h => by simp at h
  | _, _, 0, _, .cons a b, h => by simp at h; exact ⟨_, by simp, h ▸ a⟩
  | _, _, i + 1, _, .cons a b, h => by simp at h; obtain ⟨c, h1, h2⟩ := b.get h; exact ⟨c, by simpa using h1, h2⟩
theorem F2.get' {α β : Type} {R : α → β → Prop} : ∀ {l r} {i : Nat} {x : α}, F2 R l r → l[i]? = some x → ∃ a, r[i]? = some a ∧ R x a
  | _, _, _, _, .nil, h => by simp at h
  | _, _, 0, _, .cons a b, h => by simp at h; exact ⟨_, by simp, h ▸ a⟩
  | _, _, i + 1, _, .cons a b, h => by simp at h; obtain ⟨c, h1, h2⟩ := b.get' h; exact ⟨c, by simpa using h1, h2⟩

theorem OR.more {prog : Program} {w : World} {all all' : List (Addr × Obj)} {a : Addr} {ao : AO} {o : Obj} (h : OR prog w all a ao o)
    (hm : ∀ b l n, (b, tupObj l n) ∈ all → (b, tupObj l n) ∈ all') : OR prog w all' a ao o := by
  cases ao with
  | pairs l => obtain ⟨vs, n, e, f⟩ := h; exact ⟨vs, n, e, f.imp fun p v ⟨b, t, u, k, e, hb⟩ => ⟨b, t, u, k, e, hm _ _ _ hb⟩⟩
  | _ => exact h

noncomputable def notTup (o : Obj) : Prop := o.cls ≠ .type "tuple"

section
variable {prog : Program} {w : World} {h₀ : Heap} {L : Addr} {m : Str → Option Value} {ex : List (Addr × Obj)} {objs objs' : Objs} {h : Heap}

/-- a look at one object -/
theorem HR.look {D : Addr} {ao : AO} (H : HR prog w h₀ L m ex objs h) (hm : (D, ao) ∈ objs) : ∃ all o, Fr h₀ L h m ∧ News h₀ L h all ∧ HA prog w ex objs all ∧ (D, o) ∈ all ∧ OR prog w all D ao o := by
  refine hideG fun Xg hXg => ?_
  obtain ⟨F, all, N, A⟩ := H
  obtain ⟨o, h1, h2⟩ := A.3 _ hm
  refine hXg ?_
  exact ⟨all, o, F, N, A, h1, h2⟩
theorem HA.new {D : Addr} {ao : AO} {o : Obj} {all : List (Addr × Obj)} (H : HA prog w ex objs all) (hlt : ∀ p ∈ all, p.1 < D) (ho : OR prog w ((D, o) :: all) D ao o) : HA prog w ex ((D, ao) :: objs) ((D, o) :: all) := by
  obtain ⟨a1, a2, a3, a4, a5⟩ := H
  have hD : D ∉ all.map (·.1) := fun hm => by
    obtain ⟨p, hp, e⟩ := List.mem_map.mp hm
    exact Nat.lt_irrefl _ (e ▸ hlt p hp)
  refine ⟨by rw [List.map_cons, List.nodup_cons]; exact ⟨hD, a1⟩, fun p hp => .tail _ (a2 p hp), fun p hp => ?_, ?_, fun p hp q hq => ?_⟩
  · rcases List.mem_cons.mp hp with rfl | hp
    · exact ⟨o, .head _, ho⟩
    · obtain ⟨o', h1, h2⟩ := a3 p hp
      exact ⟨o', .tail _ h1, h2.more fun b l n hb => .tail _ hb⟩
  · rw [List.map_cons, List.nodup_cons]
    refine ⟨fun hm => ?_, a4⟩
    obtain ⟨p, hp, e⟩ := List.mem_map.mp hm
    obtain ⟨o', h1, _⟩ := a3 p hp
    exact hD (by rw [show D = p.1 from e.symm]; exact List.mem_map_of_mem (f := (·.1)) h1)
  · rcases List.mem_cons.mp hp with rfl | hp
    · exact fun e => hD (by rw [show D = q.1 from e]; exact List.mem_map_of_mem (a2 q hq))
    · exact a5 p hp q hq
theorem HR.new {D : Addr} {ao : AO} {o : Obj} {all : List (Addr × Obj)} (H : HA prog w ex objs all) (F : Fr h₀ L h m) (N : News h₀ L h ((D, o) :: all)) (hlt : ∀ p ∈ all, p.1 < D) (ho : OR prog w ((D, o) :: all) D ao o) :
    HR prog w h₀ L m ex ((D, ao) :: objs) h := ⟨F, _, N, H.new hlt ho⟩
/-- a hidden object more -/
theorem HA.junk {D : Addr} {o : Obj} {all : List (Addr × Obj)} (H : HA prog w ex objs all) (hlt : ∀ p ∈ all, p.1 < D) : HA prog w ex objs ((D, o) :: all) := by
  obtain ⟨a1, a2, a3, a4, a5⟩ := H
  have hD : D ∉ all.map (·.1) := fun hm => by
    obtain ⟨p, hp, e⟩ := List.mem_map.mp hm
    exact Nat.lt_irrefl _ (e ▸ hlt p hp)
  refine ⟨by rw [List.map_cons, List.nodup_cons]; exact ⟨hD, a1⟩, fun p hp => .tail _ (a2 p hp), fun p hp => ?_, a4, a5⟩
  obtain ⟨o', h1, h2⟩ := a3 p hp
  exact ⟨o', .tail _ h1, h2.more fun b l n hb => .tail _ hb⟩
theorem HA.upd {D : Addr} {ao ao' : AO} {o o' : Obj} {pre post : List (Addr × Obj)} (H : HA prog w ex objs (pre ++ (D, o) :: post)) (U : Up D ao ao' objs objs') (ho : OR prog w (pre ++ (D, o') :: post) D ao' o') (hnt : notTup o) :
    HA prog w ex objs' (pre ++ (D, o') :: post) := by
  obtain ⟨a1, a2, a3, a4, a5⟩ := H
  have fs : (pre ++ (D, o') :: post).map (·.1) = (pre ++ (D, o) :: post).map (·.1) := by simp
  have keep : ∀ b x, b ≠ D → (b, x) ∈ pre ++ (D, o) :: post → (b, x) ∈ pre ++ (D, o') :: post := fun b x hb hm => by
    rcases List.mem_append.mp hm with q | q
    · exact List.mem_append_left _ q
    · rcases List.mem_cons.mp q with e | q
      · exact absurd (Prod.mk.inj e).1 hb
      · exact List.mem_append_right _ (.tail _ q)
  refine ⟨fs ▸ a1, fun p hp => keep p.1 p.2 (fun e => a5 _ U.mem p hp e.symm) (a2 p hp), fun p hp => ?_, by rw [U.fst]; exact a4, fun p hp q hq => ?_⟩
  · rcases U.cases a4 p hp with rfl | ⟨hp', hne⟩
    · exact ⟨o', List.mem_append_right _ (.head _), ho⟩
    · obtain ⟨x, h1, h2⟩ := a3 p hp'
      refine ⟨x, keep _ _ hne h1, h2.more fun b l n hb => ?_⟩
      by_cases hbD : b = D
      · exfalso
        subst hbD
        have := nodup_key a1 hb (List.mem_append_right _ (.head _))
        exact hnt (by rw [← this])
      · exact keep _ _ hbD hb
  · have : p.1 ∈ objs.map (·.1) := by rw [← U.fst]; exact List.mem_map_of_mem hp
    obtain ⟨p', hp', e⟩ := List.mem_map.mp this
    exact e ▸ a5 p' hp' q hq
/-- one object changed: where it stands, and the way back -/
theorem HR.change {D : Addr} {ao ao' : AO} (H : HR prog w h₀ L m ex objs h) (U : Up D ao ao' objs objs') :
    ∃ pre post o, Fr h₀ L h m ∧ News h₀ L h (pre ++ (D, o) :: post) ∧ OR prog w (pre ++ (D, o) :: post) D ao o ∧ (∀ p ∈ pre, p.1 ≠ D) ∧ (∀ p ∈ post, p.1 ≠ D) ∧ HA prog w ex objs (pre ++ (D, o) :: post) ∧
      (notTup o → ∀ h' o', Fr h₀ L h' m → News h₀ L h' (pre ++ (D, o') :: post) → OR prog w (pre ++ (D, o') :: post) D ao' o' → HR prog w h₀ L m ex objs' h') := by
  refine hideG fun Xg hXg => ?_
  obtain ⟨all, o, F, N, A, hin, ho⟩ := H.look U.mem
  obtain ⟨pre, post, rfl, h1, h2⟩ := split_at A.1 hin
  refine hXg ?_
  exact ⟨pre, post, o, F, N, ho, h1, h2, A, fun hnt h' o' F' N' ho' => ⟨F', _, N', A.upd U ho' hnt⟩⟩
theorem HR.pick {l : Objs} (H : HR prog w h₀ L m ex objs h) (hs : Pick l objs) : HR prog w h₀ L m ex l h := by
  obtain ⟨F, all, N, a1, a2, a3, a4, a5⟩ := H
  exact ⟨F, all, N, a1, a2, fun p hp => a3 p (hs.1 p hp), hs.2 a4, fun p hp q hq => a5 p (hs.1 p hp) q hq⟩
end
end Mine
end
section
open PySem PySem.W PySem.Spec PySem.Calls PyProof.Rows PyProof.Rows.LCg
namespace Mine
section
variable {P : Pg} {w : World} {sc : Scope} {b : Nat} {vars : Vars} {objs : Objs}

noncomputable abbrev WE (P : Pg) (w : World) (sc : Scope) (b : Nat) (e : Expr) (vars : Vars) (objs : Objs) (K : AV → Objs → Prop) : Prop := WX P w sc b (eval e) RV vars objs K
noncomputable abbrev WT (P : Pg) (w : World) (sc : Scope) (b : Nat) (e : Expr) (vars : Vars) (objs : Objs) (K : Bool → Objs → Prop) : Prop := WX P w sc b (fun env => isTrue e env (eval e env)) Eq vars objs K

theorem VarOK.run {L : Addr} {env : Env} {m : Str → Option Value} {ex : List (Addr × Obj)} {x : Str} {v : AV} {h₀ : Heap} {A : Around} {s : Shared} {Q : Value → Shared → Prop} {E : Value → Shared → Prop}
    (eo : EnvOK sc L env) (vo : VarOK L env m ex x v) (hr : HR P.prog w h₀ L m ex objs s.heap) (hn : (x == ("__classdict__" : Str)) = false) (k : ∀ v', RV v v' → Q v' s) : wpAny (model P.prog w) A (loadName env x) Q E s := by
  obtain ⟨F, all, N, HA⟩ := hr
  have hk : env.scope.kind = .function := by rw [eo.scope]; exact eo.kind
  obtain ⟨v', hv, h | h | h⟩ := vo
  · obtain ⟨h1, h2, h3⟩ := h
    exact wpAny_loadName_local hk h1 (h2 ▸ F.ns) h3 (k _ hv)
  · obtain ⟨h1, o, m₂, h2, h3, h4⟩ := h
    exact wpAny_loadName_local hk h1 (h3.ns (N _ (HA.2 _ h2)).1) h4 (k _ hv)
  · obtain ⟨h1, c, o, h2, h3, h4⟩ := h
    rcases h1 with h1 | h1
    · exact wpAny_loadName_cell hk h1 h2 ⟨o, (N _ (HA.2 _ h3)).1, h4⟩ (k _ hv)
    · exact wpAny_loadName_free hk h1 h2 ⟨o, (N _ (HA.2 _ h3)).1, h4⟩ (k _ hv) hn
theorem WE_var {x : Str} {pos : Pos} {v : AV} {K : AV → Objs → Prop} (hm : (x, v) ∈ vars) (h : K v objs) (hd : (x == ("__debug__" : Str)) = false) (hn : (x == ("__classdict__" : Str)) = false) : WE P w sc b (.Name x pos) vars objs K := by
  intro A h₀ L m ex env s Q E fx eo vo hr k
  exact wpAny_Name (VarOK.run eo (vo _ hm) hr hn fun v' hv => k _ _ _ _ h hv hr Same.rfl) hd
theorem WE_glob {x : Str} {pos : Pos} {a : AV} {v : Value} {K : AV → Objs → Prop} (e : nsIn (P.K w.params) mainGlobals x = some (some v)) (hx : sc.names.lookup x = some .globalImplicit) (ha : RV a v) (h : K a objs)
    (hd : (x == ("__debug__" : Str)) = false) : WE P w sc b (.Name x pos) vars objs K := by
  intro A h₀ L m ex env s Q E fx eo vo hr k
  refine hideG fun Xg hXg => ?_
  obtain ⟨A₀, base, outer, fenv, mean, mg, mb, B, T, -⟩ := fx.has
  refine hXg ?_
  have hg : s.heap.Ns env.globals mg := by rw [eo.globals]; exact T.g.keeps hr.1.keep
  exact Name_function_global (by rw [eo.scope]; exact eo.kind) (by unfold Env.kindOf; rw [eo.scope]; exact hx) (loadGlobal_global hg (mg_of fx.X T.g e) (k _ _ _ _ h ha hr Same.rfl)) hd
theorem WE_bi {x : Str} {pos : Pos} {v : Value} {K : AV → Objs → Prop} (e : nsIn (P.K w.params) mainGlobals x = some none) (hv : bootBuiltins x = some v) (hx : sc.names.lookup x = some .globalImplicit) (h : K (.val v) objs)
    (hn : x ≠ "__name__") (hd : (x == ("__debug__" : Str)) = false) : WE P w sc b (.Name x pos) vars objs K := by
  intro A h₀ L m ex env s Q E fx eo vo hr k
  refine hideG fun Xg hXg => ?_
  obtain ⟨A₀, base, outer, fenv, mean, mg, mb, B, T, -⟩ := fx.has
  refine hXg ?_
  have hg : s.heap.Ns env.globals mg := by rw [eo.globals]; exact T.g.keeps hr.1.keep
  have hb : s.heap.Ns env.builtins mb := by rw [eo.builtins]; exact T.b.keeps hr.1.keep
  exact Name_function_global (by rw [eo.scope]; exact eo.kind) (by unfold Env.kindOf; rw [eo.scope]; exact hx) (loadGlobal_builtin hg (mg_none_of fx.X T.g e) hb ((T.builtins x hn).trans hv) (k _ _ _ _ h rfl hr Same.rfl)) hd
theorem WE_int {i : Int} {k : Nat} {pos : Pos} {K : AV → Objs → Prop} (h : K (.int i) objs) : WE P w sc b (.Constant (.int i) k pos) vars objs K := by
  intro A h₀ L m ex env s Q E fx eo vo hr k
  exact wpAny_Constant_int (k _ _ _ _ h ⟨_, rfl⟩ hr ⟨rfl, rfl, rfl⟩)
theorem WE_str {x : Str} {k : Nat} {pos : Pos} {K : AV → Objs → Prop} (h : K (.str x) objs) : WE P w sc b (.Constant (.str x) k pos) vars objs K := by
  intro A h₀ L m ex env s Q E fx eo vo hr k
  exact Calls.Constant_str (k _ _ _ _ h ⟨_, rfl⟩ hr ⟨rfl, rfl, rfl⟩)
theorem WE_bool {x : Bool} {k : Nat} {pos : Pos} {K : AV → Objs → Prop} (h : K (.bool x) objs) : WE P w sc b (.Constant (.bool x) k pos) vars objs K := by
  intro A h₀ L m ex env s Q E fx eo vo hr k
  exact fun _ _ _ => k _ _ _ _ h rfl hr Same.rfl

/- operators -/
noncomputable def Bin (P : Pg) (w : World) (b : Nat) (op : Operator) (x y : AV) (objs : Objs) (K : AV → Objs → Prop) : Prop := ∀ x' y', RV x x' → RV y y' → CL P w b (binaryOp op x' y') RV objs K
noncomputable def Cmp (P : Pg) (w : World) (b : Nat) (op : CmpOp) (x y : AV) (objs : Objs) (K : Bool → Objs → Prop) : Prop := ∀ x' y', RV x x' → RV y y' → CL P w b (compareOp op x' y') (fun c v => v = .bool c) objs K
theorem WE_bin {l r : Expr} {op : Operator} {pos : Pos} {K : AV → Objs → Prop} (h : WE P w sc b l vars objs fun x o1 => WE P w sc b r vars o1 fun y o2 => Bin P w b op x y o2 K) : WE P w sc b (.BinOp l op r pos) vars objs K := by
  intro A h₀ L m ex env s Q E fx eo vo hr k
  refine wpAny_BinOp (h A h₀ L m ex env s _ E fx eo vo hr fun x o1 x' s1 h1 rx hr1 q1 => ?_)
  refine h1 A h₀ L m ex env s1 _ E fx eo vo hr1 fun y o2 y' s2 h2 ry hr2 q2 => ?_
  exact h2 x' y' rx ry A h₀ L m ex s2 Q E fx hr2 fun v o v' s' a1 a2 a3 a4 => k v o v' s' a1 a2 a3 ((q1.trans q2).trans a4)
theorem WE_cmp {l r : Expr} {op : CmpOp} {pos : Pos} {K : AV → Objs → Prop} (h : WE P w sc b l vars objs fun x o1 => WE P w sc b r vars o1 fun y o2 => Cmp P w b op x y o2 fun c o => K (.bool c) o)
    (hm : behindInMarks op r = false) : WE P w sc b (.Compare l [op] [r] pos) vars objs K := by
  intro A h₀ L m ex env s Q E fx eo vo hr k
  refine wpAny_Compare1 (h A h₀ L m ex env s _ E fx eo vo hr fun x o1 x' s1 h1 rx hr1 q1 => ?_) hm
  refine h1 A h₀ L m ex env s1 _ E fx eo vo hr1 fun y o2 y' s2 h2 ry hr2 q2 => ?_
  exact h2 x' y' rx ry A h₀ L m ex s2 Q E fx hr2 fun v o v' s' a1 a2 a3 a4 => k (.bool v) o v' s' a1 a2 a3 ((q1.trans q2).trans a4)
theorem WT_cmp {l r : Expr} {op : CmpOp} {pos : Pos} {K : Bool → Objs → Prop} (h : WE P w sc b l vars objs fun x o1 => WE P w sc b r vars o1 fun y o2 => Cmp P w b op x y o2 K)
    (hm : behindInMarks op r = false) : WT P w sc b (.Compare l [op] [r] pos) vars objs K := by
  intro A h₀ L m ex env s Q E fx eo vo hr k
  refine wpAny_isTrue_Compare1 (h A h₀ L m ex env s _ E fx eo vo hr fun x o1 x' s1 h1 rx hr1 q1 => ?_) hm
  refine h1 A h₀ L m ex env s1 _ E fx eo vo hr1 fun y o2 y' s2 h2 ry hr2 q2 => ?_
  refine h2 x' y' rx ry A h₀ L m ex s2 _ E fx hr2 fun v o v' s' a1 a2 a3 a4 => ?_
  subst a2
  exact wpAny_truthy_bool (k v o v s' a1 rfl a3 ((q1.trans q2).trans a4))
theorem WT_not {x : Expr} {pos : Pos} {K : Bool → Objs → Prop} (h : WT P w sc b x vars objs fun c o => K (!c) o) : WT P w sc b (.UnaryOp .Not x pos) vars objs K := by
  intro A h₀ L m ex env s Q E fx eo vo hr k
  exact isTrue_not (h A h₀ L m ex env s _ E fx eo vo hr fun c o c' s' a1 a2 a3 a4 => by subst a2; exact k _ o _ s' a1 rfl a3 a4)
theorem WT_and {x y : Expr} {rest : List Expr} {pos : Pos} {K : Bool → Objs → Prop}
    (h : WT P w sc b x vars objs fun c o => (c = true → WT P w sc b (.BoolOp .And (y :: rest) pos) vars o K) ∧ (c = false → K false o)) : WT P w sc b (.BoolOp .And (x :: y :: rest) pos) vars objs K := by
  intro A h₀ L m ex env s Q E fx eo vo hr k
  refine isTrue_and (h A h₀ L m ex env s _ E fx eo vo hr fun c o c' s' a1 a2 a3 a4 => ?_)
  subst a2
  cases c with
  | true => exact (a1.1 rfl) A h₀ L m ex env s' Q E fx eo vo a3 fun d o d' s'' b1 b2 b3 b4 => k d o d' s'' b1 b2 b3 (a4.trans b4)
  | false => exact k _ _ _ _ (a1.2 rfl) rfl a3 a4
theorem WT_and1 {x : Expr} {pos : Pos} {K : Bool → Objs → Prop} (h : WT P w sc b x vars objs K) : WT P w sc b (.BoolOp .And [x] pos) vars objs K := by
  intro A h₀ L m ex env s Q E fx eo vo hr k
  refine isTrue_and (h A h₀ L m ex env s _ E fx eo vo hr fun c o c' s' a1 a2 a3 a4 => ?_)
  subst a2
  cases c with
  | true => exact isTrue_and_nil (k _ _ _ _ a1 rfl a3 a4)
  | false => exact k _ _ _ _ a1 rfl a3 a4
theorem WT_or {x y : Expr} {rest : List Expr} {pos : Pos} {K : Bool → Objs → Prop}
    (h : WT P w sc b x vars objs fun c o => (c = false → WT P w sc b (.BoolOp .Or (y :: rest) pos) vars o K) ∧ (c = true → K true o)) : WT P w sc b (.BoolOp .Or (x :: y :: rest) pos) vars objs K := by
  intro A h₀ L m ex env s Q E fx eo vo hr k
  refine isTrue_or (h A h₀ L m ex env s _ E fx eo vo hr fun c o c' s' a1 a2 a3 a4 => ?_)
  subst a2
  cases c with
  | false => exact (a1.1 rfl) A h₀ L m ex env s' Q E fx eo vo a3 fun d o d' s'' b1 b2 b3 b4 => k d o d' s'' b1 b2 b3 (a4.trans b4)
  | true => exact k _ _ _ _ (a1.2 rfl) rfl a3 a4
theorem WT_or1 {x : Expr} {pos : Pos} {K : Bool → Objs → Prop} (h : WT P w sc b x vars objs K) : WT P w sc b (.BoolOp .Or [x] pos) vars objs K := by
  intro A h₀ L m ex env s Q E fx eo vo hr k
  refine isTrue_or (h A h₀ L m ex env s _ E fx eo vo hr fun c o c' s' a1 a2 a3 a4 => ?_)
  subst a2
  cases c with
  | false => exact isTrue_or_nil (k _ _ _ _ a1 rfl a3 a4)
  | true => exact k _ _ _ _ a1 rfl a3 a4
/-- a test that is a call (or a name) handing on a bool -/
theorem WT_bool {e : Expr} {K : Bool → Objs → Prop} (h : WE P w sc b e vars objs fun v o => ∃ c, v = .bool c ∧ K c o)
    (he : ∀ env, isTrue e env (eval e env) = (do let v ← eval e env; standAt e.pos; holding [v] (truthy v))) : WT P w sc b e vars objs K := by
  intro A h₀ L m ex env s Q E fx eo vo hr k
  refine isTrue_plain (h A h₀ L m ex env s _ E fx eo vo hr fun v o v' s' a1 a2 a3 a4 => ?_) (he env)
  obtain ⟨c, rfl, hc⟩ := a1
  rw [show v' = .bool c from a2]
  exact wpAny_truthy_bool (k _ _ _ _ hc rfl a3 a4)
theorem WE_ifexp {t x y : Expr} {pos : Pos} {K : AV → Objs → Prop} (h : WT P w sc b t vars objs fun c o => (c = true → WE P w sc b x vars o K) ∧ (c = false → WE P w sc b y vars o K)) : WE P w sc b (.IfExp t x y pos) vars objs K := by
  intro A h₀ L m ex env s Q E fx eo vo hr k
  refine IfExp_ (h A h₀ L m ex env s _ E fx eo vo hr fun c o c' s' a1 a2 a3 a4 => ?_)
  subst a2
  cases c with
  | true => exact (a1.1 rfl) A h₀ L m ex env s' Q E fx eo vo a3 fun d o d' s'' b1 b2 b3 b4 => k d o d' s'' b1 b2 b3 (a4.trans b4)
  | false => exact (a1.2 rfl) A h₀ L m ex env s' Q E fx eo vo a3 fun d o d' s'' b1 b2 b3 b4 => k d o d' s'' b1 b2 b3 (a4.trans b4)
theorem WE_and {x y : Expr} {rest : List Expr} {pos : Pos} {K : AV → Objs → Prop}
    (h : WE P w sc b x vars objs fun v o => ∃ c, v = .bool c ∧ (c = true → WE P w sc b (.BoolOp .And (y :: rest) pos) vars o K) ∧ (c = false → K (.bool false) o)) : WE P w sc b (.BoolOp .And (x :: y :: rest) pos) vars objs K := by
  intro A h₀ L m ex env s Q E fx eo vo hr k
  refine BoolOp_and (h A h₀ L m ex env s _ E fx eo vo hr fun v o v' s' a1 a2 a3 a4 => ?_)
  obtain ⟨c, rfl, hc, hc'⟩ := a1
  rw [show v' = .bool c from a2]
  refine wpAny_truthy_bool ?_
  cases c with
  | true => exact (hc rfl) A h₀ L m ex env s' Q E fx eo vo a3 fun d o d' s'' b1 b2 b3 b4 => k d o d' s'' b1 b2 b3 (a4.trans b4)
  | false => exact k _ _ _ _ (hc' rfl) rfl a3 a4
theorem WE_bool1 {op : BoolOp} {x : Expr} {pos : Pos} {K : AV → Objs → Prop} (h : WE P w sc b x vars objs K) : WE P w sc b (.BoolOp op [x] pos) vars objs K := h
theorem WE_usub {i : Int} {k : Nat} {p pos : Pos} {K : AV → Objs → Prop} (h : K (.int (-i)) objs) : WE P w sc b (.UnaryOp .USub (.Constant (.int i) k p) pos) vars objs K := by
  intro A h₀ L m ex env s Q E fx eo vo hr k
  exact UnaryOp_ (wpAny_Constant_int (neg_int (k _ _ _ _ h ⟨_, rfl⟩ hr ⟨rfl, rfl, rfl⟩)))

/- ints -/
variable {i j : Int}
theorem Bin_add {K : AV → Objs → Prop} (h : K (.int (i + j)) objs) : Bin P w b .Add (.int i) (.int j) objs K := by
  rintro _ _ ⟨t, rfl⟩ ⟨u, rfl⟩ A h₀ L m ex s Q E fx hr k
  exact add_int (k _ _ _ _ h ⟨_, rfl⟩ hr ⟨rfl, rfl, rfl⟩)
theorem Bin_sub {K : AV → Objs → Prop} (h : K (.int (i - j)) objs) : Bin P w b .Sub (.int i) (.int j) objs K := by
  rintro _ _ ⟨t, rfl⟩ ⟨u, rfl⟩ A h₀ L m ex s Q E fx hr k
  exact sub_int (k _ _ _ _ h ⟨_, rfl⟩ hr ⟨rfl, rfl, rfl⟩)
theorem Bin_mul {K : AV → Objs → Prop} (hm : IntMulOk i j) (h : K (.int (i * j)) objs) : Bin P w b .Mult (.int i) (.int j) objs K := by
  rintro _ _ ⟨t, rfl⟩ ⟨u, rfl⟩ A h₀ L m ex s Q E fx hr k
  exact mul_int (k _ _ _ _ h ⟨_, rfl⟩ hr ⟨rfl, rfl, rfl⟩) hm
theorem Bin_mod {K : AV → Objs → Prop} (hj : j ≠ 0) (h : K (.int (i.fmod j)) objs) : Bin P w b .Mod (.int i) (.int j) objs K := by
  rintro _ _ ⟨t, rfl⟩ ⟨u, rfl⟩ A h₀ L m ex s Q E fx hr k
  exact mod_int' hj (k _ _ _ _ h ⟨_, rfl⟩ hr ⟨rfl, rfl, rfl⟩)
theorem Bin_div {K : AV → Objs → Prop} (hj : j ≠ 0) (hp : Builtin.divisionGoesByPylong i j = false) (h : K (.int (i.fdiv j)) objs) : Bin P w b .FloorDiv (.int i) (.int j) objs K := by
  rintro _ _ ⟨t, rfl⟩ ⟨u, rfl⟩ A h₀ L m ex s Q E fx hr k
  exact floordiv_int hj (k _ _ _ _ h ⟨_, rfl⟩ hr ⟨rfl, rfl, rfl⟩) (.inl hp)
theorem Cmp_eq {K : Bool → Objs → Prop} (h : K (i == j) objs) : Cmp P w b .Eq (.int i) (.int j) objs K := by
  rintro _ _ ⟨t, rfl⟩ ⟨u, rfl⟩ A h₀ L m ex s Q E fx hr k
  exact eq_int (k _ _ _ _ h rfl hr Same.rfl)
theorem Cmp_ne {K : Bool → Objs → Prop} (h : K (i != j) objs) : Cmp P w b .NotEq (.int i) (.int j) objs K := by
  rintro _ _ ⟨t, rfl⟩ ⟨u, rfl⟩ A h₀ L m ex s Q E fx hr k
  exact ne_int (k _ _ _ _ h rfl hr Same.rfl)
theorem Cmp_lt {K : Bool → Objs → Prop} (h : K (decide (i < j)) objs) : Cmp P w b .Lt (.int i) (.int j) objs K := by
  rintro _ _ ⟨t, rfl⟩ ⟨u, rfl⟩ A h₀ L m ex s Q E fx hr k
  exact lt_int (k _ _ _ _ h rfl hr Same.rfl)
theorem Cmp_gt {K : Bool → Objs → Prop} (h : K (decide (j < i)) objs) : Cmp P w b .Gt (.int i) (.int j) objs K := by
  rintro _ _ ⟨t, rfl⟩ ⟨u, rfl⟩ A h₀ L m ex s Q E fx hr k
  exact gt_int (k _ _ _ _ h rfl hr Same.rfl)
theorem Cmp_ge {K : Bool → Objs → Prop} (h : K (decide (j ≤ i)) objs) : Cmp P w b .GtE (.int i) (.int j) objs K := by
  rintro _ _ ⟨t, rfl⟩ ⟨u, rfl⟩ A h₀ L m ex s Q E fx hr k
  exact ge_int (k _ _ _ _ h rfl hr Same.rfl)

/- attributes -/
noncomputable def GetA (P : Pg) (w : World) (b : Nat) (x : AV) (attr : Str) (objs : Objs) (K : AV → Objs → Prop) : Prop := ∀ x', RV x x' → CL P w b (getAttr x' attr true) RV objs K
theorem WE_attr {e : Expr} {attr : Str} {pos : Pos} {K : AV → Objs → Prop} (h : WE P w sc b e vars objs fun x o => GetA P w b x attr o K)
    (he : ∀ env, eval (.Attribute e attr pos) env = (do
      let o ← eval e env
      standAt pos.atName
      let r ← holding [o] (getAttr o attr true)
      letTemporaryGo e o r
      pure r)) : WE P w sc b (.Attribute e attr pos) vars objs K := by
  intro A h₀ L m ex env s Q E fx eo vo hr k
  refine Attribute_any_ (h A h₀ L m ex env s _ E fx eo vo hr fun x o x' s' a1 a2 a3 a4 => ?_) (he env)
  exact a1 x' a2 A h₀ L m ex s' Q E fx a3 fun d o d' s'' b1 b2 b3 b4 => k d o d' s'' b1 b2 b3 (a4.trans b4)

/- args -/
noncomputable def WA (P : Pg) (w : World) (sc : Scope) (b : Nat) (vars : Vars) : List Expr → Objs → (List AV → Objs → Prop) → Prop
  | [], o, K => K [] o
  | e :: es, o, K => WE P w sc b e vars o fun v o' => WA P w sc b vars es o' fun vs o'' => K (v :: vs) o''
noncomputable def noStar : List Expr → Bool
  | [] => true
  | .Starred .. :: _ => false
  | _ :: es => noStar es
theorem starEach_cons {e : Expr} {es : List Expr} {env : Env} (h : noStar (e :: es) = true) : starEach (e :: es) env = (false, eval e env) :: starEach es env ∧ noStar es = true := by
  cases e <;> first | exact ⟨rfl, h⟩ | cases h
theorem any_star : ∀ {es : List Expr} {env : Env} {pos : Pos}, noStar es = true → (backTo pos (starEach es env)).any (·.1) = false
  | [], _, _, _ => rfl
  | e :: es, env, pos, h => by
    obtain ⟨e1, e2⟩ := starEach_cons (env := env) h
    rw [e1]
    show (false || (backTo pos (starEach es env)).any (·.1)) = false
    rw [any_star e2]; rfl
theorem WA.run : ∀ {es : List Expr} {objs : Objs} {K : List AV → Objs → Prop} {pos : Pos}, noStar es = true → WA P w sc b vars es objs K → WX P w sc b (fun env => spliced (backTo pos (starEach es env))) (F2 RV) vars objs K
  | [], objs, K, pos, _, h => fun A h₀ L m ex env s Q E fx eo vo hr k => Calls.spliced_nil (k [] _ [] _ h .nil hr Same.rfl)
  | e :: es, objs, K, pos, hs, h => fun A h₀ L m ex env s Q E fx eo vo hr k => by
    obtain ⟨e1, e2⟩ := starEach_cons (env := env) hs
    show wpAny _ _ (spliced (backTo pos (starEach (e :: es) env))) Q E s
    rw [e1]
    refine Calls.spliced_cons (h A h₀ L m ex env s _ E fx eo vo hr fun v o v' s1 h1 rv hr1 q1 => ?_)
    exact WA.run (pos := pos) e2 h1 A h₀ L m ex env s1 _ E fx eo vo hr1 fun vs o' vs' s2 h2 rvs hr2 q2 => k (v :: vs) o' (v' :: vs') s2 h2 (.cons rv rvs) hr2 (q1.trans q2)

/- calls -/
noncomputable def CallS (P : Pg) (w : World) (b : Nat) (f : Value) (args : List AV) (objs : Objs) (K : AV → Objs → Prop) : Prop := ∀ vs, F2 RV args vs → CL P w b (call f vs) RV objs K
/-- what may be called -/
noncomputable def Callee (Kf : Frag) : Value → Bool
  | .builtin _ => true
  | .type _ => true
  | f => keepIn Kf f
theorem WA.call {args : List Expr} {o1 : Objs} {K1 : List AV → Objs → Prop} {A : Around} {h₀ : Heap} {L : Addr} {m : Str → Option Value} {ex : List (Addr × Obj)} {E : Value → Shared → Prop} {s : Shared} {env : Env} {pos : Pos} {f : Value} {first : List Value} {Q : Value → Shared → Prop}
    (hc : Callee (P.K w.params) f = true) (hs : noStar args = true) (fx : Fx P w A h₀ L b) (eo : EnvOK sc L env) (vo : VarsOK L env m ex vars) (hr : HR P.prog w h₀ L m ex o1 s.heap) (h : WA P w sc b vars args o1 K1)
    (k : ∀ vs o2 vs' s2, K1 vs o2 → F2 RV vs vs' → HR P.prog w h₀ L m ex o2 s2.heap → Same s s2 → wpAny (model P.prog w) A (call f (first ++ vs')) Q E s2) :
    wpAny (model P.prog w) A (callWith pos f first (backTo pos (starEach args env)) []) Q E s := by
  have hX : (P.K w.params).In s.heap := fx.X.keeps hr.1.keep
  have ha : (backTo pos (starEach args env)).any (·.1) = false := any_star hs
  cases args with
  | nil =>
    have h1 : wpAny (model P.prog w) A (PySem.call f (first ++ [])) Q E s := k [] o1 [] s h .nil hr Same.rfl
    have h' : wpAny (model P.prog w) A (evalArgs f true (backTo pos (starEach [] env)) []) (fun a s₁ => wpAny (model P.prog w) A (PySem.call f (first ++ a.pos) a.kw) Q E s₁) E s := evalArgs_empty h1
    cases f with
    | builtin id => exact callWith_builtin ha h'
    | type T => exact PyProof.Rows.callWith_type ha h'
    | ref a => exact callWith_K0 hX hc h1
    | _ => cases hc
  | cons e es =>
    obtain ⟨e1, e2⟩ := starEach_cons (env := env) hs
    have h1 : wpAny (model P.prog w) A (spliced (backTo pos (starEach (e :: es) env))) (fun vs s₁ => (P.K w.params).In s₁.heap ∧ wpAny (model P.prog w) A (PySem.call f (first ++ vs)) Q E s₁) E s :=
      WA.run hs h A h₀ L m ex env s _ E fx eo vo hr fun vs o2 vs' s2 h3 rvs hr2 q2 => ⟨fx.X.keeps hr2.1.keep, k vs o2 vs' s2 h3 rvs hr2 q2⟩
    have h' : wpAny (model P.prog w) A (evalArgs f true (backTo pos (starEach (e :: es) env)) []) (fun a s₁ => wpAny (model P.prog w) A (PySem.call f (first ++ a.pos) a.kw) Q E s₁) E s := by
      rw [e1] at h1 ⊢
      exact Calls.evalArgs_plain (wpAny_mono h1 (fun vs s₁ h₁ => h₁.2) fun _ _ x => x)
    cases f with
    | builtin id => exact callWith_builtin ha h'
    | type T => exact PyProof.Rows.callWith_type ha h'
    | ref a => exact callWith_K (h₀ := s.heap) hX hc h1 e1 (any_star e2)
    | _ => cases hc
/-- a call of a name's value -/
theorem WE_call {x : Str} {p pos : Pos} {args : List Expr} {K : AV → Objs → Prop} (h : WE P w sc b (.Name x p) vars objs fun f o1 => ∃ fv, f = .val fv ∧ Callee (P.K w.params) fv = true ∧ WA P w sc b vars args o1 fun vs o2 => CallS P w b fv vs o2 K)
    (hs : noStar args = true) : WE P w sc b (.Call (.Name x p) args [] pos) vars objs K := by
  intro A h₀ L m ex env s Q E fx eo vo hr k
  show wpAny _ A (do callWith pos (← eval (.Name x p) env) [] (backTo pos (starEach args env)) []) Q E s
  refine wpAny_bind (h A h₀ L m ex env s _ E fx eo vo hr fun f o1 f' s1 h1 rf hr1 q1 => ?_)
  obtain ⟨fv, rfl, hc, h2⟩ := h1
  rw [show f' = fv from rf]
  refine WA.call hc hs fx eo vo hr1 h2 fun vs o2 vs' s2 h3 rvs hr2 q2 => ?_
  exact h3 vs' rvs A h₀ L m ex s2 Q E fx hr2 fun d o d' s'' b1 b2 b3 b4 => k d o d' s'' b1 b2 b3 ((q1.trans q2).trans b4)
/-- the method of an object by its name -/
noncomputable def GetM (P : Pg) (w : World) (x : AV) (name : Str) (objs : Objs) (f : Value) : Prop :=
  ∀ x' (A : Around) (h₀ : Heap) (L : Addr) (m : Str → Option Value) (ex : List (Addr × Obj)) (s : Shared) (Q : Value × List Value → Shared → Prop) (E : Value → Shared → Prop) (pl : Sem Bool), RV x x' → (P.K w.params).In h₀ → HR P.prog w h₀ L m ex objs s.heap → Q (f, [x']) s → wpAny (model P.prog w) A (getMethod x' name pl) Q E s
theorem WE_mcall {o : Expr} {name : Str} {apos pos : Pos} {args : List Expr} {K : AV → Objs → Prop}
    (h : WE P w sc b o vars objs fun x o1 => ∃ f, GetM P w x name o1 f ∧ Callee (P.K w.params) f = true ∧ WA P w sc b vars args o1 fun vs o2 => CallS P w b f (x :: vs) o2 K)
    (he : ∀ env, eval (.Call (.Attribute o name apos) args [] pos) env = (do
      let ov ← eval o env
      standAt apos.atName
      let (f, first) ← holding [ov] (getMethod ov name (do return (← importBound o env).getD true))
      callWith pos f first (backTo pos (starEach args env)) []))
    (hs : noStar args = true) : WE P w sc b (.Call (.Attribute o name apos) args [] pos) vars objs K := by
  intro A h₀ L m ex env s Q E fx eo vo hr k
  refine methodCall_KW (kws := []) (h A h₀ L m ex env s _ E fx eo vo hr fun x o1 x' s1 h1 rx hr1 q1 => ?_) (he env)
  refine hideG fun Xg hXg => ?_
  obtain ⟨f, hg, hc, h2⟩ := h1
  refine hXg ?_
  refine hg x' A h₀ L m ex s1 _ E _ rx fx.X hr1 ?_
  refine WA.call (first := [x']) hc hs fx eo vo hr1 h2 fun vs o2 vs' s2 h3 rvs hr2 q2 => ?_
  exact h3 (x' :: vs') (.cons rx rvs) A h₀ L m ex s2 Q E fx hr2 fun d o d' s'' b1 b2 b3 b4 => k d o d' s'' b1 b2 b3 ((q1.trans q2).trans b4)
end
end Mine
end
section
open PySem PySem.W PySem.Spec PySem.Calls PyProof.Rows PyProof.Rows.LCg
namespace Mine

noncomputable def IArgs : List AV → List Int → Prop
  | [], [] => True
  | .int i :: r, j :: l => i = j ∧ IArgs r l
  | _, _ => False

section
variable {P : Pg} {w : World} {sc : Scope} {b : Nat} {vars : Vars} {objs objs' : Objs} {h₀ : Heap} {L D : Addr} {m : Str → Option Value} {ex : List (Addr × Obj)} {h : Heap} {l : List Int}

theorem HR.ints {prog : Program} (H : HR prog w h₀ L m ex objs h) (hm : (D, .ints l) ∈ objs) :
    ∃ all vs n, Fr h₀ L h m ∧ News h₀ L h all ∧ HA prog w ex objs all ∧ (D, W.listOf (List.toArray vs) n) ∈ all ∧ IntsAre vs l ∧ h.IsList D (List.toArray vs) ∧ vs.length = l.length := by
  refine hideG fun Xg hXg => ?_
  obtain ⟨all, o, F, N, A, h1, vs, n, rfl, h2⟩ := H.look hm
  refine hXg ?_
  exact ⟨all, vs, n, F, N, A, h1, h2, ⟨_, (N _ h1).1, rfl, n, rfl⟩, h2.length⟩
theorem notTup_list {its : Array Value} {n : Nat} : notTup (W.listOf its n) := fun e => by injection e with e; revert e; decide
theorem fit63 {n : Nat} (h : n < 1000) : (n : Int) < 2 ^ 63 := by (first | lia | omega)

/- getMethod -/
theorem GetM_list {name : Str} {id : String} (hm : (D, .ints l) ∈ objs) (slot : Slot "list" name id) (hty : typeOf (.builtin id) = pure (.type "method_descriptor")) : GetM P w (.ref D) name objs (.builtin id) := by
  rintro _ A h₀ L m ex s Q E pl rfl X hr hq
  refine hideG fun Xg hXg => ?_
  obtain ⟨all, vs, n, F, N, HA, h1, h2, h3, h4⟩ := hr.ints hm
  refine hXg ?_
  exact kl_method N h1 slot hty hq

/- len -/
theorem Call_len {K : AV → Objs → Prop} (hm : (D, .ints l) ∈ objs) (hl : l.length < 1000) (h : K (.int l.length) objs) : CallS P w b (.builtin "len") [.ref D] objs K := by
  rintro _ (_ | ⟨rfl, (_ | _)⟩) A h₀ L m ex s Q E fx hr k
  refine hideG fun Xg hXg => ?_
  obtain ⟨all, vs, n, F, N, HA, h1, h2, h3, h4⟩ := hr.ints hm
  refine hXg ?_
  exact kst_len N h1 h4 (fit63 hl) (k _ _ _ _ h ⟨_, rfl⟩ hr ⟨rfl, rfl, rfl⟩)
/- append -/
theorem Call_append {K : AV → Objs → Prop} {i : Int} (U : Up D (.ints l) (.ints (l ++ [i])) objs objs') (hl : l.length < 1000) (h : K (.val .none) objs') : CallS P w b (.builtin "list.append") [.ref D, .int i] objs K := by
  rintro _ (_ | ⟨rfl, (_ | ⟨⟨t, rfl⟩, (_ | _)⟩)⟩) A h₀ L m ex s Q E fx hr k
  refine hideG fun Xg hXg => ?_
  obtain ⟨pre, post, o, F, N, ⟨vs, n, rfl, hi⟩, n1, n2, HA, back⟩ := hr.change U
  refine hXg ?_
  refine append_K F N (upd_of n1 n2) (fun h' F' N' => k _ _ _ _ h rfl (back notTup_list h' _ F' N' ⟨vs ++ [.int i t], n + 1, by simp, ints_append hi (.cons _ _ .nil)⟩) ⟨rfl, rfl, rfl⟩) ?_
  rw [List.size_toArray, hi.length]
  exact line1000 (by (first | lia | omega))
/- extend by another list -/
/- pop -/
theorem Call_pop {K : AV → Objs → Prop} (U : Up D (.ints l) (.ints l.dropLast) objs objs') (hl : l.length < 1000) (h0 : 0 < l.length) (h : K (.int (l.getLastD 0)) objs') : CallS P w b (.builtin "list.pop") [.ref D] objs K := by
  rintro _ (_ | ⟨rfl, (_ | _)⟩) A h₀ L m ex s Q E fx hr k
  refine hideG fun Xg hXg => ?_
  obtain ⟨pre, post, o, F, N, ⟨vs, n, rfl, hi⟩, n1, n2, HA, back⟩ := hr.change U
  refine hXg ?_
  have hv := hi.length
  refine kpa_pop F N (upd_of n1 n2) hi (by (first | lia | omega)) (by rw [hv]; exact line1000 (by (first | lia | omega))) fun h' t F' N' hi' => k _ _ _ _ h ⟨_, rfl⟩ (back notTup_list h' _ F' N' ⟨_, _, rfl, hi'⟩) ⟨rfl, rfl, rfl⟩
/- sum, max, sorted, list(..) -/
theorem Call_max {K : AV → Objs → Prop} (hm : (D, .ints l) ∈ objs) (h0 : 0 < l.length) (h : ∀ M, M ∈ l → (∀ a, a ∈ l → a ≤ M) → K (.int M) objs) : CallS P w b (.builtin "max") [.ref D] objs K := by
  rintro _ (_ | ⟨rfl, (_ | _)⟩) A h₀ L m ex s Q E fx hr k
  obtain ⟨all, vs, n, F, N, HA, h1, h2, h3, h4⟩ := hr.ints hm
  exact kso_max F N h3 h2 h0 fx.hh fun h' M t tk F' N' a1 a2 => k _ _ _ _ (h M a1 a2) ⟨_, rfl⟩ ⟨F', all, N', HA⟩ ⟨rfl, rfl, rfl⟩
theorem Call_max2 {K : AV → Objs → Prop} {x y : Int} (h : K (.int (if y > x then y else x)) objs) : CallS P w b (.builtin "max") [.int x, .int y] objs K := by
  rintro _ (_ | ⟨⟨t, rfl⟩, (_ | ⟨⟨u, rfl⟩, (_ | _)⟩)⟩) A h₀ L m ex s Q E fx hr k
  obtain ⟨F, all, N, HA⟩ := hr
  exact max_two_N fx.hh F N fun h' tk F' N' => k _ _ _ _ h ⟨_, rfl⟩ ⟨F', all, N', HA⟩ ⟨rfl, rfl, rfl⟩
theorem Call_abs {K : AV → Objs → Prop} {x : Int} (h : K (.int (if x < 0 then -x else x)) objs) : CallS P w b (.builtin "abs") [.int x] objs K := by
  rintro _ (_ | ⟨⟨t, rfl⟩, (_ | _)⟩) A h₀ L m ex s Q E fx hr k
  exact call_abs_int fun u tk => k _ _ _ _ h ⟨_, rfl⟩ hr ⟨rfl, rfl, rfl⟩
theorem Call_sorted {K : AV → Objs → Prop} (hm : (D, .ints l) ∈ objs) (h64 : l.length < 64) (h : ∀ D' l', l'.Perm l → l'.Pairwise (· ≤ ·) → K (.ref D') ((D', .ints l') :: objs)) : CallS P w b (.builtin "sorted") [.ref D] objs K := by
  rintro _ (_ | ⟨rfl, (_ | _)⟩) A h₀ L m ex s Q E fx hr k
  refine hideG fun Xg hXg => ?_
  obtain ⟨all, vs, n, F, N, HA, h1, h2, h3, h4⟩ := hr.ints hm
  refine hXg ?_
  exact kso_sorted F N h3 h2 h64 fun D' vs' ns' c h' F' N' lt hi e p o _ => k _ _ _ _ (h D' ns' p o) rfl (HR.new HA F' N' lt ⟨vs', c, rfl, hi⟩) ⟨rfl, rfl, rfl⟩
theorem Call_list {K : AV → Objs → Prop} (hm : (D, .ints l) ∈ objs) (hl : l.length < 1000) (h : ∀ D', K (.ref D') ((D', .ints l) :: objs)) : CallS P w b (.type "list") [.ref D] objs K := by
  rintro _ (_ | ⟨rfl, (_ | _)⟩) A h₀ L m ex s Q E fx hr k
  refine hideG fun Xg hXg => ?_
  obtain ⟨all, vs, n, F, N, HA, h1, h2, h3, h4⟩ := hr.ints hm
  refine hXg ?_
  refine list_copyK F N h3 (fun D' c h' F' N' lt => k _ _ _ _ (h D') rfl (HR.new HA F' N' lt ⟨vs, c, rfl, h2⟩) ⟨rfl, rfl, rfl⟩) ?_
  rw [List.size_toArray, h4]; exact line1000 (by (first | lia | omega))
/- comparisons of lists, membership -/
theorem Cmp_eqL {K : Bool → Objs → Prop} {B : Addr} {l2 : List Int} (hm : (D, .ints l) ∈ objs) (hB : (B, .ints l2) ∈ objs) (h : K (decide (l = l2)) objs) : Cmp P w b .Eq (.ref D) (.ref B) objs K := by
  rintro _ _ rfl rfl A h₀ L m ex s Q E fx hr k
  refine hideG fun Xg hXg => ?_
  obtain ⟨all, vs, n, F, N, HA, h1, h2, h3, h4⟩ := hr.ints hm
  obtain ⟨all', vs', n', F', N', HA', h1', h2', h3', h4'⟩ := hr.ints hB
  refine hXg ?_
  exact eq_intsK h3 h2 h3' h2' (by have := fx.hu; (first | lia | omega)) (k _ _ _ _ h rfl hr Same.rfl)
theorem Cmp_neL {K : Bool → Objs → Prop} {B : Addr} {l2 : List Int} (hm : (D, .ints l) ∈ objs) (hB : (B, .ints l2) ∈ objs) (h : K (!decide (l = l2)) objs) : Cmp P w b .NotEq (.ref D) (.ref B) objs K := by
  rintro _ _ rfl rfl A h₀ L m ex s Q E fx hr k
  refine hideG fun Xg hXg => ?_
  obtain ⟨all, vs, n, F, N, HA, h1, h2, h3, h4⟩ := hr.ints hm
  obtain ⟨all', vs', n', F', N', HA', h1', h2', h3', h4'⟩ := hr.ints hB
  refine hXg ?_
  exact ne_intsK h3 h2 h3' h2' (by have := fx.hu; (first | lia | omega)) (k _ _ _ _ h rfl hr Same.rfl)
theorem Bin_addL {K : AV → Objs → Prop} {B : Addr} {l2 : List Int} (hm : (D, .ints l) ∈ objs) (hB : (B, .ints l2) ∈ objs) (hl : l.length + l2.length < 1000) (h : ∀ D', K (.ref D') ((D', .ints (l ++ l2)) :: objs)) : Bin P w b .Add (.ref D) (.ref B) objs K := by
  rintro _ _ rfl rfl A h₀ L m ex s Q E fx hr k
  refine hideG fun Xg hXg => ?_
  obtain ⟨all, vs, n, F, N, HA, h1, h2, h3, h4⟩ := hr.ints hm
  obtain ⟨o2, hb1, vs2, k2, rfl, hi2⟩ := HA.3 _ hB
  refine hXg ?_
  have h3' : s.heap.IsList B (List.toArray vs2) := ⟨_, (N _ hb1).1, rfl, k2, rfl⟩
  refine add_arrays_ints F N h3 h3' (by simpa using h2) (by simpa using hi2) (fun h' F' N' hi => k _ _ _ _ (h _) rfl (HR.new HA F' N' (fun p hp => Heap.lt_size (N p hp).1) ⟨vs ++ vs2, 0, by simp, by simpa using hi⟩) ⟨rfl, rfl, rfl⟩) (line1000 (by (first | lia | omega)))

/- items -/
noncomputable def Sub (P : Pg) (w : World) (b : Nat) (e1 e2 : Expr) (x y : AV) (objs : Objs) (K : AV → Objs → Prop) : Prop := ∀ x' y', RV x x' → RV y y' → CL P w b (subscriptTail e1 e2 x' y') RV objs K
noncomputable def notSlice : Expr → Bool
  | .Slice .. => false
  | _ => true
theorem subscripted_plain {e : Expr} {o i : Value} (h : notSlice e = true) : subscripted e false o i = operate [o, i] (getItem o i) := by
  cases e <;> first | rfl | cases h
theorem WE_sub {e1 e2 : Expr} {pos : Pos} {K : AV → Objs → Prop} (h : WE P w sc b e1 vars objs fun x o1 => WE P w sc b e2 vars o1 fun y o2 => Sub P w b e1 e2 x y o2 K) : WE P w sc b (.Subscript e1 e2 pos) vars objs K := by
  intro A h₀ L m ex env s Q E fx eo vo hr k
  refine Subscript_ (h A h₀ L m ex env s _ E fx eo vo hr fun x o1 x' s1 h1 rx hr1 q1 => ?_)
  refine h1 A h₀ L m ex env s1 _ E fx eo vo hr1 fun y o2 y' s2 h2 ry hr2 q2 => ?_
  exact h2 x' y' rx ry A h₀ L m ex s2 Q E fx hr2 fun v o v' s' a1 a2 a3 a4 => k v o v' s' a1 a2 a3 ((q1.trans q2).trans a4)
theorem Sub_ints {K : AV → Objs → Prop} {e1 e2 : Expr} {i : Int} (hm : (D, .ints l) ∈ objs) (h0 : 0 ≤ i) (h1 : i < l.length) (hl : l.length < 1000) (hs : notSlice e2 = true) (h : K (.int (l.getD i.toNat 0)) objs) : Sub P w b e1 e2 (.ref D) (.int i) objs K := by
  rintro _ _ rfl ⟨t, rfl⟩ A h₀ L m ex s Q E fx hr k
  refine hideG fun Xg hXg => ?_
  obtain ⟨all, vs, n, F, N, HA, h1', h2, h3, h4⟩ := hr.ints hm
  refine hXg ?_
  exact ksa_sub N h1' h2 h0 h1 (by (first | lia | omega)) (fun u => k _ _ _ _ h ⟨_, rfl⟩ hr Same.rfl) (subscripted_plain hs)
/- a store at a place -/
noncomputable def SetI (P : Pg) (w : World) (b : Nat) (x y v : AV) (objs : Objs) (K : Objs → Prop) : Prop := ∀ x' y' v', RV x x' → RV y y' → RV v v' → CL P w b (setItem x' y' v') (fun (_ : Unit) (_ : Unit) => True) objs (fun _ => K)
theorem SetI_ints {K : Objs → Prop} {i v : Int} (U : Up D (.ints l) (.ints (l.set i.toNat v)) objs objs') (h0 : 0 ≤ i) (h1 : i < l.length) (hl : l.length < 1000) (h : K objs') : SetI P w b (.ref D) (.int i) (.int v) objs K := by
  rintro _ _ _ rfl ⟨t, rfl⟩ ⟨u, rfl⟩ A h₀ L m ex s Q E fx hr k
  refine hideG fun Xg hXg => ?_
  obtain ⟨pre, post, o, F, N, ⟨vs, n, rfl, hi⟩, n1, n2, HA, back⟩ := hr.change U
  refine hXg ?_
  exact ksa_set F N (upd_of n1 n2) hi h0 h1 (by (first | lia | omega)) fun h' F' N' hi' _ _ => k () _ _ _ h trivial (back notTup_list h' _ F' N' ⟨_, _, rfl, hi'⟩) ⟨rfl, rfl, rfl⟩
/- tuples -/
theorem Sub_tup {K : AV → Objs → Prop} {e1 e2 : Expr} {i : Int} {T : Addr} {xs : List AV} {x : AV} (hm : (T, .tup xs) ∈ objs) (h0 : 0 ≤ i) (hi : i < 1000) (hx : xs[i.toNat]? = some x) (hs : notSlice e2 = true) (h : K x objs) : Sub P w b e1 e2 (.ref T) (.int i) objs K := by
  rintro _ _ rfl ⟨t, rfl⟩ A h₀ L m ex s Q E fx hr k
  obtain ⟨all, o, F, N, HA, h1, vs, n, rfl, hv⟩ := hr.look hm
  obtain ⟨v', e, rv⟩ := hv.get' hx
  have hlt : i.toNat < vs.length := by
    rcases Nat.lt_or_ge i.toNat vs.length with q | q
    · exact q
    · rw [List.getElem?_eq_none q] at e; cases e
  have ht : IsTup s.heap T (List.toArray vs) := ⟨_, (N _ h1).1, rfl, n, rfl⟩
  refine tail_any ht.typeIs PyProof.Rows.slot_tuple_getitem.lookup (PyProof.Rows.getItem_tuple (j := i.toNat) ht (by (first | lia | omega)) (by (first | lia | omega)) ?_ (by simpa using e) (k _ _ _ _ h rv hr Same.rfl)) (subscripted_plain hs)
  exact seqIndex_of h0 (by rw [List.size_toArray]; (first | lia | omega))
/- displays -/
theorem WE_list {es : List Expr} {pos : Pos} {K : AV → Objs → Prop} (h : WA P w sc b vars es objs fun vs o => ∃ ns, IArgs vs ns ∧ ns.length < 1000 ∧ ∀ D, K (.ref D) ((D, .ints ns) :: o)) (hs : noStar es = true) : WE P w sc b (.List es pos) vars objs K := by
  intro A h₀ L m ex env s Q E fx eo vo hr k
  refine List_ (WA.run hs h A h₀ L m ex env s _ E fx eo vo hr fun vs o vs' s1 h1 rvs hr1 q1 => ?_)
  obtain ⟨ns, h2, hlen, h3⟩ := h1
  obtain ⟨F, all, N, HA⟩ := hr1
  have hi : ∀ {vs : List AV} {ns : List Int} {vs' : List Value}, IArgs vs ns → F2 RV vs vs' → IntsAre vs' ns := by
    intro vs
    induction vs with
    | nil => intro ns vs' a c; cases c; cases ns with
      | nil => exact .nil
      | cons => exact a.elim
    | cons x r ih =>
      intro ns vs' a c
      cases ns with
      | nil => cases x <;> exact a.elim
      | cons j r' =>
        cases x with
        | int i => obtain ⟨rfl, a⟩ := a; cases c with | cons c1 c2 => obtain ⟨t, rfl⟩ := c1; exact .cons _ _ (ih a c2)
        | str _ => exact a.elim
        | val _ => exact a.elim
  have hi := hi h2 rvs
  refine newList_K F N (fun D h' F' N' lt => k _ _ _ _ (h3 D) rfl (HR.new HA F' N' lt ⟨_, 0, rfl, hi⟩) (q1.trans ⟨rfl, rfl, rfl⟩)) ?_
  rw [hi.length]; exact line1000 (by (first | lia | omega))
theorem WE_tuple {es : List Expr} {n : Nat} {pos : Pos} {K : AV → Objs → Prop} (h : WA P w sc b vars es objs fun vs o => vs.length < 1000 ∧ ∀ D, K (.ref D) ((D, .tup vs) :: o)) (hs : noStar es = true) : WE P w sc b (.Tuple es n pos) vars objs K := by
  intro A h₀ L m ex env s Q E fx eo vo hr k
  refine Tuple_ (WA.run hs h A h₀ L m ex env s _ E fx eo vo hr fun vs o vs' s1 h1 rvs hr1 q1 => ?_)
  obtain ⟨F, all, N, HA⟩ := hr1
  refine newTuple_N F N (fun h' F' N' => k _ _ _ _ (h1.2 _) rfl (HR.new HA F' N' (fun p hp => Heap.lt_size (N p hp).1) ⟨vs', 0, rfl, rvs⟩) (q1.trans ⟨rfl, rfl, rfl⟩)) ?_
  rw [rvs.length]; exact line1000 (by (first | lia | omega))
end
end Mine
end
section
open PySem PySem.W PySem.Spec PySem.Calls PyProof.Rows PyProof.Rows.LCg
namespace Mine
section
variable {P : Pg} {w : World} {sc : Scope} {b : Nat} {vars : Vars} {objs objs' : Objs} {h₀ : Heap} {L D : Addr} {m : Str → Option Value} {ex : List (Addr × Obj)} {h : Heap} {l : List Int}

/- ranges -/
theorem push_news {all : List (Addr × Obj)} {h h' : Heap} {o : Obj} (N : News h₀ L h all) (F : Fr h₀ L h m) (hk : ∀ b x, h.get? b = some x → h'.get? b = some x) (ho : h'.get? h.objs.size = some o) :
    News h₀ L h' ((h.objs.size, o) :: all) ∧ ∀ p ∈ all, p.1 < h.objs.size := by
  refine ⟨fun p hp => ?_, fun p hp => Heap.lt_size (N p hp).1⟩
  rcases List.mem_cons.mp hp with rfl | hp
  · refine ⟨ho, Nat.ne_of_gt F.ns.lt, ?_⟩
    cases hq : h₀.get? h.objs.size with
    | none => rfl
    | some o' => exact absurd (Heap.lt_size (F.keep _ _ hq)) (Nat.lt_irrefl _)
  · exact ⟨hk _ _ (N p hp).1, (N p hp).2⟩
theorem Call_range1 {K : AV → Objs → Prop} {n : Int} (h : ∀ D, K (.ref D) ((D, .rng 0 n 1) :: objs)) : CallS P w b (.type "range") [.int n] objs K := by
  rintro _ (_ | ⟨⟨t, rfl⟩, (_ | _)⟩) A h₀ L m ex s Q E fx hr k
  obtain ⟨F, all, N, HA⟩ := hr
  refine range1_rows F N fun h' tk t₁ u₁ v₁ hr F' N' hk => ?_
  obtain ⟨N2, lt⟩ := push_news N F hk hr
  exact k _ _ _ _ (h _) rfl (HR.new HA F' N2 lt ⟨_, _, _, rfl⟩) ⟨rfl, rfl, rfl⟩
theorem Call_range2 {K : AV → Objs → Prop} {x n : Int} (h : ∀ D, K (.ref D) ((D, .rng x n 1) :: objs)) : CallS P w b (.type "range") [.int x, .int n] objs K := by
  rintro _ (_ | ⟨⟨t, rfl⟩, (_ | ⟨⟨u, rfl⟩, (_ | _)⟩)⟩) A h₀ L m ex s Q E fx hr k
  obtain ⟨F, all, N, HA⟩ := hr
  refine range2_rows F N fun h' tk t₁ u₁ v₁ hr F' N' hk => ?_
  obtain ⟨N2, lt⟩ := push_news N F hk hr
  exact k _ _ _ _ (h _) rfl (HR.new HA F' N2 lt ⟨_, _, _, rfl⟩) ⟨rfl, rfl, rfl⟩
/-- list(range(a, b)) -/
theorem Call_list_rng {K : AV → Objs → Prop} {x y : Int} (hm : (D, .rng x y 1) ∈ objs) (h0 : -1000 < x) (h1 : x ≤ y) (h2 : y < 1000) (h : ∀ D', K (.ref D') ((D', .ints (rangeKs x (y - x).toNat)) :: objs)) : CallS P w b (.type "list") [.ref D] objs K := by
  rintro _ (_ | ⟨rfl, (_ | _)⟩) A h₀ L m ex s Q E fx hr k
  refine hideG fun Xg hXg => ?_
  obtain ⟨all, o, F, N, HA, h1', t, u, v, rfl⟩ := hr.look hm
  refine hXg ?_
  refine kll_range (n := (y - x).toNat) fx.hh F N (N _ h1').1 (small_one (by (first | lia | omega)) (by (first | lia | omega)) (by (first | lia | omega)) (by (first | lia | omega))) (by rw [rangeSize_nat]) (by (first | lia | omega)) fun D' us c h' tk F' N' lt hi => k _ _ _ _ (h D') rfl (HR.new HA F' N' lt ⟨us, c, rfl, hi⟩) ⟨rfl, rfl, rfl⟩

/- slices -/
theorem newSlice {A : Around} {E : Value → Shared → Prop} {s : Shared} {vl vu : Value} {Q : Value → Shared → Prop} (h : Q (.ref s.heap.objs.size) { s with heap := s.heap.push { cls := .type "slice", data := .fields #[vl, vu, .none] } }) :
    wpAny (model P.prog w) A (newFields "slice" [vl, vu, .none]) Q E s := wpAny_newObj_type h (by size_fits)
theorem slice_run {A : Around} {E : Value → Shared → Prop} {s : Shared} {e1 e2 : Expr} {vl vu : Value} {lo hi : Option Int} {vs : List Value} {ms : List Int} {Q : Value → Shared → Prop}
    (hl : s.heap.IsList D (List.toArray vs)) (hz : vs.length ≤ sizeLine) (pl : IsPart vl lo) (pu : IsPart vu hi) (hm : IntsAre (slicePick (List.toArray vs) lo hi none).toList ms)
    (hs : subscripted e2 false (.ref D) (.ref s.heap.objs.size) = operate [.ref s.heap.objs.size, .ref D] (getItem (.ref D) (.ref s.heap.objs.size)))
    (k : Q (.ref (s.heap.objs.size + 1)) { s with heap := (s.heap.push { cls := .type "slice", data := .fields #[vl, vu, .none] }).push { cls := .type "list", data := .seq (slicePick (List.toArray vs) lo hi none) } }) :
    wpAny (model P.prog w) A (subscriptTail e1 e2 (.ref D) (.ref s.heap.objs.size)) Q E { s with heap := s.heap.push { cls := .type "slice", data := .fields #[vl, vu, .none] } } := by
  have hl' : (s.heap.push { cls := .type "slice", data := .fields #[vl, vu, .none] }).IsList D (List.toArray vs) := hl.push _
  refine tail_any (s := { s with heap := s.heap.push { cls := .type "slice", data := .fields #[vl, vu, .none] } }) hl'.typeIs PySem.slot_list_getitem.lookup (wpAny_getItem_list_slice hl' ⟨_, Heap.get?_push_size _ rfl, rfl, rfl⟩ pl pu .none (by simp) ?_ (by rw [List.size_toArray]; exact hz)) hs
  have : (s.heap.push { cls := .type "slice", data := .fields #[vl, vu, .none] }).objs.size = s.heap.objs.size + 1 := Heap.size_push ..
  rw [this]; exact k
theorem slice_end {prog : Program} {all : List (Addr × Obj)} {h : Heap} {o1 : Obj} {its : Array Value} {ms : List Int} (HA' : HA prog w ex objs all) (F : Fr h₀ L h m) (N : News h₀ L h all) (hf : o1.isFreed = false) (hi : IntsAre its.toList ms) :
    HR prog w h₀ L m ex ((h.objs.size + 1, .ints ms) :: objs) ((h.push o1).push { cls := .type "list", data := .seq its }) := by
  have F1 := F.push o1
  have N1 := N.push F o1 hf
  have F2 := F1.push { cls := .type "list", data := .seq its }
  have N2 := N1.push F1 { cls := .type "list", data := .seq its } rfl
  have hsz : (h.push o1).objs.size = h.objs.size + 1 := Heap.size_push ..
  rw [hsz] at N2
  refine HR.new (HA'.junk fun p hp => Heap.lt_size (N p hp).1) F2 N2 (fun p hp => ?_) ⟨its.toList, 0, by simp, hi⟩
  have := Heap.lt_size (N1 p hp).1
  rw [hsz] at this; exact this
/-- a slice of the script, which stands in the ground -/
theorem WE_slice_script {x : Str} {i : Int} {k1 : Nat} {px p1 p2 pos : Pos} {K : AV → Objs → Prop} (hx : (x, AV.ref P.sa) ∈ vars) (h0 : 0 ≤ i) (hl : P.sl.length < 1000) (hk : ∀ D', K (.ref D') ((D', .ints (P.sl.take i.toNat)) :: objs))
    (hd : (x == ("__debug__" : Str)) = false) (hn : (x == ("__classdict__" : Str)) = false) :
    WE P w sc b (.Subscript (.Name x px) (.Slice none (some (.Constant (.int i) k1 p1)) none p2) pos) vars objs K := by
  intro A h₀ L m ex env s Q E fx eo vo hr k
  refine Subscript_ (wpAny_Name (VarOK.run eo (vo _ hx) hr hn fun v' hv => ?_) hd)
  rw [show v' = .ref P.sa from hv]
  show wpAny (model P.prog w) A (do let l ← pure Value.none; let u ← holding [l] (eval (.Constant (.int i) k1 p1) env); let s ← holding [l, u] (pure Value.none); newFields "slice" [l, u, s]) _ E s
  refine wpAny_bind (wpAny_pure (wpAny_bind (wpAny_holding (wpAny_Constant_int ?_))))
  refine wpAny_bind (wpAny_holding (wpAny_pure (newSlice ?_)))
  refine hideG fun Xg hXg => ?_
  obtain ⟨F, all, N, HA⟩ := hr
  obtain ⟨vs, h3, hi⟩ := fx.scr
  refine hXg ?_
  have h3' : s.heap.IsList P.sa (List.toArray vs) := by
    refine hideG fun Xg hXg => ?_
    obtain ⟨o, a1, a2⟩ := h3
    refine hXg ?_
    exact ⟨o, F.keep _ _ a1, a2⟩
  refine slice_run (s := { s with toks := s.toks + 1 }) h3' (by rw [hi.length]; exact line1000 (by (first | lia | omega))) .none (.int i s.toks) (slice_ints_uptoW hi h0) rfl ?_
  exact k _ _ _ _ (hk _) rfl (slice_end HA F N rfl (slice_ints_uptoW hi h0)) ⟨rfl, rfl, rfl⟩

/- objects made -/
theorem getL_of {kvs : List (Str × AV)} {es : List DictEntry} (hf : F2 (fun (p : Str × AV) (e : DictEntry) => (∃ t, e.key = .str p.1 t) ∧ RV p.2 e.val) kvs es) (name : Str) :
    (∀ v, kvs.lookup name = some v → ∃ v', getL name es = some (some v') ∧ RV v v') ∧ (kvs.lookup name = none → getL name es = some none) := by
  have hnr : es.any (·.refKey) = false := by
    induction hf with
    | nil => rfl
    | cons a _ ih => obtain ⟨⟨t, e⟩, _⟩ := a; simp only [List.any_cons, ih, Bool.or_false]; unfold DictEntry.refKey; rw [e]
  suffices hs : (∀ v, kvs.lookup name = some v → ∃ e, es.find? (·.key.isStr name) = some e ∧ RV v e.val) ∧ (kvs.lookup name = none → es.find? (·.key.isStr name) = none) by
    refine ⟨fun v hv => ?_, fun hv => ?_⟩
    · obtain ⟨e, h1, h2⟩ := hs.1 v hv
      exact ⟨e.val, by unfold getL; rw [h1], h2⟩
    · unfold getL; rw [hs.2 hv]; simp [hnr]
  clear hnr
  induction hf with
  | nil => exact ⟨fun v hv => by simp at hv, fun _ => rfl⟩
  | @cons a e l r h1 h2 ih =>
    obtain ⟨⟨t, e1⟩, e2⟩ := h1
    have hk : e.key.isStr name = (name == a.1) := by
      rw [e1]
      show (a.1 == name) = (name == a.1)
      exact BEq.comm
    refine ⟨fun v hv => ?_, fun hv => ?_⟩
    · rw [List.lookup_cons] at hv
      rw [List.find?_cons, hk]
      cases hc : name == a.1 with
      | true => rw [hc] at hv; cases hv; exact ⟨e, rfl, e2⟩
      | false => rw [hc] at hv; exact ih.1 v hv
    · rw [List.lookup_cons] at hv
      rw [List.find?_cons, hk]
      cases hc : name == a.1 with
      | true => rw [hc] at hv; cases hv
      | false => rw [hc] at hv; exact ih.2 hv
theorem HR.inst {prog : Program} {x d C : Addr} {kvs : List (Str × AV)} (H : HR prog w h₀ L m ex objs h) (hx : (x, .inst C d) ∈ objs) (hd : (d, .idict kvs) ∈ objs) :
    ∃ all es n, Fr h₀ L h m ∧ News h₀ L h all ∧ HA prog w ex objs all ∧ InstAt h x (instObj C d) C (some (dictOf es n)) ∧ (d, dictOf es n) ∈ all ∧ F2 (fun (p : Str × AV) (e : DictEntry) => (∃ t, e.key = .str p.1 t) ∧ RV p.2 e.val) kvs es := by
  refine hideG fun Xg hXg => ?_
  obtain ⟨F, all, N, HA⟩ := H
  obtain ⟨o, h1, rfl⟩ := HA.3 _ hx
  obtain ⟨o', h2, es, n, rfl, hf⟩ := HA.3 _ hd
  refine hXg ?_
  exact ⟨all, es, n, F, N, HA, ⟨(N _ h1).1, rfl, rfl, (N _ h2).1⟩, h2, hf⟩
theorem GetM_inst {name : Str} {x d C f : Addr} {kvs : List (Str × AV)} (hx : (x, .inst C d) ∈ objs) (hd : (d, .idict kvs) ∈ objs) (hg : plainGet (P.K w.params) C name = true) (hf : findIn (P.K w.params) (.ref C) name = some (some (.ref f))) (ht : isFn (P.K w.params) (.ref f) = true)
    (hl : kvs.lookup name = none) : GetM P w (.ref x) name objs (.ref f) := by
  rintro _ A h₀ L m ex s Q E pl rfl X hr hq
  refine hideG fun Xg hXg => ?_
  obtain ⟨all, es, n, F, N, HA, I, h2, hv⟩ := hr.inst hx hd
  refine hXg ?_
  exact method_inst F X I hg hf ht ((getL_of hv name).2 hl) hq
noncomputable def Handed : AV → Bool
  | .val v => handedIn v
  | _ => true
theorem GetA_inst {name : Str} {x d C : Addr} {kvs : List (Str × AV)} {v : AV} {attr : Option Value} {K : AV → Objs → Prop} (hx : (x, .inst C d) ∈ objs) (hd : (d, .idict kvs) ∈ objs) (hg : plainGet (P.K w.params) C name = true) (hh : hasDictIn (P.K w.params) C = true)
    (ha : findIn (P.K w.params) (.ref C) name = some attr) (hn : noGet (P.K w.params) attr = true) (hl : kvs.lookup name = some v) (hv : Handed v = true) (h : K v objs) : GetA P w b (.ref x) name objs K := by
  rintro _ rfl A h₀ L m ex s Q E fx hr k
  refine hideG fun Xg hXg => ?_
  obtain ⟨all, es, n, F, N, HA, I, h2, hf⟩ := hr.inst hx hd
  obtain ⟨v', e, rv⟩ := (getL_of hf name).1 v hl
  refine hXg ?_
  refine get_own F fx.X I hg hh ha hn e ?_ (k _ _ _ _ h rv hr ⟨rfl, rfl, rfl⟩)
  cases v with
  | int i => obtain ⟨t, rfl⟩ := rv; rfl
  | str i => obtain ⟨t, rfl⟩ := rv; rfl
  | val a => rw [show v' = a from rv]; exact hv
/-- a field stored -/
noncomputable def putA (name : Str) (v : AV) : List (Str × AV) → List (Str × AV)
  | [] => [(name, v)]
  | (y, u) :: r => if y = name then (y, v) :: r else (y, u) :: putA name v r
theorem putL_of {kvs : List (Str × AV)} {es : List DictEntry} {name : Str} {hsh : Int} {t : Tok} {v : AV} {v' : Value} (hf : F2 (fun (p : Str × AV) (e : DictEntry) => (∃ t, e.key = .str p.1 t) ∧ RV p.2 e.val) kvs es) (hv : RV v v') :
    F2 (fun (p : Str × AV) (e : DictEntry) => (∃ t, e.key = .str p.1 t) ∧ RV p.2 e.val) (putA name v kvs) (putL name hsh (.str name t) v' es) := by
  induction hf with
  | nil => exact .cons ⟨⟨t, rfl⟩, hv⟩ .nil
  | @cons a e l r h1 h2 ih =>
    obtain ⟨y, u⟩ := a
    obtain ⟨⟨t1, e1⟩, e2⟩ := h1
    have hk : e.key.isStr name = decide (y = name) := by
      rw [e1]; show (y == name) = decide (y = name)
      by_cases hq : y = name
      · simp [hq]
      · simp [hq]
    unfold putA putL
    by_cases hq : y = name
    · rw [if_pos hq, if_pos (by rw [hk]; simpa using hq)]; exact .cons ⟨⟨t1, e1⟩, hv⟩ h2
    · rw [if_neg hq, if_neg (by rw [hk]; simpa using hq)]; exact .cons ⟨⟨t1, e1⟩, e2⟩ ih
theorem putL_length {name : Str} {hsh : Int} {k v : Value} : ∀ es : List DictEntry, (putL name hsh k v es).length ≤ es.length + 1
  | [] => Nat.le_refl _
  | e :: r => by
    unfold putL
    split
    · simp
    · have := putL_length (name := name) (hsh := hsh) (k := k) (v := v) r
      simp only [List.length_cons]; (first | lia | omega)
theorem notTup_dict {es : List DictEntry} {n : Nat} : notTup (dictOf es n) := fun e => by injection e with e; revert e; decide
noncomputable def SetA (P : Pg) (w : World) (b : Nat) (x : AV) (attr : Str) (v : AV) (objs : Objs) (K : Objs → Prop) : Prop := ∀ x' v', RV x x' → RV v v' → CL P w b (setAttr x' attr v') (fun (_ : Unit) (_ : Unit) => True) objs (fun _ => K)
theorem SetA_inst {name : Str} {x d C : Addr} {kvs kvs' : List (Str × AV)} {v : AV} {K : Objs → Prop} (hx : (x, .inst C d) ∈ objs) (hs : findIn (P.K w.params) (.ref C) "__setattr__" = some (some (.builtin "object.__setattr__"))) (hp : plainOver (P.K w.params) C = true)
    (ht : takerIn (P.K w.params) C name = some none) (hh : hasDictIn (P.K w.params) C = true) (hk : kvs.length < 900) (e : putA name v kvs = kvs') (U : Up d (.idict kvs) (.idict kvs') objs objs') (h : K objs') : SetA P w b (.ref x) name v objs K := by
  rintro _ v' rfl rv A h₀ L m ex s Q E fx hr k
  refine hideG fun Xg hXg => ?_
  obtain ⟨pre, post, o, F, N, ⟨es, n, rfl, hf⟩, n1, n2, HA, back⟩ := hr.change U
  obtain ⟨o', h1, rfl⟩ := HA.3 _ hx
  refine hXg ?_
  have I : InstAt s.heap x (instObj C d) C (some (dictOf es n)) := ⟨(N _ h1).1, rfl, rfl, (N _ (List.mem_append_right _ (.head _))).1⟩
  have hso : (getL name es).isSome = true := by
    cases hq : kvs.lookup name with
    | none => rw [(getL_of hf name).2 hq]; rfl
    | some u => obtain ⟨z, e, _⟩ := (getL_of hf name).1 u hq; rw [e]; rfl
  have hlen := hf.length
  subst e
  refine set_dict F fx.X N I rfl hs hp ht hh hso rfl (upd_of n1 n2) ?_ fun h' F' N' => k () _ _ _ h trivial (back notTup_dict h' _ F' N' ⟨_, _, rfl, putL_of hf rv⟩) ⟨rfl, rfl, rfl⟩
  have := putL_length (name := name) (hsh := PyData.keyHash w.params name) (k := .str name (s.toks + 1)) (v := v') es
  (first | lia | omega)

/- dicts by written keys -/
theorem valueAt_of {kvs : List (Str × AV)} {ks : List (Str × Value)} (hf : F2 (fun (p : Str × AV) (q : Str × Value) => q.1 = p.1 ∧ RV p.2 q.2) kvs ks) {k : Str} {v : AV} (hl : kvs.lookup k = some v) : ∃ v', valueAt ks k = some v' ∧ RV v v' := by
  induction hf with
  | nil => simp at hl
  | @cons a e l r h1 h2 ih =>
    rw [List.lookup_cons] at hl
    unfold valueAt at ih ⊢
    rw [List.find?_cons]
    cases hc : k == a.1 with
    | true =>
      rw [hc] at hl; cases hl
      have : e.1 = k := by rw [h1.1]; exact (beq_iff_eq.mp hc).symm
      simp only [this, decide_true]
      exact ⟨_, rfl, h1.2⟩
    | false =>
      rw [hc] at hl
      have : ¬ e.1 = k := by rw [h1.1]; intro q; rw [q] at hc; simp at hc
      simp only [this, decide_false]
      exact ih hl
theorem Sub_dict {K : AV → Objs → Prop} {e1 e2 : Expr} {k : Str} {v : AV} {kvs : List (Str × AV)} (hm : (D, .dict kvs) ∈ objs) (hl : kvs.lookup k = some v) (hs : notSlice e2 = true) (h : K v objs) : Sub P w b e1 e2 (.ref D) (.str k) objs K := by
  rintro _ _ rfl ⟨t, rfl⟩ A h₀ L m ex s Q E fx hr kk
  refine hideG fun Xg hXg => ?_
  obtain ⟨all, o, F, N, HA, h1, lo, ks, hd, hf⟩ := hr.look hm
  obtain ⟨v', e, rv⟩ := valueAt_of hf hl
  refine hXg ?_
  exact kdt_tail N h1 hd (kdt_getItem N h1 hd (strKind_is _ _ _ _) e (kk _ _ _ _ h rv hr ⟨rfl, rfl, rfl⟩)) (subscripted_plain hs)
theorem stored_of {kvs : List (Str × AV)} {ks : List (Str × Value)} (hf : F2 (fun (p : Str × AV) (q : Str × Value) => q.1 = p.1 ∧ RV p.2 q.2) kvs ks) {k : Str} {v : AV} {v' : Value} (hn : (kvs.map (·.1)).Nodup) (rv : RV v v') :
    F2 (fun (p : Str × AV) (q : Str × Value) => q.1 = p.1 ∧ RV p.2 q.2) (putA k v kvs) (stored ks k v') := by
  have hno : ∀ {kvs : List (Str × AV)} {ks : List (Str × Value)}, F2 (fun (p : Str × AV) (q : Str × Value) => q.1 = p.1 ∧ RV p.2 q.2) kvs ks → k ∉ kvs.map (·.1) → ks.map (fun kv => if kv.1 = k then (kv.1, v') else kv) = ks ∧ ks.any (fun kv => decide (kv.1 = k)) = false := by
    intro kvs ks hf
    induction hf with
    | nil => intro _; exact ⟨rfl, rfl⟩
    | @cons a e l r h1 h2 ih =>
      intro hk
      rw [List.map_cons, List.mem_cons, not_or] at hk
      have : ¬ e.1 = k := by rw [h1.1]; exact fun q => hk.1 q.symm
      obtain ⟨i1, i2⟩ := ih hk.2
      exact ⟨by rw [List.map_cons, if_neg this, i1], by rw [List.any_cons, i2]; simp [this]⟩
  induction hf with
  | nil => exact .cons ⟨rfl, rv⟩ .nil
  | @cons a e l r h1 h2 ih =>
    obtain ⟨y, u⟩ := a
    rw [List.map_cons, List.nodup_cons] at hn
    have ih := ih hn.2
    unfold putA
    by_cases hq : y = k
    · subst hq
      rw [if_pos rfl]
      unfold stored
      have he : e.1 = y := h1.1
      rw [if_pos (by rw [List.any_cons]; simp [he]), List.map_cons, if_pos he, (hno h2 hn.1).1]
      exact .cons ⟨he, rv⟩ h2
    · rw [if_neg hq]
      have he : ¬ e.1 = k := by rw [h1.1]; exact hq
      have hst : stored (e :: r) k v' = e :: stored r k v' := by
        unfold stored
        simp only [List.any_cons, he, decide_false, Bool.false_or, List.map_cons, if_false]
        split <;> rfl
      rw [hst]
      exact .cons h1 ih
theorem SetI_dict {K : Objs → Prop} {k : Str} {v : AV} {kvs kvs' : List (Str × AV)} (e : putA k v kvs = kvs') (U : Up D (.dict kvs) (.dict kvs') objs objs') (hn : (kvs.map (·.1)).Nodup) (hl : kvs.length < 1000) (h : K objs') : SetI P w b (.ref D) (.str k) v objs K := by
  rintro _ _ v' rfl ⟨t, rfl⟩ rv A h₀ L m ex s Q E fx hr kk
  refine hideG fun Xg hXg => ?_
  obtain ⟨pre, post, o, F, N, ⟨lo, ks, hd, hf⟩, n1, n2, HA, back⟩ := hr.change U
  refine hXg ?_
  subst e
  have hnt : notTup o := by
    intro e
    have h1 := (kda_dict N (List.mem_append_right pre (.head post)) hd).typeIs
    refine hideG fun Xg hXg => ?_
    obtain ⟨o', a1, a2⟩ := h1
    refine hXg ?_
    have h2 := (N _ (List.mem_append_right pre (.head post))).1
    dsimp only at h2
    rw [h2] at a1
    cases a1
    rw [e] at a2
    injection a2 with a2; revert a2; decide
  refine kda_set F N (updF_of n1 n2) hd (strKind_is _ _ _ _) (by rw [hf.length]; exact line1000 (by (first | lia | omega))) fun h' o' F' N' hd' => kk () _ _ _ h trivial (back hnt h' _ F' N' ⟨lo, _, hd', stored_of hf hn rv⟩) ⟨rfl, rfl, rfl⟩
end
end Mine
end
section
open PySem PySem.W PySem.Spec PySem.Calls PyProof.Rows PyProof.Rows.LCg
namespace Mine

inductive AF where
  | next | brk | cont | ret (v : AV)
noncomputable def RF : AF → Flow → Prop
  | .next, f => f = .next
  | .brk, f => f = .brk
  | .cont, f => f = .cont
  | .ret v, f => ∃ v', f = .ret v' ∧ RV v v'
/-- a name stored -/
inductive SetV (x : Str) (v : AV) : Vars → Vars → Prop
  | new : SetV x v [] [(x, v)]
  | here {u r} : SetV x v ((x, u) :: r) ((x, v) :: r)
  | there {p r r'} : p.1 ≠ x → SetV x v r r' → SetV x v (p :: r) (p :: r')
theorem SetV.cases {x : Str} {v : AV} {l l' : Vars} (h : SetV x v l l') (hn : (l.map (·.1)).Nodup) : (∀ p ∈ l', p = (x, v) ∨ (p ∈ l ∧ p.1 ≠ x)) ∧ (l'.map (·.1)).Nodup ∧ (∀ y ∈ l'.map (·.1), y = x ∨ y ∈ l.map (·.1)) := by
  induction h with
  | new => exact ⟨fun p hp => .inl (List.mem_singleton.mp hp), by simp, by simp⟩
  | @here u r =>
    rw [List.map_cons, List.nodup_cons] at hn
    refine ⟨fun p hp => ?_, by rw [List.map_cons, List.nodup_cons]; exact hn, fun y hy => ?_⟩
    · rcases List.mem_cons.mp hp with rfl | hp
      · exact .inl rfl
      · exact .inr ⟨.tail _ hp, fun e => hn.1 (by rw [show (x, u).1 = p.1 from e.symm]; exact List.mem_map_of_mem (f := (·.1)) hp)⟩
    · rw [List.map_cons] at hy ⊢
      rcases List.mem_cons.mp hy with rfl | hy
      · exact .inl rfl
      · exact .inr (.tail _ hy)
  | @there q r r' hne hs ih =>
    rw [List.map_cons, List.nodup_cons] at hn
    obtain ⟨i1, i2, i3⟩ := ih hn.2
    refine ⟨fun p hp => ?_, ?_, fun y hy => ?_⟩
    · rcases List.mem_cons.mp hp with rfl | hp
      · exact .inr ⟨.head _, hne⟩
      · rcases i1 p hp with e | ⟨e, n⟩
        · exact .inl e
        · exact .inr ⟨.tail _ e, n⟩
    · rw [List.map_cons, List.nodup_cons]
      refine ⟨fun hm => ?_, i2⟩
      rcases i3 _ hm with e | e
      · exact hne e
      · exact hn.1 e
    · rw [List.map_cons] at hy ⊢
      rcases List.mem_cons.mp hy with rfl | hy
      · exact .inr (.head _)
      · rcases i3 _ hy with e | e
        · exact .inl e
        · exact .inr (.tail _ e)

noncomputable def CellsOK (env : Env) (fx ce : List (Addr × Obj)) : Prop :=
  (∀ x, env.kindOf x = some .cell → ∃ c o v₀, env.cells.lookup x = some c ∧ (c, o) ∈ ce ∧ o.data = .cell v₀) ∧ (∀ x y c, env.cells.lookup x = some c → env.cells.lookup y = some c → x = y) ∧ ∀ p ∈ fx, ∀ q ∈ ce, p.1 ≠ q.1
noncomputable def RS (prog : Program) (w : World) (h₀ : Heap) (L : Addr) (env : Env) (fx : List (Addr × Obj)) (vars : Vars) (objs : Objs) (h : Heap) : Prop :=
  (vars.map (·.1)).Nodup ∧ ∃ m ce, HR prog w h₀ L m (fx ++ ce) objs h ∧ VarsOK L env m (fx ++ ce) vars ∧ CellsOK env fx ce
/-- a tree of statements -/
noncomputable def WS (P : Pg) (w : World) (sc : Scope) (b : Nat) (t : Env → Sem Flow) (vars : Vars) (objs : Objs) (Kk : AF → Vars → Objs → Prop) : Prop :=
  ∀ (A : Around) (h₀ : Heap) (L : Addr) (fx : List (Addr × Obj)) (env : Env) (s : Shared) (Q : Flow → Shared → Prop) (E : Value → Shared → Prop),
    Fx P w A h₀ L b → EnvOK sc L env → env.locals = L → RS P.prog w h₀ L env fx vars objs s.heap →
    (∀ f vars' objs' f' s', Kk f vars' objs' → RF f f' → RS P.prog w h₀ L env fx vars' objs' s'.heap → Same s s' → Q f' s') → wpAny (model P.prog w) A (t env) Q E s
noncomputable abbrev SS (P : Pg) (w : World) (sc : Scope) (b : Nat) (ss : List Stmt) (vars : Vars) (objs : Objs) (K : AF → Vars → Objs → Prop) : Prop := WS P w sc b (execs ss) vars objs K
noncomputable abbrev S1 (P : Pg) (w : World) (sc : Scope) (b : Nat) (st : Stmt) (vars : Vars) (objs : Objs) (K : AF → Vars → Objs → Prop) : Prop := WS P w sc b (exec st) vars objs K

theorem HA.updEx {prog : Program} {w : World} {ex ex' : List (Addr × Obj)} {objs : Objs} {c : Addr} {o o' : Obj} {pre post : List (Addr × Obj)} (H : HA prog w ex objs (pre ++ (c, o) :: post)) (hc : (c, o) ∈ ex) (hnt : ∀ l n, o ≠ tupObj l n)
    (hex : ∀ p ∈ ex', p = (c, o') ∨ (p ∈ ex ∧ p.1 ≠ c)) : HA prog w ex' objs (pre ++ (c, o') :: post) := by
  obtain ⟨a1, a2, a3, a4, a5⟩ := H
  have fs : (pre ++ (c, o') :: post).map (·.1) = (pre ++ (c, o) :: post).map (·.1) := by simp
  have keep : ∀ b x, b ≠ c → (b, x) ∈ pre ++ (c, o) :: post → (b, x) ∈ pre ++ (c, o') :: post := fun b x hb hm => by
    rcases List.mem_append.mp hm with q | q
    · exact List.mem_append_left _ q
    · rcases List.mem_cons.mp q with e | q
      · exact absurd (Prod.mk.inj e).1 hb
      · exact List.mem_append_right _ (.tail _ q)
  refine ⟨fs ▸ a1, fun p hp => ?_, fun p hp => ?_, a4, fun p hp q hq => ?_⟩
  · rcases hex p hp with rfl | ⟨h1, h2⟩
    · exact List.mem_append_right _ (.head _)
    · exact keep p.1 p.2 h2 (a2 p h1)
  · obtain ⟨x, h1, h2⟩ := a3 p hp
    refine ⟨x, keep _ _ (a5 p hp _ hc) h1, h2.more fun b l n hb => ?_⟩
    by_cases hbc : b = c
    · subst hbc
      exact absurd (nodup_key a1 (List.mem_append_right _ (.head _)) hb) (hnt l n)
    · exact keep _ _ hbc hb
  · rcases hex q hq with rfl | ⟨h1, h2⟩
    · exact (show p.1 ≠ c from a5 p hp (c, o) hc)
    · exact a5 p hp q h1

section
variable {P : Pg} {w : World} {sc : Scope} {b : Nat} {vars vars' : Vars} {objs objs' : Objs} {h₀ : Heap} {L D : Addr} {fx : List (Addr × Obj)} {env : Env} {A : Around}

theorem RS.run {α β : Type} {t : Env → Sem α} {R : β → α → Prop} {K1 : β → Objs → Prop} {s : Shared} {Q : α → Shared → Prop} {E : Value → Shared → Prop} (h : WX P w sc b t R vars objs K1) (fxx : Fx P w A h₀ L b) (eo : EnvOK sc L env) (rs : RS P.prog w h₀ L env fx vars objs s.heap)
    (k : ∀ v o v' s', K1 v o → R v v' → RS P.prog w h₀ L env fx vars o s'.heap → Same s s' → Q v' s') : wpAny (model P.prog w) A (t env) Q E s := by
  refine hideG fun Xg hXg => ?_
  obtain ⟨hn, m, ce, H, V, C⟩ := rs
  refine hXg ?_
  exact h A h₀ L m (fx ++ ce) env s Q E fxx eo V H fun v o v' s' a1 a2 a3 a4 => k v o v' s' a1 a2 ⟨hn, m, ce, a3, V, C⟩ a4
theorem RS.runC {α β : Type} {t : Sem α} {R : β → α → Prop} {K1 : β → Objs → Prop} {s : Shared} {Q : α → Shared → Prop} {E : Value → Shared → Prop} (h : CL P w b t R objs K1) (fxx : Fx P w A h₀ L b) (rs : RS P.prog w h₀ L env fx vars objs s.heap)
    (k : ∀ v o v' s', K1 v o → R v v' → RS P.prog w h₀ L env fx vars o s'.heap → Same s s' → Q v' s') : wpAny (model P.prog w) A t Q E s := by
  refine hideG fun Xg hXg => ?_
  obtain ⟨hn, m, ce, H, V, C⟩ := rs
  refine hXg ?_
  exact h A h₀ L m (fx ++ ce) s Q E fxx H fun v o v' s' a1 a2 a3 a4 => k v o v' s' a1 a2 ⟨hn, m, ce, a3, V, C⟩ a4
theorem RS.store {x : Str} {v : AV} {v' : Value} {s : Shared} {Q : Unit → Shared → Prop} {E : Value → Shared → Prop} (eo : EnvOK sc L env) (hL : env.locals = L) (rs : RS P.prog w h₀ L env fx vars objs s.heap) (hs : SetV x v vars vars') (rv : RV v v')
    (hk : sc.names.lookup x = some .local ∨ sc.names.lookup x = some .cell) (k : ∀ s', RS P.prog w h₀ L env fx vars' objs s'.heap → Same s s' → Q () s') : wpAny (model P.prog w) A (storeName env x v') Q E s := by
  refine hideG fun Xg hXg => ?_
  obtain ⟨hn, m, ce, ⟨F, all, N, H⟩, V, C⟩ := rs
  obtain ⟨c1, c2, -⟩ := hs.cases hn
  refine hXg ?_
  have hkf : env.scope.kind = .function := by rw [eo.scope]; exact eo.kind
  rcases hk with hk | hk
  · have hl : env.kindOf x = some .local := by unfold Env.kindOf; rw [eo.scope]; exact hk
    refine wpAny_storeName_local hl (hL ▸ F.ns) (fun h' hn' hs' => ?_) ?_
    · rw [hL] at hn' hs'
      refine k _ ⟨c2, _, ce, ⟨F.set hn' hs', all, N.set hs', H⟩, fun p hp => ?_, C⟩ ⟨rfl, rfl, rfl⟩
      rcases c1 p hp with rfl | ⟨hp', hne⟩
      · exact ⟨v', rv, .inl ⟨hl, hL, by simp⟩⟩
      · obtain ⟨u, ru, q | q | q⟩ := V p hp'
        · exact ⟨u, ru, .inl ⟨q.1, q.2.1, by show (if p.1 = x then some v' else m p.1) = some u; rw [if_neg hne]; exact q.2.2⟩⟩
        · refine hideG fun Xg hXg => ?_
          obtain ⟨q1, o, m₂, q2, -⟩ := q
          refine hXg ?_
          exact absurd hL (N _ (H.2 _ q2)).2.1
        · exact ⟨u, ru, .inr (.inr q)⟩
    · rw [hkf]; rfl
  · have hl : env.kindOf x = some .cell := by unfold Env.kindOf; rw [eo.scope]; exact hk
    refine hideG fun Xg hXg => ?_
    obtain ⟨c, o, v₀, d1, d2, d3⟩ := C.1 x hl
    have hin := H.2 _ (List.mem_append_right fx d2)
    obtain ⟨pre, post, rfl, n1, n2⟩ := split_at H.1 hin
    refine hXg ?_
    have hcN := N _ hin
    refine wpAny_storeName_cell hkf hl d1 ⟨o, hcN.1, d3⟩ fun h' hv hsb => ?_
    refine hideG fun Xg hXg => ?_
    obtain ⟨o', e1, e2⟩ := hv
    refine hXg ?_
    have F' : Fr h₀ L h' m := ⟨F.ns.sameBut hsb (Ne.symm hcN.2.1), fun b ob e => (hsb.2 b (fun q => by rw [q, hcN.2.2] at e; cases e)).trans (F.keep b ob e), F.above⟩
    have N' : News h₀ L h' (pre ++ (c, o') :: post) := N.setAt n1 n2 hsb e1
    have hfxc : ∀ p ∈ fx, p.1 ≠ c := fun p hp => C.2.2 p hp _ d2
    refine k { s with heap := h' } ⟨c2, m, ce.map (fun p => if p.1 = c then (c, o') else p), ⟨F', _, N', H.updEx (List.mem_append_right _ d2) ?_ ?_⟩, fun p hp => ?_, ?_, C.2.1, ?_⟩ ⟨rfl, rfl, rfl⟩
    · rintro l n rfl; cases d3
    · intro p hp
      rcases List.mem_append.mp hp with q | q
      · exact .inr ⟨List.mem_append_left _ q, hfxc p q⟩
      · refine hideG fun Xg hXg => ?_
        obtain ⟨p', hp', rfl⟩ := List.mem_map.mp q
        refine hXg ?_
        by_cases hc : p'.1 = c
        · rw [if_pos hc]; exact .inl rfl
        · rw [if_neg hc]; exact .inr ⟨List.mem_append_right _ hp', hc⟩
    · rcases c1 p hp with rfl | ⟨hp', hne⟩
      · exact ⟨v', rv, .inr (.inr ⟨.inl hl, c, o', d1, List.mem_append_right _ (List.mem_map.mpr ⟨_, d2, by simp⟩), e2⟩)⟩
      · obtain ⟨u, ru, q | q | q⟩ := V p hp'
        · exact ⟨u, ru, .inl q⟩
        · refine hideG fun Xg hXg => ?_
          obtain ⟨q1, o, m₂, q2, -⟩ := q
          refine hXg ?_
          exact absurd hL (N _ (H.2 _ q2)).2.1
        · refine hideG fun Xg hXg => ?_
          obtain ⟨q0, c', o2, q1, q2, q3⟩ := q
          refine hXg ?_
          have hcc : c' ≠ c := fun e => hne (C.2.1 _ _ c (e ▸ q1) d1)
          refine ⟨u, ru, .inr (.inr ⟨q0, c', o2, q1, ?_, q3⟩)⟩
          rcases List.mem_append.mp q2 with z | z
          · exact List.mem_append_left _ z
          · exact List.mem_append_right _ (List.mem_map.mpr ⟨_, z, by simp [hcc]⟩)
    · intro y hy
      refine hideG fun Xg hXg => ?_
      obtain ⟨c', o2, v2, q1, q2, q3⟩ := C.1 y hy
      refine hXg ?_
      by_cases hcc : c' = c
      · subst hcc
        exact ⟨c', o', _, q1, List.mem_map.mpr ⟨_, q2, by simp⟩, e2⟩
      · exact ⟨c', o2, v2, q1, List.mem_map.mpr ⟨_, q2, by simp [hcc]⟩, q3⟩
    · intro p hp q hq
      refine hideG fun Xg hXg => ?_
      obtain ⟨q', hq', rfl⟩ := List.mem_map.mp hq
      refine hXg ?_
      by_cases hc : q'.1 = c
      · rw [if_pos hc]; exact hfxc p hp
      · rw [if_neg hc]; exact C.2.2 p hp q' hq'

/- statements -/
variable {K : AF → Vars → Objs → Prop}
noncomputable def seqK (P : Pg) (w : World) (sc : Scope) (b : Nat) (rest : List Stmt) (K : AF → Vars → Objs → Prop) : AF → Vars → Objs → Prop
  | .next, v, o => SS P w sc b rest v o K
  | f, v, o => K f v o
theorem S_nil (h : K .next vars objs) : SS P w sc b [] vars objs K := fun A h₀ L fx env s Q E fxx eo hL rs k => wpAny_execs_nil (k _ _ _ _ _ h rfl rs Same.rfl)
theorem S_cons {st : Stmt} {rest : List Stmt} (h : S1 P w sc b st vars objs (seqK P w sc b rest K)) : SS P w sc b (st :: rest) vars objs K := by
  intro A h₀ L fx env s Q E fxx eo hL rs k
  refine wpAny_execs_cons (h A h₀ L fx env s _ E fxx eo hL rs fun f v o f' s1 h1 rf rs1 q1 => ?_)
  cases f with
  | next => rw [show f' = .next from rf]; exact h1 A h₀ L fx env s1 Q E fxx eo hL rs1 fun f v o f' s2 a1 a2 a3 a4 => k f v o f' s2 a1 a2 a3 (q1.trans a4)
  | brk => rw [show f' = .brk from rf]; exact k .brk v o _ _ h1 rfl rs1 q1
  | cont => rw [show f' = .cont from rf]; exact k .cont v o _ _ h1 rfl rs1 q1
  | ret v' => obtain ⟨u, rfl, ru⟩ := rf; exact k (.ret v') v o _ _ h1 ⟨u, rfl, ru⟩ rs1 q1
theorem S_mono {t : Env → Sem Flow} {K' : AF → Vars → Objs → Prop} (h : WS P w sc b t vars objs K) (hk : ∀ f v o, K f v o → K' f v o) : WS P w sc b t vars objs K' :=
  fun A h₀ L fx env s Q E fxx eo hL rs k => h A h₀ L fx env s Q E fxx eo hL rs fun f v o f' s' a => k f v o f' s' (hk f v o a)
noncomputable def AsgK (x : Str) (vars : Vars) (K : AF → Vars → Objs → Prop) (v : AV) (o : Objs) : Prop := ∃ vars', SetV x v vars vars' ∧ K .next vars' o
theorem AsgK.mk {x : Str} {vars vars' : Vars} {K : AF → Vars → Objs → Prop} {v : AV} {o : Objs} (zs : SetV x v vars vars') (zk : K .next vars' o) : AsgK x vars K v o := ⟨vars', zs, zk⟩
theorem S_assign {x : Str} {p pos : Pos} {e : Expr} (h : WE P w sc b e vars objs (AsgK x vars K)) (hk : sc.names.lookup x = some .local ∨ sc.names.lookup x = some .cell)
    (hs : ∀ env : Env, env.scope = sc → swapsWith e (some (.Name x p)) pos.line env = pure false) : S1 P w sc b (.Assign [.Name x p] e pos) vars objs K := by
  intro A h₀ L fx env s Q E fxx eo hL rs k
  refine wpAny_Assign_Name (RS.run h fxx eo rs fun v o v' s1 h1 rv rs1 q1 => ?_) (hs env eo.scope)
  obtain ⟨vars', h2, h3⟩ := h1
  exact RS.store eo hL rs1 h2 rv hk fun s2 rs2 q2 => k .next vars' o .next s2 h3 rfl rs2 (q1.trans q2)
theorem S_setattr {o e : Expr} {attr : Str} {p pos : Pos} (h : WE P w sc b e vars objs fun v o1 => WE P w sc b o vars o1 fun x o2 => SetA P w b x attr v o2 fun o3 => K .next vars o3)
    (hs : ∀ env : Env, swapsWith e (some (.Attribute o attr p)) pos.line env = pure false) : S1 P w sc b (.Assign [.Attribute o attr p] e pos) vars objs K := by
  intro A h₀ L fx env s Q E fxx eo hL rs k
  refine plainObj_wpAny_Assign_Attribute (RS.run h fxx eo rs fun v o1 v' s1 h1 rv rs1 q1 => ?_) (hs env)
  refine RS.run h1 fxx eo rs1 fun x o2 x' s2 h2 rx rs2 q2 => ?_
  exact RS.runC (h2 x' v' rx rv) fxx rs2 fun _ o3 _ s3 h3 _ rs3 q3 => k .next vars o3 .next s3 h3 rfl rs3 ((q1.trans q2).trans q3)
theorem S_setitem {o i e : Expr} {p pos : Pos} (h : WE P w sc b e vars objs fun v o1 => WE P w sc b o vars o1 fun x o2 => WE P w sc b i vars o2 fun y o3 => SetI P w b x y v o3 fun o4 => K .next vars o4)
    (hs : ∀ env : Env, swapsWith e (some (.Subscript o i p)) pos.line env = pure false) : S1 P w sc b (.Assign [.Subscript o i p] e pos) vars objs K := by
  intro A h₀ L fx env s Q E fxx eo hL rs k
  refine wpAny_Assign_Subscript (RS.run h fxx eo rs fun v o1 v' s1 h1 rv rs1 q1 => ?_) (hs env)
  refine RS.run h1 fxx eo rs1 fun x o2 x' s2 h2 rx rs2 q2 => ?_
  refine RS.run h2 fxx eo rs2 fun y o3 y' s3 h3 ry rs3 q3 => ?_
  exact RS.runC (h3 x' y' v' rx ry rv) fxx rs3 fun _ o4 _ s4 h4 _ rs4 q4 => k .next vars o4 .next s4 h4 rfl rs4 (((q1.trans q2).trans q3).trans q4)
theorem S_expr {e : Expr} {pos : Pos} (h : WE P w sc b e vars objs fun v o => K .next vars o) (hs : ∀ env : Env, swapsWith e none pos.line env = pure false) : S1 P w sc b (.Expr e pos) vars objs K := by
  intro A h₀ L fx env s Q E fxx eo hL rs k
  have hi : interactive env = false := by unfold interactive; rw [eo.scope, eo.kind]; rfl
  exact wpAny_Expr_any (RS.run h fxx eo rs fun v o v' s1 h1 rv rs1 q1 => k .next vars o .next s1 h1 rfl rs1 q1) hi (hs env)
theorem S_return {e : Expr} {pos : Pos} (h : WE P w sc b e vars objs fun v o => K (.ret v) vars o) : S1 P w sc b (.Return (some e) pos) vars objs K := by
  intro A h₀ L fx env s Q E fxx eo hL rs k
  exact wpAny_Return_some (RS.run h fxx eo rs fun v o v' s1 h1 rv rs1 q1 => k (.ret v) vars o _ s1 h1 ⟨v', rfl, rv⟩ rs1 q1)
theorem S_return0 {pos : Pos} (h : K (.ret (.val .none)) vars objs) : S1 P w sc b (.Return none pos) vars objs K := by
  intro A h₀ L fx env s Q E fxx eo hL rs k
  exact wpAny_Return_none (k (.ret (.val .none)) vars objs _ s h ⟨_, rfl, rfl⟩ rs Same.rfl)
theorem S_break {pos : Pos} (h : K .brk vars objs) : S1 P w sc b (.Break pos) vars objs K := by
  intro A h₀ L fx env s Q E fxx eo hL rs k
  exact fun _ _ _ => k .brk vars objs _ s h rfl rs Same.rfl
theorem S_if {t : Expr} {body orelse : List Stmt} {pos : Pos} (h : WT P w sc b t vars objs fun c o => (c = true → SS P w sc b body vars o K) ∧ (c = false → SS P w sc b orelse vars o K)) : S1 P w sc b (.If t body orelse pos) vars objs K := by
  intro A h₀ L fx env s Q E fxx eo hL rs k
  refine wpAny_If (RS.run h fxx eo rs fun c o c' s1 h1 rc rs1 q1 => ?_)
  subst rc
  cases c with
  | true => exact (h1.1 rfl) A h₀ L fx env s1 Q E fxx eo hL rs1 fun f v o f' s2 a1 a2 a3 a4 => k f v o f' s2 a1 a2 a3 (q1.trans a4)
  | false => exact (h1.2 rfl) A h₀ L fx env s1 Q E fxx eo hL rs1 fun f v o f' s2 a1 a2 a3 a4 => k f v o f' s2 a1 a2 a3 (q1.trans a4)
theorem RS.less {vars' : Vars} {objs' : Objs} {h : Heap} (rs : RS P.prog w h₀ L env fx vars objs h) (hv : List.Sublist vars' vars) (ho : Pick objs' objs) : RS P.prog w h₀ L env fx vars' objs' h := by
  refine hideG fun Xg hXg => ?_
  obtain ⟨hn, m, ce, H, V, C⟩ := rs
  refine hXg ?_
  exact ⟨(hv.map _).nodup hn, m, ce, H.pick ho, fun p hp => V p (hv.subset hp), C⟩
/-- names and objects forgotten -/
noncomputable def dropK (J : Vars → Objs → Prop) (v : Vars) (o : Objs) : Prop := ∃ v' o', J v' o' ∧ List.Sublist v' v ∧ Pick o' o
theorem S_less {t : Env → Sem Flow} {vars' : Vars} {objs' : Objs} (h : WS P w sc b t vars' objs' K) (hv : List.Sublist vars' vars) (ho : Pick objs' objs) : WS P w sc b t vars objs K :=
  fun A h₀ L fx env s Q E fxx eo hL rs k => h A h₀ L fx env s Q E fxx eo hL (rs.less hv ho) k
/-- what a turn's end hands on -/
noncomputable def loopK (J : Vars → Objs → Prop) (K : AF → Vars → Objs → Prop) : AF → Vars → Objs → Prop
  | .next, v, o => J v o
  | .cont, v, o => J v o
  | .brk, v, o => K .next v o
  | .ret r, v, o => K (.ret r) v o
theorem S_while {t : Expr} {body orelse : List Stmt} {pos : Pos} (Inv : Nat → Vars → Objs → Prop) (n : Nat) (h0 : Inv n vars objs)
    (turn : ∀ n vars objs, Inv n vars objs → WT P w sc b t vars objs fun c o => (c = true → SS P w sc b body vars o (loopK (dropK fun v' o' => ∃ m, m < n ∧ Inv m v' o') K)) ∧ (c = false → SS P w sc b orelse vars o K)) : S1 P w sc b (.While t body orelse pos) vars objs K := by
  intro A h₀ L fx env s Q E fxx eo hL rs k
  refine wpAny_While (codeAny_whileLoop (fun n s' => ∃ vars objs, Inv n vars objs ∧ RS P.prog w h₀ L env fx vars objs s'.heap ∧ Same s s') (fun n s1 hI => ?_) n ⟨vars, objs, h0, rs, Same.rfl⟩)
  refine hideG fun Xg hXg => ?_
  obtain ⟨vs, os, hI, rs1, q1⟩ := hI
  refine hXg ?_
  refine RS.run (turn n vs os hI) fxx eo rs1 fun c o c' s2 h2 rc rs2 q2 => ?_
  subst rc
  cases c with
  | true =>
    refine (h2.1 rfl) A h₀ L fx env s2 _ _ fxx eo hL rs2 fun f v o f' s3 h3 rf rs3 q3 => ?_
    cases f with
    | next => rw [show f' = .next from rf]; obtain ⟨v₁, o₁, ⟨m, hm, hJ⟩, z1, z2⟩ := h3; exact ⟨m, hm, v₁, o₁, hJ, rs3.less z1 z2, (q1.trans q2).trans q3⟩
    | cont => rw [show f' = .cont from rf]; obtain ⟨v₁, o₁, ⟨m, hm, hJ⟩, z1, z2⟩ := h3; exact ⟨m, hm, v₁, o₁, hJ, rs3.less z1 z2, (q1.trans q2).trans q3⟩
    | brk => rw [show f' = .brk from rf]; exact k .next v o .next s3 h3 rfl rs3 ((q1.trans q2).trans q3)
    | ret r => obtain ⟨u, rfl, ru⟩ := rf; exact k (.ret r) v o _ s3 h3 ⟨u, rfl, ru⟩ rs3 ((q1.trans q2).trans q3)
  | false => exact (h2.2 rfl) A h₀ L fx env s2 _ _ fxx eo hL rs2 fun f v o f' s3 h3 rf rs3 q3 => k f v o f' s3 h3 rf rs3 ((q1.trans q2).trans q3)

/- a for -/
theorem RS.iterSet {I : Addr} {io io' : Obj} {h h' : Heap} (rs : RS P.prog w h₀ L env ((I, io) :: fx) vars objs h) (hfx : ∀ p ∈ fx, p.1 ≠ I) (hio : ∃ fs, io.data = .fields fs) (hk : ∀ b x, b ≠ I → h.get? b = some x → h'.get? b = some x) (ho : h'.get? I = some io') :
    RS P.prog w h₀ L env ((I, io') :: fx) vars objs h' := by
  refine hideG fun Xg hXg => ?_
  obtain ⟨hn, m, ce, ⟨F, all, N, H⟩, V, C⟩ := rs
  have hin : (I, io) ∈ all := H.2 _ (.head _)
  have hI := N _ hin
  obtain ⟨pre, post, rfl, n1, n2⟩ := split_at H.1 hin
  refine hXg ?_
  have F' : Fr h₀ L h' m := ⟨F.ns.at' fun o e => hk _ o (Ne.symm hI.2.1) e, fun b o e => hk b o (fun q => by rw [q, hI.2.2] at e; cases e) (F.keep b o e), F.above⟩
  have N' : News h₀ L h' (pre ++ (I, io') :: post) := fun p hp => by
    rcases List.mem_append.mp hp with q | q
    · have := N p (List.mem_append_left _ q); exact ⟨hk _ _ (n1 p q) this.1, this.2⟩
    · rcases List.mem_cons.mp q with rfl | q
      · exact ⟨ho, hI.2⟩
      · have := N p (List.mem_append_right _ (.tail _ q)); exact ⟨hk _ _ (n2 p q) this.1, this.2⟩
  have hce : ∀ q ∈ ce, q.1 ≠ I := fun q hq => (C.2.2 _ (.head _) q hq).symm
  have hex : ∀ p ∈ (I, io') :: fx ++ ce, p = (I, io') ∨ (p ∈ (I, io) :: fx ++ ce ∧ p.1 ≠ I) := fun p hp => by
    rcases List.mem_append.mp hp with q | q
    · rcases List.mem_cons.mp q with rfl | q
      · exact .inl rfl
      · exact .inr ⟨List.mem_append_left _ (.tail _ q), hfx p q⟩
    · exact .inr ⟨List.mem_append_right _ q, hce p q⟩
  refine ⟨hn, m, ce, ⟨F', _, N', H.updEx (List.mem_append_left _ (.head _)) (fun l n e => by obtain ⟨fs, hf⟩ := hio; rw [e] at hf; cases hf) hex⟩, fun p hp => ?_, C.1, C.2.1, fun p hp q hq => ?_⟩
  · obtain ⟨u, ru, q | q | q⟩ := V p hp
    · exact ⟨u, ru, .inl q⟩
    · refine hideG fun Xg hXg => ?_
      obtain ⟨q1, o, m₂, q2, q3, q4⟩ := q
      refine hXg ?_
      refine ⟨u, ru, .inr (.inl ⟨q1, o, m₂, ?_, q3, q4⟩)⟩
      rcases List.mem_append.mp q2 with z | z
      · rcases List.mem_cons.mp z with e | z
        · refine hideG fun Xg hXg => ?_
          obtain ⟨fs, hf⟩ := hio
          obtain ⟨es, ep, q3', -⟩ := q3
          refine hXg ?_
          rw [(Prod.mk.inj e).2, hf] at q3'; cases q3'
        · exact List.mem_append_left _ (.tail _ z)
      · exact List.mem_append_right _ z
    · refine hideG fun Xg hXg => ?_
      obtain ⟨q0, c', o2, q1, q2, q3⟩ := q
      refine hXg ?_
      refine ⟨u, ru, .inr (.inr ⟨q0, c', o2, q1, ?_, q3⟩)⟩
      rcases List.mem_append.mp q2 with z | z
      · rcases List.mem_cons.mp z with e | z
        · obtain ⟨fs, hf⟩ := hio
          rw [(Prod.mk.inj e).2, hf] at q3; cases q3
        · exact List.mem_append_left _ (.tail _ z)
      · exact List.mem_append_right _ z
  · rcases List.mem_cons.mp hp with rfl | hp
    · exact (hce q hq).symm
    · exact C.2.2 p (.tail _ hp) q hq
theorem RS.iterDrop {I : Addr} {io : Obj} {h h' : Heap} (rs : RS P.prog w h₀ L env ((I, io) :: fx) vars objs h) (hfx : ∀ p ∈ fx, p.1 ≠ I) (hio : ∃ fs, io.data = .fields fs) (hk : ∀ b x, b ≠ I → h.get? b = some x → h'.get? b = some x) :
    RS P.prog w h₀ L env fx vars objs h' := by
  refine hideG fun Xg hXg => ?_
  obtain ⟨hn, m, ce, ⟨F, all, N, a1, a2, a3, a4, a5⟩, V, C⟩ := rs
  have hin : (I, io) ∈ all := a2 _ (.head _)
  have hI := N _ hin
  obtain ⟨pre, post, rfl, n1, n2⟩ := split_at a1 hin
  refine hXg ?_
  have F' : Fr h₀ L h' m := ⟨F.ns.at' fun o e => hk _ o (Ne.symm hI.2.1) e, fun b o e => hk b o (fun q => by rw [q, hI.2.2] at e; cases e) (F.keep b o e), F.above⟩
  have keep : ∀ b x, b ≠ I → (b, x) ∈ pre ++ (I, io) :: post → (b, x) ∈ pre ++ post := fun b x hb hm => by
    rcases List.mem_append.mp hm with q | q
    · exact List.mem_append_left _ q
    · rcases List.mem_cons.mp q with e | q
      · exact absurd (Prod.mk.inj e).1 hb
      · exact List.mem_append_right _ q
  have N' : News h₀ L h' (pre ++ post) := fun p hp => by
    rcases List.mem_append.mp hp with q | q
    · have := N p (List.mem_append_left _ q); exact ⟨hk _ _ (n1 p q) this.1, this.2⟩
    · have := N p (List.mem_append_right _ (.tail _ q)); exact ⟨hk _ _ (n2 p q) this.1, this.2⟩
  have hce : ∀ q ∈ ce, q.1 ≠ I := fun q hq => (C.2.2 _ (.head _) q hq).symm
  have hsub : ∀ p ∈ fx ++ ce, p ∈ (I, io) :: fx ++ ce ∧ p.1 ≠ I := fun p hp => by
    rcases List.mem_append.mp hp with q | q
    · exact ⟨List.mem_append_left _ (.tail _ q), hfx p q⟩
    · exact ⟨List.mem_append_right _ q, hce p q⟩
  refine ⟨hn, m, ce, ⟨F', _, N', ?_, fun p hp => keep _ _ (hsub p hp).2 (a2 p (hsub p hp).1), fun p hp => ?_, a4, fun p hp q hq => a5 p hp q (hsub q hq).1⟩, fun p hp => ?_, C.1, C.2.1, fun p hp q hq => C.2.2 p (.tail _ hp) q hq⟩
  · refine a1.sublist ?_
    rw [List.map_append, List.map_append, List.map_cons]
    exact List.Sublist.append (List.Sublist.refl _) (List.sublist_cons_self _ _)
  · refine hideG fun Xg hXg => ?_
    obtain ⟨o, h1, h2⟩ := a3 p hp
    refine hXg ?_
    refine ⟨o, keep _ _ (a5 p hp _ (List.mem_append_left _ (.head _))) h1, h2.more fun b l n hb => ?_⟩
    by_cases hbI : b = I
    · exfalso
      subst hbI
      obtain ⟨fs, hf⟩ := hio
      have := nodup_key a1 (List.mem_append_right _ (.head _)) hb
      rw [this] at hf; cases hf
    · exact keep _ _ hbI hb
  · have back : ∀ q ∈ (I, io) :: fx ++ ce, q ≠ (I, io) → q ∈ fx ++ ce := fun q hq hne => by
      rcases List.mem_append.mp hq with z | z
      · rcases List.mem_cons.mp z with e | z
        · exact absurd e hne
        · exact List.mem_append_left _ z
      · exact List.mem_append_right _ z
    obtain ⟨fs, hf⟩ := hio
    obtain ⟨u, ru, q | q | q⟩ := V p hp
    · exact ⟨u, ru, .inl q⟩
    · refine hideG fun Xg hXg => ?_
      obtain ⟨q1, o, m₂, q2, q3, q4⟩ := q
      refine hXg ?_
      refine ⟨u, ru, .inr (.inl ⟨q1, o, m₂, back _ q2 (fun e => ?_), q3, q4⟩)⟩
      refine hideG fun Xg hXg => ?_
      obtain ⟨es, ep, q3', -⟩ := q3
      refine hXg ?_
      rw [(Prod.mk.inj e).2, hf] at q3'; cases q3'
    · refine hideG fun Xg hXg => ?_
      obtain ⟨q0, c', o2, q1, q2, q3⟩ := q
      refine hXg ?_
      refine ⟨u, ru, .inr (.inr ⟨q0, c', o2, q1, back _ q2 (fun e => ?_), q3⟩)⟩
      rw [(Prod.mk.inj e).2, hf] at q3; cases q3
theorem RS.iterNew {io : Obj} {h : Heap} (rs : RS P.prog w h₀ L env fx vars objs h) (hfree : io.isFreed = false) : RS P.prog w h₀ L env ((h.objs.size, io) :: fx) vars objs (h.push io) ∧ (∀ p ∈ fx, p.1 ≠ h.objs.size) := by
  refine hideG fun Xg hXg => ?_
  obtain ⟨hn, m, ce, ⟨F, all, N, H⟩, V, C⟩ := rs
  refine hXg ?_
  have lt : ∀ p ∈ all, p.1 < h.objs.size := fun p hp => Heap.lt_size (N p hp).1
  have hfx : ∀ p ∈ fx, p.1 ≠ h.objs.size := fun p hp => Nat.ne_of_lt (lt p (H.2 p (List.mem_append_left _ hp)))
  refine ⟨⟨hn, m, ce, ⟨F.push _, _, N.push F io hfree, ?_⟩, fun p hp => ?_, C.1, C.2.1, fun p hp q hq => ?_⟩, hfx⟩
  · refine hideG fun Xg hXg => ?_
    obtain ⟨a1, a2, a3, a4, a5⟩ := H.junk (o := io) lt
    refine hXg ?_
    refine ⟨a1, fun p hp => ?_, a3, a4, fun p hp q hq => ?_⟩
    · rcases List.mem_append.mp hp with q | q
      · rcases List.mem_cons.mp q with rfl | q
        · exact .head _
        · exact a2 p (List.mem_append_left _ q)
      · exact a2 p (List.mem_append_right _ q)
    · rcases List.mem_append.mp hq with z | z
      · rcases List.mem_cons.mp z with rfl | z
        · refine hideG fun Xg hXg => ?_
          obtain ⟨o, h1, _⟩ := H.3 p hp
          refine hXg ?_
          exact Nat.ne_of_lt (lt _ h1)
        · exact a5 p hp q (List.mem_append_left _ z)
      · exact a5 p hp q (List.mem_append_right _ z)
  · have up : ∀ q ∈ fx ++ ce, q ∈ (h.objs.size, io) :: fx ++ ce := fun q hq => by
      rw [List.cons_append]; exact .tail _ hq
    obtain ⟨u, ru, q | q | q⟩ := V p hp
    · exact ⟨u, ru, .inl q⟩
    · refine hideG fun Xg hXg => ?_
      obtain ⟨q1, o, m₂, q2, q3, q4⟩ := q
      refine hXg ?_
      exact ⟨u, ru, .inr (.inl ⟨q1, o, m₂, up _ q2, q3, q4⟩)⟩
    · refine hideG fun Xg hXg => ?_
      obtain ⟨q0, c', o2, q1, q2, q3⟩ := q
      refine hXg ?_
      exact ⟨u, ru, .inr (.inr ⟨q0, c', o2, q1, up _ q2, q3⟩)⟩
  · rcases List.mem_cons.mp hp with rfl | hp
    · exact (Nat.ne_of_lt (lt q (H.2 q (List.mem_append_right _ hq)))).symm
    · exact C.2.2 p hp q hq
theorem RS.look {ao : AO} {h : Heap} (rs : RS P.prog w h₀ L env fx vars objs h) (hm : (D, ao) ∈ objs) : ∃ all o, News h₀ L h all ∧ (D, o) ∈ all ∧ OR P.prog w all D ao o ∧ (∀ p ∈ fx, p ∈ all) := by
  refine hideG fun Xg hXg => ?_
  obtain ⟨hn, m, ce, ⟨F, all, N, H⟩, V, C⟩ := rs
  obtain ⟨o, h1, h2⟩ := H.3 _ hm
  refine hXg ?_
  exact ⟨all, o, N, h1, h2, fun p hp => H.2 p (List.mem_append_left _ hp)⟩
theorem RS.nodup {h : Heap} (rs : RS P.prog w h₀ L env fx vars objs h) : (objs.map (·.1)).Nodup := by
  obtain ⟨hn, m, ce, ⟨F, all, N, H⟩, V, C⟩ := rs
  exact H.4
theorem objs_key {os : Objs} (hn : (os.map (·.1)).Nodup) {a : Addr} {o o' : AO} (h : (a, o) ∈ os) (h' : (a, o') ∈ os) : o = o' := by
  induction os with
  | nil => cases h
  | cons p r ih =>
    rw [List.map_cons, List.nodup_cons] at hn
    rcases List.mem_cons.mp h with rfl | h1
    · rcases List.mem_cons.mp h' with e | h2
      · exact (Prod.mk.inj e).2.symm
      · exact absurd (List.mem_map_of_mem (f := (·.1)) h2) hn.1
    · rcases List.mem_cons.mp h' with e | h2
      · exact absurd (e ▸ List.mem_map_of_mem (f := (·.1)) h1) hn.1
      · exact ih hn.2 h1 h2
/-- the loop itself, for any iterator of ints -/
theorem for_run {x : Str} {px : Pos} {body : List Stmt} {I : Addr} {s : Shared} {R : Result → Shared → Prop} (It : Nat → Obj → Prop) (item : Nat → Objs → Option Int → Prop) (Inv : Nat → Vars → Objs → Prop) (M : Nat)
    (hio : ∀ i io, It i io → ∃ fs, io.data = .fields fs) (hM : ∀ i v o, Inv i v o → i ≤ M)
    (nxt : ∀ i io (s : Shared) vs os (Q : Option Value → Shared → Prop) (E : Value → Shared → Prop), It i io → Inv i vs os → RS P.prog w h₀ L env ((I, io) :: fx) vs os s.heap →
      (∀ k t h' tk io', item i os (some k) → h'.get? I = some io' → It (i + 1) io' → (∀ b x, b ≠ I → s.heap.get? b = some x → h'.get? b = some x) → Q (some (.int k t)) { s with heap := h', toks := tk }) →
      (∀ h' tk, item i os none → (∀ b x, b ≠ I → s.heap.get? b = some x → h'.get? b = some x) → Q none { s with heap := h', toks := tk }) → wpAny (model P.prog w) A (pyNext (.ref I)) Q E s)
    (turn : ∀ i vs os, Inv i vs os → (os.map (·.1)).Nodup → (∀ k, item i os (some k) → ∃ vs', SetV x (.int k) vs vs' ∧ SS P w sc b body vs' os (loopK (dropK (Inv (i + 1))) K)) ∧ (item i os none → K .next vs os))
    (fxx : Fx P w A h₀ L b) (eo : EnvOK sc L env) (hL : env.locals = L) (hx : sc.names.lookup x = some .local ∨ sc.names.lookup x = some .cell) (hfx : ∀ p ∈ fx, p.1 ≠ I) {io : Obj} (h0 : It 0 io) (hi : Inv 0 vars objs) (rs : RS P.prog w h₀ L env ((I, io) :: fx) vars objs s.heap)
    (k : ∀ f vars' objs' f' s', K f vars' objs' → RF f f' → RS P.prog w h₀ L env fx vars' objs' s'.heap → Same s s' → R (.ok f') s') : codeAny (model P.prog w) A (.forLoop (.Name x px) (.ref I) body [] env) R s := by
  refine codeAny_forLoop (fun n s' => ∃ i io vs os, It i io ∧ Inv i vs os ∧ RS P.prog w h₀ L env ((I, io) :: fx) vs os s'.heap ∧ Same s s' ∧ n = M + 1 - i) ?_ (M + 1) ⟨0, io, vars, objs, h0, hi, rs, Same.rfl, rfl⟩
  rintro n s1 hz9
  refine hideG fun Xg hXg => ?_
  obtain ⟨i, io, vs, os, hIt, hI, rs1, q1, rfl⟩ := hz9
  refine hXg ?_
  refine nxt i io s1 vs os _ _ hIt hI rs1 (fun kk t h' tk io' he ho hIt' hk => ?_) (fun h' tk he hk => ?_)
  · have rs2 := RS.iterSet rs1 hfx (hio _ _ hIt) hk ho
    refine hideG fun Xg hXg => ?_
    obtain ⟨vs', hsv, hb⟩ := (turn i vs os hI rs1.nodup).1 kk he
    refine hXg ?_
    refine wpAny_assign_Name (RS.store (s := { s1 with heap := h', toks := tk }) eo hL rs2 hsv ⟨t, rfl⟩ hx fun s3 rs3 q3 => ?_)
    refine hb A h₀ L ((I, io') :: fx) env s3 _ _ fxx eo hL rs3 fun f v o f' s4 h4 rf rs4 q4 => ?_
    have q : Same s s4 := (q1.trans ⟨q3.1, q3.2, q3.3⟩).trans q4
    have drop := fun f'' (hK : K f'' v o) (rf' : RF f'' f') => rs4
    cases f with
    | next => rw [show f' = .next from rf]; obtain ⟨v₁, o₁, h4, z1, z2⟩ := h4; exact ⟨M + 1 - (i + 1), by have := hM _ _ _ hI; (first | lia | omega), i + 1, io', v₁, o₁, hIt', h4, rs4.less z1 z2, q, rfl⟩
    | cont => rw [show f' = .cont from rf]; obtain ⟨v₁, o₁, h4, z1, z2⟩ := h4; exact ⟨M + 1 - (i + 1), by have := hM _ _ _ hI; (first | lia | omega), i + 1, io', v₁, o₁, hIt', h4, rs4.less z1 z2, q, rfl⟩
    | brk => rw [show f' = .brk from rf]; exact k .next v o .next s4 h4 rfl (rs4.iterDrop hfx (hio _ _ hIt') fun _ _ _ e => e) q
    | ret r => obtain ⟨u, rfl, ru⟩ := rf; exact k (.ret r) v o _ s4 h4 ⟨u, rfl, ru⟩ (rs4.iterDrop hfx (hio _ _ hIt') fun _ _ _ e => e) q
  · exact wpAny_execs_nil (k .next vs os .next _ ((turn i vs os hI rs1.nodup).2 he) rfl (rs1.iterDrop hfx (hio _ _ hIt) hk) ⟨q1.1, q1.2, q1.3⟩)
theorem S_for_list {x : Str} {px pos : Pos} {iter : Expr} {body : List Stmt} (h : WE P w sc b iter vars objs fun v o => ∃ (l : Addr) (M : Nat) (Inv : Nat → Vars → Objs → Prop), v = .ref l ∧ Inv 0 vars o ∧
      ∀ i vs os, Inv i vs os → i ≤ M ∧ ∃ ns, (l, .ints ns) ∈ os ∧ (∀ k, ns[i]? = some k → ∃ vs', SetV x (.int k) vs vs' ∧ SS P w sc b body vs' os (loopK (dropK (Inv (i + 1))) K)) ∧ (ns[i]? = none → K .next vs os))
    (hx : sc.names.lookup x = some .local ∨ sc.names.lookup x = some .cell) (hs : ∀ env x, foldedSetIterable iter env x = pure x) : S1 P w sc b (.For (.Name x px) iter body [] pos) vars objs K := by
  intro A h₀ L fx env s Q E fxx eo hL rs k
  refine wpAny_For (RS.run h fxx eo rs fun v o v' s1 h1 rv rs1 q1 => ?_) (hs env)
  refine hideG fun Xg hXg => ?_
  obtain ⟨l, M, Inv, rfl, hI, turn⟩ := h1
  refine hXg ?_
  rw [show v' = .ref l from rv]
  refine hideG fun Xg hXg => ?_
  obtain ⟨ns, hm, -⟩ := (turn 0 _ _ hI).2
  obtain ⟨all, ob, N, hin, ⟨vs, n, rfl, hi⟩, -⟩ := rs1.look hm
  refine hXg ?_
  have hl : s1.heap.IsList l (List.toArray vs) := ⟨_, (N _ hin).1, rfl, n, rfl⟩
  refine wpAny_pyIter_list hl ?_
  obtain ⟨rs2, hfx⟩ := rs1.iterNew (io := { cls := .type "list_iterator", data := .fields #[.ref l, .int 0 0] }) rfl
  refine for_run (fun i io => io.cls = .type "list_iterator" ∧ io.data = .fields #[.ref l, .int i 0]) (fun i os r => ∃ ns, (l, AO.ints ns) ∈ os ∧ ns[i]? = r) Inv M ?_ ?_ ?_ ?_ fxx eo hL hx hfx ⟨rfl, rfl⟩ hI rs2 fun f vs' os' f' s' a1 a2 a3 a4 => k f vs' os' f' s' a1 a2 a3 (q1.trans a4)
  · rintro i io ⟨_, hd⟩; exact ⟨_, hd⟩
  · exact fun i v o hI => (turn i v o hI).1
  · rintro i io s2 vs os Q2 E2 ⟨hc, hd⟩ hI rs2 k1 k2
    refine hideG fun Xg hXg => ?_
    obtain ⟨ns, hm, -⟩ := (turn i vs os hI).2
    obtain ⟨all, ob, N, hin, ⟨vs, n, rfl, hi⟩, hfx2⟩ := rs2.look hm
    refine hXg ?_
    have hl : s2.heap.IsList l (List.toArray vs) := ⟨_, (N _ hin).1, rfl, n, rfl⟩
    have hit : s2.heap.IsListIter s1.heap.objs.size l i := ⟨io, (N _ (hfx2 _ (.head _))).1, hc, hd⟩
    have hlen := hi.length
    by_cases hlt : i < vs.length
    · refine hideG fun Xg hXg => ?_
      obtain ⟨kk, t, hkk, e⟩ := ints_some hi (List.getElem?_eq_getElem hlt)
      refine hXg ?_
      refine wpAny_pyNext_list_item hit hl (x := .int kk t) (by rw [← e]; simp [hlt]) fun h' hit' hsb => ?_
      refine hideG fun Xg hXg => ?_
      obtain ⟨io', ho', hc', hd'⟩ := hit'
      refine hXg ?_
      exact k1 kk t h' s2.toks io' ⟨ns, hm, hkk⟩ ho' ⟨hc', hd'⟩ fun b x hb e => hsb.extBut b x hb e
    · refine wpAny_pyNext_list_end fxx.hh hit hl (by simp; (first | lia | omega)) fun h' hk => k2 h' s2.toks ⟨ns, hm, List.getElem?_eq_none (by (first | lia | omega))⟩ fun b x hb e => hk b x hb e
  · intro i vs os hI hn
    refine hideG fun Xg hXg => ?_
    obtain ⟨hM, ns, hm, t1, t2⟩ := turn i vs os hI
    refine hXg ?_
    refine ⟨fun kk => ?_, ?_⟩
    · rintro hz9
      refine hideG fun Xg hXg => ?_
      obtain ⟨ns', hm', e⟩ := hz9
      refine hXg ?_
      cases objs_key hn hm hm'
      exact t1 kk e
    · rintro hz9
      refine hideG fun Xg hXg => ?_
      obtain ⟨ns', hm', e⟩ := hz9
      refine hXg ?_
      cases objs_key hn hm hm'
      exact t2 e
theorem S_for_rng {x : Str} {px pos : Pos} {iter : Expr} {body : List Stmt} (h : WE P w sc b iter vars objs fun v o => ∃ (r : Addr) (a z c : Int) (n : Nat) (Inv : Nat → Vars → Objs → Prop), v = .ref r ∧ (r, .rng a z c) ∈ o ∧ Builtin.Range.small a z c = true ∧ Builtin.Range.rangeSize a z c = (n : Int) ∧ Inv 0 vars o ∧
      ∀ i vs os, Inv i vs os → i ≤ n ∧ (i < n → ∃ vs', SetV x (.int (a + i * c)) vs vs' ∧ SS P w sc b body vs' os (loopK (dropK (Inv (i + 1))) K)) ∧ (i = n → K .next vs os))
    (hx : sc.names.lookup x = some .local ∨ sc.names.lookup x = some .cell) (hs : ∀ env x, foldedSetIterable iter env x = pure x) : S1 P w sc b (.For (.Name x px) iter body [] pos) vars objs K := by
  intro A h₀ L fx env s Q E fxx eo hL rs k
  refine wpAny_For (RS.run h fxx eo rs fun v o v' s1 h1 rv rs1 q1 => ?_) (hs env)
  refine hideG fun Xg hXg => ?_
  obtain ⟨r, a, z, c, n, Inv, rfl, hm, hsm, hsz, hI, turn⟩ := h1
  refine hXg ?_
  rw [show v' = .ref r from rv]
  refine hideG fun Xg hXg => ?_
  obtain ⟨all, ob, N, hin, ⟨t, u, v, rfl⟩, -⟩ := rs1.look hm
  refine hXg ?_
  refine wpAny_pyIter_range (N _ hin).1 hsm ?_
  obtain ⟨rs2, hfx⟩ := rs1.iterNew (io := { cls := .type "range_iterator", data := .fields #[rawInt a, rawInt (Builtin.Range.rangeSize a z c), rawInt c] }) rfl
  have W := Walks.range (prog := P.prog) (w := w) (A := A) fxx.hh s1.heap.objs.size a c n
  refine for_run (fun i io => io = { cls := .type "range_iterator", dict := none, data := .fields #[rawInt (a + (i : Nat) * c), rawInt ((n : Int) - (i : Nat)), rawInt c], slots := #[] }) (fun i os r => r = if i < n then some (a + i * c) else none) Inv n ?_ ?_ ?_ ?_ fxx eo hL hx hfx ?_ hI rs2 fun f vs' os' f' s' a1 a2 a3 a4 => k f vs' os' f' s' a1 a2 a3 (q1.trans a4)
  · rintro i io rfl; exact ⟨_, rfl⟩
  · exact fun i v o hI => (turn i v o hI).1
  · rintro i io s2 vs os Q2 E2 rfl hI rs2 k1 k2
    refine hideG fun Xg hXg => ?_
    obtain ⟨hn, m, ce, ⟨F, all, N, H⟩, V, C⟩ := rs2
    refine hXg ?_
    have hit := (N _ (H.2 _ (.head _))).1
    have hle := (turn i vs os hI).1
    by_cases hlt : i < n
    · refine W.item i s2 _ _ hlt hit fun v h' tk hv hst hk => ?_
      obtain ⟨t, rfl⟩ := hv
      exact k1 _ t h' tk _ (by rw [if_pos hlt]) hst rfl fun b x hb e => hk b x (by simpa using hb) e
    · have : i = n := by (first | lia | omega)
      subst this
      exact W.done s2 _ _ hit fun h' tk hk => k2 h' tk (by rw [if_neg hlt]) fun b x hb e => hk b x (by simpa using hb) e
  · intro i vs os hI hn
    refine hideG fun Xg hXg => ?_
    obtain ⟨hM, t1, t2⟩ := turn i vs os hI
    refine hXg ?_
    refine ⟨fun kk e => ?_, fun e => ?_⟩
    · by_cases hlt : i < n
      · rw [if_pos hlt] at e; cases e; exact t1 hlt
      · rw [if_neg hlt] at e; cases e
    · by_cases hlt : i < n
      · rw [if_pos hlt] at e; cases e
      · exact t2 (by (first | lia | omega))
  · rw [hsz]; simp
end
end Mine
end
section
open PySem PySem.W PySem.Spec PySem.Calls PyProof.Rows PyProof.Rows.LCg
namespace Mine

theorem cellsFrom_mem : ∀ (names : List (Str × NameKind)) (n : Nat) (acc : List (Str × Addr)) (x : Str) (c : Addr), (x, c) ∈ cellsFrom n names acc → (x, c) ∈ acc ∨ n ≤ c
  | [], n, acc, x, c, h => .inl h
  | (y, k) :: r, n, acc, x, c, h => by
    unfold cellsFrom at h
    split at h
    · rcases cellsFrom_mem r _ _ x c h with q | q
      · rcases List.mem_cons.mp q with e | q
        · exact .inr (Nat.le_of_eq (Prod.mk.inj e).2.symm)
        · exact .inl q
      · exact .inr (by (first | lia | omega))
    · exact cellsFrom_mem r _ _ x c h
theorem cellsFrom_apart : ∀ (names : List (Str × NameKind)) (n : Nat) (acc : List (Str × Addr)), (∀ p ∈ acc, p.2 < n) → (acc.map (·.2)).Nodup → ((cellsFrom n names acc).map (·.2)).Nodup
  | [], n, acc, h1, h2 => h2
  | (y, k) :: r, n, acc, h1, h2 => by
    unfold cellsFrom
    split
    · refine cellsFrom_apart r _ _ (fun p hp => ?_) ?_
      · rcases List.mem_cons.mp hp with rfl | hp
        · exact Nat.lt_succ_self _
        · exact Nat.lt_succ_of_lt (h1 p hp)
      · rw [List.map_cons, List.nodup_cons]
        refine ⟨fun hm => ?_, h2⟩
        obtain ⟨p, hp, e⟩ := List.mem_map.mp hm
        have := h1 p hp
        rw [e] at this
        exact Nat.lt_irrefl _ this
    · exact cellsFrom_apart r _ _ h1 h2
theorem cellsFrom_acc : ∀ (names : List (Str × NameKind)) (n : Nat) (acc : List (Str × Addr)) (p : Str × Addr), p ∈ acc → p ∈ cellsFrom n names acc
  | [], _, _, _, h => h
  | (y, k) :: r, n, acc, p, h => by
    unfold cellsFrom
    split
    · exact cellsFrom_acc r _ _ p (.tail _ h)
    · exact cellsFrom_acc r _ _ p h
theorem cellsFrom_has : ∀ (names : List (Str × NameKind)) (n : Nat) (acc : List (Str × Addr)) (x : Str), names.lookup x = some .cell → ∃ c, (x, c) ∈ cellsFrom n names acc
  | [], _, _, _, h => by simp at h
  | (y, k) :: r, n, acc, x, h => by
    rw [List.lookup_cons] at h
    unfold cellsFrom
    cases hc : x == y with
    | true =>
      rw [hc] at h; cases h
      rw [if_pos (by decide)]
      exact ⟨n, cellsFrom_acc r _ _ _ (by rw [beq_iff_eq.mp hc]; exact .head _)⟩
    | false =>
      rw [hc] at h
      split
      · exact cellsFrom_has r _ _ x h
      · exact cellsFrom_has r _ _ x h
theorem lookup_of_key {α : Type} : ∀ {l : List (Str × α)} {x : Str} {c : α}, (x, c) ∈ l → ∃ d, l.lookup x = some d
  | (y, d) :: r, x, c, h => by
    rw [List.lookup_cons]
    cases hc : x == y with
    | true => exact ⟨d, rfl⟩
    | false =>
      rcases List.mem_cons.mp h with e | h
      · rw [(Prod.mk.inj e).1] at hc; simp at hc
      · exact lookup_of_key h
theorem mem_of_lookup' {α : Type} : ∀ {l : List (Str × α)} {x : Str} {c : α}, l.lookup x = some c → (x, c) ∈ l
  | (y, d) :: r, x, c, h => by
    rw [List.lookup_cons] at h
    cases hc : x == y with
    | true => rw [hc] at h; cases h; rw [beq_iff_eq.mp hc]; exact .head _
    | false => rw [hc] at h; exact .tail _ (mem_of_lookup' h)
theorem snd_inj {l : List (Str × Addr)} (hn : (l.map (·.2)).Nodup) {x y : Str} {c : Addr} (h : (x, c) ∈ l) (h' : (y, c) ∈ l) : x = y := by
  induction l with
  | nil => cases h
  | cons p r ih =>
    rw [List.map_cons, List.nodup_cons] at hn
    rcases List.mem_cons.mp h with rfl | h1
    · rcases List.mem_cons.mp h' with e | h2
      · exact (Prod.mk.inj e).1.symm
      · exact absurd (List.mem_map_of_mem (f := (·.2)) h2) hn.1
    · rcases List.mem_cons.mp h' with e | h2
      · exact absurd (e ▸ List.mem_map_of_mem (f := (·.2)) h1) hn.1
      · exact ih hn.2 h1 h2
theorem cellsAre_fst {cm : Str → Option Value} {cs : List (Str × Addr)} {cells : List (Addr × Obj)} (h : CellsAre cm cs cells) : cells.map (·.1) = cs.map (·.2) ∧ ∀ x c, (x, c) ∈ cs → ∃ o, (c, o) ∈ cells ∧ o.data = .cell (cm x) := by
  induction h with
  | nil => exact ⟨rfl, fun _ _ h => nomatch h⟩
  | cons h1 h2 ih =>
    refine ⟨by rw [List.map_cons, List.map_cons, ih.1], fun x c hm => ?_⟩
    rcases List.mem_cons.mp hm with e | hm
    · cases e; exact ⟨_, .head _, h1⟩
    · obtain ⟨o, a, b⟩ := ih.2 x c hm
      exact ⟨o, .tail _ a, b⟩
theorem bindL_not {kindOf : Str → Option NameKind} : ∀ {binds : List (Str × Value)} {m : Str → Option Value} {x : Str}, x ∉ binds.map (·.1) → bindL kindOf binds m x = m x
  | [], _, _, _ => rfl
  | (n, u) :: r, m, x, h => by
    rw [List.map_cons, List.mem_cons, not_or] at h
    unfold bindL
    rw [bindL_not h.2]
    split
    · show (if x = n then some u else m x) = m x
      rw [if_neg h.1]
    · rfl
theorem bindL_mem {kindOf : Str → Option NameKind} : ∀ {binds : List (Str × Value)} {m : Str → Option Value} {x : Str} {v : Value}, (binds.map (·.1)).Nodup → (x, v) ∈ binds → kindOf x = some .local → bindL kindOf binds m x = some v
  | (n, u) :: r, m, x, v, hn, h, hk => by
    rw [List.map_cons, List.nodup_cons] at hn
    unfold bindL
    rcases List.mem_cons.mp h with e | h
    · obtain ⟨rfl, rfl⟩ := Prod.mk.inj e
      rw [bindL_not hn.1, if_pos hk]
      simp
    · exact bindL_mem hn.2 h hk
theorem bindC_not {kindOf : Str → Option NameKind} : ∀ {binds : List (Str × Value)} {m : Str → Option Value} {x : Str}, x ∉ binds.map (·.1) → bindC kindOf binds m x = m x
  | [], _, _, _ => rfl
  | (n, u) :: r, m, x, h => by
    rw [List.map_cons, List.mem_cons, not_or] at h
    unfold bindC
    rw [bindC_not h.2]
    split
    · rfl
    · show (if x = n then some u else m x) = m x
      rw [if_neg h.1]
theorem bindC_mem {kindOf : Str → Option NameKind} : ∀ {binds : List (Str × Value)} {m : Str → Option Value} {x : Str} {v : Value}, (binds.map (·.1)).Nodup → (x, v) ∈ binds → kindOf x = some .cell → bindC kindOf binds m x = some v
  | (n, u) :: r, m, x, v, hn, h, hk => by
    rw [List.map_cons, List.nodup_cons] at hn
    unfold bindC
    rcases List.mem_cons.mp h with e | h
    · obtain ⟨rfl, rfl⟩ := Prod.mk.inj e
      rw [bindC_not hn.1, if_neg (by rw [hk]; decide)]
      simp
    · exact bindC_mem hn.2 h hk
theorem zip_fst {α β : Type} : ∀ {l : List α} {r : List β}, l.length = r.length → (l.zip r).map (·.1) = l
  | [], _, _ => rfl
  | a :: l, b :: r, h => by rw [List.zip_cons_cons, List.map_cons, zip_fst (by simpa using h)]
theorem zip_rel {names : List Str} {args : List AV} {vs : List Value} (h : F2 RV args vs) : ∀ p ∈ names.zip args, ∃ v', (p.1, v') ∈ names.zip vs ∧ RV p.2 v' := by
  induction h generalizing names with
  | nil => intro p hp; cases names <;> cases hp
  | cons a b ih =>
    intro p hp
    cases names with
    | nil => cases hp
    | cons n names =>
      rw [List.zip_cons_cons] at hp ⊢
      rcases List.mem_cons.mp hp with rfl | hp
      · exact ⟨_, .head _, a⟩
      · obtain ⟨v', h1, h2⟩ := ih p hp
        exact ⟨v', .tail _ h1, h2⟩

noncomputable def retOf : AF → AV
  | .ret v => v
  | _ => .val .none
theorem ret_rel {f : AF} {fl : Flow} (rf : RF f fl) : RV (retOf f) (match (generalizing := false) fl with | .ret v => v | _ => .none) := by
  cases f with
  | next => cases fl <;> first | rfl | cases rf
  | brk => cases fl <;> first | rfl | cases rf
  | cont => cases fl <;> first | rfl | cases rf
  | ret v => obtain ⟨u, rfl, ru⟩ := rf; exact ru
section
variable {P : Pg} {w : World} {b : Nat} {objs : Objs}
/-- a call run as code -/
noncomputable def CodeS (P : Pg) (w : World) (b : Nat) (f : Value) (args : List AV) (objs : Objs) (K : AV → Objs → Prop) : Prop :=
  ∀ (A : Around) (h₀ : Heap) (L : Addr) (m : Str → Option Value) (ex : List (Addr × Obj)) (s : Shared) (vs : List Value) (R : Result → Shared → Prop), Fx P w A h₀ L b → HR P.prog w h₀ L m ex objs s.heap → F2 RV args vs →
    (∀ v o v' s', K v o → RV v v' → HR P.prog w h₀ L m ex o s'.heap → Same s s' → R (.ok (.ret v')) s') → codeAny (model P.prog w) A (.call f ⟨vs, []⟩) R s
theorem CallS_code {f : Value} {args : List AV} {K : AV → Objs → Prop} (h : CodeS P w b f args objs K) : CallS P w b f args objs K := by
  intro vs hv A h₀ L m ex s Q E fx hr k
  exact wpAny_call (h A h₀ L m ex s vs _ fx hr hv fun v o v' s' a1 a2 a3 a4 => k v o v' s' a1 a2 a3 a4)
theorem CodeS_def {name qual : Str} {params : Arguments} {body : List Stmt} {scope : Scope} {dV kV doc pm cdv ct oc : Value} {an od : Option Addr} {osl : Array (Option Value)} {f : Addr} {names : List Str} {args vargs : List AV} {K : AV → Objs → Prop}
    (ho : (P.K w.params).lookup f = some ⟨oc, od, .func (fnOf name qual params body scope dV kV doc pm an cdv ct), osl⟩) (hcd : codeIn (P.K w.params) cdv qual = true)
    (hbind : ∀ (s : Shared) vs, (P.K w.params).In s.heap → F2 RV args vs → ∃ ws, F2 RV vargs ws ∧ BindsTo s (fnOf name qual params body scope dV kV doc pm an cdv ct) ⟨vs, []⟩ (names.zip ws)) (hn : names.length = vargs.length) (hnn : names.Nodup)
    (hkind : (names.all fun y => scope.names.lookup y == some .local || scope.names.lookup y == some .cell) = true) (hnd : ((cellsFrom 0 scope.names []).map (·.1)).Nodup)
    (hfree : (scope.names.all fun y => !(y.2 == .free)) = true)
    (hco : scope.isCoroutine = false) (hgen : scope.isGenerator = false) (hk : scope.kind = .function)
    (hb : SS P w scope b body (names.zip vargs) objs (fun f _ o => K (retOf f) o)) : CodeS P w (b + 1) (.ref f) args objs K := by
  intro A h₀ L m ex s vs R fx hr hv k
  refine hideG fun Xg hXg => ?_
  obtain ⟨A₀, base, outer, fenv, mean, mg, mb, B, T, hA, hf, hke⟩ := fx.has
  obtain ⟨F, all, N, H⟩ := hr
  obtain ⟨ws, hws, hbi⟩ := hbind s vs (fx.X.keeps F.keep) hv
  refine hXg ?_
  have hlen := hws.length
  have hbk : ((names.zip ws).all fun y => scope.names.lookup y.1 == some .local || scope.names.lookup y.1 == some .cell) = true := by
    rw [List.all_eq_true] at hkind ⊢
    intro p hp
    exact hkind _ (by have := List.mem_map_of_mem (f := (·.1)) hp; rwa [zip_fst (by (first | lia | omega))] at this)
  refine callFC (R := R) (C := all) (rest := []) (K := P.K w.params) B F fx.X (by simpa using N) (by simp) T hA hf hke ho hcd (by have := fx.hd; (first | lia | omega)) hbi hbk hnd ?_ hco hgen hk
  intro R' g L' h₁ tk cells hR' FG F' N' Y B' X' T' lC _
  have hcd' := cellsAre_fst Y
  have hge : ∀ p ∈ cells, L' < p.1 := fun p hp => by
    have h1 : p.1 ∈ cells.map (·.1) := List.mem_map_of_mem hp
    rw [hcd'.1] at h1
    refine hideG fun Xg hXg => ?_
    obtain ⟨q, hq, e⟩ := List.mem_map.mp h1
    refine hXg ?_
    rcases cellsFrom_mem _ _ _ q.1 q.2 hq with z | z
    · cases z
    · rw [← e]; exact z
  have hap := cellsFrom_apart scope.names (L' + 1) [] (fun _ h => nomatch h) List.nodup_nil
  have hcn : (cells.map (·.1)).Nodup := by rw [hcd'.1]; exact hap
  have hnf : ∀ x, scope.names.lookup x ≠ some .free := fun x e => by
    have := mem_of_lookup' e
    rw [List.all_eq_true] at hfree
    have := hfree _ this
    simp at this
  have fx' : Fx P w (A.deeper (envOfC qual scope L' f cdv)) g L' b := by
    refine ⟨⟨A, base, fenv :: outer, envOfC qual scope L' f cdv, mean, mg, mb, B', T', Around.frames_deeper hA, rfl, hk⟩, X', ?_, fx.hh, by have := fx.hd; show A.depth + 1 + b < _; (first | lia | omega), by have := fx.hu; show A.units + 3 + _ + _ < _; (first | lia | omega)⟩
    refine hideG fun Xg hXg => ?_
    obtain ⟨us, ⟨o, e1, e2⟩, hi⟩ := fx.scr
    refine hXg ?_
    exact ⟨us, ⟨o, FG.keep _ _ e1, e2⟩, hi⟩
  have eo : EnvOK scope L' (envOfC qual scope L' f cdv) := by
    refine ⟨rfl, hk, rfl, rfl, fun x hx => ?_⟩
    rcases hx with hx | hx
    · obtain ⟨c, hc⟩ := cellsFrom_has scope.names (L' + 1) [] x hx
      exact lookup_of_key hc
    · exact absurd hx (hnf x)
  have hHA : HA P.prog w (ex ++ cells) objs (cells ++ all) := by
    refine hideG fun Xg hXg => ?_
    obtain ⟨a1, a2, a3, a4, a5⟩ := H
    refine hXg ?_
    have hdis : ∀ p ∈ cells, ∀ q ∈ all, p.1 ≠ q.1 := fun p hp q hq => Nat.ne_of_gt (Nat.lt_trans (lC q hq) (hge p hp))
    refine ⟨?_, fun p hp => ?_, fun p hp => ?_, a4, fun p hp q hq => ?_⟩
    · rw [List.map_append, List.nodup_append]
      refine ⟨hcn, a1, fun x hx y hy => ?_⟩
      refine hideG fun Xg hXg => ?_
      obtain ⟨p, hp, rfl⟩ := List.mem_map.mp hx
      obtain ⟨q, hq, rfl⟩ := List.mem_map.mp hy
      refine hXg ?_
      exact hdis p hp q hq
    · rcases List.mem_append.mp hp with z | z
      · exact List.mem_append_right _ (a2 p z)
      · exact List.mem_append_left _ z
    · refine hideG fun Xg hXg => ?_
      obtain ⟨o, h1, h2⟩ := a3 p hp
      refine hXg ?_
      exact ⟨o, List.mem_append_right _ h1, h2.more fun b l n hb => List.mem_append_right _ hb⟩
    · rcases List.mem_append.mp hq with z | z
      · exact a5 p hp q z
      · refine hideG fun Xg hXg => ?_
        obtain ⟨o, h1, _⟩ := a3 p hp
        refine hXg ?_
        exact (hdis q z _ h1).symm
  have hrs : RS P.prog w g L' (envOfC qual scope L' f cdv) ex (names.zip vargs) objs h₁ := by
    refine ⟨by rw [zip_fst hn]; exact hnn, _, cells, ⟨F', _, N', hHA⟩, fun p hp => ?_, fun x hx => ?_, fun x y c h1 h2 => ?_, fun p hp q hq => ?_⟩
    · refine hideG fun Xg hXg => ?_
      obtain ⟨v', h1, h2⟩ := zip_rel hws p hp
      refine hXg ?_
      have hbn : ((names.zip ws).map (·.1)).Nodup := by rw [zip_fst (by (first | lia | omega))]; exact hnn
      rw [List.all_eq_true] at hbk
      have := hbk _ h1
      rw [Bool.or_eq_true, beq_iff_eq, beq_iff_eq] at this
      rcases this with hl | hl
      · exact ⟨v', h2, .inl ⟨hl, rfl, bindL_mem hbn h1 hl⟩⟩
      · refine hideG fun Xg hXg => ?_
        obtain ⟨c, hc⟩ := cellsFrom_has scope.names (L' + 1) [] p.1 hl
        obtain ⟨c', hc'⟩ := lookup_of_key hc
        obtain ⟨o, e1, e2⟩ := hcd'.2 _ _ (mem_of_lookup' hc')
        refine hXg ?_
        exact ⟨v', h2, .inr (.inr ⟨.inl hl, c', o, hc', List.mem_append_right _ e1, by rw [e2]; exact congrArg _ (bindC_mem hbn h1 hl)⟩)⟩
    · refine hideG fun Xg hXg => ?_
      obtain ⟨c, hc⟩ := cellsFrom_has scope.names (L' + 1) [] x hx
      obtain ⟨c', hc'⟩ := lookup_of_key hc
      obtain ⟨o, e1, e2⟩ := hcd'.2 _ _ (mem_of_lookup' hc')
      refine hXg ?_
      exact ⟨c', o, _, hc', e1, e2⟩
    · exact snd_inj hap (mem_of_lookup' h1) (mem_of_lookup' h2)
    · exact Nat.ne_of_lt (Nat.lt_trans (lC p (H.2 p hp)) (hge q hq))
  refine hb (A.deeper (envOfC qual scope L' f cdv)) g L' ex (envOfC qual scope L' f cdv) { s with heap := h₁, toks := tk } _ _ fx' eo rfl hrs fun f' vars' objs' fl s' hK rf rs' q' => ?_
  refine hideG fun Xg hXg => ?_
  obtain ⟨_, m'', ce', ⟨F'', all'', N'', H''⟩, _, _⟩ := rs'
  refine hXg ?_
  have hrv := ret_rel rf
  refine ⟨L', m'', all'', F'', N'', fun Fo No => hR' _ _ fun _ => ?_⟩
  refine k (retOf f') objs' _ s' hK hrv ⟨Fo, all'', No, H''.1, fun p hp => H''.2 p (List.mem_append_left _ hp), H''.3, H''.4, fun p hp q hq => H''.5 p hp q (List.mem_append_left _ hq)⟩ ⟨q'.1, q'.2, q'.3⟩
/-- an object made -/
theorem CallS_cls {C fI : Addr} {args : List AV} {K : AV → Objs → Prop} (hm : makesIn (P.K w.params) C = true) (hi : findIn (P.K w.params) (.ref C) "__init__" = some (some (.ref fI))) (hf : isFn (P.K w.params) (.ref fI) = true)
    (h : ∀ x dx, CodeS P w b (.ref fI) (.ref x :: args) ((x, .inst C dx) :: (dx, .idict []) :: objs) fun v o => v = .val .none ∧ K (.ref x) o) : CallS P w (b + 1) (.ref C) args objs K := by
  intro vs hv A h₀ L m ex s Q E fx hr k
  refine hideG fun Xg hXg => ?_
  obtain ⟨F, all, N, H⟩ := hr
  refine hXg ?_
  refine call_cls F fx.X N hm hi hf fun x dx h' F' N' lt lt2 => ?_
  have fx' : Fx P w (A.under (.builtin "type.__call__" ⟨.ref C :: vs, []⟩)) h₀ L b := by
    refine ⟨?_, fx.X, fx.scr, fx.hh, ?_, ?_⟩
    · refine hideG fun Xg hXg => ?_
      obtain ⟨A₀, base, outer, fenv, mean, mg, mb, B, T, hA, hf, hke⟩ := fx.has
      refine hXg ?_
      exact ⟨A₀, base, outer, fenv, mean, mg, mb, B, T, hA, hf, hke⟩
    · have := fx.hd
      show A.depth + 1 + b < _
      (first | lia | omega)
    · have := fx.hu
      show A.units + 1 + 100 * b + 100 < _
      (first | lia | omega)
  have hN2 : News h₀ L h' ((dx, dictOf [] 0) :: all) := fun p hp => N' p (.tail _ hp)
  have H1 := H.new (D := dx) (ao := .idict []) (o := dictOf [] 0) lt ⟨[], 0, rfl, .nil⟩
  have H2 := H1.new (D := x) (ao := .inst C dx) (o := instObj C dx) (fun p hp => by
    rcases List.mem_cons.mp hp with rfl | hp
    · exact lt2
    · exact Nat.lt_trans (lt p hp) lt2) rfl
  exact h x dx _ h₀ L m ex { s with heap := h' } (.ref x :: vs) _ fx' ⟨F', _, N', H2⟩ (.cons rfl hv) fun v o v' s' a1 a2 a3 a4 => ⟨by obtain ⟨rfl, _⟩ := a1; exact a2, k _ o _ s' a1.2 rfl a3 ⟨a4.1, a4.2, a4.3⟩⟩
end
end Mine
end
section
open PySem PySem.W PySem.Spec PySem.Calls PyProof.Rows PyProof.Rows.LCg
namespace Mine

section
variable {prog : Program} {w : World} {h₀ : Heap} {L : Addr} {m : Str → Option Value} {ex e1 e2 : List (Addr × Obj)} {objs objs' : Objs} {h h' : Heap} {c : Addr} {o o' : Obj}
theorem HR.setEx (H : HR prog w h₀ L m (e1 ++ (c, o) :: e2) objs h) (hne : ∀ p ∈ e1 ++ e2, p.1 ≠ c) (hnt : ∀ l n, o ≠ tupObj l n) (hk : ∀ b x, b ≠ c → h.get? b = some x → h'.get? b = some x) (ho : h'.get? c = some o') : HR prog w h₀ L m (e1 ++ (c, o') :: e2) objs h' := by
  refine hideG fun Xg hXg => ?_
  obtain ⟨F, all, N, H⟩ := H
  have hin : (c, o) ∈ all := H.2 _ (List.mem_append_right _ (.head _))
  have hI := N _ hin
  obtain ⟨pre, post, rfl, n1, n2⟩ := split_at H.1 hin
  refine hXg ?_
  have F' : Fr h₀ L h' m := ⟨F.ns.at' fun o e => hk _ o (Ne.symm hI.2.1) e, fun b o e => hk b o (fun q => by rw [q, hI.2.2] at e; cases e) (F.keep b o e), F.above⟩
  have N' : News h₀ L h' (pre ++ (c, o') :: post) := fun p hp => by
    rcases List.mem_append.mp hp with q | q
    · have := N p (List.mem_append_left _ q); exact ⟨hk _ _ (n1 p q) this.1, this.2⟩
    · rcases List.mem_cons.mp q with rfl | q
      · exact ⟨ho, hI.2⟩
      · have := N p (List.mem_append_right _ (.tail _ q)); exact ⟨hk _ _ (n2 p q) this.1, this.2⟩
  refine ⟨F', _, N', H.updEx (List.mem_append_right _ (.head _)) hnt fun p hp => ?_⟩
  rcases List.mem_append.mp hp with q | q
  · exact .inr ⟨List.mem_append_left _ q, hne p (List.mem_append_left _ q)⟩
  · rcases List.mem_cons.mp q with rfl | q
    · exact .inl rfl
    · exact .inr ⟨List.mem_append_right _ (.tail _ q), hne p (List.mem_append_right _ q)⟩
theorem HR.dropEx (H : HR prog w h₀ L m ((c, o) :: e2) objs h) (hne : ∀ p ∈ e2, p.1 ≠ c) (hnt : ∀ l n, o ≠ tupObj l n) (hk : ∀ b x, b ≠ c → h.get? b = some x → h'.get? b = some x) : HR prog w h₀ L m e2 objs h' := by
  obtain ⟨F, all, N, a1, a2, a3, a4, a5⟩ := H
  have hin : (c, o) ∈ all := a2 _ (.head _)
  have hI := N _ hin
  obtain ⟨pre, post, rfl, n1, n2⟩ := split_at a1 hin
  have F' : Fr h₀ L h' m := ⟨F.ns.at' fun o e => hk _ o (Ne.symm hI.2.1) e, fun b o e => hk b o (fun q => by rw [q, hI.2.2] at e; cases e) (F.keep b o e), F.above⟩
  have keep : ∀ b x, b ≠ c → (b, x) ∈ pre ++ (c, o) :: post → (b, x) ∈ pre ++ post := fun b x hb hm => by
    rcases List.mem_append.mp hm with q | q
    · exact List.mem_append_left _ q
    · rcases List.mem_cons.mp q with e | q
      · exact absurd (Prod.mk.inj e).1 hb
      · exact List.mem_append_right _ q
  have N' : News h₀ L h' (pre ++ post) := fun p hp => by
    rcases List.mem_append.mp hp with q | q
    · have := N p (List.mem_append_left _ q); exact ⟨hk _ _ (n1 p q) this.1, this.2⟩
    · have := N p (List.mem_append_right _ (.tail _ q)); exact ⟨hk _ _ (n2 p q) this.1, this.2⟩
  refine ⟨F', _, N', ?_, fun p hp => keep _ _ (hne p hp) (a2 p (.tail _ hp)), fun p hp => ?_, a4, fun p hp q hq => a5 p hp q (.tail _ hq)⟩
  · refine a1.sublist ?_
    rw [List.map_append, List.map_append, List.map_cons]
    exact List.Sublist.append (List.Sublist.refl _) (List.sublist_cons_self _ _)
  · obtain ⟨x, h1, h2⟩ := a3 p hp
    refine ⟨x, keep _ _ (a5 p hp _ (.head _)) h1, h2.more fun b l n hb => ?_⟩
    by_cases hbI : b = c
    · exfalso
      subst hbI
      exact hnt l n (nodup_key a1 (List.mem_append_right _ (.head _)) hb)
    · exact keep _ _ hbI hb
theorem HR.addEx (H : HR prog w h₀ L m ex objs h) (hk : ∀ b x, h.get? b = some x → h'.get? b = some x) (hlt : ∀ p : Addr × Obj, h.get? p.1 = some p.2 → p.1 < c) (ho : h'.get? c = some o) (hL : c ≠ L) (h0 : h₀.get? c = none) : HR prog w h₀ L m ((c, o) :: ex) objs h' ∧ ∀ p ∈ ex, p.1 < c := by
  obtain ⟨F, all, N, H⟩ := H
  have lt : ∀ p ∈ all, p.1 < c := fun p hp => hlt p (N p hp).1
  refine ⟨⟨F.kept hk, (c, o) :: all, fun p hp => ?_, ?_⟩, fun p hp => lt p (H.2 p hp)⟩
  · rcases List.mem_cons.mp hp with rfl | hp
    · exact ⟨ho, hL, h0⟩
    · exact ⟨hk _ _ (N p hp).1, (N p hp).2⟩
  · obtain ⟨a1, a2, a3, a4, a5⟩ := H.junk (o := o) lt
    refine ⟨a1, fun p hp => ?_, a3, a4, fun p hp q hq => ?_⟩
    · rcases List.mem_cons.mp hp with rfl | q
      · exact .head _
      · exact a2 p q
    · rcases List.mem_cons.mp hq with rfl | z
      · obtain ⟨x, h1, _⟩ := H.3 p hp
        exact Nat.ne_of_lt (lt _ h1)
      · exact a5 p hp q z
end

/-- what a comprehension gathers -/
structure AccT (β : Type) where
  ao : List β → AO
  R : List (Addr × Obj) → List β → List Value → Prop
  E : β → AV → Objs → Objs → Prop
  nil : ∀ tx, R tx [] []
  snoc : ∀ prog w pre tx all ys vs z y v o o2, R tx ys vs → E z y o o2 → RV y v → HA prog w (pre ++ tx) o all →
    ∃ tx', (∀ p ∈ tx, p ∈ tx') ∧ (∀ p ∈ tx', p ∈ tx ∨ ∃ ao, (p.1, ao) ∈ o) ∧ R tx' (ys ++ [z]) (vs ++ [v]) ∧ HA prog w (pre ++ tx') o2 all
  fin : ∀ prog w tx all D ys vs, R tx ys vs → (∀ p ∈ tx, p ∈ all) → OR prog w all D (ao ys) (lst vs)
noncomputable def accI : AccT Int where
  ao := .ints
  R := fun _ ys vs => IntsAre vs ys
  E := fun z y o o2 => y = .int z ∧ o2 = o
  nil := fun _ => .nil
  snoc := by
    rintro prog w pre tx all ys vs z y v o o2 h ⟨rfl, rfl⟩ ⟨t, rfl⟩ H
    exact ⟨tx, fun p hp => hp, fun p hp => .inl hp, ints_append h (.cons _ _ .nil), H⟩
  fin := fun prog w tx all D ys vs h _ => ⟨vs, _, rfl, h⟩
noncomputable def accP : AccT (Int × Int) where
  ao := .pairs
  R := fun tx ys vs => F2 (IsPair tx) ys vs
  E := fun z y o o2 => ∃ T, y = .ref T ∧ o = (T, .tup [.int z.1, .int z.2]) :: o2
  nil := fun _ => .nil
  snoc := by
    rintro prog w pre tx all ys vs z y v o o2 h ⟨T, rfl, rfl⟩ hv H
    refine hideG fun Xg hXg => ?_
    obtain ⟨a1, a2, a3, a4, a5⟩ := H
    obtain ⟨ob, h1, us, n, rfl, hf⟩ := a3 _ (.head _)
    refine hXg ?_
    obtain ⟨t, u, rfl⟩ : ∃ t u, us = [.int z.1 t, .int z.2 u] := by
      cases hf with | cons b1 b2 => cases b2 with | cons b3 b4 => cases b4; obtain ⟨t, rfl⟩ := b1; obtain ⟨u, rfl⟩ := b3; exact ⟨t, u, rfl⟩
    rw [List.map_cons, List.nodup_cons] at a4
    refine ⟨(T, tupObj [.int z.1 t, .int z.2 u] n) :: tx, fun p hp => .tail _ hp, fun p hp => ?_, ?_, a1, fun p hp => ?_, fun p hp => a3 p (.tail _ hp), a4.2, fun p hp q hq => ?_⟩
    · rcases List.mem_cons.mp hp with rfl | hp
      · exact .inr ⟨_, .head _⟩
      · exact .inl hp
    · refine (h.imp fun p v ⟨b, t, u, k, e, hb⟩ => ⟨b, t, u, k, e, .tail _ hb⟩).append (.cons ⟨T, t, u, n, hv, .head _⟩ .nil)
    · rcases List.mem_append.mp hp with q | q
      · exact a2 p (List.mem_append_left _ q)
      · rcases List.mem_cons.mp q with rfl | q
        · exact h1
        · exact a2 p (List.mem_append_right _ q)
    · rcases List.mem_append.mp hq with z' | z'
      · exact a5 p (.tail _ hp) q (List.mem_append_left _ z')
      · rcases List.mem_cons.mp z' with rfl | z'
        · intro e
          exact a4.1 (by rw [show T = p.1 from e.symm]; exact List.mem_map_of_mem (f := (·.1)) hp)
        · exact a5 p (.tail _ hp) q (List.mem_append_right _ z')
  fin := fun prog w tx all D ys vs h hs => ⟨vs, _, rfl, h.imp fun p v ⟨b, t, u, k, e, hb⟩ => ⟨b, t, u, k, e, hs _ hb⟩⟩

/- the scope of a comprehension -/
noncomputable def relS (scope sc : Scope) : Scope := { scope with names := scope.names.map fun (n, k) => if (k == .free && sc.kind == .function && sc.names.lookup n == some .cell) then (n, .cell) else (n, k) }
theorem relS_eq {scope sc : Scope} {env : Env} (h : env.scope = sc) : relabel scope env = relS scope sc := by
  subst h; rfl
theorem closure_of {env : Env} (names : List (Str × NameKind)) (h : ∀ y ∈ names, y.2 = .free → ∃ c, env.cells.lookup y.1 = some c) : ∀ (acc : List (Str × Addr)), ∃ cl,
    (forIn names acc (fun (x : Str × NameKind) (cs : List (Str × Addr)) => (match x with | (name, kind) => if kind == .free then do let c ← cellOf env name; pure (ForInStep.yield ((name, c) :: cs)) else pure (ForInStep.yield cs) : Sem _)) : Sem (List (Str × Addr))) = pure cl ∧
    (∀ p ∈ acc, p ∈ cl) ∧ (∀ p ∈ cl, p ∈ acc ∨ env.cells.lookup p.1 = some p.2) ∧ (∀ y ∈ names, y.2 = .free → ∃ c, (y.1, c) ∈ cl) := by
  induction names with
  | nil => exact fun acc => ⟨acc, rfl, fun _ h => h, fun _ h => .inl h, fun _ h => nomatch h⟩
  | cons y r ih =>
    intro acc
    have ih := ih fun z hz => h z (.tail _ hz)
    obtain ⟨n, k⟩ := y
    by_cases hk : k = .free
    · subst hk
      refine hideG fun Xg hXg => ?_
      obtain ⟨c, hc⟩ := h _ (.head _) rfl
      obtain ⟨cl, e, i1, i2, i3⟩ := ih ((n, c) :: acc)
      refine hXg ?_
      refine ⟨cl, ?_, fun p hp => i1 p (.tail _ hp), fun p hp => ?_, fun z hz hf => ?_⟩
      · rw [List.forIn_cons]
        show ((if (NameKind.free == NameKind.free) = true then do let c ← cellOf env n; pure (ForInStep.yield ((n, c) :: acc)) else pure (ForInStep.yield acc)) >>= _) = _
        rw [if_pos (by decide)]
        unfold cellOf
        rw [hc]
        exact e
      · rcases i2 p hp with q | q
        · rcases List.mem_cons.mp q with rfl | q
          · exact .inr hc
          · exact .inl q
        · exact .inr q
      · rcases List.mem_cons.mp hz with rfl | hz
        · exact ⟨c, i1 _ (.head _)⟩
        · exact i3 z hz hf
    · refine hideG fun Xg hXg => ?_
      obtain ⟨cl, e, i1, i2, i3⟩ := ih acc
      refine hXg ?_
      refine ⟨cl, ?_, i1, i2, fun z hz hf => ?_⟩
      · rw [List.forIn_cons]
        show ((if (k == NameKind.free) = true then _ else pure (ForInStep.yield acc)) >>= _) = _
        rw [if_neg (by simpa using hk)]
        exact e
      · rcases List.mem_cons.mp hz with rfl | hz
        · exact absurd hf hk
        · exact i3 z hz hf
theorem closureFor_of {env : Env} {scope : Scope} (h : ∀ y ∈ scope.names, y.2 = .free → ∃ c, env.cells.lookup y.1 = some c) : ∃ cl, closureFor scope env = pure cl ∧ (∀ p ∈ cl, env.cells.lookup p.1 = some p.2) ∧ ∀ y ∈ scope.names, y.2 = .free → ∃ c, (y.1, c) ∈ cl := by
  refine hideG fun Xg hXg => ?_
  obtain ⟨cl, e, -, i2, i3⟩ := closure_of (env := env) scope.names h []
  refine hXg ?_
  refine ⟨cl, ?_, fun p hp => (i2 p hp).resolve_left (fun h => nomatch h), i3⟩
  unfold closureFor
  show (Bind.bind (forIn scope.names ([] : List (Str × Addr)) (fun (x : Str × NameKind) (cs : List (Str × Addr)) => (match x with | (name, kind) => if kind == .free then do let c ← cellOf env name; pure (ForInStep.yield ((name, c) :: cs)) else pure (ForInStep.yield cs) : Sem _)) : Sem (List (Str × Addr))) (fun cs => Pure.pure cs)) = (Pure.pure cl : Sem (List (Str × Addr)))
  rw [e]
  rfl
end Mine
end
section
open PySem PySem.W PySem.Spec PySem.Calls PyProof.Rows PyProof.Rows.LCg
namespace Mine
theorem HR.exSub {prog : Program} {w : World} {h₀ : Heap} {L : Addr} {m : Str → Option Value} {ex ex' : List (Addr × Obj)} {objs : Objs} {h : Heap} (H : HR prog w h₀ L m ex objs h) (hs : ∀ p ∈ ex', p ∈ ex) : HR prog w h₀ L m ex' objs h := by
  obtain ⟨F, all, N, a1, a2, a3, a4, a5⟩ := H
  exact ⟨F, all, N, a1, fun p hp => a2 p (hs p hp), a3, a4, fun p hp q hq => a5 p hp q (hs q hq)⟩
theorem ns_notTup {o : Obj} {m : Str → Option Value} (h : NsObj o m) : ∀ l n, o ≠ tupObj l n := by
  rintro l n rfl
  obtain ⟨es, ep, e, -⟩ := h
  cases e
theorem HR.toObj {β : Type} (T : AccT β) {prog : Program} {w : World} {h₀ : Heap} {L D : Addr} {m : Str → Option Value} {pre ex tx : List (Addr × Obj)} {objs : Objs} {h : Heap} {ys : List β} {vs : List Value} (H : HR prog w h₀ L m (pre ++ (D, lst vs) :: tx) objs h) (hR : T.R tx ys vs)
    (hs : ∀ p ∈ ex, p ∈ tx) (hne : ∀ p ∈ pre ++ ex, p.1 ≠ D) : HR prog w h₀ L m (pre ++ ex) ((D, T.ao ys) :: objs) h := by
  obtain ⟨F, all, N, a1, a2, a3, a4, a5⟩ := H
  refine ⟨F, all, N, a1, fun p hp => a2 p ?_, fun p hp => ?_, ?_, fun p hp q hq => ?_⟩
  · rcases List.mem_append.mp hp with q | q
    · exact List.mem_append_left _ q
    · exact List.mem_append_right _ (.tail _ (hs p q))
  · rcases List.mem_cons.mp hp with rfl | hp
    · exact ⟨lst vs, a2 _ (List.mem_append_right _ (.head _)), T.fin _ _ tx all _ ys vs hR fun p hp => a2 p (List.mem_append_right _ (.tail _ hp))⟩
    · exact a3 p hp
  · rw [List.map_cons, List.nodup_cons]
    refine ⟨fun hm => ?_, a4⟩
    obtain ⟨p, hp, e⟩ := List.mem_map.mp hm
    exact a5 p hp _ (List.mem_append_right _ (.head _)) e
  · rcases List.mem_cons.mp hp with rfl | hp
    · exact (hne q hq).symm
    · refine a5 p hp q ?_
      rcases List.mem_append.mp hq with z | z
      · exact List.mem_append_left _ z
      · exact List.mem_append_right _ (.tail _ (hs q z))
theorem HR.nodup {prog : Program} {w : World} {h₀ : Heap} {L : Addr} {m : Str → Option Value} {ex : List (Addr × Obj)} {objs : Objs} {h : Heap} (H : HR prog w h₀ L m ex objs h) : (objs.map (·.1)).Nodup := by
  obtain ⟨F, all, N, H⟩ := H
  exact H.4
noncomputable def testsT (ifs : List Expr) (env : Env) : Sem Bool := forIn ifs true fun c r => if r = true then do let ok ← isTrue c env (eval c env); pure (ForInStep.yield ok) else pure (ForInStep.yield r)

theorem compLoop_go {prog : Program} {w : World} {A : Around} {s : Shared} {R : Result → Shared → Prop} {elt target iter : Expr} {ifs : List Expr} {scope : Scope} {pos : Pos} {it acc : Value} {env : Env} (I : Nat → Shared → Prop)
    (turn : ∀ n s, I n s → wpAny (model prog w) A (pyNext it) (fun r s₁ => match r with
      | none => R (.ok .next) s₁
      | some v => wpAny (model prog w) A (letOwnedTupleGo target it v) (fun _ s₀ => wpAny (model prog w) A (assign target env v) (fun _ s₂ =>
          wpAny (model prog w) A (testsT ifs env) (fun ok s₃ =>
            if ok = true then wpAny (model prog w) A (eval elt env) (fun x s₄ =>
              wpAny (model prog w) A (call (.builtin "list.append") [acc, x]) (fun _ s₅ => ∃ m, m < n ∧ I m s₅) (notedBy (model prog w) A env fun e s' => R (.error e) s') s₄) (notedBy (model prog w) A env fun e s' => R (.error e) s') s₃
            else ∃ m, m < n ∧ I m s₃) (notedBy (model prog w) A env fun e s' => R (.error e) s') s₂) (notedBy (model prog w) A env fun e s' => R (.error e) s') s₀) (notedBy (model prog w) A env fun e s' => R (.error e) s') s₁) (notedBy (model prog w) A env fun e s' => R (.error e) s') s)
    (n : Nat) (h : I n s) : codeAny (model prog w) A (.compLoop (.ListComp elt [⟨target, iter, ifs, 0⟩] scope pos) 0 it acc env) R s := by
  refine codeAny_loop rfl I (fun n s hI => ?_) n h
  show wpAny _ A ((compTurn (.ListComp elt [⟨target, iter, ifs, 0⟩] scope pos) 0 it acc env).onRaise (fun x => do noteFrame x env; theTreesLotGoes x)) _ _ s
  refine wpAny_noted ?_
  rw [compTurn_list]
  refine wpAny_bind (wpAny_standAt (wpAny_bind (wpAny_mono (turn n s hI) (fun r s₁ h₁ => ?_) fun _ _ h' => h')))
  cases r with
  | none => exact wpAny_pure h₁
  | some v =>
    refine wpAny_bind (wpAny_mono h₁ (fun _ s₀ h₀' => ?_) fun _ _ h' => h')
    refine wpAny_bind (wpAny_mono h₀' (fun _ s₂ h₂ => ?_) fun _ _ h' => h')
    refine wpAny_bind (wpAny_mono h₂ (fun ok s₃ h₃ => ?_) fun _ _ h' => h')
    cases ok with
    | true =>
      simp only [if_true] at h₃ ⊢
      exact wpAny_bind (wpAny_bind (wpAny_mono h₃ (fun x s₄ h₄ => wpAny_bind (wpAny_mono h₄ (fun _ s₅ h₅ => wpAny_pure (wpAny_pure ⟨rfl, h₅⟩)) fun _ _ h' => h')) fun _ _ h' => h'))
    | false =>
      simp only [Bool.false_eq_true, if_false] at h₃ ⊢
      exact wpAny_pure ⟨rfl, h₃⟩
section
variable {P : Pg} {w : World} {b : Nat} {A : Around} {E : Value → Shared → Prop} {h₀ : Heap} {L : Addr} {m : Str → Option Value}
/-- the comprehension behind its iterator -/
noncomputable def CompQ (P : Pg) (w : World) (A : Around) (E : Value → Shared → Prop) (elt target iter : Expr) (ifs : List Expr) (scope : Scope) (pos : Pos) (cl : List (Str × Addr)) (env : Env) (RR : Value → Addr → Result → Shared → Prop) (it : Value) (s₂ : Shared) : Prop :=
  wpAny (model P.prog w) A (newList []) (fun acc s₃ => wpAny (model P.prog w) A (newFunctionEnv scope env.globals cl [] env.qual none .none (some env)) (fun cenv s₄ =>
      codeAny (model P.prog w) A (.compStart (.ListComp elt [⟨target, iter, ifs, 0⟩] scope pos) 0 it acc { cenv with scope := relabel scope env }) (RR acc cenv.locals) s₄) E s₃) E s₂
theorem comp_core {β : Type} (T : AccT β) {elt iter target : Expr} {ifs : List Expr} {scope : Scope} {pos : Pos} {I : Addr} {env : Env} {s₂ : Shared} {ex : List (Addr × Obj)} {objs : Objs} {io₀ : Obj} {cl : List (Str × Addr)} {RR : Value → Addr → Result → Shared → Prop}
    (It : Nat → Obj → Prop) (item : Nat → Objs → Option (Value × Vars) → Prop) (Hp : Value → Vars → Heap → Prop) (Inv : Nat → List β → Objs → Prop) (Fin : List β → Objs → Prop) (M : Nat)
    (hio : ∀ i io, It i io → ∃ fs, io.data = .fields fs) (hM : ∀ i ys o, Inv i ys o → i ≤ M) (hM1 : M < 1000)
    (nxt : ∀ i io (s : Shared) ex os (Q : Option Value → Shared → Prop) (E : Value → Shared → Prop) ys, It i io → Inv i ys os → HR P.prog w h₀ L m ((I, io) :: ex) os s.heap →
      (∀ v bv h' tk io', item i os (some (v, bv)) → Hp v bv h' → h'.get? I = some io' → It (i + 1) io' → (∀ b x, b ≠ I → s.heap.get? b = some x → h'.get? b = some x) → Q (some v) { s with heap := h', toks := tk }) →
      (∀ h' tk, item i os none → (∀ b x, b ≠ I → s.heap.get? b = some x → h'.get? b = some x) → Q none { s with heap := h', toks := tk }) → wpAny (model P.prog w) A (pyNext (.ref I)) Q E s)
    (asg : ∀ i v bv C (s : Shared) ex os m₂ (Q : Unit → Shared → Prop) (E : Value → Shared → Prop), item i os (some (v, bv)) → Hp v bv s.heap → HR P.prog w h₀ L m ex os s.heap → s.heap.Ns C m₂ →
      (∀ h' tk m₂', h'.Ns C m₂' → (∀ p ∈ bv, ∃ v', RV p.2 v' ∧ m₂' p.1 = some v' ∧ scope.names.lookup p.1 = some .local) → (∀ c o, c ≠ C → s.heap.get? c = some o → h'.get? c = some o) → Q () { s with heap := h', toks := tk }) →
      wpAny (model P.prog w) A (assign target (compEnvC scope cl C env) v) Q E s)
    (turn : ∀ i ys os v bv C oC m₂ ex' (s : Shared) (Q : Bool → Shared → Prop) (E : Value → Shared → Prop), Inv i ys os → item i os (some (v, bv)) → NsObj oC m₂ → (C, oC) ∈ ex' → (∀ p ∈ ex, p ∈ ex') → (∀ p ∈ bv, ∃ v', RV p.2 v' ∧ m₂ p.1 = some v' ∧ scope.names.lookup p.1 = some .local) → HR P.prog w h₀ L m ex' os s.heap →
      (∀ c o s', HR P.prog w h₀ L m ex' o s'.heap → Same s s' → (c = true → ∀ (Q' : Value → Shared → Prop) (E' : Value → Shared → Prop), (∀ y o' y' s'' z o2, T.E z y o' o2 → Inv (i + 1) (ys ++ [z]) o2 → RV y y' → HR P.prog w h₀ L m ex' o' s''.heap → Same s' s'' → Q' y' s'') → wpAny (model P.prog w) A (eval elt (compEnvC scope cl C env)) Q' E' s') →
        (c = false → Inv (i + 1) ys o) → Q c s') → wpAny (model P.prog w) A (testsT ifs (compEnvC scope cl C env)) Q E s)
    (fin : ∀ i ys os, Inv i ys os → (os.map (·.1)).Nodup → item i os none → Fin ys os)
    (hcell : ∀ y ∈ scope.names, y.2 ≠ .cell) (hkind : scope.kind = .function) (hgo : ∀ i io v (s : Shared) (Q : Unit → Shared → Prop) (E : Value → Shared → Prop), It i io → s.heap.get? I = some io → Q () s → wpAny (model P.prog w) A (letOwnedTupleGo target (.ref I) v) Q E s) (hself : ∀ (s : Shared) ex' (Q : Value → Shared → Prop) (E : Value → Shared → Prop), HR P.prog w h₀ L m ((I, io₀) :: ex') objs s.heap → Q (.ref I) s → wpAny (model P.prog w) A (pyIter (.ref I)) Q E s)
    (H : HR P.prog w h₀ L m ((I, io₀) :: ex) objs s₂.heap) (hex : ∀ p ∈ ex, p.1 ≠ I) (h0 : It 0 io₀) (hi : Inv 0 [] objs)
    (hRR : ∀ D C s' oC m₂ ys os, NsObj oC m₂ → Fin ys os → HR P.prog w h₀ L m ((C, oC) :: ex) ((D, T.ao ys) :: os) s'.heap → (∀ p ∈ ex, p.1 ≠ C) → Same s₂ s' → RR (.ref D) C (.ok .next) s') :
    CompQ P w A E elt target iter ifs scope pos cl env RR (.ref I) s₂ := by
  refine wpAny_newObj_type (wpAny_newFunctionEnv hcell (by intro y hy; simp at hy) (fun h₁ hns₁ hsb₁ => ?_) hkind)
  dsimp only at hns₁ hsb₁ ⊢
  generalize hH2 : s₂.heap.push { cls := .type "list", dict := none, data := .seq ([] : List Value).toArray } = H2 at hns₁ hsb₁ ⊢
  have hC : H2.objs.size = s₂.heap.objs.size + 1 := by rw [← hH2, Heap.size_push]
  have fresh₀ : ∀ a, s₂.heap.objs.size ≤ a → h₀.get? a = none := fun a ha => by
    cases e : h₀.get? a with
    | none => rfl
    | some o' => exact absurd (Heap.lt_size (H.fr.keep a o' e)) (Nat.not_lt.mpr ha)
  have hLlt : L < s₂.heap.objs.size := H.fr.ns.lt
  have HD := H.addEx (c := s₂.heap.objs.size) (o := lst []) (h' := H2) (fun b x e => hH2 ▸ Heap.get?_push_of_some _ e) (fun p hp => Heap.lt_size hp) (hH2 ▸ Heap.get?_push_size _ rfl) (Nat.ne_of_gt hLlt) (fresh₀ _ (Nat.le_refl _))
  refine hideG fun Xg hXg => ?_
  obtain ⟨HD, ltD⟩ := HD
  obtain ⟨oC₀, hoC, hnC⟩ := ns_obj hns₁
  have old : ∀ b o, H2.get? b = some o → h₁.get? b = some o := fun b o e => hsb₁.extBut b o (Nat.ne_of_lt (Heap.lt_size e)) (Heap.get?_push_of_some _ e)
  have HC := HD.addEx (c := H2.objs.size) (o := oC₀) (h' := h₁) old (fun p hp => Heap.lt_size hp) hoC (by rw [hC]; exact Nat.ne_of_gt (Nat.lt_succ_of_lt hLlt)) (fresh₀ _ (by rw [hC]; exact Nat.le_succ _))
  obtain ⟨HC, ltC⟩ := HC
  refine hXg ?_
  generalize hDD : s₂.heap.objs.size = D at *
  generalize hCC : H2.objs.size = C at *
  have hDC : D ≠ C := Nat.ne_of_lt (ltC _ (.head _))
  have hIC : I ≠ C := Nat.ne_of_lt (ltC _ (.tail _ (.head _)))
  have hID : I ≠ D := Nat.ne_of_lt (ltD _ (.head _))
  have hexC : ∀ p ∈ ex, p.1 ≠ C := fun p hp => Nat.ne_of_lt (ltC p (.tail _ (.tail _ hp)))
  have hexD : ∀ p ∈ ex, p.1 ≠ D := fun p hp => Nat.ne_of_lt (ltD p (.tail _ hp))
  have H0 : HR P.prog w h₀ L m ((I, io₀) :: (C, oC₀) :: (D, lst []) :: ex) objs h₁ := HC.exSub fun p hp => by
    rcases List.mem_cons.mp hp with rfl | hp
    · exact .tail _ (.tail _ (.head _))
    rcases List.mem_cons.mp hp with rfl | hp
    · exact .head _
    rcases List.mem_cons.mp hp with rfl | hp
    · exact .tail _ (.head _)
    · exact .tail _ (.tail _ (.tail _ hp))
  have loop : ∀ s₃ : Shared, s₃ = { s₂ with heap := h₁, toks := s₂.toks + ([] : List (Str × Value)).length } →
      codeAny (model P.prog w) A (.compLoop (.ListComp elt [⟨target, iter, ifs, 0⟩] scope pos) 0 (.ref I) (.ref D) (compEnvC scope cl C env)) (RR (.ref D) C) s₃ := by
    rintro s₃ rfl
    refine compLoop_go
      (fun k s' => ∃ i io oC m₂ ys vs tx os, k = M + 1 - i ∧ It i io ∧ NsObj oC m₂ ∧ Inv i ys os ∧ T.R tx ys vs ∧ vs.length ≤ i ∧ (∀ p ∈ ex, p ∈ tx) ∧ (∀ p ∈ tx, p.1 ≠ I ∧ p.1 ≠ C ∧ p.1 ≠ D) ∧ HR P.prog w h₀ L m ((I, io) :: (C, oC) :: (D, lst vs) :: tx) os s'.heap ∧ Same s₂ s') ?_ (M + 1)
      ⟨0, io₀, oC₀, _, [], [], ex, objs, rfl, h0, hnC, hi, T.nil _, Nat.le_refl _, fun p hp => hp, fun p hp => ⟨hex p hp, hexC p hp, hexD p hp⟩, H0, ⟨rfl, rfl, rfl⟩⟩
    rintro k s' hz9
    refine hideG fun Xg hXg => ?_
    obtain ⟨i, io, oC, m₂, ys, vs, tx, os, rfl, hIt, hns, hI, hR, hvl, hsub, hap, HH, q1⟩ := hz9
    refine hXg ?_
    have hiM := hM _ _ _ hI
    have offI : ∀ p ∈ ([] : List (Addr × Obj)) ++ ((C, oC) :: (D, lst vs) :: tx), p.1 ≠ I := fun p hp => by
      rcases List.mem_cons.mp hp with rfl | hp
      · exact hIC.symm
      rcases List.mem_cons.mp hp with rfl | hp
      · exact hID.symm
      · exact (hap p hp).1
    have ioT : ∀ io i, It i io → ∀ l n, io ≠ tupObj l n := fun io i h l n e => by obtain ⟨fs, hf⟩ := hio i io h; rw [e] at hf; cases hf
    refine nxt i io s' _ os _ _ ys hIt hI HH (fun v bv h' tk io' hit hHp ho hIt' hk => ?_) (fun h' tk hit hk => ?_)
    · have H3 : HR P.prog w h₀ L m ((I, io') :: (C, oC) :: (D, lst vs) :: tx) os h' := HR.setEx (e1 := []) HH offI (ioT _ _ hIt) hk ho
      have nsC : h'.Ns C m₂ := by
        refine hideG fun Xg hXg => ?_
        obtain ⟨F, all, N, H⟩ := H3
        refine hXg ?_
        exact hns.ns (N _ (H.2 _ (.tail _ (.head _)))).1
      refine hgo (i + 1) io' v { s' with heap := h', toks := tk } _ _ hIt' ho ?_
      refine asg i v bv C { s' with heap := h', toks := tk } _ os m₂ _ _ hit hHp H3 nsC fun h'' tk2 m₂' hn' hbd hk2 => ?_
      refine hideG fun Xg hXg => ?_
      obtain ⟨oC', hoC', hns'⟩ := ns_obj hn'
      refine hXg ?_
      have H4 : HR P.prog w h₀ L m ((I, io') :: (C, oC') :: (D, lst vs) :: tx) os h'' := HR.setEx (e1 := [(I, io')]) H3 (fun p hp => by
        rcases List.mem_cons.mp hp with rfl | hp
        · exact hIC
        rcases List.mem_cons.mp hp with rfl | hp
        · exact hDC
        · exact (hap p hp).2.1) (ns_notTup hns) hk2 hoC'
      refine turn i ys os v bv C oC' m₂' _ { s' with heap := h'', toks := tk2 } _ _ hI hit hns' (.tail _ (.head _)) (fun p hp => .tail _ (.tail _ (.tail _ (hsub p hp)))) hbd H4 fun c o s4 H5 q4 hct hcf => ?_
      have q5 : Same s₂ s4 := q1.trans ⟨q4.1, q4.2, q4.3⟩
      cases c with
      | true =>
        simp only [if_true]
        refine hct rfl _ _ fun y o' y' s5 z o2 hE hI' ry H6 q6 => ?_
        refine hideG fun Xg hXg => ?_
        obtain ⟨F, all, N, HA6⟩ := H6
        obtain ⟨tx', t1, t2, t3, t4⟩ := T.snoc _ _ [(I, io'), (C, oC'), (D, lst vs)] tx all ys vs z y y' o' o2 hR hE ry HA6
        refine hXg ?_
        have zD := (N _ (t4.2 (D, lst vs) (.tail _ (.tail _ (.head _))))).1
        have hap' : ∀ p ∈ tx', p.1 ≠ I ∧ p.1 ≠ C ∧ p.1 ≠ D := fun p hp => by
          rcases t2 p hp with q | ⟨ao, q⟩
          · exact hap p q
          · exact ⟨HA6.5 _ q _ (.head _), HA6.5 _ q _ (.tail _ (.head _)), HA6.5 _ q _ (.tail _ (.tail _ (.head _)))⟩
        refine append_at (hsz := by show (List.toArray vs).size ≤ sizeLine; rw [List.size_toArray]; exact line1000 (by (first | lia | omega))) zD fun h₅ hs₅ hD₅ => ?_
        refine ⟨M + 1 - (i + 1), by (first | lia | omega), i + 1, io', oC', m₂', ys ++ [z], vs ++ [y'], tx', o2, rfl, hIt', hns', hI', t3, by rw [List.length_append, List.length_singleton]; (first | lia | omega), fun p hp => t1 p (hsub p hp), hap', ?_, q5.trans ⟨q6.1, q6.2, q6.3⟩⟩
        refine HR.setEx (e1 := [(I, io'), (C, oC')]) (o := lst vs) (h := s5.heap) ⟨F, all, N, t4⟩ (fun p hp => ?_) (fun l n e => notTup_list (its := List.toArray vs) (n := vs.length) (show (W.listOf (List.toArray vs) vs.length).cls = .type "tuple" by rw [show W.listOf (List.toArray vs) vs.length = tupObj l n from e])) (fun b x hb e => hs₅.extBut b x hb e) (hD₅.trans (congrArg some (lst_snoc vs y')))
        rcases List.mem_cons.mp hp with rfl | hp
        · exact hID
        rcases List.mem_cons.mp hp with rfl | hp
        · exact hDC.symm
        · exact (hap' p hp).2.2
      | false =>
        simp only [Bool.false_eq_true, if_false]
        exact ⟨M + 1 - (i + 1), by (first | lia | omega), i + 1, io', oC', m₂', ys, vs, tx, o, rfl, hIt', hns', hcf rfl, hR, Nat.le_succ_of_le hvl, hsub, hap, H5, q5⟩
    · have H3 : HR P.prog w h₀ L m ((C, oC) :: (D, lst vs) :: tx) os h' := HR.dropEx HH offI (ioT _ _ hIt) hk
      refine hRR D C { s' with heap := h', toks := tk } oC m₂ ys os hns (fin i ys os hI HH.nodup hit) (HR.toObj T (pre := [(C, oC)]) H3 hR hsub fun p hp => ?_) hexC ⟨q1.1, q1.2, q1.3⟩
      rcases List.mem_cons.mp hp with rfl | hp
      · exact hDC.symm
      · exact hexD p hp
  exact codeAny_compStart_list (loop _ rfl) (hself _ _ _ _ H0 (loop _ rfl))
end
end Mine
end
section
open PySem PySem.W PySem.Spec PySem.Calls PyProof.Rows PyProof.Rows.LCg
namespace Mine
section
variable {P : Pg} {w : World} {sc : Scope} {b : Nat}

/-- a turn of a comprehension -/
noncomputable def CTurn {β : Type} (T : AccT β) (P : Pg) (w : World) (sc' : Scope) (b : Nat) (ifs : List Expr) (elt : Expr) (vs : Vars) (os : Objs) (ys : List β) (J : List β → Objs → Prop) : Prop :=
  WX P w sc' b (testsT ifs) Eq vs os fun c o => (c = true → WE P w sc' b elt vs o fun y o' => ∃ z o2, T.E z y o' o2 ∧ J (ys ++ [z]) o2) ∧ (c = false → J ys o)
theorem CTurn.none {β : Type} {T : AccT β} {elt : Expr} {vs : Vars} {os : Objs} {ys : List β} {J : List β → Objs → Prop} (h : WE P w sc b elt vs os fun y o' => ∃ z o2, T.E z y o' o2 ∧ J (ys ++ [z]) o2) : CTurn T P w sc b [] elt vs os ys J := by
  intro A h₀ L m ex env s Q E fx eo vo hr k
  exact wpAny_tests_nil (k true os true s ⟨fun _ => h, fun e => by cases e⟩ rfl hr Same.rfl)
theorem CTurn.one {β : Type} {T : AccT β} {ct elt : Expr} {vs : Vars} {os : Objs} {ys : List β} {J : List β → Objs → Prop}
    (h : WT P w sc b ct vs os fun c o => (c = true → WE P w sc b elt vs o fun y o' => ∃ z o2, T.E z y o' o2 ∧ J (ys ++ [z]) o2) ∧ (c = false → J ys o)) : CTurn T P w sc b [ct] elt vs os ys J := by
  intro A h₀ L m ex env s Q E fx eo vo hr k
  exact wpAny_tests_one (h A h₀ L m ex env s Q E fx eo vo hr k)

/-- what may be walked by a comprehension -/
inductive SrcK where
  | list (l : Addr) | rng (r : Addr) (a z c : Int) (n : Nat) | tup (t : Addr) | pairs (l : Addr)
noncomputable def SrcK.val : SrcK → Value
  | .list l => .ref l
  | .rng r _ _ _ _ => .ref r
  | .tup t => .ref t
  | .pairs l => .ref l
/-- the names of the target -/
inductive TgtK where
  | one (x : Str) (px : Pos) | two (x y : Str) (px py tp : Pos) (k : Nat)
noncomputable def TgtK.expr : TgtK → Expr
  | .one x px => .Name x px
  | .two x y px py tp k => .Tuple [.Name x px, .Name y py] k tp
noncomputable def SrcItem : SrcK → TgtK → Nat → Objs → Option Vars → Prop
  | .list l, .one x _, i, os, r => ∃ ns, (l, AO.ints ns) ∈ os ∧ r = (ns[i]?).map fun k => [(x, .int k)]
  | .rng rr a z c n, .one x _, i, os, r => r = if i < n then some [(x, .int (a + i * c))] else none
  | .tup t, .one x _, i, os, r => ∃ xs, (t, AO.tup xs) ∈ os ∧ r = (xs[i]?).map fun k => [(x, k)]
  | .pairs l, .two x y _ _ _ _, i, os, r => ∃ ps, (l, AO.pairs ps) ∈ os ∧ r = (ps[i]?).map fun k => [(x, .int k.1), (y, .int k.2)]
  | _, _, _, _, _ => False
noncomputable def SrcAv : SrcK → TgtK → Objs → Prop
  | .list l, .one _ _, os => ∃ ns, (l, AO.ints ns) ∈ os
  | .rng r a z c n, .one _ _, os => (r, AO.rng a z c) ∈ os ∧ Builtin.Range.small a z c = true ∧ Builtin.Range.rangeSize a z c = (n : Int)
  | .tup t, .one _ _, os => ∃ xs, (t, AO.tup xs) ∈ os
  | .pairs l, .two x y _ _ _ _, os => x ≠ y ∧ ∃ ps, (l, AO.pairs ps) ∈ os
  | _, _, _ => False
theorem SrcAv.cases {S : SrcK} {G : TgtK} {o : Objs} (h : SrcAv S G o) : (∃ l x px, S = .list l ∧ G = .one x px) ∨ (∃ r a z c n x px, S = .rng r a z c n ∧ G = .one x px) ∨ (∃ t x px, S = .tup t ∧ G = .one x px) ∨ ∃ l x y px py tp kt, S = .pairs l ∧ G = .two x y px py tp kt := by
  cases S <;> cases G <;> first | exact h.elim | exact .inl ⟨_, _, _, rfl, rfl⟩ | exact .inr (.inl ⟨_, _, _, _, _, _, _, rfl, rfl⟩) | exact .inr (.inr (.inl ⟨_, _, _, rfl, rfl⟩)) | exact .inr (.inr (.inr ⟨_, _, _, _, _, _, _, rfl, rfl⟩))
noncomputable def TgtOK (scope : Scope) : TgtK → Prop
  | .one x _ => scope.names.lookup x = some .local
  | .two x y _ _ _ _ => scope.names.lookup x = some .local ∧ scope.names.lookup y = some .local

structure TurnH {β : Type} (T : AccT β) (P : Pg) (w : World) (sc scope : Scope) (b : Nat) (G : TgtK) (ifs : List Expr) (elt : Expr) (fv : Vars) (S : SrcK) (M : Nat) (J K : List β → Objs → Prop) (i : Nat) (ys : List β) (o : Objs) : Prop where
  le : i ≤ M
  av : SrcAv S G o
  tn : ∀ bv, (o.map (·.1)).Nodup → SrcItem S G i o (some bv) → CTurn T P w (relS scope sc) b ifs elt (bv ++ fv) o ys J
  fi : (o.map (·.1)).Nodup → SrcItem S G i o none → K ys o
noncomputable def ValOK : TgtK → Value → Vars → Heap → Prop
  | .one x _, v, bv, _ => ∃ k, RV k v ∧ bv = [(x, k)]
  | .two x y _ _ _ _, v, bv, h => x ≠ y ∧ ∃ Tt p q t u, v = .ref Tt ∧ h.IsTuple Tt #[.int p t, .int q u] ∧ bv = [(x, .int p), (y, .int q)]

section
variable {A : Around} {E : Value → Shared → Prop} {h₀ : Heap} {L : Addr} {m : Str → Option Value}
theorem vars_turn {scope : Scope} {env : Env} {ex ex' : List (Addr × Obj)} {cl : List (Str × Addr)} {vars fv bv : Vars} {C : Addr} {oC : Obj} {m₂ : Str → Option Value} (eo : EnvOK sc L env) (vo : VarsOK L env m ex vars)
    (hcl : (∀ p ∈ cl, env.cells.lookup p.1 = some p.2) ∧ ∀ y ∈ scope.names, y.2 = .free → ∃ c, (y.1, c) ∈ cl)
    (hfv : ∀ p ∈ fv, p ∈ vars ∧ scope.names.lookup p.1 = some .free ∧ (sc.names.lookup p.1 = some .cell ∨ sc.names.lookup p.1 = some .free))
    (hsub : ∀ p ∈ ex, p ∈ ex') (hC : (C, oC) ∈ ex') (hns : NsObj oC m₂) (hbd : ∀ p ∈ bv, ∃ v', RV p.2 v' ∧ m₂ p.1 = some v' ∧ scope.names.lookup p.1 = some .local) : VarsOK L (compEnvC scope cl C env) m ex' (bv ++ fv) := by
  have hrel : ∀ (x : Str) (k : NameKind), scope.names.lookup x = some k → (compEnvC scope cl C env).kindOf x = some (if (k == .free && env.scope.kind == .function && env.kindOf x == some .cell) then .cell else k) := fun x k hk => by
    show ((scope.names.map _).lookup x) = _
    generalize scope.names = nm at hk
    induction nm with
    | nil => simp at hk
    | cons p r ih =>
      obtain ⟨n, kk⟩ := p
      rw [List.lookup_cons] at hk
      rw [List.map_cons]
      cases hx : x == n with
      | true =>
        rw [hx] at hk
        obtain rfl := Option.some.inj hk
        have hxn := beq_iff_eq.mp hx
        subst hxn
        dsimp only
        split
        · rw [List.lookup_cons, hx]
        · rw [List.lookup_cons, hx]
      | false =>
        rw [hx] at hk
        dsimp only
        split
        · rw [List.lookup_cons, hx]; exact ih hk
        · rw [List.lookup_cons, hx]; exact ih hk
  intro p hp
  rcases List.mem_append.mp hp with q | q
  · refine hideG fun Xg hXg => ?_
    obtain ⟨v', h1, h2, h3⟩ := hbd p q
    refine hXg ?_
    refine ⟨v', h1, .inr (.inl ⟨?_, oC, m₂, hC, hns, h2⟩)⟩
    rw [hrel _ _ h3]; rfl
  · refine hideG fun Xg hXg => ?_
    obtain ⟨h1, h2, h3⟩ := hfv p q
    refine hXg ?_
    have hkk : env.kindOf p.1 = some .cell ∨ env.kindOf p.1 = some .free := by unfold Env.kindOf; rw [eo.scope]; exact h3
    obtain ⟨u, ru, z | z | z⟩ := vo p h1
    · rw [z.1] at hkk; rcases hkk with e | e <;> cases e
    · rw [z.1] at hkk; rcases hkk with e | e <;> cases e
    · refine hideG fun Xg hXg => ?_
      obtain ⟨z0, c, o, z1, z2, z3⟩ := z
      obtain ⟨c', hc'⟩ := hcl.2 _ (mem_of_lookup' h2) rfl
      obtain ⟨d, hd⟩ := lookup_of_key hc'
      refine hXg ?_
      have hd2 := hcl.1 _ (mem_of_lookup' hd)
      rw [z1] at hd2
      obtain rfl := Option.some.inj hd2
      refine ⟨u, ru, .inr (.inr ⟨?_, c, o, hd, hsub _ z2, z3⟩)⟩
      rw [hrel _ _ h2]
      split
      · exact .inl rfl
      · exact .inr rfl
theorem env_turn {scope : Scope} {env : Env} {cl : List (Str × Addr)} {C : Addr} (eo : EnvOK sc L env) (hcell : ∀ y ∈ scope.names, y.2 ≠ .cell) (hkind : scope.kind = .function)
    (hcl : (∀ p ∈ cl, env.cells.lookup p.1 = some p.2) ∧ ∀ y ∈ scope.names, y.2 = .free → ∃ c, (y.1, c) ∈ cl) : EnvOK (relS scope sc) L (compEnvC scope cl C env) := by
  refine ⟨relS_eq eo.scope, hkind, eo.globals, eo.builtins, fun x hx => ?_⟩
  have : ∃ k, (x, k) ∈ (compEnvC scope cl C env).scope.names ∧ (k = .cell ∨ k = .free) := by
    rcases hx with h | h
    · exact ⟨_, mem_of_lookup' h, .inl rfl⟩
    · exact ⟨_, mem_of_lookup' h, .inr rfl⟩
  obtain ⟨k, hk, hkk⟩ := this
  obtain ⟨q, hq, e⟩ := List.mem_map.mp (show (x, k) ∈ scope.names.map _ from hk)
  obtain ⟨n, kk⟩ := q
  have hf : kk = .free ∧ n = x := by
    dsimp only at e
    split at e
    · rename_i hc
      simp only [Bool.and_eq_true, beq_iff_eq] at hc
      exact ⟨hc.1.1, (Prod.mk.inj e).1⟩
    · obtain ⟨rfl, rfl⟩ := Prod.mk.inj e
      rcases hkk with h | h
      · exact absurd h (hcell _ hq)
      · exact ⟨h, rfl⟩
  obtain ⟨rfl, rfl⟩ := hf
  obtain ⟨c, hc⟩ := hcl.2 _ hq rfl
  exact lookup_of_key hc

/-- the sources, each with its iterator -/
theorem comp_src {β : Type} (T : AccT β) (S : SrcK) (G : TgtK) {elt iter : Expr} {ifs : List Expr} {scope : Scope} {pos : Pos} {env : Env} {s₁ : Shared} {ex : List (Addr × Obj)} {vars fv : Vars} {objs : Objs} {cl : List (Str × Addr)} {RR : Value → Addr → Result → Shared → Prop}
    (Inv : Nat → List β → Objs → Prop) (Fin : List β → Objs → Prop) (M : Nat) (fx : Fx P w A h₀ L b) (eo : EnvOK sc L env) (vo : VarsOK L env m ex vars)
    (hM1 : M < 1000) (hI : ∀ i ys o, Inv i ys o → TurnH T P w sc scope b G ifs elt fv S M (Inv (i + 1)) Fin i ys o)
    (hrn : ∀ r a z c n, S = .rng r a z c n → n ≤ M ∧ ∀ i ys o, Inv i ys o → i ≤ n) (htn : ∀ t, S = .tup t → ∀ i ys o xs, (o.map (·.1)).Nodup → Inv i ys o → (t, AO.tup xs) ∈ o → i ≤ xs.length)
    (hcell : ∀ y ∈ scope.names, y.2 ≠ .cell) (hkind : scope.kind = .function) (hG : TgtOK scope G)
    (hcl : (∀ p ∈ cl, env.cells.lookup p.1 = some p.2) ∧ ∀ y ∈ scope.names, y.2 = .free → ∃ c, (y.1, c) ∈ cl)
    (hfv : ∀ p ∈ fv, p ∈ vars ∧ scope.names.lookup p.1 = some .free ∧ (sc.names.lookup p.1 = some .cell ∨ sc.names.lookup p.1 = some .free))
    (H : HR P.prog w h₀ L m ex objs s₁.heap) (hi : Inv 0 [] objs)
    (hRR : ∀ D C s' oC m₂ ys os, NsObj oC m₂ → Fin ys os → HR P.prog w h₀ L m ((C, oC) :: ex) ((D, T.ao ys) :: os) s'.heap → (∀ p ∈ ex, p.1 ≠ C) → Same s₁ s' → RR (.ref D) C (.ok .next) s') :
    wpAny (model P.prog w) A (pyIter S.val) (CompQ P w A E elt G.expr iter ifs scope pos cl env RR) E s₁ := by
  have turnX : ∀ i ys os bv C oC m₂ ex' (s : Shared) (Q : Bool → Shared → Prop) (E : Value → Shared → Prop), Inv i ys os → SrcItem S G i os (some bv) → NsObj oC m₂ → (C, oC) ∈ ex' → (∀ p ∈ ex, p ∈ ex') → (∀ p ∈ bv, ∃ v', RV p.2 v' ∧ m₂ p.1 = some v' ∧ scope.names.lookup p.1 = some .local) → HR P.prog w h₀ L m ex' os s.heap →
      (∀ c o s', HR P.prog w h₀ L m ex' o s'.heap → Same s s' → (c = true → ∀ (Q' : Value → Shared → Prop) (E' : Value → Shared → Prop), (∀ y o' y' s'' z o2, T.E z y o' o2 → Inv (i + 1) (ys ++ [z]) o2 → RV y y' → HR P.prog w h₀ L m ex' o' s''.heap → Same s' s'' → Q' y' s'') → wpAny (model P.prog w) A (eval elt (compEnvC scope cl C env)) Q' E' s') →
        (c = false → Inv (i + 1) ys o) → Q c s') → wpAny (model P.prog w) A (testsT ifs (compEnvC scope cl C env)) Q E s := by
    intro i ys os bv C oC m₂ ex' s Q E hInv hit hns hC hsub hbd hHR k
    have t := (hI i ys os hInv).3 bv hHR.nodup hit
    have eo' := env_turn (C := C) eo hcell hkind hcl
    have vo' := vars_turn eo vo hcl hfv hsub hC hns hbd
    refine t A h₀ L m ex' (compEnvC scope cl C env) s Q E fx eo' vo' hHR fun c o c' s' hc rc hr' q' => ?_
    subst rc
    refine k c o s' hr' q' (fun e Q' E' k' => ?_) hc.2
    exact (hc.1 e) A h₀ L m ex' (compEnvC scope cl C env) s' Q' E' fx eo' vo' hr' fun y o' y' s'' ⟨z, o2, hE, hJ⟩ ry hr'' q'' => k' y o' y' s'' z o2 hE hJ ry hr'' q''
  have asgX : ∀ (v : Value) bv C (s : Shared) m₂ (Q : Unit → Shared → Prop) (E : Value → Shared → Prop), ValOK G v bv s.heap → s.heap.Ns C m₂ →
      (∀ h' tk m₂', h'.Ns C m₂' → (∀ p ∈ bv, ∃ v', RV p.2 v' ∧ m₂' p.1 = some v' ∧ scope.names.lookup p.1 = some .local) → (∀ c o, c ≠ C → s.heap.get? c = some o → h'.get? c = some o) → Q () { s with heap := h', toks := tk }) →
      wpAny (model P.prog w) A (assign G.expr (compEnvC scope cl C env) v) Q E s := by
    intro v bv C s m₂ Q E hv hn kk
    cases G with
    | one x px =>
      refine hideG fun Xg hXg => ?_
      obtain ⟨k, hv, rfl⟩ := hv
      refine hXg ?_
      refine wpAny_assign_Name (wpAny_storeName_local (lookup_relabel_local hG) hn (fun h' hn' hs' => ?_) (by simp [compEnvC, relabel, hkind]))
      refine kk h' _ _ hn' (fun p hp => ?_) fun c o hc e => hs'.extBut c o hc e
      obtain rfl := List.mem_singleton.mp hp
      exact ⟨v, hv, by simp, hG⟩
    | two x y px py tp kt =>
      refine hideG fun Xg hXg => ?_
      obtain ⟨hxy, Tt, p, q, t, u, rfl, hT, rfl⟩ := hv
      refine hXg ?_
      refine kcp_assign (env := compEnvC scope cl C env) fx.hh hT (lookup_relabel_local hG.1) (lookup_relabel_local hG.2) (by simp [compEnvC, relabel, hkind]) hn fun h' tk hn' hk => ?_
      refine kk h' tk _ hn' (fun z hz => ?_) hk
      rcases List.mem_cons.mp hz with rfl | hz
      · exact ⟨_, ⟨t, rfl⟩, by simp [hxy], hG.1⟩
      · obtain rfl := List.mem_singleton.mp hz
        exact ⟨_, ⟨u, rfl⟩, by simp, hG.2⟩
  have hav := (hI 0 [] objs hi).2
  have hM : ∀ i ys o, Inv i ys o → i ≤ M := fun i ys o h => (hI i ys o h).1
  refine hideG fun Xg hXg => ?_
  obtain ⟨F, all, N, HA0⟩ := id H
  refine hXg ?_
  have fresh₀ : h₀.get? s₁.heap.objs.size = none := by
    cases e : h₀.get? s₁.heap.objs.size with
    | none => rfl
    | some o' => exact absurd (Heap.lt_size (F.keep _ o' e)) (Nat.lt_irrefl _)
  have mkI : ∀ (io : Obj), io.isFreed = false → HR P.prog w h₀ L m ((s₁.heap.objs.size, io) :: ex) objs (s₁.heap.push io) ∧ ∀ p ∈ ex, p.1 < s₁.heap.objs.size := fun io hf =>
    H.addEx (c := s₁.heap.objs.size) (o := io) (fun b x e => Heap.get?_push_of_some _ e) (fun p hp => Heap.lt_size hp) (Heap.get?_push_size _ hf) (Nat.ne_of_gt F.ns.lt) fresh₀
  have hoff : ∀ p ∈ ex, p.1 ≠ s₁.heap.objs.size := fun p hp => Nat.ne_of_lt ((mkI { cls := .none, data := .fields #[] } rfl).2 p hp)
  rcases hav.cases with ⟨l, x, px, hS, hG1⟩ | ⟨r, a, z, c, n, x, px, hS, hG1⟩ | ⟨t, x, px, hS, hG1⟩ | ⟨l, x, y, px, py, tp, kt, hS, hG1⟩
  all_goals rw [hS, hG1] at hav
  all_goals have hgo1 := congrArg SrcItem hS
  all_goals rw [congrArg SrcK.val hS]
  ·   obtain ⟨ns, hm⟩ := hav
      refine hideG fun Xg hXg => ?_
      obtain ⟨o, hin, vs, n, rfl, hvi⟩ := HA0.3 _ hm
      refine hXg ?_
      have hl : s₁.heap.IsList l (List.toArray vs) := ⟨_, (N _ hin).1, rfl, n, rfl⟩
      refine wpAny_pyIter_list hl (comp_core (target := G.expr) T (fun i io => io.cls = .type "list_iterator" ∧ io.data = .fields #[.ref l, .int i 0]) (fun i os r => SrcItem S G i os (r.map Prod.snd)) (ValOK G) Inv Fin M (fun i io h => ⟨_, h.2⟩) hM hM1 ?_
      (fun i v bv C s ex' os m₂ Q E' _ hv _ hn kk => asgX v bv C s m₂ Q E' hv hn kk) (fun i ys os v bv C oC m₂ ex' s Q E' hInv hit => turnX i ys os bv C oC m₂ ex' s Q E' hInv hit) (fun i ys os hInv hnd hit => (hI i ys os hInv).4 hnd hit) hcell hkind
      (fun i io v s Q E _ _ hq => by rw [hG1]; exact wpAny_pure hq) ?_ (mkI _ rfl).1 hoff ⟨rfl, rfl⟩ hi (fun D C s' oC m₂ ys os a1 a2 a3 a4 a5 => hRR D C s' oC m₂ ys os a1 a2 a3 a4 ⟨a5.1, a5.2, a5.3⟩))
      · rintro i io s ex' os Q E' ys ⟨hc, hd⟩ hInv hHR k1 k2
        rw [hgo1, hG1] at k1 k2
        have hx := (hI i ys os hInv).2
        rw [hS, hG1] at hx
        refine hideG fun Xg hXg => ?_
        obtain ⟨ns, hm⟩ := hx
        obtain ⟨F, all, N, HA1⟩ := hHR
        obtain ⟨o, hin, vs, n, rfl, hvi⟩ := HA1.3 _ hm
        refine hXg ?_
        have hl : s.heap.IsList l (List.toArray vs) := ⟨_, (N _ hin).1, rfl, n, rfl⟩
        have hit : s.heap.IsListIter s₁.heap.objs.size l i := ⟨io, (N _ (HA1.2 _ (.head _))).1, hc, hd⟩
        have hlen := hvi.length
        by_cases hlt : i < vs.length
        · refine hideG fun Xg hXg => ?_
          obtain ⟨kk, t, hkk, e⟩ := ints_some hvi (List.getElem?_eq_getElem hlt)
          refine hXg ?_
          refine wpAny_pyNext_list_item hit hl (x := .int kk t) (by rw [← e]; simp [hlt]) fun h' hit' hsb => ?_
          refine hideG fun Xg hXg => ?_
          obtain ⟨io', ho', hc', hd'⟩ := hit'
          refine hXg ?_
          exact k1 _ [(x, .int kk)] h' s.toks io' ⟨ns, hm, by rw [hkk]; rfl⟩ ⟨.int kk, ⟨t, rfl⟩, rfl⟩ ho' ⟨hc', hd'⟩ fun b x hb e => hsb.extBut b x hb e
        · refine wpAny_pyNext_list_end fx.hh hit hl (by simp; (first | lia | omega)) fun h' hk => k2 h' s.toks ⟨ns, hm, by rw [List.getElem?_eq_none (by (first | lia | omega))]; rfl⟩ fun b x hb e => hk b x hb e
      · intro s ex' Q E' hHR hq
        refine hideG fun Xg hXg => ?_
        obtain ⟨F, all, N, HA1⟩ := hHR
        refine hXg ?_
        exact wpAny_pyIter_listiter (i := 0) ⟨_, (N _ (HA1.2 _ (.head _))).1, rfl, rfl⟩ hq
  ·   obtain ⟨hm, hsm, hsz⟩ := hav
      refine hideG fun Xg hXg => ?_
      obtain ⟨hnM, hin'⟩ := hrn r a z c n hS
      obtain ⟨o, hin, t, u, v, rfl⟩ := HA0.3 _ hm
      refine hXg ?_
      have W := Walks.range (prog := P.prog) (w := w) (A := A) fx.hh s₁.heap.objs.size a c n
      refine wpAny_pyIter_range (N _ hin).1 hsm (comp_core (target := G.expr) T (fun i io => io = { cls := .type "range_iterator", dict := none, data := .fields #[rawInt (a + (i : Nat) * c), rawInt ((n : Int) - (i : Nat)), rawInt c], slots := #[] }) (fun i os r => SrcItem S G i os (r.map Prod.snd)) (ValOK G) Inv Fin M (fun i io h => ⟨_, congrArg Obj.data h⟩) hM hM1 ?_
      (fun i v bv C s ex' os m₂ Q E' _ hv _ hn kk => asgX v bv C s m₂ Q E' hv hn kk) (fun i ys os v bv C oC m₂ ex' s Q E' hInv hit => turnX i ys os bv C oC m₂ ex' s Q E' hInv hit) (fun i ys os hInv hnd hit => (hI i ys os hInv).4 hnd hit) hcell hkind
      (fun i io v s Q E _ _ hq => by rw [hG1]; exact wpAny_pure hq) ?_ (mkI _ rfl).1 hoff ?_ hi (fun D C s' oC m₂ ys os a1 a2 a3 a4 a5 => hRR D C s' oC m₂ ys os a1 a2 a3 a4 ⟨a5.1, a5.2, a5.3⟩))
      · rintro i io s ex' os Q E' ys rfl hInv hHR k1 k2
        rw [hgo1, hG1] at k1 k2
        refine hideG fun Xg hXg => ?_
        obtain ⟨F, all, N, HA1⟩ := hHR
        refine hXg ?_
        have hit := (N _ (HA1.2 _ (.head _))).1
        have hle := hin' i ys os hInv
        by_cases hlt : i < n
        · refine W.item i s _ _ hlt hit fun v h' tk hv hst hk => ?_
          obtain ⟨t, rfl⟩ := hv
          exact k1 _ [(x, .int (a + i * c))] h' tk _ (if_pos hlt).symm ⟨.int (a + i * c), ⟨t, rfl⟩, rfl⟩ hst rfl fun b x hb e => hk b x (by simpa using hb) e
        · have : i = n := by (first | lia | omega)
          subst this
          exact W.done s _ _ hit fun h' tk hk => k2 h' tk (if_neg hlt).symm fun b x hb e => hk b x (by simpa using hb) e
      · intro s ex' Q E' hHR hq
        refine hideG fun Xg hXg => ?_
        obtain ⟨F, all, N, HA1⟩ := hHR
        refine hXg ?_
        refine W.self 0 s Q E' ?_ hq
        have := (N _ (HA1.2 _ (.head _))).1
        dsimp only at this ⊢
        rw [hsz] at this
        simpa using this
      · show _ = _
        rw [hsz]; simp
  ·   obtain ⟨xs, hm⟩ := hav
      refine hideG fun Xg hXg => ?_
      obtain ⟨o, hin, vs, n, rfl, hvi⟩ := HA0.3 _ hm
      refine hXg ?_
      have hl : s₁.heap.IsTuple t (List.toArray vs) := ⟨_, (N _ hin).1, rfl, n, rfl⟩
      refine wpAny_pyIter_tuple hl (comp_core (target := G.expr) T (fun i io => io.cls = .type "tuple_iterator" ∧ io.data = .fields #[.ref t, .int i 0]) (fun i os r => SrcItem S G i os (r.map Prod.snd)) (ValOK G) Inv Fin M (fun i io h => ⟨_, h.2⟩) hM hM1 ?_
      (fun i v bv C s ex' os m₂ Q E' _ hv _ hn kk => asgX v bv C s m₂ Q E' hv hn kk) (fun i ys os v bv C oC m₂ ex' s Q E' hInv hit => turnX i ys os bv C oC m₂ ex' s Q E' hInv hit) (fun i ys os hInv hnd hit => (hI i ys os hInv).4 hnd hit) hcell hkind
      (fun i io v s Q E _ _ hq => by rw [hG1]; exact wpAny_pure hq) ?_ (mkI _ rfl).1 hoff ⟨rfl, rfl⟩ hi (fun D C s' oC m₂ ys os a1 a2 a3 a4 a5 => hRR D C s' oC m₂ ys os a1 a2 a3 a4 ⟨a5.1, a5.2, a5.3⟩))
      · rintro i io s ex' os Q E' ys ⟨hc, hd⟩ hInv hHR k1 k2
        rw [hgo1, hG1] at k1 k2
        have hx := (hI i ys os hInv).2
        rw [hS, hG1] at hx
        refine hideG fun Xg hXg => ?_
        obtain ⟨xs, hm⟩ := hx
        obtain ⟨F, all, N, HA1⟩ := hHR
        obtain ⟨o, hin, vs, n, rfl, hvi⟩ := HA1.3 _ hm
        refine hXg ?_
        have hl : s.heap.IsTuple t (List.toArray vs) := ⟨_, (N _ hin).1, rfl, n, rfl⟩
        have hit : s.heap.IsTupleIter s₁.heap.objs.size t i := ⟨io, (N _ (HA1.2 _ (.head _))).1, hc, hd⟩
        have hne : s₁.heap.objs.size ≠ t := fun e => by
          have := nodup_key HA1.1 (HA1.2 _ (.head _)) (e ▸ hin)
          rw [this] at hd; cases hd
        have hlen := hvi.length
        have W := Walks.tuple (prog := P.prog) (w := w) (A := A) fx.hh s₁.heap.objs.size t (Ne.symm hne) (List.toArray vs)
        by_cases hlt : i < vs.length
        · refine hideG fun Xg hXg => ?_
          obtain ⟨kk, hkk, rk⟩ := hvi.get (List.getElem?_eq_getElem hlt)
          refine hXg ?_
          refine W.item i s _ _ (by simpa using hlt) ⟨hit, hl⟩ fun v h' tk hv hst hk => ?_
          refine hideG fun Xg hXg => ?_
          obtain ⟨⟨io', ho', hc', hd'⟩, -⟩ := hst
          refine hXg ?_
          have hv' : v = vs[i] := by simpa [hlt] using hv.symm
          subst hv'
          exact k1 _ [(x, kk)] h' tk io' ⟨xs, hm, by rw [hkk]; rfl⟩ ⟨kk, rk, rfl⟩ ho' ⟨hc', hd'⟩ fun b x hb e => hk b x (by simpa using hb) e
        · have hiv : i = vs.length := by
            have := htn t hS i ys os xs HA1.4 hInv hm
            (first | lia | omega)
          refine W.done s _ _ ?_ fun h' tk hk => k2 h' tk ⟨xs, hm, by rw [List.getElem?_eq_none (by (first | lia | omega))]; rfl⟩ fun b x hb e => hk b x (by simpa using hb) e
          subst hiv
          simp only [List.size_toArray]
          exact ⟨hit, hl⟩
      · intro s ex' Q E' hHR hq
        refine hideG fun Xg hXg => ?_
        obtain ⟨F, all, N, HA1⟩ := hHR
        obtain ⟨o, hin, vs, n, rfl, hvi⟩ := HA1.3 _ hm
        refine hXg ?_
        have hl : s.heap.IsTuple t (List.toArray vs) := ⟨_, (N _ hin).1, rfl, n, rfl⟩
        have hne : s₁.heap.objs.size ≠ t := fun e => by
          have := congrArg Obj.data (nodup_key HA1.1 (HA1.2 _ (.head _)) (e ▸ hin))
          cases this
        have W := Walks.tuple (prog := P.prog) (w := w) (A := A) fx.hh s₁.heap.objs.size t (Ne.symm hne) (List.toArray vs)
        exact W.self 0 s Q E' ⟨⟨_, (N _ (HA1.2 _ (.head _))).1, rfl, rfl⟩, hl⟩ hq
  ·   obtain ⟨hxy, ns, hm⟩ := hav
      refine hideG fun Xg hXg => ?_
      obtain ⟨o, hin, vs, n, rfl, hvi⟩ := HA0.3 _ hm
      refine hXg ?_
      have hl : s₁.heap.IsList l (List.toArray vs) := ⟨_, (N _ hin).1, rfl, n, rfl⟩
      refine wpAny_pyIter_list hl (comp_core (target := G.expr) T (fun i io => io.cls = .type "list_iterator" ∧ io.data = .fields #[.ref l, .int i 0]) (fun i os r => SrcItem S G i os (r.map Prod.snd)) (ValOK G) Inv Fin M (fun i io h => ⟨_, h.2⟩) hM hM1 ?_
      (fun i v bv C s ex' os m₂ Q E' _ hv _ hn kk => asgX v bv C s m₂ Q E' hv hn kk) (fun i ys os v bv C oC m₂ ex' s Q E' hInv hit => turnX i ys os bv C oC m₂ ex' s Q E' hInv hit) (fun i ys os hInv hnd hit => (hI i ys os hInv).4 hnd hit) hcell hkind
      ?_ ?_ (mkI _ rfl).1 hoff ⟨rfl, rfl⟩ hi (fun D C s' oC m₂ ys os a1 a2 a3 a4 a5 => hRR D C s' oC m₂ ys os a1 a2 a3 a4 ⟨a5.1, a5.2, a5.3⟩))
      · rintro i io s ex' os Q E' ys ⟨hc, hd⟩ hInv hHR k1 k2
        rw [hgo1, hG1] at k1 k2
        have hx := (hI i ys os hInv).2
        rw [hS, hG1] at hx
        refine hideG fun Xg hXg => ?_
        obtain ⟨-, ps, hm⟩ := hx
        obtain ⟨F, all, N, HA1⟩ := hHR
        obtain ⟨o, hin, vs, n, rfl, hvi⟩ := HA1.3 _ hm
        refine hXg ?_
        have hl : s.heap.IsList l (List.toArray vs) := ⟨_, (N _ hin).1, rfl, n, rfl⟩
        have hit : s.heap.IsListIter s₁.heap.objs.size l i := ⟨io, (N _ (HA1.2 _ (.head _))).1, hc, hd⟩
        have hlen := hvi.length
        by_cases hlt : i < vs.length
        · refine hideG fun Xg hXg => ?_
          obtain ⟨kk, hkk, Tt, t, u, nn, e, hT⟩ := hvi.get (List.getElem?_eq_getElem hlt)
          refine hXg ?_
          have hTI : Tt ≠ s₁.heap.objs.size := fun e => by
            have := nodup_key HA1.1 (HA1.2 _ (.head _)) (e ▸ hT)
            rw [this] at hd; cases hd
          refine wpAny_pyNext_list_item hit hl (x := .ref Tt) (by rw [← e]; simp [hlt]) fun h' hit' hsb => ?_
          refine hideG fun Xg hXg => ?_
          obtain ⟨io', ho', hc', hd'⟩ := hit'
          refine hXg ?_
          exact k1 _ [(x, .int kk.1), (y, .int kk.2)] h' s.toks io' ⟨ps, hm, by rw [hkk]; rfl⟩ ⟨hxy, Tt, kk.1, kk.2, t, u, rfl, ⟨_, hsb.extBut _ _ hTI (N _ hT).1, rfl, nn, rfl⟩, rfl⟩ ho' ⟨hc', hd'⟩ fun b x hb e => hsb.extBut b x hb e
        · refine wpAny_pyNext_list_end fx.hh hit hl (by simp; (first | lia | omega)) fun h' hk => k2 h' s.toks ⟨ps, hm, by rw [List.getElem?_eq_none (by (first | lia | omega))]; rfl⟩ fun b x hb e => hk b x hb e
      · rintro i io v s Q E' ⟨hc, hd⟩ ho hq
        rw [hG1]
        show wpAny _ A (letOwnedTupleGo (.Tuple _ _ _) _ _) _ _ _
        unfold letOwnedTupleGo
        cases v with
        | ref Tt =>
          refine wpAny_bind (wpAny_load ho ?_)
          rw [hc, hd]
          exact wpAny_pure hq
        | _ => exact wpAny_pure hq
      · intro s ex' Q E' hHR hq
        refine hideG fun Xg hXg => ?_
        obtain ⟨F, all, N, HA1⟩ := hHR
        refine hXg ?_
        exact wpAny_pyIter_listiter (i := 0) ⟨_, (N _ (HA1.2 _ (.head _))).1, rfl, rfl⟩ hq
end
end
end Mine
end
section
open PySem PySem.W PySem.Spec PySem.Calls PyProof.Rows PyProof.Rows.LCg
namespace Mine
section
variable {P : Pg} {w : World} {sc : Scope} {b : Nat} {vars : Vars} {objs : Objs}
theorem CL.drop {α β : Type} {t : Sem α} {R : β → α → Prop} {K : β → Objs → Prop} (h : CL P w b t R objs fun v o => ∃ o', Pick o' o ∧ K v o') : CL P w b t R objs K := by
  intro A h₀ L m ex s Q E fx hr k
  exact h A h₀ L m ex s Q E fx hr fun v o v' s' ⟨o', hs, hK⟩ rv hr' q => k v o' v' s' hK rv (hr'.pick hs) q

noncomputable def CompH {β : Type} (T : AccT β) (P : Pg) (w : World) (sc scope : Scope) (b : Nat) (G : TgtK) (ifs : List Expr) (elt : Expr) (fv : Vars) (v : AV) (o : Objs) (K : List β → Objs → Prop) : Prop :=
  ∃ (S : SrcK) (M : Nat) (Inv : Nat → List β → Objs → Prop), v = .val S.val ∧ M < 1000 ∧ Inv 0 [] o ∧
    (∀ i ys o, Inv i ys o → TurnH T P w sc scope b G ifs elt fv S M (Inv (i + 1)) K i ys o) ∧
    (∀ r a z c n, S = .rng r a z c n → n ≤ M ∧ ∀ i ys o, Inv i ys o → i ≤ n) ∧ (∀ t, S = .tup t → ∀ i ys o xs, (o.map (·.1)).Nodup → Inv i ys o → (t, AO.tup xs) ∈ o → i ≤ xs.length)
noncomputable def CompScope (sc scope : Scope) (G : TgtK) (vars fv : Vars) : Prop :=
  TgtOK scope G ∧ (scope.names.all fun y => !(y.2 == .cell)) = true ∧ scope.kind = .function ∧ (scope.names.all fun y => !(y.2 == .local) || scope.names.lookup y.1 == some .local) = true ∧
    (scope.names.all fun y => !(y.2 == .free) || (sc.names.lookup y.1 == some .cell || sc.names.lookup y.1 == some .free)) = true ∧ (∀ p ∈ fv, p ∈ vars ∧ scope.names.lookup p.1 = some .free)
theorem CompScope.all {scope : Scope} {G : TgtK} {fv : Vars} {L : Addr} {env : Env} (h : CompScope sc scope G vars fv) (eo : EnvOK sc L env) :
    TgtOK scope G ∧ (∀ y ∈ scope.names, y.2 ≠ .cell) ∧ scope.kind = .function ∧ (∀ y ∈ scope.names, y.2 = .local → scope.names.lookup y.1 = some .local) ∧ (∀ y ∈ scope.names, y.2 = .free → ∃ c, env.cells.lookup y.1 = some c) ∧
      (∀ p ∈ fv, p ∈ vars ∧ scope.names.lookup p.1 = some .free ∧ (sc.names.lookup p.1 = some .cell ∨ sc.names.lookup p.1 = some .free)) := by
  refine hideG fun Xg hXg => ?_
  obtain ⟨h1, h2, h3, h4, h5, h6⟩ := h
  refine hXg ?_
  rw [List.all_eq_true] at h2 h4 h5
  have h5' : ∀ y ∈ scope.names, y.2 = .free → sc.names.lookup y.1 = some .cell ∨ sc.names.lookup y.1 = some .free := fun y hy e => by
    have := h5 y hy
    rw [e] at this
    simpa using this
  refine ⟨h1, fun y hy e => by have := h2 y hy; rw [e] at this; simp at this, h3, fun y hy e => by have := h4 y hy; rw [e] at this; simpa using this, fun y hy e => ?_, fun p hp => ⟨(h6 p hp).1, (h6 p hp).2, h5' _ (mem_of_lookup' (h6 p hp).2) rfl⟩⟩
  refine eo.cells _ ?_
  unfold Env.kindOf
  rw [eo.scope]
  exact h5' y hy e
theorem WE_comp {β : Type} (T : AccT β) {elt iter : Expr} {ifs : List Expr} {scope : Scope} {pos : Pos} (G : TgtK) (fv : Vars) {K : AV → Objs → Prop}
    (h : WE P w sc b iter vars objs fun v o => CompH T P w sc scope b G ifs elt fv v o fun ys o => ∀ D, K (.ref D) ((D, T.ao ys) :: o)) (hS : CompScope sc scope G vars fv) (hs : ∀ env x, foldedSetIterable iter env x = pure x) :
    WE P w sc b (.ListComp elt [⟨G.expr, iter, ifs, 0⟩] scope pos) vars objs K := by
  intro A h₀ L m ex env s Q E fx eo vo hr k
  refine hideG fun Xg hXg => ?_
  obtain ⟨c1, c2, c3, c4, c5, c6⟩ := hS.all eo
  obtain ⟨cl, hclos, hcl⟩ := closureFor_of (scope := scope) c5
  refine hXg ?_
  rw [eval_ListComp]
  refine wpAny_comprehension_free (use := none) rfl (hs env) hclos c3 c4 (h A h₀ L m ex env s _ E fx eo vo hr fun v o v' s1 h1 rv hr1 q1 => ?_)
  refine hideG fun Xg hXg => ?_
  obtain ⟨S, M, Inv, rfl, hM, hi, hI, hrn, htn⟩ := h1
  refine hXg ?_
  rw [show v' = S.val from rv]
  refine comp_src T S G Inv _ M fx eo vo hM hI hrn htn c2 c3 c1 hcl c6 hr1 hi fun D C s' oC m₂ ys os hns hF H hexC q2 => ?_
  refine hideG fun Xg hXg => ?_
  obtain ⟨F, all, N, HA⟩ := id H
  refine hXg ?_
  refine ⟨m₂, hns.ns (N _ (HA.2 _ (.head _))).1, fun h' hs' => ?_⟩
  exact k (.ref D) ((D, T.ao ys) :: os) _ _ (hF D) rfl (HR.dropEx H hexC (ns_notTup hns) fun b x hb e => hs'.extBut b x hb e) ((q1.trans q2).trans ⟨rfl, rfl, rfl⟩)

theorem RS.dropGen {h₀ : Heap} {L I : Addr} {env : Env} {fx : List (Addr × Obj)} {io : Obj} {h h' : Heap} (hL : env.locals = L) (rs : RS P.prog w h₀ L env ((I, io) :: fx) vars objs h) (hfx : ∀ p ∈ fx, p.1 ≠ I) (hnt : ∀ l n, io ≠ tupObj l n) (hnc : ∀ v, io.data ≠ .cell v) (hk : ∀ b x, b ≠ I → h.get? b = some x → h'.get? b = some x) :
    RS P.prog w h₀ L env fx vars objs h' := by
  refine hideG fun Xg hXg => ?_
  obtain ⟨hn, m, ce, H, V, C⟩ := rs
  refine hXg ?_
  have hIL : I ≠ L := by
    refine hideG fun Xg hXg => ?_
    obtain ⟨F, all, N, HA⟩ := id H
    refine hXg ?_
    exact (N _ (HA.2 _ (.head _))).2.1
  have hce : ∀ q ∈ ce, q.1 ≠ I := fun q hq => (C.2.2 _ (.head _) q hq).symm
  refine ⟨hn, m, ce, HR.dropEx (e2 := fx ++ ce) H (fun p hp => ?_) hnt hk, fun p hp => ?_, C.1, C.2.1, fun p hp q hq => C.2.2 p (.tail _ hp) q hq⟩
  · rcases List.mem_append.mp hp with q | q
    · exact hfx p q
    · exact hce p q
  · have back : ∀ q ∈ (I, io) :: fx ++ ce, q ≠ (I, io) → q ∈ fx ++ ce := fun q hq hne => by
      rcases List.mem_append.mp hq with z | z
      · rcases List.mem_cons.mp z with e | z
        · exact absurd e hne
        · exact List.mem_append_left _ z
      · exact List.mem_append_right _ z
    obtain ⟨u, ru, q | q | q⟩ := V p hp
    · exact ⟨u, ru, .inl q⟩
    · refine hideG fun Xg hXg => ?_
      obtain ⟨q1, o, m₂, q2, q3, q4⟩ := q
      refine hXg ?_
      refine ⟨u, ru, .inr (.inl ⟨q1, o, m₂, back _ q2 (fun e => ?_), q3, q4⟩)⟩
      exact hIL ((Prod.mk.inj e).1.symm.trans hL)
    · refine hideG fun Xg hXg => ?_
      obtain ⟨q0, c', o2, q1, q2, q3⟩ := q
      refine hXg ?_
      refine ⟨u, ru, .inr (.inr ⟨q0, c', o2, q1, back _ q2 (fun e => ?_), q3⟩)⟩
      rw [(Prod.mk.inj e).2] at q3
      exact hnc _ q3
theorem S_assign_comp {β : Type} (T : AccT β) {elt iter : Expr} {ifs : List Expr} {scope : Scope} {pos : Pos} (G : TgtK) (fv : Vars) {y : Str} {py spos : Pos} {K : AF → Vars → Objs → Prop}
    (h : WE P w sc b iter vars objs fun v o => CompH T P w sc scope b G ifs elt fv v o fun ys o => ∀ D, ∃ vars', SetV y (.ref D) vars vars' ∧ K .next vars' ((D, T.ao ys) :: o)) (hS : CompScope sc scope G vars fv) (hs : ∀ env x, foldedSetIterable iter env x = pure x)
    (hy : sc.names.lookup y = some .local) (hsw : ∀ env : Env, env.scope = sc → swapsWith (.ListComp elt [⟨G.expr, iter, ifs, 0⟩] scope pos) (some (.Name y py)) spos.line env = pure true) :
    S1 P w sc b (.Assign [.Name y py] (.ListComp elt [⟨G.expr, iter, ifs, 0⟩] scope pos) spos) vars objs K := by
  intro A h₀ L fx env s Q E fxx eo hL rs k
  refine hideG fun Xg hXg => ?_
  obtain ⟨c1, c2, c3, c4, c5, c6⟩ := hS.all eo
  obtain ⟨cl, hclos, hcl⟩ := closureFor_of (scope := scope) c5
  refine hXg ?_
  rw [exec_Assign_Name_used _ _ _ _ (hsw env eo.scope)]
  refine wpAny_bind (wpAny_standAt (wpAny_bind ?_))
  show wpAny _ A (do let _ ← comprehension (.ListComp elt [⟨G.expr, iter, ifs, 0⟩] scope pos) scope env _ (newList []) false (eval iter env) (some (assign (.Name y py) env))) _ _ s
  refine wpAny_bind (wpAny_mono (wpAny_comprehension_free (use := some (assign (.Name y py) env)) (Q := fun _ s' => Q .next s') rfl (hs env) hclos c3 c4 ?_) (fun _ s' hq => wpAny_pure (wpAny_pure hq)) fun _ _ e => e)
  refine hideG fun Xg hXg => ?_
  obtain ⟨hn, m, ce, H0, V, C⟩ := rs
  refine hXg ?_
  refine h A h₀ L m (fx ++ ce) env s _ E fxx eo V H0 fun v o v' s1 h1 rv hr1 q1 => ?_
  refine hideG fun Xg hXg => ?_
  obtain ⟨S, M, Inv, rfl, hM, hi, hI, hrn, htn⟩ := h1
  refine hXg ?_
  rw [show v' = S.val from rv]
  refine comp_src T S G Inv _ M fxx eo V hM hI hrn htn c2 c3 c1 hcl c6 hr1 hi fun D Cc s' oC m₂ ys os hns hF H hexC q2 => ?_
  refine hideG fun Xg hXg => ?_
  obtain ⟨vars', hsv, hK⟩ := hF D
  refine hXg ?_
  have rs1 : RS P.prog w h₀ L env ((Cc, oC) :: fx) vars ((D, T.ao ys) :: os) s'.heap := by
    refine ⟨hn, m, ce, H, fun p hp => ?_, C.1, C.2.1, fun p hp q hq => ?_⟩
    · obtain ⟨u, ru, q | q | q⟩ := V p hp
      · exact ⟨u, ru, .inl q⟩
      · refine hideG fun Xg hXg => ?_
        obtain ⟨q1, o, m₂, q2, q3, q4⟩ := q
        refine hXg ?_
        exact ⟨u, ru, .inr (.inl ⟨q1, o, m₂, .tail _ q2, q3, q4⟩)⟩
      · refine hideG fun Xg hXg => ?_
        obtain ⟨q0, c', o2, q1, q2, q3⟩ := q
        refine hXg ?_
        exact ⟨u, ru, .inr (.inr ⟨q0, c', o2, q1, .tail _ q2, q3⟩)⟩
    · rcases List.mem_cons.mp hp with rfl | hp
      · exact (hexC q (List.mem_append_right _ hq)).symm
      · exact C.2.2 p hp q hq
  show wpAny _ A (assign (.Name y py) env (.ref D)) _ E s'
  refine wpAny_assign_Name (RS.store eo hL rs1 hsv rfl (.inl hy) fun s2 rs2 q3 => ?_)
  have hCn : s2.heap.Ns Cc m₂ := by
    refine hideG fun Xg hXg => ?_
    obtain ⟨_, m', ce', ⟨F, all, N, HA⟩, _, _⟩ := rs2
    refine hXg ?_
    exact hns.ns (N _ (HA.2 _ (.head _))).1
  refine ⟨m₂, hCn, fun h' hs' => ?_⟩
  refine k .next vars' ((D, T.ao ys) :: os) .next _ hK rfl (RS.dropGen hL rs2 (fun p hp => hexC p (List.mem_append_left _ hp)) (ns_notTup hns) (fun v e => ?_) fun b x hb e => hs'.extBut b x hb e) (((q1.trans q2).trans q3).trans ⟨rfl, rfl, rfl⟩)
  refine hideG fun Xg hXg => ?_
  obtain ⟨es, ep, e2, -⟩ := hns
  refine hXg ?_
  rw [e2] at e; cases e

/- the four sources, for the user -/
variable {β : Type} {T : AccT β} {scope : Scope} {x y : Str} {px py tp : Pos} {kt : Nat} {ifs : List Expr} {elt : Expr} {fv : Vars} {o : Objs} {K : List β → Objs → Prop} {l : Addr}
theorem CompH.list {ns : List Int} (Inv : Nat → List β → Objs → Prop) (hl : ns.length < 1000) (h0 : Inv 0 [] o)
    (hm : ∀ i ys o, Inv i ys o → (l, AO.ints ns) ∈ o) (ht : ∀ i k ys o, ns[i]? = some k → Inv i ys o → CTurn T P w (relS scope sc) b ifs elt ((x, .int k) :: fv) o ys (Inv (i + 1))) (hf : ∀ ys o, Inv ns.length ys o → K ys o) :
    CompH T P w sc scope b (.one x px) ifs elt fv (.ref l) o K := by
  refine ⟨.list l, ns.length, fun i ys o => i ≤ ns.length ∧ Inv i ys o, rfl, hl, ⟨Nat.zero_le _, h0⟩, ?_, ?_, ?_⟩
  · rintro i ys o ⟨hi, hI⟩
    refine ⟨hi, ⟨ns, hm _ _ _ hI⟩, ?_, ?_⟩
    · rintro bv hn ⟨ns', hm', e⟩
      obtain rfl := AO.ints.inj (objs_key hn (hm _ _ _ hI) hm')
      cases hk : ns[i]? with
      | none => rw [hk] at e; cases e
      | some k =>
        rw [hk] at e
        obtain rfl := Option.some.inj e
        have hlt : i < ns.length := by
          rcases Nat.lt_or_ge i ns.length with q | q
          · exact q
          · rw [List.getElem?_eq_none q] at hk; cases hk
        have := ht i k ys o hk hI
        intro A h₀ L m ex env s Q E fx eo vo hr kk
        exact this A h₀ L m ex env s Q E fx eo vo hr fun c o' c' s' a1 a2 a3 a4 => kk c o' c' s' ⟨fun e => WX.mono (a1.1 e) fun y o'' ⟨z, o2, hE, hJ⟩ => ⟨z, o2, hE, hlt, hJ⟩, fun e => ⟨hlt, a1.2 e⟩⟩ a2 a3 a4
    · rintro hn ⟨ns', hm', e⟩
      obtain rfl := AO.ints.inj (objs_key hn (hm _ _ _ hI) hm')
      cases hk : ns[i]? with
      | none =>
        have : i = ns.length := Nat.le_antisymm hi (List.getElem?_eq_none_iff.mp hk)
        subst this
        exact hf ys o hI
      | some k => rw [hk] at e; cases e
  · intro r a z c n e; cases e
  · intro t e; cases e
theorem CompH.rng {a z c : Int} {n : Nat} (Inv : Nat → List β → Objs → Prop) (hl : n < 1000) (h0 : Inv 0 [] o) (hsm : Builtin.Range.small a z c = true) (hsz : Builtin.Range.rangeSize a z c = (n : Int))
    (hm : ∀ i ys o, Inv i ys o → (l, AO.rng a z c) ∈ o) (ht : ∀ i ys o, i < n → Inv i ys o → CTurn T P w (relS scope sc) b ifs elt ((x, .int (a + i * c)) :: fv) o ys (Inv (i + 1))) (hf : ∀ ys o, Inv n ys o → K ys o) :
    CompH T P w sc scope b (.one x px) ifs elt fv (.ref l) o K := by
  refine ⟨.rng l a z c n, n, fun i ys o => i ≤ n ∧ Inv i ys o, rfl, hl, ⟨Nat.zero_le _, h0⟩, ?_, ?_, ?_⟩
  · rintro i ys o ⟨hi, hI⟩
    refine ⟨hi, ⟨hm _ _ _ hI, hsm, hsz⟩, ?_, ?_⟩
    · intro bv hn e
      have e : some bv = if i < n then some [(x, AV.int (a + i * c))] else none := e
      by_cases hlt : i < n
      · rw [if_pos hlt] at e
        obtain rfl := Option.some.inj e
        have := ht i ys o hlt hI
        intro A h₀ L m ex env s Q E fx eo vo hr kk
        exact this A h₀ L m ex env s Q E fx eo vo hr fun c o' c' s' a1 a2 a3 a4 => kk c o' c' s' ⟨fun e => WX.mono (a1.1 e) fun y o'' ⟨z, o2, hE, hJ⟩ => ⟨z, o2, hE, hlt, hJ⟩, fun e => ⟨hlt, a1.2 e⟩⟩ a2 a3 a4
      · rw [if_neg hlt] at e; cases e
    · intro hn e
      have e : none = if i < n then some [(x, AV.int (a + i * c))] else none := e
      by_cases hlt : i < n
      · rw [if_pos hlt] at e; cases e
      · have : i = n := by (first | lia | omega)
        subst this
        exact hf ys o hI
  · intro r a z c n e
    cases e
    exact ⟨Nat.le_refl _, fun i ys o h => h.1⟩
  · intro t e; cases e
theorem CompH.pairs {ps : List (Int × Int)} (Inv : Nat → List β → Objs → Prop) (hxy : x ≠ y) (hl : ps.length < 1000) (h0 : Inv 0 [] o)
    (hm : ∀ i ys o, Inv i ys o → (l, AO.pairs ps) ∈ o) (ht : ∀ i k ys o, ps[i]? = some k → Inv i ys o → CTurn T P w (relS scope sc) b ifs elt ((x, .int k.1) :: (y, .int k.2) :: fv) o ys (Inv (i + 1))) (hf : ∀ ys o, Inv ps.length ys o → K ys o) :
    CompH T P w sc scope b (.two x y px py tp kt) ifs elt fv (.ref l) o K := by
  refine ⟨.pairs l, ps.length, fun i ys o => i ≤ ps.length ∧ Inv i ys o, rfl, hl, ⟨Nat.zero_le _, h0⟩, ?_, ?_, ?_⟩
  · rintro i ys o ⟨hi, hI⟩
    refine ⟨hi, ⟨hxy, ps, hm _ _ _ hI⟩, ?_, ?_⟩
    · rintro bv hn ⟨ns', hm', e⟩
      obtain rfl := AO.pairs.inj (objs_key hn (hm _ _ _ hI) hm')
      cases hk : ps[i]? with
      | none => rw [hk] at e; cases e
      | some k =>
        rw [hk] at e
        obtain rfl := Option.some.inj e
        have hlt : i < ps.length := by
          rcases Nat.lt_or_ge i ps.length with q | q
          · exact q
          · rw [List.getElem?_eq_none q] at hk; cases hk
        have := ht i k ys o hk hI
        intro A h₀ L m ex env s Q E fx eo vo hr kk
        exact this A h₀ L m ex env s Q E fx eo vo hr fun c o' c' s' a1 a2 a3 a4 => kk c o' c' s' ⟨fun e => WX.mono (a1.1 e) fun y o'' ⟨z, o2, hE, hJ⟩ => ⟨z, o2, hE, hlt, hJ⟩, fun e => ⟨hlt, a1.2 e⟩⟩ a2 a3 a4
    · rintro hn ⟨ns', hm', e⟩
      obtain rfl := AO.pairs.inj (objs_key hn (hm _ _ _ hI) hm')
      cases hk : ps[i]? with
      | none =>
        have : i = ps.length := Nat.le_antisymm hi (List.getElem?_eq_none_iff.mp hk)
        subst this
        exact hf ys o hI
      | some k => rw [hk] at e; cases e
  · intro r a z c n e; cases e
  · intro t e; cases e
end
end Mine
end
section
open PySem PySem.W PySem.Spec PySem.Calls PyProof.Rows PyProof.Rows.LCg
namespace Mine
section
variable {P : Pg} {w : World} {sc : Scope} {b : Nat} {vars : Vars} {objs objs' : Objs}
theorem WE_globR {x : Str} {pos : Pos} {v : Value} {K : AV → Objs → Prop} (e : nsIn (P.K w.params) mainGlobals x = some (some v)) (hx : sc.names.lookup x = some .globalImplicit) (h : K (.val v) objs)
    (hd : (x == ("__debug__" : Str)) = false) : WE P w sc b (.Name x pos) vars objs K := WE_glob (a := .val v) e hx rfl h hd
theorem WE_globI {x : Str} {pos : Pos} {i : Int} {t : Tok} {K : AV → Objs → Prop} (e : nsIn (P.K w.params) mainGlobals x = some (some (.int i t))) (hx : sc.names.lookup x = some .globalImplicit) (h : K (.int i) objs)
    (hd : (x == ("__debug__" : Str)) = false) : WE P w sc b (.Name x pos) vars objs K := WE_glob (a := .int i) e hx ⟨t, rfl⟩ h hd
theorem WA_nil {K : List AV → Objs → Prop} (h : K [] objs) : WA P w sc b vars [] objs K := h
theorem WA_cons {e : Expr} {es : List Expr} {K : List AV → Objs → Prop} (h : WE P w sc b e vars objs fun v o' => WA P w sc b vars es o' fun vs o'' => K (v :: vs) o'') : WA P w sc b vars (e :: es) objs K := h
theorem IArgs_nil : IArgs [] [] := trivial
theorem IArgs_cons {i : Int} {r : List AV} {l : List Int} (h : IArgs r l) : IArgs (.int i :: r) (i :: l) := ⟨rfl, h⟩
theorem small_bits {i : Int} (h1 : -4611686018427387904 < i) (h2 : i < 4611686018427387904) : Builtin.Int.intBits i ≤ 64 := by
  unfold Builtin.Int.intBits
  split
  · exact Nat.zero_le _
  · rename_i h
    have h0 : i.natAbs ≠ 0 := fun e => h (by simpa using e)
    have : i.natAbs.log2 < 63 := (Nat.log2_lt h0).mpr (by (first | lia | omega))
    (first | lia | omega)
theorem Bin_mulS {i j : Int} {K : AV → Objs → Prop} (h1 : -4611686018427387904 < i) (h2 : i < 4611686018427387904) (h : K (.int (i * j)) objs) : Bin P w b .Mult (.int i) (.int j) objs K := Bin_mul (IntMulOk.of_left (small_bits h1 h2)) h
theorem Bin_divS {i j : Int} {K : AV → Objs → Prop} (h1 : 0 < j) (h2 : j < 4611686018427387904) (h : K (.int (i.fdiv j)) objs) : Bin P w b .FloorDiv (.int i) (.int j) objs K := by
  refine Bin_div (by (first | lia | omega)) (PyProof.noPylong_of_log2 ?_) h
  have : j.natAbs.log2 < 63 := (Nat.log2_lt (by (first | lia | omega))).mpr (by (first | lia | omega))
  (first | lia | omega)
/- tuples unpacked -/
theorem RS.frame {h₀ : Heap} {L : Addr} {env : Env} {fx : List (Addr × Obj)} {h : Heap} (rs : RS P.prog w h₀ L env fx vars objs h) : ∃ m ce all, Fr h₀ L h m ∧ News h₀ L h all ∧ HA P.prog w (fx ++ ce) objs all ∧ (vars.map (·.1)).Nodup ∧ VarsOK L env m (fx ++ ce) vars ∧ CellsOK env fx ce := by
  refine hideG fun Xg hXg => ?_
  obtain ⟨hn, m, ce, ⟨F, all, N, H⟩, V, C⟩ := rs
  refine hXg ?_
  exact ⟨m, ce, all, F, N, H, hn, V, C⟩
noncomputable def TwoK (x y : Str) (vars : Vars) (K : AF → Vars → Objs → Prop) (v : AV) (o : Objs) : Prop := ∃ (T : Addr) (u z : AV) (v1 v2 : Vars), v = .ref T ∧ (T, .tup [u, z]) ∈ o ∧ SetV x u vars v1 ∧ SetV y z v1 v2 ∧ K .next v2 o
noncomputable def TwoS (x y : Str) (vars : Vars) (K : AF → Vars → Objs → Prop) (v : AV) (o : Objs) : Prop := ∃ (T : Addr) (u z : AV) (v1 v2 : Vars), v = .ref T ∧ (T, .tup [u, z]) ∈ o ∧ SetV y z vars v1 ∧ SetV x u v1 v2 ∧ K .next v2 o
theorem TwoK.mk {x y : Str} {vars v1 v2 : Vars} {K : AF → Vars → Objs → Prop} {T : Addr} {u z : AV} {o : Objs} (z0 : (T, .tup [u, z]) ∈ o) (z1 : SetV x u vars v1) (z2 : SetV y z v1 v2) (zk : K .next v2 o) : TwoK x y vars K (.ref T) o := ⟨T, u, z, v1, v2, rfl, z0, z1, z2, zk⟩
theorem TwoS.mk {x y : Str} {vars v1 v2 : Vars} {K : AF → Vars → Objs → Prop} {T : Addr} {u z : AV} {o : Objs} (z0 : (T, .tup [u, z]) ∈ o) (z1 : SetV y z vars v1) (z2 : SetV x u v1 v2) (zk : K .next v2 o) : TwoS x y vars K (.ref T) o := ⟨T, u, z, v1, v2, rfl, z0, z1, z2, zk⟩
/-- two names from a written pair, the names stored from behind (both local) -/
theorem S_two_swapped {x y : Str} {px py tp pos : Pos} {kt : Nat} {e : Expr} {K : AF → Vars → Objs → Prop}
    (h : WE P w sc b e vars objs (TwoS x y vars K))
    (hx : sc.names.lookup x = some .local) (hy : sc.names.lookup y = some .local)
    (hs : ∀ env : Env, env.scope = sc → swapsWithSole [.Tuple [.Name x px, .Name y py] kt tp] e pos.line env = pure false) (hw : ∀ env : Env, env.scope = sc → swappedStores [.Tuple [.Name x px, .Name y py] kt tp] e env = pure (some [x, y])) :
    S1 P w sc b (.Assign [.Tuple [.Name x px, .Name y py] kt tp] e pos) vars objs K := by
  intro A h₀ L fx env s Q E fxx eo hL rs k
  refine Assign_Tuple_swapped (names := [x, y]) (RS.run h fxx eo rs fun v o v' s1 h1 rv rs1 q1 => ?_) (hs env eo.scope) (hw env eo.scope)
  refine hideG fun Xg hXg => ?_
  obtain ⟨T, u, z, v1, v2, rfl, hm, hs1, hs2, hK⟩ := h1
  refine hXg ?_
  rw [show v' = .ref T from rv]
  refine hideG fun Xg hXg => ?_
  obtain ⟨m, ce, all, F, N, HA, hn, V, C⟩ := rs1.frame
  obtain ⟨o1, hin, us, n, rfl, hf⟩ := HA.3 _ hm
  refine hXg ?_
  obtain ⟨u', z', rfl, ru, rz⟩ : ∃ u' z', us = [u', z'] ∧ RV u u' ∧ RV z z' := by
    cases hf with | cons b1 b2 => cases b2 with | cons b3 b4 => cases b4; exact ⟨_, _, rfl, b1, b3⟩
  have ht : IsTup s1.heap T #[u', z'] := ⟨_, (N _ hin).1, rfl, n, rfl⟩
  refine unpackItemsN_ F N ht fxx.hh rfl fun h' F' N' => ?_
  show wpAny _ A (assignInOrder [bindName env y, bindName env x] [z', u']) _ E { s1 with heap := h' }
  have rs1' : RS P.prog w h₀ L env fx vars o h' := ⟨hn, m, ce, ⟨F', all, N', HA⟩, V, C⟩
  refine assignInOrder_cons (PyProof.Rows.bindName_ (RS.store (s := { s1 with heap := h' }) eo hL rs1' hs1 rz (.inl hy) fun s2 rs2 q2 => ?_))
  refine assignInOrder_cons (PyProof.Rows.bindName_ (RS.store eo hL rs2 hs2 ru (.inl hx) fun s3 rs3 q3 => ?_))
  refine assignInOrder_nil ?_
  exact k .next v2 o .next s3 hK rfl rs3 (q1.trans (Same.trans (s' := s2) ⟨q2.1, q2.2, q2.3⟩ q3))
/-- two names from a pair, in order -/
theorem S_two {x y : Str} {px py tp pos : Pos} {kt : Nat} {e : Expr} {K : AF → Vars → Objs → Prop}
    (h : WE P w sc b e vars objs (TwoK x y vars K))
    (hx : sc.names.lookup x = some .local ∨ sc.names.lookup x = some .cell) (hy : sc.names.lookup y = some .local ∨ sc.names.lookup y = some .cell)
    (hs : ∀ env : Env, env.scope = sc → swapsWithSole [.Tuple [.Name x px, .Name y py] kt tp] e pos.line env = pure false) (hw : ∀ env : Env, env.scope = sc → swappedStores [.Tuple [.Name x px, .Name y py] kt tp] e env = pure none) :
    S1 P w sc b (.Assign [.Tuple [.Name x px, .Name y py] kt tp] e pos) vars objs K := by
  intro A h₀ L fx env s Q E fxx eo hL rs k
  refine Assign_Tuple (RS.run h fxx eo rs fun v o v' s1 h1 rv rs1 q1 => ?_) (hs env eo.scope) (hw env eo.scope)
  refine hideG fun Xg hXg => ?_
  obtain ⟨T, u, z, v1, v2, rfl, hm, hs1, hs2, hK⟩ := h1
  refine hXg ?_
  rw [show v' = .ref T from rv]
  refine hideG fun Xg hXg => ?_
  obtain ⟨m, ce, all, F, N, HA, hn, V, C⟩ := rs1.frame
  obtain ⟨o1, hin, us, n, rfl, hf⟩ := HA.3 _ hm
  refine hXg ?_
  obtain ⟨u', z', rfl, ru, rz⟩ : ∃ u' z', us = [u', z'] ∧ RV u u' ∧ RV z z' := by
    cases hf with | cons b1 b2 => cases b2 with | cons b3 b4 => cases b4; exact ⟨_, _, rfl, b1, b3⟩
  have ht : s1.heap.IsTuple T #[u', z'] := ⟨_, (N _ hin).1, rfl, n, rfl⟩
  refine wpAny_assign_Tuple fxx.hh ht rfl rfl fun h₁ he₁ => ?_
  have hk : ∀ c o, s1.heap.get? c = some o → h₁.get? c = some o := fun c o e => he₁ c o (Nat.ne_of_lt (Heap.lt_size e)) e
  have rs1' : RS P.prog w h₀ L env fx vars o h₁ := ⟨hn, m, ce, ⟨F.kept hk, all, N.grown hk, HA⟩, V, C⟩
  show wpAny _ A (assignInOrder [assign (.Name x px) env, assign (.Name y py) env] [u', z']) _ E { s1 with heap := h₁ }
  refine assignInOrder_cons (wpAny_assign_Name (RS.store (s := { s1 with heap := h₁ }) eo hL rs1' hs1 ru hx fun s2 rs2 q2 => ?_))
  refine assignInOrder_cons (wpAny_assign_Name (RS.store eo hL rs2 hs2 rz hy fun s3 rs3 q3 => ?_))
  refine assignInOrder_nil ?_
  exact k .next v2 o .next s3 hK rfl rs3 (q1.trans (Same.trans (s' := s2) ⟨q2.1, q2.2, q2.3⟩ q3))

/- framing: a call run upon a part of the objects -/
noncomputable def notTupAO : AO → Bool
  | .tup _ => false
  | .opq _ => false
  | _ => true
theorem notTup_of {prog : Program} {all : List (Addr × Obj)} {a : Addr} {ao : AO} {o : Obj} {h₀ h₁ : Heap} {L : Addr} (N : News h₀ L h₁ all) (hin : (a, o) ∈ all) (h : OR prog w all a ao o) (hn : notTupAO ao = true) : ∀ l n, o ≠ tupObj l n := by
  intro l n e
  subst e
  cases ao with
  | «ints» l => obtain ⟨vs, n, e, _⟩ := h; have := congrArg Obj.cls e; injection this with this; revert this; decide
  | «pairs» l => obtain ⟨vs, n, e, _⟩ := h; have := congrArg Obj.cls e; injection this with this; revert this; decide
  | tup l => cases hn
  | opq q => cases hn
  | dict kvs =>
    obtain ⟨lo, ks, hd, _⟩ := h
    obtain ⟨o', a1, a2⟩ := (kda_dict (s := { heap := h₁ }) N hin hd).typeIs
    have h2 := (N _ hin).1
    dsimp only at h2 a1
    rw [h2] at a1
    cases a1
    injection a2 with a2; revert a2; decide
  | idict kvs => obtain ⟨vs, n, e, _⟩ := h; have := congrArg Obj.cls e; injection this with this; revert this; decide
  | inst C d => have := congrArg Obj.cls (show tupObj l n = instObj C d from h); cases this
  | rng x y z => obtain ⟨t, u, v, e⟩ := h; have := congrArg Obj.cls e; injection this with this; revert this; decide
theorem CL.frame {α β : Type} {t : Sem α} {R : β → α → Prop} {O whole : Objs} {KO K : β → Objs → Prop} (h : CL P w b t R O KO) (hsub : ∀ p ∈ O, p ∈ whole) (hnt : (O.all fun p => notTupAO p.2) = true) (hO : (whole.map (·.1)).Nodup → (O.map (·.1)).Nodup)
    (hk : ∀ v O', KO v O' → (whole.map (·.1)).Nodup → (O'.map (·.1)).Nodup → (∀ p ∈ O', ∀ q ∈ whole, (∀ z ∈ O, z.1 ≠ q.1) → p.1 ≠ q.1) → ∃ whole', K v whole' ∧ (whole'.map (·.1)).Nodup ∧ ∀ p ∈ whole', p ∈ O' ∨ (p ∈ whole ∧ ∀ q ∈ O, q.1 ≠ p.1)) : CL P w b t R whole K := by
  intro A h₀ L m ex s Q E fx hr k
  obtain ⟨F, all, N, a1, a2, a3, a4, a5⟩ := hr
  have hkey : ∀ p ∈ O, ∃ o, (p.1, o) ∈ all ∧ OR P.prog w all p.1 p.2 o := fun p hp => a3 p (hsub p hp)
  let ex' := all.filter fun p => !(O.map (·.1)).contains p.1
  have hex : ∀ p, p ∈ ex' ↔ p ∈ all ∧ p.1 ∉ O.map (·.1) := fun p => by
    simp only [ex', List.mem_filter, Bool.not_eq_true', List.contains_eq_mem, decide_eq_false_iff_not]
  have hin : HR P.prog w h₀ L m ex' O s.heap := by
    refine ⟨F, all, N, a1, fun p hp => ((hex p).mp hp).1, hkey, hO a4, fun p hp q hq e => ?_⟩
    exact ((hex q).mp hq).2 (e ▸ List.mem_map_of_mem hp)
  refine h A h₀ L m ex' s Q E fx hin fun v O' v' s' hKO rv hr' q => ?_
  obtain ⟨F', all', N', b1, b2, b3, b4, b5⟩ := hr'
  obtain ⟨whole', hK, hn', hw⟩ := hk v O' hKO a4 b4 fun p hp q hq hz => by
    obtain ⟨o, c1, c2⟩ := a3 q hq
    refine b5 p hp (q.1, o) ((hex _).mpr ⟨c1, fun hm => ?_⟩)
    obtain ⟨p', hp', e⟩ := List.mem_map.mp hm
    exact hz p' hp' e
  have tup : ∀ c l n, (c, tupObj l n) ∈ all → (c, tupObj l n) ∈ all' := fun c l n hc => by
    refine b2 _ ((hex _).mpr ⟨hc, fun hm => ?_⟩)
    obtain ⟨p, hp, e⟩ := List.mem_map.mp hm
    obtain ⟨o, h1, h2⟩ := hkey p hp
    rw [List.all_eq_true] at hnt
    exact notTup_of N h1 h2 (hnt p hp) l n (nodup_key a1 (show (c, o) ∈ all from (show p.1 = c from e) ▸ h1) hc)
  refine k v whole' v' s' hK rv ⟨F', all', N', b1, fun p hp => ?_, fun p hp => ?_, hn', fun p hp q hq => ?_⟩ q
  · refine b2 p ((hex p).mpr ⟨a2 p hp, fun hm => ?_⟩)
    obtain ⟨p', hp', e⟩ := List.mem_map.mp hm
    exact a5 p' (hsub p' hp') p hp e
  · rcases hw p hp with h1 | ⟨h1, h2⟩
    · exact b3 p h1
    · obtain ⟨o, c1, c2⟩ := a3 p h1
      refine ⟨o, b2 _ ((hex _).mpr ⟨c1, fun hm => ?_⟩), c2.more tup⟩
      obtain ⟨p', hp', e⟩ := List.mem_map.mp hm
      exact h2 p' hp' e
  · rcases hw p hp with h1 | ⟨h1, h2⟩
    · refine b5 p h1 q ((hex q).mpr ⟨a2 q hq, fun hm => ?_⟩)
      obtain ⟨p', hp', e⟩ := List.mem_map.mp hm
      exact a5 p' (hsub p' hp') q hq e
    · exact a5 p h1 q hq
end
end Mine
end
section
open PySem PySem.W PySem.Spec PySem.Calls PyProof.Rows PyProof.Rows.LCg
namespace Mine
section
variable {P : Pg} {w : World} {sc : Scope} {b : Nat} {β : Type} {T : AccT β} {scope : Scope} {x y : Str} {px py tp : Pos} {kt : Nat} {ifs : List Expr} {elt : Expr} {fv : Vars} {o : Objs} {K : List β → Objs → Prop} {l : Addr}
theorem take_fm {α : Type} {ns : List α} {f : α → Option β} {i : Nat} {k : α} (h : ns[i]? = some k) : (ns.take (i + 1)).filterMap f = (ns.take i).filterMap f ++ (f k).toList := by
  rw [List.take_add_one, h, List.filterMap_append]
  congr 1
theorem CompH.list_f {ns : List Int} (f : Int → Option β) (hl : ns.length < 1000) (hm : (l, AO.ints ns) ∈ o)
    (ht : ∀ k, k ∈ ns → ∀ ys J, J (ys ++ (f k).toList) o → CTurn T P w (relS scope sc) b ifs elt ((x, .int k) :: fv) o ys J) (hf : K (ns.filterMap f) o) :
    CompH T P w sc scope b (.one x px) ifs elt fv (.ref l) o K := by
  refine CompH.list (ns := ns) (fun i ys o' => o' = o ∧ ys = (ns.take i).filterMap f) hl ⟨rfl, rfl⟩ (fun i ys o' h => h.1 ▸ hm) (fun i k ys o' hk h => ?_) (fun ys o' h => ?_)
  · obtain ⟨rfl, rfl⟩ := h
    exact ht k (List.mem_of_getElem? hk) _ _ ⟨rfl, (take_fm hk).symm⟩
  · obtain ⟨rfl, rfl⟩ := h
    rw [List.take_length]; exact hf
theorem rangeSize_one {a z : Int} : Builtin.Range.rangeSize a z 1 = ((z - a).toNat : Int) := by
  unfold Builtin.Range.rangeSize
  split
  · (first | lia | omega)
  · (first | lia | omega)
theorem CompH.rng_f {a z : Int} (f : Int → Option β) (h0 : -1000 < a) (h1 : z < 1000) (h2 : z - a < 1000) (h3 : a < 1000) (h4 : -1000 < z) (hm : (l, AO.rng a z 1) ∈ o)
    (ht : ∀ k, a ≤ k → k < z → ∀ ys J, J (ys ++ (f k).toList) o → CTurn T P w (relS scope sc) b ifs elt ((x, .int k) :: fv) o ys J) (hf : K ((rangeKs a (z - a).toNat).filterMap f) o) :
    CompH T P w sc scope b (.one x px) ifs elt fv (.ref l) o K := by
  have hget : ∀ i : Nat, i < (z - a).toNat → (rangeKs a (z - a).toNat)[i]? = some (a + i) := fun i hi => by
    unfold rangeKs; rw [List.getElem?_map, List.getElem?_range hi]; rfl
  have hlen : (rangeKs a (z - a).toNat).length = (z - a).toNat := by unfold rangeKs; simp
  refine CompH.rng (a := a) (z := z) (c := 1) (n := (z - a).toNat) (fun i ys o' => o' = o ∧ ys = ((rangeKs a (z - a).toNat).take i).filterMap f) (by (first | lia | omega)) ⟨rfl, rfl⟩ ?_ rangeSize_one (fun i ys o' h => h.1 ▸ hm) (fun i ys o' hk h => ?_) (fun ys o' h => ?_)
  · exact small_one (by (first | lia | omega)) (by (first | lia | omega)) (by (first | lia | omega)) (by (first | lia | omega))
  · obtain ⟨rfl, rfl⟩ := h
    rw [Int.mul_one]
    exact ht _ (by (first | lia | omega)) (by (first | lia | omega)) _ _ ⟨rfl, (take_fm (hget i hk)).symm⟩
  · obtain ⟨rfl, rfl⟩ := h
    rw [List.take_of_length_le (Nat.le_of_eq hlen)]; exact hf
theorem pairs_f {ps : List (Int × Int)} (f : Int × Int → Option β) (hxy : x ≠ y) (hl : ps.length < 1000) (hm : (l, AO.pairs ps) ∈ o)
    (ht : ∀ k, k ∈ ps → ∀ ys J, J (ys ++ (f k).toList) o → CTurn T P w (relS scope sc) b ifs elt ((x, .int k.1) :: (y, .int k.2) :: fv) o ys J) (hf : K (ps.filterMap f) o) :
    CompH T P w sc scope b (.two x y px py tp kt) ifs elt fv (.ref l) o K := by
  refine CompH.pairs (ps := ps) (fun i ys o' => o' = o ∧ ys = (ps.take i).filterMap f) hxy hl ⟨rfl, rfl⟩ (fun i ys o' h => h.1 ▸ hm) (fun i k ys o' hk h => ?_) (fun ys o' h => ?_)
  · obtain ⟨rfl, rfl⟩ := h
    exact ht k (List.mem_of_getElem? hk) _ _ ⟨rfl, (take_fm hk).symm⟩
  · obtain ⟨rfl, rfl⟩ := h
    rw [List.take_length]; exact hf
end
theorem fv_nil {scope : Scope} {vars : Vars} : ∀ p ∈ ([] : Vars), p ∈ vars ∧ scope.names.lookup p.1 = some .free := fun _ h => nomatch h
theorem fv_cons {scope : Scope} {vars r : Vars} {p : Str × AV} (h1 : p ∈ vars) (h2 : scope.names.lookup p.1 = some .free) (h : ∀ p ∈ r, p ∈ vars ∧ scope.names.lookup p.1 = some .free) : ∀ q ∈ p :: r, q ∈ vars ∧ scope.names.lookup q.1 = some .free := by
  intro q hq
  rcases List.mem_cons.mp hq with rfl | hq
  · exact ⟨h1, h2⟩
  · exact h q hq
theorem putA_nil {k : Str} {v : AV} : putA k v [] = [(k, v)] := rfl
theorem putA_head {k : Str} {u v : AV} {r : List (Str × AV)} : putA k v ((k, u) :: r) = (k, v) :: r := if_pos rfl
theorem putA_tail {k y : Str} {u v : AV} {r r' : List (Str × AV)} (h : y ≠ k) (e : putA k v r = r') : putA k v ((y, u) :: r) = (y, u) :: r' := (if_neg h).trans (congrArg _ e)
end Mine
end
section
open PySem PySem.W PySem.Spec PySem.Calls PyProof.Rows PyProof.Rows.LCg
namespace Mine
end Mine
end
section
open PySem PySem.W PySem.Spec PySem.Calls PyProof.Rows PyProof.Rows.LCg
namespace Mine
section
variable {P : Pg} {w : World} {sc : Scope} {b : Nat} {vars : Vars} {objs objs' : Objs}
theorem HR.exToObj {prog : Program} {w : World} {h₀ : Heap} {L c : Addr} {m : Str → Option Value} {o o' : Obj} {e2 : List (Addr × Obj)} {objs : Objs} {h h' : Heap} {ao : AO} (H : HR prog w h₀ L m ((c, o) :: e2) objs h) (hne : ∀ p ∈ e2, p.1 ≠ c) (hnt : ∀ l n, o ≠ tupObj l n)
    (hk : ∀ b x, b ≠ c → h.get? b = some x → h'.get? b = some x) (ho : h'.get? c = some o') (hor : ∀ all, OR prog w all c ao o') : HR prog w h₀ L m e2 ((c, ao) :: objs) h' := by
  obtain ⟨F, all, N, a1, a2, a3, a4, a5⟩ := H
  have hin : (c, o) ∈ all := a2 _ (.head _)
  have hI := N _ hin
  obtain ⟨pre, post, rfl, n1, n2⟩ := split_at a1 hin
  have F' : Fr h₀ L h' m := ⟨F.ns.at' fun o e => hk _ o (Ne.symm hI.2.1) e, fun b o e => hk b o (fun q => by rw [q, hI.2.2] at e; cases e) (F.keep b o e), F.above⟩
  have keep : ∀ b x, b ≠ c → (b, x) ∈ pre ++ (c, o) :: post → (b, x) ∈ pre ++ (c, o') :: post := fun b x hb hm => by
    rcases List.mem_append.mp hm with q | q
    · exact List.mem_append_left _ q
    · rcases List.mem_cons.mp q with e | q
      · exact absurd (Prod.mk.inj e).1 hb
      · exact List.mem_append_right _ (.tail _ q)
  have N' : News h₀ L h' (pre ++ (c, o') :: post) := fun p hp => by
    rcases List.mem_append.mp hp with q | q
    · have := N p (List.mem_append_left _ q); exact ⟨hk _ _ (n1 p q) this.1, this.2⟩
    · rcases List.mem_cons.mp q with rfl | q
      · exact ⟨ho, hI.2⟩
      · have := N p (List.mem_append_right _ (.tail _ q)); exact ⟨hk _ _ (n2 p q) this.1, this.2⟩
  refine ⟨F', _, N', ?_, fun p hp => keep _ _ (hne p hp) (a2 p (.tail _ hp)), fun p hp => ?_, ?_, fun p hp q hq => ?_⟩
  · rw [show (pre ++ (c, o') :: post).map (·.1) = (pre ++ (c, o) :: post).map (·.1) by simp]; exact a1
  · rcases List.mem_cons.mp hp with rfl | hp
    · exact ⟨o', List.mem_append_right _ (.head _), hor _⟩
    · obtain ⟨x, h1, h2⟩ := a3 p hp
      refine ⟨x, keep _ _ (a5 p hp _ (.head _)) h1, h2.more fun b l n hb => ?_⟩
      by_cases hbI : b = c
      · exfalso
        subst hbI
        exact hnt l n (nodup_key a1 (List.mem_append_right _ (.head _)) hb)
      · exact keep _ _ hbI hb
  · rw [List.map_cons, List.nodup_cons]
    refine ⟨fun hm => ?_, a4⟩
    obtain ⟨p, hp, e⟩ := List.mem_map.mp hm
    exact a5 p hp _ (.head _) e
  · rcases List.mem_cons.mp hp with rfl | hp
    · exact fun e => hne q hq e.symm
    · exact a5 p hp q (.tail _ hq)
/-- the pairs of a written dict, one by one -/
noncomputable def WD (P : Pg) (w : World) (sc : Scope) (b : Nat) (vars : Vars) : List (Option Expr) → List Expr → Objs → (List (Str × AV) → Objs → Prop) → Prop
  | some k :: ks, v :: vs, objs, K => WE P w sc b k vars objs fun kv o => ∃ y, kv = .str y ∧ WE P w sc b v vars o fun vv o' => WD P w sc b vars ks vs o' fun l o'' => K ((y, vv) :: l) o''
  | _, _, objs, K => K [] objs
noncomputable def DRel (p : Str × AV) (q : Value × Value) : Prop := (∃ t, q.1 = .str p.1 t) ∧ RV p.2 q.2
theorem WD_run {A : Around} {h₀ : Heap} {L : Addr} {m : Str → Option Value} {env : Env} {E : Value → Shared → Prop} {pos : Pos} (fx : Fx P w A h₀ L b) (eo : EnvOK sc L env) : ∀ (keys : List (Option Expr)) (values : List Expr) (ex : List (Addr × Obj)) (objs : Objs) (K : List (Str × AV) → Objs → Prop) (s : Shared)
    (Q : List (Value × Value) → Shared → Prop), VarsOK L env m ex vars → HR P.prog w h₀ L m ex objs s.heap → WD P w sc b vars keys values objs K →
    (∀ l o vs s', K l o → F2 DRel l vs → HR P.prog w h₀ L m ex o s'.heap → Same s s' → Q vs s') → wpAny (model P.prog w) A (evalPairs (pairTrees keys values env pos)) Q E s
  | [], _, ex, objs, K, s, Q, vo, hr, h, k => evalPairs_nil (k [] objs [] s h .nil hr Same.rfl)
  | none :: _, _, ex, objs, K, s, Q, vo, hr, h, k => evalPairs_nil (k [] objs [] s h .nil hr Same.rfl)
  | some _ :: _, [], ex, objs, K, s, Q, vo, hr, h, k => evalPairs_nil (k [] objs [] s h .nil hr Same.rfl)
  | some kx :: ks, v :: vs, ex, objs, K, s, Q, vo, hr, h, k => by
    refine evalPairs_cons ?_
    refine h A h₀ L m ex env s _ E fx eo vo hr fun kv o kv' s1 h1 rk hr1 q1 => ?_
    refine hideG fun Xg hXg => ?_
    obtain ⟨y, rfl, h2⟩ := h1
    refine hXg ?_
    refine wpAny_bind (h2 A h₀ L m ex env s1 _ E fx eo vo hr1 fun vv o' vv' s2 h3 rv hr2 q2 => ?_)
    refine wpAny_bind (wpAny_standAt (wpAny_pure ?_))
    exact WD_run fx eo ks vs ex o' _ s2 _ vo hr2 h3 fun l o vs s' a1 a2 a3 a4 => k _ o _ s' a1 (.cons ⟨rk, rv⟩ a2) a3 ((q1.trans q2).trans a4)
theorem merged_of {prog : Program} {w : World} : ∀ {l : List (Str × AV)} {vs : List (Value × Value)}, F2 DRel l vs → ∃ kvs : List (Str × Value), Carries (strKind prog w) vs kvs ∧ F2 (fun (p : Str × AV) (q : Str × Value) => q.1 = p.1 ∧ RV p.2 q.2) l kvs
  | _, _, .nil => ⟨[], trivial, .nil⟩
  | _, _, .cons (a := p) (b := q) ⟨⟨t, e⟩, rv⟩ r => by
    obtain ⟨kvs, h1, h2⟩ := merged_of (prog := prog) (w := w) r
    obtain ⟨q1, q2⟩ := q
    dsimp only at e rv
    subst e
    exact ⟨(p.1, q2) :: kvs, ⟨strKind_is _ _ _ _, rfl, h1⟩, .cons ⟨rfl, rv⟩ h2⟩
theorem F2.keys {l : List (Str × AV)} {kvs : List (Str × Value)} (h : F2 (fun (p : Str × AV) (q : Str × Value) => q.1 = p.1 ∧ RV p.2 q.2) l kvs) : kvs.map (·.1) = l.map (·.1) := by
  induction h with
  | nil => rfl
  | cons a _ ih => rw [List.map_cons, List.map_cons, ih, a.1]
theorem VarsOK.more {L : Addr} {env : Env} {m : Str → Option Value} {ex ex' : List (Addr × Obj)} {vars : Vars} (h : VarsOK L env m ex vars) (hs : ∀ p ∈ ex, p ∈ ex') : VarsOK L env m ex' vars := by
  intro p hp
  obtain ⟨u, ru, q | ⟨q1, o, m₂, q2, q3, q4⟩ | ⟨q0, c, o, q1, q2, q3⟩⟩ := h p hp
  · exact ⟨u, ru, .inl q⟩
  · exact ⟨u, ru, .inr (.inl ⟨q1, o, m₂, hs _ q2, q3, q4⟩)⟩
  · exact ⟨u, ru, .inr (.inr ⟨q0, c, o, q1, hs _ q2, q3⟩)⟩
theorem WE_dict {keys : List (Option Expr)} {values : List Expr} {pos : Pos} {K : AV → Objs → Prop} (h : WD P w sc b vars keys values objs fun l o => (l.map (·.1)).Nodup ∧ ∀ D, K (.ref D) ((D, .dict l) :: o))
    (h1 : keys.all (·.isSome) = true) (h2 : keys.length = values.length) (h3 : keys ≠ []) (h4 : keys.length ≤ 15) : WE P w sc b (.Dict keys values pos) vars objs K := by
  intro A h₀ L m ex env s Q E fx eo vo hr k
  have hn := pairTrees_length keys values env pos h1 h2
  have hp0 : pairTrees keys values env pos ≠ [] := fun he => h3 (List.length_eq_zero_iff.mp (by rw [← hn, he]; rfl))
  have hb : sysModules < h₀.objs.size := by
    obtain ⟨A₀, base, outer, fenv, mean, mg, mb, B, T, hA, hf, hke⟩ := fx.has
    exact modules_low (Top.nolimit T)
  obtain ⟨F, all, N, HA0⟩ := id hr
  have hsz : (s.heap.objs.size == sysModules) = false := F.notModules hb
  have hL : s.heap.objs.size ≠ L := Nat.ne_of_gt F.ns.lt
  have hf0 : h₀.get? s.heap.objs.size = none := Heap.get?_none_of_le (Nat.le_trans F.above (Nat.le_of_lt F.ns.lt))
  obtain ⟨H1, lt⟩ := hr.addEx (c := s.heap.objs.size) (o := { cls := .type "dict", data := .dict #[] }) (h' := s.heap.push { cls := .type "dict", data := .dict #[] }) (fun b x e => Heap.get?_push_of_some _ e) (fun p hp => Heap.lt_size hp) (Heap.get?_push_size _ rfl) hL hf0
  refine wpAny_Dict_pairs (knd := strKind P.prog w) (zip_pairTrees keys values env pos h1 h2) hp0 (by rw [hn]; exact h4) ?_
  refine WD_run fx eo keys values _ objs _ _ _ (vo.more fun p hp => .tail _ hp) H1 h fun l o vs s' hK hrel hr' q => ?_
  obtain ⟨kvs, hc, hf⟩ := merged_of (prog := P.prog) (w := w) hrel
  have hnd : (kvs.map (·.1)).Nodup := by rw [F2.keys hf]; exact hK.1
  have hat : s'.heap.get? s.heap.objs.size = some { cls := .type "dict", data := .dict #[] } := by
    obtain ⟨F', all', N', HA'⟩ := id hr'
    exact (N' _ (HA'.2 _ (.head _))).1
  have hd0 : s'.heap.DictOf (strKind P.prog w) s.heap.objs.size [] := by
    obtain ⟨o1, ho1, hd1⟩ := Heap.dictOf_iff.mp (Heap.DictOf.new (knd := strKind P.prog w) s.heap)
    rw [Heap.get?_push_size _ rfl] at ho1
    exact Heap.dictOf_iff.mpr ⟨_, hat, (Option.some.inj ho1) ▸ hd1⟩
  refine ⟨kvs, hc, hd0, fun h' hd' hsame => ?_⟩
  rw [merged_nil_of_nodup kvs hnd] at hd'
  obtain ⟨o', ho', hdo⟩ := Heap.dictOf_iff.mp hd'
  refine k (.ref s.heap.objs.size) _ _ _ (hK.2 _) rfl (hr'.exToObj (ao := .dict l) (fun p hp => Nat.ne_of_lt (lt p hp)) (fun l n e => by injection e with e; revert e; decide) (fun b x hb e => (hsame.2 b hb).trans e) ho' fun all => ⟨hsz, kvs, hdo, hf⟩) (q.trans ⟨rfl, rfl, rfl⟩)
theorem WD_nil {K : List (Str × AV) → Objs → Prop} (h : K [] objs) : WD P w sc b vars [] [] objs K := h
theorem WD_cons {k v : Expr} {ks : List (Option Expr)} {vs : List Expr} {K : List (Str × AV) → Objs → Prop} (h : WE P w sc b k vars objs fun kv o => ∃ y, kv = .str y ∧ WE P w sc b v vars o fun vv o' => WD P w sc b vars ks vs o' fun l o'' => K ((y, vv) :: l) o'') :
    WD P w sc b vars (some k :: ks) (v :: vs) objs K := h
theorem CallS.drop {f : Value} {args : List AV} {K : AV → Objs → Prop} (h : CallS P w b f args objs fun v o => ∃ o', Pick o' o ∧ K v o') : CallS P w b f args objs K := fun vs hv => CL.drop (h vs hv)
/-- a for over a list with a state -/
theorem for_state {σ : Type} {x : Str} {body : List Stmt} {D : Addr} {S : List Int} {V : σ → Vars} {O : σ → Objs} {K : AF → Vars → Objs → Prop} (f : σ → Int → σ) (s0 : σ) (hm : ∀ s, (D, AO.ints S) ∈ O s) (I : Nat → σ → Prop) (h0 : I 0 s0)
    (ht : ∀ i s k, S[i]? = some k → I i s → ∃ vs', SetV x (.int k) (V s) vs' ∧ SS P w sc b body vs' (O s) (loopK (dropK fun v o => I (i + 1) (f s k) ∧ v = V (f s k) ∧ o = O (f s k)) K)) (he : ∀ s, s = S.foldl f s0 → I S.length s → K .next (V s) (O s)) :
    ∃ (l : Addr) (M : Nat) (Inv : Nat → Vars → Objs → Prop), AV.ref D = .ref l ∧ Inv 0 (V s0) (O s0) ∧
      ∀ i vs os, Inv i vs os → i ≤ M ∧ ∃ ns, (l, .ints ns) ∈ os ∧ (∀ k, ns[i]? = some k → ∃ vs', SetV x (.int k) vs vs' ∧ SS P w sc b body vs' os (loopK (dropK (Inv (i + 1))) K)) ∧ (ns[i]? = none → K .next vs os) := by
  refine ⟨D, S.length, fun i v o => i ≤ S.length ∧ I i ((S.take i).foldl f s0) ∧ v = V ((S.take i).foldl f s0) ∧ o = O ((S.take i).foldl f s0), rfl, ⟨Nat.zero_le _, h0, rfl, rfl⟩, ?_⟩
  rintro i vs os ⟨hi, hI, rfl, rfl⟩
  refine ⟨hi, S, hm _, fun k hk => ?_, fun hn => ?_⟩
  · have hlt := (List.getElem?_eq_some_iff.mp hk).1
    obtain ⟨vs', h1, h2⟩ := ht i _ k hk hI
    refine ⟨vs', h1, ?_⟩
    have e : (S.take (i + 1)).foldl f s0 = f ((S.take i).foldl f s0) k := by rw [List.take_add_one, hk, List.foldl_append]; rfl
    dsimp only
    rw [show (fun v o => i + 1 ≤ S.length ∧ I (i + 1) ((S.take (i + 1)).foldl f s0) ∧ v = V ((S.take (i + 1)).foldl f s0) ∧ o = O ((S.take (i + 1)).foldl f s0)) = (fun v o => I (i + 1) (f ((S.take i).foldl f s0) k) ∧ v = V (f ((S.take i).foldl f s0) k) ∧ o = O (f ((S.take i).foldl f s0) k)) from by
      funext v o; rw [e]; exact propext ⟨fun h => h.2, fun h => ⟨hlt, h⟩⟩]
    exact h2
  · have hi2 : i = S.length := Nat.le_antisymm hi (List.getElem?_eq_none_iff.mp hn)
    subst hi2
    rw [List.take_length] at hI ⊢
    exact he _ rfl hI
theorem sorted_eq {l1 l2 a c : List Int} (h1 : l1.Perm a) (s1 : l1.Pairwise (· ≤ ·)) (h2 : l2.Perm c) (s2 : l2.Pairwise (· ≤ ·)) (h : a.Perm c) : l1 = l2 :=
  (eq_sortI (h1.trans h) s1).trans (eq_sortI h2 s2).symm
end
end Mine
end
section
open PySem PySem.W PyProof.Rows
namespace Mine
/-- a sort's questions answered by a word -/
noncomputable def runT {α : Type} (lt : Nat → Nat → Bool) : KasT α → α
  | .ret a => a
  | .ask i j k => runT lt (k (lt i j))
theorem runT_bind {α β : Type} {lt : Nat → Nat → Bool} {f : α → KasT β} : ∀ t : KasT α, runT lt (t.bind f) = runT lt (f (runT lt t))
  | .ret a => rfl
  | .ask i j k => runT_bind (k (lt i j))
theorem runT_ask {α : Type} {lt : Nat → Nat → Bool} {i j : Nat} {k : Bool → KasT α} : runT lt (.ask i j k) = runT lt (k (lt i j)) := rfl
theorem getD_perm_nodup {n : Nat} {p : Array Nat} (h : p.toList.Perm (List.range n)) : p.size = n ∧ (∀ i, i < n → p.getD i 0 < n) ∧ ∀ i j, i < n → j < n → p.getD i 0 = p.getD j 0 → i = j := by
  have hs : p.size = n := by rw [← Array.length_toList, h.length_eq, List.length_range]
  have hn : p.toList.Nodup := h.nodup_iff.mpr List.nodup_range
  have hg : ∀ i, (hi : i < n) → ∃ hi' : i < p.toList.length, p.getD i 0 = p.toList[i] := fun i hi => by
    have h1 : i < p.size := by (first | lia | omega)
    exact ⟨by rw [Array.length_toList]; (first | lia | omega), by simp [Array.getD, h1]⟩
  refine ⟨hs, fun i hi => ?_, fun i j hi hj e => ?_⟩
  · obtain ⟨h1, e⟩ := hg i hi
    rw [e]
    exact List.mem_range.mp (h.subset (List.getElem_mem h1))
  · obtain ⟨h1, e1⟩ := hg i hi
    obtain ⟨h2, e2⟩ := hg j hj
    rw [e1, e2] at e
    rcases Nat.lt_trichotomy i j with q | q | q
    · exact absurd e (List.pairwise_iff_getElem.mp hn i j h1 h2 q)
    · exact q
    · exact absurd e.symm (List.pairwise_iff_getElem.mp hn j i h2 h1 q)
structure LtOK (n : Nat) (lt : Nat → Nat → Bool) : Prop where
  irr : ∀ i, lt i i = false
  tr : ∀ i j k, lt i j = true → lt j k = true → lt i k = true
  tot : ∀ i j, i < n → j < n → i ≠ j → lt i j = false → lt j i = true
noncomputable def Srt (lt : Nat → Nat → Bool) (p : Array Nat) (k : Nat) : Prop := ∀ i j, i < j → j < k → lt (p.getD i 0) (p.getD j 0) = true
noncomputable def RSrt (lt : Nat → Nat → Bool) (p : Array Nat) (k : Nat) : Prop := ∀ i j, i < j → j < k → lt (p.getD j 0) (p.getD i 0) = true
noncomputable abbrev Pm (n : Nat) (p : Array Nat) : Prop := p.toList.Perm (List.range n)
section
variable {n : Nat} {lt : Nat → Nat → Bool} (O : LtOK n lt)
include O
theorem pm_tot {p : Array Nat} (hp : Pm n p) {i j : Nat} (hi : i < n) (hj : j < n) (hne : i ≠ j) (h : lt (p.getD i 0) (p.getD j 0) = false) : lt (p.getD j 0) (p.getD i 0) = true := by
  obtain ⟨h0, h1, h2⟩ := getD_perm_nodup hp
  exact O.tot _ _ (h1 i hi) (h1 j hj) (fun e => hne (h2 i j hi hj e)) h
theorem asc_run {p : Array Nat} (hp : Pm n p) : ∀ (f m : Nat), 1 ≤ m → m + f ≤ n → Srt lt p m →
    m ≤ runT lt (kas_asc p f m) ∧ runT lt (kas_asc p f m) ≤ m + f ∧ Srt lt p (runT lt (kas_asc p f m)) ∧ (runT lt (kas_asc p f m) < m + f → lt (p.getD (runT lt (kas_asc p f m)) 0) (p.getD (runT lt (kas_asc p f m) - 1) 0) = true)
  | 0, m, _, _, hs => ⟨Nat.le_refl _, Nat.le_refl _, hs, fun h => absurd h (Nat.lt_irrefl _)⟩
  | f + 1, m, h1, h2, hs => by
    unfold kas_asc
    rw [runT_ask]
    cases hc : lt (p.getD m 0) (p.getD (m - 1) 0) with
    | true =>
      rw [if_pos rfl]
      exact ⟨Nat.le_refl _, by show m ≤ m + (f + 1); (first | lia | omega), hs, fun _ => hc⟩
    | false =>
      rw [if_neg (by simp)]
      have hl := pm_tot O hp (i := m) (j := m - 1) (by (first | lia | omega)) (by (first | lia | omega)) (by (first | lia | omega)) hc
      obtain ⟨a1, a2, a3, a4⟩ := asc_run hp f (m + 1) (by (first | lia | omega)) (by (first | lia | omega)) (fun i j hij hj => by
        by_cases e : j = m
        · subst e
          by_cases e2 : i = j - 1
          · rw [e2]; exact hl
          · exact O.tr _ _ _ (hs i (j - 1) (by (first | lia | omega)) (by (first | lia | omega))) hl
        · exact hs i j hij (by (first | lia | omega)))
      exact ⟨by (first | lia | omega), by (first | lia | omega), a3, fun h => a4 (by (first | lia | omega))⟩
theorem desc_run {p : Array Nat} (hp : Pm n p) : ∀ (f m : Nat), 1 ≤ m → m + f ≤ n → RSrt lt p m →
    ∃ m', runT lt (kas_desc f p m 0) = (p, m', 0) ∧ m ≤ m' ∧ m' ≤ m + f ∧ RSrt lt p m'
  | 0, m, _, _, hs => ⟨m, rfl, Nat.le_refl _, Nat.le_refl _, hs⟩
  | f + 1, m, h1, h2, hs => by
    unfold kas_desc
    rw [runT_ask]
    cases hc : lt (p.getD m 0) (p.getD (m - 1) 0) with
    | true =>
      rw [if_pos rfl, if_neg (by (first | lia | omega))]
      obtain ⟨m', a1, a2, a3, a4⟩ := desc_run hp f (m + 1) (by (first | lia | omega)) (by (first | lia | omega)) (fun i j hij hj => by
        by_cases e : j = m
        · subst e
          by_cases e2 : i = j - 1
          · rw [e2]; exact hc
          · exact O.tr _ _ _ hc (hs i (j - 1) (by (first | lia | omega)) (by (first | lia | omega)))
        · exact hs i j hij (by (first | lia | omega)))
      exact ⟨m', a1, by (first | lia | omega), by (first | lia | omega), a4⟩
    | false =>
      rw [if_neg (by simp)]
      have hl := pm_tot O hp (i := m) (j := m - 1) (by (first | lia | omega)) (by (first | lia | omega)) (by (first | lia | omega)) hc
      rw [runT_ask, hl]
      rw [if_pos rfl]
      exact ⟨m, rfl, Nat.le_refl _, by (first | lia | omega), hs⟩
omit O in
theorem rev_get {p : Array Nat} {m k : Nat} (h : m ≤ p.size) (hk : k < m) : (kas_rev p 0 m).getD k 0 = p.getD (m - 1 - k) 0 := by
  unfold kas_rev
  rw [Array.getD_eq_getD_getElem?, Array.getD_eq_getD_getElem?, getElem?_mirror_all h, if_pos ⟨Nat.zero_le _, hk⟩]
  congr 2; (first | lia | omega)
omit O in
theorem rev_pm {p : Array Nat} (hp : Pm n p) (i j : Nat) : Pm n (kas_rev p i j) := (Array.perm_iff_toList_perm.mp (mirror_perm p i j _)).trans hp
theorem tail_run {p : Array Nat} (hp : Pm n p) {m : Nat} (h1 : 1 ≤ m) (h2 : m ≤ n) (hs : RSrt lt p m) :
    Pm n (runT lt (kas_tail3 m n p)).2 ∧ 1 ≤ (runT lt (kas_tail3 m n p)).1 ∧ (runT lt (kas_tail3 m n p)).1 ≤ n ∧ Srt lt (runT lt (kas_tail3 m n p)).2 (runT lt (kas_tail3 m n p)).1 := by
  have hsz := (getD_perm_nodup hp).1
  have hp' := rev_pm hp 0 m
  unfold kas_tail3
  rw [runT_bind]
  obtain ⟨a1, a2, a3, -⟩ := asc_run O hp' (n - m) m h1 (by (first | lia | omega)) (fun i j hij hj => by
    rw [rev_get (by (first | lia | omega)) (by (first | lia | omega)), rev_get (by (first | lia | omega)) hj]
    exact hs _ _ (by (first | lia | omega)) (by (first | lia | omega)))
  exact ⟨hp', by show 1 ≤ runT lt (kas_asc _ _ _); (first | lia | omega), by show runT lt (kas_asc _ _ _) ≤ n; (first | lia | omega), a3⟩
theorem count_run (h0 : 1 ≤ n) {p : Array Nat} (hp : Pm n p) : Pm n (runT lt (kas_count n p)).2 ∧ 1 ≤ (runT lt (kas_count n p)).1 ∧ (runT lt (kas_count n p)).1 ≤ n ∧ Srt lt (runT lt (kas_count n p)).2 (runT lt (kas_count n p)).1 := by
  unfold kas_count
  rw [runT_bind]
  obtain ⟨a1, a2, a3, a4⟩ := asc_run O hp (n - 1) 1 (Nat.le_refl _) (by (first | lia | omega)) (fun i j hij hj => by (first | lia | omega))
  generalize runT lt (kas_asc p (n - 1) 1) = m at *
  by_cases e : m = n
  · subst e
    rw [if_pos (beq_self_eq_true m)]
    exact ⟨hp, a1, Nat.le_refl _, a3⟩
  · rw [if_neg (by simpa using e)]
    by_cases e1 : m > 1
    · rw [if_pos e1]
      rw [runT_ask, a3 0 (m - 1) (by (first | lia | omega)) (by (first | lia | omega))]
      rw [if_pos rfl]
      exact ⟨hp, a1, by show m ≤ n; (first | lia | omega), a3⟩
    · rw [if_neg e1]
      have em : m = 1 := by (first | lia | omega)
      subst em
      have hl := a4 (by (first | lia | omega))
      unfold kas_descPart
      rw [runT_bind]
      obtain ⟨m', b1, b2, b3, b4⟩ := desc_run O hp (n - (1 + 1)) (1 + 1) (by (first | lia | omega)) (by (first | lia | omega)) (fun i j hij hj => by
        have : i = 0 := by (first | lia | omega)
        have : j = 1 := by (first | lia | omega)
        subst i; subst j; exact hl)
      rw [b1]
      dsimp only
      rw [if_neg (by (first | lia | omega))]
      exact tail_run O hp (by (first | lia | omega)) (by (first | lia | omega)) b4
theorem place_run {p : Array Nat} (hp : Pm n p) {k : Nat} (hk : k < n) : ∀ (f l r : Nat), l ≤ r → r ≤ k → r - l ≤ f → (∀ i, i < l → lt (p.getD i 0) (p.getD k 0) = true) → (∀ i, r ≤ i → i < k → lt (p.getD k 0) (p.getD i 0) = true) → Srt lt p k →
    runT lt (kas_place p k f l r) ≤ k ∧ (∀ i, i < runT lt (kas_place p k f l r) → lt (p.getD i 0) (p.getD k 0) = true) ∧ (∀ i, runT lt (kas_place p k f l r) ≤ i → i < k → lt (p.getD k 0) (p.getD i 0) = true)
  | 0, l, r, h1, h2, h3, g1, g2, hs => by
    have : l = r := by (first | lia | omega)
    subst this
    exact ⟨h2, g1, g2⟩
  | f + 1, l, r, h1, h2, h3, g1, g2, hs => by
    unfold kas_place
    by_cases e : l ≥ r
    · rw [if_pos e]
      have : l = r := by (first | lia | omega)
      subst this
      exact ⟨h2, g1, g2⟩
    · rw [if_neg e]
      rw [runT_ask]
      cases hc : lt (p.getD k 0) (p.getD ((l + r) / 2) 0) with
      | true =>
        rw [if_pos rfl]
        refine place_run hp hk f l _ (by (first | lia | omega)) (by (first | lia | omega)) (by (first | lia | omega)) g1 (fun i hi hik => ?_) hs
        by_cases e2 : i = (l + r) / 2
        · rw [e2]; exact hc
        · exact O.tr _ _ _ hc (hs _ _ (by (first | lia | omega)) hik)
      | false =>
        rw [if_neg (by simp)]
        have hl := pm_tot O hp (i := k) (j := (l + r) / 2) hk (by (first | lia | omega)) (by (first | lia | omega)) hc
        refine place_run hp hk f _ r (by (first | lia | omega)) h2 (by (first | lia | omega)) (fun i hi => ?_) g2 hs
        by_cases e2 : i = (l + r) / 2
        · rw [e2]; exact hl
        · exact O.tr _ _ _ (hs i _ (by (first | lia | omega)) (by (first | lia | omega))) hl
theorem bin_run : ∀ (f : Nat) (p : Array Nat) (k : Nat), Pm n p → k + f = n → Srt lt p k → Pm n (runT lt (kas_bin f p k)) ∧ Srt lt (runT lt (kas_bin f p k)) n
  | 0, p, k, hp, h, hs => by
    have : k = n := by (first | lia | omega)
    subst this
    exact ⟨hp, hs⟩
  | f + 1, p, k, hp, h, hs => by
    unfold kas_bin
    rw [runT_bind]
    obtain ⟨a1, a2, a3⟩ := place_run O hp (k := k) (by (first | lia | omega)) k 0 k (Nat.zero_le _) (Nat.le_refl _) (by (first | lia | omega)) (fun i hi => absurd hi (Nat.not_lt_zero _)) (fun i h1 h2 => absurd h2 (by (first | lia | omega))) hs
    generalize runT lt (kas_place p k k 0 k) = l at *
    have hsz := (getD_perm_nodup hp).1
    refine bin_run f _ (k + 1) ((Array.perm_iff_toList_perm.mp (bubble_perm p k _)).trans hp) (by (first | lia | omega)) (fun i j hij hj => ?_)
    have hg : ∀ i, (bubble p k (k - l)).getD i 0 = if i = l then p.getD k 0 else if l < i ∧ i ≤ k then p.getD (i - 1) 0 else p.getD i 0 := fun i => by
      rw [Array.getD_eq_getD_getElem?, getElem?_bubble (by (first | lia | omega)) _ (by (first | lia | omega)), show k - (k - l) = l by (first | lia | omega)]
      repeat' split
      all_goals rw [Array.getD_eq_getD_getElem?]
    rw [hg i, hg j]
    by_cases c1 : i = l
    · rw [if_pos c1, if_neg (by (first | lia | omega)), if_pos (by (first | lia | omega))]
      exact a3 _ (by (first | lia | omega)) (by (first | lia | omega))
    · rw [if_neg c1]
      by_cases c2 : j = l
      · rw [if_pos c2, if_neg (by (first | lia | omega))]
        exact a2 _ (by (first | lia | omega))
      · rw [if_neg c2]
        by_cases c3 : l < i ∧ i ≤ k
        · rw [if_pos c3, if_pos (by (first | lia | omega))]
          exact hs _ _ (by (first | lia | omega)) (by (first | lia | omega))
        · rw [if_neg c3]
          by_cases c4 : l < j ∧ j ≤ k
          · rw [if_pos c4]; exact hs _ _ (by (first | lia | omega)) (by (first | lia | omega))
          · rw [if_neg c4]; exact hs _ _ (by (first | lia | omega)) (by (first | lia | omega))
theorem sort_run (h0 : 1 ≤ n) : Pm n (runT lt (kas_sort n)) ∧ Srt lt (runT lt (kas_sort n)) n := by
  unfold kas_sort
  rw [runT_bind]
  obtain ⟨a1, a2, a3, a4⟩ := count_run O h0 (p := List.toArray (List.range n)) (List.Perm.refl _)
  generalize runT lt (kas_count n (List.toArray (List.range n))) = r at *
  by_cases e : r.1 < n
  · rw [if_pos e]
    rw [show max r.1 1 = r.1 by (first | lia | omega)]
    exact bin_run O _ _ _ a1 (by (first | lia | omega)) a4
  · rw [if_neg e]
    have : r.1 = n := by (first | lia | omega)
    rw [this] at a4
    exact ⟨a1, a4⟩
end
end Mine
end
section
open PySem PySem.W PySem.Spec PySem.Calls PyProof.Rows PyProof.Rows.LCg
namespace Mine
/-- all that a sort asks is in range, and its end is as said -/
noncomputable def AskR {α : Type} (n : Nat) (R : α → Prop) : KasT α → Prop
  | .ret a => R a
  | .ask i j k => i < n ∧ j < n ∧ ∀ b, AskR n R (k b)
theorem AskR.bind {α β : Type} {n : Nat} {R : α → Prop} {R' : β → Prop} {f : α → KasT β} : ∀ t : KasT α, AskR n R t → (∀ a, R a → AskR n R' (f a)) → AskR n R' (t.bind f)
  | .ret a, h, k => k a h
  | .ask i j g, h, k => ⟨h.1, h.2.1, fun b => AskR.bind (g b) (h.2.2 b) k⟩
section
variable {n : Nat} (h0 : 1 ≤ n)
include h0
theorem pm_lt {p : Array Nat} (hp : Pm n p) (i : Nat) : p.getD i 0 < n := by
  by_cases hi : i < n
  · exact (getD_perm_nodup hp).2.1 i hi
  · have : ¬ i < p.size := by rw [(getD_perm_nodup hp).1]; exact hi
    rw [Array.getD_eq_getD_getElem?, Array.getElem?_eq_none (by (first | lia | omega))]; exact h0
theorem asc_ask {p : Array Nat} (hp : Pm n p) : ∀ (f m : Nat), AskR n (fun _ => True) (kas_asc p f m)
  | 0, m => trivial
  | f + 1, m => ⟨pm_lt h0 hp _, pm_lt h0 hp _, fun b => by cases b <;> first | exact trivial | exact asc_ask hp f _⟩
theorem desc_ask : ∀ (f : Nat) (p : Array Nat) (m q : Nat), Pm n p → AskR n (fun r => Pm n r.1) (kas_desc f p m q)
  | 0, p, m, q, hp => hp
  | f + 1, p, m, q, hp => ⟨pm_lt h0 hp _, pm_lt h0 hp _, fun b => by
      cases b with
      | true =>
        dsimp only
        rw [if_pos rfl]
        split
        · exact desc_ask f _ _ _ (rev_pm hp _ _)
        · exact desc_ask f _ _ _ hp
      | false =>
        dsimp only
        rw [if_neg (by simp)]
        refine ⟨pm_lt h0 hp _, pm_lt h0 hp _, fun d => ?_⟩
        cases d with
        | true => exact hp
        | false => exact desc_ask f _ _ _ hp⟩
theorem tail_ask {p : Array Nat} (hp : Pm n p) (m r : Nat) : AskR n (fun r => Pm n r.2) (kas_tail3 m r p) :=
  AskR.bind _ (asc_ask h0 (rev_pm hp 0 m) _ _) fun a _ => rev_pm hp 0 m
theorem descPart_ask {p : Array Nat} (hp : Pm n p) (m r : Nat) : AskR n (fun r => Pm n r.2) (kas_descPart m r p) :=
  AskR.bind _ (desc_ask h0 _ p _ _ hp) fun a ha => by
    split
    · exact tail_ask h0 (rev_pm ha _ _) _ _
    · exact tail_ask h0 ha _ _
theorem count_ask {p : Array Nat} (hp : Pm n p) (r : Nat) : AskR n (fun r => Pm n r.2) (kas_count r p) :=
  AskR.bind _ (asc_ask h0 hp _ _) fun a _ => by
    split
    · exact hp
    split
    · refine ⟨pm_lt h0 hp _, pm_lt h0 hp _, fun b => ?_⟩
      cases b with
      | true => exact hp
      | false => exact descPart_ask h0 (rev_pm hp _ _) _ _
    · exact descPart_ask h0 hp _ _
theorem place_ask {p : Array Nat} (hp : Pm n p) (k : Nat) : ∀ (f l r : Nat), AskR n (fun _ => True) (kas_place p k f l r)
  | 0, l, r => trivial
  | f + 1, l, r => by
    unfold kas_place
    split
    · exact trivial
    · exact ⟨pm_lt h0 hp _, pm_lt h0 hp _, fun b => by cases b <;> exact place_ask hp k f _ _⟩
theorem bin_ask : ∀ (f : Nat) (p : Array Nat) (k : Nat), Pm n p → AskR n (fun r => Pm n r) (kas_bin f p k)
  | 0, p, k, hp => hp
  | f + 1, p, k, hp => AskR.bind _ (place_ask h0 hp k _ _ _) fun l _ => bin_ask f _ _ ((Array.perm_iff_toList_perm.mp (bubble_perm p k _)).trans hp)
theorem sort_ask : AskR n (fun r => Pm n r) (kas_sort n) :=
  AskR.bind _ (count_ask h0 (p := List.toArray (List.range n)) (List.Perm.refl _) n) fun r hr => by
    split
    · exact bin_ask h0 _ _ _ hr
    · exact hr
end
theorem kasWp_run {α : Type} {n : Nat} {lt : Nat → Nat → Bool} {cmp : Nat → Nat → (Bool → Shared → Prop) → Shared → Prop} {s : Shared} (hc : ∀ i j C, i < n → j < n → C (lt i j) s → cmp i j C s) {R : α → Prop} {Q : α → Shared → Prop} :
    ∀ t : KasT α, AskR n R t → Q (runT lt t) s → t.kasWp cmp Q s
  | .ret a, _, hq => hq
  | .ask i j k, ha, hq => hc i j _ ha.1 ha.2.1 (kasWp_run hc (k (lt i j)) (ha.2.2 _) hq)
/-- pairs of ints in order -/
noncomputable abbrev lexLt (a b : Int × Int) : Prop := a.1 < b.1 ∨ (a.1 = b.1 ∧ a.2 < b.2)
theorem F2.at {α β : Type} {R : α → β → Prop} {l : List α} {r : List β} (h : F2 R l r) (d : α) (e : β) : ∀ i, i < l.length → R (l.getD i d) (r.getD i e) := by
  induction h with
  | nil => intro i hi; exact absurd hi (Nat.not_lt_zero _)
  | cons a _ ih =>
    intro i hi
    cases i with
    | zero => exact a
    | succ i => exact ih i (by simpa using hi)
theorem F2.mk {α β γ : Type} {R : α → β → Prop} (f : γ → α) (g : γ → β) : ∀ l : List γ, (∀ i, i ∈ l → R (f i) (g i)) → F2 R (l.map f) (l.map g)
  | [], _ => .nil
  | a :: r, h => .cons (h a (.head _)) (F2.mk f g r fun i hi => h i (.tail _ hi))
theorem tups_of {all : List (Addr × Obj)} {h : Heap} {ps : List (Int × Int)} {vs : List Value} (hf : F2 (IsPair all) ps vs) (ha : ∀ b o, (b, o) ∈ all → h.get? b = some o) : ∃ fs, KatTups h vs fs ∧ fs.length = ps.length ∧ ∀ v ∈ fs, ∃ i t, v = Value.int i t := by
  induction hf with
  | nil => exact ⟨[], .nil, rfl, fun _ h => nomatch h⟩
  | @cons a b l r hp _ ih =>
    refine hideG fun Xg hXg => ?_
    obtain ⟨fs, h1, h2, h3⟩ := ih
    obtain ⟨x, t, u, n, rfl, hx⟩ := hp
    refine hXg ?_
    refine ⟨.int a.1 t :: fs, .cons (ha _ _ hx) rfl rfl rfl h1, by simp [h2], fun v hv => ?_⟩
    rcases List.mem_cons.mp hv with rfl | hv
    · exact ⟨_, _, rfl⟩
    · exact h3 v hv
theorem ask_pairs {prog : Program} {w : World} {A : Around} {s : Shared} {all : List (Addr × Obj)} {ps : List (Int × Int)} {vs : List Value} (hf : F2 (IsPair all) ps vs) (ha : ∀ b o, (b, o) ∈ all → s.heap.get? b = some o) {i j : Nat} (hi : i < ps.length) (hj : j < ps.length) {C : Bool → Shared → Prop}
    (h : C (decide (lexLt (ps.getD i (0, 0)) (ps.getD j (0, 0)))) s) : kas_ask prog w A (tuples' true) vs i j C s := by
  refine hideG fun Xg hXg => ?_
  obtain ⟨x, t1, t2, n, e1, hx⟩ := hf.at (0, 0) Value.none i hi
  obtain ⟨y, u1, u2, k, e2, hy⟩ := hf.at (0, 0) Value.none j hj
  refine hXg ?_
  unfold kas_ask
  rw [e1, e2]
  generalize ps.getD i (0, 0) = a at *
  generalize ps.getD j (0, 0) = b at *
  refine hideG fun Xg hXg => ?_
  obtain ⟨a1, a2⟩ := a
  obtain ⟨b1, b2⟩ := b
  refine hXg ?_
  refine kat_lt (ha _ _ hx) rfl (ha _ _ hy) rfl ?_
  show KatLex prog w A true (decide (2 < 2)) C [(Value.int a1 t1, Value.int b1 u1), (Value.int a2 t2, Value.int b2 u2)] 0 s
  refine kat_cons (wpAny_eqBool_int ?_)
  by_cases h1 : a1 = b1
  · subst h1
    rw [beq_self_eq_true]
    refine kat_yes (kat_cons (wpAny_eqBool_int ?_))
    by_cases h2 : a2 = b2
    · subst h2
      rw [beq_self_eq_true]
      refine kat_yes (kat_nil ?_)
      rw [decide_eq_false (by rintro (q | ⟨-, q⟩) <;> exact absurd q (Int.lt_irrefl _))] at h
      exact h
    · rw [beq_eq_false_iff_ne.mpr h2]
      refine kat_no (kat_one _ _ (PyProof.Rows.lt_int ?_))
      show C (decide (a2 < b2)) s
      rw [show decide (a2 < b2) = decide (lexLt (a1, a2) (a1, b2)) from decide_eq_decide.mpr ⟨fun q => .inr ⟨rfl, q⟩, fun q => q.elim (fun q => absurd q (Int.lt_irrefl _)) fun q => q.2⟩]
      exact h
  · rw [beq_eq_false_iff_ne.mpr h1]
    refine kat_no (oneLt_int ?_)
    rw [show decide (a1 < b1) = decide (lexLt (a1, a2) (b1, b2)) from decide_eq_decide.mpr ⟨fun q => .inl q, fun q => q.elim id fun q => absurd q.1 h1⟩]
    exact h
theorem sort_few {prog : Program} {w : World} {A : Around} {E : Value → Shared → Prop} {s : Shared} {a : Addr} {vs : List Value} {n : Nat} {P : PySem.Fin → Shared → Prop} (ho : s.heap.get? a = some (seqObj "list" vs.toArray n)) (h2 : vs.length < 2)
    (h : P (.done (.ret .none)) { s with heap := sortedHeap s.heap a vs vs.toArray }) : wpAny (model prog w) A (Builtin.«list.sort» ⟨[.ref a], []⟩) P E s := by
  have ha : a < s.heap.objs.size := Heap.lt_size ho
  have hs : vs.toArray.size < 2 := by rw [List.size_toArray]; exact h2
  obtain ⟨e, he⟩ : ∃ e, (s.heap.update a (Obj.mapSeq fun _ => #[])).get? a = some (seqObj "list" #[] e) := ⟨_, get?_update_seq ho fun _ => #[]⟩
  have hk : (((s.heap.update a (Obj.mapSeq fun _ => #[])).push (seqObj "tuple" vs.toArray 0)).push (seqObj "list" #[] 0)).get? a = some (seqObj "list" #[] e) := Heap.get?_push_of_some _ (Heap.get?_push_of_some _ he)
  have hm : Array.map (fun x => x.snd) (arrOf (SortSt.mk' general' (vs.toArray.zip vs.toArray) #[] 7 none)) = vs.toArray := by
    show Array.map (fun x => x.snd) (vs.toArray.zip vs.toArray) = vs.toArray
    apply Array.toList_inj.mp
    simp [List.map_snd_zip]
  rw [list_sort_plain]
  refine wpAny_bind (listItems_at ho rfl (wpAny_bind (listUpdate_at ho rfl (wpAny_bind (seqEpoch_at he rfl (wpAny_bind (wpAny_newTuple (wpAny_bind (wpAny_newList (wpAny_holding ?_)))))))))) 
  show wpAny (model prog w) A _ P E { s with heap := ((s.heap.update a (Obj.mapSeq fun _ => #[])).push (seqObj "tuple" vs.toArray 0)).push (seqObj "list" #[] 0) }
  dsimp only
  rw [if_pos hs, if_pos hs]
  refine wpAny_bind (wpAny_pure ?_)
  rw [StateT.run_pure]
  refine wpAny_bind (wpAny_pure ?_)
  dsimp only
  rw [hm]
  refine wpAny_bind (seqEpoch_at hk rfl (wpAny_bind (listUpdate_at hk rfl ?_ (hsz2 := by rw [sizeLine_eq]; (first | lia | omega)))))
  simp only [bne_self_eq_false, Bool.false_eq_true, if_false]
  exact wpAny_pure h
theorem sorted_few {prog : Program} {w : World} {A : Around} {E : Value → Shared → Prop} {s : Shared} {l : Addr} {vs : List Value} {Q : Value → Shared → Prop} (hl : s.heap.IsList l vs.toArray) (h2 : vs.length < 2)
    (h : Q (.ref (s.heap.objs.size + 1)) { s with heap := sortedAll s.heap vs vs.toArray }) : wpAny (model prog w) A (call (.builtin "sorted") [.ref l]) Q E s := by
  refine Calls.call_function_entry kind_sorted plain_sorted entry_sorted (args_sorted1 _) ?_
  unfold Builtin.«sorted»
  refine wpAny_bind (m := checkCount "sorted" 1 1 _) (wpAny_pure (wpAny_bind (collect_list hl (wpAny_bind (wpAny_newList ?_)))))
  show wpAny _ _ _ _ _ { s with heap := ((s.heap.push (seqObj "list" #[] 0)).update s.heap.objs.size (Obj.mapSeq (· ++ vs.toArray))).push (seqObj "list" vs.toArray 0) }
  have hsz : ((s.heap.push (seqObj "list" #[] 0)).update s.heap.objs.size (Obj.mapSeq (· ++ vs.toArray))).objs.size = s.heap.objs.size + 1 := by rw [Heap.size_update, size_push']
  have hoL := Heap.get?_push_size ((s.heap.push (seqObj "list" #[] 0)).update s.heap.objs.size (Obj.mapSeq (· ++ vs.toArray))) (o := seqObj "list" vs.toArray 0) rfl
  rw [hsz] at *
  exact wpAny_bind (wpAny_holding (wpAny_call_entry slot_list_sort ⟨_, hoL, rfl⟩ entry_list_sort (sort_few hoL h2 ⟨_, rfl, wpAny_pure ⟨_, rfl, h⟩⟩) (args_list_sort _)))
theorem ltOK_pairs {ps : List (Int × Int)} (hn : ps.Nodup) : LtOK ps.length fun i j => decide (lexLt (ps.getD i (0, 0)) (ps.getD j (0, 0))) where
  irr := fun i => decide_eq_false (by rintro (q | ⟨-, q⟩) <;> exact absurd q (Int.lt_irrefl _))
  tr := fun i j k h1 h2 => by
    have h1 := of_decide_eq_true h1
    have h2 := of_decide_eq_true h2
    unfold lexLt at *
    exact decide_eq_true (by (first | lia | omega))
  tot := fun i j hi hj hne h => by
    have h := of_decide_eq_false h
    refine decide_eq_true ?_
    have hd : ps.getD i (0, 0) ≠ ps.getD j (0, 0) := fun e => by
      rw [List.getD_eq_getElem?_getD, List.getD_eq_getElem?_getD, List.getElem?_eq_getElem hi, List.getElem?_eq_getElem hj] at e
      have e : ps[i] = ps[j] := e
      rcases Nat.lt_trichotomy i j with q | q | q
      · exact List.pairwise_iff_getElem.mp hn i j hi hj q e
      · exact hne q
      · exact List.pairwise_iff_getElem.mp hn j i hj hi q e.symm
    generalize ps.getD i (0, 0) = a at *
    generalize ps.getD j (0, 0) = b at *
    obtain ⟨a1, a2⟩ := a
    obtain ⟨b1, b2⟩ := b
    unfold lexLt at *
    dsimp only at *
    by_cases e1 : a1 = b1
    · by_cases e2 : a2 = b2
      · exact absurd (by rw [e1, e2]) hd
      · (first | lia | omega)
    · (first | lia | omega)
theorem srt_pairs {ps : List (Int × Int)} {p : Array Nat} (hp : Pm ps.length p) (hs : Srt (fun i j => decide (lexLt (ps.getD i (0, 0)) (ps.getD j (0, 0)))) p ps.length) :
    (p.toList.map fun i => ps.getD i (0, 0)).Perm ps ∧ (p.toList.map fun i => ps.getD i (0, 0)).Pairwise lexLt := by
  constructor
  · refine (hp.map fun i => ps.getD i (0, 0)).trans (List.Perm.of_eq ?_)
    refine List.ext_getElem (by simp) fun i h1 h2 => ?_
    rw [List.getElem_map, List.getElem_range, List.getD_eq_getElem?_getD, List.getElem?_eq_getElem h2]; rfl
  · rw [List.pairwise_map, List.pairwise_iff_getElem]
    intro i j hi hj hij
    rw [Array.length_toList] at hi hj
    have hsz := (getD_perm_nodup hp).1
    have := of_decide_eq_true (hs i j hij (by (first | lia | omega)))
    have hg : ∀ k, (hk : k < p.size) → p.getD k 0 = p[k] := fun k hk => by simp [Array.getD, hk]
    rw [hg i hi, hg j hj] at this
    simpa using this
theorem Call_sortedP {P : Pg} {w : World} {b : Nat} {objs : Objs} {D : Addr} {ps : List (Int × Int)} {K : AV → Objs → Prop} (hm : (D, .pairs ps) ∈ objs) (hn : ps.Nodup) (h64 : ps.length < 64) (h : ∀ D' ps', ps'.Perm ps → ps'.Pairwise lexLt → K (.ref D') ((D', .pairs ps') :: objs)) : CallS P w b (.builtin "sorted") [.ref D] objs K := by
  rintro _ (_ | ⟨rfl, (_ | _)⟩) A h₀ L m ex s Q E fx hr k
  refine hideG fun Xg hXg => ?_
  obtain ⟨all, o, F, N, HA, h1, vs, n, rfl, hf⟩ := hr.look hm
  refine hXg ?_
  have hl : s.heap.IsList D vs.toArray := ⟨_, (N _ h1).1, rfl, n, rfl⟩
  have hlen := hf.length
  by_cases h2 : vs.length < 2
  · refine sorted_few hl h2 ?_
    obtain ⟨e, he⟩ := sortedAll_at s.heap vs vs.toArray
    refine k _ _ _ _ (h _ ps (List.Perm.refl _) ?_) rfl (HR.new HA (F.kept fun _ _ => sortedAll_old) (N.kept_cons F (fun _ _ => sortedAll_old) (Nat.le_succ _) he) (fun p hp => Nat.lt_succ_of_lt (Heap.lt_size (N p hp).1)) ⟨vs, e, rfl, hf.imp ?_⟩) ⟨rfl, rfl, rfl⟩
    · match ps, hlen, h2 with
      | [], _, _ => exact .nil
      | [a], _, _ => exact List.pairwise_singleton _ _
      | a :: c :: r, hlen, h2 => simp only [List.length_cons] at hlen; (first | lia | omega)
    · rintro a v hz9
      refine hideG fun Xg hXg => ?_
      obtain ⟨x, t, u, n, e1, e2⟩ := hz9
      refine hXg ?_
      exact ⟨x, t, u, n, e1, .tail _ e2⟩
  · have hpl : 1 ≤ ps.length := by (first | lia | omega)
    have O := ltOK_pairs hn
    refine kat_sorted F N hl (by (first | lia | omega)) (by (first | lia | omega)) fun D' e1 h' F' N' lt => ?_
    have ha : ∀ b o, (b, o) ∈ all → h'.get? b = some o := fun b o q => (N' _ (.tail _ q)).1
    refine hideG fun Xg hXg => ?_
    obtain ⟨fs, g1, g2, g3⟩ := tups_of hf ha
    refine hXg ?_
    refine kat_kind (T := .type "int") g1 (by (first | lia | omega)) (fun v hv => ?_) rfl ?_
    · refine hideG fun Xg hXg => ?_
      obtain ⟨i, t, rfl⟩ := g3 v hv
      refine hXg ?_
      exact Looks.of_pure rfl
    rw [hlen]
    refine kasWp_run (lt := fun i j => decide (lexLt (ps.getD i (0, 0)) (ps.getD j (0, 0)))) (fun i j C hi hj hC => ask_pairs hf ha hi hj hC) _ (sort_ask hpl) ?_
    obtain ⟨r1, r2⟩ := sort_run O hpl
    generalize runT (fun i j => decide (lexLt (ps.getD i (0, 0)) (ps.getD j (0, 0)))) (kas_sort ps.length) = p at *
    obtain ⟨s1, s2⟩ := srt_pairs r1 r2
    refine KasFin.intro F' N' (.head fun q hq => Nat.ne_of_lt (lt q hq)) fun h'' c F'' N'' => ?_
    refine k _ _ _ _ (h D' _ s1 s2) rfl (HR.new HA F'' N'' lt ⟨_, c, rfl, F2.mk _ _ _ fun i hi => ?_⟩) ⟨rfl, rfl, rfl⟩
    have hi2 := List.mem_range.mp (r1.subset hi)
    refine hideG fun Xg hXg => ?_
    obtain ⟨x, t, u, n, q1, q2⟩ := hf.at (0, 0) Value.none i hi2
    refine hXg ?_
    exact ⟨x, t, u, n, q1, .tail _ q2⟩
end Mine
end
section
open PySem PySem.W PySem.Spec PySem.Calls PyProof.Rows PyProof.Rows.LCg
namespace Mine
section
variable {P : Pg} {w : World} {sc : Scope} {b : Nat} {vars : Vars} {objs : Objs}
/-- a for over a range, by what each turn keeps -/
theorem for_rng {x : Str} {body : List Stmt} {r : Addr} {a z c : Int} {n : Nat} {V : Vars} {O : Objs} {K : AF → Vars → Objs → Prop} (I : Nat → Vars → Objs → Prop) (hm : (r, AO.rng a z c) ∈ O) (hs : Builtin.Range.small a z c = true) (hz : Builtin.Range.rangeSize a z c = (n : Int)) (h0 : I 0 V O)
    (ht : ∀ i vs os, i < n → I i vs os → ∃ vs', SetV x (.int (a + i * c)) vs vs' ∧ SS P w sc b body vs' os (loopK (dropK (I (i + 1))) K)) (he : ∀ vs os, I n vs os → K .next vs os) :
    ∃ (r' : Addr) (a z c : Int) (n : Nat) (Inv : Nat → Vars → Objs → Prop), AV.ref r = .ref r' ∧ (r', .rng a z c) ∈ O ∧ Builtin.Range.small a z c = true ∧ Builtin.Range.rangeSize a z c = (n : Int) ∧ Inv 0 V O ∧
      ∀ i vs os, Inv i vs os → i ≤ n ∧ (i < n → ∃ vs', SetV x (.int (a + i * c)) vs vs' ∧ SS P w sc b body vs' os (loopK (dropK (Inv (i + 1))) K)) ∧ (i = n → K .next vs os) := by
  refine ⟨r, a, z, c, n, fun i v o => i ≤ n ∧ I i v o, rfl, hm, hs, hz, ⟨Nat.zero_le _, h0⟩, fun i vs os ⟨hi, hI⟩ => ⟨hi, fun hlt => ?_, fun e => he vs os (e ▸ hI)⟩⟩
  obtain ⟨vs', h1, h2⟩ := ht i vs os hlt hI
  refine ⟨vs', h1, ?_⟩
  dsimp only
  rw [show (fun v o => i + 1 ≤ n ∧ I (i + 1) v o) = I (i + 1) from by funext v o; exact propext ⟨fun h => h.2, fun h => ⟨hlt, h⟩⟩]
  exact h2
end

noncomputable def AtI (l : Objs) (i : Nat) (k : Addr) : Prop := (l.map (·.1))[i]? = some k
theorem AtI.here {r : Objs} {k : Addr} {o : AO} : AtI ((k, o) :: r) 0 k := rfl
theorem AtI.there {r : Objs} {i : Nat} {k : Addr} {p : Addr × AO} (h : AtI r i k) : AtI (p :: r) (i + 1) k := h
theorem nod_ix {l : List Addr} (hn : l.Nodup) : ∀ {is : List Nat} {ks : List Addr}, F2 (fun i k => l[i]? = some k) is ks → is.Nodup → ks.Nodup
  | _, _, .nil, _ => List.nodup_nil
  | _, _, .cons (a := i) (b := k) (l := is) (r := ks) h t, hi => by
    rw [List.nodup_cons] at hi ⊢
    refine ⟨fun hm => hi.1 ?_, nod_ix hn t hi.2⟩
    clear hi
    induction t with
    | nil => cases hm
    | cons h' t ih =>
      rcases List.mem_cons.mp hm with rfl | hm
      · have hlt : i < l.length := (List.getElem?_eq_some_iff.mp h).1
        rw [((List.getElem?_inj hlt hn).mp (h.trans h'.symm))]
        exact .head _
      · exact .tail _ (ih hm)
noncomputable def AtP (l : Objs) (i : Nat) (p : Addr × AO) : Prop := l[i]? = some p
theorem AtP.here {r : Objs} {p : Addr × AO} : AtP (p :: r) 0 p := rfl
theorem AtP.there {r : Objs} {i : Nat} {p q : Addr × AO} (h : AtP r i p) : AtP (q :: r) (i + 1) p := h
theorem Pick.of_ix {l o : Objs} {is : List Nat} (h : F2 (AtP o) is l) (hi : is.Nodup) : Pick l o := by
  refine ⟨fun p hp => ?_, fun hn => ?_⟩
  · clear hi
    induction h with
    | nil => cases hp
    | cons a r ih =>
      rcases List.mem_cons.mp hp with rfl | hp
      · exact List.mem_of_getElem? a
      · exact ih hp
  · refine nod_ix (is := is) hn ?_ hi
    clear hi
    induction h with
    | nil => exact .nil
    | cons a r ih => exact .cons (by rw [List.getElem?_map, show o[_]? = some _ from a]; rfl) ih
theorem nod5 {l : Objs} {i0 i1 i2 i3 i4 : Nat} {x d la lh lp : Addr} (h0 : AtI l i0 x) (h1 : AtI l i1 d) (h2 : AtI l i2 la) (h3 : AtI l i3 lh) (h4 : AtI l i4 lp) (hi : [i0, i1, i2, i3, i4].Nodup) :
    (l.map (·.1)).Nodup → [x, d, la, lh, lp].Nodup := fun hn => nod_ix hn (.cons h0 (.cons h1 (.cons h2 (.cons h3 (.cons h4 .nil))))) hi
end Mine
end
section
open PySem PySem.W PySem.Spec PySem.Calls PyProof.Rows PyProof.Rows.LCg
namespace Mine
theorem code_uniq {K : Frag} {f : Addr} {name qual : Str} {params : Arguments} {body : List Stmt} {scope : Scope} {dV kV doc pm cdv ct oc : Value} {an od : Option Addr} {osl : Array (Option Value)} {name' qual' : Str} {params' : Arguments} {body' : List Stmt} {scope' : Scope} {dV' kV' doc' pm' cdv' ct' oc' : Value} {an' od' : Option Addr} {osl' : Array (Option Value)}
    {R : Scope → List Stmt → Prop} (h' : K.lookup f = some ⟨oc', od', .func (fnOf name' qual' params' body' scope' dV' kV' doc' pm' an' cdv' ct'), osl'⟩) (hp : R scope' body') (h : K.lookup f = some ⟨oc, od, .func (fnOf name qual params body scope dV kV doc pm an cdv ct), osl⟩) : R scope body := by
  have := Option.some.inj (h'.symm.trans h)
  injection this with _ _ e _
  injection e with e
  unfold fnOf at e
  injection e with _ _ _ e1 e2
  injection e1 with e1
  exact e1 ▸ e2 ▸ hp
/-- the law's own body, entered from nowhere -/
theorem top_run {P : Pg} {w : World} {b : Nat} {g h₁ : Heap} {L f : Addr} {cdv : Value} {qual : Str} {scope : Scope} {body : List Stmt} {names : List Str} {vargs : List AV} {ws vs : List Value} {cells : List (Addr × Obj)} {mean : ExcName → Option Value} {mg mb : Str → Option Value} {s : Shared} {Q : Flow → Shared → Prop} {E : Value → Shared → Prop}
    {K : AF → Vars → Objs → Prop} {env : Env} (he : env = envOfC qual scope L f cdv) (B : Below callerA g [] g) (T : Top P.p P.loose mean mg mb g) (X : (P.K w.params).In g) (hscr : g.IsList P.sa (List.toArray vs)) (hi : IntsAre vs P.sl)
    {m cm : Str → Option Value} {cl : List (Str × Addr)} (F : Fr g L h₁ m) (N : News g L h₁ cells) (Y : CellsAre cm cl cells) (hm : m = bindL env.kindOf (names.zip ws) fun _ => none) (hcm : cm = bindC env.kindOf (names.zip ws) fun _ => none) (hcl : cl = cellsFrom (L + 1) scope.names [])
    (hs : s.heap = h₁) (hws : F2 RV vargs ws) (hn : names.length = vargs.length) (hnn : names.Nodup) (hkind : (names.all fun y => scope.names.lookup y == some .local || scope.names.lookup y == some .cell) = true)
    (hfree : (scope.names.all fun y => !(y.2 == .free)) = true) (hk : scope.kind = .function) (hb1 : b ≤ 30)
    (hb : SS P w scope b body (names.zip vargs) [] K) (k : ∀ f vars objs f' s', K f vars objs → RF f f' → (∀ b o, g.get? b = some o → s'.heap.get? b = some o) → Same s s' → Q f' s') :
    wpAny (model P.prog w) (callerA.deeper env) (execs body env) Q E s := by
  subst he hs hm hcm hcl
  have hlen := hws.length
  have hcd' := cellsAre_fst Y
  have hge : ∀ p ∈ cells, L < p.1 := fun p hp => by
    have h1 : p.1 ∈ cells.map (·.1) := List.mem_map_of_mem hp
    rw [hcd'.1] at h1
    refine hideG fun Xg hXg => ?_
    obtain ⟨q, hq, e⟩ := List.mem_map.mp h1
    refine hXg ?_
    rcases cellsFrom_mem _ _ _ q.1 q.2 hq with z | z
    · cases z
    · rw [← e]; exact z
  have hap := cellsFrom_apart scope.names (L + 1) [] (fun _ h => nomatch h) List.nodup_nil
  have hcn : (cells.map (·.1)).Nodup := by rw [hcd'.1]; exact hap
  have hnf : ∀ x, scope.names.lookup x ≠ some .free := fun x e => by
    have := mem_of_lookup' e
    rw [List.all_eq_true] at hfree
    have := hfree _ this
    simp at this
  have hbk : ((names.zip ws).all fun y => scope.names.lookup y.1 == some .local || scope.names.lookup y.1 == some .cell) = true := by
    rw [List.all_eq_true] at hkind ⊢
    intro p hp
    exact hkind _ (by have := List.mem_map_of_mem (f := (·.1)) hp; rwa [zip_fst (by (first | lia | omega))] at this)
  have fx : Fx P w (callerA.deeper (envOfC qual scope L f cdv)) g L b := by
    refine ⟨⟨callerA, g, [], envOfC qual scope L f cdv, mean, mg, mb, B, T, rfl, rfl, hk⟩, X, ⟨vs, hscr, hi⟩, rfl, ?_, ?_⟩
    · show 1 + claimMargin + 1 + b < recursionLimit
      have : 1 + claimMargin + 1 + 30 < recursionLimit := by decide
      (first | lia | omega)
    · show 4 + 3 + 100 * b + 100 < cLine
      have : 4 + 3 + 100 * 30 + 100 < cLine := by decide
      (first | lia | omega)
  have eo : EnvOK scope L (envOfC qual scope L f cdv) := by
    refine ⟨rfl, hk, rfl, rfl, fun x hx => ?_⟩
    rcases hx with hx | hx
    · obtain ⟨c, hc⟩ := cellsFrom_has scope.names (L + 1) [] x hx
      exact lookup_of_key hc
    · exact absurd hx (hnf x)
  have hrs : RS P.prog w g L (envOfC qual scope L f cdv) [] (names.zip vargs) [] s.heap := by
    refine ⟨by rw [zip_fst hn]; exact hnn, _, cells, ⟨F, cells, N, hcn, fun p hp => hp, (fun p hp => nomatch hp), List.nodup_nil, (fun p hp => nomatch hp)⟩, fun p hp => ?_, fun x hx => ?_, fun x y c h1 h2 => ?_, (fun p hp => nomatch hp)⟩
    · refine hideG fun Xg hXg => ?_
      obtain ⟨v', h1, h2⟩ := zip_rel hws p hp
      refine hXg ?_
      have hbn : ((names.zip ws).map (·.1)).Nodup := by rw [zip_fst (by (first | lia | omega))]; exact hnn
      rw [List.all_eq_true] at hbk
      have := hbk _ h1
      rw [Bool.or_eq_true, beq_iff_eq, beq_iff_eq] at this
      rcases this with hl | hl
      · exact ⟨v', h2, .inl ⟨hl, rfl, bindL_mem hbn h1 hl⟩⟩
      · refine hideG fun Xg hXg => ?_
        obtain ⟨c, hc⟩ := cellsFrom_has scope.names (L + 1) [] p.1 hl
        obtain ⟨c', hc'⟩ := lookup_of_key hc
        obtain ⟨o, e1, e2⟩ := hcd'.2 _ _ (mem_of_lookup' hc')
        refine hXg ?_
        exact ⟨v', h2, .inr (.inr ⟨.inl hl, c', o, hc', e1, by rw [e2]; exact congrArg _ (bindC_mem hbn h1 hl)⟩)⟩
    · refine hideG fun Xg hXg => ?_
      obtain ⟨c, hc⟩ := cellsFrom_has scope.names (L + 1) [] x hx
      obtain ⟨c', hc'⟩ := lookup_of_key hc
      obtain ⟨o, e1, e2⟩ := hcd'.2 _ _ (mem_of_lookup' hc')
      refine hXg ?_
      exact ⟨c', o, _, hc', e1, e2⟩
    · exact snd_inj hap (mem_of_lookup' h1) (mem_of_lookup' h2)
  refine hb _ g L [] _ s _ _ fx eo rfl hrs fun f' vars' objs' fl s' hK rf rs' q' => k _ _ _ _ _ hK rf ?_ q'
  refine hideG fun Xg hXg => ?_
  obtain ⟨_, m'', ce', ⟨F'', _⟩, _, _⟩ := rs'
  refine hXg ?_
  exact F''.keep
end Mine
end
section
open PySem PySem.W PySem.Spec PySem.Calls PyProof.Rows PyProof.Rows.LCg
namespace Mine
section
variable {P : Pg} {w : World} {sc : Scope} {b : Nat} {vars : Vars} {objs objs' : Objs}
/-- an expression that gives v and leaves the objects as they are -/
noncomputable def EV (P : Pg) (w : World) (sc : Scope) (b : Nat) (e : Expr) (vars : Vars) (objs : Objs) (v : AV) : Prop := ∀ K : AV → Objs → Prop, K v objs → WE P w sc b e vars objs K
noncomputable def EVs (P : Pg) (w : World) (sc : Scope) (b : Nat) (es : List Expr) (vars : Vars) (objs : Objs) (vs : List AV) : Prop := ∀ K : List AV → Objs → Prop, K vs objs → WA P w sc b vars es objs K
/-- a test: what its truth says, what its untruth says -/
noncomputable def TV (P : Pg) (w : World) (sc : Scope) (b : Nat) (t : Expr) (vars : Vars) (objs : Objs) (p q : Prop) : Prop := ∀ K : Bool → Objs → Prop, (∀ c, (c = true → p) → (c = false → q) → K c objs) → WT P w sc b t vars objs K
noncomputable def CV (P : Pg) (w : World) (b : Nat) (f : Value) (args : List AV) (objs : Objs) (v : AV) : Prop := ∀ K : AV → Objs → Prop, K v objs → CallS P w b f args objs K
theorem EV.use {e : Expr} {v : AV} {K : AV → Objs → Prop} (zh : EV P w sc b e vars objs v) (k : K v objs) : WE P w sc b e vars objs K := zh K k
theorem TV.use {t : Expr} {p q : Prop} {A B : Objs → Prop} (zh : TV P w sc b t vars objs p q) (zh1 : p → A objs) (zh2 : q → B objs) : WT P w sc b t vars objs fun c o => (c = true → A o) ∧ (c = false → B o) := zh _ fun _ a b => ⟨fun e => zh1 (a e), fun e => zh2 (b e)⟩
theorem TV.use' {t : Expr} {p q : Prop} {A B : Objs → Prop} (zh : TV P w sc b t vars objs p q) (zh2 : q → B objs) (zh1 : p → A objs) : WT P w sc b t vars objs fun c o => (c = false → B o) ∧ (c = true → A o) := zh _ fun _ a b => ⟨fun e => zh2 (b e), fun e => zh1 (a e)⟩
theorem EVs_nil : EVs P w sc b [] vars objs [] := fun _ k => k
theorem EVs_cons {e : Expr} {es : List Expr} {v : AV} {vs : List AV} (zh : EV P w sc b e vars objs v) (zhs : EVs P w sc b es vars objs vs) : EVs P w sc b (e :: es) vars objs (v :: vs) := fun _ k => zh _ (zhs _ k)
theorem EV_var {x : Str} {pos : Pos} {v : AV} (zhm : (x, v) ∈ vars) (zhd : (x == ("__debug__" : Str)) = false) (zhn : (x == ("__classdict__" : Str)) = false) : EV P w sc b (.Name x pos) vars objs v := fun _ k => WE_var zhm k zhd zhn
theorem EV_int {i : Int} {k : Nat} {pos : Pos} : EV P w sc b (.Constant (.int i) k pos) vars objs (.int i) := fun _ k => WE_int k
theorem EV_str {x : Str} {k : Nat} {pos : Pos} : EV P w sc b (.Constant (.str x) k pos) vars objs (.str x) := fun _ k => WE_str k
theorem EV_bool {x : Bool} {k : Nat} {pos : Pos} : EV P w sc b (.Constant (.bool x) k pos) vars objs (.bool x) := fun _ k => WE_bool k
theorem EV_usub {i : Int} {k : Nat} {p pos : Pos} : EV P w sc b (.UnaryOp .USub (.Constant (.int i) k p) pos) vars objs (.int (-i)) := fun _ k => WE_usub k
theorem EV_globR {x : Str} {pos : Pos} {v : Value} (e : nsIn (P.K w.params) mainGlobals x = some (some v)) (zhx : sc.names.lookup x = some .globalImplicit) (zhd : (x == ("__debug__" : Str)) = false) : EV P w sc b (.Name x pos) vars objs (.val v) := fun _ k => WE_globR e zhx k zhd
theorem EV_globI {x : Str} {pos : Pos} {i : Int} {t : Tok} (e : nsIn (P.K w.params) mainGlobals x = some (some (.int i t))) (zhx : sc.names.lookup x = some .globalImplicit) (zhd : (x == ("__debug__" : Str)) = false) : EV P w sc b (.Name x pos) vars objs (.int i) := fun _ k => WE_globI e zhx k zhd
theorem EV_bi {x : Str} {pos : Pos} {v : Value} (e : nsIn (P.K w.params) mainGlobals x = some none) (zhv : bootBuiltins x = some v) (zhx : sc.names.lookup x = some .globalImplicit) (zhn : x ≠ "__name__") (zhd : (x == ("__debug__" : Str)) = false) : EV P w sc b (.Name x pos) vars objs (.val v) := fun _ k => WE_bi e zhv zhx k zhn zhd
section
variable {l r : Expr} {pos : Pos} {i j : Int}
theorem EV_add (zh1 : EV P w sc b l vars objs (.int i)) (zh2 : EV P w sc b r vars objs (.int j)) : EV P w sc b (.BinOp l .Add r pos) vars objs (.int (i + j)) := fun _ k => WE_bin (zh1 _ (zh2 _ (Bin_add k)))
theorem EV_sub (zh1 : EV P w sc b l vars objs (.int i)) (zh2 : EV P w sc b r vars objs (.int j)) : EV P w sc b (.BinOp l .Sub r pos) vars objs (.int (i - j)) := fun _ k => WE_bin (zh1 _ (zh2 _ (Bin_sub k)))
theorem EV_mul (zh1 : EV P w sc b l vars objs (.int i)) (zh2 : EV P w sc b r vars objs (.int j)) (zh3 : -4611686018427387904 < i) (zh4 : i < 4611686018427387904) : EV P w sc b (.BinOp l .Mult r pos) vars objs (.int (i * j)) := fun _ k => WE_bin (zh1 _ (zh2 _ (Bin_mulS zh3 zh4 k)))
theorem EV_mod (zh1 : EV P w sc b l vars objs (.int i)) (zh2 : EV P w sc b r vars objs (.int j)) (zh3 : j ≠ 0) : EV P w sc b (.BinOp l .Mod r pos) vars objs (.int (i.fmod j)) := fun _ k => WE_bin (zh1 _ (zh2 _ (Bin_mod zh3 k)))
theorem EV_div (zh1 : EV P w sc b l vars objs (.int i)) (zh2 : EV P w sc b r vars objs (.int j)) (zh3 : 0 < j) (zh4 : j < 4611686018427387904) : EV P w sc b (.BinOp l .FloorDiv r pos) vars objs (.int (i.fdiv j)) := fun _ k => WE_bin (zh1 _ (zh2 _ (Bin_divS zh3 zh4 k)))
theorem EV_lt (zh1 : EV P w sc b l vars objs (.int i)) (zh2 : EV P w sc b r vars objs (.int j)) (zhm : behindInMarks .Lt r = false) : EV P w sc b (.Compare l [.Lt] [r] pos) vars objs (.bool (decide (i < j))) := fun _ k => WE_cmp (zh1 _ (zh2 _ (Cmp_lt k))) zhm
theorem EV_gt (zh1 : EV P w sc b l vars objs (.int i)) (zh2 : EV P w sc b r vars objs (.int j)) (zhm : behindInMarks .Gt r = false) : EV P w sc b (.Compare l [.Gt] [r] pos) vars objs (.bool (decide (j < i))) := fun _ k => WE_cmp (zh1 _ (zh2 _ (Cmp_gt k))) zhm
theorem EV_ge (zh1 : EV P w sc b l vars objs (.int i)) (zh2 : EV P w sc b r vars objs (.int j)) (zhm : behindInMarks .GtE r = false) : EV P w sc b (.Compare l [.GtE] [r] pos) vars objs (.bool (decide (j ≤ i))) := fun _ k => WE_cmp (zh1 _ (zh2 _ (Cmp_ge k))) zhm
theorem TV_lt (zh1 : EV P w sc b l vars objs (.int i)) (zh2 : EV P w sc b r vars objs (.int j)) (zhm : behindInMarks .Lt r = false) : TV P w sc b (.Compare l [.Lt] [r] pos) vars objs (i < j) (j ≤ i) := fun _ k => WT_cmp (zh1 _ (zh2 _ (Cmp_lt (k _ (fun e => of_decide_eq_true e) fun e => Int.not_lt.mp (of_decide_eq_false e))))) zhm
theorem TV_gt (zh1 : EV P w sc b l vars objs (.int i)) (zh2 : EV P w sc b r vars objs (.int j)) (zhm : behindInMarks .Gt r = false) : TV P w sc b (.Compare l [.Gt] [r] pos) vars objs (j < i) (i ≤ j) := fun _ k => WT_cmp (zh1 _ (zh2 _ (Cmp_gt (k _ (fun e => of_decide_eq_true e) fun e => Int.not_lt.mp (of_decide_eq_false e))))) zhm
theorem TV_ge (zh1 : EV P w sc b l vars objs (.int i)) (zh2 : EV P w sc b r vars objs (.int j)) (zhm : behindInMarks .GtE r = false) : TV P w sc b (.Compare l [.GtE] [r] pos) vars objs (j ≤ i) (i < j) := fun _ k => WT_cmp (zh1 _ (zh2 _ (Cmp_ge (k _ (fun e => of_decide_eq_true e) fun e => Int.not_le.mp (of_decide_eq_false e))))) zhm
theorem TV_eq (zh1 : EV P w sc b l vars objs (.int i)) (zh2 : EV P w sc b r vars objs (.int j)) (zhm : behindInMarks .Eq r = false) : TV P w sc b (.Compare l [.Eq] [r] pos) vars objs (i = j) (¬ i = j) := fun _ k => WT_cmp (zh1 _ (zh2 _ (Cmp_eq (k _ (fun e => beq_iff_eq.mp e) fun e => beq_eq_false_iff_ne.mp e)))) zhm
theorem TV_ne (zh1 : EV P w sc b l vars objs (.int i)) (zh2 : EV P w sc b r vars objs (.int j)) (zhm : behindInMarks .NotEq r = false) : TV P w sc b (.Compare l [.NotEq] [r] pos) vars objs (¬ i = j) (i = j) := fun _ k => WT_cmp (zh1 _ (zh2 _ (Cmp_ne (k _ (fun e => bne_iff_ne.mp e) fun e => bne_eq_false_iff_eq.mp e)))) zhm
end
theorem TV_not {x : Expr} {pos : Pos} {p q : Prop} (zh : TV P w sc b x vars objs p q) : TV P w sc b (.UnaryOp .Not x pos) vars objs q p := fun _ k => WT_not (zh _ fun c zh1 zh2 => k _ (fun e => zh2 (by simpa using e)) fun e => zh1 (by simpa using e))
theorem TV_bool {e : Expr} {c : Bool} (zh : EV P w sc b e vars objs (.bool c)) (zhe : ∀ env, isTrue e env (eval e env) = (do let v ← eval e env; standAt e.pos; holding [v] (truthy v))) : TV P w sc b e vars objs (c = true) (c = false) := fun _ k => WT_bool (zh _ ⟨c, rfl, k c id id⟩) zhe
theorem TV_boolLe {e : Expr} {i j : Int} (zh : EV P w sc b e vars objs (.bool (decide (i ≤ j)))) (zhe : ∀ env, isTrue e env (eval e env) = (do let v ← eval e env; standAt e.pos; holding [v] (truthy v))) : TV P w sc b e vars objs (i ≤ j) (j < i) := fun _ k => WT_bool (zh _ ⟨_, rfl, k _ (fun e => of_decide_eq_true e) fun e => Int.not_le.mp (of_decide_eq_false e)⟩) zhe
theorem EV_attr {e : Expr} {name : Str} {pos : Pos} {x d C : Addr} {kvs : List (Str × AV)} {v : AV} {attr : Option Value} (zh : EV P w sc b e vars objs (.ref x)) (zhx : (x, .inst C d) ∈ objs) (zhd : (d, .idict kvs) ∈ objs) (zhg : plainGet (P.K w.params) C name = true) (zhh : hasDictIn (P.K w.params) C = true)
    (zha : findIn (P.K w.params) (.ref C) name = some attr) (zhn : noGet (P.K w.params) attr = true) (zhl : kvs.lookup name = some v) (zhv : Handed v = true)
    (zhe : ∀ env, eval (.Attribute e name pos) env = (do
      let o ← eval e env
      standAt pos.atName
      let r ← holding [o] (getAttr o name true)
      letTemporaryGo e o r
      pure r)) : EV P w sc b (.Attribute e name pos) vars objs v := fun _ k => WE_attr (zh _ (GetA_inst zhx zhd zhg zhh zha zhn zhl zhv k)) zhe
section
variable {e1 e2 : Expr} {pos : Pos} {D : Addr} {l : List Int} {i : Int}
theorem EV_item (zh1 : EV P w sc b e1 vars objs (.ref D)) (zh2 : EV P w sc b e2 vars objs (.int i)) (zhm : (D, .ints l) ∈ objs) (zh3 : 0 ≤ i) (zh4 : i < l.length) (zhl : l.length < 1000) (zhs : notSlice e2 = true) : EV P w sc b (.Subscript e1 e2 pos) vars objs (.int (l.getD i.toNat 0)) := fun _ k => WE_sub (zh1 _ (zh2 _ (Sub_ints zhm zh3 zh4 zhl zhs k)))
theorem EV_key {k : Str} {v : AV} {kvs : List (Str × AV)} (zh1 : EV P w sc b e1 vars objs (.ref D)) (zh2 : EV P w sc b e2 vars objs (.str k)) (zhm : (D, .dict kvs) ∈ objs) (zhl : kvs.lookup k = some v) (zhs : notSlice e2 = true) : EV P w sc b (.Subscript e1 e2 pos) vars objs v := fun _ k => WE_sub (zh1 _ (zh2 _ (Sub_dict zhm zhl zhs k)))
end
section
variable {x : Str} {p pos : Pos} {args : List Expr} {fv : Value} {vs : List AV} {v : AV} {K : AV → Objs → Prop}
theorem EV_call (zhf : EV P w sc b (.Name x p) vars objs (.val fv)) (zhc : Callee (P.K w.params) fv = true) (zha : EVs P w sc b args vars objs vs) (zh : CV P w b fv vs objs v) (zhs : noStar args = true) : EV P w sc b (.Call (.Name x p) args [] pos) vars objs v := fun _ k => WE_call (zhf _ ⟨fv, rfl, zhc, zha _ (zh _ k)⟩) zhs
theorem WE_callD (zhf : EV P w sc b (.Name x p) vars objs (.val fv)) (zhc : Callee (P.K w.params) fv = true) (zha : EVs P w sc b args vars objs vs) (zhs : noStar args = true) (zh : CallS P w b fv vs objs K) : WE P w sc b (.Call (.Name x p) args [] pos) vars objs K := WE_call (zhf _ ⟨fv, rfl, zhc, zha _ zh⟩) zhs
end
section
variable {o : Expr} {name : Str} {apos pos : Pos} {args : List Expr} {x v : AV} {f : Value} {vs : List AV} {K : AV → Objs → Prop}
theorem EV_mcall (zho : EV P w sc b o vars objs x) (zhg : GetM P w x name objs f) (zhc : Callee (P.K w.params) f = true) (zha : EVs P w sc b args vars objs vs) (zh : CV P w b f (x :: vs) objs v)
    (zhe : ∀ env, eval (.Call (.Attribute o name apos) args [] pos) env = (do
      let ov ← eval o env
      standAt apos.atName
      let (f, first) ← holding [ov] (getMethod ov name (do return (← importBound o env).getD true))
      callWith pos f first (backTo pos (starEach args env)) [])) (zhs : noStar args = true) : EV P w sc b (.Call (.Attribute o name apos) args [] pos) vars objs v := fun _ k => WE_mcall (zho _ ⟨f, zhg, zhc, zha _ (zh _ k)⟩) zhe zhs
theorem WE_mcallD (zho : EV P w sc b o vars objs x) (zhg : GetM P w x name objs f) (zhc : Callee (P.K w.params) f = true) (zha : EVs P w sc b args vars objs vs)
    (zhe : ∀ env, eval (.Call (.Attribute o name apos) args [] pos) env = (do
      let ov ← eval o env
      standAt apos.atName
      let (f, first) ← holding [ov] (getMethod ov name (do return (← importBound o env).getD true))
      callWith pos f first (backTo pos (starEach args env)) [])) (zhs : noStar args = true) (zh : CallS P w b f (x :: vs) objs K) : WE P w sc b (.Call (.Attribute o name apos) args [] pos) vars objs K := WE_mcall (zho _ ⟨f, zhg, zhc, zha _ zh⟩) zhe zhs
end
theorem CV_len {D : Addr} {l : List Int} (zhm : (D, .ints l) ∈ objs) (zhl : l.length < 1000) : CV P w b (.builtin "len") [.ref D] objs (.int l.length) := fun _ k => Call_len zhm zhl k
/- new objects -/
section
variable {K : AV → Objs → Prop} {pos : Pos}
theorem WE_listD {es : List Expr} {vs : List AV} {ns : List Int} (zha : EVs P w sc b es vars objs vs) (zhi : IArgs vs ns) (zhl : ns.length < 1000) (zhs : noStar es = true) (zh : ∀ D, K (.ref D) ((D, .ints ns) :: objs)) : WE P w sc b (.List es pos) vars objs K := WE_list (zha _ ⟨ns, zhi, zhl, zh⟩) zhs
theorem WE_tupleD {es : List Expr} {n : Nat} {vs : List AV} (zha : EVs P w sc b es vars objs vs) (zhl : vs.length < 1000) (zhs : noStar es = true) (zh : ∀ D, K (.ref D) ((D, .tup vs) :: objs)) : WE P w sc b (.Tuple es n pos) vars objs K := WE_tuple (zha _ ⟨zhl, zh⟩) zhs
end
/- statements -/
section
variable {K : AF → Vars → Objs → Prop} {vars' : Vars} {e : Expr} {v : AV} {p pos : Pos}
theorem S_assignD {x : Str} (zhe : EV P w sc b e vars objs v) (zhs : SetV x v vars vars') (zhk : sc.names.lookup x = some .local ∨ sc.names.lookup x = some .cell)
    (zhw : ∀ env : Env, env.scope = sc → swapsWith e (some (.Name x p)) pos.line env = pure false) (k : K .next vars' objs) : S1 P w sc b (.Assign [.Name x p] e pos) vars objs K := S_assign (zhe _ (AsgK.mk zhs k)) zhk zhw
theorem S_itemD {o i : Expr} {D : Addr} {l : List Int} {j z : Int} (zhe : EV P w sc b e vars objs (.int z)) (zho : EV P w sc b o vars objs (.ref D)) (zhi : EV P w sc b i vars objs (.int j)) (U : Up D (.ints l) (.ints (l.set j.toNat z)) objs objs') (zh0 : 0 ≤ j) (zh1 : j < l.length) (zhl : l.length < 1000)
    (zhw : ∀ env : Env, swapsWith e (some (.Subscript o i p)) pos.line env = pure false) (k : K .next vars objs') : S1 P w sc b (.Assign [.Subscript o i p] e pos) vars objs K := S_setitem (zhe _ (zho _ (zhi _ (SetI_ints U zh0 zh1 zhl k)))) zhw
theorem S_keyD {o i : Expr} {D : Addr} {y : Str} {kvs kvs' : List (Str × AV)} (zhe : EV P w sc b e vars objs v) (zho : EV P w sc b o vars objs (.ref D)) (zhi : EV P w sc b i vars objs (.str y)) (zhp : putA y v kvs = kvs') (U : Up D (.dict kvs) (.dict kvs') objs objs') (zhn : (kvs.map (·.1)).Nodup) (zhl : kvs.length < 1000)
    (zhw : ∀ env : Env, swapsWith e (some (.Subscript o i p)) pos.line env = pure false) (k : K .next vars objs') : S1 P w sc b (.Assign [.Subscript o i p] e pos) vars objs K := S_setitem (zhe _ (zho _ (zhi _ (SetI_dict zhp U zhn zhl k)))) zhw
theorem S_attrD {o : Expr} {name : Str} {x d C : Addr} {kvs kvs' : List (Str × AV)} (zhe : EV P w sc b e vars objs v) (zho : EV P w sc b o vars objs (.ref x)) (zhx : (x, .inst C d) ∈ objs) (zhs : findIn (P.K w.params) (.ref C) "__setattr__" = some (some (.builtin "object.__setattr__"))) (zhp : plainOver (P.K w.params) C = true)
    (zht : takerIn (P.K w.params) C name = some none) (zhh : hasDictIn (P.K w.params) C = true) (zhk : kvs.length < 900) (ep : putA name v kvs = kvs') (U : Up d (.idict kvs) (.idict kvs') objs objs')
    (zhw : ∀ env : Env, swapsWith e (some (.Attribute o name p)) pos.line env = pure false) (k : K .next vars objs') : S1 P w sc b (.Assign [.Attribute o name p] e pos) vars objs K := S_setattr (zhe _ (zho _ (SetA_inst zhx zhs zhp zht zhh zhk ep U k))) zhw
theorem S_returnD (zhe : EV P w sc b e vars objs v) (k : K (.ret v) vars objs) : S1 P w sc b (.Return (some e) pos) vars objs K := S_return (zhe _ k)
theorem S_ifD {t : Expr} {body orelse : List Stmt} {p q : Prop} (zht : TV P w sc b t vars objs p q) (zh1 : p → SS P w sc b body vars objs K) (zh2 : q → SS P w sc b orelse vars objs K) : S1 P w sc b (.If t body orelse pos) vars objs K := S_if (zht.use zh1 zh2)
end
end
end Mine
end
section
open PySem PySem.W PySem.Spec PySem.Calls PyProof.Rows PyProof.Rows.LCg PyProof.V PySem.SeqAt
namespace Mine
section
variable {P : Pg} {w : World} {sc : Scope} {b : Nat} {vars : Vars} {objs objs' : Objs} {D : Addr}
theorem CV_max2 {x y : Int} : CV P w b (.builtin "max") [.int x, .int y] objs (.int (if y > x then y else x)) := fun _ k => Call_max2 k
theorem CV_abs {x : Int} : CV P w b (.builtin "abs") [.int x] objs (.int (if x < 0 then -x else x)) := fun _ k => Call_abs k
theorem Bin_pow {i j : Int} {K : AV → Objs → Prop} (h0 : 0 ≤ j) (h1 : j ≤ 1000000) (h2 : i.natAbs < 2 ^ 64) (h : K (.int (i ^ j.toNat)) objs) : Bin P w b .Pow (.int i) (.int j) objs K := by
  rintro _ _ ⟨t, rfl⟩ ⟨u, rfl⟩ A h₀ L m ex s Q E fx hr k
  exact pow_int_small h0 h1 h2 (k _ _ _ _ h ⟨_, rfl⟩ hr ⟨rfl, rfl, rfl⟩)
theorem EV_pow {l r : Expr} {pos : Pos} {i j : Int} (zh1 : EV P w sc b l vars objs (.int i)) (zh2 : EV P w sc b r vars objs (.int j)) (zh3 : 0 ≤ j) (zh4 : j ≤ 1000000) (zh5 : i.natAbs < 2 ^ 64) : EV P w sc b (.BinOp l .Pow r pos) vars objs (.int (i ^ j.toNat)) := fun _ k => WE_bin (zh1 _ (zh2 _ (Bin_pow zh3 zh4 zh5 k)))
theorem flat_foldl {α : Type} (x : α) : ∀ (n : Nat) (a : Array α), (List.replicate n #[x]).foldl (fun x1 x2 => x1 ++ x2) a = a ++ (List.replicate n x).toArray
  | 0, a => by simp
  | n + 1, a => by
    rw [List.replicate_succ, List.foldl_cons, flat_foldl x n, List.replicate_succ]
    apply Array.ext'
    simp
theorem ints_replicate {z : Int} {t : Tok} : ∀ n : Nat, IntsAre (List.replicate n (.int z t)) (List.replicate n z)
  | 0 => .nil
  | n + 1 => .cons _ _ (ints_replicate n)
theorem Bin_mulL {K : AV → Objs → Prop} {z j : Int} (hm : (D, .ints [z]) ∈ objs) (h0 : 0 ≤ j) (h1 : j < 1000) (h : ∀ D', K (.ref D') ((D', .ints (List.replicate j.toNat z)) :: objs)) : Bin P w b .Mult (.ref D) (.int j) objs K := by
  rintro _ _ rfl ⟨u, rfl⟩ A h₀ L m ex s Q E fx hr k
  obtain ⟨all, vs, n, F, N, HA, h1', h2, h3, h4⟩ := hr.ints hm
  obtain ⟨v, rfl⟩ : ∃ t, vs = [.int z t] := by cases h2 with | cons i t r => cases r; exact ⟨t, rfl⟩
  refine mul_list F N (N _ h1').1 (by (first | lia | omega)) (by (first | lia | omega)) (by rw [List.size_toArray]; simp only [List.length_singleton]; (first | lia | omega)) fun h' F' N' => ?_
  refine k _ _ _ _ (h _) rfl (HR.new HA F' N' (fun p hp => Heap.lt_size (N p hp).1) ⟨List.replicate j.toNat (.int z v), 0, ?_, ints_replicate _⟩) ⟨rfl, rfl, rfl⟩
  rw [show (if (List.toArray [Value.int z v]).isEmpty = true then 0 else j.toNat) = j.toNat from if_neg (by simp)]
  rw [show (List.foldl (fun x1 x2 => x1 ++ x2) #[] (List.replicate j.toNat (List.toArray [Value.int z v]))) = (List.replicate j.toNat (Value.int z v)).toArray from by rw [show (List.toArray [Value.int z v]) = #[Value.int z v] from rfl, flat_foldl]; simp]
/-- an item of a tuple of ints at an open place -/
theorem iargs_get : ∀ {xs : List AV} {ns : List Int}, IArgs xs ns → ∀ i, i < ns.length → xs[i]? = some (.int (ns.getD i 0))
  | .int x :: xs, y :: ns, ⟨e, _⟩, 0, _ => by subst e; rfl
  | .int x :: xs, y :: ns, ⟨_, h⟩, i + 1, hi => by
    have := iargs_get h i (by simpa using hi)
    simpa using this
  | [], [], _, i, hi => absurd hi (Nat.not_lt_zero _)
theorem WE_menuD {e1 e2 : Expr} {pos : Pos} {K : AV → Objs → Prop} (zh1 : WE P w sc b e1 vars objs fun x o1 => WE P w sc b e2 vars o1 fun y o2 => ∃ D xs ns i, x = .ref D ∧ y = .int i ∧ (D, .tup xs) ∈ o2 ∧ IArgs xs ns ∧ 0 ≤ i ∧ i < ns.length ∧ ns.length < 1000 ∧ K (.int (ns.getD i.toNat 0)) o2) (zhs : notSlice e2 = true) : WE P w sc b (.Subscript e1 e2 pos) vars objs K :=
  WE_sub (WX.mono zh1 fun x o1 h => WX.mono h fun y o2 ⟨D, xs, ns, i, e1, e2, hm, ha, h3, h4, hl, k⟩ => by subst e1 e2; exact Sub_tup hm h3 (by (first | lia | omega)) (iargs_get ha _ (by (first | lia | omega))) zhs k)
/- pairs -/
theorem HR.pairs {prog : Program} {h₀ : Heap} {L : Addr} {m : Str → Option Value} {ex : List (Addr × Obj)} {h : Heap} {ps : List (Int × Int)} (H : HR prog w h₀ L m ex objs h) (hm : (D, .pairs ps) ∈ objs) :
    ∃ all vs n, Fr h₀ L h m ∧ News h₀ L h all ∧ HA prog w ex objs all ∧ (D, W.listOf (List.toArray vs) n) ∈ all ∧ F2 (IsPair all) ps vs ∧ h.IsList D (List.toArray vs) ∧ vs.length = ps.length := by
  obtain ⟨all, o, F, N, A, h1, vs, n, rfl, h2⟩ := H.look hm
  exact ⟨all, vs, n, F, N, A, h1, h2, ⟨_, (N _ h1).1, rfl, n, rfl⟩, h2.length⟩
theorem EV_pair1 {e i1 : Expr} {kc : Nat} {pc p1 p2 : Pos} {ps : List (Int × Int)} {j : Int} (zh1 : EV P w sc b e vars objs (.ref D)) (zh2 : EV P w sc b i1 vars objs (.int j)) (zhm : (D, .pairs ps) ∈ objs) (zh0 : 0 ≤ j) (zh4 : j < ps.length) (zhl : ps.length < 1000) (zhs : notSlice i1 = true) :
    EV P w sc b (.Subscript (.Subscript e i1 p1) (.Constant (.int 1) kc pc) p2) vars objs (.int (ps.getD j.toNat (0, 0)).2) := by
  intro K k A h₀ L m ex env s Q E fx eo vo hr kk
  refine Subscript_ (Subscript_ (zh1 (fun x o => x = AV.ref D ∧ o = objs) ⟨rfl, rfl⟩ A h₀ L m ex env s _ E fx eo vo hr fun x o1 x' s1 hx rx hr1 q1 => ?_))
  obtain ⟨rfl, rfl⟩ := hx
  refine zh2 (fun x o => x = AV.int j ∧ o = o1) ⟨rfl, rfl⟩ A h₀ L m ex env s1 _ E fx eo vo hr1 fun y o2 y' s2 hy ry hr2 q2 => ?_
  obtain ⟨rfl, rfl⟩ := hy
  obtain ⟨t, rfl⟩ := ry
  rw [show x' = .ref D from rx]
  obtain ⟨all, vs, n, F, N, HA, h1', h2, h3, h4⟩ := hr2.pairs zhm
  have hlt : j.toNat < ps.length := by (first | lia | omega)
  obtain ⟨v, e, T, tp, tq, nn, rfl, hT⟩ := h2.get' (List.getElem?_eq_getElem hlt)
  refine tail_any h3.typeIs slot_list_getitem.lookup (wpAny_getItem_list h3 zh0 (by (first | lia | omega)) (by simpa using e) ?_) (subscripted_plain zhs)
  refine wpAny_Constant_int ?_
  have ht : IsTup s2.heap T #[.int ps[j.toNat].1 tp, .int ps[j.toNat].2 tq] := ⟨_, (N _ hT).1, rfl, nn, rfl⟩
  refine tail_any ht.typeIs PyProof.Rows.slot_tuple_getitem.lookup (PyProof.Rows.getItem_tuple (j := 1) ht (by decide) (by decide) (by rfl) (by rfl) ?_) (subscripted_plain rfl)
  refine kk _ _ _ _ k ⟨tq, ?_⟩ hr2 ?_
  · rw [List.getD_eq_getElem?_getD, List.getElem?_eq_getElem hlt]; rfl
  · exact (q1.trans q2).trans ⟨rfl, rfl, rfl⟩
theorem reads_pair {h₀ h : Heap} {L : Addr} {all : List (Addr × Obj)} (N : News h₀ L h all) : ∀ {ps : List (Int × Int)} {vs : List Value}, F2 (IsPair all) ps vs → ReadsAll h vs (ps.map fun p => PyData.tuple [.int p.1, .int p.2]) []
  | _, _, .nil => .nil
  | p :: _, _, .cons ⟨a, t, u, n, e, hm⟩ r => by
    subst e
    have h1 : ReadsAll h [.int p.1 t, .int p.2 u] [.int p.1, .int p.2] ([] ++ ([] ++ [])) := ReadsAll.cons (Reads.int p.1 t) (ReadsAll.cons (Reads.int p.2 u) .nil)
    exact ReadsAll.cons (Reads.tuple (N _ hm).1 rfl rfl h1) (reads_pair N r)
theorem shaped_pairs (ps : List (Int × Int)) : shaped (.list (ps.map fun p => PyData.tuple [.int p.1, .int p.2])) = true := by
  have h1 : ∀ ps : List (Int × Int), PyData.canLayAll0 (ps.map fun p => PyData.tuple [.int p.1, .int p.2]) = true := fun ps => by
    induction ps with
    | nil => simp [PyData.canLayAll0]
    | cons n r ih => simp [PyData.canLayAll0, PyData.canLay0, ih]
  have h2 : ∀ ps : List (Int × Int), PyData.depthAll (ps.map fun p => PyData.tuple [.int p.1, .int p.2]) ≤ 2 := fun ps => by
    induction ps with
    | nil => simp [PyData.depthAll]
    | cons n r ih => simp only [List.map_cons, PyData.depthAll, PyData.depth]; (first | lia | omega)
  show (PyData.canLay0 (.list _) && decide (PyData.depth (.list _) ≤ 64)) = true
  rw [Bool.and_eq_true]
  exact ⟨by simp only [PyData.canLay0]; exact h1 ps, decide_eq_true (by have := h2 ps; simp only [PyData.depth]; (first | lia | omega))⟩
theorem Cmp_neP {B : Addr} {ps : List (Int × Int)} {K : Bool → Objs → Prop} (hm : (D, .pairs ps) ∈ objs) (hB : (B, .ints []) ∈ objs) (h : K (!decide (ps = [])) objs) : Cmp P w b .NotEq (.ref D) (.ref B) objs K := by
  rintro _ _ rfl rfl A h₀ L m ex s Q E fx hr k
  obtain ⟨all, vs, n, F, N, HA, h1, h2, h3, h4⟩ := hr.pairs hm
  obtain ⟨all', vs', n', F', N', HA', h1', h2', h3', h4'⟩ := hr.ints hB
  obtain ⟨o, ho, hc, nn, hd⟩ := h3
  refine ne_dataH_same (Reads.list ho hc hd (by simpa using reads_pair N h2)) (reads_of_ints h3' h2') (shaped_pairs ps) (shaped_ints []) (by have := fx.hu; (first | lia | omega)) ?_ ?_
  · cases ps <;> simp [noMix, noMixAll]
  · have e : Spec.same (.list (ps.map fun p => PyData.tuple [.int p.1, .int p.2])) (.list (([] : List Int).map PyData.int)) = decide (ps = []) := by
      cases ps <;> simp [Spec.same, Spec.sameAll]
    rw [e]
    exact k _ _ _ _ h rfl hr Same.rfl
end
end Mine
end
section
open PySem PySem.W PyProof.Rows
namespace Mine
noncomputable def Rising (xs : Array Nat) : Prop := xs.toList.Pairwise (· < ·)
theorem rising_at {xs : Array Nat} (h : Rising xs) {i j : Nat} (hij : i < j) (hj : j < xs.size) : xs.getD i 0 < xs.getD j 0 := by
  have h1 := List.pairwise_iff_getElem.mp h i j (by simpa using Nat.lt_trans hij hj) (by simpa using hj) hij
  rw [Array.getD_eq_getD_getElem?, Array.getD_eq_getD_getElem?, Array.getElem?_eq_getElem (Nat.lt_trans hij hj), Array.getElem?_eq_getElem hj]
  simpa using h1
theorem below_go {xs : Array Nat} (h : Rising xs) (j : Nat) : ∀ (f lo hi : Nat), lo ≤ hi → hi ≤ xs.size → hi - lo ≤ f → (∀ i, i < lo → xs.getD i 0 < j) → (∀ i, hi ≤ i → i < xs.size → j ≤ xs.getD i 0) →
    SetTable.below.go xs j f lo hi ≤ xs.size ∧ (∀ i, i < SetTable.below.go xs j f lo hi → xs.getD i 0 < j) ∧ ∀ i, SetTable.below.go xs j f lo hi ≤ i → i < xs.size → j ≤ xs.getD i 0
  | 0, lo, hi, h1, h2, h3, a, b => by
    have : lo = hi := by (first | lia | omega)
    subst this
    exact ⟨h2, a, b⟩
  | f + 1, lo, hi, h1, h2, h3, a, b => by
    unfold SetTable.below.go
    by_cases hl : lo < hi
    · rw [if_pos hl]
      dsimp only
      rw [show xs.getD ((lo + hi) / 2) j = xs.getD ((lo + hi) / 2) 0 from by rw [Array.getD_eq_getD_getElem?, Array.getD_eq_getD_getElem?, Array.getElem?_eq_getElem (by (first | lia | omega))]; rfl]
      by_cases hc : xs.getD ((lo + hi) / 2) 0 < j
      · rw [if_pos hc]
        refine below_go h j f _ hi (by (first | lia | omega)) h2 (by (first | lia | omega)) (fun i hi' => ?_) b
        by_cases e : i = (lo + hi) / 2
        · rw [e]; exact hc
        · exact Nat.lt_trans (rising_at h (by (first | lia | omega)) (by (first | lia | omega))) hc
      · rw [if_neg hc]
        refine below_go h j f lo _ (by (first | lia | omega)) (by (first | lia | omega)) (by (first | lia | omega)) a (fun i hi' hs => ?_)
        by_cases e : i = (lo + hi) / 2
        · rw [e]; (first | lia | omega)
        · exact Nat.le_trans (by (first | lia | omega)) (Nat.le_of_lt (rising_at h (show (lo + hi) / 2 < i by (first | lia | omega)) hs))
    · rw [if_neg hl]
      have : lo = hi := by (first | lia | omega)
      subst this
      exact ⟨h2, a, b⟩
theorem below_spec {xs : Array Nat} (h : Rising xs) (j : Nat) : SetTable.below xs j ≤ xs.size ∧ (∀ i, i < SetTable.below xs j → xs.getD i 0 < j) ∧ ∀ i, SetTable.below xs j ≤ i → i < xs.size → j ≤ xs.getD i 0 :=
  below_go h j xs.size 0 xs.size (Nat.zero_le _) (Nat.le_refl _) (Nat.le_refl _) (fun i hi => absurd hi (Nat.not_lt_zero _)) fun i h1 h2 => absurd h2 (Nat.not_lt.mpr h1)
theorem rising_insert {xs : Array Nat} (h : Rising xs) {j : Nat} (hn : xs[SetTable.below xs j]? ≠ some j) : Rising (SetTable.insertAt xs (SetTable.below xs j) j) := by
  obtain ⟨b1, b2, b3⟩ := below_spec h j
  generalize SetTable.below xs j = p at *
  unfold Rising
  rw [SetTable.toList_insertAt]
  have e1 : ∀ x ∈ xs.toList.take p, x < j := fun x hx => by
    obtain ⟨i, hi, rfl⟩ := List.mem_iff_getElem.mp hx
    rw [List.length_take] at hi
    have := b2 i (by (first | lia | omega))
    rw [Array.getD_eq_getD_getElem?, Array.getElem?_eq_getElem (by simp at hi; (first | lia | omega))] at this
    simpa using this
  have e2 : ∀ x ∈ xs.toList.drop p, j < x := fun x hx => by
    obtain ⟨i, hi, rfl⟩ := List.mem_iff_getElem.mp hx
    rw [List.length_drop] at hi
    have hs : p + i < xs.size := by simp at hi; (first | lia | omega)
    have := b3 (p + i) (by (first | lia | omega)) hs
    rw [Array.getD_eq_getD_getElem?, Array.getElem?_eq_getElem hs] at this
    rw [List.getElem_drop]
    have h2 : j ≤ xs[p + i] := by simpa using this
    refine Nat.lt_of_le_of_ne (by simpa using h2) fun e => ?_
    cases i with
    | zero => exact hn (by rw [Array.getElem?_eq_getElem (by (first | lia | omega))]; simpa using e.symm)
    | succ i =>
      have h3 := b3 p (Nat.le_refl _) (by (first | lia | omega))
      have h4 := rising_at h (show p < p + (i + 1) by (first | lia | omega)) hs
      rw [show xs.getD (p + (i + 1)) 0 = j from by rw [Array.getD_eq_getD_getElem?, Array.getElem?_eq_getElem hs]; simpa using e.symm] at h4
      (first | lia | omega)
  rw [List.pairwise_append, List.pairwise_cons]
  refine ⟨h.sublist (List.take_sublist _ _), ⟨e2, h.sublist (List.drop_sublist _ _)⟩, fun a ha b hb => ?_⟩
  rcases List.mem_cons.mp hb with rfl | hb
  · exact e1 a ha
  · exact Nat.lt_trans (e1 a ha) (e2 b hb)
/-- a table without dummies, its places rising, led as it was made -/
structure TabOK (led : Bool) (t : SetTable) : Prop where
  rs : Rising t.place
  dm : t.dummies = #[]
  ld : t.led = led
theorem has_nil (j : Nat) : SetTable.has #[] j = false := by
  unfold SetTable.has
  simp
theorem TabOK.fresh (led : Bool) (f m : Nat) : TabOK led (.fresh f m led) := ⟨List.Pairwise.nil, rfl, rfl⟩
theorem TabOK.standIn {led : Bool} {t : SetTable} (h : TabOK led t) (n : Nat) : TabOK led (t.standIn n) := by
  refine ⟨?_, rfl, h.ld⟩
  show (Array.range n).toList.Pairwise (· < ·)
  rw [Array.toList_range]
  exact List.pairwise_lt_range
theorem probe_go {t : SetTable} (hd : t.dummies = #[]) {hashAt : Nat → Int} {h : Int} : ∀ (f : Nat) (p : SetTable.Probe) (j : Nat) (d : Option Nat), p.dummy = none → SetTable.probe.go t hashAt h f p = some (.empty j d) → d = none ∧ t.place[SetTable.below t.place j]? ≠ some j
  | 0, p, j, d, hp, e => by unfold SetTable.probe.go at e; cases e
  | f + 1, p, j, d, hp, e => by
    unfold SetTable.probe.go at e
    cases hs : t.slot p.j with
    | empty =>
      rw [hs] at e
      obtain ⟨rfl, rfl⟩ : p.j = j ∧ p.dummy = d := by injection e with e; injection e with e1 e2; exact ⟨e1, e2⟩
      refine ⟨hp, fun q => ?_⟩
      unfold SetTable.slot at hs
      dsimp only at hs
      rw [if_pos (by simpa using q)] at hs
      cases hs
    | dummy =>
      unfold SetTable.slot at hs
      dsimp only at hs
      rw [hd, has_nil] at hs
      split at hs <;> cases hs
    | live i =>
      rw [hs] at e
      dsimp only at e
      split at e
      · cases e
      · exact probe_go hd f _ j d (by unfold SetTable.advance; split <;> exact hp) e
theorem TabOK.layNew {led : Bool} {t : SetTable} (ok : TabOK led t) (es : Array (Int × Value)) (h : Int) (x : Value) : TabOK led (layNew t es h x).2.1 := by
  unfold PySem.layNew
  cases hf : t.freeSlot h with
  | none => exact ok.standIn _
  | some p =>
    obtain ⟨slot, wd⟩ := p
    dsimp only
    unfold SetTable.freeSlot at hf
    split at hf
    · rename_i j d hp
      obtain ⟨rfl, hq⟩ := probe_go ok.dm _ _ j d rfl hp
      obtain ⟨rfl, rfl⟩ : j = slot ∧ false = wd := by injection hf with hf; injection hf with a b; exact ⟨a, b⟩
      have h1 : TabOK led (t.put j).1 := by
        refine ⟨rising_insert ok.rs hq, ?_, ok.ld⟩
        show (if SetTable.has t.dummies j = true then _ else t.dummies) = #[]
        rw [ok.dm, has_nil]; rfl
      unfold SetTable.orStandIn
      split
      · exact h1
      · exact h1.standIn _
    · cases hf
theorem TabOK.relayAll {led : Bool} {t : SetTable} (ok : TabOK led t) (es : Array (Int × Value)) (n : Nat) : TabOK led (relayAll t es n).2.1 := by
  unfold PySem.relayAll
  cases hr : t.relaid (es.map (·.1)) n with
  | none => exact ok.standIn _
  | some p =>
    obtain ⟨t', order⟩ := p
    dsimp only
    split
    · unfold SetTable.relaid SetTable.laid at hr
      cases ho : SetTable.layClean (SetTable.sizeAbove n - 1) (es.map (·.1)) with
      | none => rw [ho] at hr; cases hr
      | some owner =>
        rw [ho] at hr
        obtain ⟨rfl, rfl⟩ : _ = t' ∧ _ = order := by injection hr with hr; injection hr with a b; exact ⟨a, b⟩
        refine ⟨?_, rfl, ok.ld⟩
        show (List.toArray _).toList.Pairwise (· < ·)
        rw [List.toList_toArray]
        have : ∀ l : List Nat, l.Pairwise (· < ·) → ((l.filterMap fun j => (owner.getD j none).map (j, ·)).map (·.1)).Pairwise (· < ·) := fun l hl => by
          refine List.Pairwise.sublist ?_ hl
          clear hl
          induction l with
          | nil => exact List.Sublist.refl _
          | cons a r ih =>
            rw [List.filterMap_cons]
            cases owner.getD a none with
            | none => exact ih.cons _
            | some k => exact ih.cons_cons _
        exact this _ List.pairwise_lt_range
    · exact ok.standIn _
end Mine
end
section
open PySem PySem.W PyProof.Rows
namespace Mine
noncomputable def keyOf : Value → Int
  | .int i _ => i
  | _ => 0
noncomputable def keysOf (es : Array (Int × Value)) : List Int := es.toList.map fun e => keyOf e.2
section
variable {prog : Program} {w : World} {A : Around} {E : Value → Shared → Prop} {s : Shared}
/-- an object that is a set of these ints -/
noncomputable def SetIs (prog : Program) (w : World) (ks : List Int) (o : Obj) : Prop :=
  o.ExactSet ∧ ∃ es ep t, o.data = .set es ep t ∧ ElemsOf (intKind prog w) es.toList ∧ keysOf es = ks ∧ ks.Nodup ∧ es.size < scanBound ∧ t.fits es.size = true ∧ TabOK (!(w.params.followText "set-order")) t
theorem elem_int {e : Int × Value} {l : List (Int × Value)} (h : ElemsOf (intKind prog w) l) (he : e ∈ l) : ∃ t, e.2 = .int (keyOf e.2) t := by
  obtain ⟨⟨k, hk, -⟩, -⟩ := h e he
  obtain ⟨t, e⟩ := Value.isInt_shape hk
  exact ⟨t, by rw [e]; rfl⟩
theorem keyOf_is {v : Value} {k : Int} (h : (intKind prog w).is k v = true) : keyOf v = k := by
  obtain ⟨t, rfl⟩ := Value.isInt_shape h
  rfl
theorem keys_perm {es' : Array (Int × Value)} {l : List (Int × Value)} (h : es'.toList.Perm l) : (keysOf es').Perm (l.map fun e => keyOf e.2) := h.map _
theorem add_own {a : Addr} {o : Obj} {ks : List Int} {k : Int} {tk : Tok} {Q : Bool → Shared → Prop} (ho : s.heap.get? a = some o) (hS : SetIs prog w ks o) (hroom : ks.length + 1 < scanBound)
    (h : ∀ b h' o' ks', Heap.SameBut a s.heap h' → h'.get? a = some o' → SetIs prog w ks' o' → (∀ y, y ∈ ks' ↔ y ∈ ks ∨ y = k) → ks'.length ≤ ks.length + 1 → Q b { s with heap := h' }) :
    wpAny (model prog w) A (setAddHashed a (.int k tk) ((intKind prog w).hash k)) Q E s := by
  obtain ⟨hex, es, ep, t, hd, hel, rfl, hn, hb, hf, ok⟩ := id hS
  have hkey : (intKind prog w).is k (.int k tk) = true := intKind_is _ _ _ _
  have hsc : (Value.int k tk).scannable = true := rfl
  have hlen : (keysOf es).length = es.size := by unfold keysOf; simp
  unfold setAddHashed setAddHashedIn
  refine wpAny_holding (wpAny_bind (wpAny_setState_of ho hd hf ?_))
  dsimp only
  rw [byScan_of hsc hb hel]
  simp only [↓reduceIte]
  unfold setAddByScan
  refine wpAny_bind (wpAny_bind (wpAny_rule ?_))
  refine wpAny_bind (wpAny_setScan_of hkey ho hd hf hel ?_)
  cases hr : List.findIdx? (fun e => (intKind prog w).is k e.2) es.toList with
  | some j =>
    dsimp only
    obtain ⟨hj, hpj, -⟩ := List.findIdx?_eq_some_iff_getElem.mp hr
    refine wpAny_pure (wpAny_pure ?_)
    have e : s = { s with heap := s.heap } := by cases s; rfl
    rw [e]
    refine h _ s.heap o _ (Heap.SameBut.refl a s.heap) ho hS (fun y => ⟨.inl, fun q => q.elim id fun q => ?_⟩) (Nat.le_succ _)
    subst q
    exact List.mem_map.mpr ⟨_, List.getElem_mem hj, keyOf_is hpj⟩
  | none =>
    dsimp only
    have hk : k ∉ keysOf es := fun hm => by
      obtain ⟨e, he, q⟩ := List.mem_map.mp hm
      have h1 := List.findIdx?_eq_none_iff.mp hr e he
      obtain ⟨u, hu⟩ := elem_int hel he
      rw [hu, q, intKind_is] at h1
      cases h1
    have hp := layNew_perm t es ((intKind prog w).hash k) (.int k tk)
    have hf1 := layNew_fits t es ((intKind prog w).hash k) (.int k tk)
    have ok1 := ok.layNew es ((intKind prog w).hash k) (.int k tk)
    generalize layNew t es ((intKind prog w).hash k) (.int k tk) = L at hp hf1 ok1 ⊢
    obtain ⟨es1, t1, wasDummy, gave⟩ := L
    dsimp only at hp hf1 ok1 ⊢
    rw [Array.toList_push] at hp
    have hel1 : ElemsOf (intKind prog w) es1.toList := (hel.push hkey hsc).perm hp
    have hk1 := keys_perm hp
    rw [List.map_append] at hk1
    have hn1 : (keysOf es1).Nodup := hk1.nodup_iff.mpr (List.nodup_append.mpr ⟨hn, by simp, fun x hx y hy => by
      obtain rfl := List.mem_singleton.mp hy
      exact fun e => hk (by rw [← e]; exact hx)⟩)
    have hsz : es1.size = es.size + 1 := by
      have := hp.length_eq
      simpa using this
    have hb1 : es1.size < scanBound := by (first | lia | omega)
    have hmem : ∀ y, y ∈ keysOf es1 ↔ y ∈ keysOf es ∨ y = k := fun y => by
      rw [hk1.mem_iff, List.mem_append, List.map_cons, List.map_nil, List.mem_singleton]
      rfl
    have hst : ∀ {es2 : Array (Int × Value)} {t2 : SetTable} {h : Heap} {o : Obj} {es ep t} (_ : h.get? a = some o) (_ : o.data = .set es ep t), (h.update a (Obj.putSet es2 t2)).get? a = some { o with data := .set es2 (ep + 1) t2 } := fun {es2 t2 h o es ep t} ho hd => by
      have := Heap.get?_update_self (Obj.putSet es2 t2) ho (by rw [putSet_of es2 t2 hd]; rfl)
      rw [putSet_of es2 t2 hd] at this
      exact this
    have go : ∀ (g : Bool → Sem Unit), (∀ (b : Bool) (s₁ : Shared) (Q' : Unit → Shared → Prop), Q' () s₁ → wpAny (model prog w) A (g b) Q' E s₁) → wpAny (model prog w) A (do
        storeSet a es1 t1
        if (!wasDummy && t1.tooFull) = true then do
            g (relayAll t1 es1 (SetTable.grown es1.size)).2.2
            storeSet a (relayAll t1 es1 (SetTable.grown es1.size)).1 (relayAll t1 es1 (SetTable.grown es1.size)).2.1
            pure (some true)
          else pure (some true)) (fun r s' => r = some true ∧ Q true s') E s := by
      intro g hg
      refine wpAny_bind (wpAny_storeSet_of ho hd ?_ (fits_of_scanBound hb1))
      split
      · have hp2 := relayAll_perm t1 es1 (SetTable.grown es1.size)
        have hf2 := relayAll_fits t1 es1 (SetTable.grown es1.size)
        have ok2 := ok1.relayAll es1 (SetTable.grown es1.size)
        generalize relayAll t1 es1 (SetTable.grown es1.size) = R at hp2 hf2 ok2 ⊢
        obtain ⟨es2, t2, gave2⟩ := R
        dsimp only at hp2 hf2 ok2 ⊢
        have hsz2 : es2.size = es1.size := by have := hp2.length_eq; simpa using this
        have hk2 := keys_perm hp2
        have fin : Q true { s with heap := (s.heap.update a (Obj.putSet es1 t1)).update a (Obj.putSet es2 t2) } := by
          refine h true _ _ (keysOf es2) ((Heap.SameBut.update s.heap a _).trans (Heap.SameBut.update _ a _)) (hst (hst ho hd) rfl) ⟨hex, es2, _, t2, rfl, hel1.perm hp2, rfl, hk2.nodup_iff.mpr hn1, by (first | lia | omega), hf2, ok2⟩ (fun y => hk2.mem_iff.trans (hmem y)) ?_
          unfold keysOf; simp only [List.length_map, Array.length_toList]; (first | lia | omega)
        refine wpAny_bind ?_
        have nx : wpAny (model prog w) A (do
            storeSet a es2 t2
            pure (some true)) (fun r s' => r = some true ∧ Q true s') E { s with heap := s.heap.update a (Obj.putSet es1 t1) } :=
          wpAny_bind (wpAny_storeSet_of (hst ho hd) rfl (wpAny_pure ⟨rfl, fin⟩) (fits_of_scanBound (by (first | lia | omega))))
        exact hg _ _ _ nx
      · refine wpAny_pure ⟨rfl, h true _ _ (keysOf es1) (Heap.SameBut.update s.heap a _) (hst ho hd) ⟨hex, es1, _, t1, rfl, hel1, rfl, hn1, hb1, hf1, ok1⟩ hmem ?_⟩
        unfold keysOf; simp only [List.length_map, Array.length_toList]; (first | lia | omega)
    have hgw : ∀ (b : Bool) (s₁ : Shared) (Q' : Unit → Shared → Prop), Q' () s₁ → wpAny (model prog w) A (match b with | true => rule "set.scan.the-table-gave-way" | false => pure ()) Q' E s₁ := fun b s₁ Q' hq => by
      cases b
      · exact wpAny_pure hq
      · exact wpAny_rule hq
    refine wpAny_bind (hgw gave _ _ ?_)
    have up : ∀ r s', (r = some true ∧ Q true s') → wpAny (model prog w) A (match r with | some added => pure added | none => setAddHashedIn a (.int k tk) ((intKind prog w).hash k) 99999) Q E s' := fun r s' ⟨e, q⟩ => by
      subst e
      exact wpAny_pure q
    split
    · refine wpAny_bind (m := hashByValue 8 (Value.int k tk)) (wpAny_pure ?_)
      simp only [↓reduceIte]
      exact wpAny_mono (go _ hgw) up fun _ _ e => e
    · refine wpAny_bind (wpAny_pure ?_)
      simp only [↓reduceIte]
      exact wpAny_mono (go _ hgw) up fun _ _ e => e
end
end Mine
end
section
open PySem PySem.W PyProof.Rows
namespace Mine
noncomputable abbrev freshSet (w : World) : Obj := { cls := .type "set", dict := none, data := .set #[] 0 (.fresh 0 0 (!(w.params.followText "set-order"))) }
section
variable {prog : Program} {w : World} {A : Around} {E : Value → Shared → Prop} {s : Shared}
theorem SetIs.fresh : SetIs prog w [] (freshSet w) := ⟨⟨rfl, rfl, rfl⟩, #[], 0, _, rfl, fun e he => by simp at he, rfl, List.nodup_nil, by decide, by rfl, TabOK.fresh _ _ _⟩
theorem new_own (a : Value) {Q₁ : Value → Shared → Prop} (h : Q₁ (.ref s.heap.objs.size) { s with heap := s.heap.push (freshSet w) }) :
    codeAny (model prog w) A (.call (.builtin "set.__new__") ⟨[.type "set", a], []⟩) (wants Q₁ E) s := by
  refine codeAny_of_tree ?_
  show wpAny _ A.in1 (do checkBuiltinCall "set.__new__" ⟨[.type "set", a], []⟩; again (.builtin "set.__new__" ⟨[.type "set", a], []⟩)) _ _ s
  refine wpAny_bind (wpAny_of_eq (F.newCall_set_1 a) (wpAny_pure ⟨plainId_quiet F.plain_set_new _, codeAny_builtin F.entry_set_new ?_⟩))
  rw [Around.under_plainId F.plain_set_new _]
  unfold Builtin.«set.__new__» Builtin.Frozenset.newClass
  have hsub := sub_set_self
  obtain ⟨hp, g, d, tk, os⟩ := s
  dsimp only
  wp_walk
  refine wpAny_askSetting (wpAny_pure ?_)
  dsimp only
  simp only [newObj]
  refine wpAny_bind (wpAny_alloc (wpAny_pure ?_))
  exact wpAny_pure h
end
section
variable {prog : Program} {w : World} {A : Around} {R : Result → Shared → Prop} {I : Addr} {fp wr : List Addr} {G : Array GenState → Array GenState → Prop} {n : Nat} {P : Nat → Value → Prop} {St : Nat → Shared → Prop}
theorem loop_own (W : WalksS prog w A.in1 I fp wr G n P St) (S : Addr) (hSf : S ∉ fp) (ns : List Int) (hn : n = ns.length) (hval : ∀ i v, P i v → ∃ t, v = .int (ns.getD i 0) t) (hb : n + 1 < scanBound) :
    ∀ (k i : Nat) (s : Shared) (ks : List Int) (o : Obj), n - i = k → i ≤ n → St i s → s.heap.get? S = some o → SetIs prog w ks o → (∀ y, y ∈ ks ↔ y ∈ ns.take i) → ks.length ≤ i →
      (∀ s' ks' o', Moved (S :: wr) G s s' → s'.heap.get? S = some o' → SetIs prog w ks' o' → (∀ y, y ∈ ks' ↔ y ∈ ns) → ks'.length ≤ n → R (.ok (.ret .none)) s') →
      codeAny (model prog w) A (.builtin "set.update.loop" ⟨[.ref S, .ref I], []⟩) R s := by
  have hSw : S ∉ wr := fun h => hSf (W.sub _ h)
  have hsub : ∀ b ∈ wr, b ∈ S :: wr := fun b hb => List.mem_cons_of_mem _ hb
  intro k
  induction k with
  | zero =>
    intro i s ks o hk hi hst ho hS hm hl hR
    have hin : i = n := by (first | lia | omega)
    subst hin
    refine codeAny_builtin PyProof.Rows.F.entry_set_update_loop ?_
    rw [Around.under_plainId PyProof.Rows.F.plain_set_update_loop _]
    show wpAny _ A.in1 (pyNext (.ref I) >>= _) _ _ s
    refine wpAny_bind (W.done s _ _ hst fun s' mv => ?_)
    show wpAny _ A.in1 (ret Value.none) _ _ s'
    exact wpAny_pure (hR s' ks o (mv.mono hsub) (mv.heap S _ hSw ho) hS (fun y => by rw [hm y, hn, List.take_length]) hl)
  | succ k ih =>
    intro i s ks o hk hi hst ho hS hm hl hR
    have hlt : i < n := by (first | lia | omega)
    refine codeAny_builtin PyProof.Rows.F.entry_set_update_loop ?_
    rw [Around.under_plainId PyProof.Rows.F.plain_set_update_loop _]
    show wpAny _ A.in1 (pyNext (.ref I) >>= _) _ _ s
    refine wpAny_bind (W.item i s _ _ hlt hst fun v s' hP hst' mv => ?_)
    obtain ⟨t, rfl⟩ := hval i v hP
    show wpAny _ A.in1 (holding [Value.int (ns.getD i 0) t] (setAdd S (.int (ns.getD i 0) t)) >>= _) _ _ s'
    refine wpAny_bind (wpAny_holding ?_)
    unfold setAdd
    refine wpAny_holding ?_
    refine wpAny_bind ((intKind prog w).pyHash (k := ns.getD i 0) (intKind_is _ _ _ _) ?_)
    refine add_own (s := { s' with toks := s'.toks + 1 }) (mv.heap S _ hSw ho) hS (by (first | lia | omega)) fun b h' o' ks' hsb ho' hS' hm' hl' => ?_
    refine wpAny_pure ⟨plainId_quiet PyProof.Rows.F.plain_set_update_loop _, ih (i + 1) _ ks' o' (by (first | lia | omega)) hlt (W.frame _ s' _ _ hst' (Nat.le_succ _) fun b hb o e => ?_) ho' hS' (fun y => ?_) (by (first | lia | omega)) fun s'' ks'' o'' mv' ho'' hS'' hm'' hl'' => ?_⟩
    · rw [hsb.2 b (fun h : b = S => hSf (by rw [← h]; exact hb))]; exact e
    · rw [hm', hm, List.take_succ, List.mem_append, List.getElem?_eq_getElem (by (first | lia | omega))]
      simp only [Option.toList_some, List.mem_singleton]
      rw [List.getD_eq_getElem?_getD, List.getElem?_eq_getElem (by (first | lia | omega))]
      rfl
    · refine hR s'' ks'' o'' (Moved.trans W.gtrans ((mv.mono hsub).then_heap (Nat.le_succ _) fun b o hb e => ?_) mv') ho'' hS'' hm'' hl''
      rw [hsb.2 b (fun h : b = S => hb (by rw [h]; exact List.mem_cons_self))]; exact e
end
section
variable {prog : Program} {w : World} {A : Around} {E : Value → Shared → Prop} {s : Shared}
set_option maxHeartbeats 3200000 in
theorem set_list {l : Addr} {items : Array Value} {ns : List Int} {Q : Value → Shared → Prop} (hh : A.handled = none) (hl : s.heap.IsList l items) (hi : IntsAre items.toList ns) (hb : items.size + 1 < scanBound)
    (h : ∀ (h' : Heap) (tk : Nat) ks o, h'.get? s.heap.objs.size = some o → SetIs prog w ks o → (∀ y, y ∈ ks ↔ y ∈ ns) → ks.length ≤ ns.length → (∀ b o, b < s.heap.objs.size → s.heap.get? b = some o → h'.get? b = some o) → Q (.ref s.heap.objs.size) { s with heap := h', toks := tk }) :
    wpAny (model prog w) A (call (.type "set") [.ref l]) Q E s := by
  obtain ⟨c, tl, hmro⟩ := F.called_set.mro
  have hmade := F.called_set.made
  have hsub := F.called_set.sub
  refine wpAny_call (codeAny_of_tree ?_)
  show wpAny _ _ (callAny (.type "set") _) _ _ _
  refine wpAny_pure ⟨Code.quiet_builtin _ (by decide +kernel), codeAny_builtin F.entry_type_call ?_⟩
  rw [Around.under_plain (weight_type_call_type "set" [.ref l] []) rfl]
  have h1 := F.called_set.notType
  have h2 := F.called_set.canCreate
  have hct := F.typeCall_set_1 (.ref l)
  repeat (any_goals (first | assumption | wp_step))
  refine codeAny_mono (new_own (.ref l) (E := E) (Q₁ := fun obj s₁ => obj = .ref s.heap.objs.size ∧ s₁ = { s with heap := s.heap.push (freshSet w) }) ⟨rfl, rfl⟩) fun r s₁ hr => ?_
  cases r with
  | error e => exact hr
  | ok fl =>
    cases fl with
    | ret obj =>
      obtain ⟨rfl, rfl⟩ := hr
      have hS : (s.heap.push (freshSet w)).get? s.heap.objs.size = some (freshSet w) := Heap.get?_push_size _ rfl
      have hT : Shared.TypeIs { s with heap := s.heap.push (freshSet w) } (.ref s.heap.objs.size) "set" := ⟨_, hS, rfl⟩
      have hli := F.called_set.init.lookup
      have hbi := F.called_set.init.bind (.ref s.heap.objs.size)
      repeat (any_goals (first | assumption | wp_step))
      refine codeAny_mono (codeAny_call_builtin (R := wants (fun r s₂ => r = .none ∧ ∃ h' tk ks o, s₂ = { s with heap := h', toks := tk } ∧ h'.get? s.heap.objs.size = some o ∧ SetIs prog w ks o ∧ (∀ y, y ∈ ks ↔ y ∈ ns) ∧ ks.length ≤ ns.length ∧
          (∀ b o, b < s.heap.objs.size → s.heap.get? b = some o → h'.get? b = some o)) E) F.called_set.init.plain F.entry_set_init (check_set_init_1 hT ?_)) fun r₂ s₂ hr₂ => ?_
      · obtain ⟨ol, hol, hcl, nl, hdl⟩ := hl
        obtain ⟨ocls, odict, odata, oslots⟩ := ol
        simp only at hcl hdl
        subst hcl; subst hdl
        have hol' : (s.heap.push (freshSet w)).get? l = some { cls := .type "list", dict := odict, data := .seq items nl, slots := oslots } := Heap.get?_push_of_some _ hol
        have hsls := F.sub_list_set
        have hslf := F.sub_list_frozenset
        have hne : (Value.type "list" == Value.type "dict") = false := by decide
        have hl1 : (s.heap.push (freshSet w)).IsList l items := ⟨_, hol', rfl, nl, rfl⟩
        unfold Builtin.«set.__init__» noKeywords Builtin.Frozenset.updateFrom
        generalize hPI : pyIter = PI
        wp_walk
        subst hPI
        refine wpAny_pyIter_list hl1 ?_
        refine wpAny_bind (wpAny_runValue ?_)
        have hlS : l < s.heap.objs.size := Heap.lt_size hol
        have hh3 : A.in1.in1.in1.handled = none := by simp [hh]
        have hneI : l ≠ (s.heap.push (freshSet w)).objs.size := by
          rw [Heap.size_push]; exact Nat.ne_of_lt (Nat.lt_succ_of_lt hlS)
        have hSf : s.heap.objs.size ∉ [(s.heap.push (freshSet w)).objs.size, l] := by
          rw [Heap.size_push]; simp only [List.mem_cons, List.mem_singleton, List.not_mem_nil, or_false, not_or]
          exact ⟨Nat.ne_of_lt (Nat.lt_succ_self _), Nat.ne_of_gt hlS⟩
        have hlen : items.size = ns.length := by have := hi.length; simpa using this
        have hget : ((s.heap.push (freshSet w)).push { cls := .type "list_iterator", data := .fields #[.ref l, .int 0 0] }).get? s.heap.objs.size = some (freshSet w) := Heap.get?_push_of_some _ hS
        refine loop_own ((Walks.list hh3 _ l hneI items).toS) s.heap.objs.size hSf ns hlen (fun i v hv => PyProof.Rows.IntsAre.int_at hi i v (by rw [Array.getElem?_toList]; exact hv)) hb (items.size - 0) 0 _ [] _ (by (first | lia | omega)) (Nat.zero_le _)
          ⟨⟨_, Heap.get?_push_size _ rfl, rfl, rfl⟩, (hl1.push _)⟩ hget SetIs.fresh (fun y => by simp) (Nat.le_refl _) ?hR
        case hR =>
          intro s' ks' o' hm ho' hS' hm' hl'
          obtain ⟨h', g', d', tk', os'⟩ := s'
          have eg : g' = s.gens := hm.gens
          have ed : d' = s.drawn := hm.drawn
          have eo : os' = s.os := hm.os
          subst eg; subst ed; subst eo
          show wpAny _ _ _ _ _ _
          refine wpAny_pure ?_
          show wpAny _ _ (ret Value.none) _ _ _
          refine wpAny_pure ⟨rfl, h', tk', ks', o', rfl, ho', hS', hm', by (first | lia | omega), fun b o hb e => ?_⟩
          have hb1 : b ≠ s.heap.objs.size := Nat.ne_of_lt hb
          have hb2 : b ≠ (s.heap.push (freshSet w)).objs.size := by
            rw [Heap.size_push]; exact Nat.ne_of_lt (Nat.lt_succ_of_lt hb)
          exact hm.heap b o (by simp only [List.mem_cons, List.mem_singleton, List.not_mem_nil, or_false, not_or]; exact ⟨hb1, hb2⟩) (Heap.get?_push_of_some _ (Heap.get?_push_of_some _ e))
      · cases r₂ with
        | error e => exact hr₂
        | ok fl₂ =>
          cases fl₂ with
          | ret r =>
            obtain ⟨rfl, h', tk, ks', o', rfl, ho', hS', hm', hl', hk'⟩ := hr₂
            repeat (any_goals (first | assumption | wp_step))
            exact h _ _ ks' o' ho' hS' hm' hl' hk'
          | _ => exact hr₂.elim
    | _ => exact hr.elim
end
end Mine
end
section
open PySem PySem.W PyProof.Rows
namespace Mine
open PySem.F in
theorem owner_si : Manifest.owners.lookup (String.ofList ['s', 'e', 't', '_', 'i', 't', 'e', 'r', 'a', 't', 'o', 'r']) = some Manifest.sig_set_iterator := by kernel_rfl
theorem slot_si_next : Slot "set_iterator" "__next__" "set_iterator.__next__" :=
  .of (owner := "set_iterator") (n := "__next__") (by rw [typeLookup_type, builtinLookup_eq_fast]; kernel_rfl) (by decide +kernel) (by decide +kernel) (by decide +kernel)
    (by first | exact .inl (by decide +kernel) | exact .inr (by decide +kernel)) (by rw [isSubtype_type]; kernel_rfl)
theorem entry_si_next : entryFor table "set_iterator.__next__" = some Builtin.«set_iterator.__next__» := entryFor_of_tree (by kernel_rfl)
theorem args_si_next (a : Value) : argsOk "set_iterator.__next__" ⟨[a], []⟩ := by
  unfold argsOk; rw [signature?_of (id := "set_iterator.__next__") (n := ['_', '_', 't', 'x', 'e', 'n', '_', '_']) (o := ['r', 'o', 't', 'a', 'r', 'e', 't', 'i', '_', 't', 'e', 's']) (by kernel_rfl) owner_si]; kernel_rfl
theorem slot_si_iter : Slot "set_iterator" "__iter__" "set_iterator.__iter__" :=
  .of (owner := "set_iterator") (n := "__iter__") (by rw [typeLookup_type, builtinLookup_eq_fast]; kernel_rfl) (by decide +kernel) (by decide +kernel) (by decide +kernel)
    (by first | exact .inl (by decide +kernel) | exact .inr (by decide +kernel)) (by rw [isSubtype_type]; kernel_rfl)
theorem args_si_iter (a : Value) : argsOk "set_iterator.__iter__" ⟨[a], []⟩ := by
  unfold argsOk; rw [signature?_of (id := "set_iterator.__iter__") (n := ['_', '_', 'r', 'e', 't', 'i', '_', '_']) (o := ['r', 'o', 't', 'a', 'r', 'e', 't', 'i', '_', 't', 'e', 's']) (by kernel_rfl) owner_si]; kernel_rfl
theorem entry_si_iter : entryFor table "set_iterator.__iter__" = some Builtin.«dict_keyiterator.__iter__» :=
  entryFor_alias (id' := "dict_keyiterator.__iter__") (by kernel_rfl) (by first | rfl | decide +kernel | (unfold String.splitOn; simp +decide [String.splitOnAux])) (by decide +kernel) (by kernel_rfl)
theorem entry_set_iter' : entryFor table "set.__iter__" = some Builtin.«frozenset.__iter__» :=
  entryFor_alias (id' := "frozenset.__iter__") (by kernel_rfl) (by first | rfl | decide +kernel | (unfold String.splitOn; simp +decide [String.splitOnAux])) (by decide +kernel) (by kernel_rfl)
section
variable {prog : Program} {w : World} {A : Around} {E : Value → Shared → Prop} {s : Shared}
noncomputable abbrev byText (w : World) : Bool := w.params.followText "set-order"
theorem wp_byText {Q : Bool → Shared → Prop} (h : Q (byText w) s) : wpAny (model prog w) A setsByText Q E s := by
  unfold setsByText
  exact wpAny_bind (wpAny_askSetting (wpAny_pure h))
theorem setWalk_text {a : Addr} {o : Obj} {es : Array (Int × Value)} {ep : Nat} {t : SetTable} {Q : Array (Int × Value) → Shared → Prop} (ho : s.heap.get? a = some o) (hd : o.data = .set es ep t) (hf : t.fits es.size = true) (hb : byText w = true)
    (h : Q (pickOrder (w.params.setOrder a ep) es) s) : wpAny (model prog w) A (setWalk a) Q E s := by
  unfold setWalk
  refine wpAny_bind (wpAny_setState_of ho hd hf ?_)
  dsimp only
  refine wpAny_bind (wp_byText ?_)
  rw [if_pos hb]
  exact wpAny_bind (wpAny_askSetting (wpAny_pure h))
theorem setNext_text {a : Addr} {o : Obj} {es : Array (Int × Value)} {ep slot given : Nat} {t : SetTable} {Q : Option (Value × Nat) → Shared → Prop} (ho : s.heap.get? a = some o) (hd : o.data = .set es ep t) (hf : t.fits es.size = true) (hb : byText w = true)
    (h : Q (((pickOrder (w.params.setOrder a ep) es)[given]?).map fun e => (e.2, slot)) s) : wpAny (model prog w) A (setNext a slot given ep) Q E s := by
  unfold setNext
  refine wpAny_bind (wpAny_setState_of ho hd hf ?_)
  dsimp only
  refine wpAny_bind (wp_byText ?_)
  rw [if_pos hb, if_neg (by simp)]
  exact wpAny_bind (setWalk_text ho hd hf hb (wpAny_pure h))
theorem setNext_led {a : Addr} {o : Obj} {es : Array (Int × Value)} {ep slot given : Nat} {t : SetTable} {Q : Option (Value × Nat) → Shared → Prop} (ho : s.heap.get? a = some o) (hd : o.data = .set es ep t) (hf : t.fits es.size = true) (hb : byText w = false) (hp : (!t.plain && decide (es.size > 1)) = false) (hl : t.led = true)
    (h : Q (match es[SetTable.below t.place slot]?, t.place[SetTable.below t.place slot]? with | some (_, x), some j => some (x, j + 1) | _, _ => none) s) : wpAny (model prog w) A (setNext a slot given ep) Q E s := by
  unfold setNext
  refine wpAny_bind (wpAny_setState_of ho hd hf ?_)
  dsimp only
  refine wpAny_bind (wp_byText ?_)
  rw [if_neg (by rw [hb]; simp)]
  show wpAny _ _ (if (!t.plain && decide (es.size > 1)) = true then _ else _) _ _ _
  rw [if_neg (by rw [hp]; simp)]
  refine wpAny_bind ?_
  show wpAny _ _ (if (!t.led && !es.isEmpty) = true then _ else _) _ _ _
  rw [if_neg (by rw [hl]; simp)]
  exact wpAny_pure (wpAny_pure h)
theorem pick_perm {α : Type} (next : Nat → Nat) : ∀ (f k : Nat) (l : List α) (out : Array α), f = l.length → (pickOrder.go next f k l out).toList.Perm (out.toList ++ l)
  | 0, k, l, out, h => by
    have : l = [] := List.length_eq_zero_iff.mp h.symm
    subst this
    unfold pickOrder.go
    simp
  | f + 1, k, l, out, h => by
    unfold pickOrder.go
    have hlt : next k % l.length < l.length := Nat.mod_lt _ (by (first | lia | omega))
    rw [List.getElem?_eq_getElem hlt]
    dsimp only
    refine (pick_perm next f (k + 1) _ _ (by rw [List.length_eraseIdx_of_lt hlt]; (first | lia | omega))).trans ?_
    rw [Array.toList_push, List.append_assoc]
    refine List.Perm.append_left _ ?_
    have : ∀ {l : List α} {i : Nat} (h : i < l.length), (l[i] :: l.eraseIdx i).Perm l := fun {l i} h => by
      induction l generalizing i with
      | nil => cases h
      | cons a r ih =>
        cases i with
        | zero => exact List.Perm.refl _
        | succ i =>
          rw [List.getElem_cons_succ, List.eraseIdx_cons_succ]
          exact (List.Perm.swap a _ _).trans ((ih (by simpa using h)).cons a)
    exact this hlt
noncomputable abbrev siData (first : Value) (i : Nat) (S : Addr) (n ep : Nat) : Data := .fields #[first, rawInt (i : Int), .ref S, rawInt (n : Int), rawInt (ep : Int)]
noncomputable def IsSI (h : Heap) (I : Addr) (first : Value) (i : Nat) (S : Addr) (n ep : Nat) : Prop := ∃ o, h.get? I = some o ∧ o.cls = .type "set_iterator" ∧ o.data = siData first i S n ep
theorem IsSI.typeIs {I S : Addr} {first : Value} {i n ep : Nat} (x : IsSI s.heap I first i S n ep) : s.TypeIs (.ref I) "set_iterator" := let ⟨o, ho, hc, _⟩ := x; ⟨o, ho, hc⟩
theorem si_next {I S : Addr} {slot i n ep nx : Nat} {x : Value} {o : Obj} {es : Array (Int × Value)} {t : SetTable} {Q : Option Value → Shared → Prop} (hit : IsSI s.heap I (rawInt (slot : Int)) i S n ep) (ho : s.heap.get? S = some o) (hd : o.data = .set es ep t) (hf : t.fits es.size = true) (hn : es.size = n)
    (hx : ∀ (Q : Option (Value × Nat) → Shared → Prop) (A : Around) (E : Value → Shared → Prop), Q (some (x, nx)) s → wpAny (model prog w) A (setNext S slot i ep) Q E s)
    (hQ : ∀ h', IsSI h' I (rawInt (nx : Int)) (i + 1) S n ep → Heap.SameBut I s.heap h' → Q (some x) { s with heap := h' }) : wpAny (model prog w) A (pyNext (.ref I)) Q E s := by
  obtain ⟨oI, hoI, hc, hdI⟩ := id hit
  unfold pyNext
  refine wpAny_bind (wpAny_attempt (wpAny_callSpecial?_slot (name := Str.ofString "__next__") hit.typeIs slot_si_next
    (wpAny_call_entry slot_si_next hit.typeIs entry_si_next ?_ (args_si_next _))))
  unfold Builtin.«set_iterator.__next__»
  refine wpAny_bind (wpAny_of_eq (a := (Value.ref I, [])) rfl ?_)
  try dsimp only
  refine wpAny_bind (wpAny_fieldsOf hoI hdI ?_)
  show wpAny _ _ (setEntries S >>= _) _ _ s
  refine wpAny_bind (wpAny_setEntries_of ho hd hf ?_)
  rw [if_neg (by rw [hn]; simp)]
  show wpAny _ _ (setNext S ((slot : Int)).toNat ((i : Int)).toNat ((ep : Int)).toNat >>= _) _ _ s
  rw [Int.toNat_natCast, Int.toNat_natCast, Int.toNat_natCast]
  refine wpAny_bind (hx _ _ _ ?_)
  dsimp only
  refine wpAny_bind (wpAny_setField hoI hdI (by simp) ?_)
  have g1 := Heap.get?_update_self (Obj.mapFields (·.setIfInBounds 0 (rawInt (nx : Int)))) hoI (Obj.isFreed_of_fields (Obj.data_mapFields hdI _))
  have d1 := Obj.data_mapFields hdI (·.setIfInBounds 0 (rawInt (nx : Int)))
  refine wpAny_bind (wpAny_setField g1 d1 (by simp) ?_)
  refine wpAny_pure ⟨x, rfl, wpAny_pure (hQ _ ⟨_, Heap.get?_update_self _ g1 (Obj.isFreed_of_fields (Obj.data_mapFields d1 _)), (Obj.cls_mapFields ..).trans ((Obj.cls_mapFields ..).trans hc), ?_⟩ ((Heap.SameBut.update _ _ _).trans (Heap.SameBut.update _ _ _)))⟩
  rw [Obj.data_mapFields d1]
  simp [siData]
theorem si_stop {I S : Addr} {slot i n ep : Nat} {o : Obj} {es : Array (Int × Value)} {t : SetTable} {Q : Option Value → Shared → Prop} (hh : A.handled = none) (hit : IsSI s.heap I (rawInt (slot : Int)) i S n ep) (ho : s.heap.get? S = some o) (hd : o.data = .set es ep t) (hf : t.fits es.size = true) (hn : es.size = n)
    (hx : ∀ (Q : Option (Value × Nat) → Shared → Prop) (A : Around) (E : Value → Shared → Prop), Q none s → wpAny (model prog w) A (setNext S slot i ep) Q E s)
    (hQ : ∀ h', Heap.ExtBut I s.heap h' → Q none { s with heap := h' }) : wpAny (model prog w) A (pyNext (.ref I)) Q E s := by
  obtain ⟨oI, hoI, hc, hdI⟩ := id hit
  unfold pyNext
  refine wpAny_bind (wpAny_attempt (wpAny_callSpecial?_slot (name := Str.ofString "__next__") hit.typeIs slot_si_next
    (wpAny_call_entry slot_si_next hit.typeIs entry_si_next ?_ (args_si_next _))))
  unfold Builtin.«set_iterator.__next__»
  refine wpAny_bind (wpAny_of_eq (a := (Value.ref I, [])) rfl ?_)
  try dsimp only
  refine wpAny_bind (wpAny_fieldsOf hoI hdI ?_)
  show wpAny _ _ (setEntries S >>= _) _ _ s
  refine wpAny_bind (wpAny_setEntries_of ho hd hf ?_)
  rw [if_neg (by rw [hn]; simp)]
  show wpAny _ _ (setNext S ((slot : Int)).toNat ((i : Int)).toNat ((ep : Int)).toNat >>= _) _ _ s
  rw [Int.toNat_natCast, Int.toNat_natCast, Int.toNat_natCast]
  refine wpAny_bind (hx _ _ _ ?_)
  dsimp only
  refine wpAny_bind (wpAny_setField hoI hdI (by simp) ?_)
  show wpAny _ _ (newExc (.type "StopIteration") [] >>= _) _ _ _
  refine wpAny_bind ?_
  simp only [newExc, newTuple]
  refine wpAny_bind (wpAny_newObj_type ?_ (by size_fits))
  refine wpAny_bind (m := firstArgMember _ _) (wpAny_of_eq (a := Value.none) (by first | rfl | (simp only [firstArgMember]; rfl)) ?_)
  refine wpAny_newObj_type ?_ (by size_fits)
  simp only [raiseNew]
  refine wpAny_bind (wpAny_handled ?_)
  first | rw [show A.in1.handled = none from hh] | rw [hh]
  refine wpAny_bind (wpAny_pure (wpAny_throw ?_))
  refine wpAny_bind (wpAny_isInstance (T := "StopIteration") (b := true) ⟨_, Heap.get?_push_size _ rfl, rfl⟩ isSubtype_stop ?_)
  exact wpAny_pure (hQ _ (((Heap.SameBut.update _ _ _).extBut.push _).push _))
end
end Mine
end
section
open PySem PySem.W PyProof.Rows
namespace Mine
section
variable {prog : Program} {w : World} {A : Around} {E : Value → Shared → Prop} {s : Shared}
theorem si_next_d {I S T : Addr} {i n ep p : Nat} {x : Value} {hx0 : Int} {o oT : Obj} {es : Array (Int × Value)} {t : SetTable} {pl : List Nat} {m : Nat} {Q : Option Value → Shared → Prop} (hit : IsSI s.heap I (.ref T) i S n ep) (ho : s.heap.get? S = some o) (hd : o.data = .set es ep t) (hf : t.fits es.size = true) (hn : es.size = n)
    (hT : s.heap.get? T = some oT) (hTd : oT.data = .seq (pl.map fun (k : Nat) => rawInt (k : Int)).toArray m) (hp : pl[i]? = some p) (hx : es[p]? = some (hx0, x))
    (hQ : ∀ h', IsSI h' I (.ref T) (i + 1) S n ep → Heap.SameBut I s.heap h' → Q (some x) { s with heap := h' }) : wpAny (model prog w) A (pyNext (.ref I)) Q E s := by
  obtain ⟨oI, hoI, hc, hdI⟩ := id hit
  unfold pyNext
  refine wpAny_bind (wpAny_attempt (wpAny_callSpecial?_slot (name := Str.ofString "__next__") hit.typeIs slot_si_next
    (wpAny_call_entry slot_si_next hit.typeIs entry_si_next ?_ (args_si_next _))))
  unfold Builtin.«set_iterator.__next__»
  refine wpAny_bind (wpAny_of_eq (a := (Value.ref I, [])) rfl ?_)
  try dsimp only
  refine wpAny_bind (wpAny_fieldsOf hoI hdI ?_)
  show wpAny _ _ (setEntries S >>= _) _ _ s
  refine wpAny_bind (wpAny_setEntries_of ho hd hf ?_)
  rw [if_neg (by rw [hn]; simp)]
  show wpAny _ _ (seqItems? (.ref T) >>= _) _ _ s
  refine wpAny_bind (wpAny_seqItems hT hTd ?_)
  have e1 : (pl.map fun (k : Nat) => rawInt (k : Int)).toArray[((i : Int)).toNat]? = some (rawInt (p : Int)) := by
    rw [Int.toNat_natCast]; simp [hp]
  simp only [e1]
  show wpAny _ _ (setNextDrawn S ((p : Int)).toNat ((ep : Int)).toNat >>= _) _ _ s
  rw [Int.toNat_natCast, Int.toNat_natCast]
  refine wpAny_bind ?_
  unfold setNextDrawn
  refine wpAny_bind (wpAny_setState_of ho hd hf ?_)
  dsimp only
  rw [if_neg (by simp), hx]
  refine wpAny_pure ?_
  refine wpAny_bind (wpAny_setField hoI hdI (by simp) ?_)
  refine wpAny_pure ⟨x, rfl, wpAny_pure (hQ _ ⟨_, Heap.get?_update_self _ hoI (Obj.isFreed_of_fields (Obj.data_mapFields hdI _)), (Obj.cls_mapFields ..).trans hc, ?_⟩ (Heap.SameBut.update _ _ _))⟩
  rw [Obj.data_mapFields hdI]
  simp [siData]
theorem si_stop_d {I S T : Addr} {i n ep : Nat} {o oT : Obj} {es : Array (Int × Value)} {t : SetTable} {pl : List Nat} {m : Nat} {Q : Option Value → Shared → Prop} (hh : A.handled = none) (hit : IsSI s.heap I (.ref T) i S n ep) (ho : s.heap.get? S = some o) (hd : o.data = .set es ep t) (hf : t.fits es.size = true) (hn : es.size = n)
    (hT : s.heap.get? T = some oT) (hTd : oT.data = .seq (pl.map fun (k : Nat) => rawInt (k : Int)).toArray m) (hp : pl.length ≤ i)
    (hQ : ∀ h', Heap.ExtBut I s.heap h' → Q none { s with heap := h' }) : wpAny (model prog w) A (pyNext (.ref I)) Q E s := by
  obtain ⟨oI, hoI, hc, hdI⟩ := id hit
  unfold pyNext
  refine wpAny_bind (wpAny_attempt (wpAny_callSpecial?_slot (name := Str.ofString "__next__") hit.typeIs slot_si_next
    (wpAny_call_entry slot_si_next hit.typeIs entry_si_next ?_ (args_si_next _))))
  unfold Builtin.«set_iterator.__next__»
  refine wpAny_bind (wpAny_of_eq (a := (Value.ref I, [])) rfl ?_)
  try dsimp only
  refine wpAny_bind (wpAny_fieldsOf hoI hdI ?_)
  show wpAny _ _ (setEntries S >>= _) _ _ s
  refine wpAny_bind (wpAny_setEntries_of ho hd hf ?_)
  rw [if_neg (by rw [hn]; simp)]
  show wpAny _ _ (seqItems? (.ref T) >>= _) _ _ s
  refine wpAny_bind (wpAny_seqItems hT hTd ?_)
  have e1 : (pl.map fun (k : Nat) => rawInt (k : Int)).toArray[((i : Int)).toNat]? = none := by
    rw [Int.toNat_natCast]; simp [hp]
  simp only [e1]
  refine wpAny_bind (wpAny_setField hoI hdI (by simp) ?_)
  have g1 := Heap.get?_update_self (Obj.mapFields (·.setIfInBounds 0 (rawInt 0))) hoI (Obj.isFreed_of_fields (Obj.data_mapFields hdI _))
  have d1 := Obj.data_mapFields hdI (·.setIfInBounds 0 (rawInt 0))
  refine wpAny_bind (wpAny_setField g1 d1 (by simp) ?_)
  show wpAny _ _ (newExc (.type "StopIteration") [] >>= _) _ _ _
  refine wpAny_bind ?_
  simp only [newExc, newTuple]
  refine wpAny_bind (wpAny_newObj_type ?_ (by size_fits))
  refine wpAny_bind (m := firstArgMember _ _) (wpAny_of_eq (a := Value.none) (by first | rfl | (simp only [firstArgMember]; rfl)) ?_)
  refine wpAny_newObj_type ?_ (by size_fits)
  simp only [raiseNew]
  refine wpAny_bind (wpAny_handled ?_)
  first | rw [show A.in1.handled = none from hh] | rw [hh]
  refine wpAny_bind (wpAny_pure (wpAny_throw ?_))
  refine wpAny_bind (wpAny_isInstance (T := "StopIteration") (b := true) ⟨_, Heap.get?_push_size _ rfl, rfl⟩ isSubtype_stop ?_)
  exact wpAny_pure (hQ _ ((((Heap.SameBut.update _ _ _).trans (Heap.SameBut.update _ _ _)).extBut.push _).push _))
theorem si_self {I S : Addr} {first : Value} {i n ep : Nat} {Q : Value → Shared → Prop} (hit : IsSI s.heap I first i S n ep) (h : Q (.ref I) s) : wpAny (model prog w) A (pyIter (.ref I)) Q E s := by
  refine wpAny_pyIter_slot hit.typeIs slot_si_iter (wpAny_call_entry slot_si_iter hit.typeIs entry_si_iter ?_ (args_si_iter _))
  show wpAny _ _ (ret (.ref I)) _ _ s
  exact wpAny_pure ⟨_, rfl, "set_iterator", _, hit.typeIs, slot_si_next.lookup, h⟩
theorem IsSI.at {h h' : Heap} {I S : Addr} {first : Value} {i n ep : Nat} (x : IsSI h I first i S n ep) (e : ∀ o, h.get? I = some o → h'.get? I = some o) : IsSI h' I first i S n ep := let ⟨o, ho, r⟩ := x; ⟨o, e _ ho, r⟩
end
theorem walk_o {prog : Program} {w : World} {A : Around} (hh : A.handled = none) (I S : Addr) (hne : S ≠ I) {n ep : Nat} {o : Obj} {es : Array (Int × Value)} {t : SetTable} (hd : o.data = .set es ep t) (hf : t.fits es.size = true) (hn : es.size = n) (vs : List Value) (Good : Nat → Nat → Prop)
    (step : ∀ i slot, i < n → Good slot i → ∃ nx x, vs[i]? = some x ∧ Good nx (i + 1) ∧ ∀ (s : Shared) (Q : Option (Value × Nat) → Shared → Prop) (A : Around) (E : Value → Shared → Prop), s.heap.get? S = some o → Q (some (x, nx)) s → wpAny (model prog w) A (setNext S slot i ep) Q E s)
    (stop : ∀ slot, Good slot n → ∀ (s : Shared) (Q : Option (Value × Nat) → Shared → Prop) (A : Around) (E : Value → Shared → Prop), s.heap.get? S = some o → Q none s → wpAny (model prog w) A (setNext S slot n ep) Q E s) :
    WalksS prog w A I [I, S] [I] (fun a b => b = a) n (fun i v => vs[i]? = some v) (fun i s => ∃ slot : Nat, IsSI s.heap I (rawInt (slot : Int)) i S n ep ∧ s.heap.get? S = some o ∧ Good slot i) where
  sub := fun b hb => by simp at hb; simp [hb]
  grefl := fun _ => rfl
  gtrans := fun _ _ _ h1 h2 => h2.trans h1
  frame := fun _ s h' tk ⟨slot, x, y, z⟩ _ hk => ⟨slot, x.at fun o e => hk I (by simp) o e, hk S (by simp) _ y, z⟩
  item := fun i s Q E hi ⟨slot, x, y, z⟩ hQ => by
    obtain ⟨nx, v, e1, e2, e3⟩ := step i slot hi z
    refine si_next x y hd hf hn (fun Q A E q => e3 s Q A E y q) fun h' hit' hs' => hQ v _ e1 ⟨nx, hit', (hs'.2 S hne).trans y, e2⟩ ⟨fun b o hb e => hs'.extBut b o (fun h => hb (by simp [h])) e, rfl, rfl, rfl, Nat.le_refl _⟩
  done := fun s Q E ⟨slot, x, y, z⟩ hQ => si_stop hh x y hd hf hn (fun Q A E q => stop slot z s Q A E y q) fun h' he' => hQ _ ⟨fun b o hb e => he' b o (fun h => hb (by simp [h])) e, rfl, rfl, rfl, Nat.le_refl _⟩
  self := fun _ _ _ _ ⟨slot, x, y, z⟩ hQ => si_self x hQ
theorem walk_d {prog : Program} {w : World} {A : Around} (hh : A.handled = none) (I S T : Addr) (hne : S ≠ I) (hnT : T ≠ I) {n ep m : Nat} {o oT : Obj} {es : Array (Int × Value)} {t : SetTable} (hd : o.data = .set es ep t) (hf : t.fits es.size = true) (hn : es.size = n) {pl : List Nat} (hTd : oT.data = .seq (pl.map fun (k : Nat) => rawInt (k : Int)).toArray m) (hpl : pl.Perm (List.range n)) :
    WalksS prog w A I [I, S, T] [I] (fun a b => b = a) n (fun i v => (pl.filterMap fun p => (es[p]?).map (·.2))[i]? = some v) (fun i s => IsSI s.heap I (.ref T) i S n ep ∧ s.heap.get? S = some o ∧ s.heap.get? T = some oT) where
  sub := fun b hb => by simp at hb; simp [hb]
  grefl := fun _ => rfl
  gtrans := fun _ _ _ h1 h2 => h2.trans h1
  frame := fun _ s h' tk ⟨x, y, z⟩ _ hk => ⟨x.at fun o e => hk I (by simp) o e, hk S (by simp) _ y, hk T (by simp) _ z⟩
  item := fun i s Q E hi ⟨x, y, z⟩ hQ => by
    have hl : pl.length = n := by have := hpl.length_eq; simpa using this
    have hp : pl[i]? = some (pl[i]'(by (first | lia | omega))) := List.getElem?_eq_getElem (by (first | lia | omega))
    have hin : pl[i]'(by (first | lia | omega)) < es.size := by have := hpl.subset (List.getElem_mem (show i < pl.length by (first | lia | omega))); rw [List.mem_range] at this; (first | lia | omega)
    refine si_next_d (hx0 := (es[pl[i]'(by (first | lia | omega))]).1) (x := (es[pl[i]'(by (first | lia | omega))]).2) x y hd hf hn z hTd hp (Array.getElem?_eq_getElem hin) fun h' hit' hs' => hQ _ _ ?_ ⟨hit', (hs'.2 S hne).trans y, (hs'.2 T hnT).trans z⟩ ⟨fun b o hb e => hs'.extBut b o (fun h => hb (by simp [h])) e, rfl, rfl, rfl, Nat.le_refl _⟩
    have hall : ∀ l : List Nat, (∀ p ∈ l, p < es.size) → l.filterMap (fun p => (es[p]?).map (·.2)) = l.map fun p => (es.getD p (0, .none)).2 := fun l => by
      induction l with
      | nil => intro _; rfl
      | cons a r ih =>
        intro h
        have ha := h a (.head _)
        rw [List.filterMap_cons, Array.getElem?_eq_getElem ha, List.map_cons, ← ih fun p hp => h p (.tail _ hp)]
        simp [Array.getD, ha]
    rw [hall pl fun p hp => by have := hpl.subset hp; rw [List.mem_range] at this; (first | lia | omega), List.getElem?_map, hp]
    simp [Array.getD, hin]
  done := fun s Q E ⟨x, y, z⟩ hQ => si_stop_d hh x y hd hf hn z hTd (by have := hpl.length_eq; simp at this; (first | lia | omega)) fun h' he' => hQ _ ⟨fun b o hb e => he' b o (fun h => hb (by simp [h])) e, rfl, rfl, rfl, Nat.le_refl _⟩
  self := fun _ _ _ _ ⟨x, y, z⟩ hQ => si_self x hQ
end Mine
end
section
open PySem PySem.W PyProof.Rows
namespace Mine
section
variable {prog : Program} {w : World} {A : Around} {E : Value → Shared → Prop}
theorem wp_order {n : Nat} {Q : Nat → Shared → Prop} {s : Shared} (hn : n ≠ 0) (h : ∀ i d, i < n → Q i { s with drawn := d }) : wpAny (model prog w) A (choose .order n) Q E s := by
  intro Γ p hΓ
  unfold choose
  rw [Sem.wp_choose]
  exact ⟨hn, h _ _ (Nat.mod_lt _ (Nat.pos_of_ne_zero hn))⟩
theorem wp_drawOrder {α : Type} : ∀ (n : Nat) (l : List α) (s : Shared) (Q : List α → Shared → Prop), n = l.length → (∀ l' d, l'.Perm l → Q l' { s with drawn := d }) → wpAny (model prog w) A (drawOrder n l) Q E s
  | 0, l, s, Q, hn, h => by
    have : l = [] := List.length_eq_zero_iff.mp hn.symm
    subst this
    exact wpAny_pure (h [] s.drawn (List.Perm.refl _))
  | n + 1, [], s, Q, hn, h => absurd hn (Nat.succ_ne_zero _)
  | n + 1, a :: r, s, Q, hn, h => by
    unfold drawOrder
    refine wpAny_bind (wp_order (by simp) fun i d hi => ?_)
    rw [List.getElem?_eq_getElem hi]
    dsimp only
    refine wpAny_bind (wp_drawOrder n _ _ _ (by rw [List.length_eraseIdx_of_lt hi]; simp at hn ⊢; (first | lia | omega)) fun l' d' hp => ?_)
    refine wpAny_pure (h _ d' ((hp.cons _).trans ?_))
    have : ∀ {l : List α} {i : Nat} (h : i < l.length), (l[i] :: l.eraseIdx i).Perm l := fun {l i} h => by
      induction l generalizing i with
      | nil => cases h
      | cons a r ih =>
        cases i with
        | zero => exact List.Perm.refl _
        | succ i =>
          rw [List.getElem_cons_succ, List.eraseIdx_cons_succ]
          exact (List.Perm.swap a _ _).trans ((ih (by simpa using h)).cons a)
    exact this hi
theorem vals_map {es : Array (Int × Value)} {l : List Nat} (h : ∀ p ∈ l, p < es.size) : l.filterMap (fun p => (es[p]?).map (·.2)) = l.map fun p => (es.getD p (0, .none)).2 := by
  induction l with
  | nil => rfl
  | cons a r ih =>
    have ha := h a (.head _)
    rw [List.filterMap_cons, Array.getElem?_eq_getElem ha, List.map_cons, ← ih fun p hp => h p (.tail _ hp)]
    simp [Array.getD, ha]
theorem ints_of {vs : List Value} (h : ∀ v ∈ vs, ∃ t, v = .int (keyOf v) t) : IntsAre vs (vs.map keyOf) := by
  induction vs with
  | nil => exact .nil
  | cons v r ih =>
    obtain ⟨t, e⟩ := h v (.head _)
    rw [List.map_cons, e]
    exact .cons _ _ (ih fun u hu => h u (.tail _ hu))
theorem range_vals (es : Array (Int × Value)) : (List.range es.size).map (fun p => (es.getD p (0, .none)).2) = es.toList.map (·.2) := by
  apply List.ext_getElem
  · simp
  · intro i h1 h2
    simp at h1
    simp [Array.getD, h1]
theorem below_zero {xs : Array Nat} (h : Rising xs) : SetTable.below xs 0 = 0 := by
  obtain ⟨a, b, c⟩ := below_spec h 0
  generalize SetTable.below xs 0 = k at *
  cases k with
  | zero => rfl
  | succ k => exact absurd (b 0 (Nat.succ_pos _)) (Nat.not_lt_zero _)
theorem below_next {xs : Array Nat} (h : Rising xs) {i : Nat} (hi : i < xs.size) : SetTable.below xs (xs.getD i 0 + 1) = i + 1 := by
  obtain ⟨a, b, c⟩ := below_spec h (xs.getD i 0 + 1)
  generalize SetTable.below xs (xs.getD i 0 + 1) = k at *
  rcases Nat.lt_trichotomy k (i + 1) with q | q | q
  · have := c i (by (first | lia | omega)) hi
    (first | lia | omega)
  · exact q
  · have h1 := b (i + 1) q
    have h2 := rising_at h (Nat.lt_succ_self i) (Nat.lt_of_lt_of_le q a)
    exact absurd h2 (Nat.not_lt.mpr (Nat.le_of_lt_succ h1))
/-- a set's iterator, ready to give the values in some order -/
noncomputable def Ready (prog : Program) (w : World) (vs : List Value) (s0 s' : Shared) (S I : Addr) : Prop :=
  (∃ d h' tk, s' = { s0 with heap := h', drawn := d, toks := tk } ∧ (∀ b x, s0.heap.get? b = some x → h'.get? b = some x) ∧ s0.heap.objs.size ≤ I) ∧
  ∃ fp St, I ∈ fp ∧ (∀ b ∈ fp, b = S ∨ s0.heap.objs.size ≤ b) ∧ St 0 s' ∧ (∀ i s, St i s → s.TypeIs (.ref I) "set_iterator") ∧ ∀ A : Around, A.handled = none → WalksS prog w A I fp [I] (fun a b => b = a) vs.length (fun i v => vs[i]? = some v) St
theorem set_iter {S : Addr} {o : Obj} {ks : List Int} {s : Shared} {Q : Value → Shared → Prop} (ho : s.heap.get? S = some o) (hS : SetIs prog w ks o)
    (h : ∀ I s' vs ns, Ready prog w vs s s' S I → IntsAre vs ns → ns.Perm ks → Q (.ref I) s') : wpAny (model prog w) A (pyIter (.ref S)) Q E s := by
  obtain ⟨hex, es, ep, t, hd, hel, rfl, hn, hb, hf, ok⟩ := id hS
  have hT : s.TypeIs (.ref S) "set" := ⟨o, ho, hex.1⟩
  refine wpAny_pyIter_slot hT F.slot_set_iter (wpAny_call_entry F.slot_set_iter hT entry_set_iter' ?_ (F.args_set_iter_1 _))
  unfold Builtin.«frozenset.__iter__»
  refine wpAny_bind (wpAny_of_eq (a := S) rfl ?_)
  refine wpAny_bind (m := Builtin.Frozenset.sizeOf S) ?_
  unfold Builtin.Frozenset.sizeOf
  refine wpAny_bind (wpAny_setEntries_of ho hd hf (wpAny_pure ?_))
  refine wpAny_bind (m := setDrawn S) ?_
  unfold setDrawn
  refine wpAny_bind (wpAny_setState_of ho hd hf ?_)
  dsimp only
  refine wpAny_bind (wp_byText (wpAny_pure ?_))
  show wpAny _ _ (if (!byText w && (!t.plain && decide (es.size > 1))) = true then _ else _) _ _ _
  have hel2 : ∀ e ∈ es.toList, ∃ t, e.2 = .int (keyOf e.2) t := fun e he => elem_int hel he
  have hkeys : (es.toList.map (·.2)).map keyOf = keysOf es := by unfold keysOf; rw [List.map_map]; rfl
  have hSlt : S < s.heap.objs.size := Heap.lt_size ho
  have hpsz : t.place.size = es.size := by
    simp only [SetTable.fits, Bool.and_eq_true, beq_iff_eq] at hf
    exact hf.1
  split
  · refine wpAny_bind (wp_drawOrder _ _ _ _ (by simp) fun pl d hp => ?_)
    simp only [newTuple]
    refine wpAny_bind (wpAny_newObj_type ?_ (by
      show (List.toArray _).size ≤ sizeLine
      rw [List.size_toArray, List.length_map, hp.length_eq, List.length_range]
      exact fits_of_scanBound hb))
    refine wpAny_bind (wpAny_setEpoch_of (Heap.get?_push_of_some _ ho) hd hf ?_)
    simp only [newFields]
    refine wpAny_bind (wpAny_newObj_type ?_ (by size_fits))
    have hpin : ∀ p ∈ pl, p < es.size := fun p hm => by have := hp.subset hm; rwa [List.mem_range] at this
    have hvm := vals_map hpin
    have hT1 : ((s.heap.push { cls := .type "tuple", data := .seq (pl.map fun (i : Nat) => rawInt (i : Int)).toArray }).push { cls := .type "set_iterator", data := .fields [Value.ref s.heap.objs.size, rawInt 0, .ref S, rawInt (es.size : Int), rawInt (ep : Int)].toArray }).get? s.heap.objs.size = some { cls := .type "tuple", data := .seq (pl.map fun (i : Nat) => rawInt (i : Int)).toArray } := Heap.get?_push_of_some _ (Heap.get?_push_size _ rfl)
    have hI1 : IsSI ((s.heap.push { cls := .type "tuple", data := .seq (pl.map fun (i : Nat) => rawInt (i : Int)).toArray }).push { cls := .type "set_iterator", data := .fields [Value.ref s.heap.objs.size, rawInt 0, .ref S, rawInt (es.size : Int), rawInt (ep : Int)].toArray }) (s.heap.push { cls := .type "tuple", data := .seq (pl.map fun (i : Nat) => rawInt (i : Int)).toArray }).objs.size (.ref s.heap.objs.size) 0 S es.size ep := ⟨_, Heap.get?_push_size _ rfl, rfl, rfl⟩
    have hsz1 : (s.heap.push { cls := .type "tuple", data := .seq (pl.map fun (i : Nat) => rawInt (i : Int)).toArray }).objs.size = s.heap.objs.size + 1 := Heap.size_push ..
    refine wpAny_pure ⟨_, rfl, "set_iterator", _, hI1.typeIs (s := { s with heap := _, drawn := d }), slot_si_next.lookup, h _ _ (pl.filterMap fun p => (es[p]?).map (·.2)) ((pl.filterMap fun p => (es[p]?).map (·.2)).map keyOf) ⟨⟨d, _, s.toks, rfl, fun b x e => Heap.get?_push_of_some _ (Heap.get?_push_of_some _ e), by rw [hsz1]; exact Nat.le_succ _⟩, ?_⟩ (ints_of fun v hv => ?_) ?_⟩
    · have hlen : (pl.filterMap fun p => (es[p]?).map (·.2)).length = es.size := by rw [hvm, List.length_map]; have := hp.length_eq; simpa using this
      refine ⟨[(s.heap.push { cls := .type "tuple", data := .seq (pl.map fun (i : Nat) => rawInt (i : Int)).toArray }).objs.size, S, s.heap.objs.size], (fun i s' => IsSI s'.heap (s.heap.push { cls := .type "tuple", data := .seq (pl.map fun (i : Nat) => rawInt (i : Int)).toArray }).objs.size (.ref s.heap.objs.size) i S es.size ep ∧ s'.heap.get? S = some o ∧ s'.heap.get? s.heap.objs.size = some { cls := .type "tuple", data := .seq (pl.map fun (i : Nat) => rawInt (i : Int)).toArray }), .head _, fun b hb => ?_, ⟨hI1, Heap.get?_push_of_some _ (Heap.get?_push_of_some _ ho), hT1⟩, fun i s st => st.1.typeIs, fun A hh => by rw [hlen]; exact walk_d hh _ S _ (by rw [hsz1]; exact Nat.ne_of_lt (Nat.lt_succ_of_lt hSlt)) (by rw [hsz1]; exact Nat.ne_of_lt (Nat.lt_succ_self _)) hd hf rfl rfl hp⟩
      simp only [List.mem_cons, List.not_mem_nil, or_false] at hb
      rcases hb with rfl | rfl | rfl
      · rw [hsz1]; exact .inr (Nat.le_succ _)
      · exact .inl rfl
      · exact .inr (Nat.le_refl _)
    · rw [hvm] at hv
      obtain ⟨p, hpm, rfl⟩ := List.mem_map.mp hv
      have hps := hpin p hpm
      have e1 : es.getD p (0, .none) = es[p] := by simp [Array.getD, hps]
      rw [e1]
      exact hel2 _ (by simp)
    · rw [hvm, ← hkeys, ← range_vals es]
      exact (hp.map _).map _
  · rename_i hc
    refine wpAny_bind (wpAny_pure ?_)
    refine wpAny_bind (wpAny_setEpoch_of ho hd hf ?_)
    simp only [newFields]
    refine wpAny_bind (wpAny_newObj_type ?_ (by size_fits))
    have hI1 : IsSI (s.heap.push { cls := .type "set_iterator", data := .fields [rawInt 0, rawInt 0, .ref S, rawInt (es.size : Int), rawInt (ep : Int)].toArray }) s.heap.objs.size (rawInt ((0 : Nat) : Int)) 0 S es.size ep := ⟨_, Heap.get?_push_size _ rfl, rfl, rfl⟩
    have fin : ∀ (es2 : Array (Int × Value)) (Good : Nat → Nat → Prop), es2.toList.Perm es.toList → Good 0 0 → (∀ A : Around, A.handled = none → WalksS prog w A s.heap.objs.size [s.heap.objs.size, S] [s.heap.objs.size] (fun a b => b = a) es.size (fun i v => (es2.toList.map (·.2))[i]? = some v) (fun i s' => ∃ slot : Nat, IsSI s'.heap s.heap.objs.size (rawInt (slot : Int)) i S es.size ep ∧ s'.heap.get? S = some o ∧ Good slot i)) →
        wpAny (model prog w) A.in1 (ret (Value.ref s.heap.objs.size)) (fun fin s' => ∃ v, fin = Fin.done (Flow.ret v) ∧ ∃ T' r, s'.TypeIs v T' ∧ typeLookup (Value.type T') (Str.ofString "__next__") = pure (some r) ∧ Q v s') E { s with heap := s.heap.push { cls := .type "set_iterator", data := .fields [rawInt 0, rawInt 0, .ref S, rawInt (es.size : Int), rawInt (ep : Int)].toArray } } := fun es2 Good hp hg W => by
      have hlen : (es2.toList.map (·.2)).length = es.size := by rw [List.length_map]; have := hp.length_eq; simpa using this
      refine wpAny_pure ⟨_, rfl, "set_iterator", _, hI1.typeIs (s := { s with heap := _ }), slot_si_next.lookup, h _ _ (es2.toList.map (·.2)) ((es2.toList.map (·.2)).map keyOf) ⟨⟨s.drawn, _, s.toks, rfl, fun b x e => Heap.get?_push_of_some _ e, Nat.le_refl _⟩, ?_⟩ (ints_of fun v hv => ?_) ?_⟩
      · refine ⟨[s.heap.objs.size, S], (fun i s' => ∃ slot : Nat, IsSI s'.heap s.heap.objs.size (rawInt (slot : Int)) i S es.size ep ∧ s'.heap.get? S = some o ∧ Good slot i), .head _, fun b hb => ?_, ⟨0, hI1, Heap.get?_push_of_some _ ho, hg⟩, fun i s st => let ⟨_, x, _⟩ := st; x.typeIs, fun A hh => by rw [hlen]; exact W A hh⟩
        simp only [List.mem_cons, List.not_mem_nil, or_false] at hb
        rcases hb with rfl | rfl
        · exact .inr (Nat.le_refl _)
        · exact .inl rfl
      · obtain ⟨e, he, rfl⟩ := List.mem_map.mp hv
        exact hel2 _ (hp.subset he)
      · rw [← hkeys]
        exact (hp.map _).map _
    cases hbt : byText w with
    | true =>
      have hpp : (pickOrder (w.params.setOrder S ep) es).toList.Perm es.toList := by
        unfold pickOrder
        exact (pick_perm _ _ _ _ _ (by simp)).trans (by simp)
      refine fin _ (fun _ _ => True) hpp trivial fun A hh => walk_o hh _ S (Nat.ne_of_lt hSlt) hd hf rfl _ _ (fun i slot hi _ => ?_) fun slot _ s' Q A E ho' q => ?_
      · have hl : i < (pickOrder (w.params.setOrder S ep) es).size := by have := hpp.length_eq; simp at this; (first | lia | omega)
        refine ⟨slot, ((pickOrder (w.params.setOrder S ep) es)[i]'hl).2, by rw [List.getElem?_map, Array.getElem?_toList, Array.getElem?_eq_getElem hl]; rfl, trivial, fun s' Q A E ho' q => setNext_text ho' hd hf hbt ?_⟩
        rw [Array.getElem?_eq_getElem hl]; exact q
      · refine setNext_text ho' hd hf hbt ?_
        rw [Array.getElem?_eq_none (by have := hpp.length_eq; simp at this; (first | lia | omega))]; exact q
    | false =>
      have hpl : (!t.plain && decide (es.size > 1)) = false := by
        rw [hbt] at hc
        simpa using hc
      have hled : t.led = true := by have := ok.ld; rw [show w.params.followText "set-order" = false from hbt] at this; exact this
      refine fin es (fun slot i => SetTable.below t.place slot = i) (List.Perm.refl _) (below_zero ok.rs) fun A hh => walk_o hh _ S (Nat.ne_of_lt hSlt) hd hf rfl _ _ (fun i slot hi hg => ?_) fun slot hg s' Q A E ho' q => ?_
      · have hip : i < t.place.size := by (first | lia | omega)
        refine ⟨t.place.getD i 0 + 1, (es[i]).2, by simp [hi], below_next ok.rs hip, fun s' Q A E ho' q => setNext_led ho' hd hf hbt hpl hled ?_⟩
        rw [hg, Array.getElem?_eq_getElem hi, Array.getElem?_eq_getElem hip]
        simp only [Array.getD, hip, dif_pos] at q
        exact q
      · refine setNext_led ho' hd hf hbt hpl hled ?_
        rw [hg, Array.getElem?_eq_none (Nat.le_refl _)]
        exact q
end
end Mine
end
section
open PySem PySem.W PyProof.Rows
namespace Mine
section
variable {prog : Program} {w : World} {A : Around} {E : Value → Shared → Prop} {s : Shared}
theorem collect_set {S : Addr} {o : Obj} {ks : List Int} {Q : List Value → Shared → Prop} (hh : A.handled = none) (ho : s.heap.get? S = some o) (hS : SetIs prog w ks o) (hsz : ks.length < 1000)
    (h : ∀ vs ns d h' tk, (∀ b x, s.heap.get? b = some x → h'.get? b = some x) → IntsAre vs ns → ns.Perm ks → Q vs { s with heap := h', drawn := d, toks := tk }) : wpAny (model prog w) A (collect (.ref S)) Q E s := by
  have hSlt : S < s.heap.objs.size := Heap.lt_size ho
  unfold collect
  refine wpAny_bind (wpAny_runValue (codeAny_builtin F.entry_proto_collect ?_))
  rw [Around.under_plainId F.plain_proto_collect _]
  show wpAny _ A.in1 (newList [] >>= fun l => again (.builtin "list.__iadd__" ⟨[l, .ref S], []⟩)) _ _ s
  refine wpAny_bind (wpAny_newObj_type ?_)
  refine wpAny_pure ⟨plainId_quiet F.plain_list_iadd _, codeAny_builtin F.entry_list_iadd ?_⟩
  rw [Around.under_plainId F.plain_list_iadd _]
  have ho1 : (s.heap.push { cls := .type "list", data := .seq ([] : List Value).toArray }).get? S = some o := Heap.get?_push_of_some _ ho
  have hS₁ : (s.heap.push { cls := .type "list", data := .seq ([] : List Value).toArray }).get? s.heap.objs.size = some { cls := .type "list", data := .seq ([] : List Value).toArray } := Heap.get?_push_size _ rfl
  have h1 : Builtin.List.listSameRef (.ref s.heap.objs.size) (.ref S) = false := by simp [Builtin.List.listSameRef, Nat.ne_of_gt hSlt]
  have hT : Shared.TypeIs { s with heap := s.heap.push { cls := .type "list", data := .seq ([] : List Value).toArray } } (.ref S) "set" := ⟨o, ho1, hS.1.1⟩
  show wpAny _ A.in1 (Builtin.List.listExtendWith (.ref s.heap.objs.size) (.ref S) (.ref s.heap.objs.size)) _ _ _
  unfold Builtin.List.listExtendWith
  refine wpAny_bind (wpAny_typeOf hT ?_)
  rw [if_neg (by rw [h1]; decide)]
  refine wpAny_bind (set_iter ho1 hS fun I s' vs ns hr hi hp => ?_)
  obtain ⟨⟨d, h', tk, rfl, hk, hI⟩, fp, St, hIf, hfp, hst, hTi, W⟩ := hr
  refine wpAny_bind (wpAny_holding ?_)
  unfold Builtin.List.listLengthHint
  have ho2 : h'.get? S = some o := hk _ _ ho1
  have hS2 := hk _ _ hS₁
  have hT2 : Shared.TypeIs { s with heap := h', drawn := d, toks := tk } (.ref S) "set" := ⟨o, ho2, hS.1.1⟩
  refine wpAny_bind (wpAny_specialOf hT2 F.slot_set_len.lookup ?_)
  (generalize hid : ("set.__len__" : String) = id0; wp_delta; rw [show splitId id0 = some ("set", "__len__") from by subst hid; decide +kernel]; subst hid)
  refine wpAny_bind (wpAny_isInstance (b := true) hT2 (by rw [isSubtype_type]; kernel_rfl) ?_)
  rw [if_neg (by decide)]
  dsimp only
  rw [if_pos (by decide +kernel)]
  refine wpAny_bind (wpAny_typeOf hT2 ?_)
  refine wpAny_pure ?_
  rw [if_pos (by decide +kernel)]
  refine wpAny_bind (wpAny_rule ?_)
  refine wpAny_bind (m := Builtin.List.listTouch (.ref s.heap.objs.size)) ?_
  unfold Builtin.List.listTouch
  show wpAny _ _ (updateSeq s.heap.objs.size (·.push .none) >>= fun _ => updateSeq s.heap.objs.size (·.pop)) _ _ _
  refine wpAny_bind (wpAny_updateSeq hS2 rfl ?_ (by simp) (by simp))
  have g1 := Heap.get?_update_self (Obj.mapSeq (·.push Value.none)) hS2 rfl
  refine wpAny_updateSeq g1 rfl ?_ (by simp [sizeLine_eq]) (by simp)
  have g2 := Heap.get?_update_self (Obj.mapSeq (·.pop)) g1 rfl
  have hSf : s.heap.objs.size ∉ fp := fun hm => by
    rcases hfp _ hm with q | q
    · exact Nat.ne_of_gt hSlt q
    · rw [show ({ s with heap := s.heap.push { cls := .type "list", data := .seq ([] : List Value).toArray } } : Shared).heap.objs.size = s.heap.objs.size + 1 from Heap.size_push ..] at q
      exact absurd q (Nat.not_le.mpr (Nat.lt_succ_self _))
  have hst2 := (W A.in1 hh).frame 0 _ ((h'.update s.heap.objs.size (Obj.mapSeq (·.push Value.none))).update s.heap.objs.size (Obj.mapSeq (·.pop))) tk hst (Nat.le_refl _) fun b hb x e => by
    have hne : s.heap.objs.size ≠ b := fun q => hSf (q ▸ hb)
    rw [Heap.get?_update_other _ _ hne, Heap.get?_update_other _ _ hne]; exact e
  have hlen : vs.length ≤ sizeLine := by have := hi.length; have := hp.length_eq; rw [sizeLine_eq]; (first | lia | omega)
  refine wpAny_pure ⟨plainId_quiet F.plain_extend_loop _, codeAny_extend_loopS (W A.in1 hh) hlen _ hSf _ vs.length 0 _ _ _ rfl (Nat.zero_le _) hst2 g2 (ItemsOf.nil _) fun s'' acc' c' hm hS' hacc => ?_⟩
  · show wpAny _ A (load s.heap.objs.size >>= _) _ _ s''
    refine wpAny_bind (wpAny_load hS' ?_)
    have e1 : acc'.toList = vs := by
      apply List.ext_getElem?
      intro i
      rw [Array.getElem?_toList]
      by_cases hlt : i < vs.length
      · have h1 : i < acc'.size := by rw [hacc.1]; exact hlt
        rw [Array.getElem?_eq_getElem h1]
        exact (hacc.2 i _ (Array.getElem?_eq_getElem h1)).symm
      · rw [Array.getElem?_eq_none (by rw [hacc.1]; (first | lia | omega)), List.getElem?_eq_none (by (first | lia | omega))]
    refine wpAny_pure ?_
    show Q acc'.toList s''
    rw [e1]
    obtain ⟨h2, gg, dd, tt, oo⟩ := s''
    obtain rfl : gg = s.gens := hm.gens
    obtain rfl : oo = s.os := hm.os
    refine h vs ns dd h2 tt (fun b x e => ?_) hi hp
    have hb : b < s.heap.objs.size := Heap.lt_size e
    have hne : s.heap.objs.size ≠ b := Nat.ne_of_gt hb
    refine hm.heap b x (fun q => ?_) ?_
    · rcases List.mem_cons.mp q with q | q
      · exact hne q.symm
      · rcases List.mem_singleton.mp q with rfl
        exact absurd hI (Nat.not_le.mpr (by rw [Heap.size_push]; exact Nat.lt_succ_of_lt hb))
    · show ((h'.update _ _).update _ _).get? b = some x
      rw [Heap.get?_update_other _ _ hne, Heap.get?_update_other _ _ hne]
      exact hk _ _ (Heap.get?_push_of_some _ e)
theorem sorted_set {S : Addr} {o : Obj} {ks : List Int} {Q : Value → Shared → Prop} (hh : A.handled = none) (ho : s.heap.get? S = some o) (hS : SetIs prog w ks o) (h64 : ks.length < 64)
    (h : ∀ D c vs ns d h' tk, (∀ b x, s.heap.get? b = some x → h'.get? b = some x) → (∀ b x, s.heap.get? b = some x → b < D) → h'.get? D = some (seqObj "list" (List.toArray vs) c) → IntsAre vs ns → ns.Perm ks → ns.Pairwise (· ≤ ·) → Q (.ref D) { s with heap := h', drawn := d, toks := tk }) :
    wpAny (model prog w) A (call (.builtin "sorted") [.ref S]) Q E s := by
  refine Calls.call_function_entry kind_sorted plain_sorted entry_sorted (args_sorted1 _) ?_
  unfold Builtin.«sorted»
  refine wpAny_bind (wpAny_of_eq (a := ()) rfl ?_)
  refine wpAny_bind (collect_set hh ho hS (by (first | lia | omega)) fun vs ns d h' tk hk hi hp => ?_)
  have hvl : vs.length < 64 := by have := hi.length; have := hp.length_eq; (first | lia | omega)
  refine wpAny_bind (wpAny_newList ?_ (by rw [sizeLine_eq]; (first | lia | omega)))
  have hoL : (h'.push (seqObj "list" vs.toArray 0)).get? h'.objs.size = some (seqObj "list" vs.toArray 0) := Heap.get?_push_size _ rfl
  refine wpAny_bind (wpAny_holding (wpAny_call_entry slot_list_sort ⟨_, hoL, rfl⟩ entry_list_sort (list_sort_tree hoL hi hvl fun out ns' a1 a2 a3 => ⟨_, rfl, ?_⟩) (args_list_sort _)))
  refine wpAny_pure ⟨_, rfl, ?_⟩
  obtain ⟨e, he⟩ := sortedHeap_at (out := out) hoL
  refine h _ e out.toList ns' d _ tk (fun b x eb => ?_) (fun b x eb => Heap.lt_size (hk b x eb)) (by simpa using he) a1 (a2.trans hp) a3
  have hb := hk b x eb
  have hlt : b < h'.objs.size := Heap.lt_size hb
  rw [sortedHeap_old (Nat.ne_of_lt hlt) (by rw [PyProof.Rows.size_push']; exact Nat.lt_succ_of_lt hlt)]
  exact Heap.get?_push_of_some _ hb
end
end Mine
end
section
open PySem PySem.W PySem.Spec PySem.Calls PyProof.Rows PyProof.Rows.LCg
namespace Mine
section
variable {P : Pg} {w : World} {sc : Scope} {b : Nat} {vars : Vars} {objs objs' : Objs} {D : Addr} {l : List Int}
theorem kept_fr {h₀ h h' : Heap} {L : Addr} {m : Str → Option Value} (F : Fr h₀ L h m) (k : ∀ b o, h.get? b = some o → h'.get? b = some o) : Fr h₀ L h' m := PyProof.Rows.Fr.kept F k
theorem news_more {h₀ h h' : Heap} {L a : Addr} {m : Str → Option Value} {news : List (Addr × Obj)} {o : Obj} (F : Fr h₀ L h m) (N : News h₀ L h news) (k : ∀ b o, h.get? b = some o → h'.get? b = some o) (ha : ∀ b o, h.get? b = some o → b < a) (hoa : h'.get? a = some o) : News h₀ L h' ((a, o) :: news) := by
  obtain ⟨oL, _, _, hL, _⟩ := F.ns
  intro p hp
  rcases List.mem_cons.mp hp with rfl | hp
  · refine ⟨hoa, Nat.ne_of_gt (ha _ _ hL), ?_⟩
    cases hq : h₀.get? a with
    | none => rfl
    | some o' => exact absurd (ha _ _ (F.keep _ _ hq)) (Nat.lt_irrefl _)
  · exact ⟨k _ _ (N p hp).1, (N p hp).2.1, (N p hp).2.2⟩
theorem Call_set {K : AV → Objs → Prop} (hm : (D, .ints l) ∈ objs) (hl : l.length < 1000) (h : ∀ S ks, (∀ y, y ∈ ks ↔ y ∈ l) → ks.Nodup → ks.length ≤ l.length → K (.ref S) ((S, .opq (SetIs P.prog w ks)) :: objs)) : CallS P w b (.type "set") [.ref D] objs K := by
  rintro _ (_ | ⟨rfl, (_ | _)⟩) A h₀ L m ex s Q E fx hr k
  obtain ⟨all, vs, n, F, N, HA, h1, h2, h3, h4⟩ := hr.ints hm
  refine set_list fx.hh h3 (by simpa using h2) (by rw [List.size_toArray, h4]; unfold scanBound; (first | lia | omega)) fun h' tk ks o ho hS hk hlen kp => ?_
  have kp2 : ∀ b o, s.heap.get? b = some o → h'.get? b = some o := fun b o e => kp b o (Heap.lt_size e) e
  have hlt : ∀ b o, s.heap.get? b = some o → b < s.heap.objs.size := fun b o e => Heap.lt_size e
  refine k _ _ _ _ (h s.heap.objs.size ks hk hS.2.choose_spec.choose_spec.choose_spec.2.2.2.1 hlen) rfl (HR.new HA (kept_fr F kp2) (news_more F N kp2 hlt ho) (fun p hp => hlt _ _ (N p hp).1) hS) ⟨rfl, rfl, rfl⟩
theorem Call_sortedS {K : AV → Objs → Prop} {S : Addr} {ks : List Int} (hm : (S, .opq (SetIs P.prog w ks)) ∈ objs) (hl : ks.length < 64) (h : ∀ D' l', l'.Perm ks → l'.Pairwise (· ≤ ·) → K (.ref D') ((D', .ints l') :: objs)) : CallS P w b (.builtin "sorted") [.ref S] objs K := by
  rintro _ (_ | ⟨rfl, (_ | _)⟩) A h₀ L m ex s Q E fx hr k
  obtain ⟨all, o, F, N, HA, h1, h2⟩ := hr.look hm
  refine sorted_set fx.hh (N _ h1).1 h2 hl fun D' c vs ns d h' tk kp lt ho hi hp hs => ?_
  exact k _ _ _ _ (h D' ns hp hs) rfl (HR.new HA (kept_fr F kp) (news_more F N kp lt ho) (fun p hp => lt _ _ (N p hp).1) ⟨vs, c, rfl, hi⟩) ⟨rfl, rfl, rfl⟩
end
end Mine
end
section
open PySem PySem.W PySem.Spec PySem.Calls PyProof.Rows PyProof.Rows.LCg
namespace Mine
/-- a statement walked up to a state that is said ahead -/
noncomputable def endK (J : Vars → Objs → Prop) (K : AF → Vars → Objs → Prop) : AF → Vars → Objs → Prop
  | .next, v, o => dropK J v o
  | f, v, o => K f v o
theorem S_then {P : Pg} {w : World} {sc : Scope} {b : Nat} {vars : Vars} {objs : Objs} {st : Stmt} {rest : List Stmt} {K : AF → Vars → Objs → Prop} (J : Vars → Objs → Prop) (h : ∀ v o, J v o → SS P w sc b rest v o K) (h1 : S1 P w sc b st vars objs (endK J K)) : SS P w sc b (st :: rest) vars objs K := by
  refine S_cons (S_mono h1 fun f v o hh => ?_)
  cases f with
  | next => obtain ⟨v', o', hJ, q1, q2⟩ := hh; exact S_less (h v' o' hJ) q1 q2
  | brk => exact hh
  | cont => exact hh
  | ret r => exact hh
/-- a for over a range whose turns are said of some of the objects -/
theorem for_rngP {P : Pg} {w : World} {sc : Scope} {b : Nat} {x : Str} {body : List Stmt} {r : Addr} {a z c : Int} {n : Nat} {V : Vars} {O : Objs} {K : AF → Vars → Objs → Prop} (J : Nat → Objs → Prop) (hm : (r, AO.rng a z c) ∈ O) (hs : Builtin.Range.small a z c = true) (hz : Builtin.Range.rangeSize a z c = (n : Int)) (h0 : ∃ o, Pick o O ∧ J 0 o)
    (ht : ∀ i o, i < n → J i o → ∃ vs', SetV x (.int (a + i * c)) V vs' ∧ SS P w sc b body vs' o (loopK (dropK fun v o => v = V ∧ J (i + 1) o) K)) (he : ∀ os o, Pick o os → J n o → K .next V os) :
    ∃ (r' : Addr) (a z c : Int) (n : Nat) (Inv : Nat → Vars → Objs → Prop), AV.ref r = .ref r' ∧ (r', .rng a z c) ∈ O ∧ Builtin.Range.small a z c = true ∧ Builtin.Range.rangeSize a z c = (n : Int) ∧ Inv 0 V O ∧
      ∀ i vs os, Inv i vs os → i ≤ n ∧ (i < n → ∃ vs', SetV x (.int (a + i * c)) vs vs' ∧ SS P w sc b body vs' os (loopK (dropK (Inv (i + 1))) K)) ∧ (i = n → K .next vs os) := by
  refine for_rng (fun i vs os => vs = V ∧ ∃ o, Pick o os ∧ J i o) hm hs hz ⟨rfl, h0⟩ ?_ ?_
  · rintro i vs os hi ⟨rfl, o, hp, hJ⟩
    obtain ⟨vs', h1, h2⟩ := ht i o hi hJ
    refine ⟨vs', h1, S_less (S_mono h2 fun f v o hh => ?_) (List.Sublist.refl _) hp⟩
    have e : dropK (fun v o => v = vs ∧ J (i + 1) o) v o → dropK (fun v os => v = vs ∧ ∃ o, Pick o os ∧ J (i + 1) o) v o := fun ⟨v', o', ⟨q1, q2⟩, q3, q4⟩ => ⟨v', o', ⟨q1, o', .of_sub (List.Sublist.refl _), q2⟩, q3, q4⟩
    cases f with
    | next => exact e hh
    | cont => exact e hh
    | brk => exact hh
    | ret r => exact hh
  · rintro vs os ⟨rfl, o, hp, hJ⟩
    exact he os o hp hJ
end Mine
end
section
open PySem PySem.W PySem.Spec PySem.Calls PyProof.Rows PyProof.Rows.LCg
namespace Mine
section
variable {P : Pg} {w : World} {sc : Scope} {b : Nat} {vars : Vars} {objs : Objs}
theorem EV_big {k1 k2 k3 : Nat} {p1 p2 p3 p4 p5 : Pos} : EV P w sc b (.BinOp (.Constant (.int 3) k1 p1) .Mult (.BinOp (.Constant (.int 10) k2 p2) .Pow (.Constant (.int 9) k3 p3) p4) p5) vars objs (.int 3000000000) := by
  have e : (3 : Int) * 10 ^ (9 : Int).toNat = 3000000000 := by decide
  rw [← e]
  exact EV_mul EV_int (EV_pow EV_int EV_int (by decide) (by decide) (by decide)) (by decide) (by decide)
theorem menu_lim {r : Int} (h0 : 0 ≤ r) (h1 : r < 5) : 1500 ≤ ([1500, 2500, 1000000000000, 40000, 3000000000] : List Int).getD r.toNat 0 ∧ ([1500, 2500, 1000000000000, 40000, 3000000000] : List Int).getD r.toNat 0 ≤ 1000000000000 := by
  obtain ⟨k, rfl⟩ := Int.eq_ofNat_of_zero_le h0
  rw [Int.toNat_natCast]
  have : k < 5 := by (first | lia | omega)
  match k, this with
  | 0, _ => decide
  | 1, _ => decide
  | 2, _ => decide
  | 3, _ => decide
  | 4, _ => decide
theorem WE_menu {e2 : Expr} {n k1 k2 k3 k4 : Nat} {pos p0 p1 p2 p3 p4 : Pos} {e5 : Expr} {K : AV → Objs → Prop} (zh5 : EV P w sc b e5 vars objs (.int 3000000000)) (zh2 : ∀ T, WE P w sc b e2 vars ((T, .tup [.int 1500, .int 2500, .int 1000000000000, .int 40000, .int 3000000000]) :: objs) fun y o2 => ∃ i, y = .int i ∧ 0 ≤ i ∧ i < 5 ∧ (T, .tup [.int 1500, .int 2500, .int 1000000000000, .int 40000, .int 3000000000]) ∈ o2 ∧ ∀ z, 1500 ≤ z → z ≤ 1000000000000 → K (.int z) o2) (zhs : notSlice e2 = true) (zhn : noStar [.Constant (.int 1500) k1 p1, .Constant (.int 2500) k2 p2, .Constant (.int 1000000000000) k3 p3, .Constant (.int 40000) k4 p4, e5] = true) :
    WE P w sc b (.Subscript (.Tuple [.Constant (.int 1500) k1 p1, .Constant (.int 2500) k2 p2, .Constant (.int 1000000000000) k3 p3, .Constant (.int 40000) k4 p4, e5] n p0) e2 pos) vars objs K :=
  WE_menuD (WE_tupleD (EVs_cons EV_int (EVs_cons EV_int (EVs_cons EV_int (EVs_cons EV_int (EVs_cons zh5 EVs_nil))))) (by decide) zhn fun T => WX.mono (zh2 T) fun y o2 ⟨i, e, h0, h1, hm, k⟩ =>
    ⟨T, _, [1500, 2500, 1000000000000, 40000, 3000000000], i, rfl, e, hm, ⟨rfl, rfl, rfl, rfl, rfl, trivial⟩, h0, h1, by decide, k _ (menu_lim h0 h1).1 (menu_lim h0 h1).2⟩) zhs
end
end Mine
end
section
open PySem PySem.W PySem.Calls PyProof.Rows
namespace Mine
theorem rangeKs_length {a : Int} {n : Nat} : (rangeKs a n).length = n := by unfold rangeKs; simp
theorem out_perm {α : Type} : ∀ {l : List α} {i : Nat} (h : i < l.length), (l[i] :: l.eraseIdx i).Perm l
  | a :: r, 0, h => List.Perm.refl _
  | a :: r, i + 1, h => by
    rw [List.getElem_cons_succ, List.eraseIdx_cons_succ]
    exact (List.Perm.swap a _ _).trans ((out_perm (l := r) (i := i) (by simpa using h)).cons a)
theorem set_perm {α : Type} : ∀ {l : List α} {i : Nat} (h : i < l.length) (v : α), (l.set i v).Perm (v :: l.eraseIdx i)
  | a :: r, 0, h, v => List.Perm.refl _
  | a :: r, i + 1, h, v => by
    rw [List.set_cons_succ, List.eraseIdx_cons_succ]
    exact ((set_perm (l := r) (i := i) (by simpa using h) v).cons a).trans (List.Perm.swap v a _)
end Mine
end
section
open PySem PySem.W PySem.Calls PyProof.Rows
namespace Mine
theorem bt {act : List Int} {a b : Int} : beforeB act a b = true ↔ act.getD b.toNat 0 < act.getD a.toNat 0 ∨ (act.getD a.toNat 0 = act.getD b.toNat 0 ∧ a < b) := by
  unfold beforeB
  split
  · rename_i e; rw [decide_eq_true_eq, e]; exact ⟨fun h => .inr ⟨rfl, h⟩, fun h => h.elim (fun q => absurd q (Int.lt_irrefl _)) fun q => q.2⟩
  · rename_i e; rw [decide_eq_true_eq]; exact ⟨.inl, fun h => h.elim id fun q => absurd q.1 e⟩
theorem bf {act : List Int} {a b : Int} : beforeB act a b = false ↔ act.getD a.toNat 0 < act.getD b.toNat 0 ∨ (act.getD a.toNat 0 = act.getD b.toNat 0 ∧ b ≤ a) := by
  rw [← Bool.not_eq_true, bt]
  (first | lia | omega)
theorem nb_trans {act : List Int} {a b c : Int} (h1 : beforeB act c b = false) (h2 : beforeB act b a = false) : beforeB act c a = false := by
  rw [bf] at *; (first | lia | omega)
theorem nb_asymm {act : List Int} {a b : Int} (h : beforeB act a b = true) : beforeB act b a = false := by
  rw [bt] at h; rw [bf]; (first | lia | omega)
theorem nb_refl {act : List Int} {a : Int} : beforeB act a a = false := bf.mpr (.inr ⟨rfl, Int.le_refl _⟩)
theorem b_total {act : List Int} {a b : Int} (hne : a ≠ b) (h : beforeB act a b = false) : beforeB act b a = true := by
  rw [bf] at h; rw [bt]; (first | lia | omega)
theorem gset {l : List Int} {i k : Nat} {v : Int} (h : i < l.length) : (l.set i v).getD k 0 = if k = i then v else l.getD k 0 := by
  rw [List.getD_eq_getElem?_getD, List.getElem?_set]
  by_cases e : i = k
  · rw [if_pos e, if_pos h, if_pos e.symm]; rfl
  · rw [if_neg e, if_neg fun q => e q.symm, List.getD_eq_getElem?_getD]
theorem gset_self {l : List Int} {i : Nat} {v : Int} (h : i < l.length) : (l.set i v).getD i 0 = v := by rw [gset h, if_pos rfl]
theorem gset_ne {l : List Int} {i k : Nat} {v : Int} (h : k ≠ i) : (l.set i v).getD k 0 = l.getD k 0 := by
  rw [List.getD_eq_getElem?_getD, List.getElem?_set, if_neg fun q => h q.symm, List.getD_eq_getElem?_getD]
noncomputable def okAt (act h : List Int) (i : Nat) : Prop := ∀ c, (c = 2 * i + 1 ∨ c = 2 * i + 2) → c < h.length → beforeB act (h.getD c 0) (h.getD i 0) = false
theorem better_cases (act h : List Int) (s : Nat) : (betterF act h s = -1 ∧ h.length ≤ 2 * s + 1) ∨ ∃ t : Nat, betterF act h s = (t : Int) ∧ (t = 2 * s + 1 ∨ t = 2 * s + 2) ∧ t < h.length ∧
    ∀ c, (c = 2 * s + 1 ∨ c = 2 * s + 2) → c < h.length → beforeB act (h.getD c 0) (h.getD t 0) = false := by
  have e1 : (2 * (s : Int) + 1).toNat = 2 * s + 1 := by (first | lia | omega)
  have e2 : (2 * (s : Int) + 1 + 1).toNat = 2 * s + 2 := by (first | lia | omega)
  unfold betterF
  rw [e1, e2]
  by_cases h1 : (h.length : Int) ≤ 2 * s + 1
  · rw [if_pos h1]; exact .inl ⟨rfl, by (first | lia | omega)⟩
  · rw [if_neg h1]
    by_cases h2 : 2 * (s : Int) + 1 + 1 < (h.length : Int) ∧ beforeB act (h.getD (2 * s + 2) 0) (h.getD (2 * s + 1) 0) = true
    · rw [if_pos h2]
      refine .inr ⟨2 * s + 2, by (first | lia | omega), .inr rfl, by (first | lia | omega), fun c hc hl => ?_⟩
      rcases hc with rfl | rfl
      · exact nb_asymm h2.2
      · exact nb_refl
    · rw [if_neg h2]
      refine .inr ⟨2 * s + 1, by (first | lia | omega), .inl rfl, by (first | lia | omega), fun c hc hl => ?_⟩
      rcases hc with rfl | rfl
      · exact nb_refl
      · exact Bool.eq_false_iff.mpr fun q => h2 ⟨by (first | lia | omega), q⟩
/-- one step of the sinking -/
theorem sink_cases {P : List Int × List Int → Prop} (act : List Int) (var : Int) (n : Nat) (h p : List Int) (s : Nat)
    (h1 : (∀ c, (c = 2 * s + 1 ∨ c = 2 * s + 2) → c < h.length → beforeB act (h.getD c 0) var = false) → P (h.set s var, p.set var.toNat s))
    (h2 : ∀ t : Nat, (t = 2 * s + 1 ∨ t = 2 * s + 2) → t < h.length → (∀ c, (c = 2 * s + 1 ∨ c = 2 * s + 2) → c < h.length → beforeB act (h.getD c 0) (h.getD t 0) = false) → beforeB act (h.getD t 0) var = true →
      P (sinkL act var n (h.set s (h.getD t 0)) (p.set (h.getD t 0).toNat s) t)) : P (sinkL act var (n + 1) h p s) := by
  unfold sinkL
  rw [Int.toNat_natCast]
  rcases better_cases act h s with ⟨e, hl⟩ | ⟨t, e, ht, hl, hb⟩
  · rw [e, if_neg fun q => absurd q.1 (by decide)]
    exact h1 fun c hc hl2 => by (first | lia | omega)
  · rw [e, Int.toNat_natCast]
    cases hq : beforeB act (h.getD t 0) var with
    | true =>
      rw [if_pos ⟨Int.natCast_nonneg t, rfl⟩]
      exact h2 t ht hl hb hq
    | false =>
      rw [if_neg fun q => Bool.noConfusion q.2]
      exact h1 fun c hc hl2 => nb_trans (hb c hc hl2) hq
/-- in order from b on, the spot empty, var to be put there -/
structure Hole (act h : List Int) (b s : Nat) (var : Int) : Prop where
  le : b ≤ s
  e1 : ∀ i, b ≤ i → i ≠ s → ∀ c, (c = 2 * i + 1 ∨ c = 2 * i + 2) → c < h.length → c ≠ s → beforeB act (h.getD c 0) (h.getD i 0) = false
  e2 : ∀ p, b ≤ p → (s = 2 * p + 1 ∨ s = 2 * p + 2) → beforeB act var (h.getD p 0) = false
  e3 : ∀ p, b ≤ p → (s = 2 * p + 1 ∨ s = 2 * p + 2) → ∀ c, (c = 2 * s + 1 ∨ c = 2 * s + 2) → c < h.length → beforeB act (h.getD c 0) (h.getD p 0) = false
theorem sinkL_ok2 {act : List Int} {var : Int} {b : Nat} : ∀ (n : Nat) (h p : List Int) (s : Nat), s < h.length → h.length ≤ s + n → Hole act h b s var → ∀ i, b ≤ i → okAt act (sinkL act var n h p s).1 i
  | 0, h, p, s, hs, hn, _ => absurd hs (Nat.not_lt.mpr hn)
  | n + 1, h, p, s, hs, hn, H => by
    refine sink_cases (P := fun r => ∀ i, b ≤ i → okAt act r.1 i) act var n h p s (fun hc => ?_) fun t ht hl hb hv => ?_
    · intro i hi c hci hl
      rw [List.length_set] at hl
      show beforeB act ((h.set s var).getD c 0) ((h.set s var).getD i 0) = false
      by_cases e : i = s
      · subst e
        rw [gset_self hs, gset_ne (by (first | lia | omega))]
        exact hc c hci hl
      · rw [gset_ne e]
        by_cases e2 : c = s
        · subst e2
          rw [gset_self hs]
          exact H.e2 i hi hci
        · rw [gset_ne e2]
          exact H.e1 i hi e c hci hl e2
    · have hle := H.le
      refine sinkL_ok2 n _ _ t (by rw [List.length_set]; exact hl) (by rw [List.length_set]; (first | lia | omega)) ⟨by (first | lia | omega), fun i hi hit c hci hcl hct => ?_, fun p hp hpt => ?_, fun p hp hpt c hc hcl => ?_⟩
      · rw [List.length_set] at hcl
        by_cases e : i = s
        · subst e
          rw [gset_self hs, gset_ne (by (first | lia | omega))]
          exact hb c hci hcl
        · rw [gset_ne e]
          by_cases e2 : c = s
          · subst e2
            rw [gset_self hs]
            exact H.e3 i hi hci t ht hl
          · rw [gset_ne e2]
            exact H.e1 i hi e c hci hcl e2
      · have : p = s := by (first | lia | omega)
        subst this
        rw [gset_self hs]
        exact nb_asymm hv
      · rw [List.length_set] at hcl
        have : p = s := by (first | lia | omega)
        subst this
        rw [gset_self hs, gset_ne (by (first | lia | omega))]
        exact H.e1 t (by (first | lia | omega)) (by (first | lia | omega)) c hc hcl (by (first | lia | omega))
theorem sinkL_perm {act : List Int} {var : Int} : ∀ (n : Nat) (h p : List Int) (s : Nat), s < h.length → (sinkL act var n h p s).1.Perm (h.set s var)
  | 0, h, p, s, hs => by unfold sinkL; rw [Int.toNat_natCast]
  | n + 1, h, p, s, hs => by
    refine sink_cases (P := fun r => r.1.Perm (h.set s var)) act var n h p s (fun hc => List.Perm.refl _) fun t ht hl hb hv => ?_
    have hl2 : t < (h.set s (h.getD t 0)).length := by rw [List.length_set]; exact hl
    refine (sinkL_perm n _ _ t hl2).trans ?_
    have e : (h.set s (h.getD t 0))[t] = h.getD t 0 := by
      have := gset_ne (l := h) (i := s) (v := h.getD t 0) (k := t) (by (first | lia | omega))
      rw [List.getD_eq_getElem?_getD, List.getElem?_eq_getElem hl2] at this
      exact this
    have q1 := out_perm hl2
    rw [e] at q1
    have q2 := (q1.trans (set_perm hs (h.getD t 0))).cons_inv
    exact (set_perm hl2 var).trans ((q2.cons var).trans (set_perm hs var).symm)
/-- places tell where each stands, but for the spot -/
structure TellH (n : Int) (h p : List Int) (s : Nat) (var : Int) : Prop where
  pl : (p.length : Int) = n + 1
  vr : 1 ≤ var ∧ var ≤ n
  rg : ∀ k, k < h.length → 1 ≤ h.getD k 0 ∧ h.getD k 0 ≤ n
  un : ∀ i j, i < h.length → j < h.length → i ≠ s → j ≠ s → i ≠ j → h.getD i 0 ≠ h.getD j 0
  uv : ∀ i, i < h.length → i ≠ s → h.getD i 0 ≠ var
  at' : ∀ k, k < h.length → k ≠ s → p.getD (h.getD k 0).toNat 0 = k
  no : ∀ v : Int, 1 ≤ v → v ≤ n → v ≠ var → (∀ k, k < h.length → k ≠ s → h.getD k 0 ≠ v) → p.getD v.toNat 0 = -1
noncomputable def Tells (n : Int) (h p : List Int) : Prop := (∀ k, k < h.length → p.getD (h.getD k 0).toNat 0 = k) ∧ ∀ v : Int, 1 ≤ v → v ≤ n → (∀ k, k < h.length → h.getD k 0 ≠ v) → p.getD v.toNat 0 = -1
theorem TellH.stop {n : Int} {h p : List Int} {s : Nat} {var : Int} (hs : s < h.length) (T : TellH n h p s var) : Tells n (h.set s var) (p.set var.toNat (s : Int)) := by
  have tn : ∀ v : Int, 1 ≤ v → v ≤ n → v.toNat < p.length := fun v h1 h2 => by have := T.pl; (first | lia | omega)
  refine ⟨fun k hk => ?_, fun v h1 h2 hno => ?_⟩
  · rw [List.length_set] at hk
    by_cases e : k = s
    · subst e
      rw [gset_self hs, gset_self (tn _ T.vr.1 T.vr.2)]
    · have := T.uv k hk e
      have := (T.rg k hk).1
      rw [gset_ne e, gset_ne (by have := T.vr.1; (first | lia | omega))]
      exact T.at' k hk e
  · rw [List.length_set] at hno
    have hne : v ≠ var := fun e => hno s hs (by rw [gset_self hs]; exact e.symm)
    show (p.set var.toNat s).getD v.toNat 0 = -1
    rw [gset_ne (by have := T.vr.1; (first | lia | omega))]
    exact T.no v h1 h2 hne fun k hk hks e => hno k hk (by rw [gset_ne hks]; exact e)
theorem TellH.move {n : Int} {h p : List Int} {s t : Nat} {var : Int} (hs : s < h.length) (hl : t < h.length) (hts : t ≠ s) (T : TellH n h p s var) : TellH n (h.set s (h.getD t 0)) (p.set (h.getD t 0).toNat (s : Int)) t var := by
  have tn : ∀ v : Int, 1 ≤ v → v ≤ n → v.toNat < p.length := fun v h1 h2 => by have := T.pl; (first | lia | omega)
  have rt := T.rg t hl
  have hg : ∀ k, k < h.length → (h.set s (h.getD t 0)).getD k 0 = if k = s then h.getD t 0 else h.getD k 0 := fun k hk => gset hs
  refine ⟨by rw [List.length_set]; exact T.pl, T.vr, fun k hk => ?_, fun i j hi hj hit hjt hij => ?_, fun i hi hit => ?_, fun k hk hkt => ?_, fun v h1 h2 hne hno => ?_⟩
  · rw [List.length_set] at hk
    rw [hg k hk]
    split
    · exact rt
    · exact T.rg k hk
  · rw [List.length_set] at hi hj
    rw [hg i hi, hg j hj]
    by_cases e1 : i = s
    · rw [if_pos e1, if_neg (by (first | lia | omega))]
      exact T.un t j hl hj hts (by (first | lia | omega)) (by (first | lia | omega))
    · rw [if_neg e1]
      by_cases e2 : j = s
      · rw [if_pos e2]; exact T.un i t hi hl e1 hts hit
      · rw [if_neg e2]; exact T.un i j hi hj e1 e2 hij
  · rw [List.length_set] at hi
    rw [hg i hi]
    split
    · exact T.uv t hl hts
    · rename_i e; exact T.uv i hi e
  · rw [List.length_set] at hk
    rw [hg k hk]
    by_cases e : k = s
    · rw [if_pos e, gset_self (tn _ rt.1 rt.2), e]
    · have := T.un k t hk hl e hts hkt
      have := (T.rg k hk).1
      rw [if_neg e, gset_ne (by (first | lia | omega))]
      exact T.at' k hk e
  · rw [List.length_set] at hno
    have hvt : h.getD t 0 ≠ v := fun e => hno s hs (by (first | lia | omega)) (by rw [hg s hs, if_pos rfl]; exact e)
    rw [gset_ne (by (first | lia | omega))]
    refine T.no v h1 h2 hne fun k hk hks e => ?_
    by_cases e2 : k = t
    · exact hvt (e2 ▸ e)
    · exact hno k hk e2 (by rw [hg k hk, if_neg hks]; exact e)
theorem sinkL_tells {act : List Int} {var n : Int} : ∀ (f : Nat) (h p : List Int) (s : Nat), s < h.length → h.length ≤ s + f → TellH n h p s var → Tells n (sinkL act var f h p s).1 (sinkL act var f h p s).2
  | 0, h, p, s, hs, hn, _ => absurd hs (Nat.not_lt.mpr hn)
  | f + 1, h, p, s, hs, hn, T =>
    sink_cases (P := fun r => Tells n r.1 r.2) act var f h p s (fun _ => T.stop hs) fun t ht hl hb hv => sinkL_tells f _ _ t (by rw [List.length_set]; exact hl) (by rw [List.length_set]; (first | lia | omega)) (T.move hs hl (by (first | lia | omega)))
/-- the way of the sunk one -/
noncomputable def Moves (h H : List Int) (var : Int) : Nat → List Nat → Prop
  | s, [] => H.getD s 0 = var
  | s, t :: r => H.getD s 0 = h.getD t 0 ∧ (t = 2 * s + 1 ∨ t = 2 * s + 2) ∧ t < h.length ∧ Moves h H var t r
theorem Moves.congr {h h1 H : List Int} {var : Int} (hl : h1.length = h.length) {s0 : Nat} (hg : ∀ k, s0 < k → h1.getD k 0 = h.getD k 0) : ∀ (r : List Nat) (s : Nat), s0 ≤ s → Moves h1 H var s r → Moves h H var s r
  | [], s, _, m => m
  | t :: r, s, hs, ⟨m1, m2, m3, m4⟩ => ⟨by rw [m1, hg t (by (first | lia | omega))], m2, hl ▸ m3, Moves.congr hl hg r t (by (first | lia | omega)) m4⟩
theorem sinkL_way {act : List Int} {var : Int} : ∀ (n : Nat) (h p : List Int) (s : Nat), s < h.length → ∃ r, Moves h (sinkL act var n h p s).1 var s r ∧ ∀ k, k ∉ s :: r → (sinkL act var n h p s).1.getD k 0 = h.getD k 0
  | 0, h, p, s, hs => ⟨[], by unfold sinkL; rw [Int.toNat_natCast]; exact gset_self hs, fun k hk => by unfold sinkL; rw [Int.toNat_natCast]; exact gset_ne fun e => hk (e ▸ List.mem_cons_self)⟩
  | n + 1, h, p, s, hs => by
    refine sink_cases (P := fun q => ∃ r, Moves h q.1 var s r ∧ ∀ k, k ∉ s :: r → q.1.getD k 0 = h.getD k 0) act var n h p s (fun hc => ⟨[], gset_self hs, fun k hk => gset_ne fun e => hk (e ▸ List.mem_cons_self)⟩) fun t ht hl hb hv => ?_
    obtain ⟨r, m, hk⟩ := sinkL_way n (h.set s (h.getD t 0)) (p.set (h.getD t 0).toNat s) t (by rw [List.length_set]; exact hl)
    have m' := Moves.congr (List.length_set) (s0 := s) (fun k hk => gset_ne (by (first | lia | omega))) r t (by (first | lia | omega)) m
    refine ⟨t :: r, ⟨?_, ht, hl, m'⟩, fun k hk' => ?_⟩
    · by_cases hm : s ∈ t :: r
      · exfalso
        have : ∀ (r : List Nat) (t : Nat) (H : List Int), s < t → Moves h H var t r → s ∉ t :: r := by
          intro r
          induction r with
          | nil => intro t H hst _ hm; rcases List.mem_cons.mp hm with e | e; (first | lia | omega); cases e
          | cons u r ih =>
            rintro t H hst ⟨-, m2, -, m4⟩ hm
            rcases List.mem_cons.mp hm with e | e
            · (first | lia | omega)
            · exact ih u H (by (first | lia | omega)) m4 e
        exact this r t _ (by (first | lia | omega)) m' hm
      · rw [hk s hm, gset_self hs]
    · rw [hk k fun q => hk' (.tail _ q), gset_ne fun e => hk' (by rw [e]; exact List.mem_cons_self)]
end Mine
end
section
open PySem PySem.W PySem.Calls PyProof.Rows
namespace Mine
theorem bfN_ge : ∀ many ≤ 12, ∀ spot < many, ∀ k ∈ belowF many spot, spot ≤ k := by decide +kernel
noncomputable def spotsI (n spot : Nat) : List Int := (belowF n spot).map Int.ofNat
noncomputable def wayF (H heap spots : List Int) (spot : Nat) : List Int := (spot : Int) :: spots.filter fun here => decide (here ≠ (spot : Int)) && decide (H.getD ((here - 1).fdiv 2).toNat 0 = heap.getD here.toNat 0)
noncomputable def movedF (H heap spots : List Int) : List Int := spots.filter fun here => decide (H.getD here.toNat 0 ≠ heap.getD here.toNat 0)
structure SunkFacts (act heap place : List Int) (spot : Nat) : Prop where
  perm : (sinkF act heap place spot).1.Perm heap
  out : ∀ k : Int, 0 ≤ k → k < heap.length → k ∉ spotsI heap.length spot → (sinkF act heap place spot).1.getD k.toNat 0 = heap.getD k.toNat 0
  ord : ∀ here ∈ belowF heap.length spot, ∀ late ∈ (spotsI heap.length here).drop 1,
    ¬ (0 - act.getD ((sinkF act heap place spot).1.getD late.toNat 0).toNat 0 < 0 - act.getD ((sinkF act heap place spot).1.getD here 0).toNat 0 ∨
      (0 - act.getD ((sinkF act heap place spot).1.getD here 0).toNat 0 = 0 - act.getD ((sinkF act heap place spot).1.getD late.toNat 0).toNat 0 ∧ (sinkF act heap place spot).1.getD late.toNat 0 < (sinkF act heap place spot).1.getD here 0))
  last : (sinkF act heap place spot).1.getD ((wayF (sinkF act heap place spot).1 heap (spotsI heap.length spot) spot).getLastD 0).toNat 0 = heap.getD spot 0
  moved : movedF (sinkF act heap place spot).1 heap (spotsI heap.length spot) = if (wayF (sinkF act heap place spot).1 heap (spotsI heap.length spot) spot).length = 1 then [] else wayF (sinkF act heap place spot).1 heap (spotsI heap.length spot) spot
  told : ∀ v : Int, 1 ≤ v → v < act.length → (sinkF act heap place spot).2.getD v.toNat 0 = if v ∈ (sinkF act heap place spot).1 then ((sinkF act heap place spot).1.idxOf v : Int) else -1
/-- the row of variables: unlike, in 1..n -/
structure RowOK (n : Int) (R : List Int) : Prop where
  nd : R.Nodup
  rg : ∀ v ∈ R, 1 ≤ v ∧ v ≤ n
structure Heapy (n : Int) (R act heap place : List Int) : Prop where
  al : (act.length : Int) = n + 1
  pl : (place.length : Int) = n + 1
  pm : heap.Perm R
  ge : ∀ v : Int, 1 ≤ v → v ≤ n → 0 ≤ act.getD v.toNat 0
  tl : ∀ v : Int, 1 ≤ v → v ≤ n → place.getD v.toNat 0 = if v ∈ heap then (heap.idxOf v : Int) else -1
/-- in order from b on, but for the spot -/
structure OkBut (act h : List Int) (b s : Nat) : Prop where
  le : b ≤ s
  ok : ∀ i, b ≤ i → i ≠ s → okAt act h i
  ac : ∀ p, b ≤ p → (s = 2 * p + 1 ∨ s = 2 * p + 2) → ∀ c, (c = 2 * s + 1 ∨ c = 2 * s + 2) → c < h.length → beforeB act (h.getD c 0) (h.getD p 0) = false
theorem bfN_asc : ∀ many ≤ 12, ∀ spot < many, (belowF many spot).Pairwise (· < ·) := by decide +kernel
theorem bfN_self : ∀ many ≤ 12, ∀ spot < many, spot ∈ belowF many spot := by decide +kernel
theorem bfN_down : ∀ many ≤ 12, ∀ spot < many, ∀ k ∈ belowF many spot, (¬ 2 * k + 1 < many ∨ 2 * k + 1 ∈ belowF many spot) ∧ (¬ 2 * k + 2 < many ∨ 2 * k + 2 ∈ belowF many spot) ∧ (k = spot ∨ (k - 1) / 2 ∈ belowF many spot) := by decide +kernel
theorem bfN_facts (many : Nat) (hm : many ≤ 12) (spot : Nat) (hs : spot < many) : spot ∈ belowF many spot ∧ (belowF many spot).Pairwise (· < ·) ∧ (∀ k ∈ belowF many spot, (2 * k + 1 < many → 2 * k + 1 ∈ belowF many spot) ∧ (2 * k + 2 < many → 2 * k + 2 ∈ belowF many spot) ∧ (k = spot ∨ (k - 1) / 2 ∈ belowF many spot)) :=
  ⟨bfN_self many hm spot hs, bfN_asc many hm spot hs, fun k hk => by
    obtain ⟨a1, a2, a3⟩ := bfN_down many hm spot hs k hk
    exact ⟨fun q => a1.elim (absurd q) id, fun q => a2.elim (absurd q) id, a3⟩⟩
theorem asc_ext : ∀ {l r : List Nat}, l.Pairwise (· < ·) → r.Pairwise (· < ·) → (∀ k, k ∈ l ↔ k ∈ r) → l = r := fun {l r} h1 h2 h =>
  List.Perm.eq_of_pairwise (le := (· < ·)) (fun a b _ _ q1 q2 => absurd q1 (Nat.lt_asymm q2)) h1 h2
    ((List.perm_ext_iff_of_nodup (h1.imp fun q => Nat.ne_of_lt q) (h2.imp fun q => Nat.ne_of_lt q)).mpr h)
section
variable {h H : List Int} {var : Int}
theorem Moves.up : ∀ {r : List Nat} {s : Nat}, Moves h H var s r → ∀ k ∈ r, s < k ∧ k < h.length ∧ ∃ p ∈ s :: r, k = 2 * p + 1 ∨ k = 2 * p + 2
  | t :: r, s, ⟨_, m2, m3, m4⟩, k, hk => by
    rcases List.mem_cons.mp hk with rfl | hk
    · exact ⟨by (first | lia | omega), m3, s, .head _, m2⟩
    · obtain ⟨a1, a2, p, a3, a4⟩ := m4.up k hk
      exact ⟨by (first | lia | omega), a2, p, .tail _ a3, a4⟩
theorem Moves.asc : ∀ {r : List Nat} {s : Nat}, Moves h H var s r → (s :: r).Pairwise (· < ·)
  | [], s, _ => List.pairwise_singleton _ _
  | t :: r, s, m => List.pairwise_cons.mpr ⟨fun k hk => (Moves.up m k hk).1, Moves.asc m.2.2.2⟩
theorem Moves.end' : ∀ {r : List Nat} {s : Nat}, Moves h H var s r → H.getD (r.getLastD s) 0 = var
  | [], s, m => m
  | t :: r, s, m => by rw [List.getLastD_cons]; exact Moves.end' m.2.2.2
variable (un : ∀ i j, i < h.length → j < h.length → i ≠ j → h.getD i 0 ≠ h.getD j 0) {s0 : Nat} (hs0 : s0 < h.length) (hv : var = h.getD s0 0)
include un hs0 hv
theorem Moves.par {k : Nat} (hk : k < h.length) (hk1 : 1 ≤ k) (hk0 : k ≠ s0) : ∀ {r : List Nat} {s : Nat}, Moves h H var s r → (k - 1) / 2 ∈ s :: r → (H.getD ((k - 1) / 2) 0 = h.getD k 0 ↔ k ∈ r)
  | [], s, m, hm => by
    have e : (k - 1) / 2 = s := List.mem_singleton.mp hm
    have m' : H.getD s 0 = var := m
    rw [e, m', hv]
    exact ⟨fun q => absurd q.symm (un k s0 hk hs0 hk0), fun q => nomatch q⟩
  | t :: r, s, ⟨m1, m2, m3, m4⟩, hm => by
    by_cases e : (k - 1) / 2 = s
    · rw [e, m1]
      constructor
      · intro q
        by_cases e2 : t = k
        · rw [e2]; exact .head _
        · exact absurd q (un t k m3 hk e2)
      · intro q
        rcases List.mem_cons.mp q with rfl | q
        · rfl
        · obtain ⟨a1, -, p, a2, a3⟩ := m4.up k q
          have : t ≤ p := by
            rcases List.mem_cons.mp a2 with rfl | a2
            · exact Nat.le_refl _
            · exact Nat.le_of_lt (m4.up p a2).1
          (first | lia | omega)
    · rcases List.mem_cons.mp hm with q | hm
      · exact absurd q e
      · rw [Moves.par hk hk1 hk0 m4 hm]
        exact ⟨fun q => .tail _ q, fun q => (List.mem_cons.mp q).elim (fun e2 => absurd (by (first | lia | omega)) e) id⟩
theorem Moves.moved : ∀ {r : List Nat} {s : Nat}, s0 ≤ s → Moves h H var s r → ∀ k ∈ r, H.getD k 0 ≠ h.getD k 0
  | t :: r, s, hs, ⟨m1, m2, m3, m4⟩, k, hk => by
    rcases List.mem_cons.mp hk with rfl | hk
    · cases r with
      | nil =>
        have m' : H.getD k 0 = var := m4
        rw [m', hv]; exact un s0 k hs0 m3 (by (first | lia | omega))
      | cons u r => rw [m4.1]; exact un u k m4.2.2.1 m3 (by have := m4.2.1; (first | lia | omega))
    · exact Moves.moved (by (first | lia | omega)) m4 k hk
end
theorem heap_un {n : Int} {R heap : List Int} (hR : RowOK n R) (h : heap.Perm R) : ∀ i j, i < heap.length → j < heap.length → i ≠ j → heap.getD i 0 ≠ heap.getD j 0 := by
  have hn := h.nodup_iff.mpr hR.nd
  intro i j hi hj hij e
  rw [List.getD_eq_getElem?_getD, List.getD_eq_getElem?_getD, List.getElem?_eq_getElem hi, List.getElem?_eq_getElem hj] at e
  have e : heap[i] = heap[j] := e
  rcases Nat.lt_or_gt_of_ne hij with q | q
  · exact List.pairwise_iff_getElem.mp hn i j hi hj q e
  · exact List.pairwise_iff_getElem.mp hn j i hj hi q e.symm
theorem heap_mem {heap : List Int} {k : Nat} (hk : k < heap.length) : heap.getD k 0 ∈ heap := by
  rw [List.getD_eq_getElem?_getD, List.getElem?_eq_getElem hk]; exact List.getElem_mem hk
theorem mem_heap {heap : List Int} {v : Int} (h : v ∈ heap) : ∃ k, k < heap.length ∧ heap.getD k 0 = v := by
  obtain ⟨k, hk, e⟩ := List.getElem_of_mem h
  exact ⟨k, hk, by rw [List.getD_eq_getElem?_getD, List.getElem?_eq_getElem hk]; exact e⟩
theorem idx_at {heap : List Int} (hn : heap.Nodup) {k : Nat} (hk : k < heap.length) : heap.idxOf (heap.getD k 0) = k := by
  rw [List.getD_eq_getElem?_getD, List.getElem?_eq_getElem hk]
  exact List.Nodup.idxOf_getElem hn k hk
theorem Heapy.tells {n : Int} {R act heap place : List Int} (hR : RowOK n R) (H : Heapy n R act heap place) : Tells n heap place := by
  have hn := H.pm.nodup_iff.mpr hR.nd
  refine ⟨fun k hk => ?_, fun v h1 h2 hno => ?_⟩
  · have hm := heap_mem hk
    have hr := hR.rg _ (H.pm.subset hm)
    rw [H.tl _ hr.1 hr.2, if_pos hm, idx_at hn hk]
  · rw [H.tl v h1 h2, if_neg fun hm => ?_]
    obtain ⟨k, hk, e⟩ := mem_heap hm
    exact hno k hk e
theorem Tells.told {n : Int} {heap place : List Int} (hn : heap.Nodup) (T : Tells n heap place) : ∀ v : Int, 1 ≤ v → v ≤ n → place.getD v.toNat 0 = if v ∈ heap then (heap.idxOf v : Int) else -1 := by
  intro v h1 h2
  by_cases hm : v ∈ heap
  · rw [if_pos hm]
    obtain ⟨k, hk, rfl⟩ := mem_heap hm
    rw [T.1 k hk, idx_at hn hk]
  · rw [if_neg hm]
    exact T.2 v h1 h2 fun k hk e => hm (e ▸ heap_mem hk)
theorem ok_down {act H : List Int} {here : Nat} (hl : H.length ≤ 12) (hh : here < H.length) (ho : ∀ i, here ≤ i → okAt act H i) : ∀ (f l : Nat), l < f → l ∈ belowF H.length here → beforeB act (H.getD l 0) (H.getD here 0) = false
  | 0, l, hf, _ => absurd hf (Nat.not_lt_zero _)
  | f + 1, l, hf, hm => by
    obtain ⟨-, -, a3⟩ := bfN_facts _ hl _ hh
    rcases (a3 l hm).2.2 with e | q
    · rw [e]; exact nb_refl
    · have g1 := bfN_ge _ hl _ hh _ q
      have g2 := bfN_ge _ hl _ hh _ hm
      have g3 := bfN_mem _ hl _ hh 12 (by decide) l hm
      by_cases e : l = here
      · rw [e]; exact nb_refl
      · exact nb_trans (ho ((l - 1) / 2) g1 l (by (first | lia | omega)) g3) (ok_down hl hh ho f _ (by (first | lia | omega)) q)
theorem fdiv_par {k : Nat} (h : 1 ≤ k) : (((k : Int) - 1).fdiv 2).toNat = (k - 1) / 2 := by
  rw [Int.fdiv_eq_ediv_of_nonneg _ (by decide)]; (first | lia | omega)
theorem way_law {heap K : List Int} {r B : List Nat} {s : Nat} (un : ∀ i j, i < heap.length → j < heap.length → i ≠ j → heap.getD i 0 ≠ heap.getD j 0) (hs : s < heap.length) (mv : Moves heap K (heap.getD s 0) s r) (kp : ∀ k, k ∉ s :: r → K.getD k 0 = heap.getD k 0)
    (b1 : s ∈ B) (b2 : B.Pairwise (· < ·)) (b3 : ∀ k ∈ B, (2 * k + 1 < heap.length → 2 * k + 1 ∈ B) ∧ (2 * k + 2 < heap.length → 2 * k + 2 ∈ B) ∧ (k = s ∨ (k - 1) / 2 ∈ B)) (b4 : ∀ k ∈ B, k < heap.length) (b5 : ∀ k ∈ B, s ≤ k) :
    wayF K heap (B.map Int.ofNat) s = (s :: r).map Int.ofNat ∧ movedF K heap (B.map Int.ofNat) = (if r = [] then [] else (s :: r).map Int.ofNat) ∧ ∀ k ∈ s :: r, k ∈ B := by
  have up := mv.up
  have asc := mv.asc
  have par : ∀ k, 1 ≤ k → k < heap.length → k ≠ s → (K.getD ((k - 1) / 2) 0 = heap.getD k 0 ↔ k ∈ r) := fun k h1 h2 h3 => by
    by_cases hm : (k - 1) / 2 ∈ s :: r
    · exact mv.par un hs rfl h2 h1 h3 hm
    · rw [kp _ hm]
      refine ⟨fun e => absurd e (un _ _ (by (first | lia | omega)) h2 (by (first | lia | omega))), fun hk => absurd ?_ hm⟩
      obtain ⟨-, -, p, a2, a3⟩ := up k hk
      rw [show (k - 1) / 2 = p by (first | lia | omega)]; exact a2
  have mvd : ∀ k, k < heap.length → (K.getD k 0 ≠ heap.getD k 0 ↔ k ∈ s :: r ∧ r ≠ []) := fun k hk => by
    constructor
    · intro e
      have hm : k ∈ s :: r := Decidable.byContradiction fun hm => e (kp k hm)
      refine ⟨hm, fun er => ?_⟩
      subst er
      rw [List.mem_singleton.mp hm] at e
      exact e mv
    · rintro ⟨hm, hr⟩
      rcases List.mem_cons.mp hm with rfl | hm
      · cases r with
        | nil => exact absurd rfl hr
        | cons t r => rw [mv.1]; exact un t k mv.2.2.1 hk (by have := mv.2.1; (first | lia | omega))
      · exact mv.moved un hs rfl (Nat.le_refl _) k hm
  have sub : ∀ k ∈ s :: r, k ∈ B := by
    have : ∀ (r : List Nat) (t : Nat), t ∈ B → Moves heap K (heap.getD s 0) t r → ∀ k ∈ t :: r, k ∈ B := by
      intro r
      induction r with
      | nil => intro t ht _ k hk; rw [List.mem_singleton.mp hk]; exact ht
      | cons u r ih =>
        rintro t ht ⟨-, m2, m3, m4⟩ k hk
        rcases List.mem_cons.mp hk with rfl | hk
        · exact ht
        · refine ih u ?_ m4 k hk
          rcases m2 with e | e
          · rw [e]; exact (b3 t ht).1 (e ▸ m3)
          · rw [e]; exact (b3 t ht).2.1 (e ▸ m3)
    exact this r s b1 mv
  have fr : ∀ X : List Nat, X.Pairwise (· < ·) → (∀ k ∈ X, k ∈ B) → (B).filter (fun k => decide (k ∈ X)) = X := fun X hX hsub => by
    refine asc_ext (b2.sublist List.filter_sublist) hX fun k => ?_
    rw [List.mem_filter, decide_eq_true_eq]
    exact ⟨fun q => q.2, fun q => ⟨hsub k q, q⟩⟩
  have way : wayF K heap (B.map Int.ofNat) s = (s :: r).map Int.ofNat := by
    unfold wayF
    rw [List.filter_map, List.map_cons]
    refine congrArg (List.cons _) (congrArg (List.map _) (Eq.trans (List.filter_congr fun k hk => ?_) (fr r (List.pairwise_cons.mp asc).2 fun k hk => sub k (.tail _ hk))))
    show (decide ((k : Int) ≠ (s : Int)) && decide (K.getD (((k : Int) - 1).fdiv 2).toNat 0 = heap.getD ((k : Int)).toNat 0)) = decide (k ∈ r)
    by_cases e : k = s
    · subst e
      rw [decide_eq_false (by simp), Bool.false_and, decide_eq_false fun q => absurd (up k q).1 (Nat.lt_irrefl _)]
    · have := b5 k hk
      rw [decide_eq_true (by (first | lia | omega)), Bool.true_and, fdiv_par (by (first | lia | omega)), Int.toNat_natCast]
      exact decide_eq_decide.mpr (par k (by (first | lia | omega)) (b4 k hk) e)
  have mvs : movedF K heap (B.map Int.ofNat) = if r = [] then [] else (s :: r).map Int.ofNat := by
    unfold movedF
    rw [List.filter_map]
    by_cases e : r = []
    · rw [if_pos e, List.map_eq_nil_iff, List.filter_eq_nil_iff]
      intro k hk q
      exact ((mvd k (b4 k hk)).mp (of_decide_eq_true q)).2 e
    · rw [if_neg e]
      refine congrArg (List.map _) (Eq.trans (List.filter_congr fun k hk => ?_) (fr (s :: r) asc sub))
      show decide (K.getD ((k : Int)).toNat 0 ≠ heap.getD ((k : Int)).toNat 0) = decide (k ∈ s :: r)
      rw [Int.toNat_natCast]
      exact decide_eq_decide.mpr ((mvd k (b4 k hk)).trans ⟨fun q => q.1, fun q => ⟨q, e⟩⟩)
  exact ⟨way, mvs, sub⟩
theorem sink_law {n : Int} {R act heap place : List Int} {b s : Nat} (hR : RowOK n R) (hl : R.length ≤ 12) (H : Heapy n R act heap place) (hs : s < heap.length) (hO : OkBut act heap b s) :
    SunkFacts act heap place s ∧ Heapy n R act (sinkF act heap place s).1 (sinkF act heap place s).2 ∧ ∀ i, b ≤ i → okAt act (sinkF act heap place s).1 i := by
  have hle := H.pm.length_eq
  have hl12 : heap.length ≤ 12 := by (first | lia | omega)
  have un := heap_un hR H.pm
  have T := H.tells hR
  have rg : ∀ k, k < heap.length → 1 ≤ heap.getD k 0 ∧ heap.getD k 0 ≤ n := fun k hk => hR.rg _ (H.pm.subset (heap_mem hk))
  have hself : heap.set s (heap.getD s 0) = heap := by
    rw [List.getD_eq_getElem?_getD, List.getElem?_eq_getElem hs]
    exact List.set_getElem_self hs
  have hF : sinkF act heap place s = sinkL act (heap.getD s 0) heap.length heap place s := by unfold sinkF; rw [Int.toNat_natCast]
  have c1 : (sinkF act heap place s).1.Perm heap := by rw [hF]; exact (sinkL_perm _ _ _ _ hs).trans (by rw [hself])
  have c2 : ∀ i, b ≤ i → okAt act (sinkF act heap place s).1 i := by
    rw [hF]
    exact sinkL_ok2 _ _ _ _ hs (by (first | lia | omega)) ⟨hO.le, fun i hi his c hc hcl _ => hO.ok i hi his c hc hcl, fun p hp hps => hO.ok p hp (by (first | lia | omega)) s hps hs, hO.ac⟩
  have c3 : Tells n (sinkF act heap place s).1 (sinkF act heap place s).2 := by
    rw [hF]
    exact sinkL_tells _ _ _ _ hs (by (first | lia | omega)) ⟨H.pl, rg s hs, rg, fun i j hi hj _ _ hij => un i j hi hj hij, fun i hi his => un i s hi hs his, fun k hk _ => T.1 k hk, fun v h1 h2 hne hno => T.2 v h1 h2 fun k hk e => by
      by_cases ek : k = s
      · exact hne (ek ▸ e).symm
      · exact hno k hk ek e⟩
  obtain ⟨r, mv, kp⟩ := sinkL_way (act := act) (var := heap.getD s 0) heap.length heap place s hs
  rw [← hF] at mv kp
  have hln := (sinkF_len act heap place s).1
  have hlp := (sinkF_len act heap place s).2
  have c4 := c3.told (c1.trans H.pm |>.nodup_iff.mpr hR.nd)
  generalize hq : sinkF act heap place s = q at *
  obtain ⟨K, P⟩ := q
  dsimp only at *
  refine ⟨?_, ⟨H.al, by rw [hlp]; exact H.pl, c1.trans H.pm, H.ge, c4⟩, c2⟩
  obtain ⟨b1, b2, b3⟩ := bfN_facts _ hl12 _ hs
  have b4 := bfN_mem _ hl12 _ hs 12 (by decide)
  have b5 := bfN_ge _ hl12 _ hs
  obtain ⟨way, mvs, sub⟩ := way_law un hs mv kp b1 b2 b3 b4 b5
  have fe : ∀ l : Nat, (Int.ofNat l).toNat = l := fun l => rfl
  refine ⟨by rw [hq]; exact c1, fun k h0 h1 hm => ?_, fun here hh late hlate => ?_, ?_, ?_, fun v h1 h2 => by rw [hq]; exact c4 v h1 (by have := H.al; (first | lia | omega))⟩
  · rw [hq]
    obtain ⟨j, rfl⟩ := Int.eq_ofNat_of_zero_le h0
    exact kp j fun q => hm (List.mem_map.mpr ⟨j, sub j q, rfl⟩)
  · rw [hq]
    obtain ⟨l, hl1, rfl⟩ := List.mem_map.mp (List.mem_of_mem_drop hlate)
    have := bf.mp (ok_down (act := act) (H := K) (by (first | lia | omega)) (by rw [hln]; exact b4 _ hh) (fun i hi => c2 i (Nat.le_trans hO.le (Nat.le_trans (b5 _ hh) hi))) (l + 1) l (Nat.lt_succ_self l) (by rw [hln]; exact hl1))
    rw [fe]
    dsimp only
    (first | lia | omega)
  · rw [hq, show spotsI heap.length s = (belowF heap.length s).map Int.ofNat from rfl]
    dsimp only
    rw [way, List.map_cons, List.getLastD_cons, show Int.ofNat s = (fun l => Int.ofNat l) s from rfl, List.getLastD_map]
    exact mv.end'
  · rw [hq, show spotsI heap.length s = (belowF heap.length s).map Int.ofNat from rfl]
    dsimp only
    rw [mvs, way]
    by_cases e : r = []
    · subst e; rfl
    · rw [if_neg e, if_neg]
      rw [List.length_map, List.length_cons]
      exact fun q => e (List.length_eq_zero_iff.mp (by (first | lia | omega)))
/-- what has come out after i pops -/
noncomputable def Popped (n : Int) (R act : List Int) (i : Nat) (ys heap place : List Int) : Prop :=
  (act.length : Int) = n + 1 ∧ place.length = act.length ∧ Valid act.length heap ∧ heap.length ≤ 12 ∧ ys.length = i ∧
  if i ≤ R.length then (ys ++ heap).Perm R ∧ (∀ i, 0 ≤ i → okAt act heap i) ∧ ys.Pairwise (fun a b => beforeB act a b = true) ∧ ∀ y ∈ ys, ∀ v ∈ heap, beforeB act y v = true
  else ∃ r, ys = r ++ [0] ∧ r.Perm R ∧ r.Pairwise (fun a b => beforeB act a b = true)
theorem valid_mem {n : Int} {heap : List Int} (hn : 0 ≤ n) (h : ∀ v ∈ heap, 1 ≤ v ∧ v ≤ n) {l : Nat} (hl : (l : Int) = n + 1) : Valid l heap := fun k => by
  by_cases hk : k < heap.length
  · have := h _ (heap_mem hk)
    (first | lia | omega)
  · rw [List.getD_eq_getElem?_getD, List.getElem?_eq_none (by (first | lia | omega))]
    show (0 : Int) ≤ 0 ∧ (0 : Int) < (l : Int)
    (first | lia | omega)
theorem pop_start {n : Int} {R act heap place : List Int} (hn : 0 ≤ n) (hR : RowOK n R) (hl : R.length ≤ 12) (H : Heapy n R act heap place) (hO : ∀ i, 0 ≤ i → okAt act heap i) : Popped n R act 0 [] heap place := by
  have h1 := H.al
  have h2 := H.pl
  have h3 := H.pm.length_eq
  refine ⟨h1, by (first | lia | omega), valid_mem hn (fun v hv => hR.rg v (H.pm.subset hv)) h1, by (first | lia | omega), rfl, ?_⟩
  rw [if_pos (Nat.zero_le _)]
  exact ⟨H.pm, hO, .nil, fun y hy => nomatch hy⟩
theorem root_least {act heap : List Int} (hO : ∀ i, 0 ≤ i → okAt act heap i) : ∀ (f k : Nat), k < f → k < heap.length → beforeB act (heap.getD k 0) (heap.getD 0 0) = false
  | 0, k, hf, _ => absurd hf (Nat.not_lt_zero _)
  | f + 1, 0, hf, hk => nb_refl
  | f + 1, k + 1, hf, hk => nb_trans (hO (k / 2) (Nat.zero_le _) (k + 1) (by (first | lia | omega)) hk) (root_least hO f (k / 2) (by (first | lia | omega)) (by (first | lia | omega)))
theorem pop_list {a b : Int} {t : List Int} : ((a :: b :: t).dropLast.set 0 ((a :: b :: t).getLastD 0)).Perm (b :: t) := by
  show (((a :: (b :: t).dropLast)).set 0 _).Perm _
  rw [List.set_cons_zero, List.getLastD_cons]
  have e : (b :: t).getLastD a = (b :: t).getLast (List.cons_ne_nil _ _) := by rw [List.getLastD_eq_getLast?, List.getLast?_eq_some_getLast (List.cons_ne_nil _ _)]; rfl
  rw [e]
  have := List.dropLast_concat_getLast (List.cons_ne_nil b t)
  exact (List.perm_append_comm (l₁ := [(b :: t).getLast (List.cons_ne_nil b t)]) (l₂ := (b :: t).dropLast)).trans (List.Perm.of_eq this)
theorem pop_turn {n : Int} {R act heap place ys : List Int} {i : Nat} (hn : 0 ≤ n) (hR : RowOK n R) (h : Popped n R act i ys heap place) (hi : i < R.length + 1) : Popped n R act (i + 1) (ys ++ [(popF act heap place).1]) (popF act heap place).2.1 (popF act heap place).2.2 := by
  obtain ⟨h1, h2, h3, h4, h5, h6⟩ := h
  rw [if_pos (by (first | lia | omega))] at h6
  obtain ⟨g1, g2, g3, g4⟩ := h6
  have hR2 := g1.length_eq
  rw [List.length_append] at hR2
  have hyl : (ys ++ [(popF act heap place).1]).length = i + 1 := by rw [List.length_append, List.length_singleton, h5]
  match heap, h3, h4, g1, g2, g4, hR2, hyl with
  | [], h3, h4, g1, g2, g4, hR2, hyl =>
    have e : popF act [] place = (0, [], place) := rfl
    rw [e] at hyl ⊢
    refine ⟨h1, h2, h3, h4, hyl, ?_⟩
    rw [if_neg (by rw [List.length_nil] at hR2; (first | lia | omega))]
    exact ⟨ys, rfl, by rw [List.append_nil] at g1; exact g1, g3⟩
  | [a], h3, h4, g1, g2, g4, hR2, hyl =>
    have e : popF act [a] place = (a, [], place.set a.toNat (-1)) := rfl
    rw [e] at hyl ⊢
    rw [List.length_singleton] at hR2
    refine ⟨h1, by rw [List.length_set]; exact h2, valid_mem hn (fun v hv => absurd hv List.not_mem_nil) h1, Nat.zero_le _, hyl, ?_⟩
    rw [if_pos (by (first | lia | omega))]
    refine ⟨by rw [List.append_nil]; exact g1, fun i _ c _ hc => absurd hc (Nat.not_lt_zero _), ?_, fun y _ v hv => absurd hv List.not_mem_nil⟩
    rw [List.pairwise_append]
    exact ⟨g3, List.pairwise_singleton _ _, fun y hy v hv => g4 y hy v hv⟩
  | a :: b :: t, h3, h4, g1, g2, g4, hR2, hyl =>
    have hpp := pop_list (a := a) (b := b) (t := t)
    have hln : ((a :: b :: t).dropLast.set 0 ((a :: b :: t).getLastD 0)).length = (b :: t).length := hpp.length_eq
    obtain ⟨P0, hP0⟩ : ∃ P0, P0 = ((place.set a.toNat (-1)).set ((a :: b :: t).getLastD 0).toNat 0) := ⟨_, rfl⟩
    have e : popF act (a :: b :: t) place = (a, sinkF act ((a :: b :: t).dropLast.set 0 ((a :: b :: t).getLastD 0)) P0 0) := by
      unfold popF
      rw [if_neg (by simp), if_pos (by rw [List.length_dropLast]; exact Nat.succ_pos _), hP0]
      rfl
    have hP1 : P0.length = place.length := by rw [hP0, List.length_set, List.length_set]
    have hd : ∀ k, k ≠ 0 → k < (b :: t).length → ((a :: b :: t).dropLast.set 0 ((a :: b :: t).getLastD 0)).getD k 0 = (a :: b :: t).getD k 0 := fun k h0 hk => by
      rw [gset_ne h0, List.getD_eq_getElem?_getD, List.getElem?_dropLast, if_pos (by rw [List.length_cons]; (first | lia | omega)), List.getD_eq_getElem?_getD]
    clear hP0
    rw [e] at hyl ⊢
    generalize (a :: b :: t).dropLast.set 0 ((a :: b :: t).getLastD 0) = hp at *
    have hsl := sinkF_len act hp P0 0
    have hF : sinkF act hp P0 0 = sinkL act (hp.getD 0 0) hp.length hp P0 ((0 : Nat) : Int) := rfl
    have hp0 : 0 < hp.length := by rw [hln]; exact Nat.succ_pos _
    have hself : hp.set 0 (hp.getD 0 0) = hp := by
      rw [List.getD_eq_getElem?_getD, List.getElem?_eq_getElem hp0]
      exact List.set_getElem_self hp0
    have c1 : (sinkF act hp P0 0).1.Perm (b :: t) := by rw [hF]; exact (sinkL_perm _ _ _ _ hp0).trans ((List.Perm.of_eq hself).trans hpp)
    have c2 : ∀ i, 0 ≤ i → okAt act (sinkF act hp P0 0).1 i := by
      rw [hF]
      refine sinkL_ok2 _ _ _ _ hp0 (by (first | lia | omega)) ⟨Nat.le_refl _, fun i hi his c hc hcl hcs => ?_, fun p _ hps => by (first | lia | omega), fun p _ hps => by (first | lia | omega)⟩
      rw [hln] at hcl
      rw [hd i his (by (first | lia | omega)), hd c hcs hcl]
      exact g2 i hi c hc (by rw [List.length_cons]; (first | lia | omega))
    have lst : ∀ v ∈ b :: t, beforeB act a v = true := fun v hv => by
      obtain ⟨k, hk, rfl⟩ := mem_heap hv
      have := root_least g2 (k + 2) (k + 1) (by (first | lia | omega)) (by rw [List.length_cons]; (first | lia | omega))
      have hnd := g1.nodup_iff.mpr hR.nd
      have hne : (b :: t).getD k 0 ≠ a := fun e => (List.nodup_cons.mp (List.nodup_append.mp hnd).2.1).1 (e ▸ heap_mem hk)
      exact b_total hne this
    generalize sinkF act hp P0 0 = q at *
    obtain ⟨H, P⟩ := q
    dsimp only at *
    rw [List.length_cons] at hR2
    have hperm : ((ys ++ [a]) ++ H).Perm R := by
      rw [List.append_assoc]
      exact (List.Perm.append_left ys (c1.cons a)).trans g1
    refine ⟨h1, by (first | lia | omega), valid_mem hn (fun v hv => hR.rg v (hperm.subset (List.mem_append_right _ hv))) h1, by rw [hsl.1, hln]; rw [List.length_cons] at h4; (first | lia | omega), hyl, ?_⟩
    rw [if_pos (by rw [List.length_cons] at hR2; (first | lia | omega))]
    refine ⟨hperm, c2, ?_, fun y hy v hv => ?_⟩
    · rw [List.pairwise_append]
      exact ⟨g3, List.pairwise_singleton _ _, fun y hy v hv => by rw [List.mem_singleton.mp hv]; exact g4 y hy a (.head _)⟩
    · have hv2 := c1.subset hv
      rcases List.mem_append.mp hy with hy | hy
      · exact g4 y hy v (.tail _ hv2)
      · rw [List.mem_singleton.mp hy]; exact lst v hv2
theorem pop_end {n : Int} {R act heap place ys : List Int} {ps : List (Int × Int)} (hR : RowOK n R) (h : Popped n R act (R.length + 1) ys heap place) (hp : ps.Perm (R.map fun v => (0 - act.getD v.toNat 0, v))) (hs : ps.Pairwise fun a b => a.1 < b.1 ∨ (a.1 = b.1 ∧ a.2 < b.2)) : ys = (ps.map fun k => k.2) ++ [0] := by
  obtain ⟨-, -, -, -, -, h6⟩ := h
  rw [if_neg (Nat.not_succ_le_self _)] at h6
  obtain ⟨r, rfl, r1, r2⟩ := h6
  congr 1
  refine List.Perm.eq_of_pairwise (le := fun a b => beforeB act a b = true) (fun a b _ _ q1 q2 => absurd q2 (by rw [nb_asymm q1]; exact Bool.noConfusion)) r2 ?_ (r1.trans ?_)
  · rw [List.pairwise_map]
    refine hs.imp_of_mem fun {a b} ha hb hab => ?_
    obtain ⟨v, -, rfl⟩ := List.mem_map.mp (hp.subset ha)
    obtain ⟨u, -, rfl⟩ := List.mem_map.mp (hp.subset hb)
    rw [bt]
    dsimp only at *
    (first | lia | omega)
  · have := (hp.map fun k => k.2).symm
    rw [List.map_map] at this
    exact (List.Perm.of_eq (by rw [show ((fun k : Int × Int => k.2) ∘ fun v => (0 - act.getD v.toNat 0, v)) = id from rfl, List.map_id])).trans this
theorem RowOK.valid {n : Int} {R heap : List Int} (hn : 0 ≤ n) (hR : RowOK n R) (h : heap.Perm R) {l : Nat} (hl : (l : Int) = n + 1) : Valid l heap := fun k => by
  by_cases hk : k < heap.length
  · rw [List.getD_eq_getElem?_getD, List.getElem?_eq_getElem hk]
    have := hR.rg _ (h.subset (List.getElem_mem hk))
    show 0 ≤ heap[k] ∧ heap[k] < (l : Int)
    (first | lia | omega)
  · rw [List.getD_eq_getElem?_getD, List.getElem?_eq_none (by (first | lia | omega))]
    show (0 : Int) ≤ 0 ∧ (0 : Int) < (l : Int)
    (first | lia | omega)
end Mine
end
section
open PySem PySem.W PySem.Calls PyProof.Rows
namespace Mine
/-- a sinking, what the law of rescalings wants of it -/
theorem sink_law2 {n : Int} {R act heap place : List Int} {b s : Nat} (hR : RowOK n R) (H : Heapy n R act heap place) (hs : s < heap.length) (hO : OkBut act heap b s) :
    Heapy n R act (sinkF act heap place s).1 (sinkF act heap place s).2 ∧ ∀ i, b ≤ i → okAt act (sinkF act heap place s).1 i := by
  have un := heap_un hR H.pm
  have T := H.tells hR
  have rg : ∀ k, k < heap.length → 1 ≤ heap.getD k 0 ∧ heap.getD k 0 ≤ n := fun k hk => hR.rg _ (H.pm.subset (heap_mem hk))
  have hself : heap.set s (heap.getD s 0) = heap := by
    rw [List.getD_eq_getElem?_getD, List.getElem?_eq_getElem hs]
    exact List.set_getElem_self hs
  have hF : sinkF act heap place s = sinkL act (heap.getD s 0) heap.length heap place s := by unfold sinkF; rw [Int.toNat_natCast]
  have hlp := (sinkF_len act heap place s).2
  rw [hF] at hlp ⊢
  have c1 : (sinkL act (heap.getD s 0) heap.length heap place s).1.Perm R := ((sinkL_perm _ _ _ _ hs).trans (by rw [hself])).trans H.pm
  refine ⟨⟨H.al, by rw [hlp]; exact H.pl, c1, H.ge, Tells.told (c1.nodup_iff.mpr hR.nd) (sinkL_tells _ _ _ _ hs (Nat.le_add_left _ _) ⟨H.pl, rg s hs, rg, fun i j hi hj _ _ hij => un i j hi hj hij, fun i hi his => un i s hi hs his, fun k hk _ => T.1 k hk, fun v h1 h2 hne hno => T.2 v h1 h2 fun k hk e => ?_⟩)⟩, sinkL_ok2 _ _ _ _ hs (Nat.le_add_left _ _) ⟨hO.le, fun i hi his c hc hcl _ => hO.ok i hi his c hc hcl, fun p hp hps => hO.ok p hp (by (first | lia | omega)) s hps hs, hO.ac⟩⟩
  by_cases ek : k = s
  · exact hne (ek ▸ e).symm
  · exact hno k hk ek e
end Mine
end
section
open PySem PySem.W PySem.Calls PyProof.Rows
namespace Mine
/-- the heap laid anew: the spots sunk from the last that has any below up to the first -/
noncomputable def rebuildL (act : List Int) : Nat → List Int → List Int → List Int × List Int
  | 0, h, p => (h, p)
  | k + 1, h, p => rebuildL act k (sinkF act h p (k : Int)).1 (sinkF act h p (k : Int)).2
noncomputable def greatF (step : Int) (act : List Int) : Int := act.foldl (fun g a => if a > g then a else g) step
noncomputable def byF (step : Int) (act : List Int) : Int := (greatF step act).fdiv 1024 + 1
noncomputable def stepF (step : Int) (act : List Int) : Int := if step.fdiv (byF step act) = 0 then 1 else step.fdiv (byF step act)
noncomputable def actF (step : Int) (act : List Int) : List Int := act.map fun a => a.fdiv (byF step act)
noncomputable def rebuildF (act heap place : List Int) : List Int × List Int := rebuildL act (heap.length / 2) heap place
theorem greatF_ge {step : Int} : ∀ {act : List Int}, step ≤ greatF step act ∧ ∀ a ∈ act, a ≤ greatF step act := by
  intro act
  induction act generalizing step with
  | nil => exact ⟨Int.le_refl _, fun a h => nomatch h⟩
  | cons b r ih =>
    unfold greatF at *
    rw [List.foldl_cons]
    have h1 := (ih (step := if b > step then b else step)).1
    have h2 := (ih (step := if b > step then b else step)).2
    have h3 : step ≤ (if b > step then b else step) ∧ b ≤ (if b > step then b else step) := by split <;> (first | lia | omega)
    refine ⟨Int.le_trans h3.1 h1, fun a ha => ?_⟩
    rcases List.mem_cons.mp ha with rfl | ha
    · exact Int.le_trans h3.2 h1
    · exact h2 a ha
theorem greatF_mem {step : Int} : ∀ {act : List Int}, greatF step act = step ∨ greatF step act ∈ act := by
  intro act
  induction act generalizing step with
  | nil => exact .inl rfl
  | cons b r ih =>
    unfold greatF at *
    rw [List.foldl_cons]
    rcases ih (step := if b > step then b else step) with h | h
    · rw [h]; split
      · exact .inr (.head _)
      · exact .inl rfl
    · exact .inr (.tail _ h)
theorem by_pos {step : Int} {act : List Int} (h : 0 ≤ step) : 0 < byF step act := by
  have h1 := (greatF_ge (step := step) (act := act)).1
  unfold byF
  have := Int.fdiv_nonneg (show 0 ≤ greatF step act by (first | lia | omega)) (show (0 : Int) ≤ 1024 by decide)
  (first | lia | omega)
end Mine
namespace Mine
theorem great_is {step M : Int} {rows : List Int} (h0 : 0 ≤ step) (h1 : M ∈ rows ++ [step]) (h2 : ∀ a, a ∈ rows ++ [step] → a ≤ M) : greatF step (0 :: rows) = M := by
  obtain ⟨g1, g2⟩ := greatF_ge (step := step) (act := 0 :: rows)
  have hs : step ≤ M := h2 _ (List.mem_append_right _ (.head _))
  refine Int.le_antisymm ?_ ?_
  · rcases greatF_mem (step := step) (act := 0 :: rows) with q | q
    · rw [q]; exact hs
    · rcases List.mem_cons.mp q with q | q
      · rw [q]; (first | lia | omega)
      · exact h2 _ (List.mem_append_left _ q)
  · rcases List.mem_append.mp h1 with q | q
    · exact g2 _ (.tail _ q)
    · rw [List.mem_singleton.mp q]; exact g1
theorem step_is {step : Int} {act : List Int} (h0 : 0 ≤ step) : (if step.fdiv (byF step act) > 1 then step.fdiv (byF step act) else 1) = stepF step act := by
  have h := Int.fdiv_nonneg h0 (Int.le_of_lt (by_pos (act := act) h0))
  unfold stepF
  split <;> split <;> (first | lia | omega)
end Mine
namespace Mine
theorem told_sorted {p : Int → Prop} [DecidablePred p] {n : Nat} : ((rangeKs 1 n).filterMap fun v => if p v then some v else none).Pairwise (· ≤ ·) ∧ ((rangeKs 1 n).filterMap fun v => if p v then some v else none).Nodup ∧ ∀ v, v ∈ (rangeKs 1 n).filterMap (fun v => if p v then some v else none) ↔ (1 ≤ v ∧ v ≤ n) ∧ p v := by
  have hlt : (rangeKs 1 n).Pairwise (· < ·) := by
    unfold rangeKs
    rw [List.pairwise_map]
    exact (List.pairwise_lt_range (n := n)).imp fun h => by (first | lia | omega)
  have hf : ∀ l : List Int, (l.filterMap fun v => if p v then some v else none) = l.filter fun v => decide (p v) := fun l => by
    induction l with
    | nil => rfl
    | cons a r ih => rw [List.filterMap_cons, List.filter_cons]; by_cases h : p a <;> simp [h, ih]
  rw [hf]
  have h2 := hlt.sublist (List.filter_sublist (p := fun v => decide (p v)))
  refine ⟨h2.imp fun h => Int.le_of_lt h, h2.imp fun h => Int.ne_of_lt h, fun v => ?_⟩
  rw [List.mem_filter, decide_eq_true_eq]
  have : v ∈ rangeKs 1 n ↔ 1 ≤ v ∧ v ≤ n := by
    unfold rangeKs
    rw [List.mem_map]
    constructor
    · rintro ⟨i, hi, rfl⟩; rw [List.mem_range] at hi; (first | lia | omega)
    · intro h; exact ⟨(v - 1).toNat, by rw [List.mem_range]; (first | lia | omega), by (first | lia | omega)⟩
  rw [this]
theorem perm_of_mem : ∀ {a b : List Int}, a.Nodup → b.Nodup → (∀ v, v ∈ a ↔ v ∈ b) → a.Perm b := fun {a b} ha hb h => by
  rw [List.perm_iff_count]
  intro v
  rw [ha.count, hb.count]
  simp [h v]
end Mine
end
section
open PySem PySem.W PySem.Calls PyProof.Rows
namespace Mine
theorem cons_getD {rows : List Int} {v : Int} (h : 1 ≤ v) : (0 :: rows).getD v.toNat 0 = rows.getD (v - 1).toNat 0 := by
  obtain ⟨k, rfl⟩ : ∃ k : Nat, v = k + 1 := ⟨(v - 1).toNat, by (first | lia | omega)⟩
  rw [show ((k : Int) + 1).toNat = k + 1 by (first | lia | omega), show ((k : Int) + 1 - 1).toNat = k by (first | lia | omega), List.getD_cons_succ]
/-- the one ahead of all others -/
structure FirstIs (rows ins : List Int) (r : Int) : Prop where
  no : ins = [] → r = 0
  me : ins ≠ [] → r ∈ ins
  ah : ∀ v ∈ ins, v ≠ r → beforeB (0 :: rows) r v = true
theorem first_is {rows ins : List Int} {ps : List (Int × Int)} (hg : ∀ v ∈ ins, 1 ≤ v ∧ v ≤ rows.length) (hp : ps.Perm (ins.map fun v => (0 - rows.getD (v - 1).toNat 0, v))) (hs : ps.Pairwise lexLt) (h0 : 0 < ps.length) : FirstIs rows ins (ps.getD 0 (0, 0)).2 := by
  cases ps with
  | nil => cases h0
  | cons a t =>
    rw [List.getD_cons_zero]
    rw [List.pairwise_cons] at hs
    have hr : ∃ r ∈ ins, a = (0 - rows.getD (r - 1).toNat 0, r) := by
      obtain ⟨r, h1, h2⟩ := List.mem_map.mp (hp.subset (.head _))
      exact ⟨r, h1, h2.symm⟩
    obtain ⟨r, hr, rfl⟩ := hr
    refine ⟨fun e => (by rw [e] at hr; cases hr), fun _ => hr, fun v hv hne => ?_⟩
    have hm := hp.symm.subset (List.mem_map_of_mem (f := fun v => (0 - rows.getD (v - 1).toNat 0, v)) hv)
    rcases List.mem_cons.mp hm with e | hm
    · exact absurd (Prod.mk.inj e).2 hne
    · have h := hs.1 _ hm
      rw [bt, cons_getD (hg v hv).1, cons_getD (hg r hr).1]
      rcases h with q | ⟨q1, q2⟩
      · dsimp only at q; exact .inl (by (first | lia | omega))
      · dsimp only at q1 q2; exact .inr ⟨by (first | lia | omega), q2⟩
theorem first_nil {rows : List Int} : FirstIs rows [] 0 := ⟨fun _ => rfl, fun h => absurd rfl h, fun v hv => nomatch hv⟩
end Mine
end
section
open PySem PySem.W PySem.Calls PyProof.Rows
namespace Mine
/-- what a bump makes -/
noncomputable def bumpA (act : List Int) (step v : Int) : List Int := act.set v.toNat (act.getD v.toNat 0 + step)
structure Core where
  act : List Int
  step : Int
  heap : List Int
  place : List Int
noncomputable def rescaleC (c : Core) : Core := ⟨actF c.step c.act, stepF c.step c.act, (rebuildF (actF c.step c.act) c.heap c.place).1, (rebuildF (actF c.step c.act) c.heap c.place).2⟩
noncomputable def bumpC (limit v : Int) (c : Core) : Core :=
  if limit < c.act.getD v.toNat 0 + c.step then rescaleC { c with act := bumpA c.act c.step v }
  else if 0 ≤ c.place.getD v.toNat 0 then { c with act := bumpA c.act c.step v, heap := (riseF (bumpA c.act c.step v) c.heap c.place (c.place.getD v.toNat 0)).1, place := (riseF (bumpA c.act c.step v) c.heap c.place (c.place.getD v.toNat 0)).2 }
  else { c with act := bumpA c.act c.step v }
noncomputable def decayC (limit : Int) (c : Core) : Core :=
  if limit < c.step + c.step.fdiv (20 - 1) + 1 then rescaleC { c with step := c.step + c.step.fdiv (20 - 1) + 1 } else { c with step := c.step + c.step.fdiv (20 - 1) + 1 }
/-- what the law's own list and the heap have alike -/
structure Alike (act place rows ins : List Int) : Prop where
  ac : act = 0 :: rows
  pl : place.length = act.length
  ln : rows.length ≤ 20
  nd : ins.Nodup
  il : ins.length ≤ 20
  rg : ∀ v ∈ ins, 1 ≤ v ∧ v ≤ rows.length
  hd : ∀ v : Int, 1 ≤ v → v ≤ rows.length → (0 ≤ place.getD v.toNat 0 ↔ v ∈ ins)
/-- rising: in order but for the spot, where var is to be put -/
structure HoleU (act h : List Int) (s : Nat) (var : Int) : Prop where
  e1 : ∀ i c, i ≠ s → c ≠ s → (c = 2 * i + 1 ∨ c = 2 * i + 2) → c < h.length → beforeB act (h.getD c 0) (h.getD i 0) = false
  e2 : ∀ c, (c = 2 * s + 1 ∨ c = 2 * s + 2) → c < h.length → beforeB act (h.getD c 0) var = false
  e3 : ∀ p, (s = 2 * p + 1 ∨ s = 2 * p + 2) → ∀ c, (c = 2 * s + 1 ∨ c = 2 * s + 2) → c < h.length → beforeB act (h.getD c 0) (h.getD p 0) = false
theorem HoleU.stop {act h : List Int} {s : Nat} {var : Int} (hs : s < h.length) (H : HoleU act h s var) (hp : ∀ p, (s = 2 * p + 1 ∨ s = 2 * p + 2) → beforeB act var (h.getD p 0) = false) : ∀ i, 0 ≤ i → okAt act (h.set s var) i := by
  intro i _ c hc hl
  rw [List.length_set] at hl
  rw [gset hs, gset hs]
  by_cases ei : i = s
  · subst ei
    rw [if_pos rfl, if_neg (by (first | lia | omega))]
    exact H.e2 c hc hl
  · rw [if_neg ei]
    by_cases ec : c = s
    · subst ec
      rw [if_pos rfl]
      exact hp i hc
    · rw [if_neg ec]
      exact H.e1 i c ei ec hc hl
theorem HoleU.move {act h : List Int} {s p : Nat} {var : Int} (hs : s < h.length) (hsp : s = 2 * p + 1 ∨ s = 2 * p + 2) (H : HoleU act h s var) (hb : beforeB act var (h.getD p 0) = true) : HoleU act (h.set s (h.getD p 0)) p var := by
  have hnb := nb_asymm hb
  refine ⟨fun i c hi hc hic hl => ?_, fun c hc hl => ?_, fun q hq c hc hl => ?_⟩ <;> rw [List.length_set] at hl
  · rw [gset hs, gset hs]
    by_cases ei : i = s
    · subst ei
      rw [if_pos rfl, if_neg (by (first | lia | omega))]
      exact H.e3 p hsp c hic hl
    · rw [if_neg ei, if_neg (by (first | lia | omega))]
      exact H.e1 i c ei (by (first | lia | omega)) hic hl
  · rw [gset hs]
    split
    · exact hnb
    · rename_i e
      exact nb_trans (H.e1 p c (by (first | lia | omega)) e hc hl) hnb
  · rw [gset hs, gset hs, if_neg (show q ≠ s by (first | lia | omega))]
    have hqp := H.e1 q p (by (first | lia | omega)) (by (first | lia | omega)) hq (by (first | lia | omega))
    split
    · exact hqp
    · rename_i e
      exact nb_trans (H.e1 p c (by (first | lia | omega)) e hc hl) hqp
theorem par_eq {s : Nat} (h : 0 < s) : (((s : Int) - 1).fdiv 2) = (((s - 1) / 2 : Nat) : Int) := by
  rw [Int.fdiv_eq_ediv_of_nonneg _ (by decide)]; (first | lia | omega)
theorem riseL_law {act : List Int} {var n : Int} : ∀ (f : Nat) (h p : List Int) (s : Nat), s < h.length → s ≤ f → HoleU act h s var → TellH n h p s var →
    (∀ i, 0 ≤ i → okAt act (riseL act var f h p s).1 i) ∧ Tells n (riseL act var f h p s).1 (riseL act var f h p s).2 ∧ (riseL act var f h p s).1.Perm (h.set s var)
  | 0, h, p, s, hs, hf, H, T => by
    unfold riseL
    rw [Int.toNat_natCast]
    exact ⟨H.stop hs (fun q hq => absurd hq (by (first | lia | omega))), T.stop hs, List.Perm.refl _⟩
  | f + 1, h, p, s, hs, hf, H, T => by
    unfold riseL
    by_cases h0 : 0 < s
    · rw [par_eq h0, Int.toNat_natCast, Int.toNat_natCast]
      have hps : s = 2 * ((s - 1) / 2) + 1 ∨ s = 2 * ((s - 1) / 2) + 2 := by (first | lia | omega)
      generalize (s - 1) / 2 = t at *
      have htl : t < h.length := by (first | lia | omega)
      by_cases hb : beforeB act var (h.getD t 0) = true
      · rw [if_pos ⟨by (first | lia | omega), hb⟩]
        have hl2 : t < (h.set s (h.getD t 0)).length := by rw [List.length_set]; exact htl
        obtain ⟨r1, r2, r3⟩ := riseL_law f _ _ t hl2 (by (first | lia | omega)) (H.move hs hps hb) (T.move hs htl (by (first | lia | omega)))
        refine ⟨r1, r2, r3.trans ?_⟩
        have e : (h.set s (h.getD t 0))[t] = h.getD t 0 := by
          have := gset_ne (l := h) (i := s) (v := h.getD t 0) (k := t) (by (first | lia | omega))
          rw [List.getD_eq_getElem?_getD, List.getElem?_eq_getElem hl2] at this
          exact this
        have q1 := out_perm hl2
        rw [e] at q1
        have q2 := (q1.trans (set_perm hs (h.getD t 0))).cons_inv
        exact (set_perm hl2 var).trans ((q2.cons var).trans (set_perm hs var).symm)
      · rw [if_neg (fun q => hb q.2)]
        refine ⟨H.stop hs (fun q hq => ?_), T.stop hs, List.Perm.refl _⟩
        rw [show q = t by (first | lia | omega)]
        exact Bool.eq_false_iff.mpr hb
    · rw [if_neg (fun q => h0 (by (first | lia | omega))), Int.toNat_natCast]
      exact ⟨H.stop hs (fun q hq => absurd hq (by (first | lia | omega))), T.stop hs, List.Perm.refl _⟩
/-- rising one that has become more active -/
theorem rise_law {n : Int} {R act heap place : List Int} {s : Nat} (hR : RowOK n R) (H : Heapy n R act heap place) (hs : s < heap.length) (hO : HoleU act heap s (heap.getD s 0)) :
    Heapy n R act (riseF act heap place s).1 (riseF act heap place s).2 ∧ ∀ i, 0 ≤ i → okAt act (riseF act heap place s).1 i := by
  have un := heap_un hR H.pm
  have T := H.tells hR
  have rg : ∀ k, k < heap.length → 1 ≤ heap.getD k 0 ∧ heap.getD k 0 ≤ n := fun k hk => hR.rg _ (H.pm.subset (heap_mem hk))
  have hself : heap.set s (heap.getD s 0) = heap := by
    rw [List.getD_eq_getElem?_getD, List.getElem?_eq_getElem hs]
    exact List.set_getElem_self hs
  have hF : riseF act heap place s = riseL act (heap.getD s 0) heap.length heap place s := by unfold riseF; rw [Int.toNat_natCast]
  have hlp := (riseF_len act heap place s).2
  obtain ⟨c2, c3, c1⟩ := riseL_law (n := n) heap.length heap place s hs (by (first | lia | omega)) hO ⟨H.pl, rg s hs, rg, fun i j hi hj _ _ hij => un i j hi hj hij, fun i hi his => un i s hi hs his, fun k hk _ => T.1 k hk, fun v h1 h2 hne hno => T.2 v h1 h2 fun k hk e => by
      by_cases ek : k = s
      · exact hne (ek ▸ e).symm
      · exact hno k hk ek e⟩
  rw [← hF] at c1 c2 c3
  rw [hself] at c1
  exact ⟨⟨H.al, by rw [hlp]; exact H.pl, c1.trans H.pm, H.ge, c3.told ((c1.trans H.pm).nodup_iff.mpr hR.nd)⟩, c2⟩
/-- laid anew -/
theorem rebuildL_law {n : Int} {R act : List Int} (hR : RowOK n R) : ∀ (k : Nat) (heap place : List Int), Heapy n R act heap place → k ≤ heap.length → (∀ i, k ≤ i → okAt act heap i) →
    Heapy n R act (rebuildL act k heap place).1 (rebuildL act k heap place).2 ∧ ∀ i, 0 ≤ i → okAt act (rebuildL act k heap place).1 i
  | 0, heap, place, H, _, hO => ⟨H, hO⟩
  | k + 1, heap, place, H, hk, hO => by
    obtain ⟨h1, h2⟩ := sink_law2 (b := k) hR H (show k < heap.length by (first | lia | omega)) ⟨Nat.le_refl _, fun i hi hne => hO i (by (first | lia | omega)), fun p hp hps => absurd hps (by (first | lia | omega))⟩
    unfold rebuildL
    exact rebuildL_law hR k _ _ h1 (by rw [(sinkF_len act heap place k).1]; (first | lia | omega)) h2
theorem rebuild_law {n : Int} {R act heap place : List Int} (hR : RowOK n R) (H : Heapy n R act heap place) :
    Heapy n R act (rebuildF act heap place).1 (rebuildF act heap place).2 ∧ ∀ i, 0 ≤ i → okAt act (rebuildF act heap place).1 i :=
  rebuildL_law hR _ _ _ H (Nat.div_le_self _ _) fun i hi c hc hcl => absurd hcl (by (first | lia | omega))
end Mine
end
section
open PySem PySem.W PySem.Calls PyProof.Rows
namespace Mine
theorem RowOK.len {n : Nat} {R : List Int} (h : RowOK n R) : R.length ≤ n := by
  have hn : (rangeKs 1 n).Nodup := by
    unfold rangeKs
    rw [List.Nodup, List.pairwise_map]
    exact List.nodup_range.imp fun hne e => hne (by (first | lia | omega))
  have hp : R.Perm ((rangeKs 1 n).filter fun v => decide (v ∈ R)) := perm_of_mem h.nd (hn.sublist (List.filter_sublist)) fun v => by
    rw [List.mem_filter, decide_eq_true_eq]
    refine ⟨fun q => ⟨?_, q⟩, fun q => q.2⟩
    have := h.rg v q
    unfold rangeKs
    exact List.mem_map.mpr ⟨(v - 1).toNat, List.mem_range.mpr (by (first | lia | omega)), by (first | lia | omega)⟩
  rw [hp.length_eq]
  refine Nat.le_trans (List.length_filter_le _ _) ?_
  rw [rangeKs_length]
  exact Nat.le_refl _
/-- the heap and the law's own list, before the heap's order is asked -/
structure Fair (c : Core) (rows ins : List Int) : Prop where
  ac : c.act = 0 :: rows
  n1 : 1 ≤ rows.length
  n8 : rows.length ≤ 8
  R : RowOK rows.length ins
  H : Heapy rows.length ins c.act c.heap c.place
  s1 : 1 ≤ c.step
  a0 : ∀ a ∈ rows, 0 ≤ a
structure Good (limit : Int) (c : Core) (rows ins : List Int) : Prop where
  F : Fair c rows ins
  O : ∀ i, 0 ≤ i → okAt c.act c.heap i
  s2 : c.step ≤ limit
  a1 : ∀ a ∈ rows, a ≤ limit
  l1 : 1500 ≤ limit
  l2 : limit ≤ 1000000000000
theorem Fair.al {c : Core} {rows ins : List Int} (F : Fair c rows ins) : c.act.length = rows.length + 1 := by rw [F.ac]; rfl
theorem Fair.pl {c : Core} {rows ins : List Int} (F : Fair c rows ins) : c.place.length = c.act.length := by have := F.H.pl; have := F.H.al; (first | lia | omega)
theorem Fair.hl {c : Core} {rows ins : List Int} (F : Fair c rows ins) : c.heap.length ≤ rows.length := by rw [F.H.pm.length_eq]; exact F.R.len
theorem Fair.valid {c : Core} {rows ins : List Int} (F : Fair c rows ins) : Valid c.act.length c.heap := F.R.valid (by (first | lia | omega)) F.H.pm F.H.al
theorem Fair.place_lt {c : Core} {rows ins : List Int} (F : Fair c rows ins) {v : Int} (h1 : 1 ≤ v) (h2 : v ≤ rows.length) : c.place.getD v.toNat 0 < c.heap.length ∧ (0 ≤ c.place.getD v.toNat 0 ↔ v ∈ ins) ∧ (v ∈ ins → c.heap.getD (c.place.getD v.toNat 0).toNat 0 = v) := by
  rw [F.H.tl v h1 h2]
  by_cases hm : v ∈ c.heap
  · rw [if_pos hm]
    have := List.idxOf_lt_length_of_mem hm
    refine ⟨by (first | lia | omega), ⟨fun _ => F.H.pm.subset hm, fun _ => by (first | lia | omega)⟩, fun _ => ?_⟩
    rw [Int.toNat_natCast, List.getD_eq_getElem?_getD, List.getElem?_eq_getElem this]
    exact List.getElem_idxOf this
  · rw [if_neg hm]
    exact ⟨by (first | lia | omega), ⟨fun q => absurd q (by (first | lia | omega)), fun q => absurd (F.H.pm.symm.subset q) hm⟩, fun q => absurd (F.H.pm.symm.subset q) hm⟩
theorem Fair.alike {c : Core} {rows ins : List Int} (F : Fair c rows ins) : Alike c.act c.place rows ins :=
  ⟨F.ac, F.pl, by have := F.n8; (first | lia | omega), F.R.nd, by have := F.n8; have := F.R.len; (first | lia | omega), fun v hv => F.R.rg v hv, fun v h1 h2 => (F.place_lt h1 h2).2.1⟩
/-- a list of activities as long, of unlike values -/
theorem Heapy.act {n : Int} {R act act' heap place : List Int} (H : Heapy n R act heap place) (hl : act'.length = act.length) (hg : ∀ a ∈ act', 0 ≤ a) : Heapy n R act' heap place :=
  ⟨by rw [hl]; exact H.al, H.pl, H.pm, fun v h1 h2 => hg _ (heap_mem (by have := H.al; (first | lia | omega))), H.tl⟩
noncomputable def scaleR (step : Int) (rows : List Int) : List Int := rows.map fun a => a.fdiv (byF step (0 :: rows))
theorem actF_cons {step : Int} {rows : List Int} : actF step (0 :: rows) = 0 :: scaleR step rows := by
  unfold actF scaleR
  rw [List.map_cons, Int.zero_fdiv]
theorem by_lt {step : Int} {act : List Int} (h : 0 ≤ step) {a : Int} (h0 : 0 ≤ a) (ha : a ≤ greatF step act) : 0 ≤ a.fdiv (byF step act) ∧ a.fdiv (byF step act) ≤ 1023 := by
  have hp := by_pos (act := act) h
  rw [Int.fdiv_eq_ediv_of_nonneg _ (Int.le_of_lt hp)]
  refine ⟨Int.ediv_nonneg h0 (Int.le_of_lt hp), Int.le_of_lt_add_one (Int.ediv_lt_of_lt_mul hp ?_)⟩
  have h1 := (greatF_ge (step := step) (act := act)).1
  unfold byF
  rw [Int.fdiv_eq_ediv_of_nonneg _ (by decide)]
  (first | lia | omega)
theorem stepF_lt {step : Int} {act : List Int} (h : 0 ≤ step) : 1 ≤ stepF step act ∧ stepF step act ≤ 1023 := by
  have := by_lt h h (greatF_ge (step := step) (act := act)).1
  unfold stepF
  split <;> (first | lia | omega)
theorem scaleR_lt {step : Int} {rows : List Int} (h : 0 ≤ step) (ha : ∀ a ∈ rows, 0 ≤ a) : ∀ a ∈ scaleR step rows, 0 ≤ a ∧ a ≤ 1023 := fun a hm => by
  obtain ⟨b, hb, rfl⟩ := List.mem_map.mp hm
  exact by_lt h (ha b hb) ((greatF_ge (step := step) (act := 0 :: rows)).2 b (.tail _ hb))
theorem scaleR_len {step : Int} {rows : List Int} : (scaleR step rows).length = rows.length := List.length_map _
/-- scaled and laid anew: good again -/
theorem Fair.rescale {c : Core} {rows ins : List Int} {limit : Int} (F : Fair c rows ins) (l1 : 1500 ≤ limit) (l2 : limit ≤ 1000000000000) :
    Good limit (rescaleC c) (scaleR c.step rows) ins ∧ (rescaleC c).step ≤ 1023 ∧ (∀ a ∈ scaleR c.step rows, a ≤ 1023) := by
  obtain ⟨act, s, heap, place⟩ := c
  obtain ⟨rfl, f1, f2, f3, f4, f5, f6⟩ := F
  have hs : 0 ≤ s := Int.le_of_lt f5
  have hsc := scaleR_lt hs f6
  have hst := stepF_lt (act := 0 :: rows) hs
  have hH : Heapy rows.length ins (0 :: scaleR s rows) heap place := f4.act (by rw [List.length_cons, List.length_cons, scaleR_len]) fun a ha => by
    rcases List.mem_cons.mp ha with q | q
    · rw [q]; exact Int.le_refl _
    · exact (hsc a q).1
  obtain ⟨r1, r2⟩ := rebuild_law f3 hH
  unfold rescaleC
  dsimp only at *
  rw [actF_cons]
  exact ⟨⟨⟨rfl, by rw [scaleR_len]; exact f1, by rw [scaleR_len]; exact f2, by rw [scaleR_len]; exact f3, by rw [scaleR_len]; exact r1, hst.1, fun a ha => (hsc a ha).1⟩, r2, by dsimp only; (first | lia | omega), fun a ha => by have := hsc a ha; (first | lia | omega), l1, l2⟩, hst.2, fun a ha => (hsc a ha).2⟩
/-- a second scaling at once turns nothing -/
theorem scale_again {s : Int} {rows : List Int} (h1 : 1 ≤ s) (h2 : s ≤ 1023) (ha : ∀ a ∈ rows, 0 ≤ a ∧ a ≤ 1023) : scaleR s rows = rows ∧ stepF s (0 :: rows) = s := by
  have hb : byF s (0 :: rows) = 1 := by
    have hg : greatF s (0 :: rows) ≤ 1023 ∧ 0 ≤ greatF s (0 :: rows) := by
      rcases greatF_mem (step := s) (act := 0 :: rows) with q | q
      · rw [q]; (first | lia | omega)
      · rcases List.mem_cons.mp q with q | q
        · rw [q]; (first | lia | omega)
        · have := ha _ q; (first | lia | omega)
    unfold byF
    rw [Int.fdiv_eq_ediv_of_nonneg _ (by decide)]
    (first | lia | omega)
  refine ⟨?_, ?_⟩
  · unfold scaleR
    rw [hb]
    conv => rhs; rw [← List.map_id rows]
    exact List.map_congr_left fun a _ => Int.fdiv_one a
  · unfold stepF
    rw [hb, Int.fdiv_one, if_neg (by (first | lia | omega))]
/-- no unlike ones turn round -/
theorem scale_mono {s : Int} {rows : List Int} (hs : 0 ≤ s) {j k : Nat} (hj : j < rows.length) (hk : k < rows.length) (h : rows.getD k 0 < rows.getD j 0) : ¬ (scaleR s rows).getD j 0 < (scaleR s rows).getD k 0 := by
  have hp := by_pos (act := 0 :: rows) hs
  have hg : ∀ i, i < rows.length → (scaleR s rows).getD i 0 = rows.getD i 0 / byF s (0 :: rows) := fun i hi => by
    unfold scaleR
    rw [List.getD_eq_getElem?_getD, List.getD_eq_getElem?_getD, List.getElem?_map, List.getElem?_eq_getElem hi, ← Int.fdiv_eq_ediv_of_nonneg _ (Int.le_of_lt hp)]
    rfl
  rw [hg j hj, hg k hk]
  have := Int.ediv_le_ediv hp (Int.le_of_lt h)
  (first | lia | omega)
end Mine
end
section
open PySem PySem.W PySem.Calls PyProof.Rows
namespace Mine
noncomputable def rowsB (rows : List Int) (s v : Int) : List Int := rows.set (v - 1).toNat (rows.getD (v - 1).toNat 0 + s)
theorem bumpA_cons {rows : List Int} {s v : Int} (h : 1 ≤ v) : bumpA (0 :: rows) s v = 0 :: rowsB rows s v := by
  unfold bumpA rowsB
  rw [cons_getD h]
  obtain ⟨k, rfl⟩ : ∃ k : Nat, v = k + 1 := ⟨(v - 1).toNat, by (first | lia | omega)⟩
  rw [show ((k : Int) + 1).toNat = k + 1 by (first | lia | omega), show ((k : Int) + 1 - 1).toNat = k by (first | lia | omega), List.set_cons_succ]
theorem rowsB_mem {rows : List Int} {s v : Int} : ∀ a ∈ rowsB rows s v, a ∈ rows ∨ a = rows.getD (v - 1).toNat 0 + s := fun a h => List.mem_or_eq_of_mem_set h
theorem rowsB_len {rows : List Int} {s v : Int} : (rowsB rows s v).length = rows.length := List.length_set
/-- a bump -/
theorem Good.bump {c : Core} {rows ins : List Int} {limit v : Int} (G : Good limit c rows ins) (h1 : 1 ≤ v) (h2 : v ≤ rows.length) :
    (limit < rows.getD (v - 1).toNat 0 + c.step → Good limit (bumpC limit v c) (scaleR c.step (rowsB rows c.step v)) ins ∧ (bumpC limit v c).step = stepF c.step (0 :: rowsB rows c.step v)) ∧
    (¬ limit < rows.getD (v - 1).toNat 0 + c.step → Good limit (bumpC limit v c) (rowsB rows c.step v) ins ∧ (bumpC limit v c).step = c.step) := by
  obtain ⟨act, s, heap, place⟩ := c
  have hpl := G.F.place_lt h1 h2
  obtain ⟨⟨rfl, f1, f2, f3, f4, f5, f6⟩, g1, g2, g3, g4, g5⟩ := G
  have hx : 0 ≤ rows.getD (v - 1).toNat 0 := f6 _ (heap_mem (by (first | lia | omega)))
  have hlen := rowsB_len (rows := rows) (s := s) (v := v)
  have hmem := rowsB_mem (rows := rows) (s := s) (v := v)
  have hset : bumpA (0 :: rows) s v = (0 :: rows).set v.toNat (rows.getD (v - 1).toNat 0 + s) := by unfold bumpA; rw [cons_getD h1]
  have gv : (bumpA (0 :: rows) s v).getD v.toNat 0 = (0 :: rows).getD v.toNat 0 + s := by rw [hset, gset_self (by rw [List.length_cons]; (first | lia | omega)), cons_getD h1]
  have gn : ∀ u : Int, 1 ≤ u → u ≠ v → (bumpA (0 :: rows) s v).getD u.toNat 0 = (0 :: rows).getD u.toNat 0 := fun u hu hne => by rw [hset, gset_ne (by (first | lia | omega))]
  have hrg : ∀ k, k < heap.length → 1 ≤ heap.getD k 0 := fun k hk => (f3.rg _ (f4.pm.subset (heap_mem hk))).1
  have un := heap_un f3 f4.pm
  rw [bumpA_cons h1] at gv gn
  dsimp only at *
  have F : Fair ⟨0 :: rowsB rows s v, s, heap, place⟩ (rowsB rows s v) ins := by
    have ha : ∀ a ∈ rowsB rows s v, 0 ≤ a := fun a ha => by
      rcases hmem a ha with q | q
      · exact f6 a q
      · (first | lia | omega)
    refine ⟨rfl, by (first | lia | omega), by (first | lia | omega), by rw [hlen]; exact f3, ?_, f5, ha⟩
    rw [hlen]
    exact f4.act (by rw [List.length_cons, List.length_cons, hlen]) fun a hq => by
      rcases List.mem_cons.mp hq with q | q
      · (first | lia | omega)
      · exact ha a q
  unfold bumpC
  rw [cons_getD h1, bumpA_cons h1]
  dsimp only
  refine ⟨fun q => ?_, fun q => ?_⟩
  · rw [if_pos q]
    exact ⟨(F.rescale g4 g5).1, rfl⟩
  · rw [if_neg q]
    have hb : ∀ a ∈ rowsB rows s v, a ≤ limit := fun a ha => by
      rcases hmem a ha with q | q
      · exact g3 a q
      · (first | lia | omega)
    by_cases hp : 0 ≤ place.getD v.toNat 0
    · rw [if_pos hp]
      have e := hpl.2.2 (hpl.2.1.mp hp)
      have hs : (place.getD v.toNat 0).toNat < heap.length := by (first | lia | omega)
      rw [show place.getD v.toNat 0 = (((place.getD v.toNat 0).toNat : Nat) : Int) by (first | lia | omega)]
      generalize (place.getD v.toNat 0).toNat = t at *
      have FR := F.R
      have FH := F.H
      dsimp only at FH
      suffices hU : HoleU (0 :: rowsB rows s v) heap t (heap.getD t 0) by
        obtain ⟨r1, r2⟩ := rise_law FR FH hs hU
        exact ⟨⟨⟨rfl, F.n1, F.n8, F.R, r1, f5, F.a0⟩, r2, g2, hb, g4, g5⟩, rfl⟩
      refine ⟨fun i c hi hc hic hl => ?_, fun c hc hl => ?_, fun p hp c hc hl => ?_⟩
      · have := un i t (by (first | lia | omega)) hs hi
        have := un c t hl hs hc
        have h0 := bf.mp (g1 i (Nat.zero_le _) c hic hl)
        rw [bf, gn _ (hrg _ hl) (by (first | lia | omega)), gn _ (hrg _ (by (first | lia | omega))) (by (first | lia | omega))]
        exact h0
      · have := un c t hl hs (by (first | lia | omega))
        have h0 := bf.mp (g1 t (Nat.zero_le _) c hc hl)
        rw [e] at h0 ⊢
        rw [bf, gn _ (hrg _ hl) (by (first | lia | omega)), gv]
        (first | lia | omega)
      · have := un c t hl hs (by (first | lia | omega))
        have := un p t (by (first | lia | omega)) hs (by (first | lia | omega))
        have h0 := bf.mp (nb_trans (g1 t (Nat.zero_le _) c hc hl) (g1 p (Nat.zero_le _) t hp hs))
        rw [bf, gn _ (hrg _ hl) (by (first | lia | omega)), gn _ (hrg _ (by (first | lia | omega))) (by (first | lia | omega))]
        exact h0
    · rw [if_neg hp]
      have hni : v ∉ heap := fun q => hp (hpl.2.1.mpr (f4.pm.subset q))
      have hnv : ∀ k, k < heap.length → heap.getD k 0 ≠ v := fun k hk e => hni (e ▸ heap_mem hk)
      refine ⟨⟨F, fun i hi c hc hl => ?_, g2, hb, g4, g5⟩, rfl⟩
      have h0 := bf.mp (g1 i hi c hc hl)
      dsimp only at hl ⊢
      rw [bf, gn _ (hrg _ hl) (hnv _ hl), gn _ (hrg _ (by (first | lia | omega))) (hnv _ (by (first | lia | omega)))]
      exact h0
/-- a decay -/
theorem Good.decay {c : Core} {rows ins : List Int} {limit : Int} (G : Good limit c rows ins) :
    (limit < c.step + c.step.fdiv (20 - 1) + 1 → Good limit (decayC limit c) (scaleR (c.step + c.step.fdiv (20 - 1) + 1) rows) ins ∧ (decayC limit c).step = stepF (c.step + c.step.fdiv (20 - 1) + 1) (0 :: rows)) ∧
    (¬ limit < c.step + c.step.fdiv (20 - 1) + 1 → Good limit (decayC limit c) rows ins ∧ (decayC limit c).step = c.step + c.step.fdiv (20 - 1) + 1) := by
  obtain ⟨act, s, heap, place⟩ := c
  obtain ⟨⟨rfl, f1, f2, f3, f4, f5, f6⟩, g1, g2, g3, g4, g5⟩ := G
  dsimp only at *
  have hf : s.fdiv (20 - 1) = s / 19 := Int.fdiv_eq_ediv_of_nonneg _ (by decide)
  have F : Fair ⟨0 :: rows, s + s.fdiv (20 - 1) + 1, heap, place⟩ rows ins := ⟨rfl, f1, f2, f3, f4, by rw [hf]; dsimp only; (first | lia | omega), f6⟩
  unfold decayC
  dsimp only
  refine ⟨fun q => ?_, fun q => ?_⟩
  · rw [if_pos q]
    exact ⟨(F.rescale g4 g5).1, rfl⟩
  · rw [if_neg q]
    exact ⟨⟨F, g1, by dsimp only; (first | lia | omega), g3, g4, g5⟩, rfl⟩
end Mine
end
section
open PySem PySem.W PySem.Calls PyProof.Rows
namespace Mine
theorem app_l {l r : List Int} {k : Nat} (h : k < l.length) : (l ++ r).getD k 0 = l.getD k 0 := by
  rw [List.getD_eq_getElem?_getD, List.getD_eq_getElem?_getD, List.getElem?_append_left h]
theorem app_r {l : List Int} {v : Int} : (l ++ [v]).getD l.length 0 = v := by
  rw [List.getD_eq_getElem?_getD, List.getElem?_append_right (Nat.le_refl _), Nat.sub_self]; rfl
theorem push_core {n : Int} {R act heap place : List Int} {v : Int} (hR : RowOK n R) (H : Heapy n R act heap place) (hO : ∀ i, 0 ≤ i → okAt act heap i) (h1 : 1 ≤ v) (h2 : v ≤ n) (hv : v ∉ R) :
    RowOK n (R ++ [v]) ∧ Heapy n (R ++ [v]) act (pushF act heap place v).1 (pushF act heap place v).2 ∧ ∀ i, 0 ≤ i → okAt act (pushF act heap place v).1 i := by
  have T := H.tells hR
  have hvh : v ∉ heap := fun q => hv (H.pm.subset q)
  have hpv : place.getD v.toNat 0 = -1 := by rw [H.tl v h1 h2, if_neg hvh]
  have hR2 : RowOK n (R ++ [v]) := ⟨by
    rw [List.nodup_append]
    exact ⟨hR.nd, List.pairwise_singleton _ _, fun a ha b hb e => hv (by rw [List.mem_singleton.mp hb] at e; exact e ▸ ha)⟩, fun u hu => by
    rcases List.mem_append.mp hu with q | q
    · exact hR.rg u q
    · rw [List.mem_singleton.mp q]; exact ⟨h1, h2⟩⟩
  have hpl := H.pl
  have hvp : v.toNat < place.length := by (first | lia | omega)
  have hle : (heap ++ [v]).length = heap.length + 1 := List.length_append
  have hpm : (heap ++ [v]).Perm (R ++ [v]) := H.pm.append_right _
  have hT : Tells n (heap ++ [v]) (place.set v.toNat (heap.length : Int)) := ⟨fun k hk => by
    by_cases e : k < heap.length
    · have hm := heap_mem e
      have hr := hR.rg _ (H.pm.subset hm)
      have hne : heap.getD k 0 ≠ v := fun q => hvh (q ▸ hm)
      rw [app_l e, gset_ne (by (first | lia | omega))]
      exact T.1 k e
    · obtain rfl : k = heap.length := by (first | lia | omega)
      rw [app_r, gset_self hvp], fun u u1 u2 hno => by
    have hne : u ≠ v := fun q => hno heap.length (by (first | lia | omega)) (by rw [app_r]; exact q.symm)
    rw [gset_ne (by (first | lia | omega))]
    exact T.2 u u1 u2 fun k hk => by rw [← app_l hk]; exact hno k (by (first | lia | omega))⟩
  have hH : Heapy n (R ++ [v]) act (heap ++ [v]) (place.set v.toNat (heap.length : Int)) := ⟨H.al, by rw [List.length_set]; exact hpl, hpm, H.ge, hT.told (hpm.nodup_iff.mpr hR2.nd)⟩
  have hO2 : HoleU act (heap ++ [v]) heap.length ((heap ++ [v]).getD heap.length 0) := ⟨fun i c hi hc hic hl => by
    rw [app_l (by (first | lia | omega)), app_l (by (first | lia | omega))]
    exact hO i (Nat.zero_le _) c hic (by (first | lia | omega)), fun c hc hl => absurd hl (by (first | lia | omega)), fun p hp c hc hl => absurd hl (by (first | lia | omega))⟩
  obtain ⟨r1, r2⟩ := rise_law hR2 hH (by (first | lia | omega)) hO2
  have e : pushF act heap place v = riseF act (heap ++ [v]) (place.set v.toNat (heap.length : Int)) (heap.length : Int) := by
    unfold pushF
    rw [if_neg (by (first | lia | omega)), hle, show ((heap.length + 1 : Nat) : Int) - 1 = (heap.length : Int) by (first | lia | omega)]
  rw [e]
  exact ⟨hR2, r1, r2⟩
theorem grow_core {n : Nat} {R act heap place : List Int} (hR : RowOK n R) (H : Heapy n R act heap place) (hO : ∀ i, 0 ≤ i → okAt act heap i) :
    RowOK ((n + 1 : Nat) : Int) (R ++ [((n + 1 : Nat) : Int)]) ∧ Heapy ((n + 1 : Nat) : Int) (R ++ [((n + 1 : Nat) : Int)]) (act ++ [0]) (pushF (act ++ [0]) heap (place ++ [-1]) (((act ++ [0]).length : Int) - 1)).1 (pushF (act ++ [0]) heap (place ++ [-1]) (((act ++ [0]).length : Int) - 1)).2 ∧
    ∀ i, 0 ≤ i → okAt (act ++ [0]) (pushF (act ++ [0]) heap (place ++ [-1]) (((act ++ [0]).length : Int) - 1)).1 i := by
  have hal := H.al
  have hpl := H.pl
  have hla : (act ++ [0]).length = act.length + 1 := List.length_append
  have hlp : (place ++ [-1]).length = place.length + 1 := List.length_append
  have hrg : ∀ k, k < heap.length → 1 ≤ heap.getD k 0 ∧ heap.getD k 0 ≤ n := fun k hk => hR.rg _ (H.pm.subset (heap_mem hk))
  have hR2 : RowOK ((n + 1 : Nat) : Int) R := ⟨hR.nd, fun v hv => by have := hR.rg v hv; (first | lia | omega)⟩
  have hno : ((n + 1 : Nat) : Int) ∉ R := fun q => by have := hR.rg _ q; (first | lia | omega)
  have hq : ((act ++ [0]).length : Int) - 1 = ((n + 1 : Nat) : Int) := by (first | lia | omega)
  rw [hq]
  refine push_core hR2 ⟨by (first | lia | omega), by (first | lia | omega), H.pm, fun v h1 h2 => ?_, fun v h1 h2 => ?_⟩ (fun i hi c hc hl => ?_) (by (first | lia | omega)) (Int.le_refl _) hno
  · by_cases e : v ≤ n
    · rw [app_l (by (first | lia | omega))]; exact H.ge v h1 e
    · rw [show v.toNat = act.length by (first | lia | omega), app_r]; exact Int.le_refl _
  · by_cases e : v ≤ n
    · rw [app_l (by (first | lia | omega))]; exact H.tl v h1 e
    · rw [show v.toNat = place.length by (first | lia | omega), app_r, if_neg]
      exact fun q => hno (by rw [← show v = ((n + 1 : Nat) : Int) by (first | lia | omega)]; exact H.pm.subset q)
  · have h0 := bf.mp (hO i hi c hc hl)
    have := hrg c hl
    have := hrg i (by (first | lia | omega))
    rw [bf, app_l (by (first | lia | omega)), app_l (by (first | lia | omega))]
    exact h0
theorem growL_core : ∀ (j n : Nat) {R act heap place : List Int}, RowOK n R → Heapy n R act heap place → (∀ i, 0 ≤ i → okAt act heap i) →
    ∃ R', R' = R ++ rangeKs ((n : Int) + 1) j ∧ RowOK ((n + j : Nat) : Int) R' ∧ Heapy ((n + j : Nat) : Int) R' (growL j act heap place).1 (growL j act heap place).2.1 (growL j act heap place).2.2 ∧ (∀ i, 0 ≤ i → okAt (growL j act heap place).1 (growL j act heap place).2.1 i) ∧
      (growL j act heap place).1 = act ++ List.replicate j 0
  | 0, n, R, act, heap, place, hR, H, hO => ⟨R, by unfold rangeKs; simp, hR, H, hO, (List.append_nil _).symm⟩
  | j + 1, n, R, act, heap, place, hR, H, hO => by
    obtain ⟨a1, a2, a3⟩ := grow_core hR H hO
    obtain ⟨R', b1, b2, b3, b4, b5⟩ := growL_core j (n + 1) a1 a2 a3
    refine ⟨R', ?_, by rw [show n + (j + 1) = n + 1 + j by (first | lia | omega)]; exact b2, by rw [show n + (j + 1) = n + 1 + j by (first | lia | omega)]; exact b3, b4, ?_⟩
    · rw [b1, List.append_assoc]
      congr 1
      unfold rangeKs
      rw [List.range_succ_eq_map, List.map_cons, List.map_map, List.singleton_append]
      congr 1
      exact List.map_congr_left fun i _ => by simp only [Function.comp_apply]; (first | lia | omega)
    · show (growL j (act ++ [0]) _ _).1 = _
      rw [b5, List.append_assoc]
      rfl
theorem Good.perm {c : Core} {rows ins ins' : List Int} {limit : Int} (G : Good limit c rows ins) (h : ins.Perm ins') : Good limit c rows ins' :=
  ⟨⟨G.F.ac, G.F.n1, G.F.n8, ⟨h.nodup_iff.mp G.F.R.nd, fun v hv => G.F.R.rg v (h.symm.subset hv)⟩, ⟨G.F.H.al, G.F.H.pl, G.F.H.pm.trans h, G.F.H.ge, G.F.H.tl⟩, G.F.s1, G.F.a0⟩, G.O, G.s2, G.a1, G.l1, G.l2⟩
/-- a push -/
theorem Good.push {c : Core} {rows ins ins' : List Int} {limit v : Int} (G : Good limit c rows ins) (h1 : 1 ≤ v) (h2 : v ≤ rows.length) (hn : ins'.Nodup) (hm : ∀ u, u ∈ ins' ↔ u ∈ ins ∨ u = v) :
    Good limit { c with heap := (pushF c.act c.heap c.place v).1, place := (pushF c.act c.heap c.place v).2 } rows ins' := by
  have hpl := (G.F.place_lt h1 h2).2.1
  by_cases hv : v ∈ ins
  · have e : pushF c.act c.heap c.place v = (c.heap, c.place) := by unfold pushF; rw [if_pos (hpl.mpr hv)]
    rw [e]
    exact G.perm (perm_of_mem G.F.R.nd hn fun u => by
      rw [hm]
      exact ⟨.inl, fun q => q.elim id fun q => q ▸ hv⟩)
  · obtain ⟨a1, a2, a3⟩ := push_core G.F.R G.F.H G.O h1 h2 hv
    have G2 : Good limit { c with heap := (pushF c.act c.heap c.place v).1, place := (pushF c.act c.heap c.place v).2 } rows (ins ++ [v]) := ⟨⟨G.F.ac, G.F.n1, G.F.n8, a1, a2, G.F.s1, G.F.a0⟩, a3, G.s2, G.a1, G.l1, G.l2⟩
    exact G2.perm (perm_of_mem a1.nd hn fun u => by rw [hm, List.mem_append, List.mem_singleton])
/-- a growing -/
theorem Good.grow {c : Core} {rows ins : List Int} {limit k : Int} (G : Good limit c rows ins) (h : rows.length < 8) (hk : k = (rows.length : Int) + 1) :
    Good limit ⟨(growF c.act c.heap c.place k).1, c.step, (growF c.act c.heap c.place k).2.1, (growF c.act c.heap c.place k).2.2⟩ (rows ++ [0]) (ins ++ [(((rows ++ [0]).length : Nat) : Int)]) := by
  have hal := G.F.al
  obtain ⟨a1, a2, a3⟩ := grow_core G.F.R G.F.H G.O
  have e : growF c.act c.heap c.place k = (c.act ++ [0], (pushF (c.act ++ [0]) c.heap (c.place ++ [-1]) (((c.act ++ [0]).length : Int) - 1)).1, (pushF (c.act ++ [0]) c.heap (c.place ++ [-1]) (((c.act ++ [0]).length : Int) - 1)).2) := by
    unfold growF
    rw [show (k + 1 - (c.act.length : Int)).toNat = 0 + 1 by (first | lia | omega)]
    rfl
  rw [e]
  have hl : (rows ++ [0]).length = rows.length + 1 := List.length_append
  rw [← hl] at a1 a2
  have hm : ∀ a ∈ rows ++ [0], a ∈ rows ∨ a = 0 := fun a ha => (List.mem_append.mp ha).imp id List.mem_singleton.mp
  have hL := G.l1
  exact ⟨⟨by rw [G.F.ac]; rfl, by (first | lia | omega), by (first | lia | omega), a1, a2, G.F.s1, fun a ha => (hm a ha).elim (G.F.a0 a) fun q => by (first | lia | omega)⟩, a3, G.s2, fun a ha => (hm a ha).elim (G.a1 a) fun q => by (first | lia | omega), G.l1, G.l2⟩
/-- at the start -/
theorem good_start {limit m : Int} (h1 : 1 ≤ m) (h2 : m ≤ 8) (l1 : 1500 ≤ limit) (l2 : limit ≤ 1000000000000) :
    Good limit ⟨(growF [0] [] [-1] m).1, 1024, (growF [0] [] [-1] m).2.1, (growF [0] [] [-1] m).2.2⟩ (List.replicate m.toNat 0) (rangeKs 1 m.toNat) := by
  have e : growF [0] [] [-1] m = growL m.toNat [0] [] [-1] := by
    unfold growF
    congr 1
    show (m + 1 - 1).toNat = _
    (first | lia | omega)
  obtain ⟨R', b1, b2, b3, b4, b5⟩ := growL_core m.toNat 0 (R := []) (act := [0]) (heap := []) (place := [-1]) ⟨List.nodup_nil, fun v hv => nomatch hv⟩ ⟨rfl, rfl, List.Perm.refl _, fun v q1 q2 => absurd q2 (by (first | lia | omega)), fun v q1 q2 => absurd q2 (by (first | lia | omega))⟩ (fun i _ c _ hl => absurd hl (Nat.not_lt_zero _))
  rw [e]
  rw [List.nil_append] at b1
  have b1 : R' = rangeKs 1 m.toNat := b1
  subst b1
  have hl : (List.replicate m.toNat (0 : Int)).length = m.toNat := List.length_replicate
  rw [Nat.zero_add, ← hl] at b2 b3
  rw [hl] at b2 b3
  have hz : ∀ a ∈ List.replicate m.toNat (0 : Int), a = 0 := fun a ha => (List.mem_replicate.mp ha).2
  exact ⟨⟨b5, by (first | lia | omega), by (first | lia | omega), by rw [hl]; exact b2, by rw [hl]; exact b3, by show (1 : Int) ≤ 1024; decide, fun a ha => by rw [hz a ha]; exact Int.le_refl _⟩, b4, by dsimp only; (first | lia | omega), fun a ha => by rw [hz a ha]; (first | lia | omega), l1, l2⟩
end Mine
end
section
open PySem PySem.W PySem.Calls PyProof.Rows
namespace Mine
theorem pop_cases {P : Int × List Int × List Int → Prop} {act heap place : List Int} (h0 : heap = [] → P (0, heap, place)) (h1 : heap.length = 1 → P (heap.getD 0 0, heap.dropLast, place.set (heap.getD 0 0).toNat (-1)))
    (h2 : 1 < heap.length → P (heap.getD 0 0, sinkF act (heap.dropLast.set 0 (heap.getLastD 0)) ((place.set (heap.getD 0 0).toNat (-1)).set (heap.getLastD 0).toNat 0) 0)) : P (popF act heap place) := by
  unfold popF
  by_cases e0 : heap.length = 0
  · rw [if_pos e0]; exact h0 (List.length_eq_zero_iff.mp e0)
  · rw [if_neg e0]
    by_cases e1 : 0 < heap.dropLast.length
    · rw [if_pos e1]; rw [List.length_dropLast] at e1; exact h2 (by (first | lia | omega))
    · rw [if_neg e1]; rw [List.length_dropLast] at e1; exact h1 (by (first | lia | omega))
theorem last_at {h : List Int} (hl : 0 < h.length) : h.getLastD 0 = h.getD (h.length - 1) 0 := by
  rw [List.getLastD_eq_getLast?, List.getLast?_eq_getElem?, List.getD_eq_getElem?_getD]
theorem drop_at {h : List Int} {k : Nat} (hk : k < h.length - 1) : h.dropLast.getD k 0 = h.getD k 0 := by
  rw [List.getD_eq_getElem?_getD, List.getD_eq_getElem?_getD, List.getElem?_dropLast, if_pos hk]
theorem nodup_getD {l : List Int} (h : ∀ i j, i < l.length → j < l.length → i < j → l.getD i 0 ≠ l.getD j 0) : l.Nodup := by
  rw [List.Nodup, List.pairwise_iff_getElem]
  intro i j hi hj hij e
  have := h i j hi hj hij
  rw [List.getD_eq_getElem?_getD, List.getD_eq_getElem?_getD, List.getElem?_eq_getElem hi, List.getElem?_eq_getElem hj] at this
  exact this e
/-- a pop -/
theorem Good.pop {c : Core} {rows ins : List Int} {limit : Int} (G : Good limit c rows ins) :
    FirstIs rows ins (popF c.act c.heap c.place).1 ∧ Good limit { c with heap := (popF c.act c.heap c.place).2.1, place := (popF c.act c.heap c.place).2.2 } rows (ins.filter fun one => decide (one ≠ (popF c.act c.heap c.place).1)) := by
  obtain ⟨act, s, heap, place⟩ := c
  have hfhl := G.F.hl
  obtain ⟨⟨rfl, f1, f2, f3, f4, f5, f6⟩, g1, g2, g3, g4, g5⟩ := G
  have un := heap_un f3 f4.pm
  have T := f4.tells f3
  have hpl := f4.pl
  have hrg : ∀ k, k < heap.length → 1 ≤ heap.getD k 0 ∧ heap.getD k 0 ≤ rows.length := fun k hk => f3.rg _ (f4.pm.subset (heap_mem hk))
  dsimp only at *
  have hF : 0 < heap.length → FirstIs rows ins (heap.getD 0 0) := fun h0 => ⟨fun e => by
    have := f4.pm.length_eq
    rw [e, List.length_nil] at this
    (first | lia | omega), fun _ => f4.pm.subset (heap_mem h0), fun v hv hne => by
    obtain ⟨k, hk, rfl⟩ := mem_heap (f4.pm.symm.subset hv)
    exact b_total hne (root_least g1 (k + 1) k (Nat.lt_succ_self k) hk)⟩
  have hR2 : ∀ a, RowOK rows.length (ins.filter fun one => decide (one ≠ a)) := fun a => ⟨f3.nd.sublist List.filter_sublist, fun v hv => f3.rg v (List.mem_filter.mp hv).1⟩
  have mk : ∀ (h' p' : List Int), h'.Nodup → (∀ v, v ∈ h' ↔ v ∈ heap ∧ v ≠ heap.getD 0 0) → p'.length = place.length → Tells rows.length h' p' → Heapy rows.length (ins.filter fun one => decide (one ≠ heap.getD 0 0)) (0 :: rows) h' p' := fun h' p' q1 q2 q3 q4 =>
    ⟨f4.al, by rw [q3]; exact hpl, perm_of_mem q1 (hR2 _).nd fun v => by
      rw [q2, List.mem_filter, decide_eq_true_eq]
      exact ⟨fun q => ⟨f4.pm.subset q.1, q.2⟩, fun q => ⟨f4.pm.symm.subset q.1, q.2⟩⟩, f4.ge, q4.told q1⟩
  refine pop_cases (P := fun r => FirstIs rows ins r.1 ∧ Good limit ⟨0 :: rows, s, r.2.1, r.2.2⟩ rows (ins.filter fun one => decide (one ≠ r.1))) (fun e => ?_) (fun e => ?_) (fun e => ?_)
  · have hi : ins = [] := by have := f4.pm; rw [e] at this; exact this.symm.eq_nil
    subst hi
    exact ⟨first_nil, ⟨rfl, f1, f2, f3, f4, f5, f6⟩, g1, g2, g3, g4, g5⟩
  · refine ⟨hF (by (first | lia | omega)), ⟨rfl, f1, f2, hR2 _, ?_, f5, f6⟩, fun i _ c _ hl => ?_, g2, g3, g4, g5⟩
    · have hd : heap.dropLast = [] := List.length_eq_zero_iff.mp (by rw [List.length_dropLast]; (first | lia | omega))
      have r0 := hrg 0 (by (first | lia | omega))
      dsimp only
      rw [hd]
      refine mk _ _ List.nodup_nil (fun v => ⟨fun q => (nomatch q), fun q => ?_⟩) List.length_set ⟨fun k hk => absurd hk (Nat.not_lt_zero _), fun v h1 h2 _ => ?_⟩
      · obtain ⟨k, hk, rfl⟩ := mem_heap q.1
        exact absurd (show heap.getD k 0 = heap.getD 0 0 by rw [show k = 0 by (first | lia | omega)]) q.2
      · by_cases ev : v = heap.getD 0 0
        · subst ev
          exact gset_self (by (first | lia | omega))
        · rw [gset_ne (by (first | lia | omega))]
          refine T.2 v h1 h2 fun k hk q => ev ?_
          rw [← q, show k = 0 by (first | lia | omega)]
    · dsimp only at hl
      rw [List.length_dropLast] at hl
      (first | lia | omega)
  · have hl' : (heap.dropLast.set 0 (heap.getLastD 0)).length = heap.length - 1 := by rw [List.length_set, List.length_dropLast]
    have hla := last_at (show 0 < heap.length by (first | lia | omega))
    have g0 : (heap.dropLast.set 0 (heap.getLastD 0)).getD 0 0 = heap.getD (heap.length - 1) 0 := by rw [gset_self (by rw [List.length_dropLast]; (first | lia | omega)), hla]
    have gk : ∀ k, k < heap.length - 1 → k ≠ 0 → (heap.dropLast.set 0 (heap.getLastD 0)).getD k 0 = heap.getD k 0 := fun k hk hk0 => by rw [gset_ne hk0, drop_at hk]
    have r0 := hrg 0 (by (first | lia | omega))
    have rl := hrg (heap.length - 1) (by (first | lia | omega))
    have u0 := un 0 (heap.length - 1) (by (first | lia | omega)) (by (first | lia | omega)) (by (first | lia | omega))
    rw [hla] at hl' g0 gk ⊢
    generalize heap.dropLast.set 0 (heap.getD (heap.length - 1) 0) = h' at hl' g0 gk ⊢
    have hmem : ∀ v, v ∈ h' ↔ v ∈ heap ∧ v ≠ heap.getD 0 0 := fun v => by
      constructor
      · intro q
        obtain ⟨k, hk, rfl⟩ := mem_heap q
        by_cases e0 : k = 0
        · rw [e0, g0]; exact ⟨heap_mem (by (first | lia | omega)), u0.symm⟩
        · rw [gk k (by (first | lia | omega)) e0]; exact ⟨heap_mem (by (first | lia | omega)), un k 0 (by (first | lia | omega)) (by (first | lia | omega)) e0⟩
      · rintro ⟨q, hne⟩
        obtain ⟨k, hk, rfl⟩ := mem_heap q
        have e0 : k ≠ 0 := fun e => hne (by rw [e])
        by_cases el : k = heap.length - 1
        · rw [el, ← g0]; exact heap_mem (by (first | lia | omega))
        · rw [← gk k (by (first | lia | omega)) e0]; exact heap_mem (by (first | lia | omega))
    have hT : Tells rows.length h' ((place.set (heap.getD 0 0).toNat (-1)).set (heap.getD (heap.length - 1) 0).toNat 0) := ⟨fun k hk => by
      by_cases e0 : k = 0
      · rw [e0, g0, gset_self (by rw [List.length_set]; (first | lia | omega))]; rfl
      · have := hrg k (by (first | lia | omega))
        have := un k 0 (by (first | lia | omega)) (by (first | lia | omega)) e0
        have := un k (heap.length - 1) (by (first | lia | omega)) (by (first | lia | omega)) (by (first | lia | omega))
        rw [gk k (by (first | lia | omega)) e0, gset_ne (by (first | lia | omega)), gset_ne (by (first | lia | omega))]
        exact T.1 k (by (first | lia | omega)), fun v h1 h2 hno => by
      have hv : v ∉ h' := fun q => by obtain ⟨k, hk, e⟩ := mem_heap q; exact hno k hk e
      rw [hmem] at hv
      have hvl : v ≠ heap.getD (heap.length - 1) 0 := fun q => hv ⟨q ▸ heap_mem (by (first | lia | omega)), q ▸ u0.symm⟩
      rw [gset_ne (by (first | lia | omega))]
      by_cases ev : v = heap.getD 0 0
      · rw [← ev, gset_self (by (first | lia | omega))]
      · rw [gset_ne (by (first | lia | omega))]
        exact T.2 v h1 h2 fun k hk q => hv ⟨q ▸ heap_mem hk, ev⟩⟩
    have hnd : h'.Nodup := nodup_getD fun i j hi hj hij => by
      rw [gk j (by (first | lia | omega)) (by (first | lia | omega))]
      by_cases e0 : i = 0
      · rw [e0, g0]; exact un _ _ (by (first | lia | omega)) (by (first | lia | omega)) (by (first | lia | omega))
      · rw [gk i (by (first | lia | omega)) e0]; exact un _ _ (by (first | lia | omega)) (by (first | lia | omega)) (by (first | lia | omega))
    have hH := mk _ _ hnd hmem (by rw [List.length_set, List.length_set]) hT
    obtain ⟨r1, r2⟩ := sink_law2 (b := 0) (s := 0) (hR2 _) hH (by (first | lia | omega)) ⟨Nat.le_refl _, fun i _ hi c hc hcl => by
      rw [gk c (by (first | lia | omega)) (by (first | lia | omega)), gk i (by (first | lia | omega)) hi]
      exact g1 i (Nat.zero_le _) c hc (by (first | lia | omega)), fun p _ hp => absurd hp (by (first | lia | omega))⟩
    exact ⟨hF (by (first | lia | omega)), ⟨rfl, f1, f2, hR2 _, r1, f5, f6⟩, r2, g2, g3, g4, g5⟩
theorem first_un {rows ins : List Int} {a b : Int} (h1 : FirstIs rows ins a) (h2 : FirstIs rows ins b) : a = b := by
  by_cases e : ins = []
  · rw [h1.no e, h2.no e]
  · refine Decidable.byContradiction fun hne => ?_
    have q1 := h1.ah b (h2.me e) (fun q => hne q.symm)
    have q2 := h2.ah a (h1.me e) hne
    rw [nb_asymm q1] at q2
    cases q2
end Mine
end
section
open PySem PySem.W PySem.Calls PyProof.Rows
namespace Mine
theorem Good.bounds {c : Core} {rows ins : List Int} {limit : Int} (G : Good limit c rows ins) :
    0 ≤ c.step ∧ c.step ≤ 1000000000000 ∧ (∀ a ∈ c.act, a < 4611686018427387904) ∧ c.place.length = c.act.length ∧ Valid c.act.length c.heap ∧ c.heap.length ≤ 8 ∧ c.act.length = rows.length + 1 ∧ rows.length ≤ 8 ∧ 1 ≤ rows.length ∧ (∀ a ∈ rows, a < 4611686018427387904) ∧ ins.length ≤ 8 := by
  have h1 := G.F.s1
  have h2 := G.s2
  have h3 := G.l2
  have h4 := G.F.n8
  have h5 := G.F.hl
  have h6 := G.F.R.len
  have h7 : ∀ a ∈ rows, a < 4611686018427387904 := fun a ha => by have := G.a1 a ha; (first | lia | omega)
  refine ⟨by (first | lia | omega), by (first | lia | omega), fun a ha => ?_, G.F.pl, G.F.valid, by (first | lia | omega), G.F.al, h4, G.F.n1, h7, by (first | lia | omega)⟩
  rw [G.F.ac] at ha
  rcases List.mem_cons.mp ha with q | q
  · (first | lia | omega)
  · exact h7 a q
theorem rescale_step {c : Core} {rows : List Int} (h : c.act = 0 :: rows) : (rescaleC c).step = stepF c.step (0 :: rows) := by unfold rescaleC; rw [h]
end Mine
end
section
open PySem PySem.W PySem.Calls PyProof.Rows
namespace Mine
/-- what the walk of a bump asks and gets -/
structure Bumped (limit v : Int) (c : Core) (rows ins : List Int) : Prop where
  a1 : ∀ a ∈ bumpA c.act c.step v, a < 4611686018427387904
  a2 : ∀ a ∈ rows.set (v - 1).toNat (rows.getD (v - 1).toNat 0 + c.step), a < 4611686018427387904
  a3 : (rows.set (v - 1).toNat (rows.getD (v - 1).toNat 0 + c.step)).getD (v - 1).toNat 0 = rows.getD (v - 1).toNat 0 + c.step
  a4 : (rows.set (v - 1).toNat (rows.getD (v - 1).toNat 0 + c.step)).length = rows.length
  a5 : c.place.getD v.toNat 0 < c.heap.length
  up : limit < rows.getD (v - 1).toNat 0 + c.step → Good limit (bumpC limit v c) (scaleR c.step (rows.set (v - 1).toNat (rows.getD (v - 1).toNat 0 + c.step))) ins ∧ stepF c.step (0 :: rows.set (v - 1).toNat (rows.getD (v - 1).toNat 0 + c.step)) = (bumpC limit v c).step
  no : ¬ limit < rows.getD (v - 1).toNat 0 + c.step → Good limit (bumpC limit v c) (rows.set (v - 1).toNat (rows.getD (v - 1).toNat 0 + c.step)) ins ∧ c.step = (bumpC limit v c).step
theorem Good.bumped {c : Core} {rows ins : List Int} {limit v : Int} (G : Good limit c rows ins) (h1 : 1 ≤ v) (h2 : v ≤ rows.length) : Bumped limit v c rows ins := by
  obtain ⟨b1, b2, b3, b4, b5, b6, b7, b8, b9, b10, b11⟩ := G.bounds
  obtain ⟨e1, e2⟩ := G.bump h1 h2
  have hx : ∀ a ∈ rows, a ≤ 1000000000000 := fun a ha => Int.le_trans (G.a1 a ha) G.l2
  have hv : rows.getD (v - 1).toNat 0 ∈ rows := heap_mem (by (first | lia | omega))
  have a2 : ∀ a ∈ rows.set (v - 1).toNat (rows.getD (v - 1).toNat 0 + c.step), a < 4611686018427387904 := fun a ha => by
    rcases List.mem_or_eq_of_mem_set ha with q | q
    · exact b10 a q
    · have := hx _ hv; (first | lia | omega)
  refine ⟨fun a ha => ?_, a2, gset_self (by (first | lia | omega)), List.length_set, (G.F.place_lt h1 h2).1, fun q => ⟨(e1 q).1, (e1 q).2.symm⟩, fun q => ⟨(e2 q).1, (e2 q).2.symm⟩⟩
  rw [G.F.ac, bumpA_cons h1] at ha
  rcases List.mem_cons.mp ha with q | q
  · (first | lia | omega)
  · exact a2 a q
theorem Good.decayed {c : Core} {rows ins : List Int} {limit : Int} (G : Good limit c rows ins) :
    (limit < c.step + c.step.fdiv 19 + 1 → Good limit (decayC limit c) (scaleR (c.step + c.step.fdiv 19 + 1) rows) ins ∧ stepF (c.step + c.step.fdiv 19 + 1) (0 :: rows) = (decayC limit c).step) ∧
    (¬ limit < c.step + c.step.fdiv 19 + 1 → Good limit (decayC limit c) rows ins ∧ c.step + c.step.fdiv 19 + 1 = (decayC limit c).step) ∧ c.step.fdiv 19 = c.step / 19 := by
  obtain ⟨e1, e2⟩ := G.decay
  exact ⟨fun q => ⟨(e1 q).1, (e1 q).2.symm⟩, fun q => ⟨(e2 q).1, (e2 q).2.symm⟩, Int.fdiv_eq_ediv_of_nonneg _ (by decide)⟩
theorem Good.popd {c : Core} {rows ins : List Int} {limit r : Int} (G : Good limit c rows ins) (h : FirstIs rows ins r) :
    (popF c.act c.heap c.place).1 = r ∧ Good limit ⟨c.act, c.step, (popF c.act c.heap c.place).2.1, (popF c.act c.heap c.place).2.2⟩ rows (ins.filterMap fun one => if ¬ one = r then some one else none) := by
  obtain ⟨p1, p2⟩ := G.pop
  have e := first_un p1 h
  rw [e] at p2
  refine ⟨e, ?_⟩
  have hf : ∀ l : List Int, (l.filterMap fun one => if ¬ one = r then some one else none) = l.filter fun one => decide (one ≠ r) := fun l => by
    induction l with
    | nil => rfl
    | cons a t ih =>
      rw [List.filterMap_cons, List.filter_cons]
      by_cases h : a = r
      · subst h; simp only [not_true_eq_false, if_false, ne_eq, decide_false, Bool.false_eq_true]; exact ih
      · simp only [h, not_false_eq_true, if_true, ne_eq, decide_true, ih]
  rw [hf]
  exact p2
theorem Good.pushd {c : Core} {rows ins ks l : List Int} {limit v : Int} (G : Good limit c rows ins) (h1 : 1 ≤ v) (h2 : v ≤ rows.length) (hk : ∀ y, y ∈ ks ↔ y ∈ ins ++ [v]) (hn : ks.Nodup) (hp : l.Perm ks) :
    Good limit ⟨c.act, c.step, (pushF c.act c.heap c.place v).1, (pushF c.act c.heap c.place v).2⟩ rows l :=
  G.push h1 h2 (hp.nodup_iff.mpr hn) fun u => by rw [hp.mem_iff, hk, List.mem_append, List.mem_singleton]
end Mine
namespace Mine
/-- what is still to come out -/
noncomputable def Left (limit : Int) (act : List Int) (step : Int) (rows due ys heap place : List Int) : Prop := ∃ rest, ys ++ rest = due ∧ rest.Pairwise (fun a b => beforeB (0 :: rows) a b = true) ∧ Good limit ⟨act, step, heap, place⟩ rows rest
theorem Left.turn {limit step : Int} {act rows due ys heap place : List Int} (h : Left limit act step rows due ys heap place) (hi : ys.length < due.length) : Left limit act step rows due (ys ++ [(popF act heap place).1]) (popF act heap place).2.1 (popF act heap place).2.2 := by
  obtain ⟨rest, rfl, h2, G⟩ := h
  obtain ⟨p1, p2⟩ := G.pop
  cases rest with
  | nil => rw [List.append_nil] at hi; exact absurd hi (Nat.lt_irrefl _)
  | cons d t =>
    rw [List.pairwise_cons] at h2
    have e : (popF act heap place).1 = d := first_un p1 ⟨fun q => (nomatch q), fun _ => List.mem_cons_self, fun v hv hne => (List.mem_cons.mp hv).elim (fun q => absurd q hne) (h2.1 v)⟩
    have hn := G.F.R.nd
    rw [List.nodup_cons] at hn
    dsimp only at p2
    have hf : (t.filter fun one => decide (one ≠ d)) = t := List.filter_eq_self.mpr fun a ha => decide_eq_true fun q : a = d => hn.1 (q ▸ ha)
    rw [e, List.filter_cons_of_neg (by simp), hf] at p2
    rw [e]
    exact ⟨t, by rw [List.append_assoc]; rfl, h2.2, p2⟩
theorem Left.end' {limit step : Int} {act rows due ys heap place : List Int} (h : Left limit act step rows due ys heap place) (hi : ys.length = due.length) : ys = due ∧ (popF act heap place).1 = 0 := by
  obtain ⟨rest, rfl, -, G⟩ := h
  rw [List.length_append] at hi
  obtain rfl : rest = [] := List.length_eq_zero_iff.mp (by (first | lia | omega))
  exact ⟨(List.append_nil _).symm, G.pop.1.no rfl⟩
theorem Left.bounds {limit step : Int} {act rows due ys heap place : List Int} (h : Left limit act step rows due ys heap place) : place.length = act.length ∧ Valid act.length heap ∧ heap.length ≤ 8 ∧ act.length ≤ 9 ∧ 0 < act.length := by
  obtain ⟨rest, -, -, G⟩ := h
  obtain ⟨b1, b2, b3, b4, b5, b6, b7, b8, -⟩ := G.bounds
  exact ⟨b4, b5, b6, by dsimp only at b7; (first | lia | omega), by dsimp only at b7; (first | lia | omega)⟩
theorem Left.len {limit step : Int} {act rows due heap place : List Int} (h : Left limit act step rows due [] heap place) : due.length ≤ 8 := by
  obtain ⟨rest, rfl, -, G⟩ := h
  exact G.bounds.2.2.2.2.2.2.2.2.2.2
theorem due_left {limit : Int} {c : Core} {rows ins : List Int} {ps : List (Int × Int)} (G : Good limit c rows ins) (hp : ps.Perm (ins.map fun v => (0 - rows.getD (v - 1).toNat 0, v))) (hs : ps.Pairwise lexLt) : Left limit c.act c.step rows (ps.map fun k => k.2) [] c.heap c.place := by
  refine ⟨_, rfl, ?_, G.perm ?_⟩
  · rw [List.pairwise_map]
    refine hs.imp_of_mem fun {a b} ha hb hab => ?_
    obtain ⟨v, hv, rfl⟩ := List.mem_map.mp (hp.subset ha)
    obtain ⟨u, hu, rfl⟩ := List.mem_map.mp (hp.subset hb)
    rw [bt, cons_getD (G.F.R.rg v hv).1, cons_getD (G.F.R.rg u hu).1]
    rcases hab with q | ⟨q1, q2⟩
    · dsimp only at q; exact .inl (by (first | lia | omega))
    · dsimp only at q1 q2; exact .inr ⟨by (first | lia | omega), q2⟩
  · have := (hp.map fun k => k.2).symm
    rw [List.map_map] at this
    exact (List.Perm.of_eq (List.map_id ins).symm).trans this
end Mine
end
section
open PySem PySem.W PyProof.Rows
namespace Mine
noncomputable def view : Program := { PySem.Challenge.pw_qz0003_01 with main := { PySem.Challenge.pw_qz0003_01.main with body := (PySem.Challenge.pw_qz0003_01.main.body.eraseIdx 5).eraseIdx 1 } }
local macro_rules | `(tactic| o_law) => `(tactic| (refine holds_law ?said fun said => ?_; (case said => decide +kernel)))
local macro_rules | `(tactic| o_head $H) => `(tactic| (
  refine holds_open (q := view) (loose := []) (Xt := fun s => xlAt view [] s && recOk (RowW.records (OpenRow.toRowW (OpenLaw.row PySem.Challenge.rw_qz0003_01))) s) (XP := XL view []) (Yf := Hook.obs $H) (Ya := Hook.val $H) (YP := Hook.says $H) (N := 2052) ?hl (Hook.of $H) (Hook.keeps $H) (fun s e => xl_of s (Bool.and_eq_true_iff.mp e).1) XL.keeps (by rfl) (by rfl) (by rfl) (fun s e => recFacts_of (Bool.and_eq_true_iff.mp e).2) (by rfl) (by first | assumption | decide +kernel) (by decide +kernel) ⟨rfl, rfl, rfl, rfl, rfl, by decide +kernel⟩ ?hw ?hc;
  (case hl => (intro w; kernel_rfl))))
set_option maxRecDepth 100000 in
set_option maxHeartbeats 8000000 in
open_top hd for PySem.Challenge.rw_qz0003_01
end Mine
end
section
open PySem PySem.W PySem.Spec PySem.Calls PyProof.Rows PyProof.Rows.LCg
namespace Mine
example : (fun (_ : OpenLaw) (_ : Params → Frag) => True) PySem.Challenge.rw_qz0003_01 hd.heap_1 := by
  k_fill
  trivial
noncomputable abbrev PX (sa : Addr) (sl : List Int) : Pg := ⟨PySem.Challenge.rw_qz0003_01.row.prog, view, looseW view [], hd.heap_1, sa, sl⟩
noncomputable abbrev coreK (lim stp : AV) (la lh lp : Addr) : List (Str × AV) := [(Str.ofString "limit", lim), (Str.ofString "step", stp), (Str.ofString "activity", .ref la), (Str.ofString "heap", .ref lh), (Str.ofString "place", .ref lp)]
noncomputable abbrev coreO (x d la lh lp : Addr) (lim stp : AV) (act heap place : List Int) : Objs := [(x, .inst 142 d), (d, .idict (coreK lim stp la lh lp)), (la, .ints act), (lh, .ints heap), (lp, .ints place)]
example : True := by
  k_with "kis" => ((dsimp only [PX]; k_is))
  trivial
example : True := by
  k_with "mem" => (first | with_reducible exact List.mem_cons_self | with_reducible assumption | (with_reducible refine List.mem_cons_of_mem _ ?_; k_extra "mem"))
  trivial
example : True := by
  k_with "up" => (first | with_reducible exact Up.head | with_reducible assumption | ((with_reducible apply Up.tail); k_extra "up"))
  trivial
example : True := by
  k_with "setv" => (first | with_reducible exact SetV.here | with_reducible exact SetV.new | ((with_reducible apply SetV.there); (focus (dsimp only; decide)); k_extra "setv"))
  trivial
example : True := by
  k_with "ar" => (first | with_reducible assumption | (first | lia | omega) | ((simp only [List.length_set, List.length_append, List.length_cons, List.length_nil, List.length_dropLast, List.length_map, List.length_drop, List.length_take]); first | done | (first | lia | omega)) | decide)
  trivial
example : True := by
  k_with "callee" => (first | exact rfl | (dsimp only [PX, Callee]; k_is))
  trivial
example : True := by
  k_with "getm" => (first
  | exact GetM_inst (by k_extra "mem") (by k_extra "mem") (by k_extra "kis") (by k_extra "kis") (by k_extra "kis") rfl
  | exact GetM_list (by k_extra "mem") PySem.F.slot_list_append PySem.F.type_list_append
  | exact GetM_list (by k_extra "mem") PySem.F.slot_list_pop PySem.F.type_list_pop
  | exact GetM_list (by k_extra "mem") PySem.F.slot_list_index PySem.F.type_list_index
  | exact GetM_list (by k_extra "mem") PySem.F.slot_list_extend PySem.F.type_list_extend)
  trivial
example : True := by
  k_with "iargs" => (first | exact IArgs_nil | ((apply IArgs_cons); k_extra "iargs"))
  trivial
example : True := by
  k_with "def" => ((
  (case ho => k_extra "kis"); (case hcd => k_extra "kis");
  (case hb => exact fun s vs _ hv => ⟨vs, hv, by first
    | (cases hv with | cons a1 r => cases r; exact BindsTo.of_eq rfl)
    | (cases hv with | cons a1 r => cases r with | cons a2 r => cases r; exact BindsTo.of_eq rfl)
    | (cases hv with | cons a1 r => cases r with | cons a2 r => cases r with | cons a3 r => cases r; exact BindsTo.of_eq rfl)
    | (cases hv with | cons a1 r => cases r with | cons a2 r => cases r with | cons a3 r => cases r with | cons a4 r => cases r; exact BindsTo.of_eq rfl)⟩);
  (case hl => rfl); (case hnn => decide); (case hkind => rfl); (case hnd => decide +kernel); (case hfree => rfl); (case hco => rfl); (case hgen => rfl); (case hk => rfl);
  dsimp only [List.zip_cons_cons, List.zip_nil_left, List.zip_nil_right]))
  trivial
example : True := by
  k_with "cond" => ((refine ⟨fun hc => ?_, fun hc => ?_⟩ <;> (try simp only [decide_eq_true_eq, decide_eq_false_iff_not, bne_iff_ne, ne_eq, beq_iff_eq, bne_eq_false_iff_eq, beq_eq_false_iff_ne, Bool.not_eq_true', Bool.not_eq_false', Bool.not_eq_true, Bool.not_eq_false, Int.not_lt, Int.not_le, Decidable.not_not, Bool.true_eq_false, Bool.false_eq_true] at hc)))
  trivial
example : True := by
  k_with "put" => (first | with_reducible exact putA_nil | with_reducible exact putA_head | ((with_reducible apply putA_tail); (focus first | decide | (dsimp only; decide)); k_extra "put"))
  trivial
example : True := by
  k_with "nd" => (((simp only [List.map_cons, List.map_nil]); decide))
  trivial
example : True := by
  k_with "sz" => (((simp only [List.length_cons, List.length_nil]); first | done | decide))
  trivial
example : True := by
  k_with "subl" => (first | with_reducible exact List.Sublist.refl _ | ((with_reducible apply List.Sublist.cons_cons); k_extra "subl") | ((with_reducible apply List.Sublist.cons); k_extra "subl"))
  trivial
example : True := by
  k_with "atp" => (first | with_reducible exact AtP.here | ((with_reducible apply AtP.there); k_extra "atp"))
  trivial
example : True := by
  k_with "atps" => (first | with_reducible exact F2.nil | ((with_reducible apply F2.cons); (focus k_extra "atp"); (focus k_extra "atps")))
  trivial
example : True := by
  k_with "sub" => (first | ((with_reducible show Pick _ _); first | ((with_reducible refine Pick.of_sub ?_); k_extra "subl") | ((with_reducible apply Pick.of_ix); (focus k_extra "atps"); (focus decide))) | k_extra "subl")
  trivial
example : True := by
  k_with "fv" => (first | with_reducible exact fv_nil | ((refine fv_cons ?pm ?pn ?_); (case pm => k_extra "mem"); (case pn => exact rfl); k_extra "fv"))
  trivial
example : True := by
  k_with "scope" => (((refine ⟨?pt, rfl, rfl, rfl, rfl, ?_⟩); (case pt => first | exact rfl | exact ⟨rfl, rfl⟩); k_extra "fv"))
  trivial
example : True := by
  k_with "ix" => (first | with_reducible exact AtI.here | ((with_reducible apply AtI.there); k_extra "ix"))
  trivial
example : True := by
  k_with "nod" => (((refine' nod5 ?nx0 ?nx1 ?nx2 ?nx3 ?nx4 ?nxd); (case nx0 => k_extra "ix"); (case nx1 => k_extra "ix"); (case nx2 => k_extra "ix"); (case nx3 => k_extra "ix"); (case nx4 => k_extra "ix"); (case nxd => decide)))
  trivial
example : True := by
  k_with "ne" => (((refine' ne_ix ?nx0 ?nx1 ?nxd); (case nx0 => k_extra "ix"); (case nx1 => k_extra "ix"); (case nxd => first | rfl | decide)))
  trivial
example : True := by
  k_with "inn" => (first | with_reducible assumption | exact inn_of (by assumption))
  trivial
example : True := by
  k_with "sw" => ((intro env e; obtain ⟨⟩ := env; dsimp only at e; subst e; first | exact rfl | with_unfolding_all rfl))
  trivial
example : True := by
  k_with "two" => (first
  | ((with_reducible refine' S_two_swapped ?_ ?zqa ?zqb ?zqc ?zqd); (case zqa => exact rfl); (case zqb => exact rfl); (case zqc => exact fun _ _ => rfl); (case zqd => k_extra "sw"))
  | ((with_reducible refine' S_two ?_ ?zqa ?zqb ?zqc ?zqd); (case zqa => first | exact Or.inl rfl | exact Or.inr rfl); (case zqb => first | exact Or.inl rfl | exact Or.inr rfl); (case zqc => exact fun _ _ => rfl); (case zqd => k_extra "sw")))
  trivial
example : True := by
  k_with "ev" => (first
  | ((with_reducible apply EV_var); (focus k_extra "mem"); (focus decide); (focus decide))
  | with_reducible exact EV_int
  | with_reducible exact EV_str
  | with_reducible exact EV_bool
  | with_reducible exact EV_usub
  | ((with_reducible apply EV_add); (focus k_extra "ev"); (focus k_extra "ev"))
  | ((with_reducible apply EV_sub); (focus k_extra "ev"); (focus k_extra "ev"))
  | ((with_reducible apply EV_mul); (focus k_extra "ev"); (focus k_extra "ev"); (focus k_extra "ar"); (focus k_extra "ar"))
  | ((with_reducible apply EV_mod); (focus k_extra "ev"); (focus k_extra "ev"); (focus k_extra "ar"))
  | ((with_reducible apply EV_div); (focus k_extra "ev"); (focus k_extra "ev"); (focus k_extra "ar"); (focus k_extra "ar"))
  | ((with_reducible apply EV_lt); (focus k_extra "ev"); (focus k_extra "ev"); (focus with_unfolding_all rfl))
  | ((with_reducible apply EV_gt); (focus k_extra "ev"); (focus k_extra "ev"); (focus with_unfolding_all rfl))
  | ((with_reducible apply EV_ge); (focus k_extra "ev"); (focus k_extra "ev"); (focus with_unfolding_all rfl))
  | ((with_reducible apply EV_attr); (focus k_extra "ev"); (focus k_extra "mem"); (focus k_extra "mem"); (focus k_extra "kis"); (focus k_extra "kis"); (focus k_extra "kis"); (focus k_extra "kis"); (focus exact rfl); (focus exact rfl); (focus exact (fun _ => rfl)))
  | ((with_reducible apply EV_pair1); (focus k_extra "ev"); (focus k_extra "ev"); (focus k_extra "mem"); (focus k_extra "ar"); (focus k_extra "ar"); (focus k_extra "ar"); (focus exact rfl))
  | ((with_reducible apply EV_item); (focus k_extra "ev"); (focus k_extra "ev"); (focus k_extra "mem"); (focus k_extra "ar"); (focus k_extra "ar"); (focus k_extra "ar"); (focus exact rfl))
  | ((with_reducible apply EV_last); (focus k_extra "ev"); (focus k_extra "ev"); (focus k_extra "mem"); (focus k_extra "ar"); (focus k_extra "ar"); (focus exact rfl); (focus exact (fun _ _ => rfl)))
  | ((with_reducible apply EV_key); (focus k_extra "ev"); (focus k_extra "ev"); (focus k_extra "mem"); (focus exact rfl); (focus exact rfl))
  | ((with_reducible apply EV_place); (focus k_extra "ev"); (focus k_extra "ev"); (focus k_extra "mem"); (focus k_extra "ar"); (focus k_extra "ar"); (focus exact rfl); (focus exact rfl))
  | ((with_reducible apply EV_call); (focus k_extra "ev"); (focus k_extra "callee"); (focus k_extra "evs"); (focus k_extra "cv"); (focus exact rfl))
  | ((with_reducible apply EV_mcall); (focus k_extra "ev"); (focus k_extra "getm"); (focus k_extra "callee"); (focus k_extra "evs"); (focus k_extra "cv"); (focus exact (fun _ => rfl)); (focus exact rfl))
  | ((with_reducible apply EV_globI); (focus k_extra "kis"); (focus exact rfl); (focus decide))
  | ((with_reducible apply EV_globR); (focus k_extra "kis"); (focus exact rfl); (focus decide))
  | ((with_reducible apply EV_bi); (focus k_extra "kis"); (focus boot_fast); (focus exact rfl); (focus decide); (focus decide)))
  trivial
example : True := by
  k_with "evs" => (first
  | with_reducible exact EVs_nil
  | ((with_reducible apply EVs_cons); (focus k_extra "ev"); (focus k_extra "evs")))
  trivial
example : True := by
  k_with "cv" => (first
  | ((with_reducible apply CV_len); (focus k_extra "mem"); (focus k_extra "ar"))
  | with_reducible exact CV_int
  | ((with_reducible apply CV_index); (focus k_extra "mem"); (focus k_extra "inn"); (focus k_extra "ar"))
  | ((with_reducible apply CV_sum); (focus k_extra "mem")))
  trivial
example : True := by
  k_with "tv" => (first
  | ((with_reducible apply TV_lt); (focus k_extra "ev"); (focus k_extra "ev"); (focus with_unfolding_all rfl))
  | ((with_reducible apply TV_gt); (focus k_extra "ev"); (focus k_extra "ev"); (focus with_unfolding_all rfl))
  | ((with_reducible apply TV_le); (focus k_extra "ev"); (focus k_extra "ev"); (focus with_unfolding_all rfl))
  | ((with_reducible apply TV_ge); (focus k_extra "ev"); (focus k_extra "ev"); (focus with_unfolding_all rfl))
  | ((with_reducible apply TV_eq); (focus k_extra "ev"); (focus k_extra "ev"); (focus with_unfolding_all rfl))
  | ((with_reducible apply TV_ne); (focus k_extra "ev"); (focus k_extra "ev"); (focus with_unfolding_all rfl))
  | ((with_reducible apply TV_in); (focus k_extra "ev"); (focus k_extra "ev"); (focus k_extra "mem"); (focus with_unfolding_all rfl))
  | ((with_reducible apply TV_notin); (focus k_extra "ev"); (focus k_extra "ev"); (focus k_extra "mem"); (focus with_unfolding_all rfl))
  | ((with_reducible apply TV_eqL); (focus k_extra "ev"); (focus k_extra "ev"); (focus k_extra "mem"); (focus k_extra "mem"); (focus with_unfolding_all rfl))
  | ((with_reducible apply TV_neL); (focus k_extra "ev"); (focus k_extra "ev"); (focus k_extra "mem"); (focus k_extra "mem"); (focus with_unfolding_all rfl))
  | ((with_reducible apply TV_not); (focus k_extra "tv"))
  | ((with_reducible apply TV_boolLe); (focus k_extra "ev"); (focus exact (fun _ => rfl)))
  | ((with_reducible apply TV_bool); (focus k_extra "ev"); (focus exact (fun _ => rfl))))
  trivial
example : True := by
  k_with "w" => (first
  | ((with_reducible show WX _ _ _ _ (eval _) _ _ _ _); first
    | ((with_reducible refine' EV.use ?zq0 ?_); (case zq0 => k_extra "ev"))
    | ((with_reducible refine' WE_mcallD ?zq0 ?zq1 ?zq2 ?zq3 ?zq4 ?zq5 ?_); (case zq0 => k_extra "ev"); (case zq1 => k_extra "getm"); (case zq2 => k_extra "callee"); (case zq3 => k_extra "evs"); (case zq4 => exact (fun _ => rfl)); (case zq5 => exact rfl))
    | ((with_reducible refine' WE_callD ?zq0 ?zq1 ?zq2 ?zq3 ?_); (case zq0 => k_extra "ev"); (case zq1 => k_extra "callee"); (case zq2 => k_extra "evs"); (case zq3 => exact rfl))
    | ((with_reducible refine' WE_listD ?zq0 ?zq1 ?zq2 ?zq3 (fun _ => ?_)); (case zq0 => k_extra "evs"); (case zq1 => k_extra "iargs"); (case zq2 => k_extra "ar"); (case zq3 => exact rfl))
    | ((with_reducible refine' WE_tupleD ?zq0 ?zq1 ?zq2 (fun _ => ?_)); (case zq0 => k_extra "evs"); (case zq1 => k_extra "ar"); (case zq2 => exact rfl))
    | ((with_reducible refine' WE_fromD ?zq0 ?zq1 ?zq2 ?zq3 ?zq4 (fun _ => ?_)); (case zq0 => k_extra "ev"); (case zq1 => k_extra "ev"); (case zq2 => k_extra "mem"); (case zq3 => k_extra "ar"); (case zq4 => k_extra "ar"))
    | ((with_reducible refine' WE_upto1D ?zq0 ?zq1 ?zq2 ?zq3 ?zq4 (fun _ => ?_)); (case zq0 => k_extra "ev"); (case zq1 => k_extra "ev"); (case zq2 => k_extra "mem"); (case zq3 => k_extra "ar"); (case zq4 => k_extra "ar"))
    | ((with_reducible refine' WE_addLD ?zq0 ?zq1 ?zq2 ?zq3 ?zq4 (fun _ => ?_)); (case zq0 => k_extra "ev"); (case zq1 => k_extra "ev"); (case zq2 => k_extra "mem"); (case zq3 => k_extra "mem"); (case zq4 => k_extra "ar"))
    | ((with_reducible refine' WE_ifexpD ?zq0 (fun hc => ?_) (fun hc => ?_)); (case zq0 => k_extra "tv"))
    | ((with_reducible refine' WE_var ?zq0 ?_ ?zq2 ?zq3); (case zq0 => k_extra "mem"); (case zq2 => decide); (case zq3 => decide))
    | with_reducible refine WE_int ?_
    | with_reducible refine WE_str ?_
    | with_reducible refine WE_bool ?_
    | with_reducible refine WE_bin ?_
    | ((with_reducible refine' WE_cmp ?_ ?zq1); (case zq1 => with_unfolding_all rfl))
    | with_reducible refine WE_ifexp ?_
    | with_reducible refine WE_usub ?_
    | ((with_reducible refine' WE_attr ?_ ?zq1); (case zq1 => exact (fun _ => rfl)))
    | with_reducible refine WE_slice_from ?_
    | with_reducible refine WE_slice_upto1 ?_
    | with_reducible refine WE_sub ?_
    | ((with_reducible refine' WE_mcall ?_ ?zq1 ?zq2); (case zq1 => exact (fun _ => rfl)); (case zq2 => exact rfl))
    | ((with_reducible refine' WE_call ?_ ?zq1); (case zq1 => exact rfl))
    | ((with_reducible refine' WE_list ?_ ?zq1); (case zq1 => exact rfl))
    | ((with_reducible refine' WE_tuple ?_ ?zq1); (case zq1 => exact rfl))
    | with_reducible refine WE_and ?_
    | with_reducible refine WE_bool1 ?_
    | ((with_reducible refine' WE_dict ?_ ?zq1 ?zq2 ?zq3 ?zq4); (case zq1 => exact rfl); (case zq2 => exact rfl); (case zq3 => exact List.cons_ne_nil _ _); (case zq4 => k_extra "sz"))
    | ((with_reducible refine' WE_globI ?zq0 ?zq1 ?_ ?zq3); (case zq0 => k_extra "kis"); (case zq1 => exact rfl); (case zq3 => decide))
    | ((with_reducible refine' WE_globR ?zq0 ?zq1 ?_ ?zq3); (case zq0 => k_extra "kis"); (case zq1 => exact rfl); (case zq3 => decide))
    | ((with_reducible refine' WE_bi ?zq0 ?zq1 ?zq2 ?_ ?zq4 ?zq5); (case zq0 => k_extra "kis"); (case zq1 => boot_fast); (case zq2 => exact rfl); (case zq4 => decide); (case zq5 => decide)))
  | ((with_reducible show SS _ _ _ _ _ _ _ _); first
    | with_reducible refine S_cons ?_
    | with_reducible refine S_nil ?_)
  | ((with_reducible show S1 _ _ _ _ _ _ _ _); first
    | ((with_reducible refine' S_assignD ?zq0 ?zq1 ?zq2 ?zq3 ?_); (case zq0 => k_extra "ev"); (case zq1 => k_extra "setv"); (case zq2 => first | exact Or.inl rfl | exact Or.inr rfl); (case zq3 => exact (fun _ _ => rfl)))
    | ((with_reducible refine' S_itemD ?zq0 ?zq1 ?zq2 ?zq3 ?zq4 ?zq5 ?zq6 ?zq7 ?_); (case zq0 => k_extra "ev"); (case zq1 => k_extra "ev"); (case zq2 => k_extra "ev"); (case zq3 => k_extra "up"); (case zq4 => k_extra "ar"); (case zq5 => k_extra "ar"); (case zq6 => k_extra "ar"); (case zq7 => exact (fun _ => rfl)))
    | ((with_reducible refine' S_keyD ?zq0 ?zq1 ?zq2 ?zq3 ?zq4 ?zq5 ?zq6 ?zq7 ?_); (case zq0 => k_extra "ev"); (case zq1 => k_extra "ev"); (case zq2 => k_extra "ev"); (case zq4 => k_extra "up"); (case zq3 => k_extra "put"); (case zq5 => k_extra "nd"); (case zq6 => k_extra "sz"); (case zq7 => exact (fun _ => rfl)))
    | ((with_reducible refine' S_attrD ?zq0 ?zq1 ?zq2 ?zq3 ?zq4 ?zq5 ?zq6 ?zq7 ?zq8 ?zq9 ?zq10 ?_); (case zq0 => k_extra "ev"); (case zq1 => k_extra "ev"); (case zq2 => k_extra "mem"); (case zq3 => k_extra "kis"); (case zq4 => k_extra "kis"); (case zq5 => k_extra "kis"); (case zq6 => k_extra "kis"); (case zq9 => k_extra "up"); (case zq8 => k_extra "put"); (case zq7 => k_extra "sz"); (case zq10 => exact (fun _ => rfl)))
    | ((with_reducible refine' S_returnD ?zq0 ?_); (case zq0 => k_extra "ev"))
    | ((with_reducible refine' S_ifD ?zq0 (fun hc => ?_) (fun hc => ?_)); (case zq0 => k_extra "tv"))
    | ((with_reducible refine' S_assign ?_ ?zq1 ?zq2); (case zq1 => first | exact Or.inl rfl | exact Or.inr rfl); (case zq2 => exact (fun _ _ => rfl)))
    | ((with_reducible refine' S_setattr ?_ ?zq1); (case zq1 => exact (fun _ => rfl)))
    | ((with_reducible refine' S_setitem ?_ ?zq1); (case zq1 => exact (fun _ => rfl)))
    | ((with_reducible refine' S_expr ?_ ?zq1); (case zq1 => exact (fun _ => rfl)))
    | with_reducible refine S_return ?_
    | with_reducible refine S_return0 ?_
    | with_reducible refine S_break ?_
    | with_reducible refine S_if ?_
    | k_extra "two")
  | ((with_reducible show WT _ _ _ _ _ _ _ _); first
    | ((with_reducible refine' TV.use ?zq0 (fun hc => ?_) (fun hc => ?_)); (case zq0 => k_extra "tv"))
    | ((with_reducible refine' TV.use' ?zq0 (fun hc => ?_) (fun hc => ?_)); (case zq0 => k_extra "tv"))
    | ((with_reducible refine' WT_cmp ?_ ?zq1); (case zq1 => with_unfolding_all rfl))
    | with_reducible refine WT_not ?_
    | with_reducible refine WT_and ?_
    | with_reducible refine WT_and1 ?_
    | with_reducible refine WT_or ?_
    | with_reducible refine WT_or1 ?_
    | ((with_reducible refine' WT_bool ?_ ?zq1); (case zq1 => exact (fun _ => rfl))))
  | ((with_reducible show Sub _ _ _ _ _ _ _ _ _); first
    | ((with_reducible refine' Sub_ints ?zq0 ?zq1 ?zq2 ?zq3 ?zq4 ?_); (case zq0 => k_extra "mem"); (case zq1 => k_extra "ar"); (case zq2 => k_extra "ar"); (case zq3 => k_extra "ar"); (case zq4 => exact rfl))
    | ((with_reducible refine' Sub_last ?zq0 ?zq1 ?zq2 ?zq3 ?zq4 ?_); (case zq0 => k_extra "mem"); (case zq1 => k_extra "ar"); (case zq2 => k_extra "ar"); (case zq3 => exact rfl); (case zq4 => exact (fun _ _ => rfl)))
    | ((with_reducible refine' Sub_dict ?zq0 ?zq1 ?zq2 ?_); (case zq0 => k_extra "mem"); (case zq1 => exact rfl); (case zq2 => exact rfl))
    | ((with_reducible refine' Sub_tup ?zq0 ?zq1 ?zq2 ?zq3 ?zq4 ?_); (case zq0 => k_extra "mem"); (case zq1 => k_extra "ar"); (case zq2 => k_extra "ar"); (case zq3 => exact rfl); (case zq4 => exact rfl)))
  | ((with_reducible show CallS _ _ _ _ _ _ _); first
    | k_extra "call"
    | ((with_reducible refine' Call_len ?zq0 ?zq1 ?_); (case zq0 => k_extra "mem"); (case zq1 => k_extra "ar"))
    | ((with_reducible refine' Call_append ?zq0 ?zq1 ?_); (case zq0 => k_extra "up"); (case zq1 => k_extra "ar"))
    | ((with_reducible refine' Call_pop ?zq0 ?zq1 ?zq2 ?_); (case zq0 => k_extra "up"); (case zq1 => k_extra "ar"); (case zq2 => k_extra "ar"))
    | ((with_reducible refine' Call_extendN ?zq0 ?zq1 ?zq2 ?zq3 ?_); (case zq0 => k_extra "up"); (case zq1 => k_extra "mem"); (case zq2 => k_extra "ne"); (case zq3 => k_extra "ar"))
    | ((with_reducible refine' Call_popAt ?zq0 ?zq1 ?zq2 ?zq3 ?_); (case zq0 => k_extra "up"); (case zq1 => k_extra "ar"); (case zq2 => k_extra "ar"); (case zq3 => k_extra "ar"))
    | ((with_reducible refine' Call_index ?zq0 ?zq1 ?zq2 ?_); (case zq0 => k_extra "mem"); (case zq1 => k_extra "inn"); (case zq2 => k_extra "ar"))
    | with_reducible refine Call_int ?_
    | ((with_reducible refine' Call_sorted ?zq0 ?zq1 (fun _ _ _ _ => ?_)); (case zq0 => k_extra "mem"); (case zq1 => k_extra "ar"))
    | ((with_reducible refine' Call_list ?zq0 ?zq1 (fun _ => ?_)); (case zq0 => k_extra "mem"); (case zq1 => k_extra "ar"))
    | ((with_reducible refine' Call_list_rng ?zq0 ?zq1 ?zq2 ?zq3 (fun _ => ?_)); (case zq0 => k_extra "mem"); (case zq1 => k_extra "ar"); (case zq2 => k_extra "ar"); (case zq3 => k_extra "ar"))
    | with_reducible refine Call_range1 (fun _ => ?_)
    | with_reducible refine Call_range2 (fun _ => ?_)
    | with_reducible refine Call_max2 ?_
    | ((with_reducible refine' Call_sum ?zq0 ?_); (case zq0 => k_extra "mem")))
  | ((with_reducible show Cmp _ _ _ _ _ _ _ _); first
    | with_reducible refine Cmp_eq ?_
    | with_reducible refine Cmp_ne ?_
    | with_reducible refine Cmp_lt ?_
    | with_reducible refine Cmp_le ?_
    | with_reducible refine Cmp_gt ?_
    | with_reducible refine Cmp_ge ?_
    | ((with_reducible refine' Cmp_in ?zq0 ?_); (case zq0 => k_extra "mem"))
    | ((with_reducible refine' Cmp_notin ?zq0 ?_); (case zq0 => k_extra "mem"))
    | ((with_reducible refine' Cmp_neL ?zq0 ?zq1 ?_); (case zq0 => k_extra "mem"); (case zq1 => k_extra "mem"))
    | ((with_reducible refine' Cmp_neP ?zq0 ?zq1 ?_); (case zq0 => k_extra "mem"); (case zq1 => k_extra "mem"))
    | ((with_reducible refine' Cmp_gtT ?zq0 ?zq1 ?_); (case zq0 => k_extra "mem"); (case zq1 => k_extra "mem"))
    | ((with_reducible refine' Cmp_eqL ?zq0 ?zq1 ?_); (case zq0 => k_extra "mem"); (case zq1 => k_extra "mem")))
  | ((with_reducible show Bin _ _ _ _ _ _ _ _); first
    | with_reducible refine Bin_add ?_
    | with_reducible refine Bin_sub ?_
    | ((with_reducible refine' Bin_mulS ?zq0 ?zq1 ?_); (case zq0 => k_extra "ar"); (case zq1 => k_extra "ar"))
    | ((with_reducible refine' Bin_mod ?zq0 ?_); (case zq0 => k_extra "ar"))
    | ((with_reducible refine' Bin_divS ?zq0 ?zq1 ?_); (case zq0 => k_extra "ar"); (case zq1 => k_extra "ar"))
    | ((with_reducible refine' Bin_addL ?zq0 ?zq1 ?zq2 (fun _ => ?_)); (case zq0 => k_extra "mem"); (case zq1 => k_extra "mem"); (case zq2 => k_extra "ar")))
  | ((with_reducible show GetA _ _ _ _ _ _ _); first
    | ((with_reducible refine' GetA_inst ?zq0 ?zq1 ?zq2 ?zq3 ?zq4 ?zq5 ?zq6 ?zq7 ?_); (case zq0 => k_extra "mem"); (case zq1 => k_extra "mem"); (case zq2 => k_extra "kis"); (case zq3 => k_extra "kis"); (case zq4 => k_extra "kis"); (case zq5 => k_extra "kis"); (case zq6 => exact rfl); (case zq7 => exact rfl)))
  | ((with_reducible show SetI _ _ _ _ _ _ _ _); first
    | ((with_reducible refine' SetI_ints ?zq0 ?zq1 ?zq2 ?zq3 ?_); (case zq0 => k_extra "up"); (case zq1 => k_extra "ar"); (case zq2 => k_extra "ar"); (case zq3 => k_extra "ar"))
    | ((with_reducible refine' SetI_dict ?zq0 ?zq1 ?zq2 ?zq3 ?_); (case zq1 => k_extra "up"); (case zq0 => k_extra "put"); (case zq2 => k_extra "nd"); (case zq3 => k_extra "sz")))
  | ((with_reducible show SetA _ _ _ _ _ _ _ _); first
    | ((with_reducible refine' SetA_inst ?zq0 ?zq1 ?zq2 ?zq3 ?zq4 ?zq5 ?zq6 ?zq7 ?_); (case zq0 => k_extra "mem"); (case zq1 => k_extra "kis"); (case zq2 => k_extra "kis"); (case zq3 => k_extra "kis"); (case zq4 => k_extra "kis"); (case zq7 => k_extra "up"); (case zq6 => k_extra "put"); (case zq5 => k_extra "sz")))
  | ((with_reducible show TwoK _ _ _ _ _ _); refine TwoK.mk (by k_extra "mem") (by k_extra "setv") (by k_extra "setv") ?_)
  | ((with_reducible show TwoS _ _ _ _ _ _); refine TwoS.mk (by k_extra "mem") (by k_extra "setv") (by k_extra "setv") ?_)
  | ((with_reducible show AsgK _ _ _ _ _); refine AsgK.mk (by k_extra "setv") ?_)
  | ((with_reducible show ∃ (D : Addr) (l : List Int) (i : Int), _ = AV.ref D ∧ _ = AV.int i ∧ _); refine ⟨_, _, _, rfl, rfl, by k_extra "mem", by k_extra "ar", by k_extra "ar", fun _ => ?_⟩)
  | ((with_reducible show dropK (fun v o => v = _ ∧ o = _) _ _); exact ⟨_, _, ⟨rfl, rfl⟩, by k_extra "sub", by k_extra "sub"⟩)
  | ((with_reducible show List.Nodup _ ∧ ∀ D, _); refine ⟨by k_extra "nd", fun _ => ?_⟩)
  | with_reducible refine WD_cons ?_
  | with_reducible refine WD_nil ?_
  | ((with_reducible show ∃ y, _ = AV.str y ∧ _); refine ⟨_, rfl, ?_⟩)
  | with_reducible refine WA_cons ?_
  | with_reducible refine WA_nil ?_
  | ((with_reducible show (_ = true → _) ∧ (_ = false → _)); k_extra "cond")
  | ((with_reducible show ∃ vars', SetV _ _ _ vars' ∧ _); refine ⟨_, by k_extra "setv", ?_⟩)
  | ((with_reducible show ∃ fv, _ = AV.val fv ∧ Callee _ fv = true ∧ _); refine ⟨_, rfl, by k_extra "callee", ?_⟩)
  | ((with_reducible show ∃ f, GetM _ _ _ _ _ f ∧ _); refine ⟨_, by k_extra "getm", by k_extra "callee", ?_⟩)
  | ((with_reducible show ∃ ns, IArgs _ ns ∧ _); refine ⟨_, by k_extra "iargs", by k_extra "ar", fun _ => ?_⟩)
  | ((with_reducible show _ < 1000 ∧ ∀ D, _); refine ⟨by k_extra "ar", fun _ => ?_⟩)
  | ((with_reducible show seqK _ _ _ _ _ _ _ _ _); dsimp only [seqK])
  | ((with_reducible show loopK _ _ _ _ _); dsimp only [loopK])
  | ((with_reducible show ∃ c, _ = AV.val (Value.bool c) ∧ _); refine ⟨_, rfl, ?_⟩))
  trivial
example : True := by
  k_with "ws" => (repeat' (k_extra "w"))
  trivial
section
variable {w : World} {sa : Addr} {sl : List Int} {b : Nat} {x d la lh lp : Addr} {lim stp : AV} {act heap place : List Int} {objs : Objs} {K : AV → Objs → Prop}
theorem is_before_S {i j : Int} (hx : (x, .inst 142 d) ∈ objs) (hd : (d, .idict (coreK lim stp la lh lp)) ∈ objs) (ha : (la, .ints act) ∈ objs)
    (h0 : 0 ≤ i) (h1 : i < act.length) (h2 : 0 ≤ j) (h3 : j < act.length) (hl : act.length < 1000) (h : K (.bool (beforeB act i j)) objs) : CallS (PX sa sl) w (b + 1) (.ref 57) [.ref x, .int i, .int j] objs K := by
  refine' CallS_code (CodeS_def (names := [Str.ofString "self", Str.ofString "one", Str.ofString "other"]) (vargs := [.ref x, .int i, .int j]) ?ho ?hcd ?hb ?hl ?hnn ?hkind ?hnd ?hfree ?hco ?hgen ?hk ?_)
  k_extra "def"
  k_extra "ws"
  · have e : beforeB act i j = decide (act.getD j.toNat 0 < act.getD i.toNat 0) := by unfold beforeB; rw [if_neg (by assumption)]
    rw [e] at h; exact h
  · have e : beforeB act i j = decide (i < j) := by unfold beforeB; rw [if_pos (by assumption)]
    rw [e] at h; exact h
theorem is_before_V {i j : Int} (hx : (x, .inst 142 d) ∈ objs) (hd : (d, .idict (coreK lim stp la lh lp)) ∈ objs) (ha : (la, .ints act) ∈ objs)
    (h0 : 0 ≤ i) (h1 : i < act.length) (h2 : 0 ≤ j) (h3 : j < act.length) (hl : act.length < 1000) : CV (PX sa sl) w (b + 1) (.ref 57) [.ref x, .int i, .int j] objs (.bool (beforeB act i j)) := fun _ k => is_before_S hx hd ha h0 h1 h2 h3 hl k
theorem put_S {i v : Int} (h0 : 0 ≤ i) (h1 : i < heap.length) (h2 : 0 ≤ v) (h3 : v < place.length) (hl : heap.length < 1000) (hl2 : place.length < 1000) (h : K (.val .none) (coreO x d la lh lp lim stp act (heap.set i.toNat v) (place.set v.toNat i))) :
    CallS (PX sa sl) w (b + 1) (.ref 71) [.ref x, .int i, .int v] (coreO x d la lh lp lim stp act heap place) K := by
  refine' CallS_code (CodeS_def (names := [Str.ofString "self", Str.ofString "spot", Str.ofString "var"]) (vargs := [.ref x, .int i, .int v]) ?ho ?hcd ?hb ?hl ?hnn ?hkind ?hnd ?hfree ?hco ?hgen ?hk ?_)
  k_extra "def"
  k_extra "ws"
  exact h
end
example : True := by
  k_with "arv" => (first | k_extra "ar" | exact Valid.lo (by assumption) | exact Valid.hi (by assumption) (by k_extra "ar"))
  trivial
example : True := by
  k_with "cv" => (((with_reducible refine' is_before_V ?cq1 ?cq2 ?cq3 ?cq4 ?cq5 ?cq6 ?cq7 ?cq8); (case cq1 => k_extra "mem"); (case cq2 => k_extra "mem"); (case cq3 => k_extra "mem"); (case cq4 => k_extra "arv"); (case cq5 => k_extra "arv"); (case cq6 => k_extra "arv"); (case cq7 => k_extra "arv"); (case cq8 => k_extra "arv")))
  trivial
example : True := by
  k_with "call" => (((with_reducible refine' put_S ?zq1 ?zq2 ?zq3 ?zq4 ?zq5 ?zq6 ?_); (case zq1 => k_extra "arv"); (case zq2 => k_extra "arv"); (case zq3 => k_extra "arv"); (case zq4 => k_extra "arv"); (case zq5 => k_extra "arv"); (case zq6 => k_extra "arv")))
  trivial
section
variable {w : World} {sa : Addr} {sl : List Int} {b : Nat} {x d la lh lp : Addr} {lim stp : AV} {act heap place : List Int} {objs : Objs} {K : AV → Objs → Prop}
theorem better_S {i : Int} (hv : Valid act.length heap) (h0 : 0 ≤ i) (h1 : i < heap.length) (hl : heap.length < 1000) (hl2 : act.length < 1000) (h : K (.int (betterF act heap i)) (coreO x d la lh lp lim stp act heap place)) :
    CallS (PX sa sl) w (b + 2) (.ref 85) [.ref x, .int i] (coreO x d la lh lp lim stp act heap place) K := by
  refine' CallS_code (CodeS_def (names := [Str.ofString "self", Str.ofString "spot"]) (vargs := [.ref x, .int i]) ?ho ?hcd ?hb ?hl ?hnn ?hkind ?hnd ?hfree ?hco ?hgen ?hk ?_)
  k_extra "def"
  k_extra "ws"
  · rw [show betterF act heap i = -1 from if_pos (by assumption)] at h; exact h
  · rw [show betterF act heap i = 2 * i + 1 + 1 from (if_neg (by (first | lia | omega))).trans (if_pos ⟨by assumption, by assumption⟩)] at h; exact h
  · rw [show betterF act heap i = 2 * i + 1 from (if_neg (by (first | lia | omega))).trans (if_neg (by intro q; have := q.2; simp_all))] at h; exact h
  · rw [show betterF act heap i = 2 * i + 1 from (if_neg (by (first | lia | omega))).trans (if_neg (by intro q; (first | lia | omega)))] at h; exact h
end
theorem better_V {w : World} {sa : Addr} {sl : List Int} {b : Nat} {x d la lh lp : Addr} {lim stp : AV} {act heap place : List Int} {i : Int} (hv : Valid act.length heap) (h0 : 0 ≤ i) (h1 : i < heap.length) (hl : heap.length < 1000) (hl2 : act.length < 1000) :
    CV (PX sa sl) w (b + 2) (.ref 85) [.ref x, .int i] (coreO x d la lh lp lim stp act heap place) (.int (betterF act heap i)) := fun _ k => better_S hv h0 h1 hl hl2 k
example : True := by
  k_with "valid" => (first | with_reducible assumption | ((refine Valid.set ?_ ?_ ?_ _); (focus k_extra "valid"); (focus k_extra "arv"); (focus k_extra "arv")) | exact Valid.mono (by assumption) (by k_extra "ar"))
  trivial
example : True := by
  k_with "cv" => (((with_reducible refine' better_V ?cq1 ?cq2 ?cq3 ?cq4 ?cq5); (case cq1 => k_extra "valid"); (case cq2 => k_extra "arv"); (case cq3 => k_extra "arv"); (case cq4 => k_extra "arv"); (case cq5 => k_extra "arv")))
  trivial
section
variable {w : World} {sa : Addr} {sl : List Int} {b : Nat} {x d la lh lp : Addr} {lim stp : AV} {act heap place : List Int} {objs : Objs} {K : AV → Objs → Prop}
theorem sink_S {i : Int} (hpl : place.length = act.length) (hv : Valid act.length heap) (h0 : 0 ≤ i) (h1 : i < heap.length) (hl : heap.length < 1000) (hl2 : act.length < 1000) (h : K (.val .none) (coreO x d la lh lp lim stp act (sinkF act heap place i).1 (sinkF act heap place i).2)) :
    CallS (PX sa sl) w (b + 3) (.ref 92) [.ref x, .int i] (coreO x d la lh lp lim stp act heap place) K := by
  refine' CallS_code (CodeS_def (names := [Str.ofString "self", Str.ofString "spot"]) (vargs := [.ref x, .int i]) ?ho ?hcd ?hb ?hl ?hnn ?hkind ?hnd ?hfree ?hco ?hgen ?hk ?_)
  k_extra "def"
  k_extra "ws"
  refine S_while (fun n vars objs => ∃ spot H Pl, n = ((heap.length : Int) - spot).toNat ∧ vars = [(Str.ofString "self", AV.ref x), (Str.ofString "spot", AV.int spot), (Str.ofString "var", AV.int (heap.getD i.toNat 0)), (Str.ofString "below", AV.int (betterF act H spot))] ∧ objs = coreO x d la lh lp lim stp act H Pl ∧
    0 ≤ spot ∧ spot < (H.length : Int) ∧ H.length = heap.length ∧ Pl.length = act.length ∧ Valid act.length H ∧ SinkRel act (heap.getD i.toNat 0) heap place i spot H Pl) _ ⟨i, heap, place, rfl, rfl, rfl, h0, h1, rfl, hpl, hv, SinkRel.start h0⟩ ?_
  rintro n vars objs hz9
  refine hideG fun Xg hXg => ?_
  obtain ⟨spot, H, Pl, rfl, rfl, rfl, g0, g1, g2, g3, g4, g5⟩ := hz9
  refine hXg ?_
  have gb := betterF_le (act := act) (h := H) g0
  k_extra "ws"
  · refine ⟨_, _, ⟨_, ?_, betterF act H spot, H.set spot.toNat (H.getD (betterF act H spot).toNat 0), Pl.set (H.getD (betterF act H spot).toNat 0).toNat spot, rfl, rfl, rfl, ?_⟩, List.Sublist.refl _, .of_sub (List.Sublist.refl _)⟩
    · exact sink_meas rfl g0 g1 g2 (by assumption)
    · refine hideG fun Xg hXg => ?_
      obtain ⟨q1, q2, q3, q4, q5, q6, -, q8⟩ := sink_turn g0 g1 g2 g3 g4 rfl g5 (by assumption) rfl (by assumption) rfl
      refine hXg ?_
      exact ⟨q1, q2, q3, q4, q5, q8⟩
  · rw [sink_out rfl g5 g0 g1 (by rename_i hc; rintro ⟨-, hq⟩; exact Bool.noConfusion (hq.symm.trans hc))] at h; exact h
  · rw [sink_out rfl g5 g0 g1 (by intro hq; (first | lia | omega))] at h; exact h
theorem rise_S {i : Int} (hpl : place.length = act.length) (hv : Valid act.length heap) (h0 : 0 ≤ i) (h1 : i < heap.length) (hl : heap.length < 1000) (hl2 : act.length < 1000) (h : K (.val .none) (coreO x d la lh lp lim stp act (riseF act heap place i).1 (riseF act heap place i).2)) :
    CallS (PX sa sl) w (b + 3) (.ref 78) [.ref x, .int i] (coreO x d la lh lp lim stp act heap place) K := by
  refine' CallS_code (CodeS_def (names := [Str.ofString "self", Str.ofString "spot"]) (vargs := [.ref x, .int i]) ?ho ?hcd ?hb ?hl ?hnn ?hkind ?hnd ?hfree ?hco ?hgen ?hk ?_)
  k_extra "def"
  k_extra "ws"
  refine S_while (fun n vars objs => ∃ spot H Pl, n = spot.toNat ∧ vars = [(Str.ofString "self", AV.ref x), (Str.ofString "spot", AV.int spot), (Str.ofString "var", AV.int (heap.getD i.toNat 0))] ∧ objs = coreO x d la lh lp lim stp act H Pl ∧
    0 ≤ spot ∧ spot < (H.length : Int) ∧ H.length = heap.length ∧ Pl.length = act.length ∧ Valid act.length H ∧ RiseRel act (heap.getD i.toNat 0) heap place i spot H Pl) _ ⟨i, heap, place, rfl, rfl, rfl, h0, h1, rfl, hpl, hv, RiseRel.start h1⟩ ?_
  rintro n vars objs hz9
  refine hideG fun Xg hXg => ?_
  obtain ⟨spot, H, Pl, rfl, rfl, rfl, g0, g1, g2, g3, g4, g5⟩ := hz9
  refine hXg ?_
  have hf : (spot - 1).fdiv 2 = (spot - 1) / 2 := Int.fdiv_eq_ediv_of_nonneg _ (by decide)
  k_extra "ws"
  · rw [rise_out g5 g0 (by rename_i hc; rintro ⟨-, hq⟩; exact Bool.noConfusion (hq.symm.trans hc))] at h; exact h
  · refine ⟨_, _, ⟨_, ?_, (spot - 1).fdiv 2, H.set spot.toNat (H.getD ((spot - 1).fdiv 2).toNat 0), Pl.set (H.getD ((spot - 1).fdiv 2).toNat 0).toNat spot, rfl, rfl, rfl, ?_⟩, by first | exact List.Sublist.refl _ | simp, .of_sub (List.Sublist.refl _)⟩
    · exact rise_meas (by assumption)
    · exact rise_turn (by assumption) g1 g2 g3 g4 g5 rfl (by assumption)
  · rw [rise_out g5 g0 (by intro hq; (first | lia | omega))] at h; exact h
end
example : True := by
  k_with "call" => (((with_reducible refine' sink_S ?zq1 ?zq2 ?zq3 ?zq4 ?zq5 ?zq6 ?_); (case zq1 => k_extra "len"); (case zq2 => k_extra "valid"); (case zq3 => k_extra "arv"); (case zq4 => k_extra "arv"); (case zq5 => k_extra "arv"); (case zq6 => k_extra "arv")))
  trivial
example : True := by
  k_with "call" => (((with_reducible refine' rise_S ?zq1 ?zq2 ?zq3 ?zq4 ?zq5 ?zq6 ?_); (case zq1 => k_extra "len"); (case zq2 => k_extra "valid"); (case zq3 => k_extra "arv"); (case zq4 => k_extra "arv"); (case zq5 => k_extra "arv"); (case zq6 => k_extra "arv")))
  trivial
example : True := by
  k_with "len" => ((simp only [List.length_set, List.length_append, List.length_cons, List.length_nil]; first | done | with_reducible assumption | (first | lia | omega)))
  trivial
example : True := by
  k_with "len" => (with_reducible assumption)
  trivial
section
variable {w : World} {sa : Addr} {sl : List Int} {b : Nat} {x d la lh lp : Addr} {lim stp : AV} {act heap place : List Int} {objs : Objs} {K : AV → Objs → Prop}
theorem many_S (hx : (x, .inst 142 d) ∈ objs) (hd : (d, .idict (coreK lim stp la lh lp)) ∈ objs) (ha : (la, .ints act) ∈ objs) (hl : act.length < 1000) (h : K (.int ((act.length : Int) - 1)) objs) :
    CallS (PX sa sl) w (b + 1) (.ref 43) [.ref x] objs K := by
  refine' CallS_code (CodeS_def (names := [Str.ofString "self"]) (vargs := [.ref x]) ?ho ?hcd ?hb ?hl ?hnn ?hkind ?hnd ?hfree ?hco ?hgen ?hk ?_)
  k_extra "def"
  k_extra "ws"
  exact h
theorem is_held_S {v : Int} (hx : (x, .inst 142 d) ∈ objs) (hd : (d, .idict (coreK lim stp la lh lp)) ∈ objs) (hp : (lp, .ints place) ∈ objs) (h0 : 0 ≤ v) (h1 : v < place.length) (hl : place.length < 1000) (h : K (.bool (decide (0 ≤ place.getD v.toNat 0))) objs) :
    CallS (PX sa sl) w (b + 1) (.ref 50) [.ref x, .int v] objs K := by
  refine' CallS_code (CodeS_def (names := [Str.ofString "self", Str.ofString "var"]) (vargs := [.ref x, .int v]) ?ho ?hcd ?hb ?hl ?hnn ?hkind ?hnd ?hfree ?hco ?hgen ?hk ?_)
  k_extra "def"
  k_extra "ws"
  exact h
theorem many_V (hx : (x, .inst 142 d) ∈ objs) (hd : (d, .idict (coreK lim stp la lh lp)) ∈ objs) (ha : (la, .ints act) ∈ objs) (hl : act.length < 1000) : CV (PX sa sl) w (b + 1) (.ref 43) [.ref x] objs (.int ((act.length : Int) - 1)) := fun _ k => many_S hx hd ha hl k
theorem is_held_V {v : Int} (hx : (x, .inst 142 d) ∈ objs) (hd : (d, .idict (coreK lim stp la lh lp)) ∈ objs) (hp : (lp, .ints place) ∈ objs) (h0 : 0 ≤ v) (h1 : v < place.length) (hl : place.length < 1000) : CV (PX sa sl) w (b + 1) (.ref 50) [.ref x, .int v] objs (.bool (decide (0 ≤ place.getD v.toNat 0))) := fun _ k => is_held_S hx hd hp h0 h1 hl k
end
example : True := by
  k_with "cv" => (((with_reducible refine' many_V ?cq1 ?cq2 ?cq3 ?cq4); (case cq1 => k_extra "mem"); (case cq2 => k_extra "mem"); (case cq3 => k_extra "mem"); (case cq4 => k_extra "arv")))
  trivial
example : True := by
  k_with "cv" => (((with_reducible refine' is_held_V ?cq1 ?cq2 ?cq3 ?cq4 ?cq5 ?cq6); (case cq1 => k_extra "mem"); (case cq2 => k_extra "mem"); (case cq3 => k_extra "mem"); (case cq4 => k_extra "arv"); (case cq5 => k_extra "arv"); (case cq6 => k_extra "arv")))
  trivial
section
variable {w : World} {sa : Addr} {sl : List Int} {b : Nat} {x d la lh lp : Addr} {lim stp : AV} {act heap place : List Int} {objs : Objs} {K : AV → Objs → Prop}
theorem push_S {v : Int} (hpl : place.length = act.length) (hv : Valid act.length heap) (h0 : 0 ≤ v) (h1 : v < (act.length : Int)) (hl : heap.length < 999) (hl2 : act.length < 1000) (h : K (.val .none) (coreO x d la lh lp lim stp act (pushF act heap place v).1 (pushF act heap place v).2)) :
    CallS (PX sa sl) w (b + 4) (.ref 99) [.ref x, .int v] (coreO x d la lh lp lim stp act heap place) K := by
  refine' CallS_code (CodeS_def (names := [Str.ofString "self", Str.ofString "var"]) (vargs := [.ref x, .int v]) ?ho ?hcd ?hb ?hl ?hnn ?hkind ?hnd ?hfree ?hco ?hgen ?hk ?_)
  k_extra "def"
  have hvp := Valid.push hv h0 h1
  k_extra "ws"
  · rw [show pushF act heap place v = (heap, place) from if_pos (by assumption)] at h; exact h
  · rw [show pushF act heap place v = riseF act (heap ++ [v]) (place.set v.toNat (((heap ++ [v]).length : Int) - 1)) (((heap ++ [v]).length : Int) - 1) from if_neg (by (first | lia | omega))] at h; exact h
theorem pop_S (hpl : place.length = act.length) (hv : Valid act.length heap) (hact : 0 < act.length) (hl : heap.length < 1000) (hl2 : act.length < 1000) (h : K (.int (popF act heap place).1) (coreO x d la lh lp lim stp act (popF act heap place).2.1 (popF act heap place).2.2)) :
    CallS (PX sa sl) w (b + 4) (.ref 106) [.ref x] (coreO x d la lh lp lim stp act heap place) K := by
  refine' CallS_code (CodeS_def (names := [Str.ofString "self"]) (vargs := [.ref x]) ?ho ?hcd ?hb ?hl ?hnn ?hkind ?hnd ?hfree ?hco ?hgen ?hk ?_)
  k_extra "def"
  have hz := Valid.last hv
  have hvd := Valid.pop hv hact
  have hz0 := hv (Int.toNat 0)
  have hdl : heap.dropLast.length = heap.length - 1 := List.length_dropLast
  k_extra "ws"
  · rw [show popF act heap place = (0, heap, place) from if_pos (by (first | lia | omega))] at h; exact h
  · rw [show popF act heap place = (heap.getD 0 0, sinkF act (heap.dropLast.set 0 (heap.getLastD 0)) ((place.set (heap.getD 0 0).toNat (-1)).set (heap.getLastD 0).toNat 0) 0) from by
      unfold popF; rw [if_neg (by (first | lia | omega)), if_pos (by (first | lia | omega))]] at h; exact h
  · rw [show popF act heap place = (heap.getD 0 0, heap.dropLast, place.set (heap.getD 0 0).toNat (-1)) from by
      unfold popF; rw [if_neg (by (first | lia | omega)), if_neg (by (first | lia | omega))]] at h; exact h
end
example : True := by
  k_with "call" => (((with_reducible refine' push_S ?zq1 ?zq2 ?zq3 ?zq4 ?zq5 ?zq6 ?_); (case zq1 => k_extra "len"); (case zq2 => k_extra "valid"); (case zq3 => k_extra "arv"); (case zq4 => k_extra "arv"); (case zq5 => k_extra "arv"); (case zq6 => k_extra "arv")))
  trivial
section
variable {w : World} {sa : Addr} {sl : List Int} {b : Nat} {x d la lh lp : Addr} {lim stp : AV} {act heap place : List Int} {objs : Objs} {K : AV → Objs → Prop}
theorem grow_S {k : Int} (hpl : place.length = act.length) (hv : Valid act.length heap) (hhl : heap.length < act.length) (hal : act.length ≤ 100) (hk0 : k < 100)
    (h : K (.val .none) (coreO x d la lh lp lim stp (growF act heap place k).1 (growF act heap place k).2.1 (growF act heap place k).2.2)) :
    CallS (PX sa sl) w (b + 5) (.ref 64) [.ref x, .int k] (coreO x d la lh lp lim stp act heap place) K := by
  refine' CallS_code (CodeS_def (names := [Str.ofString "self", Str.ofString "n"]) (vargs := [.ref x, .int k]) ?ho ?hcd ?hb ?hl ?hnn ?hkind ?hnd ?hfree ?hco ?hgen ?hk ?_)
  k_extra "def"
  k_extra "ws"
  refine S_while (fun n vars objs => ∃ a hh p, n = (k + 1 - (a.length : Int)).toNat ∧ vars = [(Str.ofString "self", AV.ref x), (Str.ofString "n", AV.int k)] ∧ objs = coreO x d la lh lp lim stp a hh p ∧
    p.length = a.length ∧ Valid a.length hh ∧ hh.length < a.length ∧ a.length ≤ 100 ∧ GrowRel act heap place k a hh p) _ ⟨act, heap, place, rfl, rfl, rfl, hpl, hv, hhl, hal, rfl⟩ ?_
  rintro n vars objs hz9
  refine hideG fun Xg hXg => ?_
  obtain ⟨a, hh, p, rfl, rfl, rfl, g0, g1, g2, g3, g4⟩ := hz9
  refine hXg ?_
  have g5 := Valid.mono g1 (show a.length ≤ (a ++ [(0 : Int)]).length by simp)
  k_extra "ws"
  · refine ⟨_, _, ⟨_, ?_, a ++ [0], _, _, rfl, rfl, rfl, grow_turn g4 (by assumption) hk0 g0 g1 g2 rfl rfl⟩, List.Sublist.refl _, .of_sub (List.Sublist.refl _)⟩
    simp only [List.length_append, List.length_cons, List.length_nil]; (first | lia | omega)
  · rw [grow_out g4 (by (first | lia | omega))] at h; exact h
end
theorem frame5 {w : World} {sa : Addr} {sl : List Int} {b : Nat} {α β : Type} {t : Sem α} {R : β → α → Prop} {x d la lh lp : Addr} {lim stp lim' stp' : AV} {act heap place act' heap' place' : List Int} {whole w0 w1 w2 w3 : Objs} {r : β} {K : β → Objs → Prop}
    (hx : (x, .inst 142 d) ∈ whole) (hd : (d, .idict (coreK lim stp la lh lp)) ∈ whole) (ha : (la, .ints act) ∈ whole) (hh : (lh, .ints heap) ∈ whole) (hp : (lp, .ints place) ∈ whole)
    (ud : Up d (.idict (coreK lim stp la lh lp)) (.idict (coreK lim' stp' la lh lp)) whole w0) (ua : Up la (.ints act) (.ints act') w0 w1) (uh : Up lh (.ints heap) (.ints heap') w1 w2) (up : Up lp (.ints place) (.ints place') w2 w3)
    (hn : (whole.map (·.1)).Nodup → [x, d, la, lh, lp].Nodup) (hk : K r w3)
    (h : CL (PX sa sl) w b t R (coreO x d la lh lp lim stp act heap place) fun v o => v = r ∧ o = coreO x d la lh lp lim' stp' act' heap' place') : CL (PX sa sl) w b t R whole K := by
  refine CL.frame h (fun p hq => ?_) rfl hn fun v O' hv hnw _ _ => ?_
  · simp only [List.mem_cons, List.not_mem_nil, or_false] at hq
    rcases hq with rfl | rfl | rfl | rfl | rfl <;> assumption
  · obtain ⟨rfl, rfl⟩ := hv
    have n0 := hnw; rw [← ud.fst] at n0
    have n1 := n0; rw [← ua.fst] at n1
    have n2 := n1; rw [← uh.fst] at n2
    have n3 := n2; rw [← up.fst] at n3
    refine ⟨w3, hk, n3, fun p q3 => ?_⟩
    rcases up.cases n2 p q3 with rfl | ⟨q2, e4⟩
    · exact .inl (.tail _ (.tail _ (.tail _ (.tail _ (.head _)))))
    rcases uh.cases n1 p q2 with rfl | ⟨q1, e3⟩
    · exact .inl (.tail _ (.tail _ (.tail _ (.head _))))
    rcases ua.cases n0 p q1 with rfl | ⟨q0, e2⟩
    · exact .inl (.tail _ (.tail _ (.head _)))
    rcases ud.cases hnw p q0 with rfl | ⟨q, e1⟩
    · exact .inl (.tail _ (.head _))
    by_cases e0 : p.1 = x
    · refine .inl ?_
      have hkey : ∀ (l : Objs), (l.map (·.1)).Nodup → ∀ a o o', (a, o) ∈ l → (a, o') ∈ l → o = o' := by
        intro l
        induction l with
        | nil => intro _ _ _ _ h; cases h
        | cons p0 r ih =>
          intro hn a o o' h h'
          rw [List.map_cons, List.nodup_cons] at hn
          rcases List.mem_cons.mp h with rfl | h1
          · rcases List.mem_cons.mp h' with e | h2
            · exact (Prod.mk.inj e).2.symm
            · exact absurd (List.mem_map_of_mem (f := (·.1)) h2) hn.1
          · rcases List.mem_cons.mp h' with e | h2
            · exact absurd (e ▸ List.mem_map_of_mem (f := (·.1)) h1) hn.1
            · exact ih hn.2 a o o' h1 h2
      obtain ⟨p1, p2⟩ := p
      dsimp only at e0
      subst e0
      rw [hkey whole hnw _ _ _ q hx]
      exact .head _
    · refine .inr ⟨q, fun o ho => ?_⟩
      simp only [List.mem_cons, List.not_mem_nil, or_false] at ho
      rcases ho with rfl | rfl | rfl | rfl | rfl
      · exact fun e => e0 e.symm
      · exact fun e => e1 e.symm
      · exact fun e => e2 e.symm
      · exact fun e => e3 e.symm
      · exact fun e => e4 e.symm
section
variable {w : World} {sa : Addr} {sl : List Int} {b : Nat} {x d la lh lp : Addr} {lim stp : AV} {act heap place : List Int} {objs w1 w2 w3 w4 : Objs} {K : AV → Objs → Prop}
theorem pop_W (hx : (x, .inst 142 d) ∈ objs) (hd : (d, .idict (coreK lim stp la lh lp)) ∈ objs) (ha : (la, .ints act) ∈ objs) (hh : (lh, .ints heap) ∈ objs) (hp : (lp, .ints place) ∈ objs)
    (ud : Up d (.idict (coreK lim stp la lh lp)) (.idict (coreK lim stp la lh lp)) objs w1) (ua : Up la (.ints act) (.ints act) w1 w2) (uh : Up lh (.ints heap) (.ints (popF act heap place).2.1) w2 w3) (up : Up lp (.ints place) (.ints (popF act heap place).2.2) w3 w4)
    (hn : (objs.map (·.1)).Nodup → [x, d, la, lh, lp].Nodup)
    (hpl : place.length = act.length) (hv : Valid act.length heap) (hact : 0 < act.length) (hl : heap.length < 1000) (hl2 : act.length < 1000) (h : K (.int (popF act heap place).1) w4) :
    CallS (PX sa sl) w (b + 4) (.ref 106) [.ref x] objs K :=
  fun vs hvs => frame5 hx hd ha hh hp ud ua uh up hn h (pop_S hpl hv hact hl hl2 ⟨rfl, rfl⟩ vs hvs)
theorem grow_W {k : Int} (hx : (x, .inst 142 d) ∈ objs) (hd : (d, .idict (coreK lim stp la lh lp)) ∈ objs) (ha : (la, .ints act) ∈ objs) (hh : (lh, .ints heap) ∈ objs) (hp : (lp, .ints place) ∈ objs)
    (ud : Up d (.idict (coreK lim stp la lh lp)) (.idict (coreK lim stp la lh lp)) objs w1) (ua : Up la (.ints act) (.ints (growF act heap place k).1) w1 w2) (uh : Up lh (.ints heap) (.ints (growF act heap place k).2.1) w2 w3) (up : Up lp (.ints place) (.ints (growF act heap place k).2.2) w3 w4)
    (hn : (objs.map (·.1)).Nodup → [x, d, la, lh, lp].Nodup)
    (hpl : place.length = act.length) (hv : Valid act.length heap) (hhl : heap.length < act.length) (hal : act.length ≤ 100) (hk0 : k < 100) (h : K (.val .none) w4) :
    CallS (PX sa sl) w (b + 5) (.ref 64) [.ref x, .int k] objs K :=
  fun vs hvs => frame5 hx hd ha hh hp ud ua uh up hn h (grow_S hpl hv hhl hal hk0 ⟨rfl, rfl⟩ vs hvs)
end
section
variable {w : World} {sa : Addr} {sl : List Int} {b : Nat} {x d la lh lp : Addr} {lim stp : AV} {act heap place : List Int} {objs : Objs} {K : AV → Objs → Prop}
theorem rebuild_S (hpl : place.length = act.length) (hv : Valid act.length heap) (hl : heap.length < 1000) (hl2 : act.length < 1000) (h : K (.val .none) (coreO x d la lh lp lim stp act (rebuildF act heap place).1 (rebuildF act heap place).2)) :
    CallS (PX sa sl) w (b + 4) (.ref 139) [.ref x] (coreO x d la lh lp lim stp act heap place) K := by
  refine' CallS_code (CodeS_def (names := [Str.ofString "self"]) (vargs := [.ref x]) ?ho ?hcd ?hb ?hl ?hnn ?hkind ?hnd ?hfree ?hco ?hgen ?hk ?_)
  k_extra "def"
  have hf : ((heap.length : Int)).fdiv 2 = (heap.length : Int) / 2 := Int.fdiv_eq_ediv_of_nonneg _ (by decide)
  k_extra "ws"
  refine S_while (fun n vars objs => ∃ (k : Nat) (H Pl : List Int), n = k ∧ vars = [(Str.ofString "self", AV.ref x), (Str.ofString "spot", AV.int ((k : Int) - 1))] ∧ objs = coreO x d la lh lp lim stp act H Pl ∧
    k ≤ heap.length / 2 ∧ H.length = heap.length ∧ Pl.length = act.length ∧ Valid act.length H ∧ rebuildL act k H Pl = rebuildF act heap place) _ ⟨heap.length / 2, heap, place, rfl, by rw [hf]; norm_cast, rfl, Nat.le_refl _, rfl, hpl, hv, rfl⟩ ?_
  rintro n vars objs ⟨k, H, Pl, rfl, rfl, rfl, g0, g1, g2, g3, g4⟩
  rcases n with _ | j
  · have e : (H, Pl) = rebuildF act heap place := g4
    rw [← e] at h
    k_extra "ws"
    · exfalso; (first | lia | omega)
    · exact h
  · rw [show ((j + 1 : Nat) : Int) - 1 = (j : Int) by (first | lia | omega)]
    have g5 := sinkF_len act H Pl (j : Int)
    have g6 := sinkF_valid (act := act) (place := Pl) (s := (j : Int)) g3
    k_extra "ws"
    · exact ⟨_, _, ⟨j, Nat.lt_succ_self j, j, _, _, rfl, rfl, rfl, by (first | lia | omega), g5.1.trans g1, g5.2.trans g2, g6, g4⟩, by k_extra "sub", by k_extra "sub"⟩
    · exfalso; (first | lia | omega)
end
example : True := by
  k_with "call" => (((with_reducible refine' rebuild_W ?zq1 ?zq2 ?zq3 ?zq4 ?zq5 ?zqa ?zqb ?zqc ?zqd ?zqe ?zqf ?zqg ?zqh ?zqi ?_); (case zq1 => k_extra "mem"); (case zq2 => k_extra "mem"); (case zq3 => k_extra "mem"); (case zq4 => k_extra "mem"); (case zq5 => k_extra "mem"); (case zqa => k_extra "up"); (case zqb => k_extra "up"); (case zqc => k_extra "up"); (case zqd => k_extra "up"); (case zqe => k_extra "nod"); (case zqf => k_extra "len"); (case zqg => k_extra "valid"); (case zqh => k_extra "arv"); (case zqi => k_extra "arv")))
  trivial
section
variable {w : World} {sa : Addr} {sl : List Int} {b : Nat} {x d la lh lp : Addr} {lim stp : AV} {act heap place : List Int} {objs w1 w2 w3 w4 : Objs} {K : AV → Objs → Prop}
theorem rebuild_W (hx : (x, .inst 142 d) ∈ objs) (hd : (d, .idict (coreK lim stp la lh lp)) ∈ objs) (ha : (la, .ints act) ∈ objs) (hh : (lh, .ints heap) ∈ objs) (hp : (lp, .ints place) ∈ objs)
    (ud : Up d (.idict (coreK lim stp la lh lp)) (.idict (coreK lim stp la lh lp)) objs w1) (ua : Up la (.ints act) (.ints act) w1 w2) (uh : Up lh (.ints heap) (.ints (rebuildF act heap place).1) w2 w3) (up : Up lp (.ints place) (.ints (rebuildF act heap place).2) w3 w4)
    (hn : (objs.map (·.1)).Nodup → [x, d, la, lh, lp].Nodup)
    (hpl : place.length = act.length) (hv : Valid act.length heap) (hl : heap.length < 1000) (hl2 : act.length < 1000) (h : K (.val .none) w4) :
    CallS (PX sa sl) w (b + 4) (.ref 139) [.ref x] objs K :=
  fun vs hvs => frame5 hx hd ha hh hp ud ua uh up hn h (rebuild_S hpl hv hl hl2 ⟨rfl, rfl⟩ vs hvs)
end
section
variable {w : World} {sa : Addr} {sl : List Int} {b : Nat} {x d la lh lp : Addr} {lim : AV} {step : Int} {act heap place : List Int} {objs : Objs} {K : AV → Objs → Prop}
theorem rescale_S (h0 : 0 ≤ step) (hs : step < 4611686018427387904) (ha : ∀ a ∈ act, a < 4611686018427387904) (hpl : place.length = act.length) (hv : Valid act.length heap) (hl : heap.length < 1000) (hl2 : act.length < 1000)
    (h : ∀ la', K (.val .none) ((la', .ints (actF step act)) :: (x, .inst 142 d) :: (d, .idict (coreK lim (.int (stepF step act)) la' lh lp)) :: (la, .ints act) :: (lh, .ints (rebuildF (actF step act) heap place).1) :: (lp, .ints (rebuildF (actF step act) heap place).2) :: [])) :
    CallS (PX sa sl) w (b + 5) (.ref 132) [.ref x] (coreO x d la lh lp lim (.int step) act heap place) K := by
  refine' CallS_code (CodeS_def (names := [Str.ofString "self"]) (vargs := [.ref x]) ?ho ?hcd ?hb ?hl ?hnn ?hkind ?hnd ?hfree ?hco ?hgen ?hk ?_)
  k_extra "def"
  k_extra "ws"
  refine' S_for_list ?_ ?hx ?hs
  case hx => exact .inl rfl
  case hs => exact fun _ _ => rfl
  k_extra "ws"
  refine for_state (σ := Int) (V := fun g => [(Str.ofString "self", AV.ref x), (Str.ofString "greatest", AV.int g)]) (O := fun _ => coreO x d la lh lp lim (.int step) act heap place) (fun g a => if a > g then a else g) step (fun _ => by k_extra "mem") (fun _ _ => True) trivial (fun i g k hk _ => ⟨_, by k_extra "setv", ?_⟩) (fun g e _ => ?_)
  · k_extra "ws"
    · rename_i hc
      exact ⟨_, _, ⟨trivial, by rw [if_pos hc], rfl⟩, by k_extra "sub", by k_extra "sub"⟩
    · rename_i hc
      exact ⟨_, _, ⟨trivial, by rw [if_neg (by (first | lia | omega))], rfl⟩, by k_extra "sub", by k_extra "sub"⟩
  have e2 : g = greatF step act := e
  have hg1 := greatF_ge (step := step) (act := act)
  have hg2 : greatF step act < 4611686018427387904 := by
    rcases greatF_mem (step := step) (act := act) with q | q
    · rw [q]; exact hs
    · exact ha _ q
  have hbp := by_pos (act := act) h0
  have hbe : g.fdiv 1024 + 1 = byF step act := by rw [e2]; rfl
  have hbl : byF step act < 4611686018427387904 := by
    unfold byF
    rw [Int.fdiv_eq_ediv_of_nonneg _ (by decide)]
    (first | lia | omega)
  rw [← e2] at hg1 hg2
  clear e e2
  k_extra "ws"
  refine' WE_comp accI (.one (Str.ofString "amount") _) [(Str.ofString "by", _)] ?_ ?hsc ?hfi
  case hsc => k_extra "scope"
  case hfi => exact fun _ _ => rfl
  rw [hbe]
  generalize hB : byF step act = B at *
  k_extra "ws"
  refine CompH.list_f (ns := act) (fun k => some (k.fdiv B)) (by (first | lia | omega)) (by k_extra "mem") (fun k hk ys J hJ => CTurn.none ?_) ?_
  · k_extra "ws"
    exact ⟨_, _, ⟨rfl, rfl⟩, hJ⟩
  rw [show act.filterMap (fun k => some (k.fdiv B)) = actF step act from by unfold actF; rw [hB]; exact congrFun List.filterMap_eq_map act]
  dsimp only [accI]
  intro la'
  have hal : (actF step act).length = act.length := by unfold actF; rw [List.length_map]
  have hv2 : Valid (actF step act).length heap := by rw [hal]; exact hv
  have hpl2 : place.length = (actF step act).length := by rw [hal]; exact hpl
  have hl3 : (actF step act).length < 1000 := by rw [hal]; exact hl2
  have hst : stepF step act = if step.fdiv B = 0 then 1 else step.fdiv B := by unfold stepF; rw [hB]
  have hk := h la'
  clear h
  generalize actF step act = act' at *
  k_extra "ws"
  · rename_i hc; rw [hst, if_pos hc] at hk; exact hk
  · rename_i hc; rw [hst, if_neg hc] at hk; exact hk
end
example : True := by
  k_with "call" => (((with_reducible refine' rescale_S ?zq1 ?zq2 ?zq3 ?zq4 ?zq5 ?zq6 ?zq7 (fun la' => ?_)); (case zq1 => k_extra "arv"); (case zq2 => k_extra "arv"); (case zq3 => with_reducible assumption); (case zq4 => k_extra "len"); (case zq5 => k_extra "valid"); (case zq6 => k_extra "arv"); (case zq7 => k_extra "arv")))
  trivial
section
variable {w : World} {sa : Addr} {sl : List Int} {b : Nat} {x d la lh lp : Addr} {step limit : Int} {act heap place : List Int} {objs : Objs} {K : AV → Objs → Prop}
theorem bump_S {v : Int} (h0 : 0 ≤ step) (hs : step < 4611686018427387904) (ha : ∀ a ∈ act.set v.toNat (act.getD v.toNat 0 + step), a < 4611686018427387904) (hpl : place.length = act.length) (hv : Valid act.length heap) (hl : heap.length < 1000) (hl2 : act.length < 1000)
    (hv0 : 0 ≤ v) (hv1 : v < act.length) (hpv : place.getD v.toNat 0 < heap.length)
    (h1 : limit < act.getD v.toNat 0 + step → ∀ la', K (.val .none) ((la', .ints (actF step (act.set v.toNat (act.getD v.toNat 0 + step)))) :: (x, .inst 142 d) :: (d, .idict (coreK (.int limit) (.int (stepF step (act.set v.toNat (act.getD v.toNat 0 + step)))) la' lh lp)) :: (la, .ints (act.set v.toNat (act.getD v.toNat 0 + step))) :: (lh, .ints (rebuildF (actF step (act.set v.toNat (act.getD v.toNat 0 + step))) heap place).1) :: (lp, .ints (rebuildF (actF step (act.set v.toNat (act.getD v.toNat 0 + step))) heap place).2) :: []))
    (h2 : ¬ limit < act.getD v.toNat 0 + step → 0 ≤ place.getD v.toNat 0 → K (.val .none) (coreO x d la lh lp (.int limit) (.int step) (act.set v.toNat (act.getD v.toNat 0 + step)) (riseF (act.set v.toNat (act.getD v.toNat 0 + step)) heap place (place.getD v.toNat 0)).1 (riseF (act.set v.toNat (act.getD v.toNat 0 + step)) heap place (place.getD v.toNat 0)).2))
    (h3 : ¬ limit < act.getD v.toNat 0 + step → place.getD v.toNat 0 < 0 → K (.val .none) (coreO x d la lh lp (.int limit) (.int step) (act.set v.toNat (act.getD v.toNat 0 + step)) heap place)) :
    CallS (PX sa sl) w (b + 6) (.ref 120) [.ref x, .int v] (coreO x d la lh lp (.int limit) (.int step) act heap place) K := by
  refine' CallS_code (CodeS_def (names := [Str.ofString "self", Str.ofString "var"]) (vargs := [.ref x, .int v]) ?ho ?hcd ?hb ?hl ?hnn ?hkind ?hnd ?hfree ?hco ?hgen ?hk ?_)
  k_extra "def"
  have hsl : (act.set v.toNat (act.getD v.toNat 0 + step)).length = act.length := List.length_set
  have hg : (act.set v.toNat (act.getD v.toNat 0 + step)).getD v.toNat 0 = act.getD v.toNat 0 + step := gset_self (by (first | lia | omega))
  have hv2 : Valid (act.set v.toNat (act.getD v.toNat 0 + step)).length heap := by rw [hsl]; exact hv
  have hpl2 : place.length = (act.set v.toNat (act.getD v.toNat 0 + step)).length := by rw [hsl]; exact hpl
  k_extra "ws"
  · exact h1 (by (first | lia | omega)) la'
  · exact h2 (by (first | lia | omega)) (by (first | lia | omega))
  · exact h3 (by (first | lia | omega)) (by (first | lia | omega))
/-- a decay -/
theorem decay_S (h0 : 0 ≤ step) (hs : step < 1000000000000000) (ha : ∀ a ∈ act, a < 4611686018427387904) (hpl : place.length = act.length) (hv : Valid act.length heap) (hl : heap.length < 1000) (hl2 : act.length < 1000)
    (h1 : limit < step + step.fdiv (20 - 1) + 1 → ∀ la', K (.val .none) ((la', .ints (actF (step + step.fdiv (20 - 1) + 1) act)) :: (x, .inst 142 d) :: (d, .idict (coreK (.int limit) (.int (stepF (step + step.fdiv (20 - 1) + 1) act)) la' lh lp)) :: (la, .ints act) :: (lh, .ints (rebuildF (actF (step + step.fdiv (20 - 1) + 1) act) heap place).1) :: (lp, .ints (rebuildF (actF (step + step.fdiv (20 - 1) + 1) act) heap place).2) :: []))
    (h2 : ¬ limit < step + step.fdiv (20 - 1) + 1 → K (.val .none) (coreO x d la lh lp (.int limit) (.int (step + step.fdiv (20 - 1) + 1)) act heap place)) :
    CallS (PX sa sl) w (b + 6) (.ref 127) [.ref x] (coreO x d la lh lp (.int limit) (.int step) act heap place) K := by
  refine' CallS_code (CodeS_def (names := [Str.ofString "self"]) (vargs := [.ref x]) ?ho ?hcd ?hb ?hl ?hnn ?hkind ?hnd ?hfree ?hco ?hgen ?hk ?_)
  k_extra "def"
  have hf : step.fdiv (20 - 1) = step / 19 := Int.fdiv_eq_ediv_of_nonneg _ (by decide)
  have hs2 : step + step.fdiv (20 - 1) + 1 < 4611686018427387904 := by (first | lia | omega)
  have hs3 : 0 ≤ step + step.fdiv (20 - 1) + 1 := by (first | lia | omega)
  k_extra "ws"
  · exact h1 (by (first | lia | omega)) la'
  · exact h2 (by (first | lia | omega))
end
/-- a call that may lay the activities anew -/
theorem frameR {w : World} {sa : Addr} {sl : List Int} {b : Nat} {α β : Type} {t : Sem α} {R : β → α → Prop} {x d la lh lp : Addr} {lim stp stp' : AV} {act heap place act2 act' heap' place' : List Int} {W0 : Objs} {w1 w2 w3 : Addr → Objs} {r : β} {K : β → Objs → Prop}
    (hx : (x, .inst 142 d) ∈ W0) (hd : (d, .idict (coreK lim stp la lh lp)) ∈ W0) (hh : (lh, .ints heap) ∈ W0) (hp : (lp, .ints place) ∈ W0)
    (ud : ∀ l, Up d (.idict (coreK lim stp la lh lp)) (.idict (coreK lim stp' l lh lp)) W0 (w1 l)) (uh : ∀ l, Up lh (.ints heap) (.ints heap') (w1 l) (w2 l)) (up : ∀ l, Up lp (.ints place) (.ints place') (w2 l) (w3 l))
    (hn : (((la, AO.ints act) :: W0 : Objs).map (·.1)).Nodup → [x, d, la, lh, lp].Nodup) (hk : ∀ l, K r ((l, .ints act') :: w3 l))
    (h : CL (PX sa sl) w b t R (coreO x d la lh lp lim stp act heap place) fun v o => v = r ∧ ((∃ l, o = (l, .ints act') :: (x, .inst 142 d) :: (d, .idict (coreK lim stp' l lh lp)) :: (la, .ints act2) :: (lh, .ints heap') :: (lp, .ints place') :: []) ∨ o = coreO x d la lh lp lim stp' act' heap' place')) : CL (PX sa sl) w b t R ((la, .ints act) :: W0) K := by
  have main : ∀ (l : Addr) (O' : Objs), ((((la, AO.ints act) :: W0 : Objs).map (·.1)).Nodup) → l ∉ W0.map (·.1) → (l, AO.ints act') ∈ O' → (x, AO.inst 142 d) ∈ O' → (d, AO.idict (coreK lim stp' l lh lp)) ∈ O' → (lh, AO.ints heap') ∈ O' → (lp, AO.ints place') ∈ O' →
      ∃ whole', K r whole' ∧ (whole'.map (·.1)).Nodup ∧ ∀ p ∈ whole', p ∈ O' ∨ (p ∈ (la, AO.ints act) :: W0 ∧ ∀ q ∈ coreO x d la lh lp lim stp act heap place, q.1 ≠ p.1) := fun l O' hnw hl m1 m2 m3 m4 m5 => by
    have hla := hnw
    rw [List.map_cons, List.nodup_cons] at hla
    have n0 := hla.2
    have n1 := n0; rw [← (ud l).fst] at n1
    have n2 := n1; rw [← (uh l).fst] at n2
    have n3 := n2; rw [← (up l).fst] at n3
    refine ⟨_, hk l, ?_, fun p q => ?_⟩
    · rw [List.map_cons, List.nodup_cons]
      exact ⟨by rw [(up l).fst, (uh l).fst, (ud l).fst]; exact hl, n3⟩
    rcases List.mem_cons.mp q with rfl | q3
    · exact .inl m1
    rcases (up l).cases n2 p q3 with rfl | ⟨q2, e4⟩
    · exact .inl m5
    rcases (uh l).cases n1 p q2 with rfl | ⟨q1, e3⟩
    · exact .inl m4
    rcases (ud l).cases n0 p q1 with rfl | ⟨q, e1⟩
    · exact .inl m3
    have e2 : la ≠ p.1 := fun e => hla.1 (List.mem_map.mpr ⟨p, q, e.symm⟩)
    by_cases e0 : p.1 = x
    · refine .inl ?_
      have hkey : ∀ (l : Objs), (l.map (·.1)).Nodup → ∀ a o o', (a, o) ∈ l → (a, o') ∈ l → o = o' := by
        intro l
        induction l with
        | nil => intro _ _ _ _ h; cases h
        | cons p0 r ih =>
          intro hn a o o' h h'
          rw [List.map_cons, List.nodup_cons] at hn
          rcases List.mem_cons.mp h with rfl | h1
          · rcases List.mem_cons.mp h' with e | h2
            · exact (Prod.mk.inj e).2.symm
            · exact absurd (List.mem_map_of_mem (f := (·.1)) h2) hn.1
          · rcases List.mem_cons.mp h' with e | h2
            · exact absurd (e ▸ List.mem_map_of_mem (f := (·.1)) h1) hn.1
            · exact ih hn.2 a o o' h1 h2
      obtain ⟨p1, p2⟩ := p
      dsimp only at e0
      subst e0
      rw [hkey W0 n0 _ _ _ q hx]
      exact m2
    · refine .inr ⟨.tail _ q, fun o ho => ?_⟩
      simp only [List.mem_cons, List.not_mem_nil, or_false] at ho
      rcases ho with rfl | rfl | rfl | rfl | rfl
      · exact fun e => e0 e.symm
      · exact fun e => e1 e.symm
      · exact e2
      · exact fun e => e3 e.symm
      · exact fun e => e4 e.symm
  refine CL.frame h (fun p hq => ?_) rfl hn fun v O' hv hnw hnO hap => ?_
  · simp only [List.mem_cons, List.not_mem_nil, or_false] at hq
    rcases hq with rfl | rfl | rfl | rfl | rfl
    · exact .tail _ hx
    · exact .tail _ hd
    · exact .head _
    · exact .tail _ hh
    · exact .tail _ hp
  · obtain ⟨rfl, ⟨l, rfl⟩ | rfl⟩ := hv
    · refine main l _ hnw (fun hm => ?_) (.head _) (.tail _ (.head _)) (.tail _ (.tail _ (.head _))) (.tail _ (.tail _ (.tail _ (.tail _ (.head _))))) (.tail _ (.tail _ (.tail _ (.tail _ (.tail _ (.head _))))))
      obtain ⟨q, hq, e⟩ := List.mem_map.mp hm
      rw [List.map_cons, List.nodup_cons] at hnO
      by_cases hz : ∀ z ∈ coreO x d la lh lp lim stp act heap place, z.1 ≠ q.1
      · exact hap _ (.head _) q (.tail _ hq) hz e.symm
      · refine hz fun z hzm ez => hnO.1 ?_
        rw [show l = z.1 from e.symm.trans ez.symm]
        simp only [List.mem_cons, List.not_mem_nil, or_false] at hzm
        simp only [List.map_cons, List.map_nil, List.mem_cons, List.not_mem_nil, or_false]
        rcases hzm with rfl | rfl | rfl | rfl | rfl <;> simp
    · have hla := hnw
      rw [List.map_cons, List.nodup_cons] at hla
      exact main la _ hnw hla.1 (.tail _ (.tail _ (.head _))) (.head _) (.tail _ (.head _)) (.tail _ (.tail _ (.tail _ (.head _)))) (.tail _ (.tail _ (.tail _ (.tail _ (.head _)))))
section
variable {w : World} {sa : Addr} {sl : List Int} {b : Nat} {x d la lh lp : Addr} {limit : Int} {c : Core} {W0 : Objs} {w1 w2 w3 : Addr → Objs} {K : AV → Objs → Prop}
theorem bump_W {v : Int} (hx : (x, .inst 142 d) ∈ W0) (hd : (d, .idict (coreK (.int limit) (.int c.step) la lh lp)) ∈ W0) (hh : (lh, .ints c.heap) ∈ W0) (hp : (lp, .ints c.place) ∈ W0)
    (ud : ∀ l, Up d (.idict (coreK (.int limit) (.int c.step) la lh lp)) (.idict (coreK (.int limit) (.int (bumpC limit v c).step) l lh lp)) W0 (w1 l)) (uh : ∀ l, Up lh (.ints c.heap) (.ints (bumpC limit v c).heap) (w1 l) (w2 l)) (up : ∀ l, Up lp (.ints c.place) (.ints (bumpC limit v c).place) (w2 l) (w3 l))
    (hn : (((la, AO.ints c.act) :: W0 : Objs).map (·.1)).Nodup → [x, d, la, lh, lp].Nodup)
    (h0 : 0 ≤ c.step) (hs : c.step < 4611686018427387904) (ha : ∀ a ∈ bumpA c.act c.step v, a < 4611686018427387904) (hpl : c.place.length = c.act.length) (hv : Valid c.act.length c.heap) (hl : c.heap.length < 1000) (hl2 : c.act.length < 1000)
    (hv0 : 0 ≤ v) (hv1 : v < c.act.length) (hpv : c.place.getD v.toNat 0 < c.heap.length) (hk : ∀ l, K (.val .none) ((l, .ints (bumpC limit v c).act) :: w3 l)) :
    CallS (PX sa sl) w (b + 6) (.ref 120) [.ref x, .int v] ((la, .ints c.act) :: W0) K := by
  intro vs hvs
  refine frameR (act2 := bumpA c.act c.step v) hx hd hh hp ud uh up hn hk (bump_S h0 hs ha hpl hv hl hl2 hv0 hv1 hpv (fun q l => ⟨rfl, .inl ⟨l, ?_⟩⟩) (fun q1 q2 => ⟨rfl, .inr ?_⟩) (fun q1 q2 => ⟨rfl, .inr ?_⟩) vs hvs)
  · rw [show bumpC limit v c = rescaleC { c with act := bumpA c.act c.step v } from if_pos q]; rfl
  · rw [show bumpC limit v c = _ from (if_neg q1).trans (if_pos q2)]; rfl
  · rw [show bumpC limit v c = _ from (if_neg q1).trans (if_neg (by (first | lia | omega)))]; rfl
theorem decay_W (hx : (x, .inst 142 d) ∈ W0) (hd : (d, .idict (coreK (.int limit) (.int c.step) la lh lp)) ∈ W0) (hh : (lh, .ints c.heap) ∈ W0) (hp : (lp, .ints c.place) ∈ W0)
    (ud : ∀ l, Up d (.idict (coreK (.int limit) (.int c.step) la lh lp)) (.idict (coreK (.int limit) (.int (decayC limit c).step) l lh lp)) W0 (w1 l)) (uh : ∀ l, Up lh (.ints c.heap) (.ints (decayC limit c).heap) (w1 l) (w2 l)) (up : ∀ l, Up lp (.ints c.place) (.ints (decayC limit c).place) (w2 l) (w3 l))
    (hn : (((la, AO.ints c.act) :: W0 : Objs).map (·.1)).Nodup → [x, d, la, lh, lp].Nodup)
    (h0 : 0 ≤ c.step) (hs : c.step < 1000000000000000) (ha : ∀ a ∈ c.act, a < 4611686018427387904) (hpl : c.place.length = c.act.length) (hv : Valid c.act.length c.heap) (hl : c.heap.length < 1000) (hl2 : c.act.length < 1000)
    (hk : ∀ l, K (.val .none) ((l, .ints (decayC limit c).act) :: w3 l)) : CallS (PX sa sl) w (b + 6) (.ref 127) [.ref x] ((la, .ints c.act) :: W0) K := by
  intro vs hvs
  refine frameR (act2 := c.act) hx hd hh hp ud uh up hn hk (decay_S h0 hs ha hpl hv hl hl2 (fun q l => ⟨rfl, .inl ⟨l, ?_⟩⟩) (fun q1 => ⟨rfl, .inr ?_⟩) vs hvs)
  · rw [show decayC limit c = rescaleC { c with step := c.step + c.step.fdiv (20 - 1) + 1 } from if_pos q]; rfl
  · rw [show decayC limit c = _ from if_neg q1]
theorem rescale_W (hx : (x, .inst 142 d) ∈ W0) (hd : (d, .idict (coreK (.int limit) (.int c.step) la lh lp)) ∈ W0) (hh : (lh, .ints c.heap) ∈ W0) (hp : (lp, .ints c.place) ∈ W0)
    (ud : ∀ l, Up d (.idict (coreK (.int limit) (.int c.step) la lh lp)) (.idict (coreK (.int limit) (.int (rescaleC c).step) l lh lp)) W0 (w1 l)) (uh : ∀ l, Up lh (.ints c.heap) (.ints (rescaleC c).heap) (w1 l) (w2 l)) (up : ∀ l, Up lp (.ints c.place) (.ints (rescaleC c).place) (w2 l) (w3 l))
    (hn : (((la, AO.ints c.act) :: W0 : Objs).map (·.1)).Nodup → [x, d, la, lh, lp].Nodup)
    (h0 : 0 ≤ c.step) (hs : c.step < 4611686018427387904) (ha : ∀ a ∈ c.act, a < 4611686018427387904) (hpl : c.place.length = c.act.length) (hv : Valid c.act.length c.heap) (hl : c.heap.length < 1000) (hl2 : c.act.length < 1000)
    (hk : ∀ l, K (.val .none) ((l, .ints (rescaleC c).act) :: w3 l)) : CallS (PX sa sl) w (b + 5) (.ref 132) [.ref x] ((la, .ints c.act) :: W0) K := by
  intro vs hvs
  exact frameR (act2 := c.act) hx hd hh hp ud uh up hn hk (rescale_S h0 hs ha hpl hv hl hl2 (fun l => ⟨rfl, .inl ⟨l, rfl⟩⟩) vs hvs)
end
noncomputable abbrev feedN (D1 : Addr) (s : Int) : List (Str × AV) := [(Str.ofString "cells", .ref D1), (Str.ofString "spot", .int s)]
noncomputable abbrev worldK (lim step : Int) (ro no : Addr) : List (Str × AV) := [(Str.ofString "limit", .int lim), (Str.ofString "step", .int step), (Str.ofString "rows", .ref ro), (Str.ofString "in", .ref no)]
section
variable {w : World} {sa : Addr} {sl : List Int} {b : Nat} {objs objs' : Objs} {K : AV → Objs → Prop}
theorem next_S {fd D1 : Addr} {cells : List Int} {s wide : Int} (U : Up fd (.dict (feedN D1 s)) (.dict (feedN D1 (s + 1))) objs objs') (hf : (fd, .dict (feedN D1 s)) ∈ objs) (hc' : (D1, .ints cells) ∈ objs') (hf' : (fd, .dict (feedN D1 (s + 1))) ∈ objs') (h0 : 0 ≤ s) (h1 : s ≤ 200) (hl : cells.length ≤ 60) (hw : 0 < wide) (hw2 : wide < 1000)
    (h : ∀ r, 0 ≤ r → r < wide → K (.int r) objs') : CallS (PX sa sl) w (b + 1) (.ref 153) [.ref fd, .int wide] objs K := by
  refine' CallS_code (CodeS_def (names := [Str.ofString "feed", Str.ofString "wide"]) (vargs := [.ref fd, .int wide]) ?ho ?hcd ?hb ?hl ?hnn ?hkind ?hnd ?hfree ?hco ?hgen ?hk ?_)
  k_extra "def"
  have hmod : ∀ i : Int, 0 ≤ i.fmod wide ∧ i.fmod wide < wide := fun i => ⟨Int.fmod_nonneg_of_pos _ hw, Int.fmod_lt_of_pos _ hw⟩
  k_extra "ws"
  all_goals exact h _ (hmod _).1 (hmod _).2
end
example : True := by
  k_with "cv" => (with_reducible exact CV_max2)
  trivial
example : True := by
  k_with "cv" => (with_reducible exact CV_abs)
  trivial
example : True := by
  k_with "call" => (((with_reducible refine' Call_max ?zq0 ?zq1 (fun _ _ _ => ?_)); (case zq0 => k_extra "mem"); (case zq1 => k_extra "ar")))
  trivial
section
variable {w : World} {sa : Addr} {sl : List Int} {b : Nat} {objs : Objs} {o1 o2 : Addr → Objs} {K : AV → Objs → Prop}
theorem scaled_S {wd ro no : Addr} {lim step : Int} {rows : List Int} (hw : (wd, .dict (worldK lim step ro no)) ∈ objs) (hr : (ro, .ints rows) ∈ objs)
    (U1 : ∀ l, Up wd (.dict (worldK lim step ro no)) (.dict (worldK lim step l no)) objs (o1 l)) (U2 : ∀ l, Up wd (.dict (worldK lim step l no)) (.dict (worldK lim (stepF step (0 :: rows)) l no)) (o1 l) (o2 l))
    (h0 : 0 ≤ step) (hs : step < 4611686018427387904) (hg : ∀ a ∈ rows, a < 4611686018427387904) (hl : rows.length < 100)
    (h : ∀ l, K (.val .none) ((l, .ints (scaleR step rows)) :: o2 l)) : CallS (PX sa sl) w (b + 1) (.ref 158) [.ref wd] objs K := by
  refine CallS.drop ?_
  refine' CallS_code (CodeS_def (names := [Str.ofString "world"]) (vargs := [.ref wd]) ?ho ?hcd ?hb ?hl ?hnn ?hkind ?hnd ?hfree ?hco ?hgen ?hk ?_)
  k_extra "def"
  k_extra "ws"
  rename_i T1 T2 M hM1 hM2
  have hMg := great_is h0 hM1 hM2
  have hf : M.fdiv 1024 = M / 1024 := Int.fdiv_eq_ediv_of_nonneg _ (by decide)
  have hby : byF step (0 :: rows) = M.fdiv 1024 + 1 := by unfold byF; rw [hMg]
  have hM0 : 0 ≤ M := by have := hM2 step (List.mem_append_right _ (.head _)); (first | lia | omega)
  have hMl : M < 4611686018427387904 := by
    rcases List.mem_append.mp hM1 with q | q
    · exact hg _ q
    · rw [List.mem_singleton.mp q]; exact hs
  clear hM1 hM2 hMg
  refine S_while (fun k vs os => ∃ p : Int, k = (M.fdiv 1024 + 1 - p).toNat ∧ vs = [(Str.ofString "world", AV.ref wd), (Str.ofString "greatest", AV.int M), (Str.ofString "parts", AV.int p)] ∧ os = (T2, AO.ints (rows ++ [step])) :: (T1, AO.ints [step]) :: objs ∧ 1 ≤ p ∧ p ≤ M.fdiv 1024 + 1) _ ⟨1, rfl, rfl, rfl, Int.le_refl _, by (first | lia | omega)⟩ ?_
  rintro k vs os ⟨p, rfl, rfl, rfl, p1, p2⟩
  k_extra "ws"
  · refine ⟨_, _, ⟨_, ?_, _, rfl, rfl, rfl, ?_, ?_⟩, by k_extra "sub", by k_extra "sub"⟩
    · split <;> (first | lia | omega)
    · split <;> (first | lia | omega)
    · split <;> (first | lia | omega)
  obtain rfl : p = byF step (0 :: rows) := by (first | lia | omega)
  unfold scaleR at h
  have hst := step_is (act := 0 :: rows) h0
  generalize hB : byF step (0 :: rows) = B at *
  refine' WE_comp accI (.one (Str.ofString "amount") _) [(Str.ofString "parts", _)] ?_ ?hsc ?hfi
  case hsc => k_extra "scope"
  case hfi => exact fun _ _ => rfl
  k_extra "ws"
  refine CompH.list_f (ns := rows) (fun k => some (k.fdiv B)) (by (first | lia | omega)) (by k_extra "mem") (fun k hk ys J hJ => CTurn.none ?_) ?_
  · k_extra "ws"
    exact ⟨_, _, ⟨rfl, rfl⟩, hJ⟩
  rw [show rows.filterMap (fun k => some (k.fdiv B)) = rows.map fun a => a.fdiv B from congrFun List.filterMap_eq_map rows]
  dsimp only [accI]
  intro l
  have u1 := U1 l
  have u2 := U2 l
  have m2 := u2.mem
  have m3 := u2.self
  have hK := h l
  rw [← hst] at u2 m3
  clear h
  k_extra "ws"
  exact ⟨_, by k_extra "sub", hK⟩
end
section
variable {w : World} {sa : Addr} {sl : List Int} {b : Nat} {x d la lh lp wd ro no : Addr} {limit step : Int} {act heap place rows ins : List Int} {objs : Objs} {K : AV → Objs → Prop}
theorem alike_S (hx : (x, .inst 142 d) ∈ objs) (hd : (d, .idict (coreK (.int limit) (.int step) la lh lp)) ∈ objs) (ha : (la, .ints act) ∈ objs) (hp : (lp, .ints place) ∈ objs)
    (hw : (wd, .dict (worldK limit step ro no)) ∈ objs) (hr : (ro, .ints rows) ∈ objs) (hi : (no, .ints ins) ∈ objs) (H : Alike act place rows ins) (h : K (.bool true) objs) :
    CallS (PX sa sl) w (b + 3) (.ref 163) [.ref x, .ref wd] objs K := by
  refine CallS.drop ?_
  refine' CallS_code (CodeS_def (names := [Str.ofString "heap", Str.ofString "world"]) (vargs := [.ref x, .ref wd]) ?ho ?hcd ?hb ?hl ?hnn ?hkind ?hnd ?hfree ?hco ?hgen ?hk ?_)
  k_extra "def"
  obtain ⟨h1, h2, h3, h4, h7, h5, h6⟩ := H
  have hal : act.length = rows.length + 1 := by rw [h1]; rfl
  k_extra "ws"
  refine' S_assign_comp accI (.one (Str.ofString "var") _) [(Str.ofString "heap", _)] ?_ ?hsc ?hfi ?hy ?hsw
  case hsc => k_extra "scope"
  case hfi => exact fun _ _ => rfl
  case hy => exact rfl
  case hsw => k_extra "sw"
  k_extra "ws"
  refine CompH.rng_f (a := 1) (z := (act.length : Int) - 1 + 1) (fun v => if 0 ≤ place.getD v.toNat 0 then some v else none) (by (first | lia | omega)) (by (first | lia | omega)) (by (first | lia | omega)) (by (first | lia | omega)) (by (first | lia | omega)) (by k_extra "mem") (fun k hk0 hk1 ys J hJ => CTurn.one ?_) ?_
  · k_extra "ws"
    · exact ⟨_, _, ⟨rfl, rfl⟩, by rw [if_pos (by assumption)] at hJ; exact hJ⟩
    · rw [if_neg (by (first | lia | omega))] at hJ; rw [Option.toList_none, List.append_nil] at hJ; exact hJ
  dsimp only [accI]
  intro D3
  generalize hT : (rangeKs 1 ((act.length : Int) - 1 + 1 - 1).toNat).filterMap (fun v => if 0 ≤ place.getD v.toNat 0 then some v else none) = told
  have hE : ∀ l, l.Perm ins → l.Pairwise (· ≤ ·) → told = l := fun l p1 p2 => by
    rw [show ((act.length : Int) - 1 + 1 - 1).toNat = rows.length by (first | lia | omega)] at hT
    obtain ⟨t1, t2, t3⟩ := told_sorted (p := fun v => 0 ≤ place.getD v.toNat 0) (n := rows.length)
    rw [hT] at t1 t2 t3
    refine sorted_eq (List.Perm.refl _) t1 p1 p2 (perm_of_mem t2 h4 fun v => ?_)
    rw [t3]
    exact ⟨fun q => (h6 v q.1.1 q.1.2).mp q.2, fun q => ⟨h5 v q, (h6 v (h5 v q).1 (h5 v q).2).mpr q⟩⟩
  have h8 : act = [0] ++ rows := h1
  have hTl : told.length < 1000 := by
    rw [← hT]
    refine Nat.lt_of_le_of_lt (List.length_filterMap_le _ _) ?_
    unfold rangeKs
    rw [List.length_map, List.length_range]
    (first | lia | omega)
  clear hT
  k_extra "ws"
  · rename_i D4 l' p1 p2
    rw [hE l' p1 p2, decide_eq_true rfl]
    exact ⟨_, by k_extra "sub", h⟩
  all_goals first | exact absurd trivial (by with_reducible assumption) | exact absurd h8 (by with_reducible assumption)
end
section
variable {w : World} {sa : Addr} {sl : List Int} {b : Nat} {wd ro no : Addr} {limit step : Int} {rows ins : List Int} {objs : Objs} {K : AV → Objs → Prop}
theorem first_S (hw : (wd, .dict (worldK limit step ro no)) ∈ objs) (hr : (ro, .ints rows) ∈ objs) (hi : (no, .ints ins) ∈ objs) (hn : ins.Nodup) (hl : ins.length ≤ 20) (hl2 : rows.length ≤ 20) (hg : ∀ v ∈ ins, 1 ≤ v ∧ v ≤ rows.length) (h : ∀ r, FirstIs rows ins r → K (.int r) objs) :
    CallS (PX sa sl) w (b + 3) (.ref 168) [.ref wd] objs K := by
  refine CallS.drop ?_
  refine' CallS_code (CodeS_def (names := [Str.ofString "world"]) (vargs := [.ref wd]) ?ho ?hcd ?hb ?hl ?hnn ?hkind ?hnd ?hfree ?hco ?hgen ?hk ?_)
  k_extra "def"
  k_extra "ws"
  refine' WE_comp accP (.one (Str.ofString "var") _) [(Str.ofString "world", _)] ?_ ?hsc ?hfi
  case hsc => k_extra "scope"
  case hfi => exact fun _ _ => rfl
  k_extra "ws"
  refine CompH.list_f (ns := ins) (fun v => some (0 - rows.getD (v - 1).toNat 0, v)) (by (first | lia | omega)) (by k_extra "mem") (fun v hv ys J hJ => CTurn.none ?_) ?_
  · have hvr := hg v hv
    k_extra "ws"
    exact ⟨_, _, ⟨_, rfl, rfl⟩, hJ⟩
  dsimp only [accP]
  intro D3
  rw [show ins.filterMap (fun v => some (0 - rows.getD (v - 1).toNat 0, v)) = ins.map fun v => (0 - rows.getD (v - 1).toNat 0, v) from congrFun List.filterMap_eq_map ins]
  have hnd : (ins.map fun v => (0 - rows.getD (v - 1).toNat 0, v)).Nodup := List.pairwise_map.mpr (hn.imp fun hne e => hne (Prod.mk.inj e).2)
  refine' Call_sortedP (by k_extra "mem") hnd (by rw [List.length_map]; (first | lia | omega)) (fun D4 ps ps1 ps2 => ?_)
  have hpl : ps.length = ins.length := by rw [ps1.length_eq, List.length_map]
  have hpos : ps = [] ∨ 0 < ps.length := by cases ps <;> simp
  rcases hpos with hz | hz
  · k_extra "ws"
    · exact absurd hz (by with_reducible assumption)
    · have e : ins = [] := by rw [hz] at hpl; exact List.length_eq_zero_iff.mp hpl.symm
      subst e
      exact ⟨_, by k_extra "sub", h 0 first_nil⟩
  · have hF := first_is hg ps1 ps2 hz
    k_extra "ws"
    · exact ⟨_, by k_extra "sub", h _ hF⟩
    · rename_i hc
      rw [hc] at hz
      cases hz
end
theorem CallS.less {P : Pg} {w : World} {b : Nat} {f : Value} {args : List AV} {objs objs' : Objs} {K : AV → Objs → Prop} (h : CallS P w b f args objs' K) (ho : Pick objs' objs) : CallS P w b f args objs K :=
  fun vs hv A h₀ L m ex s Q E fx hr k => h vs hv A h₀ L m ex s Q E fx (hr.pick ho) k
noncomputable abbrev stO (x d la lh lp fd D1 wd ro no : Addr) (limit : Int) (c : Core) (cells : List Int) (s : Int) (rows ins : List Int) : Objs :=
  [(la, .ints c.act), (x, .inst 142 d), (d, .idict (coreK (.int limit) (.int c.step) la lh lp)), (lh, .ints c.heap), (lp, .ints c.place), (fd, .dict (feedN D1 s)), (D1, .ints cells), (wd, .dict (worldK limit c.step ro no)), (ro, .ints rows), (no, .ints ins)]
example : True := by
  k_with "upl" => ((intro _; k_extra "up"))
  trivial
example : True := by
  k_with "call" => (((with_reducible refine' rescale_W ?zq1 ?zq2 ?zq3 ?zq4 ?zq5 ?zqa ?zqb ?zqc ?zqd ?zqe ?zqf ?zqg ?zqh ?zqi ?zqj (fun _ => ?_)); (case zq1 => k_extra "mem"); (case zq2 => k_extra "mem"); (case zq3 => k_extra "mem"); (case zq4 => k_extra "mem"); (case zq5 => k_extra "upl"); (case zqa => k_extra "upl"); (case zqb => k_extra "upl"); (case zqc => k_extra "nod"); (case zqd => k_extra "arv"); (case zqe => k_extra "arv"); (case zqf => with_reducible assumption); (case zqg => k_extra "len"); (case zqh => k_extra "valid"); (case zqi => k_extra "arv"); (case zqj => k_extra "arv")))
  trivial
example : True := by
  k_with "call" => (((with_reducible refine' scaled_S ?zq1 ?zq2 ?zq3 ?zq4 ?zq5 ?zqa ?zqb ?zqc (fun _ => ?_)); (case zq1 => k_extra "mem"); (case zq2 => k_extra "mem"); (case zq3 => k_extra "upl"); (case zq4 => k_extra "upl"); (case zq5 => k_extra "arv"); (case zqa => k_extra "arv"); (case zqb => with_reducible assumption); (case zqc => k_extra "arv")))
  trivial
example : True := by
  k_with "call" => (((with_reducible refine' alike_S ?zq1 ?zq2 ?zq3 ?zq4 ?zq5 ?zqa ?zqb ?zqc ?_); (case zq1 => k_extra "mem"); (case zq2 => k_extra "mem"); (case zq3 => k_extra "mem"); (case zq4 => k_extra "mem"); (case zq5 => k_extra "mem"); (case zqa => k_extra "mem"); (case zqb => k_extra "mem"); (case zqc => with_reducible assumption)))
  trivial
section
variable {w : World} {sa : Addr} {sl : List Int} {b : Nat} {x d la lh lp fd D1 wd ro no : Addr} {limit s : Int} {c : Core} {cells rows ins : List Int} {K : AV → Objs → Prop}
set_option maxHeartbeats 4000000 in
theorem right_S (G : Good limit c rows ins) (h : ∀ la ro c rows, Good limit c rows ins → K (.bool true) (stO x d la lh lp fd D1 wd ro no limit c cells s rows ins)) :
    CallS (PX sa sl) w (b + 6) (.ref 173) [.ref x, .ref wd] (stO x d la lh lp fd D1 wd ro no limit c cells s rows ins) K := by
  refine CallS.drop ?_
  refine' CallS_code (CodeS_def (names := [Str.ofString "heap", Str.ofString "world"]) (vargs := [.ref x, .ref wd]) ?ho ?hcd ?hb ?hl ?hnn ?hkind ?hnd ?hfree ?hco ?hgen ?hk ?_)
  k_extra "def"
  obtain ⟨b1, b2, b3, b4, b5, b6, b7, b8, b9, b10, b11⟩ := G.bounds
  obtain ⟨R1, R2, R3⟩ := G.F.rescale G.l1 G.l2
  have R4 := rescale_step G.F.ac
  have R5 := R1.F.alike
  have hrl := scaleR_len (step := c.step) (rows := rows)
  have F0 := G.F
  k_extra "ws"
  rename_i B
  refine CallS.less (objs' := stO x d la lh lp fd D1 wd ro no limit c cells s rows ins ++ [(B, .ints rows)]) ?_ (by dsimp only [stO, List.cons_append, List.nil_append]; k_extra "sub")
  dsimp only [stO, List.cons_append, List.nil_append]
  k_extra "ws"
  rename_i l1 l2
  rw [← R4]
  generalize rescaleC c = c' at *
  generalize hrw : scaleR c.step rows = rows' at *
  obtain ⟨d1, d2, d3, d4, d5, d6, d7, d8, d9, d10, d11⟩ := R1.bounds
  k_extra "ws"
  refine ⟨fun _ => ?_, fun q => by cases q⟩
  k_extra "ws"
  · rename_i M hM1 hM2
    exfalso
    rw [R1.F.ac] at hM1
    rcases List.mem_append.mp hM1 with q | q
    · rcases List.mem_cons.mp q with q | q
      · (first | lia | omega)
      · have := R3 M q; (first | lia | omega)
    · rw [List.mem_singleton.mp q] at hc; (first | lia | omega)
  refine S_less (vars' := [(Str.ofString "heap", .ref x), (Str.ofString "world", .ref wd), (Str.ofString "before", .ref B)]) (objs' := [(l1, .ints c'.act), (x, .inst 142 d), (d, .idict (coreK (.int limit) (.int c'.step) l1 lh lp)), (lh, .ints c'.heap), (lp, .ints c'.place), (fd, .dict (feedN D1 s)), (D1, .ints cells), (wd, .dict (worldK limit c'.step l2 no)), (l2, .ints rows'), (no, .ints ins), (B, .ints rows)]) ?_ (by k_extra "sub") (by k_extra "sub")
  refine' S_for_rng ?_ ?hx ?hs
  case hx => exact .inr rfl
  case hs => exact fun _ _ => rfl
  k_extra "ws"
  rename_i G1
  refine for_rng (n := rows.length) (fun i vs os => vs = [(Str.ofString "heap", .ref x), (Str.ofString "world", .ref wd), (Str.ofString "before", .ref B)] ∧ os = [(G1, .rng 0 rows.length 1), (l1, .ints c'.act), (x, .inst 142 d), (d, .idict (coreK (.int limit) (.int c'.step) l1 lh lp)), (lh, .ints c'.heap), (lp, .ints c'.place), (fd, .dict (feedN D1 s)), (D1, .ints cells), (wd, .dict (worldK limit c'.step l2 no)), (l2, .ints rows'), (no, .ints ins), (B, .ints rows)])
    (by k_extra "mem") (small_one (by (first | lia | omega)) (by (first | lia | omega)) (by (first | lia | omega)) (by (first | lia | omega))) (by rw [Mine.rangeSize_one]; (first | lia | omega)) ⟨rfl, rfl⟩ ?_ ?_
  · rintro i vs os hi ⟨rfl, rfl⟩
    obtain ⟨k, hk⟩ : ∃ k : Int, (0 : Int) + (i : Int) * 1 = k := ⟨_, rfl⟩
    have hk0 : k.toNat = i ∧ 0 ≤ k ∧ k < rows.length := by (first | lia | omega)
    rw [hk]
    refine ⟨_, by k_extra "setv", ?_⟩
    k_extra "ws"
    refine' WE_comp accI (.one (Str.ofString "j") _) [(Str.ofString "before", _), (Str.ofString "k", _), (Str.ofString "heap", _)] ?_ ?hsc ?hfi
    case hsc => k_extra "scope"
    case hfi => exact fun _ _ => rfl
    k_extra "ws"
    refine CompH.rng_f (a := 0) (z := (rows.length : Int)) (fun j => if rows.getD k.toNat 0 < rows.getD j.toNat 0 ∧ c'.act.getD (j + 1).toNat 0 < c'.act.getD (k + 1).toNat 0 then some j else none) (by (first | lia | omega)) (by (first | lia | omega)) (by (first | lia | omega)) (by (first | lia | omega)) (by (first | lia | omega)) (by k_extra "mem") (fun j hj0 hj1 ys J hJ => CTurn.one ?_) ?_
    · k_extra "ws"
      · rw [if_pos ⟨by with_reducible assumption, by with_reducible assumption⟩] at hJ
        exact ⟨_, _, ⟨rfl, rfl⟩, hJ⟩
      all_goals
        rw [if_neg (fun q => by (first | lia | omega)), Option.toList_none, List.append_nil] at hJ
        exact hJ
    dsimp only [accI]
    intro D3
    have hnone : (rangeKs 0 ((rows.length : Int) - 0).toNat).filterMap (fun j => if rows.getD k.toNat 0 < rows.getD j.toNat 0 ∧ c'.act.getD (j + 1).toNat 0 < c'.act.getD (k + 1).toNat 0 then some j else none) = [] := by
      rw [List.filterMap_eq_nil_iff]
      intro j hj
      unfold rangeKs at hj
      obtain ⟨e, he, rfl⟩ := List.mem_map.mp hj
      have := List.mem_range.mp he
      rw [if_neg]
      rintro ⟨q1, q2⟩
      rw [R1.F.ac, cons_getD (by (first | lia | omega)), cons_getD (by (first | lia | omega)), ← hrw] at q2
      rw [show (0 : Int) + (e : Int) + 1 - 1 = (0 : Int) + (e : Int) by (first | lia | omega), show k + 1 - 1 = k by (first | lia | omega)] at q2
      exact scale_mono b1 (by (first | lia | omega)) (by (first | lia | omega)) q1 q2
    rw [hnone]
    k_extra "ws"
    exact absurd trivial (by assumption)
  rintro vs os ⟨rfl, rfl⟩
  dsimp only [seqK]
  obtain ⟨Z1, Z2, Z3⟩ := R1.F.rescale G.l1 G.l2
  obtain ⟨E1, E2⟩ := scale_again R1.F.s1 R2 fun a ha => ⟨R1.F.a0 a ha, R3 a ha⟩
  have S4 := (rescale_step R1.F.ac).trans E2
  rw [E1] at Z1
  have Z5 := Z1.F.alike
  refine S_less (vars' := [(Str.ofString "heap", .ref x), (Str.ofString "world", .ref wd)]) (objs' := [(l1, .ints c'.act), (x, .inst 142 d), (d, .idict (coreK (.int limit) (.int c'.step) l1 lh lp)), (lh, .ints c'.heap), (lp, .ints c'.place), (fd, .dict (feedN D1 s)), (D1, .ints cells), (wd, .dict (worldK limit c'.step l2 no)), (l2, .ints rows'), (no, .ints ins)]) ?_ (by k_extra "sub") (by k_extra "sub")
  refine S_cons ?_
  k_extra "ws"
  rename_i l3
  rw [← S4]
  generalize rescaleC c' = c'' at *
  k_extra "ws"
  refine ⟨_, ?_, h l3 l2 c'' rows' Z1⟩
  dsimp only [stO]
  k_extra "sub"
end
section
variable {w : World} {sa : Addr} {sl : List Int} {b : Nat} {x d la lh lp : Addr} {lim stp : AV} {act heap place : List Int} {objs w1 w2 w3 w4 : Objs} {K : AV → Objs → Prop}
theorem push_W {v : Int} (hx : (x, .inst 142 d) ∈ objs) (hd : (d, .idict (coreK lim stp la lh lp)) ∈ objs) (ha : (la, .ints act) ∈ objs) (hh : (lh, .ints heap) ∈ objs) (hp : (lp, .ints place) ∈ objs)
    (ud : Up d (.idict (coreK lim stp la lh lp)) (.idict (coreK lim stp la lh lp)) objs w1) (ua : Up la (.ints act) (.ints act) w1 w2) (uh : Up lh (.ints heap) (.ints (pushF act heap place v).1) w2 w3) (up : Up lp (.ints place) (.ints (pushF act heap place v).2) w3 w4)
    (hn : (objs.map (·.1)).Nodup → [x, d, la, lh, lp].Nodup)
    (hpl : place.length = act.length) (hv : Valid act.length heap) (h0 : 0 ≤ v) (h1 : v < (act.length : Int)) (hl : heap.length < 999) (hl2 : act.length < 1000) (h : K (.val .none) w4) :
    CallS (PX sa sl) w (b + 4) (.ref 99) [.ref x, .int v] objs K :=
  fun vs hvs => frame5 hx hd ha hh hp ud ua uh up hn h (push_S hpl hv h0 h1 hl hl2 ⟨rfl, rfl⟩ vs hvs)
end
example : True := by
  k_with "w" => (((with_reducible show endK _ _ _ _ _); dsimp only [endK]))
  trivial
example : True := by
  k_with "call" => (((with_reducible refine' bump_W ?zq1 ?zq2 ?zq3 ?zq4 ?zq5 ?zqa ?zqb ?zqc ?zqd ?zqe ?zqf ?zqg ?zqh ?zqi ?zqj ?zqk ?zql ?zqm (fun _ => ?_)); (case zq1 => k_extra "mem"); (case zq2 => k_extra "mem"); (case zq3 => k_extra "mem"); (case zq4 => k_extra "mem"); (case zq5 => k_extra "upl"); (case zqa => k_extra "upl"); (case zqb => k_extra "upl"); (case zqc => k_extra "nod"); (case zqd => k_extra "arv"); (case zqe => k_extra "arv"); (case zqf => with_reducible assumption); (case zqg => k_extra "len"); (case zqh => k_extra "valid"); (case zqi => k_extra "arv"); (case zqj => k_extra "arv"); (case zqk => k_extra "arv"); (case zql => k_extra "arv"); (case zqm => with_reducible assumption)))
  trivial
example : True := by
  k_with "call" => (((with_reducible refine' decay_W ?zq1 ?zq2 ?zq3 ?zq4 ?zq5 ?zqa ?zqb ?zqc ?zqd ?zqe ?zqf ?zqg ?zqh ?zqi ?zqj (fun _ => ?_)); (case zq1 => k_extra "mem"); (case zq2 => k_extra "mem"); (case zq3 => k_extra "mem"); (case zq4 => k_extra "mem"); (case zq5 => k_extra "upl"); (case zqa => k_extra "upl"); (case zqb => k_extra "upl"); (case zqc => k_extra "nod"); (case zqd => k_extra "arv"); (case zqe => k_extra "arv"); (case zqf => with_reducible assumption); (case zqg => k_extra "len"); (case zqh => k_extra "valid"); (case zqi => k_extra "arv"); (case zqj => k_extra "arv")))
  trivial
example : True := by
  k_with "call" => (((with_reducible refine' next_S ?zq1 ?zq2 ?zq3 ?zq4 ?zq5 ?zqa ?zqb ?zqc ?zqd (fun _ _ _ => ?_)); (case zq1 => k_extra "up"); (case zq2 => k_extra "mem"); (case zq3 => k_extra "mem"); (case zq4 => k_extra "mem"); (case zq5 => k_extra "arv"); (case zqa => k_extra "arv"); (case zqb => k_extra "arv"); (case zqc => k_extra "arv"); (case zqd => k_extra "arv")))
  trivial
example : True := by
  k_with "call" => (((with_reducible refine' first_S ?zq1 ?zq2 ?zq3 ?zq4 ?zq5 ?zqa ?zqb (fun _ _ => ?_)); (case zq1 => k_extra "mem"); (case zq2 => k_extra "mem"); (case zq3 => k_extra "mem"); (case zq4 => with_reducible assumption); (case zq5 => k_extra "arv"); (case zqa => k_extra "arv"); (case zqb => with_reducible assumption)))
  trivial
example : True := by
  k_with "call" => (((with_reducible refine' pop_W ?zq1 ?zq2 ?zq3 ?zq4 ?zq5 ?zqa ?zqb ?zqc ?zqd ?zqe ?zqf ?zqg ?zqh ?zqi ?zqj ?_); (case zq1 => k_extra "mem"); (case zq2 => k_extra "mem"); (case zq3 => k_extra "mem"); (case zq4 => k_extra "mem"); (case zq5 => k_extra "mem"); (case zqa => k_extra "up"); (case zqb => k_extra "up"); (case zqc => k_extra "up"); (case zqd => k_extra "up"); (case zqe => k_extra "nod"); (case zqf => k_extra "len"); (case zqg => k_extra "valid"); (case zqh => k_extra "arv"); (case zqi => k_extra "arv"); (case zqj => k_extra "arv")))
  trivial
example : True := by
  k_with "call" => (((with_reducible refine' push_W ?zq1 ?zq2 ?zq3 ?zq4 ?zq5 ?zqa ?zqb ?zqc ?zqd ?zqe ?zqf ?zqg ?zqh ?zqi ?zqj ?zqk ?_); (case zq1 => k_extra "mem"); (case zq2 => k_extra "mem"); (case zq3 => k_extra "mem"); (case zq4 => k_extra "mem"); (case zq5 => k_extra "mem"); (case zqa => k_extra "up"); (case zqb => k_extra "up"); (case zqc => k_extra "up"); (case zqd => k_extra "up"); (case zqe => k_extra "nod"); (case zqf => k_extra "len"); (case zqg => k_extra "valid"); (case zqh => k_extra "arv"); (case zqi => k_extra "arv"); (case zqj => k_extra "arv"); (case zqk => k_extra "arv")))
  trivial
example : True := by
  k_with "call" => (((with_reducible refine' grow_W ?zq1 ?zq2 ?zq3 ?zq4 ?zq5 ?zqa ?zqb ?zqc ?zqd ?zqe ?zqf ?zqg ?zqh ?zqi ?zqj ?_); (case zq1 => k_extra "mem"); (case zq2 => k_extra "mem"); (case zq3 => k_extra "mem"); (case zq4 => k_extra "mem"); (case zq5 => k_extra "mem"); (case zqa => k_extra "up"); (case zqb => k_extra "up"); (case zqc => k_extra "up"); (case zqd => k_extra "up"); (case zqe => k_extra "nod"); (case zqf => k_extra "len"); (case zqg => k_extra "valid"); (case zqh => k_extra "arv"); (case zqi => k_extra "arv"); (case zqj => k_extra "arv")))
  trivial
example : True := by
  k_with "call" => (((with_reducible refine' Call_set ?zq1 ?zq2 (fun _ _ _ _ _ => ?_)); (case zq1 => k_extra "mem"); (case zq2 => k_extra "arv")))
  trivial
example : True := by
  k_with "call" => (((with_reducible refine' Call_sortedS ?zq1 ?zq2 (fun _ _ _ _ => ?_)); (case zq1 => k_extra "mem"); (case zq2 => k_extra "arv")))
  trivial
/-- the state behind a deed -/
noncomputable def deedJ (x d lh lp fd D1 wd : Addr) (limit s : Int) (cells : List Int) : Vars → Objs → Prop := fun v o => ∃ la ro no c rows ins s', v = [(Str.ofString "feed", .ref fd), (Str.ofString "heap", .ref x), (Str.ofString "world", .ref wd)] ∧ o = stO x d la lh lp fd D1 wd ro no limit c cells s' rows ins ∧ Good limit c rows ins ∧ 0 ≤ s' ∧ s' ≤ s + 3
/-- the state behind a lap -/
noncomputable def lapJ (x d lh lp fd D1 wd no : Addr) (limit s var : Int) (cells ins : List Int) : Objs → Prop := fun o => ∃ la ro c rows, o = stO x d la lh lp fd D1 wd ro no limit c cells s rows ins ∧ Good limit c rows ins ∧ 1 ≤ var ∧ var ≤ rows.length
section
variable {w : World} {sa : Addr} {sl : List Int} {b : Nat} {x d la lh lp fd D1 wd ro no : Addr} {limit s : Int} {c : Core} {cells rows ins : List Int} {K : AV → Objs → Prop}
set_option maxHeartbeats 4000000 in
theorem deed_S (G : Good limit c rows ins) (hs0 : 0 ≤ s) (hs1 : s ≤ 150) (hcl : cells.length ≤ 60)
    (h : ∀ la ro no c rows ins s', Good limit c rows ins → 0 ≤ s' → s' ≤ s + 3 → K (.bool true) (stO x d la lh lp fd D1 wd ro no limit c cells s' rows ins)) :
    CallS (PX sa sl) w (b + 7) (.ref 178) [.ref fd, .ref x, .ref wd] (stO x d la lh lp fd D1 wd ro no limit c cells s rows ins) K := by
  refine CallS.drop ?_
  refine' CallS_code (CodeS_def (names := [Str.ofString "feed", Str.ofString "heap", Str.ofString "world"]) (vargs := [.ref fd, .ref x, .ref wd]) ?ho ?hcd ?hb ?hl ?hnn ?hkind ?hnd ?hfree ?hco ?hgen ?hk ?_)
  k_extra "def"
  obtain ⟨b1, b2, b3, b4, b5, b6, b7, b8, b9, b10, b11⟩ := G.bounds
  with_reducible refine S_then (fun v o => ∃ way var : Int, v = [(Str.ofString "feed", .ref fd), (Str.ofString "heap", .ref x), (Str.ofString "world", .ref wd), (Str.ofString "var", .int var), (Str.ofString "way", .int way)] ∧ o = stO x d la lh lp fd D1 wd ro no limit c cells (s + 1 + 1) rows ins ∧ 1 ≤ var ∧ var ≤ rows.length) ?_ ?_
  · rintro v o ⟨way, var, rfl, rfl, v1, v2⟩
    with_reducible refine S_then (deedJ x d lh lp fd D1 wd limit s cells) ?_ ?_
    · clear v1 v2 G b1 b2 b3 b4 b5 b6 b7 b8 b9 b10 b11
      rintro v o ⟨la, ro, no, c, rows, ins, s', rfl, rfl, G, t1, t2⟩
      have hA := G.F.alike
      have hK := h la ro no c rows ins s' G t1 t2
      clear h
      dsimp only [stO] at hK ⊢
      k_extra "ws"
      exact ⟨_, by k_extra "sub", hK⟩
    · have hil : (ins ++ [var]).length = ins.length + 1 := List.length_append
      have hhl := G.F.hl
      have hnd := G.F.R.nd
      have hrg := G.F.R.rg
      dsimp only [stO]
      k_extra "ws"
      · exact right_S G fun la ro c rows G => ⟨_, .of_sub (List.Sublist.refl _), h la ro no c rows ins _ G (by (first | lia | omega)) (by (first | lia | omega))⟩
      · exfalso; (first | lia | omega)
      · clear h
        refine' S_for_rng ?_ ?hx ?hs
        case hx => exact .inl rfl
        case hs => exact fun _ _ => rfl
        k_extra "ws"
        rename_i r r0 r1 G1
        refine for_rngP (n := (1 + 9 * r).toNat) (fun _ => lapJ x d lh lp fd D1 wd no limit (s + 1 + 1 + 1) var cells ins) (by k_extra "mem") (small_one (by (first | lia | omega)) (by (first | lia | omega)) (by (first | lia | omega)) (by (first | lia | omega))) (by rw [Mine.rangeSize_one]; (first | lia | omega)) ⟨stO x d la lh lp fd D1 wd ro no limit c cells (s + 1 + 1 + 1) rows ins, by dsimp only [stO]; k_extra "sub", la, ro, c, rows, rfl, G, v1, v2⟩ ?_ ?_
        · clear b1 b2 b3 b4 b5 b6 b7 b8 b9 b10 b11 hnd hrg v1 v2 G
          rintro i o hi ⟨la, ro, c, rows, rfl, G, v1, v2⟩
          obtain ⟨b1, b2, b3, b4, b5, b6, b7, b8, b9, b10, b11⟩ := G.bounds
          obtain ⟨e1, e2, e3⟩ := G.decayed
          dsimp only [stO]
          refine ⟨_, by k_extra "setv", ?_⟩
          k_extra "ws"
          · rename_i l1 l2
            obtain ⟨g1, g2⟩ := e1 hc
            rw [g2]
            exact ⟨_, _, ⟨rfl, l1, l2, _, _, rfl, g1, v1, by rw [scaleR_len]; exact v2⟩, by k_extra "sub", by dsimp only [stO]; k_extra "sub"⟩
          · rename_i l1
            obtain ⟨g1, g2⟩ := e2 (by (first | lia | omega))
            rw [g2]
            exact ⟨_, _, ⟨rfl, l1, ro, _, _, rfl, g1, v1, v2⟩, by k_extra "sub", by dsimp only [stO]; k_extra "sub"⟩
        · clear b1 b2 b3 b4 b5 b6 b7 b8 b9 b10 b11 hnd hrg v1 v2 G
          rintro os o hp ⟨la, ro, c, rows, rfl, G, v1, v2⟩
          dsimp only [seqK]
          refine S_less ?_ (List.Sublist.refl _) hp
          k_extra "ws"
          exact ⟨_, _, ⟨la, ro, no, c, rows, ins, _, rfl, rfl, G, by (first | lia | omega), by (first | lia | omega)⟩, by k_extra "sub", .of_sub (List.Sublist.refl _)⟩
      · rename_i r hF
        obtain ⟨p1, p2⟩ := G.popd hF
        refine' WE_comp accI (.one (Str.ofString "one") _) [(Str.ofString "best", _)] ?_ ?hsc ?hfi
        case hsc => k_extra "scope"
        case hfi => exact fun _ _ => rfl
        k_extra "ws"
        refine CompH.list_f (ns := ins) (fun one => if ¬ one = r then some one else none) (by (first | lia | omega)) (by k_extra "mem") (fun k hk ys J hJ => CTurn.one ?_) ?_
        · k_extra "ws"
          · exact ⟨_, _, ⟨rfl, rfl⟩, by rw [if_pos (by assumption)] at hJ; exact hJ⟩
          · rw [if_neg (by simpa using by assumption)] at hJ; rw [Option.toList_none, List.append_nil] at hJ; exact hJ
        dsimp only [accI]
        intro D3
        generalize ins.filterMap (fun one => if ¬ one = r then some one else none) = ins' at p2 ⊢
        k_extra "ws"
        · exact absurd p1 (by assumption)
        · exact ⟨_, _, ⟨la, ro, _, _, rows, ins', s + 1 + 1, rfl, rfl, p2, by (first | lia | omega), by (first | lia | omega)⟩, by k_extra "sub", by dsimp only [stO]; k_extra "sub"⟩
      · rename_i S ks k1 k2 k3 D4 l' p1 p2
        exact ⟨_, _, ⟨la, ro, _, _, rows, l', s + 1 + 1, rfl, rfl, G.pushd v1 v2 k1 k2 p1, by (first | lia | omega), by (first | lia | omega)⟩, by k_extra "sub", by dsimp only [stO]; k_extra "sub"⟩
      · rename_i hc
        exact ⟨_, _, ⟨la, ro, no, _, _, _, s + 1 + 1, rfl, rfl, G.grow (by (first | lia | omega)) rfl, by (first | lia | omega), by (first | lia | omega)⟩, by k_extra "sub", by dsimp only [stO]; k_extra "sub"⟩
      · exact ⟨_, _, ⟨la, ro, no, c, rows, ins, s + 1 + 1, rfl, rfl, G, by (first | lia | omega), by (first | lia | omega)⟩, by k_extra "sub", by dsimp only [stO]; k_extra "sub"⟩
      · exfalso; (first | lia | omega)
      · clear h
        refine' S_for_rng ?_ ?hx ?hs
        case hx => exact .inl rfl
        case hs => exact fun _ _ => rfl
        k_extra "ws"
        rename_i r r0 r1 G1
        refine for_rngP (n := (1 + r).toNat) (fun _ => lapJ x d lh lp fd D1 wd no limit (s + 1 + 1 + 1) var cells ins) (by k_extra "mem") (small_one (by (first | lia | omega)) (by (first | lia | omega)) (by (first | lia | omega)) (by (first | lia | omega))) (by rw [Mine.rangeSize_one]; (first | lia | omega)) ⟨stO x d la lh lp fd D1 wd ro no limit c cells (s + 1 + 1 + 1) rows ins, by dsimp only [stO]; k_extra "sub", la, ro, c, rows, rfl, G, v1, v2⟩ ?_ ?_
        · clear b1 b2 b3 b4 b5 b6 b7 b8 b9 b10 b11 hnd hrg v1 v2 G
          rintro i o hi ⟨la, ro, c, rows, rfl, G, v1, v2⟩
          obtain ⟨b1, b2, b3, b4, b5, b6, b7, b8, b9, b10, b11⟩ := G.bounds
          obtain ⟨e1, e2, e3, e4, e5, e6, e7⟩ := G.bumped v1 v2
          dsimp only [stO]
          refine ⟨_, by k_extra "setv", ?_⟩
          k_extra "ws"
          · rename_i l1 l2
            obtain ⟨g1, g2⟩ := e6 (by (first | lia | omega))
            rw [g2]
            exact ⟨_, _, ⟨rfl, l1, l2, _, _, rfl, g1, v1, by rw [scaleR_len]; (first | lia | omega)⟩, by k_extra "sub", by dsimp only [stO]; k_extra "sub"⟩
          · rename_i l1
            obtain ⟨g1, g2⟩ := e7 (by (first | lia | omega))
            generalize rows.set (var - 1).toNat (rows.getD (var - 1).toNat 0 + c.step) = R at g1 e4 ⊢
            rw [g2]
            exact ⟨_, _, ⟨rfl, l1, ro, _, _, rfl, g1, v1, by (first | lia | omega)⟩, by k_extra "sub", by dsimp only [stO]; k_extra "sub"⟩
        · clear b1 b2 b3 b4 b5 b6 b7 b8 b9 b10 b11 hnd hrg v1 v2 G
          rintro os o hp ⟨la, ro, c, rows, rfl, G, v1, v2⟩
          dsimp only [seqK]
          refine S_less ?_ (List.Sublist.refl _) hp
          k_extra "ws"
          exact ⟨_, _, ⟨la, ro, no, c, rows, ins, _, rfl, rfl, G, by (first | lia | omega), by (first | lia | omega)⟩, by k_extra "sub", .of_sub (List.Sublist.refl _)⟩
  · dsimp only [stO]
    k_extra "ws"
    rename_i r1 r10 r11 r2 r20 r21 T
    exact ⟨_, _, ⟨r1, 1 + r2, rfl, rfl, by (first | lia | omega), by (first | lia | omega)⟩, by k_extra "sub", by k_extra "sub"⟩
end
example : True := by
  k_with "w" => (((with_reducible show Bin _ _ _ _ _ _ _ _); (with_reducible refine' Bin_mulL ?zq0 ?zq1 ?zq2 (fun _ => ?_)); (case zq0 => k_extra "mem"); (case zq1 => k_extra "ar"); (case zq2 => k_extra "ar")))
  trivial
example : True := by
  k_with "ev" => (((with_reducible apply EV_pow); (focus k_extra "ev"); (focus k_extra "ev"); (focus decide); (focus decide); (focus decide)))
  trivial
example : True := by
  k_with "call" => ((with_reducible refine' core_S (fun _ _ _ _ _ => ?_)))
  trivial
example : True := by
  k_with "call" => (((with_reducible refine' deed_S ?zq1 ?zq2 ?zq3 ?zq4 (fun _ _ _ _ _ _ _ _ _ _ => ?_)); (case zq1 => with_reducible assumption); (case zq2 => k_extra "arv"); (case zq3 => k_extra "arv"); (case zq4 => k_extra "arv")))
  trivial
example : True := by
  k_with "call" => (((with_reducible refine' right_S ?zq1 (fun _ _ _ _ _ => ?_)); (case zq1 => with_reducible assumption)))
  trivial
section
variable {w : World} {sa : Addr} {sl : List Int} {b : Nat} {objs : Objs} {K : AV → Objs → Prop}
theorem core_S {limit : Int} (h : ∀ x d la lh lp, K (.ref x) ((lp, .ints [-1]) :: (lh, .ints []) :: (la, .ints [0]) :: (x, .inst 142 d) :: (d, .idict (coreK (.int limit) (.int 1024) la lh lp)) :: objs)) : CallS (PX sa sl) w (b + 2) (.ref 142) [.int limit] objs K := by
  refine' CallS_cls (fI := 36) ?hm ?hi ?hf (fun x d => ?_)
  case hm => k_extra "kis"
  case hi => k_extra "kis"
  case hf => k_extra "kis"
  refine' CodeS_def (names := [Str.ofString "self", Str.ofString "limit"]) (vargs := [.ref x, .int limit]) ?ho ?hcd ?hb ?hl ?hnn ?hkind ?hnd ?hfree ?hco ?hgen ?hk ?_
  case ho => k_extra "kis"
  case hb =>
    intro s vs hX hv
    cases hv with
    | cons a1 r => cases r with
      | cons a2 r =>
        cases r
        exact ⟨_, .cons a1 (.cons a2 .nil), binds_K hX rfl (by k_extra "kis") rfl rfl rfl⟩
  case hcd => k_extra "kis"
  case hl => rfl
  case hnn => decide
  case hkind => rfl
  case hnd => decide +kernel
  case hfree => rfl
  case hco => rfl
  case hgen => rfl
  case hk => rfl
  dsimp only [List.zip_cons_cons, List.zip_nil_left, List.zip_nil_right]
  k_extra "ws"
  exact ⟨rfl, h x d _ _ _⟩
end
/-- the law's state behind its first statements -/
noncomputable def lawJ1 : Vars → Objs → Prop := fun v o => ∃ fd D1 cells, v = [(Str.ofString "feed", .ref fd)] ∧ o = [(fd, .dict (feedN D1 0)), (D1, .ints cells)] ∧ cells.length ≤ 60
noncomputable def lawJ2 : Vars → Objs → Prop := fun v o => ∃ fd D1 cells limit many, v = [(Str.ofString "feed", .ref fd), (Str.ofString "many", .int many), (Str.ofString "limit", .int limit)] ∧ o = [(fd, .dict (feedN D1 (0 + 1 + 1))), (D1, .ints cells)] ∧ cells.length ≤ 60 ∧ 1500 ≤ limit ∧ limit ≤ 1000000000000 ∧ 1 ≤ many ∧ many ≤ 6
noncomputable def lawJ3 : Vars → Objs → Prop := fun v o => ∃ fd D1 cells limit many x d la lh lp wd ro no, v = [(Str.ofString "feed", .ref fd), (Str.ofString "many", .int many), (Str.ofString "heap", .ref x), (Str.ofString "world", .ref wd)] ∧
  o = [(la, .ints [0]), (x, .inst 142 d), (d, .idict (coreK (.int limit) (.int 1024) la lh lp)), (lh, .ints []), (lp, .ints [-1]), (fd, .dict (feedN D1 (0 + 1 + 1))), (D1, .ints cells), (wd, .dict (worldK limit 1024 ro no)), (ro, .ints (List.replicate many.toNat 0)), (no, .ints (rangeKs 1 many.toNat))] ∧ cells.length ≤ 60 ∧ 1500 ≤ limit ∧ limit ≤ 1000000000000 ∧ 1 ≤ many ∧ many ≤ 6
noncomputable def lawJ4 (k : Int) : Vars → Objs → Prop := fun v o => ∃ x d la lh lp fd D1 wd ro no limit c cells s rows ins, v = [(Str.ofString "feed", .ref fd), (Str.ofString "heap", .ref x), (Str.ofString "world", .ref wd)] ∧ o = stO x d la lh lp fd D1 wd ro no limit c cells s rows ins ∧ Good limit c rows ins ∧ cells.length ≤ 60 ∧ 0 ≤ s ∧ s ≤ k
noncomputable def lawJ5 (x d lh lp fd D1 wd : Addr) (limit : Int) (cells : List Int) (k : Int) : Objs → Prop := fun o => ∃ la ro no c s rows ins, o = stO x d la lh lp fd D1 wd ro no limit c cells s rows ins ∧ Good limit c rows ins ∧ 0 ≤ s ∧ s ≤ k
noncomputable def lawJ6 : Vars → Objs → Prop := fun v o => ∃ x d la lh lp D limit step act heap place due rows, v = [(Str.ofString "heap", .ref x), (Str.ofString "due", .ref D)] ∧ o = (D, .ints due) :: coreO x d la lh lp (.int limit) (.int step) act heap place ∧ Left limit act step rows due [] heap place
section
variable {w : World} {sa : Addr} {sl : List Int} {b : Nat} {x d la lh lp : Addr} {lim stp : AV} {act heap place : List Int} {objs w1 w2 w3 w4 : Objs} {K : AV → Objs → Prop}
set_option maxHeartbeats 4000000 in
/-- the law itself -/
theorem law_B (hsl : sl.length ≤ 63) {name qual : Str} {params : Arguments} {body : List Stmt} {scope : Scope} {dV kV doc pm cdv ct oc : Value} {an od : Option Addr} {osl : Array (Option Value)}
    (h : ((PX sa sl).K w.params).lookup 183 = some ⟨oc, od, .func (fnOf name qual params body scope dV kV doc pm an cdv ct), osl⟩) :
    SS (PX sa sl) w scope (b + 19) body [(Str.ofString "script", AV.ref sa)] [] (fun f _ _ => f = .ret (.bool true)) := by
  refine' code_uniq (R := fun scope body => SS (PX sa sl) w scope (b + 19) body [(Str.ofString "script", AV.ref sa)] [] (fun f _ _ => f = .ret (.bool true))) ?ho ?_ h
  case ho => k_extra "kis"
  with_reducible refine S_then lawJ1 ?_ ?_
  · rintro v o ⟨fd, D1, cells, rfl, rfl, hcl⟩
    with_reducible refine S_then lawJ2 ?_ ?_
    · clear hcl
      rintro v o ⟨fd, D1, cells, limit, many, rfl, rfl, hcl, l1, l2, m1, m2⟩
      with_reducible refine S_then lawJ3 ?_ ?_
      · clear hcl l1 l2 m1 m2
        rintro v o ⟨fd, D1, cells, limit, many, x, d, la, lh, lp, wd, ro, no, rfl, rfl, hcl, l1, l2, m1, m2⟩
        with_reducible refine S_then (lawJ4 2) ?_ ?_
        · clear hcl l1 l2 m1 m2
          rintro v o ⟨x, d, la, lh, lp, fd, D1, wd, ro, no, limit, c, cells, s, rows, ins, rfl, rfl, G, hcl, s0, s1⟩
          with_reducible refine S_then (lawJ4 32) ?_ ?_
          · clear hcl G s0 s1
            rintro v o ⟨x, d, la, lh, lp, fd, D1, wd, ro, no, limit, c, cells, s, rows, ins, rfl, rfl, G, hcl, s0, s1⟩
            with_reducible refine S_then (lawJ4 32) ?_ ?_
            · clear hcl G s0 s1
              rintro v o ⟨x, d, la, lh, lp, fd, D1, wd, ro, no, limit, c, cells, s, rows, ins, rfl, rfl, G, hcl, s0, s1⟩
              have hR := G.F.R
              have G0 := G
              obtain ⟨b1, b2, b3, b4, b5, b6, b7, b8, b9, b10, b11⟩ := G.bounds
              clear G hcl s0 s1
              with_reducible refine S_then lawJ6 ?_ ?_
              · clear b1 b2 b3 b4 b5 b6 b7 b8 b9 b10 b11 G0 hR
                rintro v o ⟨x, d, la, lh, lp, D, limit, step, act, heap, place, due, rows, rfl, rfl, hL⟩
                have hdl : due.length ≤ 8 := hL.len
                k_extra "ws"
                refine' WE_comp accI (.one (Str.ofString "lap") _) [(Str.ofString "heap", _)] ?_ ?hsc ?hfi
                case hsc => k_extra "scope"
                case hfi => exact fun _ _ => rfl
                k_extra "ws"
                refine CompH.list (ns := due) (fun i ys o => ∃ heap place, o = (D, .ints due) :: coreO x d la lh lp (.int limit) (.int step) act heap place ∧ ys.length = i ∧ Left limit act step rows due ys heap place) (by (first | lia | omega)) ⟨heap, place, rfl, rfl, hL⟩ (fun i ys o ⟨hp, pl, e, _⟩ => by rw [e]; k_extra "mem") ?_ ?_
                · clear hL
                  rintro i k ys o hk ⟨heap, place, rfl, hy, hL⟩
                  have hi := (List.getElem?_eq_some_iff.mp hk).1
                  have hL2 := hL.turn (by (first | lia | omega))
                  obtain ⟨p2, p3, p4, p5, p6⟩ := hL.bounds
                  refine CTurn.none ?_
                  k_extra "ws"
                  exact ⟨_, _, ⟨rfl, rfl⟩, _, _, rfl, by rw [List.length_append, hy]; rfl, hL2⟩
                clear hL
                rintro ys o ⟨heap, place, rfl, hy, hL⟩
                obtain ⟨q1, q2⟩ := hL.end' hy
                obtain ⟨p2, p3, p4, p5, p6⟩ := hL.bounds
                dsimp only [accI]
                intro D5
                k_extra "ws"
                · rw [q2]; rfl
                · exact absurd q1 (by assumption)
              dsimp only [stO]
              k_extra "ws"
              refine' S_assign_comp accI (.two (Str.ofString "amount") (Str.ofString "var") _ _ _ _) [] ?_ ?hsc ?hfi ?hy ?hsw
              case hsc => k_extra "scope"
              case hfi => exact fun _ _ => rfl
              case hy => exact rfl
              case hsw => k_extra "sw"
              k_extra "ws"
              refine' WE_comp accP (.one (Str.ofString "var") _) [(Str.ofString "world", _)] ?_ ?hsc ?hfi
              case hsc => k_extra "scope"
              case hfi => exact fun _ _ => rfl
              k_extra "ws"
              refine CompH.list_f (ns := ins) (fun v => some (0 - rows.getD (v - 1).toNat 0, v)) (by (first | lia | omega)) (by k_extra "mem") (fun v hv ys J hJ => CTurn.none ?_) ?_
              · have hvr := hR.rg v hv
                k_extra "ws"
                exact ⟨_, _, ⟨_, rfl, rfl⟩, hJ⟩
              dsimp only [accP]
              intro D3
              rw [show ins.filterMap (fun v => some (0 - rows.getD (v - 1).toNat 0, v)) = ins.map fun v => (0 - rows.getD (v - 1).toNat 0, v) from congrFun List.filterMap_eq_map ins]
              have hnd : (ins.map fun v => (0 - rows.getD (v - 1).toNat 0, v)).Nodup := List.pairwise_map.mpr (hR.nd.imp fun hne e => hne (Prod.mk.inj e).2)
              refine' Call_sortedP (by k_extra "mem") hnd (by rw [List.length_map]; (first | lia | omega)) (fun D4 ps ps1 ps2 => ?_)
              have hpl := ps1.length_eq
              rw [List.length_map] at hpl
              refine pairs_f (ps := ps) (fun k => some k.2) (by decide) (by (first | lia | omega)) (by k_extra "mem") (fun k hk ys2 J hJ => CTurn.none ?_) ?_
              · k_extra "ws"
                exact ⟨_, _, ⟨rfl, rfl⟩, hJ⟩
              rw [show ps.filterMap (fun k => some k.2) = ps.map fun k => k.2 from congrFun List.filterMap_eq_map ps]
              dsimp only [accI]
              intro D6
              k_extra "ws"
              exact ⟨_, _, ⟨x, d, la, lh, lp, D6, limit, c.step, c.act, c.heap, c.place, ps.map fun k => k.2, rows, rfl, rfl, due_left G0 ps1 ps2⟩, by k_extra "sub", by k_extra "sub"⟩
            · k_extra "ws"
              rename_i la' ro' c' rows' G'
              exact ⟨_, _, ⟨x, d, la', lh, lp, fd, D1, wd, ro', no, limit, c', cells, s, rows', ins, rfl, rfl, G', hcl, s0, s1⟩, List.Sublist.refl _, .of_sub (List.Sublist.refl _)⟩
          · (with_reducible refine' S_for_rng ?_ ?hx ?hs)
            case hx => exact .inl rfl
            case hs => exact fun _ _ => rfl
            k_extra "ws"
            rename_i G1
            refine for_rngP (n := 10) (fun i => lawJ5 x d lh lp fd D1 wd limit cells (2 + 3 * i)) (by k_extra "mem") (small_one (by (first | lia | omega)) (by (first | lia | omega)) (by (first | lia | omega)) (by (first | lia | omega))) (by rw [Mine.rangeSize_one]; (first | lia | omega)) ⟨stO x d la lh lp fd D1 wd ro no limit c cells s rows ins, by k_extra "sub", la, ro, no, c, s, rows, ins, rfl, G, s0, by (first | lia | omega)⟩ ?_ ?_
            · clear G s0 s1
              rintro i o hi ⟨la, ro, no, c, s, rows, ins, rfl, G, s0, s1⟩
              refine ⟨_, by k_extra "setv", ?_⟩
              k_extra "ws"
              rename_i la' ro' no' c' rows' ins' s' G' t1 t2
              exact ⟨_, _, ⟨rfl, la', ro', no', c', s', rows', ins', rfl, G', t1, by (first | lia | omega)⟩, by k_extra "sub", .of_sub (List.Sublist.refl _)⟩
            · clear G s0 s1
              rintro os o hp ⟨la, ro, no, c, s, rows, ins, rfl, G, s0, s1⟩
              dsimp only [endK]
              exact ⟨_, _, ⟨x, d, la, lh, lp, fd, D1, wd, ro, no, limit, c, cells, s, rows, ins, rfl, rfl, G, hcl, s0, by (first | lia | omega)⟩, List.Sublist.refl _, hp⟩
        · have hvn : Valid ([(0 : Int)].length) [] := fun k => ⟨Int.le_refl _, (by decide : (0 : Int) < 1)⟩
          have G := good_start m1 (Int.le_trans m2 (by decide)) l1 l2
          k_extra "ws"
          exact ⟨_, _, ⟨x, d, la, lh, lp, fd, D1, wd, ro, no, limit, _, cells, 0 + 1 + 1, _, _, rfl, rfl, G, hcl, by decide, by decide⟩, by k_extra "sub", by dsimp only [stO]; k_extra "sub"⟩
      · k_extra "ws"
        rename_i x d la lh lp z0 ro R no wd T
        rw [show many + 1 - 1 = many by (first | lia | omega)]
        exact ⟨_, _, ⟨fd, D1, cells, limit, many, x, d, la, lh, lp, wd, ro, no, rfl, rfl, hcl, l1, l2, m1, m2⟩, by k_extra "sub", by k_extra "sub"⟩
    · k_extra "two"
      (with_reducible refine' WE_tuple ?_ ?zt)
      case zt => exact rfl
      with_reducible refine WA_cons ?_
      (with_reducible refine' WE_menu ?zz1 (fun T => ?_) ?zz2 ?zz3)
      case zz1 => exact EV_big
      case zz2 => rfl
      case zz3 => rfl
      k_extra "w"
      k_extra "w"
      rename_i r0 r1
      refine ⟨_, rfl, r0, r1, by k_extra "mem", fun limit l1 l2 => ?_⟩
      k_extra "ws"
      rename_i r2 r20 r21 T2
      exact ⟨_, _, ⟨fd, D1, cells, limit, 1 + r2, rfl, rfl, hcl, l1, l2, by (first | lia | omega), by (first | lia | omega)⟩, by k_extra "sub", by k_extra "sub"⟩
  · k_extra "ws"
    refine' WE_comp accI (.one (Str.ofString "cell") _) [] ?_ ?hsc ?hfi
    case hsc => k_extra "scope"
    case hfi => exact fun _ _ => rfl
    refine' WE_slice_script ?m1 ?m2 ?m3 (fun D0 => ?_) ?m4 ?m5
    case m1 => exact .head _
    case m2 => decide
    case m3 => exact Nat.lt_of_le_of_lt hsl (by decide)
    case m4 => decide
    case m5 => decide
    refine CompH.list_f (ns := sl.take (60 : Int).toNat) (fun k => some ((if k < 0 then -k else k).fmod 1000003)) (by rw [List.length_take]; (first | lia | omega)) (by k_extra "mem") (fun k hk ys J hJ => CTurn.none ?_) ?_
    · k_extra "ws"
      exact ⟨_, _, ⟨rfl, rfl⟩, hJ⟩
    dsimp only [accI]
    generalize hc0 : (sl.take (60 : Int).toNat).filterMap (fun k => some ((if k < 0 then -k else k).fmod 1000003)) = cells
    have hcl : cells.length ≤ 60 := by
      rw [← hc0]
      refine Nat.le_trans (List.length_filterMap_le _ _) ?_
      rw [List.length_take]
      exact Nat.min_le_left _ _
    clear hc0
    intro D1
    k_extra "ws"
    rename_i fd
    exact ⟨_, _, ⟨fd, D1, cells, rfl, rfl, hcl⟩, by k_extra "sub", by k_extra "sub"⟩
end
end Mine
end
open PySem PySem.W PySem.Spec PySem.Calls PyProof.Rows PyProof.Rows.LCg
set_option maxHeartbeats 8000000 in
theorem PySem.Challenge.cw_qz0003_01_holds : PySem.Challenge.rw_qz0003_01.Holds := by
  exact Mine.hd (by
    k_fill
    k_go0
    rename Fr _ _ _ _ => F
    rename Top _ _ _ _ _ _ => T
    rename Below _ _ _ _ => K0
    rename News _ _ _ _ => N
    rename CellsAre _ _ _ => Y
    rename (Mine.hd.heap_1 _).In _ => KX
    rename Heap.IsList _ _ _ => hL
    rename IntsAre _ _ => hI
    rename ¬ (63 : Int) < _ => h63
    rename Shared.gens _ = #[] => hg
    refine' Mine.top_run (P := Mine.PX _ _) (b := 19) (K := fun f _ _ => f = Mine.AF.ret (Mine.AV.bool true)) (names := [Str.ofString "script"]) (vargs := [Mine.AV.ref _]) rfl K0 T KX hL hI F N Y ?hm ?hcm ?hcl rfl (Mine.F2.cons rfl Mine.F2.nil) rfl (by decide) (by decide +kernel) rfl rfl (by decide) (Mine.law_B (b := 0) ?hl ?ho) ?_
    case hm => rfl
    case hcm => rfl
    case hcl => rfl
    case hl => (first | lia | omega)
    case ho => (dsimp only [Mine.PX]; k_is)
    rintro f vars objs f' s' rfl ⟨v, rfl, hv⟩ hk hs
    rw [show v = .bool true from hv]
    refine ⟨.inl ⟨_, _, _, rfl, raisesW_false ?hn, .bool true, ?hp, ?hu⟩, hk, ?h1, ?h2⟩
    case h1 => exact hs.3
    case h2 => exact hs.1.trans hg
    case hn => wrow_none_raised
    case hp => first | kc_post | wrow_post
    case hu => exact fun _ => ⟨List.nodup_nil, fun _ h => nomatch h⟩)

