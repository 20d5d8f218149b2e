/-
  Part 5 of the proof: W61, W78, W73, W60, W24, W51, W52, W76, W77, W56, W15, W18, W31, Hd, W32, W33, W12, La, W17, Lb.
-/
import Derived.Test.YticnfndhinjbbaaMV4
set_option linter.unusedVariables false
set_option linter.unusedSimpArgs false
/-
  MADE BY PROGRAM (am.py): the walks of functions 61.
-/
namespace Go.Am.Seat
open Go.Proofs

/-- A number's place; -1: it is not there. -/
def placeI : List Int → Int → Nat → Int
  | [], _, _ => -1
  | a :: l, n, i => if (a == n) = true then (i : Int) else placeI l n (i + 1)

theorem bod61 : Try.f61.body = some (Try.f61.body.getD .skip) := rfl
theorem fn61 (L : Loops) (l : List Int) (n : Int) (s : Me) (x : Sc) (hx : GSl encI x l) (hl : l.length ≤ 2199023255552) : FnL Try.prog L 61 [.av (.sc x), vI n] s fun r s' => (r = vI (placeI l n 0)) ∧ s' = s := by
  refine FnL.pure (R := fun r => r = vI (placeI l n 0)) ?_
  refine fn_of_body (ts := [4]) Try.func61 bod61 rfl (by simp) (by simp [Try.ntmps61]) fun D0 => ?_
  unfold Try.f61
  simp only [Option.getD_some, initSl]
  refine aw_region_seq C (pb := false) rfl fun K hK => ?_
  repeat' (first | refine awOps_yes (by rfl) (by rfl) (by rfl) (by simp  only [go_sem, ↓reduceIte, Nat.reduceEqDiff, reduceCtorEq, Nat.reduceAdd, Nat.reduceMul, Nat.reduceLeDiff, aLoad, aStore]; exact rfl) ?_ | refine awOps_no (by rfl) (by rfl) ?_ | refine awOps_yes0 (by rfl) (by rfl) (by rfl) (by simp  only [go_sem, ↓reduceIte, Nat.reduceEqDiff, reduceCtorEq, Nat.reduceAdd, Nat.reduceMul, Nat.reduceLeDiff, aLoad, aStore]; exact rfl) ?_ | fail)
  refine awOps_nil (hK _ _ ?_)
  clear hK K
  refine aw_seq ?_
  refine aw_region_seq C (pb := false) rfl fun K hK => ?_
  repeat' (first | refine awOps_yes (by rfl) (by rfl) (by rfl) (by simp  only [go_sem, ↓reduceIte, Nat.reduceEqDiff, reduceCtorEq, Nat.reduceAdd, Nat.reduceMul, Nat.reduceLeDiff, aLoad, aStore]; exact rfl) ?_ | refine awOps_no (by rfl) (by rfl) ?_ | refine awOps_yes0 (by rfl) (by rfl) (by rfl) (by simp  only [go_sem, ↓reduceIte, Nat.reduceEqDiff, reduceCtorEq, Nat.reduceAdd, Nat.reduceMul, Nat.reduceLeDiff, aLoad, aStore]; exact rfl) ?_ | fail)
  refine awOps_nil (hK _ _ ?_)
  clear hK K
  refine aw_block ?_
  refine AW.less (sl' := [(0, .av (.sc x)), (1, vI n), (5, vI (0))]) (AllIn.less ⟨rfl, rfl, rfl, trivial⟩) (aw_loop (fun k sl1 s1 => ∃ (i : Nat), k = l.length - i ∧ sl1 = [(0, .av (.sc x)), (1, vI n), (5, vI (i))] ∧ (Kp s s1) ∧ (i ≤ l.length) ∧ (placeI (l.drop i) n i = placeI l n 0)) (k := l.length - (0)) ⟨0, rfl, rfl, (Kp.refl s).up (by omega), Nat.zero_le _, rfl⟩ ?_)
  rintro k1 _ s1 ⟨i, hk1, rfl, hs1, hb, h3⟩
  refine aw_seq ?_
  refine aw_region_seq C (pb := false) rfl fun K hK => ?_
  repeat' (first | refine awOps_yes (by rfl) (by rfl) (by rfl) (by simp  only [go_sem, ↓reduceIte, Nat.reduceEqDiff, reduceCtorEq, Nat.reduceAdd, Nat.reduceMul, Nat.reduceLeDiff, aLoad, aStore, lenI hx]; exact rfl) ?_ | refine awOps_no (by rfl) (by rfl) ?_ | refine awOps_yes0 (by rfl) (by rfl) (by rfl) (by simp  only [go_sem, ↓reduceIte, Nat.reduceEqDiff, reduceCtorEq, Nat.reduceAdd, Nat.reduceMul, Nat.reduceLeDiff, aLoad, aStore, lenI hx]; exact rfl) ?_ | fail)
  refine awOps_nil (hK _ _ ?_)
  clear hK K
  refine aw_cond (by rfl) ?_ ?_
  · intro hc0
    try simp only [decide_eq_true_eq, decide_eq_false_iff_not] at hc0
    have hi2 : i < l.length := by omega
    have hi3 : 1 ≤ l.length - i := by omega
    refine aw_skip ?_
    simp only [thenA_normal, thenA_ret, thenA_exit, blockA_normal, blockA_ret, blockA_exit, ↓reduceIte, Nat.reduceEqDiff]
    refine aw_seq ?_
    refine aw_block ?_
    refine aw_region_seq C (pb := false) rfl fun K hK => ?_
    repeat' (first | refine awOps_yes (by rfl) (by rfl) (by rfl) (by simp  only [go_sem, ↓reduceIte, Nat.reduceEqDiff, reduceCtorEq, Nat.reduceAdd, Nat.reduceMul, Nat.reduceLeDiff, aLoad, aStore, idxI hx hi2]; exact rfl) ?_ | refine awOps_no (by rfl) (by rfl) ?_ | refine awOps_yes0 (by rfl) (by rfl) (by rfl) (by simp  only [go_sem, ↓reduceIte, Nat.reduceEqDiff, reduceCtorEq, Nat.reduceAdd, Nat.reduceMul, Nat.reduceLeDiff, aLoad, aStore, idxI hx hi2]; exact rfl) ?_ | fail)
    refine awOps_nil (hK _ _ ?_)
    clear hK K
    refine aw_cond (by rfl) ?_ ?_
    · intro hc1
      try simp only [decide_eq_true_eq, decide_eq_false_iff_not] at hc1
      refine aw_region_seq C (pb := false) rfl fun K hK => ?_
      repeat' (first | refine awOps_yes (by rfl) (by rfl) (by rfl) (by simp  only [go_sem, ↓reduceIte, Nat.reduceEqDiff, reduceCtorEq, Nat.reduceAdd, Nat.reduceMul, Nat.reduceLeDiff, aLoad, aStore]; exact rfl) ?_ | refine awOps_no (by rfl) (by rfl) ?_ | refine awOps_yes0 (by rfl) (by rfl) (by rfl) (by simp  only [go_sem, ↓reduceIte, Nat.reduceEqDiff, reduceCtorEq, Nat.reduceAdd, Nat.reduceMul, Nat.reduceLeDiff, aLoad, aStore]; exact rfl) ?_ | fail)
      refine awOps_nil (hK _ _ ?_)
      clear hK K
      refine aw_ret ?_
      try simp only [thenA_normal, thenA_ret, thenA_exit, blockA_normal, blockA_ret, blockA_exit]
      simp only [go_sem, ↓reduceIte, Nat.reduceEqDiff, reduceCtorEq, Nat.reduceAdd, Nat.reduceMul, Nat.reduceLeDiff, aLoad, aStore, FnQ, resA]
      -- 0t1t.ret
      refine fun _ => ⟨rfl, hs1.2.1, hs1.2.2, ?_⟩
      rw [← h3, List.drop_eq_getElem_cons hi2, placeI, if_pos hc1]
    · intro hc1
      try simp only [decide_eq_true_eq, decide_eq_false_iff_not] at hc1
      refine aw_skip ?_
      simp only [thenA_normal, thenA_ret, thenA_exit, blockA_normal, blockA_ret, blockA_exit, ↓reduceIte, Nat.reduceEqDiff]
      refine aw_region C (pb := false) rfl ?_
      repeat' (first | refine awOps_yes (by rfl) (by rfl) (by rfl) (by simp  only [go_sem, ↓reduceIte, Nat.reduceEqDiff, reduceCtorEq, Nat.reduceAdd, Nat.reduceMul, Nat.reduceLeDiff, aLoad, aStore, wrap_small ((i : Int) + 1) (by omega) (by omega)]; exact rfl) ?_ | refine awOps_no (by rfl) (by rfl) ?_ | refine awOps_yes0 (by rfl) (by rfl) (by rfl) (by simp  only [go_sem, ↓reduceIte, Nat.reduceEqDiff, reduceCtorEq, Nat.reduceAdd, Nat.reduceMul, Nat.reduceLeDiff, aLoad, aStore, wrap_small ((i : Int) + 1) (by omega) (by omega)]; exact rfl) ?_ | fail)
      refine awOps_nil ?_
      try simp only [thenA_normal, thenA_ret, thenA_exit, blockA_normal, blockA_ret, blockA_exit]
      -- end of round 0 at 0t1f
      refine ⟨l.length - (i + 1), [(0, .av (.sc x)), (1, vI n), (5, vI (i + 1))], by omega, AllIn.less ⟨rfl, rfl, rfl, trivial⟩, i + 1, rfl, rfl, ?_, ?_, ?_⟩
      · exact hs1.up (by omega)
      · omega
      · rw [← h3, List.drop_eq_getElem_cons hi2, placeI, if_neg (by rw [hc1]; exact Bool.false_ne_true)]
  · intro hc0
    try simp only [decide_eq_true_eq, decide_eq_false_iff_not] at hc0
    refine aw_exit ?_
    simp only [thenA_normal, thenA_ret, thenA_exit, blockA_normal, blockA_ret, blockA_exit, ↓reduceIte, Nat.reduceEqDiff]
    refine aw_region_seq C (pb := false) rfl fun K hK => ?_
    repeat' (first | refine awOps_yes (by rfl) (by rfl) (by rfl) (by simp  only [go_sem, ↓reduceIte, Nat.reduceEqDiff, reduceCtorEq, Nat.reduceAdd, Nat.reduceMul, Nat.reduceLeDiff, aLoad, aStore]; exact rfl) ?_ | refine awOps_no (by rfl) (by rfl) ?_ | refine awOps_yes0 (by rfl) (by rfl) (by rfl) (by simp  only [go_sem, ↓reduceIte, Nat.reduceEqDiff, reduceCtorEq, Nat.reduceAdd, Nat.reduceMul, Nat.reduceLeDiff, aLoad, aStore]; exact rfl) ?_ | fail)
    refine awOps_nil (hK _ _ ?_)
    clear hK K
    refine aw_ret ?_
    simp only [go_sem, ↓reduceIte, Nat.reduceEqDiff, reduceCtorEq, Nat.reduceAdd, Nat.reduceMul, Nat.reduceLeDiff, aLoad, aStore, FnQ, resA]
    -- 0f.x0.ret
    refine fun _ => ⟨rfl, hs1.2.1, hs1.2.2, ?_⟩
    rw [← h3, List.drop_of_length_le (by omega), placeI]
end Go.Am.Seat
/-
  MADE BY PROGRAM (am.py): the walks of functions 78.
-/
namespace Go.Am.Seat
open Go.Proofs
theorem bod78 : Try.f78.body = some (Try.f78.body.getD .skip) := rfl
theorem fn78 (L : Loops) (l : List Int) (n : Int) (s : Me) (x : Sc) (hx : GSl encI x l) (hl : l.length ≤ 2199023255552) : FnL Try.prog L 78 [.av (.sc x), vI n] s fun r s' => (r = vI (placeI l n 0)) ∧ s' = s := by
  refine FnL.pure (R := fun r => r = vI (placeI l n 0)) ?_
  refine fn_of_body (ts := [4]) Try.func78 bod78 rfl (by simp) (by simp [Try.ntmps78]) fun D0 => ?_
  unfold Try.f78
  simp only [Option.getD_some, initSl]
  refine aw_region_seq C (pb := false) rfl fun K hK => ?_
  repeat' (first | refine awOps_yes (by rfl) (by rfl) (by rfl) (by simp  only [go_sem, ↓reduceIte, Nat.reduceEqDiff, reduceCtorEq, Nat.reduceAdd, Nat.reduceMul, Nat.reduceLeDiff, aLoad, aStore]; exact rfl) ?_ | refine awOps_no (by rfl) (by rfl) ?_ | refine awOps_yes0 (by rfl) (by rfl) (by rfl) (by simp  only [go_sem, ↓reduceIte, Nat.reduceEqDiff, reduceCtorEq, Nat.reduceAdd, Nat.reduceMul, Nat.reduceLeDiff, aLoad, aStore]; exact rfl) ?_ | fail)
  refine awOps_nil (hK _ _ ?_)
  clear hK K
  refine aw_seq ?_
  refine aw_region_seq C (pb := false) rfl fun K hK => ?_
  repeat' (first | refine awOps_yes (by rfl) (by rfl) (by rfl) (by simp  only [go_sem, ↓reduceIte, Nat.reduceEqDiff, reduceCtorEq, Nat.reduceAdd, Nat.reduceMul, Nat.reduceLeDiff, aLoad, aStore, lenI hx]; exact rfl) ?_ | refine awOps_no (by rfl) (by rfl) ?_ | refine awOps_yes0 (by rfl) (by rfl) (by rfl) (by simp  only [go_sem, ↓reduceIte, Nat.reduceEqDiff, reduceCtorEq, Nat.reduceAdd, Nat.reduceMul, Nat.reduceLeDiff, aLoad, aStore, lenI hx]; exact rfl) ?_ | fail)
  refine awOps_nil (hK _ _ ?_)
  clear hK K
  refine aw_block ?_
  refine AW.less (sl' := [(0, .av (.sc x)), (1, vI n), (7, vI l.length), (8, vI (0))]) (AllIn.less ⟨rfl, rfl, rfl, rfl, trivial⟩) (aw_loop (fun k sl1 s1 => ∃ (i : Nat), k = l.length - i ∧ sl1 = [(0, .av (.sc x)), (1, vI n), (7, vI l.length), (8, vI (i))] ∧ (Kp s s1) ∧ (i ≤ l.length) ∧ (placeI (l.drop i) n i = placeI l n 0)) (k := l.length - (0)) ⟨0, rfl, rfl, (Kp.refl s).up (by omega), Nat.zero_le _, rfl⟩ ?_)
  rintro k1 _ s1 ⟨i, hk1, rfl, hs1, hb, h3⟩
  refine aw_region_seq C (pb := false) rfl fun K hK => ?_
  repeat' (first | refine awOps_yes (by rfl) (by rfl) (by rfl) (by simp  only [go_sem, ↓reduceIte, Nat.reduceEqDiff, reduceCtorEq, Nat.reduceAdd, Nat.reduceMul, Nat.reduceLeDiff, aLoad, aStore]; exact rfl) ?_ | refine awOps_no (by rfl) (by rfl) ?_ | refine awOps_yes0 (by rfl) (by rfl) (by rfl) (by simp  only [go_sem, ↓reduceIte, Nat.reduceEqDiff, reduceCtorEq, Nat.reduceAdd, Nat.reduceMul, Nat.reduceLeDiff, aLoad, aStore]; exact rfl) ?_ | fail)
  refine awOps_nil (hK _ _ ?_)
  clear hK K
  refine aw_seq ?_
  refine aw_cond (by rfl) ?_ ?_
  · intro hc0
    try simp only [decide_eq_true_eq, decide_eq_false_iff_not] at hc0
    have hi2 : i < l.length := by omega
    refine aw_skip ?_
    simp only [thenA_normal, thenA_ret, thenA_exit, blockA_normal, blockA_ret, blockA_exit, ↓reduceIte, Nat.reduceEqDiff]
    refine aw_seq ?_
    refine aw_block ?_
    refine aw_region_seq C (pb := false) rfl fun K hK => ?_
    repeat' (first | refine awOps_yes (by rfl) (by rfl) (by rfl) (by simp  only [go_sem, ↓reduceIte, Nat.reduceEqDiff, reduceCtorEq, Nat.reduceAdd, Nat.reduceMul, Nat.reduceLeDiff, aLoad, aStore]; exact rfl) ?_ | refine awOps_no (by rfl) (by rfl) ?_ | refine awOps_yes0 (by rfl) (by rfl) (by rfl) (by simp  only [go_sem, ↓reduceIte, Nat.reduceEqDiff, reduceCtorEq, Nat.reduceAdd, Nat.reduceMul, Nat.reduceLeDiff, aLoad, aStore]; exact rfl) ?_ | fail)
    refine awOps_nil (hK _ _ ?_)
    clear hK K
    refine aw_region_seq C (pb := false) rfl fun K hK => ?_
    repeat' (first | refine awOps_yes (by rfl) (by rfl) (by rfl) (by simp  only [go_sem, ↓reduceIte, Nat.reduceEqDiff, reduceCtorEq, Nat.reduceAdd, Nat.reduceMul, Nat.reduceLeDiff, aLoad, aStore, idxI hx hi2]; exact rfl) ?_ | refine awOps_no (by rfl) (by rfl) ?_ | refine awOps_yes0 (by rfl) (by rfl) (by rfl) (by simp  only [go_sem, ↓reduceIte, Nat.reduceEqDiff, reduceCtorEq, Nat.reduceAdd, Nat.reduceMul, Nat.reduceLeDiff, aLoad, aStore, idxI hx hi2]; exact rfl) ?_ | fail)
    refine awOps_nil (hK _ _ ?_)
    clear hK K
    refine aw_cond (by rfl) ?_ ?_
    · intro hc1
      try simp only [beq_iff_eq, beq_eq_false_iff_ne, ne_eq] at hc1
      refine aw_region_seq C (pb := false) rfl fun K hK => ?_
      repeat' (first | refine awOps_yes (by rfl) (by rfl) (by rfl) (by simp  only [go_sem, ↓reduceIte, Nat.reduceEqDiff, reduceCtorEq, Nat.reduceAdd, Nat.reduceMul, Nat.reduceLeDiff, aLoad, aStore]; exact rfl) ?_ | refine awOps_no (by rfl) (by rfl) ?_ | refine awOps_yes0 (by rfl) (by rfl) (by rfl) (by simp  only [go_sem, ↓reduceIte, Nat.reduceEqDiff, reduceCtorEq, Nat.reduceAdd, Nat.reduceMul, Nat.reduceLeDiff, aLoad, aStore]; exact rfl) ?_ | fail)
      refine awOps_nil (hK _ _ ?_)
      clear hK K
      refine aw_ret ?_
      try simp only [thenA_normal, thenA_ret, thenA_exit, blockA_normal, blockA_ret, blockA_exit]
      simp only [go_sem, ↓reduceIte, Nat.reduceEqDiff, reduceCtorEq, Nat.reduceAdd, Nat.reduceMul, Nat.reduceLeDiff, aLoad, aStore, FnQ, resA]
      -- 0t1t.ret
      exact fun _ => ⟨by first | rfl | trivial, hs1.2.1, hs1.2.2, by rw [← h3, List.drop_eq_getElem_cons hi2, placeI, if_pos (by rw [beq_iff_eq]; exact hc1.symm)]⟩
    · intro hc1
      try simp only [beq_iff_eq, beq_eq_false_iff_ne, ne_eq] at hc1
      refine aw_skip ?_
      simp only [thenA_normal, thenA_ret, thenA_exit, blockA_normal, blockA_ret, blockA_exit, ↓reduceIte, Nat.reduceEqDiff]
      refine aw_region C (pb := false) rfl ?_
      repeat' (first | refine awOps_yes (by rfl) (by rfl) (by rfl) (by simp  only [go_sem, ↓reduceIte, Nat.reduceEqDiff, reduceCtorEq, Nat.reduceAdd, Nat.reduceMul, Nat.reduceLeDiff, aLoad, aStore, wrap_small ((i : Int) + 1) (by omega) (by omega)]; exact rfl) ?_ | refine awOps_no (by rfl) (by rfl) ?_ | refine awOps_yes0 (by rfl) (by rfl) (by rfl) (by simp  only [go_sem, ↓reduceIte, Nat.reduceEqDiff, reduceCtorEq, Nat.reduceAdd, Nat.reduceMul, Nat.reduceLeDiff, aLoad, aStore, wrap_small ((i : Int) + 1) (by omega) (by omega)]; exact rfl) ?_ | fail)
      refine awOps_nil ?_
      try simp only [thenA_normal, thenA_ret, thenA_exit, blockA_normal, blockA_ret, blockA_exit]
      -- end of round 0 at 0t1f
      refine ⟨l.length - (i + 1), [(0, .av (.sc x)), (1, vI n), (7, vI l.length), (8, vI (i + 1))], by omega, AllIn.less ⟨rfl, rfl, rfl, rfl, trivial⟩, i + 1, rfl, rfl, ?_, ?_, ?_⟩
      · exact hs1.up (by omega)
      · omega
      · rw [← h3, List.drop_eq_getElem_cons hi2, placeI, if_neg (by rw [beq_iff_eq]; exact fun h => hc1 h.symm)]
  · intro hc0
    try simp only [decide_eq_true_eq, decide_eq_false_iff_not] at hc0
    refine aw_exit ?_
    simp only [thenA_normal, thenA_ret, thenA_exit, blockA_normal, blockA_ret, blockA_exit, ↓reduceIte, Nat.reduceEqDiff]
    refine aw_region_seq C (pb := false) rfl fun K hK => ?_
    repeat' (first | refine awOps_yes (by rfl) (by rfl) (by rfl) (by simp  only [go_sem, ↓reduceIte, Nat.reduceEqDiff, reduceCtorEq, Nat.reduceAdd, Nat.reduceMul, Nat.reduceLeDiff, aLoad, aStore]; exact rfl) ?_ | refine awOps_no (by rfl) (by rfl) ?_ | refine awOps_yes0 (by rfl) (by rfl) (by rfl) (by simp  only [go_sem, ↓reduceIte, Nat.reduceEqDiff, reduceCtorEq, Nat.reduceAdd, Nat.reduceMul, Nat.reduceLeDiff, aLoad, aStore]; exact rfl) ?_ | fail)
    refine awOps_nil (hK _ _ ?_)
    clear hK K
    refine aw_ret ?_
    simp only [go_sem, ↓reduceIte, Nat.reduceEqDiff, reduceCtorEq, Nat.reduceAdd, Nat.reduceMul, Nat.reduceLeDiff, aLoad, aStore, FnQ, resA]
    -- 0f.x0.ret
    exact fun _ => ⟨by first | rfl | trivial, hs1.2.1, hs1.2.2, by rw [← h3, List.drop_of_length_le (by omega), placeI]⟩
end Go.Am.Seat
/-
  MADE BY PROGRAM (am.py): the walks of functions 73.
-/
namespace Go.Am.Seat
open Go.Proofs

theorem placeI_ge : ∀ (l : List Int) (n : Int) (k : Nat), decide (placeI l n k ≥ 0) = l.contains n
  | [], n, k => by simp [placeI]
  | a :: l, n, k => by
    rw [placeI, List.contains_cons]
    by_cases h : (a == n) = true
    · rw [if_pos h, show (n == a) = true by rw [beq_iff_eq] at h ⊢; exact h.symm]
      simp
    · rw [if_neg h, placeI_ge l n (k + 1), show (n == a) = false by
        rw [Bool.eq_false_iff]; intro h'; rw [beq_iff_eq] at h'; exact h (by rw [beq_iff_eq]; exact h'.symm)]
      simp

theorem bod73 : Try.f73.body = some (Try.f73.body.getD .skip) := rfl
theorem fn73 (L : Loops) (l : List Int) (n : Int) (s : Me) (x : Sc) (hx : GSl encI x l) (hl : l.length ≤ 2199023255552) : FnL Try.prog L 73 [.av (.sc x), vI n] s fun r s' => (r = vB (l.contains n)) ∧ s' = s := by
  refine FnL.pure (R := fun r => r = vB (l.contains n)) ?_
  refine fn_of_body (ts := [4]) Try.func73 bod73 rfl (by simp) (by simp [Try.ntmps73]) fun D0 => ?_
  unfold Try.f73
  simp only [Option.getD_some, initSl]
  refine aw_region_seq C (pb := false) rfl fun K hK => ?_
  repeat' (first | refine awOps_yes (by rfl) (by rfl) (by rfl) (by simp  only [go_sem, ↓reduceIte, Nat.reduceEqDiff, reduceCtorEq, Nat.reduceAdd, Nat.reduceMul, Nat.reduceLeDiff, aLoad, aStore]; exact rfl) ?_ | refine awOps_no (by rfl) (by rfl) ?_ | refine awOps_yes0 (by rfl) (by rfl) (by rfl) (by simp  only [go_sem, ↓reduceIte, Nat.reduceEqDiff, reduceCtorEq, Nat.reduceAdd, Nat.reduceMul, Nat.reduceLeDiff, aLoad, aStore]; exact rfl) ?_ | fail)
  refine awOps_nil (hK _ _ ?_)
  clear hK K
  refine aw_region_seq C (pb := false) rfl fun K hK => ?_
  repeat' (first | refine awOps_yes (by rfl) (by rfl) (by rfl) (by simp  only [go_sem, ↓reduceIte, Nat.reduceEqDiff, reduceCtorEq, Nat.reduceAdd, Nat.reduceMul, Nat.reduceLeDiff, aLoad, aStore]; exact rfl) ?_ | refine awOps_no (by rfl) (by rfl) ?_ | refine awOps_yes0 (by rfl) (by rfl) (by rfl) (by simp  only [go_sem, ↓reduceIte, Nat.reduceEqDiff, reduceCtorEq, Nat.reduceAdd, Nat.reduceMul, Nat.reduceLeDiff, aLoad, aStore]; exact rfl) ?_ | fail)
  (refine awOps_call (by rfl) (by rfl) (by rfl) (And.intro Try.call78 (fn78 L l n _ x hx hl)) ?_; rintro _ _ ⟨rfl, rfl⟩)
  repeat' (first | refine awOps_yes (by rfl) (by rfl) (by rfl) (by simp  only [go_sem, ↓reduceIte, Nat.reduceEqDiff, reduceCtorEq, Nat.reduceAdd, Nat.reduceMul, Nat.reduceLeDiff, aLoad, aStore]; exact rfl) ?_ | refine awOps_no (by rfl) (by rfl) ?_ | refine awOps_yes0 (by rfl) (by rfl) (by rfl) (by simp  only [go_sem, ↓reduceIte, Nat.reduceEqDiff, reduceCtorEq, Nat.reduceAdd, Nat.reduceMul, Nat.reduceLeDiff, aLoad, aStore]; exact rfl) ?_ | fail)
  refine awOps_nil (hK _ _ ?_)
  clear hK K
  refine aw_ret ?_
  simp only [go_sem, ↓reduceIte, Nat.reduceEqDiff, reduceCtorEq, Nat.reduceAdd, Nat.reduceMul, Nat.reduceLeDiff, aLoad, aStore, FnQ, resA]
  -- .ret
  exact fun _ => ⟨by first | rfl | trivial, by first | exact fun _ _ => rfl | trivial, by first | rfl | trivial, by rw [← placeI_ge l n 0]⟩
end Go.Am.Seat
/-
  MADE BY PROGRAM (am.py): the walks of functions 60.
-/
namespace Go.Am.Seat
open Go.Proofs
theorem bod60 : Try.f60.body = some (Try.f60.body.getD .skip) := rfl
theorem fn60 (L : Loops) (l : List Int) (n : Int) (s : Me) (x : Sc) (hx : GSl encI x l) (hl : l.length ≤ 2199023255552) : FnL Try.prog L 60 [.av (.sc x), vI n] s fun r s' => (r = vB (l.contains n)) ∧ s' = s := by
  refine FnL.pure (R := fun r => r = vB (l.contains n)) ?_
  refine fn_of_body (ts := [4]) Try.func60 bod60 rfl (by simp) (by simp [Try.ntmps60]) fun D0 => ?_
  unfold Try.f60
  simp only [Option.getD_some, initSl]
  refine aw_region_seq C (pb := false) rfl fun K hK => ?_
  repeat' (first | refine awOps_yes (by rfl) (by rfl) (by rfl) (by simp  only [go_sem, ↓reduceIte, Nat.reduceEqDiff, reduceCtorEq, Nat.reduceAdd, Nat.reduceMul, Nat.reduceLeDiff, aLoad, aStore]; exact rfl) ?_ | refine awOps_no (by rfl) (by rfl) ?_ | refine awOps_yes0 (by rfl) (by rfl) (by rfl) (by simp  only [go_sem, ↓reduceIte, Nat.reduceEqDiff, reduceCtorEq, Nat.reduceAdd, Nat.reduceMul, Nat.reduceLeDiff, aLoad, aStore]; exact rfl) ?_ | fail)
  refine awOps_nil (hK _ _ ?_)
  clear hK K
  refine aw_seq ?_
  refine aw_region_seq C (pb := false) rfl fun K hK => ?_
  repeat' (first | refine awOps_yes (by rfl) (by rfl) (by rfl) (by simp  only [go_sem, ↓reduceIte, Nat.reduceEqDiff, reduceCtorEq, Nat.reduceAdd, Nat.reduceMul, Nat.reduceLeDiff, aLoad, aStore]; exact rfl) ?_ | refine awOps_no (by rfl) (by rfl) ?_ | refine awOps_yes0 (by rfl) (by rfl) (by rfl) (by simp  only [go_sem, ↓reduceIte, Nat.reduceEqDiff, reduceCtorEq, Nat.reduceAdd, Nat.reduceMul, Nat.reduceLeDiff, aLoad, aStore]; exact rfl) ?_ | fail)
  refine awOps_nil (hK _ _ ?_)
  clear hK K
  refine aw_block ?_
  refine AW.less (sl' := [(0, .av (.sc x)), (1, vI n), (5, vI (0))]) (AllIn.less ⟨rfl, rfl, rfl, trivial⟩) (aw_loop (fun k sl1 s1 => ∃ (i : Nat), k = l.length - i ∧ sl1 = [(0, .av (.sc x)), (1, vI n), (5, vI (i))] ∧ (Kp s s1) ∧ (i ≤ l.length) ∧ ((l.take i).contains n = false)) (k := l.length - (0)) ⟨0, rfl, rfl, (Kp.refl s).up (by omega), Nat.zero_le _, by simp⟩ ?_)
  rintro k1 _ s1 ⟨i, hk1, rfl, hs1, hb, h3⟩
  refine aw_seq ?_
  refine aw_region_seq C (pb := false) rfl fun K hK => ?_
  repeat' (first | refine awOps_yes (by rfl) (by rfl) (by rfl) (by simp  only [go_sem, ↓reduceIte, Nat.reduceEqDiff, reduceCtorEq, Nat.reduceAdd, Nat.reduceMul, Nat.reduceLeDiff, aLoad, aStore, lenI hx]; exact rfl) ?_ | refine awOps_no (by rfl) (by rfl) ?_ | refine awOps_yes0 (by rfl) (by rfl) (by rfl) (by simp  only [go_sem, ↓reduceIte, Nat.reduceEqDiff, reduceCtorEq, Nat.reduceAdd, Nat.reduceMul, Nat.reduceLeDiff, aLoad, aStore, lenI hx]; exact rfl) ?_ | fail)
  refine awOps_nil (hK _ _ ?_)
  clear hK K
  refine aw_cond (by rfl) ?_ ?_
  · intro hc0
    try simp only [decide_eq_true_eq, decide_eq_false_iff_not] at hc0
    have hi2 : i < l.length := by omega
    have hi3 : 1 ≤ l.length - i := by omega
    refine aw_skip ?_
    simp only [thenA_normal, thenA_ret, thenA_exit, blockA_normal, blockA_ret, blockA_exit, ↓reduceIte, Nat.reduceEqDiff]
    refine aw_seq ?_
    refine aw_block ?_
    refine aw_region_seq C (pb := false) rfl fun K hK => ?_
    repeat' (first | refine awOps_yes (by rfl) (by rfl) (by rfl) (by simp  only [go_sem, ↓reduceIte, Nat.reduceEqDiff, reduceCtorEq, Nat.reduceAdd, Nat.reduceMul, Nat.reduceLeDiff, aLoad, aStore, idxI hx hi2]; exact rfl) ?_ | refine awOps_no (by rfl) (by rfl) ?_ | refine awOps_yes0 (by rfl) (by rfl) (by rfl) (by simp  only [go_sem, ↓reduceIte, Nat.reduceEqDiff, reduceCtorEq, Nat.reduceAdd, Nat.reduceMul, Nat.reduceLeDiff, aLoad, aStore, idxI hx hi2]; exact rfl) ?_ | fail)
    refine awOps_nil (hK _ _ ?_)
    clear hK K
    refine aw_cond (by rfl) ?_ ?_
    · intro hc1
      try simp only [decide_eq_true_eq, decide_eq_false_iff_not] at hc1
      refine aw_region_seq C (pb := false) rfl fun K hK => ?_
      repeat' (first | refine awOps_yes (by rfl) (by rfl) (by rfl) (by simp  only [go_sem, ↓reduceIte, Nat.reduceEqDiff, reduceCtorEq, Nat.reduceAdd, Nat.reduceMul, Nat.reduceLeDiff, aLoad, aStore]; exact rfl) ?_ | refine awOps_no (by rfl) (by rfl) ?_ | refine awOps_yes0 (by rfl) (by rfl) (by rfl) (by simp  only [go_sem, ↓reduceIte, Nat.reduceEqDiff, reduceCtorEq, Nat.reduceAdd, Nat.reduceMul, Nat.reduceLeDiff, aLoad, aStore]; exact rfl) ?_ | fail)
      refine awOps_nil (hK _ _ ?_)
      clear hK K
      refine aw_ret ?_
      try simp only [thenA_normal, thenA_ret, thenA_exit, blockA_normal, blockA_ret, blockA_exit]
      simp only [go_sem, ↓reduceIte, Nat.reduceEqDiff, reduceCtorEq, Nat.reduceAdd, Nat.reduceMul, Nat.reduceLeDiff, aLoad, aStore, FnQ, resA]
      -- 0t1t.ret
      refine fun _ => ⟨rfl, hs1.2.1, hs1.2.2, ?_⟩
      have : l.contains n = true := by
        rw [List.contains_iff_mem]
        simp only [beq_iff_eq] at hc1
        exact hc1 ▸ List.getElem_mem hi2
      rw [this]
    · intro hc1
      try simp only [decide_eq_true_eq, decide_eq_false_iff_not] at hc1
      refine aw_skip ?_
      simp only [thenA_normal, thenA_ret, thenA_exit, blockA_normal, blockA_ret, blockA_exit, ↓reduceIte, Nat.reduceEqDiff]
      refine aw_region C (pb := false) rfl ?_
      repeat' (first | refine awOps_yes (by rfl) (by rfl) (by rfl) (by simp  only [go_sem, ↓reduceIte, Nat.reduceEqDiff, reduceCtorEq, Nat.reduceAdd, Nat.reduceMul, Nat.reduceLeDiff, aLoad, aStore, wrap_small ((i : Int) + 1) (by omega) (by omega)]; exact rfl) ?_ | refine awOps_no (by rfl) (by rfl) ?_ | refine awOps_yes0 (by rfl) (by rfl) (by rfl) (by simp  only [go_sem, ↓reduceIte, Nat.reduceEqDiff, reduceCtorEq, Nat.reduceAdd, Nat.reduceMul, Nat.reduceLeDiff, aLoad, aStore, wrap_small ((i : Int) + 1) (by omega) (by omega)]; exact rfl) ?_ | fail)
      refine awOps_nil ?_
      try simp only [thenA_normal, thenA_ret, thenA_exit, blockA_normal, blockA_ret, blockA_exit]
      -- end of round 0 at 0t1f
      refine ⟨l.length - (i + 1), [(0, .av (.sc x)), (1, vI n), (5, vI (i + 1))], by omega, AllIn.less ⟨rfl, rfl, rfl, trivial⟩, i + 1, rfl, rfl, ?_, ?_, ?_⟩
      · exact hs1.up (by omega)
      · omega
      · rw [List.take_succ_eq_append_getElem hi2]
        simp only [List.contains_append, h3, Bool.false_or]
        simp only [beq_eq_false_iff_ne] at hc1
        simpa using fun h => hc1 h.symm
  · intro hc0
    try simp only [decide_eq_true_eq, decide_eq_false_iff_not] at hc0
    refine aw_exit ?_
    simp only [thenA_normal, thenA_ret, thenA_exit, blockA_normal, blockA_ret, blockA_exit, ↓reduceIte, Nat.reduceEqDiff]
    refine aw_region_seq C (pb := false) rfl fun K hK => ?_
    repeat' (first | refine awOps_yes (by rfl) (by rfl) (by rfl) (by simp  only [go_sem, ↓reduceIte, Nat.reduceEqDiff, reduceCtorEq, Nat.reduceAdd, Nat.reduceMul, Nat.reduceLeDiff, aLoad, aStore]; exact rfl) ?_ | refine awOps_no (by rfl) (by rfl) ?_ | refine awOps_yes0 (by rfl) (by rfl) (by rfl) (by simp  only [go_sem, ↓reduceIte, Nat.reduceEqDiff, reduceCtorEq, Nat.reduceAdd, Nat.reduceMul, Nat.reduceLeDiff, aLoad, aStore]; exact rfl) ?_ | fail)
    refine awOps_nil (hK _ _ ?_)
    clear hK K
    refine aw_ret ?_
    simp only [go_sem, ↓reduceIte, Nat.reduceEqDiff, reduceCtorEq, Nat.reduceAdd, Nat.reduceMul, Nat.reduceLeDiff, aLoad, aStore, FnQ, resA]
    -- 0f.x0.ret
    refine fun _ => ⟨rfl, hs1.2.1, hs1.2.2, ?_⟩
    rw [List.take_of_length_le (by omega)] at h3
    rw [h3]
end Go.Am.Seat
/-
  MADE BY PROGRAM (am.py): the walks of functions 24.
-/
namespace Go.Am.Seat
open Go.Proofs

def varsG : List Cell → List Int → List Int
  | [], out => out
  | c :: l, out => varsG l (if ((c.kind == 1) && !(out.contains c.n)) = true then out ++ [c.n] else out)

theorem bod24 : Try.f24.body = some (Try.f24.body.getD .skip) := rfl
theorem fn24 (L : Loops) (t : List Cell) (s : Me) (x : Sc) (hx : GSl encC x t) (hl : t.length ≤ 1000000000) : FnL Try.prog L 24 [.av (.sc x)] s fun r s' => (∃ y, r = .av (.sc y) ∧ GSl encI y (varsG t [])) ∧ s' = s := by
  refine FnL.pure (R := fun r => ∃ y, r = .av (.sc y) ∧ GSl encI y (varsG t [])) ?_
  refine fn_of_body (ts := [2]) Try.func24 bod24 rfl (by simp) (by simp [Try.ntmps24]) fun D0 => ?_
  unfold Try.f24
  simp only [Option.getD_some, initSl]
  refine aw_region_seq C (pb := false) rfl fun K hK => ?_
  repeat' (first | refine awOps_yes (by rfl) (by rfl) (by rfl) (by simp  only [go_sem, ↓reduceIte, Nat.reduceEqDiff, reduceCtorEq, Nat.reduceAdd, Nat.reduceMul, Nat.reduceLeDiff, aLoad, aStore]; exact rfl) ?_ | refine awOps_no (by rfl) (by rfl) ?_ | refine awOps_yes0 (by rfl) (by rfl) (by rfl) (by simp  only [go_sem, ↓reduceIte, Nat.reduceEqDiff, reduceCtorEq, Nat.reduceAdd, Nat.reduceMul, Nat.reduceLeDiff, aLoad, aStore]; exact rfl) ?_ | fail)
  refine awOps_nil (hK _ _ ?_)
  clear hK K
  refine aw_region_seq C (pb := false) rfl fun K hK => ?_
  repeat' (first | refine awOps_yes (by rfl) (by rfl) (by rfl) (by simp  only [go_sem, ↓reduceIte, Nat.reduceEqDiff, reduceCtorEq, Nat.reduceAdd, Nat.reduceMul, Nat.reduceLeDiff, aLoad, aStore]; exact rfl) ?_ | refine awOps_no (by rfl) (by rfl) ?_ | refine awOps_yes0 (by rfl) (by rfl) (by rfl) (by simp  only [go_sem, ↓reduceIte, Nat.reduceEqDiff, reduceCtorEq, Nat.reduceAdd, Nat.reduceMul, Nat.reduceLeDiff, aLoad, aStore]; exact rfl) ?_ | fail)
  refine awOps_nil (hK _ _ ?_)
  clear hK K
  refine aw_seq ?_
  refine aw_region_seq C (pb := false) rfl fun K hK => ?_
  repeat' (first | refine awOps_yes (by rfl) (by rfl) (by rfl) (by simp  only [go_sem, ↓reduceIte, Nat.reduceEqDiff, reduceCtorEq, Nat.reduceAdd, Nat.reduceMul, Nat.reduceLeDiff, aLoad, aStore]; exact rfl) ?_ | refine awOps_no (by rfl) (by rfl) ?_ | refine awOps_yes0 (by rfl) (by rfl) (by rfl) (by simp  only [go_sem, ↓reduceIte, Nat.reduceEqDiff, reduceCtorEq, Nat.reduceAdd, Nat.reduceMul, Nat.reduceLeDiff, aLoad, aStore]; exact rfl) ?_ | fail)
  refine awOps_nil (hK _ _ ?_)
  clear hK K
  refine aw_block ?_
  refine AW.less (sl' := [(0, .av (.sc x)), (3, (_)), (4, vI (0))]) (AllIn.less ⟨rfl, rfl, rfl, trivial⟩) (aw_loop (fun k sl1 s1 => ∃ (i : Nat) (xo : Va) (out : List Int), k = t.length - i ∧ sl1 = [(0, .av (.sc x)), (3, (xo)), (4, vI (i))] ∧ (Kp s s1) ∧ (i ≤ t.length ∧ out.length ≤ i) ∧ (Acc s.nx s1.nx s1.ob xo out.length 1 ((out.flatMap encI).map .sc)) ∧ (varsG (t.drop i) out = varsG t [])) (k := t.length - (0)) ⟨0, _, [], rfl, rfl, ⟨by first | omega | (dsimp only; omega), fun j hj => upd_ne _ _ (by omega), rfl⟩, by simp, .inr ⟨_, 0, rfl, by first | omega | (dsimp only; omega), by first | omega | (dsimp only; omega), upd_same _ _ _, by simp, by simp⟩, rfl⟩ ?_)
  rintro k1 _ s1 ⟨i, xo, out, hk1, rfl, hs1, hb, hacc, h3⟩
  refine aw_seq ?_
  refine aw_region_seq C (pb := false) rfl fun K hK => ?_
  repeat' (first | refine awOps_yes (by rfl) (by rfl) (by rfl) (by simp  only [go_sem, ↓reduceIte, Nat.reduceEqDiff, reduceCtorEq, Nat.reduceAdd, Nat.reduceMul, Nat.reduceLeDiff, aLoad, aStore, lenC hx]; exact rfl) ?_ | refine awOps_no (by rfl) (by rfl) ?_ | refine awOps_yes0 (by rfl) (by rfl) (by rfl) (by simp  only [go_sem, ↓reduceIte, Nat.reduceEqDiff, reduceCtorEq, Nat.reduceAdd, Nat.reduceMul, Nat.reduceLeDiff, aLoad, aStore, lenC hx]; exact rfl) ?_ | fail)
  refine awOps_nil (hK _ _ ?_)
  clear hK K
  refine aw_cond (by rfl) ?_ ?_
  · intro hc0
    try simp only [decide_eq_true_eq, decide_eq_false_iff_not] at hc0
    have hi2 : i < t.length := by omega
    have hdrop : t.drop i = t[i] :: t.drop (i + 1) := List.drop_eq_getElem_cons hi2
    refine aw_skip ?_
    simp only [thenA_normal, thenA_ret, thenA_exit, blockA_normal, blockA_ret, blockA_exit, ↓reduceIte, Nat.reduceEqDiff]
    refine aw_seq ?_
    refine aw_block ?_
    obtain ⟨tx, ob2, hpv, htx, hacc2, hlow, _⟩ := Acc.pure (enc := encI) (k := 1) (fun _ => rfl) hacc
    refine aw_cutM_seq C (pb := false) [(0, .av (.sc x)), (3, xo), (4, vI i), (27, vB ((t[i].kind == 1) && !(out.contains t[i].n)))] (fun s2 => Kp s s2 ∧ Acc s.nx s2.nx s2.ob xo out.length 1 ((out.flatMap encI).map .sc)) rfl ?_ fun sM5 hM5 => ?_
    · cases hA0 : (t[i].kind == 1 : Bool) <;> cases hA1 : (out.contains t[i].n : Bool)
      all_goals (repeat' (first | refine awOps_yes (by rfl) (by rfl) (by rfl) (by simp  only [go_sem, ↓reduceIte, Nat.reduceEqDiff, reduceCtorEq, Nat.reduceAdd, Nat.reduceMul, Nat.reduceLeDiff, aLoad, aStore, idxC hx hi2, hA0, hA1]; exact rfl) ?_ | refine awOps_no (by rfl) (by rfl) ?_ | refine awOps_yes0 (by rfl) (by rfl) (by rfl) (by simp  only [go_sem, ↓reduceIte, Nat.reduceEqDiff, reduceCtorEq, Nat.reduceAdd, Nat.reduceMul, Nat.reduceLeDiff, aLoad, aStore, idxC hx hi2, hA0, hA1]; exact rfl) ?_ | fail))
      all_goals (try (first | (refine awOps_call (by rfl) (by rfl) (by rfl) (And.intro Try.call60 (FnL.pur (PurArgs.pur hpv (PurArgs.keep PurArgs.nil)) (fn60 L out t[i].n _ tx htx (by omega)))) ?_; rintro _ _ ⟨rfl, rfl⟩) | refine awOps_no (by rfl) (by rfl) ?_ | fail))
      all_goals (repeat' (first | refine awOps_yes (by rfl) (by rfl) (by rfl) (by simp  only [go_sem, ↓reduceIte, Nat.reduceEqDiff, reduceCtorEq, Nat.reduceAdd, Nat.reduceMul, Nat.reduceLeDiff, aLoad, aStore, idxC hx hi2, hA0, hA1]; exact rfl) ?_ | refine awOps_no (by rfl) (by rfl) ?_ | refine awOps_yes0 (by rfl) (by rfl) (by rfl) (by simp  only [go_sem, ↓reduceIte, Nat.reduceEqDiff, reduceCtorEq, Nat.reduceAdd, Nat.reduceMul, Nat.reduceLeDiff, aLoad, aStore, idxC hx hi2, hA0, hA1]; exact rfl) ?_ | fail))
      all_goals (first | exact awOps_nil ⟨⟨rfl, rfl, rfl, rfl, trivial⟩, hs1.up (by omega), hacc.up (by first | omega | (dsimp only; omega)) fun _ _ _ => rfl⟩ | exact awOps_nil ⟨⟨rfl, rfl, rfl, rfl, trivial⟩, ⟨by have := hs1.1; dsimp only; omega, fun i hi => (hlow i hi).trans (hs1.2.1 i hi), hs1.2.2⟩, hacc2.up (by first | omega | (dsimp only; omega)) fun _ _ _ => rfl⟩ | fail)
    refine aw_cond (by rfl) ?_ ?_
    · intro hc1
      try simp only [decide_eq_true_eq, decide_eq_false_iff_not] at hc1
      refine aw_region C (pb := false) rfl ?_
      repeat' (first | refine awOps_yes (by rfl) (by rfl) (by rfl) (by simp  only [go_sem, ↓reduceIte, Nat.reduceEqDiff, reduceCtorEq, Nat.reduceAdd, Nat.reduceMul, Nat.reduceLeDiff, aLoad, aStore, idxC hx hi2]; exact rfl) ?_ | refine awOps_no (by rfl) (by rfl) ?_ | refine awOps_yes0 (by rfl) (by rfl) (by rfl) (by simp  only [go_sem, ↓reduceIte, Nat.reduceEqDiff, reduceCtorEq, Nat.reduceAdd, Nat.reduceMul, Nat.reduceLeDiff, aLoad, aStore, idxC hx hi2]; exact rfl) ?_ | fail)
      refine awOps_append (by rfl) (by rfl) (by rfl) (by rfl) (hM5.2.up (hi' := sM5.nx + 7) (by omega) fun j h1 h2 => upd_ne _ _ (by omega)) T36 rfl T3 rfl (by simp) (by simp [y3]) (k := 1) (new := [.sc (.int .i64 t[i].n)]) (by simp [aSrc, evA, get, upd, zerosA]) (by simp) (by omega) (by omega) (by have := hM5.1.1; omega) fun x6 ob6 hacc6 hlow6 _ => ?_
      repeat' (first | refine awOps_yes (by rfl) (by rfl) (by rfl) (by simp  only [go_sem, ↓reduceIte, Nat.reduceEqDiff, reduceCtorEq, Nat.reduceAdd, Nat.reduceMul, Nat.reduceLeDiff, aLoad, aStore, idxC hx hi2]; exact rfl) ?_ | refine awOps_no (by rfl) (by rfl) ?_ | refine awOps_yes0 (by rfl) (by rfl) (by rfl) (by simp  only [go_sem, ↓reduceIte, Nat.reduceEqDiff, reduceCtorEq, Nat.reduceAdd, Nat.reduceMul, Nat.reduceLeDiff, aLoad, aStore, idxC hx hi2]; exact rfl) ?_ | fail)
      refine awOps_nil ?_
      try simp only [thenA_normal, thenA_ret, thenA_exit, blockA_normal, blockA_ret, blockA_exit]
      refine aw_region C (pb := false) rfl ?_
      repeat' (first | refine awOps_yes (by rfl) (by rfl) (by rfl) (by simp  only [go_sem, ↓reduceIte, Nat.reduceEqDiff, reduceCtorEq, Nat.reduceAdd, Nat.reduceMul, Nat.reduceLeDiff, aLoad, aStore, wrap_small ((i : Int) + 1) (by omega) (by omega)]; exact rfl) ?_ | refine awOps_no (by rfl) (by rfl) ?_ | refine awOps_yes0 (by rfl) (by rfl) (by rfl) (by simp  only [go_sem, ↓reduceIte, Nat.reduceEqDiff, reduceCtorEq, Nat.reduceAdd, Nat.reduceMul, Nat.reduceLeDiff, aLoad, aStore, wrap_small ((i : Int) + 1) (by omega) (by omega)]; exact rfl) ?_ | fail)
      refine awOps_nil ?_
      try simp only [thenA_normal, thenA_ret, thenA_exit, blockA_normal, blockA_ret, blockA_exit]
      -- end of round 0 at 0t1t
      refine ⟨t.length - (i + 1), [(0, .av (.sc x)), (3, (x6)), (4, vI (i + 1))], by omega, AllIn.less ⟨rfl, rfl, rfl, trivial⟩, i + 1, x6, out ++ [t[i].n], rfl, rfl, ?_, ?_, ?_, ?_⟩
      · exact ⟨by have := hM5.1.1; dsimp only; omega, fun j hj => (hlow6 j hj).trans ((upd_ne _ _ (by have := hM5.1.1; omega)).trans (hM5.1.2.1 j hj)), hM5.1.2.2⟩
      · simp only [List.length_append, List.length_cons, List.length_nil]
        omega
      · have h := hacc6.up (hi' := sM5.nx + 1 + 1 + 1 + 1 + 1 + 1 + 1 + 1 + 1 + 1 + 1 + 1) (by omega) fun _ _ _ => rfl
        simpa [encI] using h
      · rw [← h3, hdrop, varsG, if_pos hc1]
    · intro hc1
      try simp only [decide_eq_true_eq, decide_eq_false_iff_not] at hc1
      refine aw_skip ?_
      simp only [thenA_normal, thenA_ret, thenA_exit, blockA_normal, blockA_ret, blockA_exit, ↓reduceIte, Nat.reduceEqDiff]
      refine aw_region C (pb := false) rfl ?_
      repeat' (first | refine awOps_yes (by rfl) (by rfl) (by rfl) (by simp  only [go_sem, ↓reduceIte, Nat.reduceEqDiff, reduceCtorEq, Nat.reduceAdd, Nat.reduceMul, Nat.reduceLeDiff, aLoad, aStore, wrap_small ((i : Int) + 1) (by omega) (by omega)]; exact rfl) ?_ | refine awOps_no (by rfl) (by rfl) ?_ | refine awOps_yes0 (by rfl) (by rfl) (by rfl) (by simp  only [go_sem, ↓reduceIte, Nat.reduceEqDiff, reduceCtorEq, Nat.reduceAdd, Nat.reduceMul, Nat.reduceLeDiff, aLoad, aStore, wrap_small ((i : Int) + 1) (by omega) (by omega)]; exact rfl) ?_ | fail)
      refine awOps_nil ?_
      try simp only [thenA_normal, thenA_ret, thenA_exit, blockA_normal, blockA_ret, blockA_exit]
      -- end of round 0 at 0t1f
      refine ⟨t.length - (i + 1), [(0, .av (.sc x)), (3, (xo)), (4, vI (i + 1))], by omega, AllIn.less ⟨rfl, rfl, rfl, trivial⟩, i + 1, xo, out, rfl, rfl, ?_, ?_, ?_, ?_⟩
      · exact hM5.1.up (by omega)
      · omega
      · exact hM5.2.up (by first | omega | (dsimp only; omega)) fun _ _ _ => rfl
      · rw [← h3, hdrop, varsG, if_neg (by rw [hc1]; exact Bool.false_ne_true)]
  · intro hc0
    try simp only [decide_eq_true_eq, decide_eq_false_iff_not] at hc0
    refine aw_exit ?_
    simp only [thenA_normal, thenA_ret, thenA_exit, blockA_normal, blockA_ret, blockA_exit, ↓reduceIte, Nat.reduceEqDiff]
    obtain ⟨ty, ob7, hpv7, hty, hacc7, hlow7, _⟩ := Acc.pure (enc := encI) (k := 1) (fun _ => rfl) hacc
    refine aw_pur 3 hpv7 ?_
    refine aw_region_seq C (pb := false) rfl fun K hK => ?_
    repeat' (first | refine awOps_yes (by rfl) (by rfl) (by rfl) (by simp  only [go_sem, ↓reduceIte, Nat.reduceEqDiff, reduceCtorEq, Nat.reduceAdd, Nat.reduceMul, Nat.reduceLeDiff, aLoad, aStore]; exact rfl) ?_ | refine awOps_no (by rfl) (by rfl) ?_ | refine awOps_yes0 (by rfl) (by rfl) (by rfl) (by simp  only [go_sem, ↓reduceIte, Nat.reduceEqDiff, reduceCtorEq, Nat.reduceAdd, Nat.reduceMul, Nat.reduceLeDiff, aLoad, aStore]; exact rfl) ?_ | fail)
    refine awOps_nil (hK _ _ ?_)
    clear hK K
    refine aw_ret ?_
    simp only [go_sem, ↓reduceIte, Nat.reduceEqDiff, reduceCtorEq, Nat.reduceAdd, Nat.reduceMul, Nat.reduceLeDiff, aLoad, aStore, FnQ, resA]
    -- 0f.x0.ret
    exact fun _ => ⟨rfl, fun j hj => (hlow7 j hj).trans (hs1.2.1 j hj), hs1.2.2, ty, rfl, by rw [List.drop_of_length_le (by omega), varsG] at h3; exact h3 ▸ hty⟩
end Go.Am.Seat
/-
  MADE BY PROGRAM (am.py): the walks of functions 51.
-/
namespace Go.Am.Seat
open Go.Proofs
theorem bod51 : Try.f51.body = some (Try.f51.body.getD .skip) := rfl
theorem fn51 (L : Loops) (t : List Cell) (s : Me) (x : Sc) (hx : GSl encC x t) (hl : t.length ≤ 1000000000) : FnL Try.prog L 51 [.av (.sc x)] s fun r s' => (∃ y, r = .av (.sc y) ∧ GSl encI y (varsG t [])) ∧ s' = s := by
  refine FnL.pure (R := fun r => ∃ y, r = .av (.sc y) ∧ GSl encI y (varsG t [])) ?_
  refine fn_of_body (ts := [2]) Try.func51 bod51 rfl (by simp) (by simp [Try.ntmps51]) fun D0 => ?_
  unfold Try.f51
  simp only [Option.getD_some, initSl]
  refine aw_region_seq C (pb := false) rfl fun K hK => ?_
  repeat' (first | refine awOps_yes (by rfl) (by rfl) (by rfl) (by simp  only [go_sem, ↓reduceIte, Nat.reduceEqDiff, reduceCtorEq, Nat.reduceAdd, Nat.reduceMul, Nat.reduceLeDiff, aLoad, aStore]; exact rfl) ?_ | refine awOps_no (by rfl) (by rfl) ?_ | refine awOps_yes0 (by rfl) (by rfl) (by rfl) (by simp  only [go_sem, ↓reduceIte, Nat.reduceEqDiff, reduceCtorEq, Nat.reduceAdd, Nat.reduceMul, Nat.reduceLeDiff, aLoad, aStore]; exact rfl) ?_ | fail)
  refine awOps_nil (hK _ _ ?_)
  clear hK K
  refine aw_region_seq C (pb := false) rfl fun K hK => ?_
  repeat' (first | refine awOps_yes (by rfl) (by rfl) (by rfl) (by simp  only [go_sem, ↓reduceIte, Nat.reduceEqDiff, reduceCtorEq, Nat.reduceAdd, Nat.reduceMul, Nat.reduceLeDiff, aLoad, aStore]; exact rfl) ?_ | refine awOps_no (by rfl) (by rfl) ?_ | refine awOps_yes0 (by rfl) (by rfl) (by rfl) (by simp  only [go_sem, ↓reduceIte, Nat.reduceEqDiff, reduceCtorEq, Nat.reduceAdd, Nat.reduceMul, Nat.reduceLeDiff, aLoad, aStore]; exact rfl) ?_ | fail)
  refine awOps_nil (hK _ _ ?_)
  clear hK K
  refine aw_seq ?_
  refine aw_region_seq C (pb := false) rfl fun K hK => ?_
  repeat' (first | refine awOps_yes (by rfl) (by rfl) (by rfl) (by simp  only [go_sem, ↓reduceIte, Nat.reduceEqDiff, reduceCtorEq, Nat.reduceAdd, Nat.reduceMul, Nat.reduceLeDiff, aLoad, aStore, lenC hx]; exact rfl) ?_ | refine awOps_no (by rfl) (by rfl) ?_ | refine awOps_yes0 (by rfl) (by rfl) (by rfl) (by simp  only [go_sem, ↓reduceIte, Nat.reduceEqDiff, reduceCtorEq, Nat.reduceAdd, Nat.reduceMul, Nat.reduceLeDiff, aLoad, aStore, lenC hx]; exact rfl) ?_ | fail)
  refine awOps_nil (hK _ _ ?_)
  clear hK K
  refine aw_block ?_
  refine AW.less (sl' := [(6, .av (.sc x)), (7, vI t.length), (8, vI (0)), (3, (_))]) (AllIn.less ⟨rfl, rfl, rfl, rfl, trivial⟩) (aw_loop (fun k sl1 s1 => ∃ (i : Nat) (xo : Va) (out : List Int), k = t.length - i ∧ sl1 = [(6, .av (.sc x)), (7, vI t.length), (8, vI (i)), (3, (xo))] ∧ (Kp s s1) ∧ (i ≤ t.length ∧ out.length ≤ i) ∧ (Acc s.nx s1.nx s1.ob xo out.length 1 ((out.flatMap encI).map .sc)) ∧ (varsG (t.drop i) out = varsG t [])) (k := t.length - (0)) ⟨0, _, [], rfl, rfl, (Kp.refl s).up (by omega), by simp, .inl ⟨rfl, rfl, rfl⟩, rfl⟩ ?_)
  rintro k1 _ s1 ⟨i, xo, out, hk1, rfl, hs1, hb, hacc, h3⟩
  refine aw_region_seq C (pb := false) rfl fun K hK => ?_
  repeat' (first | refine awOps_yes (by rfl) (by rfl) (by rfl) (by simp  only [go_sem, ↓reduceIte, Nat.reduceEqDiff, reduceCtorEq, Nat.reduceAdd, Nat.reduceMul, Nat.reduceLeDiff, aLoad, aStore]; exact rfl) ?_ | refine awOps_no (by rfl) (by rfl) ?_ | refine awOps_yes0 (by rfl) (by rfl) (by rfl) (by simp  only [go_sem, ↓reduceIte, Nat.reduceEqDiff, reduceCtorEq, Nat.reduceAdd, Nat.reduceMul, Nat.reduceLeDiff, aLoad, aStore]; exact rfl) ?_ | fail)
  refine awOps_nil (hK _ _ ?_)
  clear hK K
  refine aw_seq ?_
  refine aw_cond (by rfl) ?_ ?_
  · intro hc0
    try simp only [decide_eq_true_eq, decide_eq_false_iff_not] at hc0
    have hi2 : i < t.length := by omega
    have hdrop : t.drop i = t[i] :: t.drop (i + 1) := List.drop_eq_getElem_cons hi2
    have hn1 := hs1.1
    refine aw_skip ?_
    simp only [thenA_normal, thenA_ret, thenA_exit, blockA_normal, blockA_ret, blockA_exit, ↓reduceIte, Nat.reduceEqDiff]
    refine aw_seq ?_
    refine aw_block ?_
    refine aw_region_seq C (pb := false) rfl fun K hK => ?_
    repeat' (first | refine awOps_yes (by rfl) (by rfl) (by rfl) (by simp  only [go_sem, ↓reduceIte, Nat.reduceEqDiff, reduceCtorEq, Nat.reduceAdd, Nat.reduceMul, Nat.reduceLeDiff, aLoad, aStore, idxC hx hi2]; exact rfl) ?_ | refine awOps_no (by rfl) (by rfl) ?_ | refine awOps_yes0 (by rfl) (by rfl) (by rfl) (by simp  only [go_sem, ↓reduceIte, Nat.reduceEqDiff, reduceCtorEq, Nat.reduceAdd, Nat.reduceMul, Nat.reduceLeDiff, aLoad, aStore, idxC hx hi2]; exact rfl) ?_ | fail)
    refine awOps_nil (hK _ _ ?_)
    refine AW.less (sl' := [(6, .av (.sc x)), (7, vI t.length), (8, vI i), (3, xo), (5, .av (.ptr (s1.nx + 3) 0))]) (AllIn.less ⟨rfl, rfl, rfl, rfl, rfl, trivial⟩) ?_
    refine aw_state (J := fun s4 => Kp s s4 ∧ Acc s.nx (s1.nx + 1) s4.ob xo out.length 1 ((out.flatMap encI).map .sc) ∧ s4.ob (s1.nx + 3) = .cs [.sc (.int .i64 t[i].kind), .sc (.str t[i].name), .sc (.int .i64 t[i].n)] 0 ∧ s1.nx + 3 < s4.nx) ⟨⟨(by first | omega | (dsimp only; omega) | (dsimp only at *; omega)), fun j hj => (upd_ne _ _ (by omega)).trans ((upd_ne _ _ (by omega)).trans (hs1.2.1 j hj)), hs1.2.2⟩, hacc.up (by omega) (fun j h1 h2 => (upd_ne _ _ (by omega)).trans (upd_ne _ _ (by omega))), upd_same _ _ _, (by first | omega | (dsimp only; omega) | (dsimp only at *; omega))⟩ fun s4 hJ4 => ?_
    clear hK K
    obtain ⟨hK4, hac4, hx4, hn4⟩ := hJ4
    obtain ⟨tx, ob2, hpv, htx, hacc2, hlow, hoth⟩ := Acc.pure (enc := encI) (k := 1) (fun _ => rfl) hac4
    have hx42 : ob2 (s1.nx + 3) = .cs [.sc (.int .i64 t[i].kind), .sc (.str t[i].name), .sc (.int .i64 t[i].n)] 0 := (hoth _ (by intro j hj e; rcases hac4 with ⟨h, _⟩ | ⟨id, fz, h, h2, h3', _⟩; rw [h] at hj; cases hj; rw [h] at hj; cases hj; omega)).trans hx4
    refine aw_cutM_seq C (pb := false) [(6, .av (.sc x)), (7, vI t.length), (8, vI i), (3, xo), (5, .av (.ptr (s1.nx + 3) 0)), (21, vB ((t[i].kind == 1) && !(out.contains t[i].n)))] (fun s2 => Kp s s2 ∧ Acc s.nx s2.nx s2.ob xo out.length 1 ((out.flatMap encI).map .sc) ∧ s2.ob (s1.nx + 3) = .cs [.sc (.int .i64 t[i].kind), .sc (.str t[i].name), .sc (.int .i64 t[i].n)] 0 ∧ s4.nx ≤ s2.nx) rfl ?_ fun sM5 hM5 => ?_
    · cases hA0 : (t[i].kind == 1 : Bool) <;> cases hA1 : (out.contains t[i].n : Bool)
      all_goals (repeat' (first | refine awOps_yes (by rfl) (by rfl) (by rfl) (by simp  only [go_sem, ↓reduceIte, Nat.reduceEqDiff, reduceCtorEq, Nat.reduceAdd, Nat.reduceMul, Nat.reduceLeDiff, aLoad, aStore, hx4, hx42, hA0, hA1]; exact rfl) ?_ | refine awOps_no (by rfl) (by rfl) ?_ | refine awOps_yes0 (by rfl) (by rfl) (by rfl) (by simp  only [go_sem, ↓reduceIte, Nat.reduceEqDiff, reduceCtorEq, Nat.reduceAdd, Nat.reduceMul, Nat.reduceLeDiff, aLoad, aStore, hx4, hx42, hA0, hA1]; exact rfl) ?_ | fail))
      all_goals (try (first | (refine awOps_call (by rfl) (by rfl) (by rfl) (And.intro Try.call73 (FnL.pur (PurArgs.pur hpv (PurArgs.keep PurArgs.nil)) (fn73 L out t[i].n _ tx htx (by omega)))) ?_; rintro _ _ ⟨rfl, rfl⟩) | refine awOps_no (by rfl) (by rfl) ?_ | fail))
      all_goals (repeat' (first | refine awOps_yes (by rfl) (by rfl) (by rfl) (by simp  only [go_sem, ↓reduceIte, Nat.reduceEqDiff, reduceCtorEq, Nat.reduceAdd, Nat.reduceMul, Nat.reduceLeDiff, aLoad, aStore, hx4, hx42, hA0, hA1]; exact rfl) ?_ | refine awOps_no (by rfl) (by rfl) ?_ | refine awOps_yes0 (by rfl) (by rfl) (by rfl) (by simp  only [go_sem, ↓reduceIte, Nat.reduceEqDiff, reduceCtorEq, Nat.reduceAdd, Nat.reduceMul, Nat.reduceLeDiff, aLoad, aStore, hx4, hx42, hA0, hA1]; exact rfl) ?_ | fail))
      all_goals (first | exact awOps_nil ⟨⟨rfl, rfl, rfl, rfl, rfl, rfl, trivial⟩, hK4.up (by omega), hac4.up (by first | omega | (dsimp only; omega)) fun _ _ _ => rfl, hx4, (by first | omega | (dsimp only; omega) | (dsimp only at *; omega))⟩ | exact awOps_nil ⟨⟨rfl, rfl, rfl, rfl, rfl, rfl, trivial⟩, ⟨by have := hK4.1; exact (by first | omega | (dsimp only; omega) | (dsimp only at *; omega)), fun i hi => (hlow i hi).trans (hK4.2.1 i hi), hK4.2.2⟩, hacc2.up (by first | omega | (dsimp only; omega)) fun _ _ _ => rfl, hx42, (by first | omega | (dsimp only; omega) | (dsimp only at *; omega))⟩ | fail)
    refine aw_cond (by rfl) ?_ ?_
    · intro hc1
      try simp only [decide_eq_true_eq, decide_eq_false_iff_not] at hc1
      refine aw_region C (pb := false) rfl ?_
      repeat' (first | refine awOps_yes (by rfl) (by rfl) (by rfl) (by simp  only [go_sem, ↓reduceIte, Nat.reduceEqDiff, reduceCtorEq, Nat.reduceAdd, Nat.reduceMul, Nat.reduceLeDiff, aLoad, aStore, hM5.2.2.1]; exact rfl) ?_ | refine awOps_no (by rfl) (by rfl) ?_ | refine awOps_yes0 (by rfl) (by rfl) (by rfl) (by simp  only [go_sem, ↓reduceIte, Nat.reduceEqDiff, reduceCtorEq, Nat.reduceAdd, Nat.reduceMul, Nat.reduceLeDiff, aLoad, aStore, hM5.2.2.1]; exact rfl) ?_ | fail)
      refine awOps_append (by rfl) (by rfl) (by rfl) (by rfl) (hM5.2.1.up (hi' := sM5.nx + 4) (by omega) fun j h1 h2 => upd_ne _ _ (by omega)) T36 rfl T3 rfl (by simp) (by simp [y3]) (k := 1) (new := [.sc (.int .i64 t[i].n)]) (by simp [aSrc, evA, get, upd, zerosA]) (by simp) (by omega) (by omega) (by have := hM5.1.1; omega) fun x6 ob6 hacc6 hlow6 _ => ?_
      repeat' (first | refine awOps_yes (by rfl) (by rfl) (by rfl) (by simp  only [go_sem, ↓reduceIte, Nat.reduceEqDiff, reduceCtorEq, Nat.reduceAdd, Nat.reduceMul, Nat.reduceLeDiff, aLoad, aStore, hM5.2.2.1]; exact rfl) ?_ | refine awOps_no (by rfl) (by rfl) ?_ | refine awOps_yes0 (by rfl) (by rfl) (by rfl) (by simp  only [go_sem, ↓reduceIte, Nat.reduceEqDiff, reduceCtorEq, Nat.reduceAdd, Nat.reduceMul, Nat.reduceLeDiff, aLoad, aStore, hM5.2.2.1]; exact rfl) ?_ | fail)
      refine awOps_nil ?_
      try simp only [thenA_normal, thenA_ret, thenA_exit, blockA_normal, blockA_ret, blockA_exit]
      refine aw_region C (pb := false) rfl ?_
      repeat' (first | refine awOps_yes (by rfl) (by rfl) (by rfl) (by simp  only [go_sem, ↓reduceIte, Nat.reduceEqDiff, reduceCtorEq, Nat.reduceAdd, Nat.reduceMul, Nat.reduceLeDiff, aLoad, aStore, wrap_small ((i : Int) + 1) (by omega) (by omega)]; exact rfl) ?_ | refine awOps_no (by rfl) (by rfl) ?_ | refine awOps_yes0 (by rfl) (by rfl) (by rfl) (by simp  only [go_sem, ↓reduceIte, Nat.reduceEqDiff, reduceCtorEq, Nat.reduceAdd, Nat.reduceMul, Nat.reduceLeDiff, aLoad, aStore, wrap_small ((i : Int) + 1) (by omega) (by omega)]; exact rfl) ?_ | fail)
      refine awOps_nil ?_
      try simp only [thenA_normal, thenA_ret, thenA_exit, blockA_normal, blockA_ret, blockA_exit]
      -- end of round 0 at 0t1t
      refine ⟨t.length - (i + 1), [(6, .av (.sc x)), (7, vI t.length), (8, vI (i + 1)), (3, (x6))], by omega, AllIn.less ⟨rfl, rfl, rfl, rfl, trivial⟩, i + 1, x6, out ++ [t[i].n], rfl, rfl, ?_, ?_, ?_, ?_⟩
      · exact ⟨by have := hM5.1.1; exact (by first | omega | (dsimp only; omega) | (dsimp only at *; omega)), fun j hj => (hlow6 j hj).trans ((upd_ne _ _ (by have := hM5.1.1; omega)).trans (hM5.1.2.1 j hj)), hM5.1.2.2⟩
      · simp only [List.length_append, List.length_cons, List.length_nil]
        omega
      · simp only [List.length_append, List.length_cons, List.length_nil, List.flatMap_append, List.map_append, List.flatMap_cons, List.flatMap_nil, List.append_nil]
        exact hacc6.up (by first | omega | (dsimp only; omega) | (dsimp only at *; omega)) fun _ _ _ => rfl
      · rw [← h3, hdrop, varsG, if_pos hc1]
    · intro hc1
      try simp only [decide_eq_true_eq, decide_eq_false_iff_not] at hc1
      refine aw_skip ?_
      simp only [thenA_normal, thenA_ret, thenA_exit, blockA_normal, blockA_ret, blockA_exit, ↓reduceIte, Nat.reduceEqDiff]
      refine aw_region C (pb := false) rfl ?_
      repeat' (first | refine awOps_yes (by rfl) (by rfl) (by rfl) (by simp  only [go_sem, ↓reduceIte, Nat.reduceEqDiff, reduceCtorEq, Nat.reduceAdd, Nat.reduceMul, Nat.reduceLeDiff, aLoad, aStore, wrap_small ((i : Int) + 1) (by omega) (by omega)]; exact rfl) ?_ | refine awOps_no (by rfl) (by rfl) ?_ | refine awOps_yes0 (by rfl) (by rfl) (by rfl) (by simp  only [go_sem, ↓reduceIte, Nat.reduceEqDiff, reduceCtorEq, Nat.reduceAdd, Nat.reduceMul, Nat.reduceLeDiff, aLoad, aStore, wrap_small ((i : Int) + 1) (by omega) (by omega)]; exact rfl) ?_ | fail)
      refine awOps_nil ?_
      try simp only [thenA_normal, thenA_ret, thenA_exit, blockA_normal, blockA_ret, blockA_exit]
      -- end of round 0 at 0t1f
      refine ⟨t.length - (i + 1), [(6, .av (.sc x)), (7, vI t.length), (8, vI (i + 1)), (3, (xo))], by omega, AllIn.less ⟨rfl, rfl, rfl, rfl, trivial⟩, i + 1, xo, out, rfl, rfl, ?_, ?_, ?_, ?_⟩
      · exact hM5.1.up (by omega)
      · omega
      · exact hM5.2.1.up (by first | omega | (dsimp only; omega)) fun _ _ _ => rfl
      · rw [← h3, hdrop, varsG, if_neg (by rw [hc1]; exact Bool.false_ne_true)]
  · intro hc0
    try simp only [decide_eq_true_eq, decide_eq_false_iff_not] at hc0
    refine aw_exit ?_
    simp only [thenA_normal, thenA_ret, thenA_exit, blockA_normal, blockA_ret, blockA_exit, ↓reduceIte, Nat.reduceEqDiff]
    obtain ⟨ty, ob7, hpv7, hty, hacc7, hlow7, _⟩ := Acc.pure (enc := encI) (k := 1) (fun _ => rfl) hacc
    refine aw_pur 3 hpv7 ?_
    refine aw_region_seq C (pb := false) rfl fun K hK => ?_
    repeat' (first | refine awOps_yes (by rfl) (by rfl) (by rfl) (by simp  only [go_sem, ↓reduceIte, Nat.reduceEqDiff, reduceCtorEq, Nat.reduceAdd, Nat.reduceMul, Nat.reduceLeDiff, aLoad, aStore]; exact rfl) ?_ | refine awOps_no (by rfl) (by rfl) ?_ | refine awOps_yes0 (by rfl) (by rfl) (by rfl) (by simp  only [go_sem, ↓reduceIte, Nat.reduceEqDiff, reduceCtorEq, Nat.reduceAdd, Nat.reduceMul, Nat.reduceLeDiff, aLoad, aStore]; exact rfl) ?_ | fail)
    refine awOps_nil (hK _ _ ?_)
    clear hK K
    refine aw_ret ?_
    simp only [go_sem, ↓reduceIte, Nat.reduceEqDiff, reduceCtorEq, Nat.reduceAdd, Nat.reduceMul, Nat.reduceLeDiff, aLoad, aStore, FnQ, resA]
    -- 0f.x0.ret
    exact fun _ => ⟨rfl, fun j hj => (hlow7 j hj).trans (hs1.2.1 j hj), hs1.2.2, ty, rfl, by rw [List.drop_of_length_le (by omega), varsG] at h3; exact h3 ▸ hty⟩
end Go.Am.Seat
/-
  MADE BY PROGRAM (am.py): the walks of functions 52.
-/
namespace Go.Am.Seat
open Go.Proofs

theorem gsl_pos {x : Sc} {l : List Cell} (h : GSl encC x l) (hl : 0 < l.length) : x = .sl l.length (l.flatMap encC) := by
  rcases h with ⟨_, rfl⟩ | h
  · simp at hl
  · exact h
theorem appC0 {ob : Nat → Obj} {nid id : Nat} {l : List Cell} (h : ob id = .cs [] 0) (hl : 0 < l.length) (hn : l.length ≤ 1000000000) : aAppend T ob nid 22 (.av (.own id 0 0 3)) (vC l) = some (.av (.own nid 0 l.length 3), upd (upd ob id .dead) nid (.cs (celC l) 0)) := by
  have := appC (nid := nid) (out := []) (l := l) (show ob id = .cs (celC []) 0 from h) hl (by simp; omega)
  simpa using this

theorem bod52 : Try.f52.body = some (Try.f52.body.getD .skip) := rfl
theorem fn52 (L : Loops) (l : List Cell) (s : Me) (hl : 0 < l.length ∧ l.length ≤ 1000000) : FnL Try.prog L 52 [vC l] s fun r s' => ∃ id ob' m, r = .av (.own id 0 l.length 3) ∧ s' = ⟨ob', m, s.ls⟩ ∧ s.nx ≤ id ∧ id < m ∧ ob' id = .cs (celC l) 0 ∧ ∀ i, i < s.nx → ob' i = s.ob i := by
  refine fn_of_body (ts := [2]) Try.func52 bod52 rfl (by simp) (by simp [Try.ntmps52]) fun D0 => ?_
  unfold Try.f52
  simp only [Option.getD_some, initSl]
  refine aw_region_seq C (pb := false) rfl fun K hK => ?_
  repeat' (first | refine awOps_yes (by rfl) (by rfl) (by rfl) (by simp  only [go_sem, ↓reduceIte, Nat.reduceEqDiff, reduceCtorEq, Nat.reduceAdd, Nat.reduceMul, Nat.reduceLeDiff, aLoad, aStore]; exact rfl) ?_ | refine awOps_no (by rfl) (by rfl) ?_ | refine awOps_yes0 (by rfl) (by rfl) (by rfl) (by simp  only [go_sem, ↓reduceIte, Nat.reduceEqDiff, reduceCtorEq, Nat.reduceAdd, Nat.reduceMul, Nat.reduceLeDiff, aLoad, aStore]; exact rfl) ?_ | fail)
  refine awOps_nil (hK _ _ ?_)
  clear hK K
  refine aw_seq ?_
  refine aw_region_seq C (pb := false) rfl fun K hK => ?_
  repeat' (first | refine awOps_yes (by rfl) (by rfl) (by rfl) (by simp  only [go_sem, ↓reduceIte, Nat.reduceEqDiff, reduceCtorEq, Nat.reduceAdd, Nat.reduceMul, Nat.reduceLeDiff, aLoad, aStore, aEq, aEqNil, show (l.flatMap encC).isEmpty = false from by cases l with | nil => simp at hl | cons a l => rfl, Bool.false_eq_true, if_false]; exact rfl) ?_ | refine awOps_no (by rfl) (by rfl) ?_ | refine awOps_yes0 (by rfl) (by rfl) (by rfl) (by simp  only [go_sem, ↓reduceIte, Nat.reduceEqDiff, reduceCtorEq, Nat.reduceAdd, Nat.reduceMul, Nat.reduceLeDiff, aLoad, aStore, aEq, aEqNil, show (l.flatMap encC).isEmpty = false from by cases l with | nil => simp at hl | cons a l => rfl, Bool.false_eq_true, if_false]; exact rfl) ?_ | fail)
  refine awOps_nil (hK _ _ ?_)
  clear hK K
  refine aw_cond (by rfl) ?_ ?_
  · intro hc0
    cases hc0
  · intro hc0
    refine aw_skip ?_
    simp only [thenA_normal, thenA_ret, thenA_exit, blockA_normal, blockA_ret, blockA_exit, ↓reduceIte, Nat.reduceEqDiff]
    refine aw_region_seq C (pb := false) rfl fun K hK => ?_
    repeat' (first | refine awOps_yes (by rfl) (by rfl) (by rfl) (by simp  only [go_sem, ↓reduceIte, Nat.reduceEqDiff, reduceCtorEq, Nat.reduceAdd, Nat.reduceMul, Nat.reduceLeDiff, aLoad, aStore]; exact rfl) ?_ | refine awOps_no (by rfl) (by rfl) ?_ | refine awOps_yes0 (by rfl) (by rfl) (by rfl) (by simp  only [go_sem, ↓reduceIte, Nat.reduceEqDiff, reduceCtorEq, Nat.reduceAdd, Nat.reduceMul, Nat.reduceLeDiff, aLoad, aStore]; exact rfl) ?_ | fail)
    refine awOps_yes (by rfl) (by rfl) (by rfl) ((show aop C false _ _ _ _ = aAppend T _ _ 22 _ _ from rfl).trans (appC0 (l := l) (upd_same _ _ _) hl.1 (by omega))) ?_
    repeat' (first | refine awOps_yes (by rfl) (by rfl) (by rfl) (by simp  only [go_sem, ↓reduceIte, Nat.reduceEqDiff, reduceCtorEq, Nat.reduceAdd, Nat.reduceMul, Nat.reduceLeDiff, aLoad, aStore]; exact rfl) ?_ | refine awOps_no (by rfl) (by rfl) ?_ | refine awOps_yes0 (by rfl) (by rfl) (by rfl) (by simp  only [go_sem, ↓reduceIte, Nat.reduceEqDiff, reduceCtorEq, Nat.reduceAdd, Nat.reduceMul, Nat.reduceLeDiff, aLoad, aStore]; exact rfl) ?_ | fail)
    refine awOps_nil (hK _ _ ?_)
    clear hK K
    refine aw_ret ?_
    simp only [go_sem, ↓reduceIte, Nat.reduceEqDiff, reduceCtorEq, Nat.reduceAdd, Nat.reduceMul, Nat.reduceLeDiff, aLoad, aStore, FnQ, resA]
    -- 0f.ret
    exact fun h => ⟨_, _, _, rfl, rfl, (by first | omega | (dsimp only; omega) | (dsimp only at *; omega)), (by first | omega | (dsimp only; omega) | (dsimp only at *; omega)), upd_same _ _ _, fun i hi => (upd_ne _ _ (by first | omega | (dsimp only; omega) | (dsimp only at *; omega))).trans ((upd_ne _ _ (by first | omega | (dsimp only; omega) | (dsimp only at *; omega))).trans (upd_ne _ _ (by first | omega | (dsimp only; omega) | (dsimp only at *; omega))))⟩
end Go.Am.Seat
/-
  MADE BY PROGRAM (am.py): the walks of functions 76.
-/
namespace Go.Am.Seat
open Go.Proofs

def mapC (g : Int → Int) (c : Cell) : Cell := if c.kind = 1 then ⟨c.kind, c.name, g c.n⟩ else c
def mixV (g : Int → Int) (t : List Cell) (i : Nat) : List Cell := (t.take i).map (mapC g) ++ t.drop i
theorem mixV_len {g : Int → Int} {t : List Cell} {i : Nat} : (mixV g t i).length = t.length := by
  simp [mixV]
  omega
theorem mixV_get {g : Int → Int} {t : List Cell} {i : Nat} (hi : i < t.length) : (mixV g t i)[i]'(by rw [mixV_len]; exact hi) = t[i] := by
  unfold mixV
  rw [List.getElem_append_right (by rw [List.length_map, List.length_take]; omega)]
  simp [Nat.min_eq_left (Nat.le_of_lt hi)]
theorem mixV_succ {g : Int → Int} {t : List Cell} {i : Nat} (hi : i < t.length) : mixV g t (i + 1) = (mixV g t i).set i (mapC g t[i]) := by
  have hl : ((t.take i).map (mapC g)).length = i := by rw [List.length_map, List.length_take]; omega
  unfold mixV
  rw [List.set_append_right _ _ (by omega), List.take_succ_eq_append_getElem hi, List.map_append, List.append_assoc, hl, Nat.sub_self, List.drop_eq_getElem_cons hi]
  rfl
theorem celC_at {l : List Cell} {i : Nat} (hi : i < l.length) : (celC l).drop (i * 3) = [.sc (.int .i64 l[i].kind), .sc (.str l[i].name), .sc (.int .i64 l[i].n)] ++ (celC l).drop (i * 3 + 3) := by
  unfold celC
  rw [← List.map_drop, flat_at (k := 3) (fun _ => rfl) l i hi, ← List.map_drop, show i * 3 + 3 = (i + 1) * 3 by omega, flat_drop (k := 3) (fun _ => rfl)]
  rfl
theorem ixC {id n i : Nat} (hi : i < n) : aIndex T 22 (.av (.own id 0 n 3)) (vI (i : Int)) = some (.av (.ptr id (i * 3))) := by
  unfold aIndex
  simp only [T22, Option.bind_some, y22, T42, y42]
  rw [if_pos ⟨trivial, by omega, by omega⟩]
  simp
theorem ldCell {ob : Nat → Obj} {id i fz : Nat} {l : List Cell} (h : ob id = .cs (celC l) fz) (hi : i < l.length) : aLoad T ob 42 (.av (.ptr id (i * 3))) = some (.agg [.sc (.int .i64 l[i].kind), .sc (.str l[i].name), .sc (.int .i64 l[i].n)]) := by
  rw [ldA h]
  simp only [T42, Option.bind_some, y42]
  rw [if_pos (by rw [celC_len]; omega), celC_at hi]
  rfl
theorem celC_set {l : List Cell} {i : Nat} (hi : i < l.length) (v : Int) : (celC l).set (i * 3 + 2) (.sc (.int .i64 v)) = celC (l.set i ⟨l[i].kind, l[i].name, v⟩) := by
  have e1 : celC l = celC (l.take i) ++ ([.sc (.int .i64 l[i].kind), .sc (.str l[i].name), .sc (.int .i64 l[i].n)] ++ celC (l.drop (i + 1))) := by
    rw [show ([.sc (.int .i64 l[i].kind), .sc (.str l[i].name), .sc (.int .i64 l[i].n)] : List Av) = celC [l[i]] from rfl, ← celC_app, ← celC_app]
    congr 1
    rw [List.singleton_append, ← List.drop_eq_getElem_cons hi, List.take_append_drop]
  have hl : (celC (l.take i)).length = i * 3 := by rw [celC_len, List.length_take, Nat.min_eq_left (Nat.le_of_lt hi)]
  rw [e1, List.set_append_right _ _ (by omega), hl, show i * 3 + 2 - i * 3 = 2 by omega]
  have e2 : l.set i ⟨l[i].kind, l[i].name, v⟩ = l.take i ++ ([⟨l[i].kind, l[i].name, v⟩] ++ l.drop (i + 1)) := by rw [List.set_eq_take_append_cons_drop, if_pos hi]; rfl
  rw [e2, celC_app, celC_app]
  rfl
theorem stCell {ob : Nat → Obj} {id i : Nat} {l : List Cell} (h : ob id = .cs (celC l) 0) (hi : i < l.length) (v : Int) : aStore T ob 3 (.av (.ptr id (i * 3 + 2))) (vI v) = some (upd ob id (.cs (celC (l.set i ⟨l[i].kind, l[i].name, v⟩)) 0)) := by
  rw [stA h (cs := [.sc (.int .i64 v)]) rfl]
  simp only [T3, Option.bind_some, y3, List.length_cons, List.length_nil]
  rw [if_pos ⟨trivial, Nat.zero_le _, by rw [celC_len]; omega⟩]
  simp only [storeL, celC_set hi]

-- many steps
theorem bod76 : Try.f76.body = some (Try.f76.body.getD .skip) := rfl
set_option maxHeartbeats 2000000 in
theorem fn76 (L : Loops) (t : List Cell) (f : FuncId) (caps : List Av) (g : Int → Int) (s : Me) (hl : 0 < t.length ∧ t.length ≤ 1000000) (hcall : Callable Try.prog f) (hg : ∀ (n : Int) (s' : Me), (∀ i, i < s.nx → s'.ob i = s.ob i) → FnL Try.prog L f ([vI n] ++ caps.map .av) s' fun r s'' => r = vI (g n) ∧ s'' = s') : FnL Try.prog L 76 [vC t, .av (.fn f [] caps)] s fun r s' => (r = vC (t.map (mapC g))) ∧ s' = s := by
  refine FnL.pure (R := fun r => r = vC (t.map (mapC g))) ?_
  refine fn_of_body (ts := [4]) Try.func76 bod76 rfl (by simp) (by simp [Try.ntmps76]) fun D0 => ?_
  unfold Try.f76
  simp only [Option.getD_some, initSl]
  refine aw_region_seq C (pb := false) rfl fun K hK => ?_
  repeat' (first | refine awOps_yes (by rfl) (by rfl) (by rfl) (by simp  only [go_sem, ↓reduceIte, Nat.reduceEqDiff, reduceCtorEq, Nat.reduceAdd, Nat.reduceMul, Nat.reduceLeDiff, aLoad, aStore]; exact rfl) ?_ | refine awOps_no (by rfl) (by rfl) ?_ | refine awOps_yes0 (by rfl) (by rfl) (by rfl) (by simp  only [go_sem, ↓reduceIte, Nat.reduceEqDiff, reduceCtorEq, Nat.reduceAdd, Nat.reduceMul, Nat.reduceLeDiff, aLoad, aStore]; exact rfl) ?_ | fail)
  refine awOps_nil (hK _ _ ?_)
  clear hK K
  refine aw_region_seq C (pb := false) rfl fun K hK => ?_
  repeat' (first | refine awOps_yes (by rfl) (by rfl) (by rfl) (by simp  only [go_sem, ↓reduceIte, Nat.reduceEqDiff, reduceCtorEq, Nat.reduceAdd, Nat.reduceMul, Nat.reduceLeDiff, aLoad, aStore]; exact rfl) ?_ | refine awOps_no (by rfl) (by rfl) ?_ | refine awOps_yes0 (by rfl) (by rfl) (by rfl) (by simp  only [go_sem, ↓reduceIte, Nat.reduceEqDiff, reduceCtorEq, Nat.reduceAdd, Nat.reduceMul, Nat.reduceLeDiff, aLoad, aStore]; exact rfl) ?_ | fail)
  refine awOps_call (by rfl) (by rfl) (by rfl) (And.intro Try.call52 (fn52 L t _ hl)) ?_
  rintro _ _ ⟨oid, ob1, m1, rfl, rfl, hlo1, hid0, hid1, hob1⟩
  dsimp only at hlo1 hob1
  repeat' (first | refine awOps_yes (by rfl) (by rfl) (by rfl) (by simp  only [go_sem, ↓reduceIte, Nat.reduceEqDiff, reduceCtorEq, Nat.reduceAdd, Nat.reduceMul, Nat.reduceLeDiff, aLoad, aStore]; exact rfl) ?_ | refine awOps_no (by rfl) (by rfl) ?_ | refine awOps_yes0 (by rfl) (by rfl) (by rfl) (by simp  only [go_sem, ↓reduceIte, Nat.reduceEqDiff, reduceCtorEq, Nat.reduceAdd, Nat.reduceMul, Nat.reduceLeDiff, aLoad, aStore]; exact rfl) ?_ | fail)
  refine awOps_nil (hK _ _ ?_)
  refine AW.less (sl' := [(1, .av (.fn f [] caps)), (5, .av (.own oid 0 t.length 3))]) (AllIn.less ⟨rfl, rfl, trivial⟩) ?_
  refine aw_state (J := fun s2 => Kp s s2 ∧ s2.ob oid = .cs (celC (mixV g t 0)) 0 ∧ oid < s2.nx) ⟨⟨(by first | omega | (dsimp only; omega) | (dsimp only at *; omega)), fun j hj => hob1 j (by first | omega | (dsimp only; omega) | (dsimp only at *; omega)), rfl⟩, by rw [show mixV g t 0 = t by simp [mixV]]; exact hid1, (by first | omega | (dsimp only; omega) | (dsimp only at *; omega))⟩ fun s2 hJ2 => ?_
  clear hK K
  refine aw_seq ?_
  refine aw_region_seq C (pb := false) rfl fun K hK => ?_
  repeat' (first | refine awOps_yes (by rfl) (by rfl) (by rfl) (by simp  only [go_sem, ↓reduceIte, Nat.reduceEqDiff, reduceCtorEq, Nat.reduceAdd, Nat.reduceMul, Nat.reduceLeDiff, aLoad, aStore, aLen]; exact rfl) ?_ | refine awOps_no (by rfl) (by rfl) ?_ | refine awOps_yes0 (by rfl) (by rfl) (by rfl) (by simp  only [go_sem, ↓reduceIte, Nat.reduceEqDiff, reduceCtorEq, Nat.reduceAdd, Nat.reduceMul, Nat.reduceLeDiff, aLoad, aStore, aLen]; exact rfl) ?_ | fail)
  refine awOps_nil (hK _ _ ?_)
  clear hK K
  refine aw_block ?_
  refine AW.less (sl' := [(1, .av (.fn f [] caps)), (5, .av (.own oid 0 t.length 3)), (10, .av (.own oid 0 t.length 3)), (11, vI t.length), (12, vI (0))]) (AllIn.less ⟨rfl, rfl, rfl, rfl, rfl, trivial⟩) (aw_loop (fun k sl1 s1 => ∃ (i : Nat), k = t.length - i ∧ sl1 = [(1, .av (.fn f [] caps)), (5, .av (.own oid 0 t.length 3)), (10, .av (.own oid 0 t.length 3)), (11, vI t.length), (12, vI (i))] ∧ (Kp s s1 ∧ s1.ob oid = .cs (celC (mixV g t i)) 0 ∧ oid < s1.nx) ∧ (i ≤ t.length)) (k := t.length - (0)) ⟨0, rfl, rfl, ⟨hJ2.1.up (by omega), hJ2.2.1, (by first | omega | (dsimp only; omega) | (dsimp only at *; omega))⟩, Nat.zero_le _⟩ ?_)
  rintro k1 _ s1 ⟨i, hk1, rfl, hs1, hb⟩
  have hn1 := hs1.1.1
  have hm1 := hs1.2.2
  refine aw_region_seq C (pb := false) rfl fun K hK => ?_
  repeat' (first | refine awOps_yes (by rfl) (by rfl) (by rfl) (by simp  only [go_sem, ↓reduceIte, Nat.reduceEqDiff, reduceCtorEq, Nat.reduceAdd, Nat.reduceMul, Nat.reduceLeDiff, aLoad, aStore]; exact rfl) ?_ | refine awOps_no (by rfl) (by rfl) ?_ | refine awOps_yes0 (by rfl) (by rfl) (by rfl) (by simp  only [go_sem, ↓reduceIte, Nat.reduceEqDiff, reduceCtorEq, Nat.reduceAdd, Nat.reduceMul, Nat.reduceLeDiff, aLoad, aStore]; exact rfl) ?_ | fail)
  refine awOps_nil (hK _ _ ?_)
  clear hK K
  refine aw_seq ?_
  refine aw_cond (by rfl) ?_ ?_
  · intro hc0
    try simp only [decide_eq_true_eq, decide_eq_false_iff_not] at hc0
    have hi2 : i < t.length := by omega
    have hi3 : i < (mixV g t i).length := by rw [mixV_len]; exact hi2
    have hge := mixV_get (g := g) hi2
    refine aw_skip ?_
    simp only [thenA_normal, thenA_ret, thenA_exit, blockA_normal, blockA_ret, blockA_exit, ↓reduceIte, Nat.reduceEqDiff]
    refine aw_seq ?_
    refine aw_block ?_
    refine aw_region_seq C (pb := false) rfl fun K hK => ?_
    repeat' (first | refine awOps_yes (by rfl) (by rfl) (by rfl) (by simp  only [go_sem, ↓reduceIte, Nat.reduceEqDiff, reduceCtorEq, Nat.reduceAdd, Nat.reduceMul, Nat.reduceLeDiff, ixC hi2, ldCell hs1.2.1 hi3, hge, aStore, upd_same]; exact rfl) ?_ | refine awOps_no (by rfl) (by rfl) ?_ | refine awOps_yes0 (by rfl) (by rfl) (by rfl) (by simp  only [go_sem, ↓reduceIte, Nat.reduceEqDiff, reduceCtorEq, Nat.reduceAdd, Nat.reduceMul, Nat.reduceLeDiff, ixC hi2, ldCell hs1.2.1 hi3, hge, aStore, upd_same]; exact rfl) ?_ | fail)
    refine awOps_nil (hK _ _ ?_)
    refine AW.less (sl' := [(1, .av (.fn f [] caps)), (5, .av (.own oid 0 t.length 3)), (10, .av (.own oid 0 t.length 3)), (11, vI t.length), (12, vI i), (6, vI i), (7, .av (.ptr (s1.nx + 4) 0))]) (AllIn.less ⟨rfl, rfl, rfl, rfl, rfl, rfl, rfl, trivial⟩) ?_
    refine aw_state (J := fun s4 => Kp s s4 ∧ s4.ob oid = .cs (celC (mixV g t i)) 0 ∧ oid < s4.nx ∧ s4.ob (s1.nx + 4) = .cs [.sc (.int .i64 t[i].kind), .sc (.str t[i].name), .sc (.int .i64 t[i].n)] 0) ⟨⟨(by first | omega | (dsimp only; omega) | (dsimp only at *; omega)), fun j hj => (upd_ne _ _ (by omega)).trans ((upd_ne _ _ (by omega)).trans (hs1.1.2.1 j hj)), hs1.1.2.2⟩, (upd_ne _ _ (by omega)).trans ((upd_ne _ _ (by omega)).trans hs1.2.1), (by first | omega | (dsimp only; omega) | (dsimp only at *; omega)), upd_same _ _ _⟩ fun s4 hJ4 => ?_
    obtain ⟨hK4, ho4, hn4, hx4⟩ := hJ4
    clear hK K
    refine aw_region_seq C (pb := false) rfl fun K hK => ?_
    repeat' (first | refine awOps_yes (by rfl) (by rfl) (by rfl) (by simp  only [go_sem, ↓reduceIte, Nat.reduceEqDiff, reduceCtorEq, Nat.reduceAdd, Nat.reduceMul, Nat.reduceLeDiff, aLoad, aStore, hx4]; exact rfl) ?_ | refine awOps_no (by rfl) (by rfl) ?_ | refine awOps_yes0 (by rfl) (by rfl) (by rfl) (by simp  only [go_sem, ↓reduceIte, Nat.reduceEqDiff, reduceCtorEq, Nat.reduceAdd, Nat.reduceMul, Nat.reduceLeDiff, aLoad, aStore, hx4]; exact rfl) ?_ | fail)
    refine awOps_nil (hK _ _ ?_)
    clear hK K
    refine aw_cond (by rfl) ?_ ?_
    · intro hc1
      try simp only [beq_iff_eq, beq_eq_false_iff_ne, ne_eq] at hc1
      refine aw_region C (pb := false) rfl ?_
      repeat' (first | refine awOps_yes (by rfl) (by rfl) (by rfl) (by simp  only [go_sem, ↓reduceIte, Nat.reduceEqDiff, reduceCtorEq, Nat.reduceAdd, Nat.reduceMul, Nat.reduceLeDiff, ldA hx4, ixC hi2, stCell ho4 hi3]; exact rfl) ?_ | refine awOps_no (by rfl) (by rfl) ?_ | refine awOps_yes0 (by rfl) (by rfl) (by rfl) (by simp  only [go_sem, ↓reduceIte, Nat.reduceEqDiff, reduceCtorEq, Nat.reduceAdd, Nat.reduceMul, Nat.reduceLeDiff, ldA hx4, ixC hi2, stCell ho4 hi3]; exact rfl) ?_ | fail)
      refine awOps_call (by rfl) (by rfl) (by rfl) (And.intro hcall (hg t[i].n _ (fun j hj => hK4.2.1 j hj))) ?_
      rintro _ _ ⟨rfl, rfl⟩
      repeat' (first | refine awOps_yes (by rfl) (by rfl) (by rfl) (by simp  only [go_sem, ↓reduceIte, Nat.reduceEqDiff, reduceCtorEq, Nat.reduceAdd, Nat.reduceMul, Nat.reduceLeDiff, ldA hx4, ixC hi2, stCell ho4 hi3]; exact rfl) ?_ | refine awOps_no (by rfl) (by rfl) ?_ | refine awOps_yes0 (by rfl) (by rfl) (by rfl) (by simp  only [go_sem, ↓reduceIte, Nat.reduceEqDiff, reduceCtorEq, Nat.reduceAdd, Nat.reduceMul, Nat.reduceLeDiff, ldA hx4, ixC hi2, stCell ho4 hi3]; exact rfl) ?_ | fail)
      refine awOps_nil ?_
      refine aw_state (J := fun s6 => Kp s s6 ∧ s6.ob oid = .cs (celC (mixV g t (i + 1))) 0 ∧ oid < s6.nx) ⟨⟨by have := hK4.1; exact (by first | omega | (dsimp only; omega) | (dsimp only at *; omega)), fun j hj => (upd_ne _ _ (by omega)).trans (hK4.2.1 j hj), hK4.2.2⟩, (upd_same _ _ _).trans (by rw [mixV_succ hi2, mapC, if_pos hc1, mixV_get hi2]), (by first | omega | (dsimp only; omega) | (dsimp only at *; omega))⟩ fun s6 hJ6 => ?_
      try simp only [thenA_normal, thenA_ret, thenA_exit, blockA_normal, blockA_ret, blockA_exit]
      refine aw_region C (pb := false) rfl ?_
      repeat' (first | refine awOps_yes (by rfl) (by rfl) (by rfl) (by simp  only [go_sem, ↓reduceIte, Nat.reduceEqDiff, reduceCtorEq, Nat.reduceAdd, Nat.reduceMul, Nat.reduceLeDiff, aLoad, aStore, wrap_small ((i : Int) + 1) (by omega) (by omega)]; exact rfl) ?_ | refine awOps_no (by rfl) (by rfl) ?_ | refine awOps_yes0 (by rfl) (by rfl) (by rfl) (by simp  only [go_sem, ↓reduceIte, Nat.reduceEqDiff, reduceCtorEq, Nat.reduceAdd, Nat.reduceMul, Nat.reduceLeDiff, aLoad, aStore, wrap_small ((i : Int) + 1) (by omega) (by omega)]; exact rfl) ?_ | fail)
      refine awOps_nil ?_
      try simp only [thenA_normal, thenA_ret, thenA_exit, blockA_normal, blockA_ret, blockA_exit]
      -- end of round 0 at 0t1t
      refine ⟨t.length - (i + 1), [(1, .av (.fn f [] caps)), (5, .av (.own oid 0 t.length 3)), (10, .av (.own oid 0 t.length 3)), (11, vI t.length), (12, vI (i + 1))], by omega, AllIn.less ⟨rfl, rfl, rfl, rfl, rfl, trivial⟩, i + 1, rfl, rfl, ?_, ?_⟩
      · exact ⟨hJ6.1.up (by omega), hJ6.2.1, by have := hJ6.2.2; exact (by first | omega | (dsimp only; omega) | (dsimp only at *; omega))⟩
      · omega
    · intro hc1
      try simp only [beq_iff_eq, beq_eq_false_iff_ne, ne_eq] at hc1
      refine aw_skip ?_
      simp only [thenA_normal, thenA_ret, thenA_exit, blockA_normal, blockA_ret, blockA_exit, ↓reduceIte, Nat.reduceEqDiff]
      refine aw_region C (pb := false) rfl ?_
      repeat' (first | refine awOps_yes (by rfl) (by rfl) (by rfl) (by simp  only [go_sem, ↓reduceIte, Nat.reduceEqDiff, reduceCtorEq, Nat.reduceAdd, Nat.reduceMul, Nat.reduceLeDiff, aLoad, aStore, wrap_small ((i : Int) + 1) (by omega) (by omega)]; exact rfl) ?_ | refine awOps_no (by rfl) (by rfl) ?_ | refine awOps_yes0 (by rfl) (by rfl) (by rfl) (by simp  only [go_sem, ↓reduceIte, Nat.reduceEqDiff, reduceCtorEq, Nat.reduceAdd, Nat.reduceMul, Nat.reduceLeDiff, aLoad, aStore, wrap_small ((i : Int) + 1) (by omega) (by omega)]; exact rfl) ?_ | fail)
      refine awOps_nil ?_
      try simp only [thenA_normal, thenA_ret, thenA_exit, blockA_normal, blockA_ret, blockA_exit]
      -- end of round 0 at 0t1f
      refine ⟨t.length - (i + 1), [(1, .av (.fn f [] caps)), (5, .av (.own oid 0 t.length 3)), (10, .av (.own oid 0 t.length 3)), (11, vI t.length), (12, vI (i + 1))], by omega, AllIn.less ⟨rfl, rfl, rfl, rfl, rfl, trivial⟩, i + 1, rfl, rfl, ?_, ?_⟩
      · exact ⟨hK4.up (by omega), by rw [mixV_succ hi2, mapC, if_neg hc1, ← mixV_get (g := g) hi2, List.set_getElem_self]; exact ho4, (by first | omega | (dsimp only; omega) | (dsimp only at *; omega))⟩
      · omega
  · intro hc0
    try simp only [decide_eq_true_eq, decide_eq_false_iff_not] at hc0
    refine aw_exit ?_
    simp only [thenA_normal, thenA_ret, thenA_exit, blockA_normal, blockA_ret, blockA_exit, ↓reduceIte, Nat.reduceEqDiff]
    have hin : i = t.length := by omega
    have hfin : s1.ob oid = .cs (celC (t.map (mapC g))) 0 := by have := hs1.2.1; rwa [hin, mixV, List.take_length, List.drop_length, List.append_nil] at this
    have hpl := celC_pure hfin
    rw [List.length_map] at hpl
    refine aw_pur 5 hpl ?_
    refine aw_region_seq C (pb := false) rfl fun K hK => ?_
    repeat' (first | refine awOps_yes (by rfl) (by rfl) (by rfl) (by simp  only [go_sem, ↓reduceIte, Nat.reduceEqDiff, reduceCtorEq, Nat.reduceAdd, Nat.reduceMul, Nat.reduceLeDiff, aLoad, aStore]; exact rfl) ?_ | refine awOps_no (by rfl) (by rfl) ?_ | refine awOps_yes0 (by rfl) (by rfl) (by rfl) (by simp  only [go_sem, ↓reduceIte, Nat.reduceEqDiff, reduceCtorEq, Nat.reduceAdd, Nat.reduceMul, Nat.reduceLeDiff, aLoad, aStore]; exact rfl) ?_ | fail)
    refine awOps_nil (hK _ _ ?_)
    clear hK K
    refine aw_ret ?_
    simp only [go_sem, ↓reduceIte, Nat.reduceEqDiff, reduceCtorEq, Nat.reduceAdd, Nat.reduceMul, Nat.reduceLeDiff, aLoad, aStore, FnQ, resA]
    -- 0f.x0.ret
    exact fun _ => ⟨rfl, fun j hj => (upd_ne _ _ (by omega)).trans (hs1.1.2.1 j hj), hs1.1.2.2, by first | rfl | (simp only [vC, List.length_map])⟩
end Go.Am.Seat
/-
  MADE BY PROGRAM (am.py): the walks of functions 77.
-/
namespace Go.Am.Seat
open Go.Proofs
theorem bod77 : Try.f77.body = some (Try.f77.body.getD .skip) := rfl
theorem fn77 (L : Loops) (l : List Int) (n : Int) (bl : Nat) (fz : Nat) (s : Me) (x : Sc) (hx : GSl encI x l) (hl : l.length ≤ 2199023255552) (hb : s.ob bl = .cs [.sc x] fz) : FnL Try.prog L 77 [vI n, .av (.ptr bl 0)] s fun r s' => (r = vI (placeI l n 0)) ∧ s' = s := by
  refine FnL.pure (R := fun r => r = vI (placeI l n 0)) ?_
  refine fn_of_body (ts := [3]) Try.func77 bod77 rfl (by simp) (by simp [Try.ntmps77]) fun D0 => ?_
  unfold Try.f77
  simp only [Option.getD_some, initSl]
  refine aw_region_seq C (pb := false) rfl fun K hK => ?_
  repeat' (first | refine awOps_yes (by rfl) (by rfl) (by rfl) (by simp  only [go_sem, ↓reduceIte, Nat.reduceEqDiff, reduceCtorEq, Nat.reduceAdd, Nat.reduceMul, Nat.reduceLeDiff, aLoad, aStore]; exact rfl) ?_ | refine awOps_no (by rfl) (by rfl) ?_ | refine awOps_yes0 (by rfl) (by rfl) (by rfl) (by simp  only [go_sem, ↓reduceIte, Nat.reduceEqDiff, reduceCtorEq, Nat.reduceAdd, Nat.reduceMul, Nat.reduceLeDiff, aLoad, aStore]; exact rfl) ?_ | fail)
  refine awOps_nil (hK _ _ ?_)
  clear hK K
  refine aw_region_seq C (pb := false) rfl fun K hK => ?_
  repeat' (first | refine awOps_yes (by rfl) (by rfl) (by rfl) (by simp  only [go_sem, ↓reduceIte, Nat.reduceEqDiff, reduceCtorEq, Nat.reduceAdd, Nat.reduceMul, Nat.reduceLeDiff, aLoad, aStore, hb]; exact rfl) ?_ | refine awOps_no (by rfl) (by rfl) ?_ | refine awOps_yes0 (by rfl) (by rfl) (by rfl) (by simp  only [go_sem, ↓reduceIte, Nat.reduceEqDiff, reduceCtorEq, Nat.reduceAdd, Nat.reduceMul, Nat.reduceLeDiff, aLoad, aStore, hb]; exact rfl) ?_ | fail)
  (refine awOps_call (by rfl) (by rfl) (by rfl) (And.intro Try.call78 (fn78 L l n _ x hx hl)) ?_; rintro _ _ ⟨rfl, rfl⟩)
  repeat' (first | refine awOps_yes (by rfl) (by rfl) (by rfl) (by simp  only [go_sem, ↓reduceIte, Nat.reduceEqDiff, reduceCtorEq, Nat.reduceAdd, Nat.reduceMul, Nat.reduceLeDiff, aLoad, aStore, hb]; exact rfl) ?_ | refine awOps_no (by rfl) (by rfl) ?_ | refine awOps_yes0 (by rfl) (by rfl) (by rfl) (by simp  only [go_sem, ↓reduceIte, Nat.reduceEqDiff, reduceCtorEq, Nat.reduceAdd, Nat.reduceMul, Nat.reduceLeDiff, aLoad, aStore, hb]; exact rfl) ?_ | fail)
  refine awOps_nil (hK _ _ ?_)
  clear hK K
  refine aw_ret ?_
  simp only [go_sem, ↓reduceIte, Nat.reduceEqDiff, reduceCtorEq, Nat.reduceAdd, Nat.reduceMul, Nat.reduceLeDiff, aLoad, aStore, FnQ, resA]
  -- .ret
  exact fun _ => ⟨by first | rfl | trivial, by first | exact fun _ _ => rfl | trivial, by first | rfl | trivial, by first | rfl | trivial⟩
end Go.Am.Seat
/-
  MADE BY PROGRAM (am.py): the walks of functions 56.
-/
namespace Go.Am.Seat
open Go.Proofs

def numG (t : List Cell) : List Cell := t.map (mapC fun n => placeI (varsG t []) n 0)
theorem varsG_len : ∀ (t : List Cell) (out : List Int), (varsG t out).length ≤ out.length + t.length
  | [], out => by simp [varsG]
  | c :: t, out => by
    rw [varsG]
    refine Nat.le_trans (varsG_len t _) ?_
    split
    · simp only [List.length_append, List.length_cons, List.length_nil]; omega
    · simp only [List.length_cons]; omega

theorem bod56 : Try.f56.body = some (Try.f56.body.getD .skip) := rfl
theorem fn56 (L : Loops) (t : List Cell) (s : Me) (hl : 0 < t.length ∧ t.length ≤ 1000000) : FnL Try.prog L 56 [vC t] s fun r s' => (r = vC (numG t)) ∧ s' = s := by
  refine FnL.pure (R := fun r => r = vC (numG t)) ?_
  refine fn_of_body (ts := [2]) Try.func56 bod56 rfl (by simp) (by simp [Try.ntmps56]) fun D0 => ?_
  unfold Try.f56
  simp only [Option.getD_some, initSl]
  refine aw_region_seq C (pb := false) rfl fun K hK => ?_
  repeat' (first | refine awOps_yes (by rfl) (by rfl) (by rfl) (by simp  only [go_sem, ↓reduceIte, Nat.reduceEqDiff, reduceCtorEq, Nat.reduceAdd, Nat.reduceMul, Nat.reduceLeDiff, aLoad, aStore]; exact rfl) ?_ | refine awOps_no (by rfl) (by rfl) ?_ | refine awOps_yes0 (by rfl) (by rfl) (by rfl) (by simp  only [go_sem, ↓reduceIte, Nat.reduceEqDiff, reduceCtorEq, Nat.reduceAdd, Nat.reduceMul, Nat.reduceLeDiff, aLoad, aStore]; exact rfl) ?_ | fail)
  refine awOps_nil (hK _ _ ?_)
  clear hK K
  refine aw_region_seq C (pb := false) rfl fun K hK => ?_
  repeat' (first | refine awOps_yes (by rfl) (by rfl) (by rfl) (by simp  only [go_sem, ↓reduceIte, Nat.reduceEqDiff, reduceCtorEq, Nat.reduceAdd, Nat.reduceMul, Nat.reduceLeDiff, aLoad, aStore]; exact rfl) ?_ | refine awOps_no (by rfl) (by rfl) ?_ | refine awOps_yes0 (by rfl) (by rfl) (by rfl) (by simp  only [go_sem, ↓reduceIte, Nat.reduceEqDiff, reduceCtorEq, Nat.reduceAdd, Nat.reduceMul, Nat.reduceLeDiff, aLoad, aStore]; exact rfl) ?_ | fail)
  refine awOps_call (by rfl) (by rfl) (by rfl) (And.intro Try.call51 (fn51 L t _ _ (gslC t) (by omega))) ?_
  rintro _ _ ⟨⟨xv, rfl, hxv⟩, rfl⟩
  repeat' (first | refine awOps_yes (by rfl) (by rfl) (by rfl) (by simp  only [go_sem, ↓reduceIte, Nat.reduceEqDiff, reduceCtorEq, Nat.reduceAdd, Nat.reduceMul, Nat.reduceLeDiff, aLoad, aStore]; exact rfl) ?_ | refine awOps_no (by rfl) (by rfl) ?_ | refine awOps_yes0 (by rfl) (by rfl) (by rfl) (by simp  only [go_sem, ↓reduceIte, Nat.reduceEqDiff, reduceCtorEq, Nat.reduceAdd, Nat.reduceMul, Nat.reduceLeDiff, aLoad, aStore]; exact rfl) ?_ | fail)
  refine awOps_nil (hK _ _ ?_)
  refine AW.less (sl' := [(0, vC t), (3, .av (.ptr (s.nx + 3) 0))]) (AllIn.less ⟨rfl, rfl, trivial⟩) ?_
  refine aw_state (J := fun s2 => Kp s s2 ∧ s2.ob (s.nx + 3) = .cs [.sc xv] 0 ∧ s.nx + 3 < s2.nx) ⟨⟨(by first | omega | (dsimp only; omega) | (dsimp only at *; omega)), fun j hj => (upd_ne _ _ (by omega)).trans (upd_ne _ _ (by omega)), rfl⟩, upd_same _ _ _, (by first | omega | (dsimp only; omega) | (dsimp only at *; omega))⟩ fun s2 hJ2 => ?_
  obtain ⟨hK2, hb2, hn2⟩ := hJ2
  clear hK K
  refine aw_region_seq C (pb := false) rfl fun K hK => ?_
  repeat' (first | refine awOps_yes (by rfl) (by rfl) (by rfl) (by simp  only [go_sem, ↓reduceIte, Nat.reduceEqDiff, reduceCtorEq, Nat.reduceAdd, Nat.reduceMul, Nat.reduceLeDiff, aLoad, aStore, avs]; exact rfl) ?_ | refine awOps_no (by rfl) (by rfl) ?_ | refine awOps_yes0 (by rfl) (by rfl) (by rfl) (by simp  only [go_sem, ↓reduceIte, Nat.reduceEqDiff, reduceCtorEq, Nat.reduceAdd, Nat.reduceMul, Nat.reduceLeDiff, aLoad, aStore, avs]; exact rfl) ?_ | fail)
  refine awOps_call (by rfl) (by rfl) (by rfl) (And.intro Try.call76 (fn76 L t 77 [.ptr (s.nx + 3) 0] (fun n => placeI (varsG t []) n 0) _ hl Try.call77 (fun n s' hs' => fn77 L (varsG t []) n (s.nx + 3) 0 s' xv hxv (by have := varsG_len t []; simp only [List.length_nil] at this; omega) ((hs' _ (by first | omega | (dsimp only; omega) | (dsimp only at *; omega))).trans hb2)))) ?_
  rintro _ _ ⟨rfl, rfl⟩
  repeat' (first | refine awOps_yes (by rfl) (by rfl) (by rfl) (by simp  only [go_sem, ↓reduceIte, Nat.reduceEqDiff, reduceCtorEq, Nat.reduceAdd, Nat.reduceMul, Nat.reduceLeDiff, aLoad, aStore, avs]; exact rfl) ?_ | refine awOps_no (by rfl) (by rfl) ?_ | refine awOps_yes0 (by rfl) (by rfl) (by rfl) (by simp  only [go_sem, ↓reduceIte, Nat.reduceEqDiff, reduceCtorEq, Nat.reduceAdd, Nat.reduceMul, Nat.reduceLeDiff, aLoad, aStore, avs]; exact rfl) ?_ | fail)
  refine awOps_nil (hK _ _ ?_)
  clear hK K
  refine aw_ret ?_
  simp only [go_sem, ↓reduceIte, Nat.reduceEqDiff, reduceCtorEq, Nat.reduceAdd, Nat.reduceMul, Nat.reduceLeDiff, aLoad, aStore, FnQ, resA]
  -- .ret
  exact fun _ => ⟨rfl, hK2.2.1, hK2.2.2, rfl⟩
end Go.Am.Seat
/-
  MADE BY PROGRAM (am.py): the walks of functions 15.
-/
namespace Go.Am.Seat
open Go.Proofs

def updI (M : Int → Option (List Cell)) (n : Int) (t : List Cell) : Int → Option (List Cell) := fun m => if m = n then some t else M m
/-- What Match lays for each variable, going over the first term and, beside it, the second one. -/
def matG (b : List Cell) : List Cell → Nat → (Int → Option (List Cell)) → Option (Int → Option (List Cell))
  | [], _, M => some M
  | c :: l, k, M => match b[k]? with
    | none => none
    | some d => if c.kind = 1 then match takes (b.drop k) 1 with
        | none => none
        | some e => match M c.n with
          | some u => if sameL u ((b.take (k + e)).drop k) then matG b l (k + e) (updI M c.n ((b.take (k + e)).drop k)) else none
          | none => matG b l (k + e) (updI M c.n ((b.take (k + e)).drop k))
      else if cellEq c d then matG b l (k + 1) M else none
def headV : List Cell → Int → Bool
  | c :: _, n => c.kind == 1 && c.n == n
  | [], _ => true
def outG (M : Int → Option (List Cell)) : List Int → List (Int × List Cell)
  | [] => []
  | n :: l => match M n with
    | some t => if headV t n then outG M l else (n, t) :: outG M l
    | none => outG M l
/-- What Match tells. -/
def matR (a b : List Cell) : Option (List (Int × List Cell)) := (matG b a 0 fun _ => none).map fun M => outG M (sortI (varsG a []))
def MM (ml : List (Int × Av)) (M : Int → Option (List Cell)) : Prop := ∀ n, lkA ml n = (M n).map fun t => .sc (.sl t.length (t.flatMap encC))
theorem fn52p (L : Loops) (l : List Cell) (s : Me) (hl : 0 < l.length ∧ l.length ≤ 1000000) : FnL Try.prog L 52 [vC l] s fun r s' => r = vC l ∧ s' = s :=
  FnL.pure (FnL.purR ((fn52 L l s hl).mono fun r s' ⟨id, ob', m, h1, h2, h3, h4, h5, h6⟩ => by
    subst h1 h2
    exact ⟨_, _, celC_pure h5, rfl, fun i hi => (upd_ne _ _ (by omega)).trans (h6 i hi), rfl, rfl⟩))
theorem sortI_mem {l : List Int} {n : Int} (h : n ∈ sortI l) : n ∈ l := by simpa [sortI] using h
theorem outG_len {M : Int → Option (List Cell)} : ∀ {l : List Int}, (outG M l).length ≤ l.length
  | [] => Nat.le_refl _
  | n :: l => by
    have := outG_len (M := M) (l := l)
    rw [outG]
    split
    · split <;> simp only [List.length_cons] <;> omega
    · simp only [List.length_cons]; omega
/-- The state in Match. -/
structure MT (s : Me) (sb : Sc) (cid mid : Nat) (ml : List (Int × Av)) (s1 : Me) : Prop where
  kp : Kp s s1
  c : s1.ob cid = .cs [.sc sb, .sc .nilsl, .sc .nilsl, .sc .nilsl] 0
  m : s1.ob mid = .mp (mapA ml)
  lo : s.nx ≤ cid ∧ s.nx ≤ mid ∧ cid ≠ mid ∧ cid < s1.nx ∧ mid < s1.nx
theorem MT.frame {s s1 : Me} {sb : Sc} {cid mid : Nat} {ml : List (Int × Av)} (h : MT s sb cid mid ml s1) {ob' : Nat → Obj} {m : Nat} (hm : s1.nx ≤ m) (ho : ∀ j, j < s1.nx → ob' j = s1.ob j) : MT s sb cid mid ml ⟨ob', m, s1.ls⟩ :=
  ⟨⟨Nat.le_trans h.kp.1 hm, fun j hj => (ho j (Nat.lt_of_lt_of_le hj h.kp.1)).trans (h.kp.2.1 j hj), h.kp.2.2⟩, (ho _ h.lo.2.2.2.1).trans h.c, (ho _ h.lo.2.2.2.2).trans h.m, by have := h.lo; dsimp only; omega⟩
theorem MT.setM {s s1 : Me} {sb : Sc} {cid mid : Nat} {ml : List (Int × Av)} (h : MT s sb cid mid ml s1) {m : Nat} {l1 : List (Sc × Av)} (hm : s1.nx ≤ m) (ml' : List (Int × Av)) : MT s sb cid mid ml' ⟨upd (upd s1.ob mid (.mp l1)) mid (.mp (mapA ml')), m, s1.ls⟩ := by
  have := h.lo
  exact ⟨⟨Nat.le_trans h.kp.1 hm, fun j hj => (upd_ne _ _ (by omega)).trans ((upd_ne _ _ (by omega)).trans (h.kp.2.1 j hj)), h.kp.2.2⟩, (upd_ne _ _ (by omega)).trans ((upd_ne _ _ (by omega)).trans h.c), upd_same _ _ _, by dsimp only; omega⟩
theorem varsG_kind {n : Int} : ∀ {l : List Cell} {out : List Int}, n ∈ varsG l out → n ∈ out ∨ ∃ c ∈ l, c.kind = 1 ∧ c.n = n
  | [], out, h => .inl h
  | c :: l, out, h => by
    rw [varsG] at h
    rcases varsG_kind h with h | ⟨d, h1, h2⟩
    · split at h
      · rename_i hc
        simp only [Bool.and_eq_true, beq_iff_eq] at hc
        rcases List.mem_append.1 h with h | h
        · exact .inl h
        · exact .inr ⟨c, by simp, hc.1, (List.mem_singleton.1 h).symm⟩
      · exact .inl h
    · exact .inr ⟨d, by simp [h1], h2⟩
theorem takes_pos0 (l : List Cell) : takes l 1 ≠ some 0 := by
  intro h
  cases l with
  | nil => exact takes_nil (by omega) h
  | cons c l => obtain ⟨p, h1, _⟩ := takes_cons (by omega) h; omega
theorem takes_le : ∀ {l : List Cell} {n k : Nat}, takes l n = some k → k ≤ l.length
  | l, 0, k, h => by rw [takes_zero h]; exact Nat.zero_le _
  | [], n + 1, k, h => (takes_nil (by omega) h).elim
  | c :: l, n + 1, k, h => by
    obtain ⟨p, rfl, h4⟩ := takes_cons (by omega) h
    have := takes_le h4
    simp only [List.length_cons]; omega

-- many steps
theorem bod15 : Try.f15.body = some (Try.f15.body.getD .skip) := rfl
set_option maxHeartbeats 2000000 in
theorem fn15 (L : Loops) (a b : List Cell) (o : Option (List (Int × List Cell))) (s : Me) (sa sb : Sc) (ha : GSl encC sa a) (hb : GSl encC sb b) (hl : a.length ≤ 100000 ∧ b.length ≤ 100000) (ht : TOK b) (ho : matR a b = o) (hr : ∀ out, o = some out → RightB out) : FnL Try.prog L 15 [.av (.sc sa), .av (.sc sb)] s fun r s' => (∃ y out, r = .tup [.av (.sc y), vB o.isSome] ∧ GSl encB y out ∧ out = (o.getD []).map bndI) ∧ s' = s := by
  refine FnL.pure (R := fun r => ∃ y out, r = .tup [.av (.sc y), vB o.isSome] ∧ GSl encB y out ∧ out = (o.getD []).map bndI) ?_
  obtain ⟨R, hR⟩ : ∃ R, R = matG b a 0 fun _ => none := ⟨_, rfl⟩
  unfold matR at ho
  rw [← hR] at ho
  refine fn_of_body (ts := [4, 5]) Try.func15 bod15 rfl (by simp) (by simp [Try.ntmps15]) fun D0 => ?_
  unfold Try.f15
  simp only [Option.getD_some, initSl]
  refine aw_region_seq C (pb := false) rfl fun K hK => ?_
  repeat' (first | refine awOps_yes (by rfl) (by rfl) (by rfl) (by simp  only [go_sem, ↓reduceIte, Nat.reduceEqDiff, reduceCtorEq, Nat.reduceAdd, Nat.reduceMul, Nat.reduceLeDiff, aLoad, aStore]; exact rfl) ?_ | refine awOps_no (by rfl) (by rfl) ?_ | refine awOps_yes0 (by rfl) (by rfl) (by rfl) (by simp  only [go_sem, ↓reduceIte, Nat.reduceEqDiff, reduceCtorEq, Nat.reduceAdd, Nat.reduceMul, Nat.reduceLeDiff, aLoad, aStore]; exact rfl) ?_ | fail)
  refine awOps_nil (hK _ _ ?_)
  clear hK K
  refine aw_region_seq C (pb := false) rfl fun K hK => ?_
  repeat' (first | refine awOps_yes (by rfl) (by rfl) (by rfl) (by simp  only [go_sem, ↓reduceIte, Nat.reduceEqDiff, reduceCtorEq, Nat.reduceAdd, Nat.reduceMul, Nat.reduceLeDiff, aLoad, aStore]; exact rfl) ?_ | refine awOps_no (by rfl) (by rfl) ?_ | refine awOps_yes0 (by rfl) (by rfl) (by rfl) (by simp  only [go_sem, ↓reduceIte, Nat.reduceEqDiff, reduceCtorEq, Nat.reduceAdd, Nat.reduceMul, Nat.reduceLeDiff, aLoad, aStore]; exact rfl) ?_ | fail)
  refine awOps_nil (hK _ _ ?_)
  clear hK K
  refine aw_region_seq C (pb := false) rfl fun K hK => ?_
  repeat' (first | refine awOps_yes (by rfl) (by rfl) (by rfl) (by simp  only [go_sem, ↓reduceIte, Nat.reduceEqDiff, reduceCtorEq, Nat.reduceAdd, Nat.reduceMul, Nat.reduceLeDiff, aLoad, aStore]; exact rfl) ?_ | refine awOps_no (by rfl) (by rfl) ?_ | refine awOps_yes0 (by rfl) (by rfl) (by rfl) (by simp  only [go_sem, ↓reduceIte, Nat.reduceEqDiff, reduceCtorEq, Nat.reduceAdd, Nat.reduceMul, Nat.reduceLeDiff, aLoad, aStore]; exact rfl) ?_ | fail)
  refine awOps_nil (hK _ _ ?_)
  refine AW.less (sl' := [(0, .av (.sc sa)), (1, .av (.sc sb)), (6, .av (.ptr (s.nx + 4) 0)), (7, vI 0), (8, .av (.map (s.nx + 6)))]) (AllIn.less ⟨rfl, rfl, rfl, rfl, rfl, trivial⟩) ?_
  refine aw_state (J := fun s3 => MT s sb (s.nx + 4) (s.nx + 6) [] s3) ⟨⟨(by first | omega | (dsimp only; omega) | (dsimp only at *; omega)), fun j hj => (upd_ne _ _ (by omega)).trans (upd_ne _ _ (by omega)), rfl⟩, (upd_ne _ _ (by omega)).trans (upd_same _ _ _), upd_same _ _ _, (by first | omega | (dsimp only; omega) | (dsimp only at *; omega))⟩ fun s3 hJ3 => ?_
  obtain ⟨cid, hcid⟩ : ∃ c, c = s.nx + 4 := ⟨_, rfl⟩
  obtain ⟨mid, hmid⟩ : ∃ c, c = s.nx + 6 := ⟨_, rfl⟩
  rw [← hcid, ← hmid] at hJ3 ⊢
  clear hK K
  refine aw_seq ?_
  refine aw_region_seq C (pb := false) rfl fun K hK => ?_
  repeat' (first | refine awOps_yes (by rfl) (by rfl) (by rfl) (by simp  only [go_sem, ↓reduceIte, Nat.reduceEqDiff, reduceCtorEq, Nat.reduceAdd, Nat.reduceMul, Nat.reduceLeDiff, aLoad, aStore, lenC ha]; exact rfl) ?_ | refine awOps_no (by rfl) (by rfl) ?_ | refine awOps_yes0 (by rfl) (by rfl) (by rfl) (by simp  only [go_sem, ↓reduceIte, Nat.reduceEqDiff, reduceCtorEq, Nat.reduceAdd, Nat.reduceMul, Nat.reduceLeDiff, aLoad, aStore, lenC ha]; exact rfl) ?_ | fail)
  refine awOps_nil (hK _ _ ?_)
  clear hK K
  refine aw_block ?_
  refine AW.less (sl' := [(0, .av (.sc sa)), (1, .av (.sc sb)), (6, .av (.ptr cid 0)), (8, .av (.map mid)), (22, .av (.sc sa)), (23, vI a.length), (7, vI (0)), (24, vI (0))]) (AllIn.less ⟨rfl, rfl, rfl, rfl, rfl, rfl, rfl, rfl, trivial⟩) (aw_loop (fun k sl1 s1 => ∃ (i : Nat) (kb : Nat) (M : Int → Option (List Cell)) (ml : List (Int × Av)), k = a.length - i ∧ sl1 = [(0, .av (.sc sa)), (1, .av (.sc sb)), (6, .av (.ptr cid 0)), (8, .av (.map mid)), (22, .av (.sc sa)), (23, vI a.length), (7, vI (kb)), (24, vI (i))] ∧ (MT s sb cid mid ml s1) ∧ (i ≤ a.length ∧ kb ≤ b.length) ∧ (MM ml M) ∧ (∀ c ∈ a.take i, c.kind = 1 → (M c.n).isSome) ∧ (∀ n t, M n = some t → 0 < t.length ∧ t.length ≤ b.length) ∧ (matG b (a.drop i) kb M = R)) (k := a.length - (0)) ⟨0, 0, (fun _ => none), [], rfl, rfl, hJ3.frame (by first | omega | (dsimp only; omega) | (dsimp only at *; omega)) fun _ _ => rfl, ⟨Nat.zero_le _, Nat.zero_le _⟩, fun n => rfl, fun c hc => (by simp at hc), fun n t h => (by cases h), by rw [List.drop_zero, hR]⟩ ?_)
  rintro k1 _ s1 ⟨i, kb, M, ml, hk1, rfl, hs1, hb1, hMM, hset, hok, h3⟩
  refine aw_region_seq C (pb := false) rfl fun K hK => ?_
  repeat' (first | refine awOps_yes (by rfl) (by rfl) (by rfl) (by simp  only [go_sem, ↓reduceIte, Nat.reduceEqDiff, reduceCtorEq, Nat.reduceAdd, Nat.reduceMul, Nat.reduceLeDiff, aLoad, aStore]; exact rfl) ?_ | refine awOps_no (by rfl) (by rfl) ?_ | refine awOps_yes0 (by rfl) (by rfl) (by rfl) (by simp  only [go_sem, ↓reduceIte, Nat.reduceEqDiff, reduceCtorEq, Nat.reduceAdd, Nat.reduceMul, Nat.reduceLeDiff, aLoad, aStore]; exact rfl) ?_ | fail)
  refine awOps_nil (hK _ _ ?_)
  clear hK K
  refine aw_seq ?_
  refine aw_cond (by rfl) ?_ ?_
  · intro hc0
    try simp only [decide_eq_true_eq, decide_eq_false_iff_not] at hc0
    have hi2 : i < a.length := by omega
    rw [List.drop_eq_getElem_cons hi2, matG] at h3
    refine aw_skip ?_
    simp only [thenA_normal, thenA_ret, thenA_exit, blockA_normal, blockA_ret, blockA_exit, ↓reduceIte, Nat.reduceEqDiff]
    refine aw_seq ?_
    refine aw_block ?_
    refine aw_region_seq C (pb := false) rfl fun K hK => ?_
    repeat' (first | refine awOps_yes (by rfl) (by rfl) (by rfl) (by simp  only [go_sem, ↓reduceIte, Nat.reduceEqDiff, reduceCtorEq, Nat.reduceAdd, Nat.reduceMul, Nat.reduceLeDiff, aLoad, aStore, idxC ha hi2]; exact rfl) ?_ | refine awOps_no (by rfl) (by rfl) ?_ | refine awOps_yes0 (by rfl) (by rfl) (by rfl) (by simp  only [go_sem, ↓reduceIte, Nat.reduceEqDiff, reduceCtorEq, Nat.reduceAdd, Nat.reduceMul, Nat.reduceLeDiff, aLoad, aStore, idxC ha hi2]; exact rfl) ?_ | fail)
    refine awOps_nil (hK _ _ ?_)
    refine AW.less (sl' := [(0, .av (.sc sa)), (1, .av (.sc sb)), (6, .av (.ptr cid 0)), (8, .av (.map mid)), (22, .av (.sc sa)), (23, vI a.length), (7, vI kb), (24, vI i), (10, .av (.ptr (s1.nx + 3) 0))]) (AllIn.less ⟨rfl, rfl, rfl, rfl, rfl, rfl, rfl, rfl, rfl, trivial⟩) ?_
    refine aw_state (J := fun s4 => MT s sb cid mid ml s4 ∧ s4.ob (s1.nx + 3) = .cs ((encC a[i]).map .sc) 0 ∧ s1.nx + 3 < s4.nx) ⟨hs1.frame (by first | omega | (dsimp only; omega) | (dsimp only at *; omega)) (fun j hj => (upd_ne _ _ (by omega)).trans (upd_ne _ _ (by omega))), upd_same _ _ _, (by first | omega | (dsimp only; omega) | (dsimp only at *; omega))⟩ fun s4 hJ4 => ?_
    obtain ⟨cc, hcc⟩ : ∃ c, c = s1.nx + 3 := ⟨_, rfl⟩
    rw [← hcc] at hJ4 ⊢
    obtain ⟨hs4, hx4, hn4⟩ := hJ4
    simp only [encC, List.map_cons, List.map_nil] at hx4
    clear hK K
    refine aw_seq ?_
    refine aw_region_seq C (pb := false) rfl fun K hK => ?_
    repeat' (first | refine awOps_yes (by rfl) (by rfl) (by rfl) (by simp  only [go_sem, ↓reduceIte, Nat.reduceEqDiff, reduceCtorEq, Nat.reduceAdd, Nat.reduceMul, Nat.reduceLeDiff, aLoad, aStore, lenC hb]; exact rfl) ?_ | refine awOps_no (by rfl) (by rfl) ?_ | refine awOps_yes0 (by rfl) (by rfl) (by rfl) (by simp  only [go_sem, ↓reduceIte, Nat.reduceEqDiff, reduceCtorEq, Nat.reduceAdd, Nat.reduceMul, Nat.reduceLeDiff, aLoad, aStore, lenC hb]; exact rfl) ?_ | fail)
    refine awOps_nil (hK _ _ ?_)
    clear hK K
    refine aw_cond (by rfl) ?_ ?_
    · intro hc1
      try simp only [decide_eq_true_eq, decide_eq_false_iff_not] at hc1
      have hk2 : b.length ≤ kb := by omega
      rw [List.getElem?_eq_none hk2] at h3
      refine aw_region_seq C (pb := false) rfl fun K hK => ?_
      repeat' (first | refine awOps_yes (by rfl) (by rfl) (by rfl) (by simp  only [go_sem, ↓reduceIte, Nat.reduceEqDiff, reduceCtorEq, Nat.reduceAdd, Nat.reduceMul, Nat.reduceLeDiff, aLoad, aStore]; exact rfl) ?_ | refine awOps_no (by rfl) (by rfl) ?_ | refine awOps_yes0 (by rfl) (by rfl) (by rfl) (by simp  only [go_sem, ↓reduceIte, Nat.reduceEqDiff, reduceCtorEq, Nat.reduceAdd, Nat.reduceMul, Nat.reduceLeDiff, aLoad, aStore]; exact rfl) ?_ | fail)
      refine awOps_nil (hK _ _ ?_)
      clear hK K
      refine aw_ret ?_
      try simp only [thenA_normal, thenA_ret, thenA_exit, blockA_normal, blockA_ret, blockA_exit]
      simp only [go_sem, ↓reduceIte, Nat.reduceEqDiff, reduceCtorEq, Nat.reduceAdd, Nat.reduceMul, Nat.reduceLeDiff, aLoad, aStore, FnQ, resA]
      -- 0t1t.ret
      have hRn : R = none := h3.symm
      have hon : o = none := by rw [← ho, hRn]; rfl
      exact fun _ => ⟨rfl, hs4.kp.2.1, hs4.kp.2.2, .nilsl, [], by rw [hon]; rfl, .inl ⟨rfl, rfl⟩, by rw [hon]; rfl⟩
    · intro hc1
      try simp only [decide_eq_true_eq, decide_eq_false_iff_not] at hc1
      have hk2 : kb < b.length := by omega
      rw [List.getElem?_eq_getElem hk2] at h3
      dsimp only at h3
      refine aw_skip ?_
      simp only [thenA_normal, thenA_ret, thenA_exit, blockA_normal, blockA_ret, blockA_exit, ↓reduceIte, Nat.reduceEqDiff]
      refine aw_seq ?_
      refine aw_region_seq C (pb := false) rfl fun K hK => ?_
      repeat' (first | refine awOps_yes (by rfl) (by rfl) (by rfl) (by simp  only [go_sem, ↓reduceIte, Nat.reduceEqDiff, reduceCtorEq, Nat.reduceAdd, Nat.reduceMul, Nat.reduceLeDiff, aLoad, aStore, hx4]; exact rfl) ?_ | refine awOps_no (by rfl) (by rfl) ?_ | refine awOps_yes0 (by rfl) (by rfl) (by rfl) (by simp  only [go_sem, ↓reduceIte, Nat.reduceEqDiff, reduceCtorEq, Nat.reduceAdd, Nat.reduceMul, Nat.reduceLeDiff, aLoad, aStore, hx4]; exact rfl) ?_ | fail)
      refine awOps_nil (hK _ _ ?_)
      clear hK K
      refine aw_cond (by rfl) ?_ ?_
      · intro hc2
        try simp only [bne_iff_ne, ne_eq, bne_eq_false_iff_eq] at hc2
        rw [if_neg hc2] at h3
        refine aw_seq ?_
        refine aw_sil_seq C (pb := false) 6 _ rfl (by kernel_rfl) rfl (fun _ _ => rfl) fun K hK => ?_
        repeat' (first | refine sil_yes (by rfl) (by rfl) (by rfl) (by simp  only [go_sem, ↓reduceIte, Nat.reduceEqDiff, reduceCtorEq, Nat.reduceAdd, Nat.reduceMul, Nat.reduceLeDiff, aLoad, aStore, hx4, idxC hb hk2]; exact rfl) (fun _ => rfl) ?_ | refine sil_no (by rfl) (by rfl) ?_ | fail)
        refine sil_nil (hK _ ?_)
        clear hK K
        refine aw_cond (by rfl) ?_ ?_
        · intro hc3
          try simp only [decide_eq_true_eq, decide_eq_false_iff_not] at hc3
          refine aw_region_seq C (pb := false) rfl fun K hK => ?_
          repeat' (first | refine awOps_yes (by rfl) (by rfl) (by rfl) (by simp  only [go_sem, ↓reduceIte, Nat.reduceEqDiff, reduceCtorEq, Nat.reduceAdd, Nat.reduceMul, Nat.reduceLeDiff, aLoad, aStore]; exact rfl) ?_ | refine awOps_no (by rfl) (by rfl) ?_ | refine awOps_yes0 (by rfl) (by rfl) (by rfl) (by simp  only [go_sem, ↓reduceIte, Nat.reduceEqDiff, reduceCtorEq, Nat.reduceAdd, Nat.reduceMul, Nat.reduceLeDiff, aLoad, aStore]; exact rfl) ?_ | fail)
          refine awOps_nil (hK _ _ ?_)
          clear hK K
          refine aw_ret ?_
          try simp only [thenA_normal, thenA_ret, thenA_exit, blockA_normal, blockA_ret, blockA_exit]
          simp only [go_sem, ↓reduceIte, Nat.reduceEqDiff, reduceCtorEq, Nat.reduceAdd, Nat.reduceMul, Nat.reduceLeDiff, aLoad, aStore, FnQ, resA]
          -- 0t1f2t3t.ret
          have hc3' : (!(cellEq a[i] b[kb])) = true := hc3
          have hq : cellEq a[i] b[kb] = false := by simpa using hc3'
          have hRn : R = none := by rw [← h3, hq]; rfl
          have hon : o = none := by rw [← ho, hRn]; rfl
          exact fun _ => ⟨rfl, hs4.kp.2.1, hs4.kp.2.2, .nilsl, [], by rw [hon]; rfl, .inl ⟨rfl, rfl⟩, by rw [hon]; rfl⟩
        · intro hc3
          try simp only [decide_eq_true_eq, decide_eq_false_iff_not] at hc3
          refine aw_skip ?_
          simp only [thenA_normal, thenA_ret, thenA_exit, blockA_normal, blockA_ret, blockA_exit, ↓reduceIte, Nat.reduceEqDiff]
          refine aw_region_seq C (pb := false) rfl fun K hK => ?_
          repeat' (first | refine awOps_yes (by rfl) (by rfl) (by rfl) (by simp  only [go_sem, ↓reduceIte, Nat.reduceEqDiff, reduceCtorEq, Nat.reduceAdd, Nat.reduceMul, Nat.reduceLeDiff, aLoad, aStore, wrap_small ((kb : Int) + 1) (by omega) (by omega)]; exact rfl) ?_ | refine awOps_no (by rfl) (by rfl) ?_ | refine awOps_yes0 (by rfl) (by rfl) (by rfl) (by simp  only [go_sem, ↓reduceIte, Nat.reduceEqDiff, reduceCtorEq, Nat.reduceAdd, Nat.reduceMul, Nat.reduceLeDiff, aLoad, aStore, wrap_small ((kb : Int) + 1) (by omega) (by omega)]; exact rfl) ?_ | fail)
          refine awOps_nil (hK _ _ ?_)
          clear hK K
          refine aw_exit ?_
          simp only [thenA_normal, thenA_ret, thenA_exit, blockA_normal, blockA_ret, blockA_exit, ↓reduceIte, Nat.reduceEqDiff]
          refine aw_region C (pb := false) rfl ?_
          repeat' (first | refine awOps_yes (by rfl) (by rfl) (by rfl) (by simp  only [go_sem, ↓reduceIte, Nat.reduceEqDiff, reduceCtorEq, Nat.reduceAdd, Nat.reduceMul, Nat.reduceLeDiff, aLoad, aStore, wrap_small ((i : Int) + 1) (by omega) (by omega)]; exact rfl) ?_ | refine awOps_no (by rfl) (by rfl) ?_ | refine awOps_yes0 (by rfl) (by rfl) (by rfl) (by simp  only [go_sem, ↓reduceIte, Nat.reduceEqDiff, reduceCtorEq, Nat.reduceAdd, Nat.reduceMul, Nat.reduceLeDiff, aLoad, aStore, wrap_small ((i : Int) + 1) (by omega) (by omega)]; exact rfl) ?_ | fail)
          refine awOps_nil ?_
          try simp only [thenA_normal, thenA_ret, thenA_exit, blockA_normal, blockA_ret, blockA_exit]
          -- end of round 0 at 0t1f2t3f.x1
          have hc3' : (!(cellEq a[i] b[kb])) = false := hc3
          have hq : cellEq a[i] b[kb] = true := by simpa using hc3'
          rw [if_pos hq] at h3
          refine ⟨a.length - (i + 1), [(0, .av (.sc sa)), (1, .av (.sc sb)), (6, .av (.ptr cid 0)), (8, .av (.map mid)), (22, .av (.sc sa)), (23, vI a.length), (7, vI (kb + 1)), (24, vI (i + 1))], by omega, AllIn.less ⟨rfl, rfl, rfl, rfl, rfl, rfl, rfl, rfl, trivial⟩, i + 1, kb + 1, M, ml, rfl, rfl, ?_, ?_, ?_, ?_, ?_, ?_⟩
          · exact hs4.frame (by first | omega | (dsimp only; omega) | (dsimp only at *; omega)) fun _ _ => rfl
          · omega
          · exact hMM
          · rw [List.take_succ_eq_append_getElem hi2]
            intro c hc hk
            rcases List.mem_append.1 hc with h | h
            · exact hset c h hk
            · rw [List.mem_singleton.1 h] at hk; exact absurd hk hc2
          · exact hok
          · exact h3
      · intro hc2
        try simp only [bne_iff_ne, ne_eq, bne_eq_false_iff_eq] at hc2
        rw [if_pos hc2] at h3
        obtain ⟨e, he⟩ := ht.1 kb hk2
        rw [he] at h3
        dsimp only at h3
        have hle := takes_le he
        rw [List.length_drop] at hle
        obtain ⟨te, hte⟩ : ∃ t, t = (b.take (kb + e)).drop kb := ⟨_, rfl⟩
        rw [← hte] at h3
        have htl : te.length = e := by rw [hte, List.length_drop, List.length_take]; omega
        have hep : 0 < e := by
          rcases Nat.eq_zero_or_pos e with h | h
          · subst h; exact absurd he (takes_pos0 _)
          · exact h
        have hsl : aSlice T 22 (.av (.sc sb)) (some (vI kb)) (some (vI ((kb + e : Nat) : Int))) = some (.av (.sc (.sl te.length (te.flatMap encC)))) := by
          obtain ⟨x', h1, h2⟩ := slc_g (t := 22) (e := 42) (y := y22) (z := y42) T22 rfl T42 rfl (by decide) (enc := encC) (fun _ => rfl) hb (lo := some (vI kb)) (hi := some (vI ((kb + e : Nat) : Int))) (a := kb) (b := kb + e) (by simp [bnd, vI]) (by simp only [bnd, vI]; rw [if_pos (by omega)]; exact congrArg some (Int.toNat_natCast _)) (by omega) (by omega)
          rw [← hte] at h2
          rw [h1, gsl_pos h2 (by omega)]
        refine aw_skip ?_
        simp only [thenA_normal, thenA_ret, thenA_exit, blockA_normal, blockA_ret, blockA_exit, ↓reduceIte, Nat.reduceEqDiff]
        refine aw_region_seq C (pb := false) rfl fun K hK => ?_
        repeat' (first | refine awOps_yes (by rfl) (by rfl) (by rfl) (by simp  only [go_sem, ↓reduceIte, Nat.reduceEqDiff, reduceCtorEq, Nat.reduceAdd, Nat.reduceMul, Nat.reduceLeDiff, aLoad, aStore]; exact rfl) ?_ | refine awOps_no (by rfl) (by rfl) ?_ | refine awOps_yes0 (by rfl) (by rfl) (by rfl) (by simp  only [go_sem, ↓reduceIte, Nat.reduceEqDiff, reduceCtorEq, Nat.reduceAdd, Nat.reduceMul, Nat.reduceLeDiff, aLoad, aStore]; exact rfl) ?_ | fail)
        (refine awOps_call (by rfl) (by rfl) (by rfl) (And.intro Try.call47 (fn47 L b kb e cid 0 _ _ _ _ sb hb hs4.c (by have := hs4.lo; dsimp only; omega) (by omega) ht.2 he (by omega))) ?_; rintro _ _ ⟨rfl, rfl⟩)
        repeat' (first | refine awOps_yes (by rfl) (by rfl) (by rfl) (by simp  only [go_sem, ↓reduceIte, Nat.reduceEqDiff, reduceCtorEq, Nat.reduceAdd, Nat.reduceMul, Nat.reduceLeDiff, aLoad, aStore]; exact rfl) ?_ | refine awOps_no (by rfl) (by rfl) ?_ | refine awOps_yes0 (by rfl) (by rfl) (by rfl) (by simp  only [go_sem, ↓reduceIte, Nat.reduceEqDiff, reduceCtorEq, Nat.reduceAdd, Nat.reduceMul, Nat.reduceLeDiff, aLoad, aStore]; exact rfl) ?_ | fail)
        refine awOps_nil (hK _ _ ?_)
        refine AW.less (sl' := [(0, .av (.sc sa)), (1, .av (.sc sb)), (6, .av (.ptr cid 0)), (8, .av (.map mid)), (22, .av (.sc sa)), (23, vI a.length), (7, vI kb), (24, vI i), (10, .av (.ptr cc 0)), (11, vI ((kb + e : Nat) : Int))]) (AllIn.less ⟨rfl, rfl, rfl, rfl, rfl, rfl, rfl, rfl, rfl, rfl, trivial⟩) ?_
        clear hK K
        refine aw_seq ?_
        refine aw_region_seq C (pb := false) rfl fun K hK => ?_
        repeat' (first | refine awOps_yes (by rfl) (by rfl) (by rfl) (by simp  only [go_sem, ↓reduceIte, Nat.reduceEqDiff, reduceCtorEq, Nat.reduceAdd, Nat.reduceMul, Nat.reduceLeDiff, aLoad, aStore, hx4, lookA T71 rfl T3 rfl T22 rfl rfl hs4.m]; exact rfl) ?_ | refine awOps_no (by rfl) (by rfl) ?_ | refine awOps_yes0 (by rfl) (by rfl) (by rfl) (by simp  only [go_sem, ↓reduceIte, Nat.reduceEqDiff, reduceCtorEq, Nat.reduceAdd, Nat.reduceMul, Nat.reduceLeDiff, aLoad, aStore, hx4, lookA T71 rfl T3 rfl T22 rfl rfl hs4.m]; exact rfl) ?_ | fail)
        refine awOps_nil (hK _ _ ?_)
        refine AW.less (sl' := [(0, .av (.sc sa)), (1, .av (.sc sb)), (6, .av (.ptr cid 0)), (8, .av (.map mid)), (22, .av (.sc sa)), (23, vI a.length), (7, vI kb), (24, vI i), (10, .av (.ptr cc 0)), (11, vI ((kb + e : Nat) : Int)), (12, .av ((lkA ml a[i].n).getD (.sc (y22.zero.headD .nili)))), (13, vB (lkA ml a[i].n).isSome)]) (AllIn.less ⟨rfl, rfl, rfl, rfl, rfl, rfl, rfl, rfl, rfl, rfl, rfl, rfl, trivial⟩) ?_
        clear hK K
        refine aw_cut_seq C (pb := false) [(0, .av (.sc sa)), (1, .av (.sc sb)), (6, .av (.ptr cid 0)), (8, .av (.map mid)), (22, .av (.sc sa)), (23, vI a.length), (7, vI kb), (24, vI i), (10, .av (.ptr cc 0)), (11, vI ((kb + e : Nat) : Int)), (62, vB (match M a[i].n with | some u => !sameL u te | none => false))] rfl ?_ fun n14 hn14 => ?_
        · have hlk := hMM a[i].n
          cases hA : M a[i].n with
          | none =>
            rw [hA, Option.map_none] at hlk
            repeat' (first | refine awOps_yes (by rfl) (by rfl) (by rfl) (by simp only [go_sem, ↓reduceIte, Nat.reduceEqDiff, reduceCtorEq, Nat.reduceAdd, Nat.reduceMul, Nat.reduceLeDiff, aLoad, aStore, hlk, Option.getD_some, Option.getD_none, Option.isSome_some, Option.isSome_none, hsl]; exact rfl) ?_ | refine awOps_no (by rfl) (by rfl) ?_ | fail)
            exact awOps_nil ⟨⟨rfl, rfl, rfl, rfl, rfl, rfl, rfl, rfl, rfl, rfl, rfl, trivial⟩, rfl, (by first | omega | (dsimp only; omega) | (dsimp only at *; omega)), rfl⟩
          | some u =>
            rw [hA, Option.map_some] at hlk
            repeat' (first | refine awOps_yes (by rfl) (by rfl) (by rfl) (by simp only [go_sem, ↓reduceIte, Nat.reduceEqDiff, reduceCtorEq, Nat.reduceAdd, Nat.reduceMul, Nat.reduceLeDiff, aLoad, aStore, hlk, Option.getD_some, Option.getD_none, Option.isSome_some, Option.isSome_none, hsl]; exact rfl) ?_ | refine awOps_no (by rfl) (by rfl) ?_ | fail)
            refine awOps_call (by rfl) (by rfl) (by rfl) (And.intro Try.call48 (fn48 L u te _ _ _ (gslC u) (gslC te) (by have := (hok _ _ hA).2; omega))) ?_
            rintro _ _ ⟨rfl, rfl⟩
            repeat' (first | refine awOps_yes (by rfl) (by rfl) (by rfl) (by simp only [go_sem, ↓reduceIte, Nat.reduceEqDiff, reduceCtorEq, Nat.reduceAdd, Nat.reduceMul, Nat.reduceLeDiff, aLoad, aStore, hlk, Option.getD_some, Option.getD_none, Option.isSome_some, Option.isSome_none, hsl]; exact rfl) ?_ | refine awOps_no (by rfl) (by rfl) ?_ | fail)
            exact awOps_nil ⟨⟨rfl, rfl, rfl, rfl, rfl, rfl, rfl, rfl, rfl, rfl, rfl, trivial⟩, rfl, (by first | omega | (dsimp only; omega) | (dsimp only at *; omega)), rfl⟩
        refine aw_cond (by rfl) ?_ ?_
        · intro hc4
          refine aw_region_seq C (pb := false) rfl fun K hK => ?_
          repeat' (first | refine awOps_yes (by rfl) (by rfl) (by rfl) (by simp  only [go_sem, ↓reduceIte, Nat.reduceEqDiff, reduceCtorEq, Nat.reduceAdd, Nat.reduceMul, Nat.reduceLeDiff, aLoad, aStore]; exact rfl) ?_ | refine awOps_no (by rfl) (by rfl) ?_ | refine awOps_yes0 (by rfl) (by rfl) (by rfl) (by simp  only [go_sem, ↓reduceIte, Nat.reduceEqDiff, reduceCtorEq, Nat.reduceAdd, Nat.reduceMul, Nat.reduceLeDiff, aLoad, aStore]; exact rfl) ?_ | fail)
          refine awOps_nil (hK _ _ ?_)
          clear hK K
          refine aw_ret ?_
          try simp only [thenA_normal, thenA_ret, thenA_exit, blockA_normal, blockA_ret, blockA_exit]
          simp only [go_sem, ↓reduceIte, Nat.reduceEqDiff, reduceCtorEq, Nat.reduceAdd, Nat.reduceMul, Nat.reduceLeDiff, aLoad, aStore, FnQ, resA]
          -- 0t1f2f4t.ret
          have hRn : R = none := by
            rw [← h3]
            cases hA : M a[i].n with
            | none => rw [hA] at hc4; cases hc4
            | some u =>
              rw [hA] at hc4
              have hc4' : (!(sameL u te)) = true := hc4
              have hq : sameL u te = false := by simpa using hc4'
              simp only [hq]; rfl
          have hon : o = none := by rw [← ho, hRn]; rfl
          exact fun _ => ⟨rfl, hs4.kp.2.1, hs4.kp.2.2, .nilsl, [], by rw [hon]; rfl, .inl ⟨rfl, rfl⟩, by rw [hon]; rfl⟩
        · intro hc4
          refine aw_skip ?_
          simp only [thenA_normal, thenA_ret, thenA_exit, blockA_normal, blockA_ret, blockA_exit, ↓reduceIte, Nat.reduceEqDiff]
          obtain ⟨j, av0, l1, he1, he2⟩ := entA (t := 71) (kt := 3) (e := 22) (y := y71) (yk := y3) (z := y22) T71 rfl T3 rfl T22 rfl rfl hs4.m a[i].n (.sc (.sl te.length (te.flatMap encC)))
          have hx40 : (upd s4.ob mid (.mp l1)) cc = _ := (upd_ne _ _ (by have := hs4.lo; have := hs1.lo; omega)).trans hx4
          have hx41 : (upd (upd s4.ob mid (.mp l1)) mid (.mp (mapA (setA ml a[i].n (.sc (.sl te.length (te.flatMap encC))))))) cc = _ := (upd_ne _ _ (by have := hs4.lo; have := hs1.lo; omega)).trans hx40
          refine aw_dra C (pb := false) 12 [8, 10] [s4.ob, upd s4.ob mid (.mp l1), upd (upd s4.ob mid (.mp l1)) mid (.mp (mapA (setA ml a[i].n (.sc (.sl te.length (te.flatMap encC))))))] rfl (by kernel_rfl) (by kernel_rfl) rfl (fun _ _ => rfl) ?_
          iterate 3 (first | refine dra_yes [0] (by rfl) (by rfl) (by rfl) (by rfl) (by kernel_rfl) ⟨⟨_, by simp  only [go_sem, ↓reduceIte, Nat.reduceEqDiff, reduceCtorEq, Nat.reduceAdd, Nat.reduceMul, Nat.reduceLeDiff, osL_0, osL_1, osL_2, osL_3, osL_4, osL_5, osL_6, hsl, he1, he2 _ (upd_same _ _ _), ldA hx4, ldA hx40, ldA hx41]; (try exact rfl), fun _ => rfl⟩, trivial⟩ ?_ | refine dra_no (by rfl) (by rfl) (by rfl) ?_)
          iterate 4 (first | refine dra_yes [0, 1] (by rfl) (by rfl) (by rfl) (by rfl) (by kernel_rfl) ⟨⟨_, by simp  only [go_sem, ↓reduceIte, Nat.reduceEqDiff, reduceCtorEq, Nat.reduceAdd, Nat.reduceMul, Nat.reduceLeDiff, osL_0, osL_1, osL_2, osL_3, osL_4, osL_5, osL_6, hsl, he1, he2 _ (upd_same _ _ _), ldA hx4, ldA hx40, ldA hx41]; (try exact rfl), fun _ => rfl⟩, ⟨_, by simp  only [go_sem, ↓reduceIte, Nat.reduceEqDiff, reduceCtorEq, Nat.reduceAdd, Nat.reduceMul, Nat.reduceLeDiff, osL_0, osL_1, osL_2, osL_3, osL_4, osL_5, osL_6, hsl, he1, he2 _ (upd_same _ _ _), ldA hx4, ldA hx40, ldA hx41]; (try exact rfl), fun _ => rfl⟩, trivial⟩ ?_ | refine dra_no (by rfl) (by rfl) (by rfl) ?_)
          (first | refine dra_yes [0, 1, 2] (by rfl) (by rfl) (by rfl) (by rfl) (by kernel_rfl) ⟨⟨_, by simp  only [go_sem, ↓reduceIte, Nat.reduceEqDiff, reduceCtorEq, Nat.reduceAdd, Nat.reduceMul, Nat.reduceLeDiff, osL_0, osL_1, osL_2, osL_3, osL_4, osL_5, osL_6, hsl, he1, he2 _ (upd_same _ _ _), ldA hx4, ldA hx40, ldA hx41]; (try exact rfl), fun _ => rfl⟩, ⟨_, by simp  only [go_sem, ↓reduceIte, Nat.reduceEqDiff, reduceCtorEq, Nat.reduceAdd, Nat.reduceMul, Nat.reduceLeDiff, osL_0, osL_1, osL_2, osL_3, osL_4, osL_5, osL_6, hsl, he1, he2 _ (upd_same _ _ _), ldA hx4, ldA hx40, ldA hx41]; (try exact rfl), fun _ => rfl⟩, ⟨_, by simp  only [go_sem, ↓reduceIte, Nat.reduceEqDiff, reduceCtorEq, Nat.reduceAdd, Nat.reduceMul, Nat.reduceLeDiff, osL_0, osL_1, osL_2, osL_3, osL_4, osL_5, osL_6, hsl, he1, he2 _ (upd_same _ _ _), ldA hx4, ldA hx40, ldA hx41]; (try exact rfl), fun _ => rfl⟩, trivial⟩ ?_ | refine dra_no (by rfl) (by rfl) (by rfl) ?_)
          refine dra_eff (by rfl) (by rfl) (by rfl) (by rfl) (by simp  only [go_sem, ↓reduceIte, Nat.reduceEqDiff, reduceCtorEq, Nat.reduceAdd, Nat.reduceMul, Nat.reduceLeDiff, osL_0, osL_1, osL_2, osL_3, osL_4, osL_5, osL_6, hsl, he1, he2 _ (upd_same _ _ _), ldA hx4, ldA hx40, ldA hx41]; exact rfl) (fun _ => rfl) ⟨Nat.le_refl _, rfl⟩ ?_
          (first | refine dra_yes [1] (by rfl) (by rfl) (by rfl) (by rfl) (by kernel_rfl) ⟨⟨_, by simp  only [go_sem, ↓reduceIte, Nat.reduceEqDiff, reduceCtorEq, Nat.reduceAdd, Nat.reduceMul, Nat.reduceLeDiff, osL_0, osL_1, osL_2, osL_3, osL_4, osL_5, osL_6, hsl, he1, he2 _ (upd_same _ _ _), ldA hx4, ldA hx40, ldA hx41]; (try exact rfl), fun _ => rfl⟩, trivial⟩ ?_ | refine dra_no (by rfl) (by rfl) (by rfl) ?_)
          refine dra_eff0 (by rfl) (by rfl) (by rfl) (by rfl) (by simp  only [go_sem, ↓reduceIte, Nat.reduceEqDiff, reduceCtorEq, Nat.reduceAdd, Nat.reduceMul, Nat.reduceLeDiff, osL_0, osL_1, osL_2, osL_3, osL_4, osL_5, osL_6, hsl, he1, he2 _ (upd_same _ _ _), ldA hx4, ldA hx40, ldA hx41]; exact rfl) (fun _ => rfl) ⟨Nat.le_refl _, rfl⟩ ?_
          (first | refine dra_yes [2] (by rfl) (by rfl) (by rfl) (by rfl) (by kernel_rfl) ⟨⟨_, by simp  only [go_sem, ↓reduceIte, Nat.reduceEqDiff, reduceCtorEq, Nat.reduceAdd, Nat.reduceMul, Nat.reduceLeDiff, osL_0, osL_1, osL_2, osL_3, osL_4, osL_5, osL_6, hsl, he1, he2 _ (upd_same _ _ _), ldA hx4, ldA hx40, ldA hx41]; (try exact rfl), fun _ => rfl⟩, trivial⟩ ?_ | refine dra_no (by rfl) (by rfl) (by rfl) ?_)
          refine dra_nil ?_
          simp only [osL_0, osL_1, osL_2, osL_3, osL_4, osL_5, osL_6, List.length_cons, List.length_nil, Nat.reduceAdd]
          try simp only [thenA_normal, thenA_ret, thenA_exit, blockA_normal, blockA_ret, blockA_exit]
          refine aw_region C (pb := false) rfl ?_
          repeat' (first | refine awOps_yes (by rfl) (by rfl) (by rfl) (by simp  only [go_sem, ↓reduceIte, Nat.reduceEqDiff, reduceCtorEq, Nat.reduceAdd, Nat.reduceMul, Nat.reduceLeDiff, aLoad, aStore, wrap_small ((i : Int) + 1) (by omega) (by omega)]; exact rfl) ?_ | refine awOps_no (by rfl) (by rfl) ?_ | refine awOps_yes0 (by rfl) (by rfl) (by rfl) (by simp  only [go_sem, ↓reduceIte, Nat.reduceEqDiff, reduceCtorEq, Nat.reduceAdd, Nat.reduceMul, Nat.reduceLeDiff, aLoad, aStore, wrap_small ((i : Int) + 1) (by omega) (by omega)]; exact rfl) ?_ | fail)
          refine awOps_nil ?_
          try simp only [thenA_normal, thenA_ret, thenA_exit, blockA_normal, blockA_ret, blockA_exit]
          -- end of round 0 at 0t1f2f4f
          refine ⟨a.length - (i + 1), [(0, .av (.sc sa)), (1, .av (.sc sb)), (6, .av (.ptr cid 0)), (8, .av (.map mid)), (22, .av (.sc sa)), (23, vI a.length), (7, vI (kb + e)), (24, vI (i + 1))], by omega, AllIn.less ⟨rfl, rfl, rfl, rfl, rfl, rfl, rfl, rfl, trivial⟩, i + 1, kb + e, updI M a[i].n te, setA ml a[i].n (.sc (.sl te.length (te.flatMap encC))), rfl, rfl, ?_, ?_, ?_, ?_, ?_, ?_⟩
          · exact hs4.setM (by first | omega | (dsimp only; omega) | (dsimp only at *; omega)) _
          · omega
          · intro n
            rw [lk_setA]
            unfold updI
            split
            · rfl
            · exact hMM n
          · rw [List.take_succ_eq_append_getElem hi2]
            intro c hc hk
            unfold updI
            split
            · rfl
            · rename_i hne
              rcases List.mem_append.1 hc with h | h
              · exact hset c h hk
              · rw [List.mem_singleton.1 h] at hne; exact absurd rfl hne
          · intro n t h
            unfold updI at h
            split at h
            · cases h; omega
            · exact hok n t h
          · rw [← h3]
            cases hA : M a[i].n with
            | none => rfl
            | some u =>
              rw [hA] at hc4
              have hc4' : (!(sameL u te)) = false := hc4
              have hq : sameL u te = true := by simpa using hc4'
              simp only [hq]; rfl
  · intro hc0
    try simp only [decide_eq_true_eq, decide_eq_false_iff_not] at hc0
    rw [List.drop_of_length_le (by omega), matG] at h3
    have hall : ∀ n ∈ sortI (varsG a []), ∃ t, M n = some t ∧ 0 < t.length ∧ t.length ≤ b.length := by
      intro n hn
      rcases varsG_kind (sortI_mem hn) with h | ⟨c, h1, h2, h3'⟩
      · simp at h
      · rw [List.take_of_length_le (by omega)] at hset
        have h4 := hset c h1 h2
        rw [h3'] at h4
        obtain ⟨t, ht'⟩ := Option.isSome_iff_exists.1 h4
        exact ⟨t, ht', hok n t ht'⟩
    obtain ⟨V, hV⟩ : ∃ V, V = sortI (varsG a []) := ⟨_, rfl⟩
    rw [← hV] at hall ho
    have hVl : V.length ≤ 100000 := by
      rw [hV, sortI_len]
      have := varsG_len a []
      simp only [List.length_nil] at this; omega
    refine aw_exit ?_
    simp only [thenA_normal, thenA_ret, thenA_exit, blockA_normal, blockA_ret, blockA_exit, ↓reduceIte, Nat.reduceEqDiff]
    refine aw_region_seq C (pb := false) rfl fun K hK => ?_
    repeat' (first | refine awOps_yes (by rfl) (by rfl) (by rfl) (by simp  only [go_sem, ↓reduceIte, Nat.reduceEqDiff, reduceCtorEq, Nat.reduceAdd, Nat.reduceMul, Nat.reduceLeDiff, aLoad, aStore]; exact rfl) ?_ | refine awOps_no (by rfl) (by rfl) ?_ | refine awOps_yes0 (by rfl) (by rfl) (by rfl) (by simp  only [go_sem, ↓reduceIte, Nat.reduceEqDiff, reduceCtorEq, Nat.reduceAdd, Nat.reduceMul, Nat.reduceLeDiff, aLoad, aStore]; exact rfl) ?_ | fail)
    refine awOps_nil (hK _ _ ?_)
    clear hK K
    refine aw_seq ?_
    refine aw_region_seq C (pb := false) rfl fun K hK => ?_
    repeat' (first | refine awOps_yes (by rfl) (by rfl) (by rfl) (by simp  only [go_sem, ↓reduceIte, Nat.reduceEqDiff, reduceCtorEq, Nat.reduceAdd, Nat.reduceMul, Nat.reduceLeDiff, aLoad, aStore]; exact rfl) ?_ | refine awOps_no (by rfl) (by rfl) ?_ | refine awOps_yes0 (by rfl) (by rfl) (by rfl) (by simp  only [go_sem, ↓reduceIte, Nat.reduceEqDiff, reduceCtorEq, Nat.reduceAdd, Nat.reduceMul, Nat.reduceLeDiff, aLoad, aStore]; exact rfl) ?_ | fail)
    refine awOps_call (by rfl) (by rfl) (by rfl) (And.intro Try.call51 (fn51 L a _ sa ha (by omega))) ?_
    rintro _ _ ⟨⟨yv, rfl, hyv⟩, rfl⟩
    refine awOps_call (by rfl) (by rfl) (by rfl) (And.intro Try.call50 (fn50 L yv _)) ?_
    rintro _ _ ⟨bt, m9, rfl, hb9, hm9, rfl⟩
    refine awOps_call (by rfl) (by rfl) (by rfl) (And.intro Try.call49 (fn49p L (varsG a []) bt _ yv hyv (by rw [← sortI_len, ← hV]; omega) (upd_same _ _ _) (by first | omega | (dsimp only; omega) | (dsimp only at *; omega)))) ?_
    rintro _ _ ⟨⟨ys, rfl, hys⟩, rfl⟩
    rw [← hV] at hys
    repeat' (first | refine awOps_yes (by rfl) (by rfl) (by rfl) (by simp  only [go_sem, ↓reduceIte, Nat.reduceEqDiff, reduceCtorEq, Nat.reduceAdd, Nat.reduceMul, Nat.reduceLeDiff, aLoad, aStore, len_g T36 rfl hys]; exact rfl) ?_ | refine awOps_no (by rfl) (by rfl) ?_ | refine awOps_yes0 (by rfl) (by rfl) (by rfl) (by simp  only [go_sem, ↓reduceIte, Nat.reduceEqDiff, reduceCtorEq, Nat.reduceAdd, Nat.reduceMul, Nat.reduceLeDiff, aLoad, aStore, len_g T36 rfl hys]; exact rfl) ?_ | fail)
    refine awOps_nil (hK _ _ ?_)
    refine AW.less (sl' := [(8, .av (.map mid)), (14, .av (.sc .nilsl)), (77, .av (.sc ys)), (78, vI V.length), (79, vI 0)]) (AllIn.less ⟨rfl, rfl, rfl, rfl, rfl, trivial⟩) ?_
    refine aw_state (J := fun s8 => MT s sb cid mid ml s8) (hs1.frame (by first | omega | (dsimp only; omega) | (dsimp only at *; omega)) fun j hj => upd_ne _ _ (by have := hb9; dsimp only at this; omega)) fun s8 hs8 => ?_
    clear hK K
    refine aw_block ?_
    refine AW.less (sl' := [(8, .av (.map mid)), (14, (_)), (77, .av (.sc ys)), (78, vI V.length), (79, vI (0))]) (AllIn.less ⟨rfl, rfl, rfl, rfl, rfl, trivial⟩) (aw_loop (fun k sl1 s1 => ∃ (j : Nat) (xo : Va) (outl : List (Int × List Cell)), k = V.length - j ∧ sl1 = [(8, .av (.map mid)), (14, (xo)), (77, .av (.sc ys)), (78, vI V.length), (79, vI (j))] ∧ (Kp s8 s1) ∧ (j ≤ V.length ∧ outl.length ≤ j) ∧ (Acc s8.nx s1.nx s1.ob xo outl.length 2 ((outl.flatMap fun b => encB (bndI b)).map .sc)) ∧ (outl ++ outG M (V.drop j) = outG M V)) (k := V.length - (0)) ⟨0, _, [], rfl, rfl, (Kp.refl s8).up (by first | omega | (dsimp only; omega) | (dsimp only at *; omega)), ⟨Nat.zero_le _, Nat.le_refl _⟩, .inl ⟨rfl, rfl, rfl⟩, by rw [List.drop_zero]; rfl⟩ ?_)
    rintro k2 _ s2 ⟨j, xo, outl, hk2, rfl, hs2, hj, hacc, h5⟩
    refine aw_region_seq C (pb := false) rfl fun K hK => ?_
    repeat' (first | refine awOps_yes (by rfl) (by rfl) (by rfl) (by simp  only [go_sem, ↓reduceIte, Nat.reduceEqDiff, reduceCtorEq, Nat.reduceAdd, Nat.reduceMul, Nat.reduceLeDiff, aLoad, aStore]; exact rfl) ?_ | refine awOps_no (by rfl) (by rfl) ?_ | refine awOps_yes0 (by rfl) (by rfl) (by rfl) (by simp  only [go_sem, ↓reduceIte, Nat.reduceEqDiff, reduceCtorEq, Nat.reduceAdd, Nat.reduceMul, Nat.reduceLeDiff, aLoad, aStore]; exact rfl) ?_ | fail)
    refine awOps_nil (hK _ _ ?_)
    clear hK K
    refine aw_seq ?_
    refine aw_cond (by rfl) ?_ ?_
    · intro hc5
      try simp only [decide_eq_true_eq, decide_eq_false_iff_not] at hc5
      have hj2 : j < V.length := by omega
      obtain ⟨tn, htn, htp, htl⟩ := hall V[j] (List.getElem_mem hj2)
      obtain ⟨c0, tl, rfl⟩ : ∃ c l, tn = c :: l := by
        cases tn with
        | nil => simp at htp
        | cons c l => exact ⟨c, l, rfl⟩
      rw [List.drop_eq_getElem_cons hj2, outG, htn] at h5
      dsimp only at h5
      have hm2 : s2.ob mid = .mp (mapA ml) := (hs2.2.1 mid hs8.lo.2.2.2.2).trans hs8.m
      have hlk := hMM V[j]
      rw [htn, Option.map_some] at hlk
      have hix0 : aIndex T 22 (vC (c0 :: tl)) (.av (.sc (.int .i64 0))) = some (.av (.sc (.cptr (.int .i64 c0.kind :: .str c0.name :: .int .i64 c0.n :: tl.flatMap encC)))) := idxC (gslC (c0 :: tl)) (i := 0) (by simp)
      refine aw_skip ?_
      simp only [thenA_normal, thenA_ret, thenA_exit, blockA_normal, blockA_ret, blockA_exit, ↓reduceIte, Nat.reduceEqDiff]
      refine aw_seq ?_
      refine aw_block ?_
      refine aw_region_seq C (pb := false) rfl fun K hK => ?_
      repeat' (first | refine awOps_yes (by rfl) (by rfl) (by rfl) (by simp  only [go_sem, ↓reduceIte, Nat.reduceEqDiff, reduceCtorEq, Nat.reduceAdd, Nat.reduceMul, Nat.reduceLeDiff, aLoad, aStore, idxI hys hj2]; exact rfl) ?_ | refine awOps_no (by rfl) (by rfl) ?_ | refine awOps_yes0 (by rfl) (by rfl) (by rfl) (by simp  only [go_sem, ↓reduceIte, Nat.reduceEqDiff, reduceCtorEq, Nat.reduceAdd, Nat.reduceMul, Nat.reduceLeDiff, aLoad, aStore, idxI hys hj2]; exact rfl) ?_ | fail)
      refine awOps_nil (hK _ _ ?_)
      refine AW.less (sl' := [(8, .av (.map mid)), (14, xo), (77, .av (.sc ys)), (78, vI V.length), (79, vI j), (16, vI V[j])]) (AllIn.less ⟨rfl, rfl, rfl, rfl, rfl, rfl, trivial⟩) ?_
      clear hK K
      refine aw_region_seq C (pb := false) rfl fun K hK => ?_
      repeat' (first | refine awOps_yes (by rfl) (by rfl) (by rfl) (by simp  only [go_sem, ↓reduceIte, Nat.reduceEqDiff, reduceCtorEq, Nat.reduceAdd, Nat.reduceMul, Nat.reduceLeDiff, aLoad, aStore, lookA0 T71 rfl T3 rfl T22 rfl rfl hm2, hlk, Option.getD_some]; exact rfl) ?_ | refine awOps_no (by rfl) (by rfl) ?_ | refine awOps_yes0 (by rfl) (by rfl) (by rfl) (by simp  only [go_sem, ↓reduceIte, Nat.reduceEqDiff, reduceCtorEq, Nat.reduceAdd, Nat.reduceMul, Nat.reduceLeDiff, aLoad, aStore, lookA0 T71 rfl T3 rfl T22 rfl rfl hm2, hlk, Option.getD_some]; exact rfl) ?_ | fail)
      refine awOps_nil (hK _ _ ?_)
      refine AW.less (sl' := [(8, .av (.map mid)), (14, xo), (77, .av (.sc ys)), (78, vI V.length), (79, vI j), (16, vI V[j]), (17, vC (c0 :: tl))]) (AllIn.less ⟨rfl, rfl, rfl, rfl, rfl, rfl, rfl, trivial⟩) ?_
      clear hK K
      refine aw_cut_seq C (pb := false) [(8, .av (.map mid)), (14, xo), (77, .av (.sc ys)), (78, vI V.length), (79, vI j), (16, vI V[j]), (17, vC (c0 :: tl)), (98, vB (if c0.kind != 1 then true else c0.n != V[j]))] rfl ?_ fun n23 hn23 => ?_
      · cases hA0 : (c0.kind != 1 : Bool)
        all_goals (repeat' (first | refine awOps_yes (by rfl) (by rfl) (by rfl) (by simp  only [go_sem, ↓reduceIte, Nat.reduceEqDiff, reduceCtorEq, Nat.reduceAdd, Nat.reduceMul, Nat.reduceLeDiff, aLoad, aStore, hix0, hA0]; exact rfl) ?_ | refine awOps_no (by rfl) (by rfl) ?_ | refine awOps_yes0 (by rfl) (by rfl) (by rfl) (by simp  only [go_sem, ↓reduceIte, Nat.reduceEqDiff, reduceCtorEq, Nat.reduceAdd, Nat.reduceMul, Nat.reduceLeDiff, aLoad, aStore, hix0, hA0]; exact rfl) ?_ | fail))
        all_goals (exact awOps_nil ⟨⟨rfl, rfl, rfl, rfl, rfl, rfl, rfl, by first | rfl | (rw [hA0]; rfl) | simp [hA0, get], trivial⟩, rfl, (by first | omega | (dsimp only; omega)), rfl⟩)
      refine aw_cond (by rfl) ?_ ?_
      · intro hc6
        refine aw_region C (pb := false) rfl ?_
        repeat' (first | refine awOps_yes (by rfl) (by rfl) (by rfl) (by simp  only [go_sem, ↓reduceIte, Nat.reduceEqDiff, reduceCtorEq, Nat.reduceAdd, Nat.reduceMul, Nat.reduceLeDiff, aLoad, aStore]; exact rfl) ?_ | refine awOps_no (by rfl) (by rfl) ?_ | refine awOps_yes0 (by rfl) (by rfl) (by rfl) (by simp  only [go_sem, ↓reduceIte, Nat.reduceEqDiff, reduceCtorEq, Nat.reduceAdd, Nat.reduceMul, Nat.reduceLeDiff, aLoad, aStore]; exact rfl) ?_ | fail)
        (refine awOps_call (by rfl) (by rfl) (by rfl) (And.intro Try.call52 (fn52p L (c0 :: tl) _ ⟨htp, by omega⟩)) ?_; rintro _ _ ⟨rfl, rfl⟩)
        repeat' (first | refine awOps_yes (by rfl) (by rfl) (by rfl) (by simp  only [go_sem, ↓reduceIte, Nat.reduceEqDiff, reduceCtorEq, Nat.reduceAdd, Nat.reduceMul, Nat.reduceLeDiff, aLoad, aStore]; exact rfl) ?_ | refine awOps_no (by rfl) (by rfl) ?_ | refine awOps_yes0 (by rfl) (by rfl) (by rfl) (by simp  only [go_sem, ↓reduceIte, Nat.reduceEqDiff, reduceCtorEq, Nat.reduceAdd, Nat.reduceMul, Nat.reduceLeDiff, aLoad, aStore]; exact rfl) ?_ | fail)
        refine awOps_append (by rfl) (by rfl) (by rfl) (by rfl) (hacc.up (hi' := s2.nx) (Nat.le_refl _) (fun j h1 h2 => (upd_ne _ _ (by omega)))) T25 rfl T39 rfl (by simp) (by simp [y39]) (k := 1) (new := (encB (bndI (V[j], c0 :: tl))).map .sc) (by simp [aSrc, evA, get, upd, zeroA, zerosA, encB, bndI, storeL, List.range, List.range.loop]) (by simp [encB]) (by first | omega | (dsimp only; omega) | (dsimp only at *; omega)) (by first | omega | (dsimp only; omega) | (dsimp only at *; omega)) (by first | omega | (dsimp only; omega) | (dsimp only at *; omega)) fun x9 ob9 hacc9 hlow9 _ => ?_
        repeat' (first | refine awOps_yes (by rfl) (by rfl) (by rfl) (by simp  only [go_sem, ↓reduceIte, Nat.reduceEqDiff, reduceCtorEq, Nat.reduceAdd, Nat.reduceMul, Nat.reduceLeDiff, aLoad, aStore]; exact rfl) ?_ | refine awOps_no (by rfl) (by rfl) ?_ | refine awOps_yes0 (by rfl) (by rfl) (by rfl) (by simp  only [go_sem, ↓reduceIte, Nat.reduceEqDiff, reduceCtorEq, Nat.reduceAdd, Nat.reduceMul, Nat.reduceLeDiff, aLoad, aStore]; exact rfl) ?_ | fail)
        refine awOps_nil ?_
        try simp only [thenA_normal, thenA_ret, thenA_exit, blockA_normal, blockA_ret, blockA_exit]
        refine aw_region C (pb := false) rfl ?_
        repeat' (first | refine awOps_yes (by rfl) (by rfl) (by rfl) (by simp  only [go_sem, ↓reduceIte, Nat.reduceEqDiff, reduceCtorEq, Nat.reduceAdd, Nat.reduceMul, Nat.reduceLeDiff, aLoad, aStore, wrap_small ((j : Int) + 1) (by omega) (by omega)]; exact rfl) ?_ | refine awOps_no (by rfl) (by rfl) ?_ | refine awOps_yes0 (by rfl) (by rfl) (by rfl) (by simp  only [go_sem, ↓reduceIte, Nat.reduceEqDiff, reduceCtorEq, Nat.reduceAdd, Nat.reduceMul, Nat.reduceLeDiff, aLoad, aStore, wrap_small ((j : Int) + 1) (by omega) (by omega)]; exact rfl) ?_ | fail)
        refine awOps_nil ?_
        try simp only [thenA_normal, thenA_ret, thenA_exit, blockA_normal, blockA_ret, blockA_exit]
        -- end of round 1 at 0f.x05t6t
        refine ⟨V.length - (j + 1), [(8, .av (.map mid)), (14, (x9)), (77, .av (.sc ys)), (78, vI V.length), (79, vI (j + 1))], by omega, AllIn.less ⟨rfl, rfl, rfl, rfl, rfl, trivial⟩, j + 1, x9, outl ++ [(V[j], c0 :: tl)], rfl, rfl, ?_, ?_, ?_, ?_⟩
        · exact ⟨by have := hs2.1; dsimp only at this ⊢; omega, fun i hi => (hlow9 i (by omega)).trans ((upd_ne _ _ (by have := hs2.1; omega)).trans (hs2.2.1 i hi)), hs2.2.2⟩
        · simp only [List.length_append, List.length_cons, List.length_nil]; omega
        · rw [List.flatMap_append, List.map_append, List.length_append]
          simpa using hacc9.up (hi' := _) (by first | omega | (dsimp only; omega) | (dsimp only at *; omega)) fun _ _ _ => rfl
        · have hh : headV (c0 :: tl) V[j] = false := by
            unfold headV
            by_cases h1 : c0.kind = 1
            · by_cases h2 : c0.n = V[j]
              · simp [h1, h2] at hc6
              · simp [h2]
            · simp [h1]
          rw [hh] at h5
          rw [List.append_assoc]; exact h5
      · intro hc6
        refine aw_skip ?_
        simp only [thenA_normal, thenA_ret, thenA_exit, blockA_normal, blockA_ret, blockA_exit, ↓reduceIte, Nat.reduceEqDiff]
        refine aw_region C (pb := false) rfl ?_
        repeat' (first | refine awOps_yes (by rfl) (by rfl) (by rfl) (by simp  only [go_sem, ↓reduceIte, Nat.reduceEqDiff, reduceCtorEq, Nat.reduceAdd, Nat.reduceMul, Nat.reduceLeDiff, aLoad, aStore, wrap_small ((j : Int) + 1) (by omega) (by omega)]; exact rfl) ?_ | refine awOps_no (by rfl) (by rfl) ?_ | refine awOps_yes0 (by rfl) (by rfl) (by rfl) (by simp  only [go_sem, ↓reduceIte, Nat.reduceEqDiff, reduceCtorEq, Nat.reduceAdd, Nat.reduceMul, Nat.reduceLeDiff, aLoad, aStore, wrap_small ((j : Int) + 1) (by omega) (by omega)]; exact rfl) ?_ | fail)
        refine awOps_nil ?_
        try simp only [thenA_normal, thenA_ret, thenA_exit, blockA_normal, blockA_ret, blockA_exit]
        -- end of round 1 at 0f.x05t6f
        refine ⟨V.length - (j + 1), [(8, .av (.map mid)), (14, (xo)), (77, .av (.sc ys)), (78, vI V.length), (79, vI (j + 1))], by omega, AllIn.less ⟨rfl, rfl, rfl, rfl, rfl, trivial⟩, j + 1, xo, outl, rfl, rfl, ?_, ?_, ?_, ?_⟩
        · exact hs2.up (by first | omega | (dsimp only; omega) | (dsimp only at *; omega))
        · omega
        · exact hacc.up (by first | omega | (dsimp only; omega) | (dsimp only at *; omega)) fun _ _ _ => rfl
        · have hh : headV (c0 :: tl) V[j] = true := by
            unfold headV
            by_cases h1 : c0.kind = 1
            · by_cases h2 : c0.n = V[j]
              · simp [h1, h2]
              · simp [h1, h2] at hc6
            · simp [h1] at hc6
          rw [hh, if_pos rfl] at h5
          exact h5
    · intro hc5
      try simp only [decide_eq_true_eq, decide_eq_false_iff_not] at hc5
      refine aw_exit ?_
      simp only [thenA_normal, thenA_ret, thenA_exit, blockA_normal, blockA_ret, blockA_exit, ↓reduceIte, Nat.reduceEqDiff]
      have hj3 : j = V.length := by omega
      rw [hj3, List.drop_of_length_le (Nat.le_refl _), outG, List.append_nil] at h5
      have hoo : o = some outl := by rw [← ho, ← h3, h5]; rfl
      rw [show (outl.flatMap fun b => encB (bndI b)) = (outl.map bndI).flatMap encB by rw [List.flatMap_map], show outl.length = (outl.map bndI).length by rw [List.length_map]] at hacc
      obtain ⟨ty, ob7, hpv7, hty, hacc7, hlow7, _⟩ := Acc.pure (enc := encB) (k := 2) (fun _ => rfl) hacc
      refine aw_pur 14 hpv7 ?_
      refine aw_region_seq C (pb := false) rfl fun K hK => ?_
      repeat' (first | refine awOps_yes (by rfl) (by rfl) (by rfl) (by simp  only [go_sem, ↓reduceIte, Nat.reduceEqDiff, reduceCtorEq, Nat.reduceAdd, Nat.reduceMul, Nat.reduceLeDiff, aLoad, aStore]; exact rfl) ?_ | refine awOps_no (by rfl) (by rfl) ?_ | refine awOps_yes0 (by rfl) (by rfl) (by rfl) (by simp  only [go_sem, ↓reduceIte, Nat.reduceEqDiff, reduceCtorEq, Nat.reduceAdd, Nat.reduceMul, Nat.reduceLeDiff, aLoad, aStore]; exact rfl) ?_ | fail)
      (refine awOps_call (by rfl) (by rfl) (by rfl) (And.intro Try.call53 (fn53 L outl _ ty hty (by omega) (hr outl hoo))) ?_; rintro _ _ ⟨rfl, rfl⟩)
      repeat' (first | refine awOps_yes (by rfl) (by rfl) (by rfl) (by simp  only [go_sem, ↓reduceIte, Nat.reduceEqDiff, reduceCtorEq, Nat.reduceAdd, Nat.reduceMul, Nat.reduceLeDiff, aLoad, aStore]; exact rfl) ?_ | refine awOps_no (by rfl) (by rfl) ?_ | refine awOps_yes0 (by rfl) (by rfl) (by rfl) (by simp  only [go_sem, ↓reduceIte, Nat.reduceEqDiff, reduceCtorEq, Nat.reduceAdd, Nat.reduceMul, Nat.reduceLeDiff, aLoad, aStore]; exact rfl) ?_ | fail)
      refine awOps_nil (hK _ _ ?_)
      clear hK K
      refine aw_ret ?_
      simp only [go_sem, ↓reduceIte, Nat.reduceEqDiff, reduceCtorEq, Nat.reduceAdd, Nat.reduceMul, Nat.reduceLeDiff, aLoad, aStore, FnQ, resA]
      -- 0f.x05f.x2.ret
      exact fun _ => ⟨rfl, fun i hi => (hlow7 i (by have := hs8.kp.1; omega)).trans ((hs2.2.1 i (by have := hs8.kp.1; omega)).trans (hs8.kp.2.1 i hi)), hs2.2.2.trans hs8.kp.2.2, ty, _, by rw [hoo]; rfl, hty, by rw [hoo]; rfl⟩
end Go.Am.Seat
/-
  MADE BY PROGRAM (am.py): the walks of functions 18.
-/
namespace Go.Am.Seat
open Go.Proofs
theorem bod18 : Try.f18.body = some (Try.f18.body.getD .skip) := rfl
theorem fn18 (L : Loops) (a b : List Cell) (s : Me) (x y : Sc) (hx : GSl encC x a) (hy : GSl encC y b) (ha : 0 < a.length ∧ a.length ≤ 1000000) (hb : 0 < b.length ∧ b.length ≤ 1000000) : FnL Try.prog L 18 [.av (.sc x), .av (.sc y)] s fun r s' => (r = vB (sameL (numG a) (numG b))) ∧ s' = s := by
  refine FnL.pure (R := fun r => r = vB (sameL (numG a) (numG b))) ?_
  obtain rfl := gsl_pos hx ha.1
  obtain rfl := gsl_pos hy hb.1
  refine fn_of_body (ts := [4]) Try.func18 bod18 rfl (by simp) (by simp [Try.ntmps18]) fun D0 => ?_
  unfold Try.f18
  simp only [Option.getD_some, initSl]
  refine aw_region_seq C (pb := false) rfl fun K hK => ?_
  repeat' (first | refine awOps_yes (by rfl) (by rfl) (by rfl) (by simp  only [go_sem, ↓reduceIte, Nat.reduceEqDiff, reduceCtorEq, Nat.reduceAdd, Nat.reduceMul, Nat.reduceLeDiff, aLoad, aStore]; exact rfl) ?_ | refine awOps_no (by rfl) (by rfl) ?_ | refine awOps_yes0 (by rfl) (by rfl) (by rfl) (by simp  only [go_sem, ↓reduceIte, Nat.reduceEqDiff, reduceCtorEq, Nat.reduceAdd, Nat.reduceMul, Nat.reduceLeDiff, aLoad, aStore]; exact rfl) ?_ | fail)
  refine awOps_nil (hK _ _ ?_)
  clear hK K
  refine aw_region_seq C (pb := false) rfl fun K hK => ?_
  repeat' (first | refine awOps_yes (by rfl) (by rfl) (by rfl) (by simp  only [go_sem, ↓reduceIte, Nat.reduceEqDiff, reduceCtorEq, Nat.reduceAdd, Nat.reduceMul, Nat.reduceLeDiff, aLoad, aStore]; exact rfl) ?_ | refine awOps_no (by rfl) (by rfl) ?_ | refine awOps_yes0 (by rfl) (by rfl) (by rfl) (by simp  only [go_sem, ↓reduceIte, Nat.reduceEqDiff, reduceCtorEq, Nat.reduceAdd, Nat.reduceMul, Nat.reduceLeDiff, aLoad, aStore]; exact rfl) ?_ | fail)
  (refine awOps_call (by rfl) (by rfl) (by rfl) (And.intro Try.call56 (fn56 L a _ ha)) ?_; rintro _ _ ⟨rfl, rfl⟩)
  repeat' (first | refine awOps_yes (by rfl) (by rfl) (by rfl) (by simp  only [go_sem, ↓reduceIte, Nat.reduceEqDiff, reduceCtorEq, Nat.reduceAdd, Nat.reduceMul, Nat.reduceLeDiff, aLoad, aStore]; exact rfl) ?_ | refine awOps_no (by rfl) (by rfl) ?_ | refine awOps_yes0 (by rfl) (by rfl) (by rfl) (by simp  only [go_sem, ↓reduceIte, Nat.reduceEqDiff, reduceCtorEq, Nat.reduceAdd, Nat.reduceMul, Nat.reduceLeDiff, aLoad, aStore]; exact rfl) ?_ | fail)
  (refine awOps_call (by rfl) (by rfl) (by rfl) (And.intro Try.call56 (fn56 L b _ hb)) ?_; rintro _ _ ⟨rfl, rfl⟩)
  (refine awOps_call (by rfl) (by rfl) (by rfl) (And.intro Try.call48 (fn48 L (numG a) (numG b) _ _ _ (gslC _) (gslC _) (by rw [numG, List.length_map]; omega))) ?_; rintro _ _ ⟨rfl, rfl⟩)
  repeat' (first | refine awOps_yes (by rfl) (by rfl) (by rfl) (by simp  only [go_sem, ↓reduceIte, Nat.reduceEqDiff, reduceCtorEq, Nat.reduceAdd, Nat.reduceMul, Nat.reduceLeDiff, aLoad, aStore]; exact rfl) ?_ | refine awOps_no (by rfl) (by rfl) ?_ | refine awOps_yes0 (by rfl) (by rfl) (by rfl) (by simp  only [go_sem, ↓reduceIte, Nat.reduceEqDiff, reduceCtorEq, Nat.reduceAdd, Nat.reduceMul, Nat.reduceLeDiff, aLoad, aStore]; exact rfl) ?_ | fail)
  refine awOps_nil (hK _ _ ?_)
  clear hK K
  refine aw_ret ?_
  simp only [go_sem, ↓reduceIte, Nat.reduceEqDiff, reduceCtorEq, Nat.reduceAdd, Nat.reduceMul, Nat.reduceLeDiff, aLoad, aStore, FnQ, resA]
  -- .ret
  exact fun _ => ⟨by first | rfl | trivial, by first | exact fun _ _ => rfl | trivial, by first | rfl | trivial, by first | rfl | trivial⟩
end Go.Am.Seat
/-
  MADE BY PROGRAM (am.py): the walks of functions 31.
-/
namespace Go.Am.Seat
open Go.Proofs

theorem srcO {ob : Nat → Obj} {id : Nat} {l : List Cell} {fz : Nat} (h : ob id = .cs (celC l) fz) : aSrc ob 3 (.av (.own id 0 l.length 3)) = some (l.length, celC l) := by
  simp only [aSrc, h]
  rw [if_pos ⟨trivial, by rw [celC_len]; omega⟩, List.drop_zero, List.take_of_length_le (by rw [celC_len]; exact Nat.le_refl _)]
theorem appCO {ob : Nat → Obj} {nid id id2 : Nat} {out l : List Cell} {fz : Nat} (h : ob id = .cs (celC out) 0) (h2 : ob id2 = .cs (celC l) fz) (hl : 0 < l.length) (hn : out.length + l.length ≤ 1000000000) :
    aAppend T ob nid 22 (.av (.own id 0 out.length 3)) (.av (.own id2 0 l.length 3)) = some (.av (.own nid 0 (out ++ l).length 3), upd (upd ob id .dead) nid (.cs (celC (out ++ l)) 0)) := by
  unfold aAppend
  simp only [T22, Option.bind_some, y22, T42]
  rw [show y42.size = 3 from rfl, srcO h2]
  simp only [Option.bind_some]
  rw [if_neg (by simp [y42])]
  simp only [h]
  rw [if_pos ⟨by simp [y42], by rw [celC_len]; omega, by omega, by omega⟩, if_neg (by omega)]
  simp only [List.drop_zero, Nat.zero_sub, List.length_append]
  rw [List.take_of_length_le (by rw [celC_len]; exact Nat.le_refl _), celC_app]
/-- The name f. -/
def nmF : ByteArray := ⟨#[102]⟩

theorem bod31 : Try.f31.body = some (Try.f31.body.getD .skip) := rfl
theorem fn31 (L : Loops) (l : List Cell) (id fz : Nat) (s : Me) (hid : s.ob id = .cs (celC l) fz) (hlt : id < s.nx) (hl : 0 < l.length ∧ l.length ≤ 1000000) : FnL Try.prog L 31 [.av (.own id 0 l.length 3)] s fun r s' => (r = vC (⟨3, nmF, l.length⟩ :: l)) ∧ s' = s := by
  refine FnL.pure (R := fun r => r = vC (⟨3, nmF, l.length⟩ :: l)) ?_
  refine fn_of_body (ts := [2]) Try.func31 bod31 rfl (by simp) (by simp [Try.ntmps31]) fun D0 => ?_
  unfold Try.f31
  simp only [Option.getD_some, initSl]
  refine aw_region_seq C (pb := false) rfl fun K hK => ?_
  repeat' (first | refine awOps_yes (by rfl) (by rfl) (by rfl) (by simp  only [go_sem, ↓reduceIte, Nat.reduceEqDiff, reduceCtorEq, Nat.reduceAdd, Nat.reduceMul, Nat.reduceLeDiff, aLoad, aStore]; exact rfl) ?_ | refine awOps_no (by rfl) (by rfl) ?_ | refine awOps_yes0 (by rfl) (by rfl) (by rfl) (by simp  only [go_sem, ↓reduceIte, Nat.reduceEqDiff, reduceCtorEq, Nat.reduceAdd, Nat.reduceMul, Nat.reduceLeDiff, aLoad, aStore]; exact rfl) ?_ | fail)
  refine awOps_nil (hK _ _ ?_)
  clear hK K
  refine aw_region_seq C (pb := false) rfl fun K hK => ?_
  repeat' (first | refine awOps_yes (by rfl) (by rfl) (by rfl) (by simp  only [go_sem, ↓reduceIte, Nat.reduceEqDiff, reduceCtorEq, Nat.reduceAdd, Nat.reduceMul, Nat.reduceLeDiff, aLoad, aStore]; exact rfl) ?_ | refine awOps_no (by rfl) (by rfl) ?_ | refine awOps_yes0 (by rfl) (by rfl) (by rfl) (by simp  only [go_sem, ↓reduceIte, Nat.reduceEqDiff, reduceCtorEq, Nat.reduceAdd, Nat.reduceMul, Nat.reduceLeDiff, aLoad, aStore]; exact rfl) ?_ | fail)
  refine awOps_nil (hK _ _ ?_)
  clear hK K
  refine aw_region_seq C (pb := false) rfl fun K hK => ?_
  repeat' (first | refine awOps_yes (by rfl) (by rfl) (by rfl) (by simp  only [go_sem, ↓reduceIte, Nat.reduceEqDiff, reduceCtorEq, Nat.reduceAdd, Nat.reduceMul, Nat.reduceLeDiff, aLoad, aStore]; exact rfl) ?_ | refine awOps_no (by rfl) (by rfl) ?_ | refine awOps_yes0 (by rfl) (by rfl) (by rfl) (by simp  only [go_sem, ↓reduceIte, Nat.reduceEqDiff, reduceCtorEq, Nat.reduceAdd, Nat.reduceMul, Nat.reduceLeDiff, aLoad, aStore]; exact rfl) ?_ | fail)
  refine awOps_yes (by rfl) (by rfl) (by rfl) ((show aop C false _ _ _ _ = aAppend T _ _ 22 _ _ from rfl).trans (appCO (out := [⟨3, nmF, l.length⟩]) (l := l) (upd_same _ _ _) ((upd_ne _ _ (by omega)).trans hid) hl.1 (by simp; omega))) ?_
  repeat' (first | refine awOps_yes (by rfl) (by rfl) (by rfl) (by simp  only [go_sem, ↓reduceIte, Nat.reduceEqDiff, reduceCtorEq, Nat.reduceAdd, Nat.reduceMul, Nat.reduceLeDiff, aLoad, aStore]; exact rfl) ?_ | refine awOps_no (by rfl) (by rfl) ?_ | refine awOps_yes0 (by rfl) (by rfl) (by rfl) (by simp  only [go_sem, ↓reduceIte, Nat.reduceEqDiff, reduceCtorEq, Nat.reduceAdd, Nat.reduceMul, Nat.reduceLeDiff, aLoad, aStore]; exact rfl) ?_ | fail)
  refine awOps_nil (hK _ _ ?_)
  refine aw_pur 2 (celC_pure (upd_same _ _ _)) ?_
  clear hK K
  refine aw_ret ?_
  simp only [go_sem, ↓reduceIte, Nat.reduceEqDiff, reduceCtorEq, Nat.reduceAdd, Nat.reduceMul, Nat.reduceLeDiff, aLoad, aStore, FnQ, resA]
  -- .ret
  refine fun _ => ⟨by first | rfl | trivial, fun i hi => ?_, by first | rfl | trivial, by first | rfl | trivial⟩
  exact (upd_ne _ _ (by omega)).trans ((upd_ne _ _ (by omega)).trans ((upd_ne _ _ (by omega)).trans (upd_ne _ _ (by omega))))
end Go.Am.Seat
/-
  What the program's words tell at head's few terms.
-/
namespace Go.Am.Seat
def cB : Cell := ⟨3, ⟨#[98]⟩, 0⟩
def cC : Cell := ⟨3, ⟨#[99]⟩, 0⟩
def cV (n : Int) : Cell := ⟨1, .empty, n⟩
def cN (n : Int) : Cell := ⟨2, .empty, n⟩
def fT (l : List Cell) : List Cell := ⟨3, nmF, l.length⟩ :: l
theorem tl1 : mguR 100 (fT [cV 0, cB] ++ fT [cC, cV 1]) 3 = some ([(0, [cC]), (1, [cB])], 0) := by kernel_rfl
theorem tl2 : mguR 100 (fT [cV 1, cV 0] ++ fT [cV 0, cV 1]) 3 = some ([(1, [cV 0])], 0) := by kernel_rfl
theorem tl3 : mguR 100 ([cV 0] ++ fT [cV 0]) 1 = some ([], 3) := by kernel_rfl
theorem tl4 : mguR 100 (fT [cB] ++ fT [cC]) 2 = some ([], 3) := by kernel_rfl
theorem tl5 : mguR 100 (fT [cN 1] ++ fT [cN 2]) 2 = some ([], 3) := by kernel_rfl
theorem sortI_id {l : List Int} (h : l.Pairwise fun a b => a ≤ b) : sortI l = l := by
  apply List.mergeSort_of_pairwise
  exact h.imp fun h => by simpa using h
theorem tl6 : matR (fT [cV 0, cV 1]) (fT [cV 1, cV 0]) = some [(0, [cV 1]), (1, [cV 0])] := by
  unfold matR
  rw [show varsG (fT [cV 0, cV 1]) [] = [0, 1] by kernel_rfl, sortI_id (by simp)]
  kernel_rfl
theorem tl7 : matR (fT [cB]) (fT [cV 0]) = none := by kernel_rfl
theorem tl8 : matR (fT [cV 0, cV 0]) (fT [cV 0, cV 0]) = some [] := by
  unfold matR
  rw [show varsG (fT [cV 0, cV 0]) [] = [0] by kernel_rfl, sortI_id (by simp)]
  kernel_rfl
theorem tl9 : sameL (numG (fT [cV 7, cV 2])) (numG (fT [cV 0, cV 7])) = true := by kernel_rfl
theorem tl10 : sameL (numG (fT [cV 0, cV 0])) (numG (fT [cV 0, cV 1])) = false := by kernel_rfl
end Go.Am.Seat
/-
  MADE BY PROGRAM (am.py): the walks of functions 32.
-/
namespace Go.Am.Seat
open Go.Proofs

def rightOk (t : List Cell) : Bool := (decide ((t.length : Int) ≥ 1) && decide ((t.length : Int) ≤ 200)) && (endG t 1 0 == (t.length : Int))

theorem bod32 : Try.f32.body = some (Try.f32.body.getD .skip) := rfl
theorem fn32 (L : Loops) (t : List Cell) (s : Me) (x : Sc) (hx : GSl encC x t) (hl : t.length ≤ 281474976710656) (hn : ∀ c ∈ t, c.name.size ≤ 1152921504606846976) : FnL Try.prog L 32 [.av (.sc x)] s fun r s' => (r = vB (rightOk t)) ∧ s' = s := by
  refine FnL.pure (R := fun r => r = vB (rightOk t)) ?_
  refine fn_of_body (ts := [2]) Try.func32 bod32 rfl (by simp) (by simp [Try.ntmps32]) fun D0 => ?_
  unfold Try.f32
  simp only [Option.getD_some, initSl]
  refine aw_region_seq C (pb := false) rfl fun K hK => ?_
  repeat' (first | refine awOps_yes (by rfl) (by rfl) (by rfl) (by simp  only [go_sem, ↓reduceIte, Nat.reduceEqDiff, reduceCtorEq, Nat.reduceAdd, Nat.reduceMul, Nat.reduceLeDiff, aLoad, aStore]; exact rfl) ?_ | refine awOps_no (by rfl) (by rfl) ?_ | refine awOps_yes0 (by rfl) (by rfl) (by rfl) (by simp  only [go_sem, ↓reduceIte, Nat.reduceEqDiff, reduceCtorEq, Nat.reduceAdd, Nat.reduceMul, Nat.reduceLeDiff, aLoad, aStore]; exact rfl) ?_ | fail)
  refine awOps_nil (hK _ _ ?_)
  clear hK K
  refine aw_cut_seq C (pb := false) [(2, vB ((decide ((t.length : Int) ≥ 1) && decide ((t.length : Int) ≤ 200)) && (endG t 1 0 == (t.length : Int))))] rfl ?_ fun n1 hn1 => ?_
  · cases hA0 : (decide ((t.length : Int) ≥ 1) : Bool) <;> cases hA1 : (decide ((t.length : Int) ≤ 200) : Bool) <;> cases hA2 : (endG t 1 0 == (t.length : Int) : Bool)
    all_goals (repeat' (first | refine awOps_yes (by rfl) (by rfl) (by rfl) (by simp  only [go_sem, ↓reduceIte, Nat.reduceEqDiff, reduceCtorEq, Nat.reduceAdd, Nat.reduceMul, Nat.reduceLeDiff, aLoad, aStore, lenC hx, hA0, hA1, hA2]; exact rfl) ?_ | refine awOps_no (by rfl) (by rfl) ?_ | refine awOps_yes0 (by rfl) (by rfl) (by rfl) (by simp  only [go_sem, ↓reduceIte, Nat.reduceEqDiff, reduceCtorEq, Nat.reduceAdd, Nat.reduceMul, Nat.reduceLeDiff, aLoad, aStore, lenC hx, hA0, hA1, hA2]; exact rfl) ?_ | fail))
    all_goals (try (first | (refine awOps_call (by rfl) (by rfl) (by rfl) (And.intro Try.call62 (fn62 L t 0 _ x hx hl hn (by omega))) ?_; rintro _ _ ⟨rfl, rfl⟩) | refine awOps_no (by rfl) (by rfl) ?_ | fail))
    all_goals (repeat' (first | refine awOps_yes (by rfl) (by rfl) (by rfl) (by simp  only [go_sem, ↓reduceIte, Nat.reduceEqDiff, reduceCtorEq, Nat.reduceAdd, Nat.reduceMul, Nat.reduceLeDiff, aLoad, aStore, lenC hx, hA0, hA1, hA2]; exact rfl) ?_ | refine awOps_no (by rfl) (by rfl) ?_ | refine awOps_yes0 (by rfl) (by rfl) (by rfl) (by simp  only [go_sem, ↓reduceIte, Nat.reduceEqDiff, reduceCtorEq, Nat.reduceAdd, Nat.reduceMul, Nat.reduceLeDiff, aLoad, aStore, lenC hx, hA0, hA1, hA2]; exact rfl) ?_ | fail))
    all_goals (exact awOps_nil ⟨⟨rfl, trivial⟩, rfl, (by first | omega | (dsimp only; omega)), rfl⟩)
  refine aw_ret ?_
  simp only [go_sem, ↓reduceIte, Nat.reduceEqDiff, reduceCtorEq, Nat.reduceAdd, Nat.reduceMul, Nat.reduceLeDiff, aLoad, aStore, FnQ, resA]
  -- .ret
  exact fun _ => ⟨by first | rfl | trivial, by first | exact fun _ _ => rfl | trivial, by first | rfl | trivial, rfl⟩
end Go.Am.Seat
/-
  MADE BY PROGRAM (am.py): the walks of functions 33.
-/
namespace Go.Am.Seat
open Go.Proofs

def andI (a b : Int) : Int := IntKind.i64.wrap (BitVec.ofInt IntKind.i64.bits a &&& BitVec.ofInt IntKind.i64.bits b).toNat
def nameR (x : ByteArray) : ByteArray := if (andI x.size 1 == 1) = true then ⟨#[102]⟩ else if (andI x.size 2 == 2) = true then ⟨#[103]⟩ else ⟨#[97]⟩

theorem bod33 : Try.f33.body = some (Try.f33.body.getD .skip) := rfl
theorem fn33 (L : Loops) (x : ByteArray) (s : Me)  : FnL Try.prog L 33 [.av (.sc (.str x))] s fun r s' => (r = .av (.sc (.str (nameR x)))) ∧ s' = s := by
  refine FnL.pure (R := fun r => r = .av (.sc (.str (nameR x)))) ?_
  refine fn_of_body (ts := [2]) Try.func33 bod33 rfl (by simp) (by simp [Try.ntmps33]) fun D0 => ?_
  unfold Try.f33
  simp only [Option.getD_some, initSl]
  refine aw_region_seq C (pb := false) rfl fun K hK => ?_
  repeat' (first | refine awOps_yes (by rfl) (by rfl) (by rfl) (by simp  only [go_sem, ↓reduceIte, Nat.reduceEqDiff, reduceCtorEq, Nat.reduceAdd, Nat.reduceMul, Nat.reduceLeDiff, aLoad, aStore]; exact rfl) ?_ | refine awOps_no (by rfl) (by rfl) ?_ | refine awOps_yes0 (by rfl) (by rfl) (by rfl) (by simp  only [go_sem, ↓reduceIte, Nat.reduceEqDiff, reduceCtorEq, Nat.reduceAdd, Nat.reduceMul, Nat.reduceLeDiff, aLoad, aStore]; exact rfl) ?_ | fail)
  refine awOps_nil (hK _ _ ?_)
  clear hK K
  refine aw_seq ?_
  refine aw_region_seq C (pb := false) rfl fun K hK => ?_
  repeat' (first | refine awOps_yes (by rfl) (by rfl) (by rfl) (by simp  only [go_sem, ↓reduceIte, Nat.reduceEqDiff, reduceCtorEq, Nat.reduceAdd, Nat.reduceMul, Nat.reduceLeDiff, aLoad, aStore, lenS]; exact rfl) ?_ | refine awOps_no (by rfl) (by rfl) ?_ | refine awOps_yes0 (by rfl) (by rfl) (by rfl) (by simp  only [go_sem, ↓reduceIte, Nat.reduceEqDiff, reduceCtorEq, Nat.reduceAdd, Nat.reduceMul, Nat.reduceLeDiff, aLoad, aStore, lenS]; exact rfl) ?_ | fail)
  refine awOps_nil (hK _ _ ?_)
  clear hK K
  refine aw_cond (by rfl) ?_ ?_
  · intro hc0
    refine aw_region_seq C (pb := false) rfl fun K hK => ?_
    repeat' (first | refine awOps_yes (by rfl) (by rfl) (by rfl) (by simp  only [go_sem, ↓reduceIte, Nat.reduceEqDiff, reduceCtorEq, Nat.reduceAdd, Nat.reduceMul, Nat.reduceLeDiff, aLoad, aStore]; exact rfl) ?_ | refine awOps_no (by rfl) (by rfl) ?_ | refine awOps_yes0 (by rfl) (by rfl) (by rfl) (by simp  only [go_sem, ↓reduceIte, Nat.reduceEqDiff, reduceCtorEq, Nat.reduceAdd, Nat.reduceMul, Nat.reduceLeDiff, aLoad, aStore]; exact rfl) ?_ | fail)
    refine awOps_nil (hK _ _ ?_)
    clear hK K
    refine aw_ret ?_
    try simp only [thenA_normal, thenA_ret, thenA_exit, blockA_normal, blockA_ret, blockA_exit]
    simp only [go_sem, ↓reduceIte, Nat.reduceEqDiff, reduceCtorEq, Nat.reduceAdd, Nat.reduceMul, Nat.reduceLeDiff, aLoad, aStore, FnQ, resA]
    -- 0t.ret
    exact fun _ => ⟨by first | rfl | trivial, by first | exact fun _ _ => rfl | trivial, by first | rfl | trivial, by rw [nameR, if_pos (show (andI x.size 1 == 1) = true from hc0)]⟩
  · intro hc0
    refine aw_skip ?_
    simp only [thenA_normal, thenA_ret, thenA_exit, blockA_normal, blockA_ret, blockA_exit, ↓reduceIte, Nat.reduceEqDiff]
    refine aw_seq ?_
    refine aw_region_seq C (pb := false) rfl fun K hK => ?_
    repeat' (first | refine awOps_yes (by rfl) (by rfl) (by rfl) (by simp  only [go_sem, ↓reduceIte, Nat.reduceEqDiff, reduceCtorEq, Nat.reduceAdd, Nat.reduceMul, Nat.reduceLeDiff, aLoad, aStore, lenS]; exact rfl) ?_ | refine awOps_no (by rfl) (by rfl) ?_ | refine awOps_yes0 (by rfl) (by rfl) (by rfl) (by simp  only [go_sem, ↓reduceIte, Nat.reduceEqDiff, reduceCtorEq, Nat.reduceAdd, Nat.reduceMul, Nat.reduceLeDiff, aLoad, aStore, lenS]; exact rfl) ?_ | fail)
    refine awOps_nil (hK _ _ ?_)
    clear hK K
    refine aw_cond (by rfl) ?_ ?_
    · intro hc1
      refine aw_region_seq C (pb := false) rfl fun K hK => ?_
      repeat' (first | refine awOps_yes (by rfl) (by rfl) (by rfl) (by simp  only [go_sem, ↓reduceIte, Nat.reduceEqDiff, reduceCtorEq, Nat.reduceAdd, Nat.reduceMul, Nat.reduceLeDiff, aLoad, aStore]; exact rfl) ?_ | refine awOps_no (by rfl) (by rfl) ?_ | refine awOps_yes0 (by rfl) (by rfl) (by rfl) (by simp  only [go_sem, ↓reduceIte, Nat.reduceEqDiff, reduceCtorEq, Nat.reduceAdd, Nat.reduceMul, Nat.reduceLeDiff, aLoad, aStore]; exact rfl) ?_ | fail)
      refine awOps_nil (hK _ _ ?_)
      clear hK K
      refine aw_ret ?_
      try simp only [thenA_normal, thenA_ret, thenA_exit, blockA_normal, blockA_ret, blockA_exit]
      simp only [go_sem, ↓reduceIte, Nat.reduceEqDiff, reduceCtorEq, Nat.reduceAdd, Nat.reduceMul, Nat.reduceLeDiff, aLoad, aStore, FnQ, resA]
      -- 0f1t.ret
      exact fun _ => ⟨by first | rfl | trivial, by first | exact fun _ _ => rfl | trivial, by first | rfl | trivial, by rw [nameR, if_neg (show ¬ (andI x.size 1 == 1) = true from (by rw [show (andI x.size 1 == 1) = false from hc0]; exact Bool.false_ne_true)), if_pos (show (andI x.size 2 == 2) = true from hc1)]⟩
    · intro hc1
      refine aw_skip ?_
      simp only [thenA_normal, thenA_ret, thenA_exit, blockA_normal, blockA_ret, blockA_exit, ↓reduceIte, Nat.reduceEqDiff]
      refine aw_region_seq C (pb := false) rfl fun K hK => ?_
      repeat' (first | refine awOps_yes (by rfl) (by rfl) (by rfl) (by simp  only [go_sem, ↓reduceIte, Nat.reduceEqDiff, reduceCtorEq, Nat.reduceAdd, Nat.reduceMul, Nat.reduceLeDiff, aLoad, aStore]; exact rfl) ?_ | refine awOps_no (by rfl) (by rfl) ?_ | refine awOps_yes0 (by rfl) (by rfl) (by rfl) (by simp  only [go_sem, ↓reduceIte, Nat.reduceEqDiff, reduceCtorEq, Nat.reduceAdd, Nat.reduceMul, Nat.reduceLeDiff, aLoad, aStore]; exact rfl) ?_ | fail)
      refine awOps_nil (hK _ _ ?_)
      clear hK K
      refine aw_ret ?_
      simp only [go_sem, ↓reduceIte, Nat.reduceEqDiff, reduceCtorEq, Nat.reduceAdd, Nat.reduceMul, Nat.reduceLeDiff, aLoad, aStore, FnQ, resA]
      -- 0f1f.ret
      exact fun _ => ⟨by first | rfl | trivial, by first | exact fun _ _ => rfl | trivial, by first | rfl | trivial, by rw [nameR, if_neg (show ¬ (andI x.size 1 == 1) = true from (by rw [show (andI x.size 1 == 1) = false from hc0]; exact Bool.false_ne_true)), if_neg (show ¬ (andI x.size 2 == 2) = true from (by rw [show (andI x.size 2 == 2) = false from hc1]; exact Bool.false_ne_true))]⟩
end Go.Am.Seat
/-
  MADE BY PROGRAM (am.py): the walks of functions 12.
-/
namespace Go.Am.Seat
open Go.Proofs

theorem lenOwn {ob : Nat → Obj} {id n : Nat} : aLen T ob 22 (.av (.own id 0 n 3)) = some (vI n) := by simp [aLen, T22, y22, vI]
theorem andI_low (x : Int) (k : Nat) (hk : k ≤ 7) : 0 ≤ andI x k ∧ andI x k ≤ k := by
  have h1 : (BitVec.ofInt IntKind.i64.bits x &&& BitVec.ofInt IntKind.i64.bits (k : Int)).toNat ≤ k := by
    rw [BitVec.toNat_and]
    have : (BitVec.ofInt IntKind.i64.bits (k : Int)).toNat = k := by
      rw [BitVec.ofInt_natCast, BitVec.toNat_ofNat]
      exact Nat.mod_eq_of_lt (Nat.lt_of_le_of_lt hk (by decide))
    rw [this]
    exact Nat.and_le_right
  unfold andI
  rw [wrap_small _ (by omega) (by omega)]
  omega
theorem andI_low3 (x : Int) : 0 ≤ andI x 3 ∧ andI x 3 ≤ 3 := andI_low x 3 (by decide)
theorem andI_low7 (x : Int) : 0 ≤ andI x 7 ∧ andI x 7 ≤ 7 := andI_low x 7 (by decide)
theorem nameR_ok (x : ByteArray) : nameOk (nameR x) = true := by
  unfold nameR
  split
  · decide
  · split <;> decide
/-- The name a. -/
def nmA : ByteArray := ⟨#[97]⟩
theorem okA : cellOk ⟨3, nmA, 0⟩ = true := by decide
theorem okV (x : Int) : cellOk ⟨1, noName, andI x 7⟩ = true := by
  have := andI_low7 x
  simp only [cellOk, if_pos, Bool.and_eq_true, decide_eq_true_eq, beq_self_eq_true, true_and]
  omega
theorem okI (x : Int) : cellOk ⟨2, noName, andI x 3⟩ = true := by
  have := andI_low3 x
  simp only [cellOk]
  rw [if_neg (by decide), if_pos trivial]
  simp only [Bool.and_eq_true, decide_eq_true_eq, beq_self_eq_true, true_and]
  omega
theorem okF (x : Int) (y : ByteArray) : cellOk ⟨3, nameR y, andI x 3⟩ = true := by
  have := andI_low3 x
  simp only [cellOk]
  rw [if_neg (by decide), if_neg (by decide), if_pos trivial]
  simp only [Bool.and_eq_true, decide_eq_true_eq, nameR_ok, true_and]
  omega
def kindIs (t : List Cell) (i : Nat) (k : Int) : Bool := match t[i]? with
  | some c => andI c.kind 3 == k
  | none => false
def fitsIn (t : List Cell) (i : Nat) (h most : Int) : Bool := match t[i]? with
  | some c => decide (h + andI c.n 3 ≤ most)
  | none => false
theorem kindIs_lt {t : List Cell} {i : Nat} {k : Int} (h : kindIs t i k = true) : i < t.length := by
  rcases Nat.lt_or_ge i t.length with h1 | h1
  · exact h1
  · rw [kindIs, List.getElem?_eq_none h1] at h; cases h
theorem fitsIn_lt {t : List Cell} {i : Nat} {k m : Int} (h : fitsIn t i k m = true) : i < t.length := by
  rcases Nat.lt_or_ge i t.length with h1 | h1
  · exact h1
  · rw [fitsIn, List.getElem?_eq_none h1] at h; cases h
/-- Cells of which so many terms more must follow. -/
structure Part (out : List Cell) (nd : Int) : Prop where
  done : nd = 0 → endG out 1 0 = out.length
  more : 0 < nd → ∀ l, endG (out ++ l) 1 0 = endG l nd out.length
theorem Part.zero : Part [] 1 := ⟨fun h => absurd h (by decide), fun _ l => rfl⟩
theorem Part.add {out : List Cell} {nd : Int} {c : Cell} (h : Part out nd) (h0 : 0 < nd) (hc : cellOk c = true) {nd' : Int} (hn : nd' = if c.kind = 3 then nd - 1 + c.n else nd - 1) : Part (out ++ [c]) nd' := by
  constructor
  · intro h1
    rw [h.more h0 [c], endG, if_pos hc, if_pos (hn ▸ h1)]
    simp
  · intro h1 l
    rw [List.append_assoc, h.more h0, List.singleton_append, endG, if_pos hc, if_neg (by omega), ← hn, List.length_append]
    rfl
structure MD (s : Me) (io c8 : Nat) (out : List Cell) (c : Cell) (s1 : Me) : Prop where
  kp : Kp s s1
  o : s1.ob io = .cs (celC out) 0
  c : s1.ob c8 = .cs [.sc (.int .i64 c.kind), .sc (.str c.name), .sc (.int .i64 c.n)] 0
  lo : s.nx ≤ io ∧ io < c8 ∧ c8 < s1.nx
theorem MD.up {s s1 : Me} {io c8 : Nat} {out : List Cell} {c : Cell} (h : MD s io c8 out c s1) {m : Nat} (hm : s1.nx ≤ m) : MD s io c8 out c ⟨s1.ob, m, s1.ls⟩ :=
  ⟨⟨Nat.le_trans h.kp.1 hm, h.kp.2.1, h.kp.2.2⟩, h.o, h.c, by have := h.lo; dsimp only; omega⟩
theorem MD.set {s s1 : Me} {io c8 : Nat} {out : List Cell} {c : Cell} (h : MD s io c8 out c s1) {m : Nat} (hm : s1.nx ≤ m) (d : Cell) : MD s io c8 out d ⟨upd s1.ob c8 (.cs [.sc (.int .i64 d.kind), .sc (.str d.name), .sc (.int .i64 d.n)] 0), m, s1.ls⟩ := by
  have := h.lo
  exact ⟨⟨Nat.le_trans h.kp.1 hm, fun j hj => (upd_ne _ _ (by omega)).trans (h.kp.2.1 j hj), h.kp.2.2⟩, (upd_ne _ _ (by omega)).trans h.o, upd_same _ _ _, by dsimp only; omega⟩

-- many steps
theorem bod12 : Try.f12.body = some (Try.f12.body.getD .skip) := rfl
set_option maxHeartbeats 2000000 in
theorem fn12 (L : Loops) (t : List Cell) (most : Nat) (s : Me) (x : Sc) (hx : GSl encC x t) (hl : t.length ≤ 281474976710656) (hn : ∀ c ∈ t, c.name.size ≤ 1152921504606846976) (hm : 1 ≤ most ∧ most ≤ 200) : FnL Try.prog L 12 [.av (.sc x), vI most] s fun r s' => (∃ y u, r = .av (.sc y) ∧ GSl encC y u ∧ rightOk u = true ∧ u.length ≤ most) ∧ s' = s := by
  refine FnL.pure (R := fun r => ∃ y u, r = .av (.sc y) ∧ GSl encC y u ∧ rightOk u = true ∧ u.length ≤ most) ?_
  refine fn_of_body (ts := [4]) Try.func12 bod12 rfl (by simp) (by simp [Try.ntmps12]) fun D0 => ?_
  unfold Try.f12
  simp only [Option.getD_some, initSl]
  refine aw_region_seq C (pb := false) rfl fun K hK => ?_
  repeat' (first | refine awOps_yes (by rfl) (by rfl) (by rfl) (by simp  only [go_sem, ↓reduceIte, Nat.reduceEqDiff, reduceCtorEq, Nat.reduceAdd, Nat.reduceMul, Nat.reduceLeDiff, aLoad, aStore]; exact rfl) ?_ | refine awOps_no (by rfl) (by rfl) ?_ | refine awOps_yes0 (by rfl) (by rfl) (by rfl) (by simp  only [go_sem, ↓reduceIte, Nat.reduceEqDiff, reduceCtorEq, Nat.reduceAdd, Nat.reduceMul, Nat.reduceLeDiff, aLoad, aStore]; exact rfl) ?_ | fail)
  refine awOps_nil (hK _ _ ?_)
  clear hK K
  refine aw_seq ?_
  refine aw_cut_seq C (pb := false) [(0, .av (.sc x)), (1, vI most), (16, vB (rightOk t && decide ((t.length : Int) ≤ most)))] rfl ?_ fun n1 hn1 => ?_
  · cases hA0 : (rightOk t : Bool)
    all_goals (repeat' (first | refine awOps_yes (by rfl) (by rfl) (by rfl) (by simp  only [go_sem, ↓reduceIte, Nat.reduceEqDiff, reduceCtorEq, Nat.reduceAdd, Nat.reduceMul, Nat.reduceLeDiff, aLoad, aStore, lenC hx, hA0]; exact rfl) ?_ | refine awOps_no (by rfl) (by rfl) ?_ | refine awOps_yes0 (by rfl) (by rfl) (by rfl) (by simp  only [go_sem, ↓reduceIte, Nat.reduceEqDiff, reduceCtorEq, Nat.reduceAdd, Nat.reduceMul, Nat.reduceLeDiff, aLoad, aStore, lenC hx, hA0]; exact rfl) ?_ | fail))
    all_goals ((refine awOps_call (by rfl) (by rfl) (by rfl) (And.intro Try.call32 (fn32 L t _ x hx hl hn)) ?_; rintro _ _ ⟨rfl, rfl⟩))
    all_goals (repeat' (first | refine awOps_yes (by rfl) (by rfl) (by rfl) (by simp  only [go_sem, ↓reduceIte, Nat.reduceEqDiff, reduceCtorEq, Nat.reduceAdd, Nat.reduceMul, Nat.reduceLeDiff, aLoad, aStore, lenC hx, hA0]; exact rfl) ?_ | refine awOps_no (by rfl) (by rfl) ?_ | refine awOps_yes0 (by rfl) (by rfl) (by rfl) (by simp  only [go_sem, ↓reduceIte, Nat.reduceEqDiff, reduceCtorEq, Nat.reduceAdd, Nat.reduceMul, Nat.reduceLeDiff, aLoad, aStore, lenC hx, hA0]; exact rfl) ?_ | fail))
    all_goals (exact awOps_nil ⟨⟨rfl, rfl, by first | rfl | (rw [hA0]; rfl) | simp [hA0, get], trivial⟩, rfl, (by first | omega | (dsimp only; omega)), rfl⟩)
  refine aw_cond (by rfl) ?_ ?_
  · intro hc0
    obtain ⟨hr0, hl0⟩ := Bool.and_eq_true_iff.1 (show (rightOk t && decide ((t.length : Int) ≤ most)) = true from hc0)
    refine aw_region_seq C (pb := false) rfl fun K hK => ?_
    repeat' (first | refine awOps_yes (by rfl) (by rfl) (by rfl) (by simp  only [go_sem, ↓reduceIte, Nat.reduceEqDiff, reduceCtorEq, Nat.reduceAdd, Nat.reduceMul, Nat.reduceLeDiff, aLoad, aStore]; exact rfl) ?_ | refine awOps_no (by rfl) (by rfl) ?_ | refine awOps_yes0 (by rfl) (by rfl) (by rfl) (by simp  only [go_sem, ↓reduceIte, Nat.reduceEqDiff, reduceCtorEq, Nat.reduceAdd, Nat.reduceMul, Nat.reduceLeDiff, aLoad, aStore]; exact rfl) ?_ | fail)
    refine awOps_nil (hK _ _ ?_)
    clear hK K
    refine aw_ret ?_
    try simp only [thenA_normal, thenA_ret, thenA_exit, blockA_normal, blockA_ret, blockA_exit]
    simp only [go_sem, ↓reduceIte, Nat.reduceEqDiff, reduceCtorEq, Nat.reduceAdd, Nat.reduceMul, Nat.reduceLeDiff, aLoad, aStore, FnQ, resA]
    -- 0t.ret
    exact fun _ => ⟨by first | rfl | trivial, by first | exact fun _ _ => rfl | trivial, by first | rfl | trivial, x, t, by first | rfl | trivial, hx, hr0, by have := of_decide_eq_true hl0; omega⟩
  · intro hc0
    refine aw_skip ?_
    simp only [thenA_normal, thenA_ret, thenA_exit, blockA_normal, blockA_ret, blockA_exit, ↓reduceIte, Nat.reduceEqDiff]
    refine aw_region_seq C (pb := false) rfl fun K hK => ?_
    repeat' (first | refine awOps_yes (by rfl) (by rfl) (by rfl) (by simp  only [go_sem, ↓reduceIte, Nat.reduceEqDiff, reduceCtorEq, Nat.reduceAdd, Nat.reduceMul, Nat.reduceLeDiff, aLoad, aStore]; exact rfl) ?_ | refine awOps_no (by rfl) (by rfl) ?_ | refine awOps_yes0 (by rfl) (by rfl) (by rfl) (by simp  only [go_sem, ↓reduceIte, Nat.reduceEqDiff, reduceCtorEq, Nat.reduceAdd, Nat.reduceMul, Nat.reduceLeDiff, aLoad, aStore]; exact rfl) ?_ | fail)
    refine awOps_nil (hK _ _ ?_)
    clear hK K
    refine aw_seq ?_
    refine aw_region_seq C (pb := false) rfl fun K hK => ?_
    repeat' (first | refine awOps_yes (by rfl) (by rfl) (by rfl) (by simp  only [go_sem, ↓reduceIte, Nat.reduceEqDiff, reduceCtorEq, Nat.reduceAdd, Nat.reduceMul, Nat.reduceLeDiff, aLoad, aStore]; exact rfl) ?_ | refine awOps_no (by rfl) (by rfl) ?_ | refine awOps_yes0 (by rfl) (by rfl) (by rfl) (by simp  only [go_sem, ↓reduceIte, Nat.reduceEqDiff, reduceCtorEq, Nat.reduceAdd, Nat.reduceMul, Nat.reduceLeDiff, aLoad, aStore]; exact rfl) ?_ | fail)
    refine awOps_nil (hK _ _ ?_)
    refine AW.less (sl' := [(0, .av (.sc x)), (1, vI most), (5, .av (.own n1 0 0 3)), (6, vI 1), (7, vI 0)]) (AllIn.less ⟨rfl, rfl, rfl, rfl, rfl, trivial⟩) ?_
    clear hK K
    refine aw_block ?_
    refine AW.less (sl' := [(0, .av (.sc x)), (1, vI most), (5, .av (.own (n1) 0 ([]).length 3)), (6, vI (1)), (7, vI (0))]) (AllIn.less ⟨rfl, rfl, rfl, rfl, rfl, trivial⟩) (aw_loop (fun k sl1 s1 => ∃ (i : Nat) (nd : Int) (io : Nat) (out : List Cell), k = most - out.length ∧ sl1 = [(0, .av (.sc x)), (1, vI most), (5, .av (.own (io) 0 (out).length 3)), (6, vI (nd)), (7, vI (i))] ∧ (Kp s s1 ∧ s.nx ≤ io ∧ io < s1.nx ∧ s1.ob io = .cs (celC out) 0) ∧ (out.length = i ∧ 0 ≤ nd ∧ (i : Int) + nd ≤ most) ∧ (Part out nd)) (k := most - ([]).length) ⟨0, 1, n1, [], rfl, rfl, ⟨⟨(by first | omega | (dsimp only; omega) | (dsimp only at *; omega)), fun j hj => upd_ne _ _ (by omega), rfl⟩, by omega, (by first | omega | (dsimp only; omega) | (dsimp only at *; omega)), upd_same _ _ _⟩, ⟨rfl, (by first | omega | (dsimp only; omega) | (dsimp only at *; omega)), (by first | omega | (dsimp only; omega) | (dsimp only at *; omega))⟩, Part.zero⟩ ?_)
    rintro k1 _ s1 ⟨i, nd, io, out, hk1, rfl, hs1, hb, hp⟩
    refine aw_seq ?_
    refine aw_region_seq C (pb := false) rfl fun K hK => ?_
    repeat' (first | refine awOps_yes (by rfl) (by rfl) (by rfl) (by simp  only [go_sem, ↓reduceIte, Nat.reduceEqDiff, reduceCtorEq, Nat.reduceAdd, Nat.reduceMul, Nat.reduceLeDiff, aLoad, aStore]; exact rfl) ?_ | refine awOps_no (by rfl) (by rfl) ?_ | refine awOps_yes0 (by rfl) (by rfl) (by rfl) (by simp  only [go_sem, ↓reduceIte, Nat.reduceEqDiff, reduceCtorEq, Nat.reduceAdd, Nat.reduceMul, Nat.reduceLeDiff, aLoad, aStore]; exact rfl) ?_ | fail)
    refine awOps_nil (hK _ _ ?_)
    clear hK K
    refine aw_cond (by rfl) ?_ ?_
    · intro hc1
      try simp only [decide_eq_true_eq, decide_eq_false_iff_not] at hc1
      have h8 := hs1.1.1
      have h9 := hs1.2.2.1
      have h0 : 0 < nd := by omega
      refine aw_skip ?_
      simp only [thenA_normal, thenA_ret, thenA_exit, blockA_normal, blockA_ret, blockA_exit, ↓reduceIte, Nat.reduceEqDiff]
      refine aw_seq ?_
      refine aw_block ?_
      refine aw_region_seq C (pb := false) rfl fun K hK => ?_
      repeat' (first | refine awOps_yes (by rfl) (by rfl) (by rfl) (by simp  only [go_sem, ↓reduceIte, Nat.reduceEqDiff, reduceCtorEq, Nat.reduceAdd, Nat.reduceMul, Nat.reduceLeDiff, aLoad, aStore]; exact rfl) ?_ | refine awOps_no (by rfl) (by rfl) ?_ | refine awOps_yes0 (by rfl) (by rfl) (by rfl) (by simp  only [go_sem, ↓reduceIte, Nat.reduceEqDiff, reduceCtorEq, Nat.reduceAdd, Nat.reduceMul, Nat.reduceLeDiff, aLoad, aStore]; exact rfl) ?_ | fail)
      refine awOps_nil (hK _ _ ?_)
      refine AW.less (sl' := [(0, .av (.sc x)), (1, vI most), (5, .av (.own io 0 out.length 3)), (6, vI nd), (7, vI i), (8, .av (.ptr (s1.nx + 3) 0))]) (AllIn.less ⟨rfl, rfl, rfl, rfl, rfl, rfl, trivial⟩) ?_
      refine aw_state (J := fun s7 => MD s io (s1.nx + 3) out ⟨3, nmA, 0⟩ s7) ⟨⟨(by first | omega | (dsimp only; omega) | (dsimp only at *; omega)), fun j hj => (upd_ne _ _ (by omega)).trans ((upd_ne _ _ (by omega)).trans (hs1.1.2.1 j hj)), hs1.1.2.2⟩, (upd_ne _ _ (by omega)).trans ((upd_ne _ _ (by omega)).trans hs1.2.2.2), upd_same _ _ _, (by first | omega | (dsimp only; omega) | (dsimp only at *; omega))⟩ fun s7 hM7 => ?_
      obtain ⟨c8, hc8⟩ : ∃ c, c = s1.nx + 3 := ⟨_, rfl⟩
      rw [← hc8] at hM7 ⊢
      clear hK K
      refine aw_seq ?_
      refine aw_cut_seq C (pb := false) [(0, .av (.sc x)), (1, vI most), (5, .av (.own io 0 out.length 3)), (6, vI nd), (7, vI i), (8, .av (.ptr c8 0)), (36, vB (kindIs t i 1))] rfl ?_ fun n8 hn8 => ?_
      · by_cases hi2 : i < t.length
        · have hlt : decide ((i : Int) < (t.length : Int)) = true := decide_eq_true (by omega)
          have hg : t[i]? = some t[i] := List.getElem?_eq_getElem hi2
          have hA3 : IntKind.i64.wrap (BitVec.ofInt 64 t[i].n &&& BitVec.ofInt 64 3).toNat = andI t[i].n 3 := rfl
          have hk : kindIs t i 1 = (andI t[i].kind 3 == 1) := by rw [kindIs, hg]
          repeat' (first | refine awOps_yes (by rfl) (by rfl) (by rfl) (by simp only [go_sem, ↓reduceIte, Nat.reduceEqDiff, reduceCtorEq, Nat.reduceAdd, Nat.reduceMul, Nat.reduceLeDiff, aLoad, aStore, lenC hx, hlt, idxC hx hi2]; exact rfl) ?_ | refine awOps_no (by rfl) (by rfl) ?_ | fail)
          exact awOps_nil ⟨⟨rfl, rfl, rfl, rfl, rfl, rfl, congrArg vB hk.symm, trivial⟩, rfl, (by first | omega | (dsimp only; omega) | (dsimp only at *; omega)), rfl⟩
        · have hlt : decide ((i : Int) < (t.length : Int)) = false := decide_eq_false (by omega)
          have hg : t[i]? = none := List.getElem?_eq_none (by omega)
          have hk : kindIs t i 1 = false := by rw [kindIs, hg]
          repeat' (first | refine awOps_yes (by rfl) (by rfl) (by rfl) (by simp only [go_sem, ↓reduceIte, Nat.reduceEqDiff, reduceCtorEq, Nat.reduceAdd, Nat.reduceMul, Nat.reduceLeDiff, aLoad, aStore, lenC hx, hlt]; exact rfl) ?_ | refine awOps_no (by rfl) (by rfl) ?_ | fail)
          exact awOps_nil ⟨⟨rfl, rfl, rfl, rfl, rfl, rfl, congrArg vB hk.symm, trivial⟩, rfl, (by first | omega | (dsimp only; omega) | (dsimp only at *; omega)), rfl⟩
      refine aw_cond (by rfl) ?_ ?_
      · intro hc2
        have hi2 := kindIs_lt hc2
        refine aw_region C (pb := false) rfl ?_
        repeat' (first | refine awOps_yes (by rfl) (by rfl) (by rfl) (by simp  only [go_sem, ↓reduceIte, Nat.reduceEqDiff, reduceCtorEq, Nat.reduceAdd, Nat.reduceMul, Nat.reduceLeDiff, aLoad, aStore, idxC hx hi2, storeL, hM7.c, zeroA, y42]; exact rfl) ?_ | refine awOps_no (by rfl) (by rfl) ?_ | refine awOps_yes0 (by rfl) (by rfl) (by rfl) (by simp  only [go_sem, ↓reduceIte, Nat.reduceEqDiff, reduceCtorEq, Nat.reduceAdd, Nat.reduceMul, Nat.reduceLeDiff, aLoad, aStore, idxC hx hi2, storeL, hM7.c, zeroA, y42]; exact rfl) ?_ | fail)
        refine awOps_nil ?_
        refine aw_state (J := fun s9 => MD s io c8 out ⟨1, noName, andI t[i].n 7⟩ s9) ((hM7.up (m := n8) (by omega)).set (by first | omega | (dsimp only; omega) | (dsimp only at *; omega)) _) fun s9 hM => ?_
        obtain ⟨c, hc⟩ : ∃ c : Cell, c = ⟨1, noName, andI t[i].n 7⟩ := ⟨_, rfl⟩
        have hok : cellOk c = true := by rw [hc]; exact okV _
        have hcn : c.kind = 3 → 0 ≤ c.n ∧ i + nd + c.n ≤ most := by
          rw [hc]
          intro hk
          simp at hk
        rw [← hc] at hM
        clear hc
        try simp only [thenA_normal, thenA_ret, thenA_exit, blockA_normal, blockA_ret, blockA_exit]
        refine aw_region_seq C (pb := false) rfl fun K hK => ?_
        repeat' (first | refine awOps_yes (by rfl) (by rfl) (by rfl) (by simp  only [go_sem, ↓reduceIte, Nat.reduceEqDiff, reduceCtorEq, Nat.reduceAdd, Nat.reduceMul, Nat.reduceLeDiff, aLoad, aStore, wrap_small (nd - 1) (by omega) (by omega)]; exact rfl) ?_ | refine awOps_no (by rfl) (by rfl) ?_ | refine awOps_yes0 (by rfl) (by rfl) (by rfl) (by simp  only [go_sem, ↓reduceIte, Nat.reduceEqDiff, reduceCtorEq, Nat.reduceAdd, Nat.reduceMul, Nat.reduceLeDiff, aLoad, aStore, wrap_small (nd - 1) (by omega) (by omega)]; exact rfl) ?_ | fail)
        refine awOps_nil (hK _ _ ?_)
        clear hK K
        refine aw_seq ?_
        refine aw_region_seq C (pb := false) rfl fun K hK => ?_
        repeat' (first | refine awOps_yes (by rfl) (by rfl) (by rfl) (by simp  only [go_sem, ↓reduceIte, Nat.reduceEqDiff, reduceCtorEq, Nat.reduceAdd, Nat.reduceMul, Nat.reduceLeDiff, aLoad, aStore, hM.c]; exact rfl) ?_ | refine awOps_no (by rfl) (by rfl) ?_ | refine awOps_yes0 (by rfl) (by rfl) (by rfl) (by simp  only [go_sem, ↓reduceIte, Nat.reduceEqDiff, reduceCtorEq, Nat.reduceAdd, Nat.reduceMul, Nat.reduceLeDiff, aLoad, aStore, hM.c]; exact rfl) ?_ | fail)
        refine awOps_nil (hK _ _ ?_)
        clear hK K
        refine aw_cond (by rfl) ?_ ?_
        · intro hc3
          try simp only [beq_iff_eq, beq_eq_false_iff_ne, ne_eq] at hc3
          have hck := hc3
          refine aw_region C (pb := false) rfl ?_
          repeat' (first | refine awOps_yes (by rfl) (by rfl) (by rfl) (by simp  only [go_sem, ↓reduceIte, Nat.reduceEqDiff, reduceCtorEq, Nat.reduceAdd, Nat.reduceMul, Nat.reduceLeDiff, aLoad, aStore, hM.c, wrap_small (nd - 1 + c.n) (by have := hcn hck; omega) (by have := hcn hck; omega)]; exact rfl) ?_ | refine awOps_no (by rfl) (by rfl) ?_ | refine awOps_yes0 (by rfl) (by rfl) (by rfl) (by simp  only [go_sem, ↓reduceIte, Nat.reduceEqDiff, reduceCtorEq, Nat.reduceAdd, Nat.reduceMul, Nat.reduceLeDiff, aLoad, aStore, hM.c, wrap_small (nd - 1 + c.n) (by have := hcn hck; omega) (by have := hcn hck; omega)]; exact rfl) ?_ | fail)
          refine awOps_nil ?_
          try simp only [thenA_normal, thenA_ret, thenA_exit, blockA_normal, blockA_ret, blockA_exit]
          refine aw_region C (pb := false) rfl ?_
          repeat' (first | refine awOps_yes (by rfl) (by rfl) (by rfl) (by simp  only [go_sem, ↓reduceIte, Nat.reduceEqDiff, reduceCtorEq, Nat.reduceAdd, Nat.reduceMul, Nat.reduceLeDiff, aLoad, aStore, hM.c]; exact rfl) ?_ | refine awOps_no (by rfl) (by rfl) ?_ | refine awOps_yes0 (by rfl) (by rfl) (by rfl) (by simp  only [go_sem, ↓reduceIte, Nat.reduceEqDiff, reduceCtorEq, Nat.reduceAdd, Nat.reduceMul, Nat.reduceLeDiff, aLoad, aStore, hM.c]; exact rfl) ?_ | fail)
          refine awOps_yes (by rfl) (by rfl) (by rfl) ((show aop C false _ _ _ _ = aAppend T _ _ 22 _ _ from rfl).trans (appCO (out := out) (l := [c]) (fz := 0) ((upd_ne _ _ (by have := hM.lo; omega)).trans hM.o) (upd_same _ _ _) (by simp) (by simp only [List.length_cons, List.length_nil]; omega))) ?_
          repeat' (first | refine awOps_yes (by rfl) (by rfl) (by rfl) (by simp  only [go_sem, ↓reduceIte, Nat.reduceEqDiff, reduceCtorEq, Nat.reduceAdd, Nat.reduceMul, Nat.reduceLeDiff, aLoad, aStore, hM.c]; exact rfl) ?_ | refine awOps_no (by rfl) (by rfl) ?_ | refine awOps_yes0 (by rfl) (by rfl) (by rfl) (by simp  only [go_sem, ↓reduceIte, Nat.reduceEqDiff, reduceCtorEq, Nat.reduceAdd, Nat.reduceMul, Nat.reduceLeDiff, aLoad, aStore, hM.c]; exact rfl) ?_ | fail)
          refine awOps_nil ?_
          try simp only [thenA_normal, thenA_ret, thenA_exit, blockA_normal, blockA_ret, blockA_exit]
          refine aw_region C (pb := false) rfl ?_
          repeat' (first | refine awOps_yes (by rfl) (by rfl) (by rfl) (by simp  only [go_sem, ↓reduceIte, Nat.reduceEqDiff, reduceCtorEq, Nat.reduceAdd, Nat.reduceMul, Nat.reduceLeDiff, aLoad, aStore, wrap_small ((i : Int) + 1) (by omega) (by omega)]; exact rfl) ?_ | refine awOps_no (by rfl) (by rfl) ?_ | refine awOps_yes0 (by rfl) (by rfl) (by rfl) (by simp  only [go_sem, ↓reduceIte, Nat.reduceEqDiff, reduceCtorEq, Nat.reduceAdd, Nat.reduceMul, Nat.reduceLeDiff, aLoad, aStore, wrap_small ((i : Int) + 1) (by omega) (by omega)]; exact rfl) ?_ | fail)
          refine awOps_nil ?_
          try simp only [thenA_normal, thenA_ret, thenA_exit, blockA_normal, blockA_ret, blockA_exit]
          -- end of round 0 at 0f1t2t3t
          have hlo9 := hM.lo
          have hkp9 := hM.kp.1
          have hol : (out ++ [c]).length = i + 1 := by rw [List.length_append, hb.1]; rfl
          refine ⟨most - (out ++ [c]).length, [(0, .av (.sc x)), (1, vI most), (5, .av (.own (s9.nx + 14) 0 (out ++ [c]).length 3)), (6, vI (nd - 1 + c.n)), (7, vI (i + 1))], by omega, AllIn.less ⟨rfl, rfl, rfl, rfl, rfl, trivial⟩, i + 1, nd - 1 + c.n, s9.nx + 14, out ++ [c], rfl, rfl, ?_, ?_, ?_⟩
          · exact ⟨⟨(by first | omega | (dsimp only; omega) | (dsimp only at *; omega)), fun j hj => (upd_ne _ _ (by omega)).trans ((upd_ne _ _ (by omega)).trans ((upd_ne _ _ (by omega)).trans (hM.kp.2.1 j hj))), hM.kp.2.2⟩, (by first | omega | (dsimp only; omega) | (dsimp only at *; omega)), (by first | omega | (dsimp only; omega) | (dsimp only at *; omega)), upd_same _ _ _⟩
          · exact ⟨hol, by first | omega | (have := hcn hck; omega), by first | omega | (have := hcn hck; omega)⟩
          · exact hp.add (by omega) hok (by rw [if_pos hck])
        · intro hc3
          try simp only [beq_iff_eq, beq_eq_false_iff_ne, ne_eq] at hc3
          have hck := hc3
          refine aw_skip ?_
          simp only [thenA_normal, thenA_ret, thenA_exit, blockA_normal, blockA_ret, blockA_exit, ↓reduceIte, Nat.reduceEqDiff]
          refine aw_region C (pb := false) rfl ?_
          repeat' (first | refine awOps_yes (by rfl) (by rfl) (by rfl) (by simp  only [go_sem, ↓reduceIte, Nat.reduceEqDiff, reduceCtorEq, Nat.reduceAdd, Nat.reduceMul, Nat.reduceLeDiff, aLoad, aStore, hM.c]; exact rfl) ?_ | refine awOps_no (by rfl) (by rfl) ?_ | refine awOps_yes0 (by rfl) (by rfl) (by rfl) (by simp  only [go_sem, ↓reduceIte, Nat.reduceEqDiff, reduceCtorEq, Nat.reduceAdd, Nat.reduceMul, Nat.reduceLeDiff, aLoad, aStore, hM.c]; exact rfl) ?_ | fail)
          refine awOps_yes (by rfl) (by rfl) (by rfl) ((show aop C false _ _ _ _ = aAppend T _ _ 22 _ _ from rfl).trans (appCO (out := out) (l := [c]) (fz := 0) ((upd_ne _ _ (by have := hM.lo; omega)).trans hM.o) (upd_same _ _ _) (by simp) (by simp only [List.length_cons, List.length_nil]; omega))) ?_
          repeat' (first | refine awOps_yes (by rfl) (by rfl) (by rfl) (by simp  only [go_sem, ↓reduceIte, Nat.reduceEqDiff, reduceCtorEq, Nat.reduceAdd, Nat.reduceMul, Nat.reduceLeDiff, aLoad, aStore, hM.c]; exact rfl) ?_ | refine awOps_no (by rfl) (by rfl) ?_ | refine awOps_yes0 (by rfl) (by rfl) (by rfl) (by simp  only [go_sem, ↓reduceIte, Nat.reduceEqDiff, reduceCtorEq, Nat.reduceAdd, Nat.reduceMul, Nat.reduceLeDiff, aLoad, aStore, hM.c]; exact rfl) ?_ | fail)
          refine awOps_nil ?_
          try simp only [thenA_normal, thenA_ret, thenA_exit, blockA_normal, blockA_ret, blockA_exit]
          refine aw_region C (pb := false) rfl ?_
          repeat' (first | refine awOps_yes (by rfl) (by rfl) (by rfl) (by simp  only [go_sem, ↓reduceIte, Nat.reduceEqDiff, reduceCtorEq, Nat.reduceAdd, Nat.reduceMul, Nat.reduceLeDiff, aLoad, aStore, wrap_small ((i : Int) + 1) (by omega) (by omega)]; exact rfl) ?_ | refine awOps_no (by rfl) (by rfl) ?_ | refine awOps_yes0 (by rfl) (by rfl) (by rfl) (by simp  only [go_sem, ↓reduceIte, Nat.reduceEqDiff, reduceCtorEq, Nat.reduceAdd, Nat.reduceMul, Nat.reduceLeDiff, aLoad, aStore, wrap_small ((i : Int) + 1) (by omega) (by omega)]; exact rfl) ?_ | fail)
          refine awOps_nil ?_
          try simp only [thenA_normal, thenA_ret, thenA_exit, blockA_normal, blockA_ret, blockA_exit]
          -- end of round 0 at 0f1t2t3f
          have hlo9 := hM.lo
          have hkp9 := hM.kp.1
          have hol : (out ++ [c]).length = i + 1 := by rw [List.length_append, hb.1]; rfl
          refine ⟨most - (out ++ [c]).length, [(0, .av (.sc x)), (1, vI most), (5, .av (.own (s9.nx + 9) 0 (out ++ [c]).length 3)), (6, vI (nd - 1)), (7, vI (i + 1))], by omega, AllIn.less ⟨rfl, rfl, rfl, rfl, rfl, trivial⟩, i + 1, nd - 1, s9.nx + 9, out ++ [c], rfl, rfl, ?_, ?_, ?_⟩
          · exact ⟨⟨(by first | omega | (dsimp only; omega) | (dsimp only at *; omega)), fun j hj => (upd_ne _ _ (by omega)).trans ((upd_ne _ _ (by omega)).trans ((upd_ne _ _ (by omega)).trans (hM.kp.2.1 j hj))), hM.kp.2.2⟩, (by first | omega | (dsimp only; omega) | (dsimp only at *; omega)), (by first | omega | (dsimp only; omega) | (dsimp only at *; omega)), upd_same _ _ _⟩
          · exact ⟨hol, by first | omega | (have := hcn hck; omega), by first | omega | (have := hcn hck; omega)⟩
          · exact hp.add (by omega) hok (by rw [if_neg hck])
      · intro hc2
        refine aw_cut_seq C (pb := false) [(0, .av (.sc x)), (1, vI most), (5, .av (.own io 0 out.length 3)), (6, vI nd), (7, vI i), (8, .av (.ptr c8 0)), (56, vB (kindIs t i 2))] rfl ?_ fun n10 hn10 => ?_
        · by_cases hi2 : i < t.length
          · have hlt : decide ((i : Int) < (t.length : Int)) = true := decide_eq_true (by omega)
            have hg : t[i]? = some t[i] := List.getElem?_eq_getElem hi2
            have hA3 : IntKind.i64.wrap (BitVec.ofInt 64 t[i].n &&& BitVec.ofInt 64 3).toNat = andI t[i].n 3 := rfl
            have hk : kindIs t i 2 = (andI t[i].kind 3 == 2) := by rw [kindIs, hg]
            repeat' (first | refine awOps_yes (by rfl) (by rfl) (by rfl) (by simp only [go_sem, ↓reduceIte, Nat.reduceEqDiff, reduceCtorEq, Nat.reduceAdd, Nat.reduceMul, Nat.reduceLeDiff, aLoad, aStore, lenC hx, hlt, idxC hx hi2]; exact rfl) ?_ | refine awOps_no (by rfl) (by rfl) ?_ | fail)
            exact awOps_nil ⟨⟨rfl, rfl, rfl, rfl, rfl, rfl, congrArg vB hk.symm, trivial⟩, rfl, (by first | omega | (dsimp only; omega) | (dsimp only at *; omega)), rfl⟩
          · have hlt : decide ((i : Int) < (t.length : Int)) = false := decide_eq_false (by omega)
            have hg : t[i]? = none := List.getElem?_eq_none (by omega)
            have hk : kindIs t i 2 = false := by rw [kindIs, hg]
            repeat' (first | refine awOps_yes (by rfl) (by rfl) (by rfl) (by simp only [go_sem, ↓reduceIte, Nat.reduceEqDiff, reduceCtorEq, Nat.reduceAdd, Nat.reduceMul, Nat.reduceLeDiff, aLoad, aStore, lenC hx, hlt]; exact rfl) ?_ | refine awOps_no (by rfl) (by rfl) ?_ | fail)
            exact awOps_nil ⟨⟨rfl, rfl, rfl, rfl, rfl, rfl, congrArg vB hk.symm, trivial⟩, rfl, (by first | omega | (dsimp only; omega) | (dsimp only at *; omega)), rfl⟩
        refine aw_cond (by rfl) ?_ ?_
        · intro hc4
          have hi2 := kindIs_lt hc4
          refine aw_region C (pb := false) rfl ?_
          repeat' (first | refine awOps_yes (by rfl) (by rfl) (by rfl) (by simp  only [go_sem, ↓reduceIte, Nat.reduceEqDiff, reduceCtorEq, Nat.reduceAdd, Nat.reduceMul, Nat.reduceLeDiff, aLoad, aStore, idxC hx hi2, storeL, hM7.c, zeroA, y42]; exact rfl) ?_ | refine awOps_no (by rfl) (by rfl) ?_ | refine awOps_yes0 (by rfl) (by rfl) (by rfl) (by simp  only [go_sem, ↓reduceIte, Nat.reduceEqDiff, reduceCtorEq, Nat.reduceAdd, Nat.reduceMul, Nat.reduceLeDiff, aLoad, aStore, idxC hx hi2, storeL, hM7.c, zeroA, y42]; exact rfl) ?_ | fail)
          refine awOps_nil ?_
          refine aw_state (J := fun s9 => MD s io c8 out ⟨2, noName, andI t[i].n 3⟩ s9) ((hM7.up (m := n10) (by omega)).set (by first | omega | (dsimp only; omega) | (dsimp only at *; omega)) _) fun s9 hM => ?_
          obtain ⟨c, hc⟩ : ∃ c : Cell, c = ⟨2, noName, andI t[i].n 3⟩ := ⟨_, rfl⟩
          have hok : cellOk c = true := by rw [hc]; exact okI _
          have hcn : c.kind = 3 → 0 ≤ c.n ∧ i + nd + c.n ≤ most := by
            rw [hc]
            intro hk
            simp at hk
          rw [← hc] at hM
          clear hc
          try simp only [thenA_normal, thenA_ret, thenA_exit, blockA_normal, blockA_ret, blockA_exit]
          refine aw_region_seq C (pb := false) rfl fun K hK => ?_
          repeat' (first | refine awOps_yes (by rfl) (by rfl) (by rfl) (by simp  only [go_sem, ↓reduceIte, Nat.reduceEqDiff, reduceCtorEq, Nat.reduceAdd, Nat.reduceMul, Nat.reduceLeDiff, aLoad, aStore, wrap_small (nd - 1) (by omega) (by omega)]; exact rfl) ?_ | refine awOps_no (by rfl) (by rfl) ?_ | refine awOps_yes0 (by rfl) (by rfl) (by rfl) (by simp  only [go_sem, ↓reduceIte, Nat.reduceEqDiff, reduceCtorEq, Nat.reduceAdd, Nat.reduceMul, Nat.reduceLeDiff, aLoad, aStore, wrap_small (nd - 1) (by omega) (by omega)]; exact rfl) ?_ | fail)
          refine awOps_nil (hK _ _ ?_)
          clear hK K
          refine aw_seq ?_
          refine aw_region_seq C (pb := false) rfl fun K hK => ?_
          repeat' (first | refine awOps_yes (by rfl) (by rfl) (by rfl) (by simp  only [go_sem, ↓reduceIte, Nat.reduceEqDiff, reduceCtorEq, Nat.reduceAdd, Nat.reduceMul, Nat.reduceLeDiff, aLoad, aStore, hM.c]; exact rfl) ?_ | refine awOps_no (by rfl) (by rfl) ?_ | refine awOps_yes0 (by rfl) (by rfl) (by rfl) (by simp  only [go_sem, ↓reduceIte, Nat.reduceEqDiff, reduceCtorEq, Nat.reduceAdd, Nat.reduceMul, Nat.reduceLeDiff, aLoad, aStore, hM.c]; exact rfl) ?_ | fail)
          refine awOps_nil (hK _ _ ?_)
          clear hK K
          refine aw_cond (by rfl) ?_ ?_
          · intro hc5
            try simp only [beq_iff_eq, beq_eq_false_iff_ne, ne_eq] at hc5
            have hck := hc5
            refine aw_region C (pb := false) rfl ?_
            repeat' (first | refine awOps_yes (by rfl) (by rfl) (by rfl) (by simp  only [go_sem, ↓reduceIte, Nat.reduceEqDiff, reduceCtorEq, Nat.reduceAdd, Nat.reduceMul, Nat.reduceLeDiff, aLoad, aStore, hM.c, wrap_small (nd - 1 + c.n) (by have := hcn hck; omega) (by have := hcn hck; omega)]; exact rfl) ?_ | refine awOps_no (by rfl) (by rfl) ?_ | refine awOps_yes0 (by rfl) (by rfl) (by rfl) (by simp  only [go_sem, ↓reduceIte, Nat.reduceEqDiff, reduceCtorEq, Nat.reduceAdd, Nat.reduceMul, Nat.reduceLeDiff, aLoad, aStore, hM.c, wrap_small (nd - 1 + c.n) (by have := hcn hck; omega) (by have := hcn hck; omega)]; exact rfl) ?_ | fail)
            refine awOps_nil ?_
            try simp only [thenA_normal, thenA_ret, thenA_exit, blockA_normal, blockA_ret, blockA_exit]
            refine aw_region C (pb := false) rfl ?_
            repeat' (first | refine awOps_yes (by rfl) (by rfl) (by rfl) (by simp  only [go_sem, ↓reduceIte, Nat.reduceEqDiff, reduceCtorEq, Nat.reduceAdd, Nat.reduceMul, Nat.reduceLeDiff, aLoad, aStore, hM.c]; exact rfl) ?_ | refine awOps_no (by rfl) (by rfl) ?_ | refine awOps_yes0 (by rfl) (by rfl) (by rfl) (by simp  only [go_sem, ↓reduceIte, Nat.reduceEqDiff, reduceCtorEq, Nat.reduceAdd, Nat.reduceMul, Nat.reduceLeDiff, aLoad, aStore, hM.c]; exact rfl) ?_ | fail)
            refine awOps_yes (by rfl) (by rfl) (by rfl) ((show aop C false _ _ _ _ = aAppend T _ _ 22 _ _ from rfl).trans (appCO (out := out) (l := [c]) (fz := 0) ((upd_ne _ _ (by have := hM.lo; omega)).trans hM.o) (upd_same _ _ _) (by simp) (by simp only [List.length_cons, List.length_nil]; omega))) ?_
            repeat' (first | refine awOps_yes (by rfl) (by rfl) (by rfl) (by simp  only [go_sem, ↓reduceIte, Nat.reduceEqDiff, reduceCtorEq, Nat.reduceAdd, Nat.reduceMul, Nat.reduceLeDiff, aLoad, aStore, hM.c]; exact rfl) ?_ | refine awOps_no (by rfl) (by rfl) ?_ | refine awOps_yes0 (by rfl) (by rfl) (by rfl) (by simp  only [go_sem, ↓reduceIte, Nat.reduceEqDiff, reduceCtorEq, Nat.reduceAdd, Nat.reduceMul, Nat.reduceLeDiff, aLoad, aStore, hM.c]; exact rfl) ?_ | fail)
            refine awOps_nil ?_
            try simp only [thenA_normal, thenA_ret, thenA_exit, blockA_normal, blockA_ret, blockA_exit]
            refine aw_region C (pb := false) rfl ?_
            repeat' (first | refine awOps_yes (by rfl) (by rfl) (by rfl) (by simp  only [go_sem, ↓reduceIte, Nat.reduceEqDiff, reduceCtorEq, Nat.reduceAdd, Nat.reduceMul, Nat.reduceLeDiff, aLoad, aStore, wrap_small ((i : Int) + 1) (by omega) (by omega)]; exact rfl) ?_ | refine awOps_no (by rfl) (by rfl) ?_ | refine awOps_yes0 (by rfl) (by rfl) (by rfl) (by simp  only [go_sem, ↓reduceIte, Nat.reduceEqDiff, reduceCtorEq, Nat.reduceAdd, Nat.reduceMul, Nat.reduceLeDiff, aLoad, aStore, wrap_small ((i : Int) + 1) (by omega) (by omega)]; exact rfl) ?_ | fail)
            refine awOps_nil ?_
            try simp only [thenA_normal, thenA_ret, thenA_exit, blockA_normal, blockA_ret, blockA_exit]
            -- end of round 0 at 0f1t2f4t5t
            have hlo9 := hM.lo
            have hkp9 := hM.kp.1
            have hol : (out ++ [c]).length = i + 1 := by rw [List.length_append, hb.1]; rfl
            refine ⟨most - (out ++ [c]).length, [(0, .av (.sc x)), (1, vI most), (5, .av (.own (s9.nx + 14) 0 (out ++ [c]).length 3)), (6, vI (nd - 1 + c.n)), (7, vI (i + 1))], by omega, AllIn.less ⟨rfl, rfl, rfl, rfl, rfl, trivial⟩, i + 1, nd - 1 + c.n, s9.nx + 14, out ++ [c], rfl, rfl, ?_, ?_, ?_⟩
            · exact ⟨⟨(by first | omega | (dsimp only; omega) | (dsimp only at *; omega)), fun j hj => (upd_ne _ _ (by omega)).trans ((upd_ne _ _ (by omega)).trans ((upd_ne _ _ (by omega)).trans (hM.kp.2.1 j hj))), hM.kp.2.2⟩, (by first | omega | (dsimp only; omega) | (dsimp only at *; omega)), (by first | omega | (dsimp only; omega) | (dsimp only at *; omega)), upd_same _ _ _⟩
            · exact ⟨hol, by first | omega | (have := hcn hck; omega), by first | omega | (have := hcn hck; omega)⟩
            · exact hp.add (by omega) hok (by rw [if_pos hck])
          · intro hc5
            try simp only [beq_iff_eq, beq_eq_false_iff_ne, ne_eq] at hc5
            have hck := hc5
            refine aw_skip ?_
            simp only [thenA_normal, thenA_ret, thenA_exit, blockA_normal, blockA_ret, blockA_exit, ↓reduceIte, Nat.reduceEqDiff]
            refine aw_region C (pb := false) rfl ?_
            repeat' (first | refine awOps_yes (by rfl) (by rfl) (by rfl) (by simp  only [go_sem, ↓reduceIte, Nat.reduceEqDiff, reduceCtorEq, Nat.reduceAdd, Nat.reduceMul, Nat.reduceLeDiff, aLoad, aStore, hM.c]; exact rfl) ?_ | refine awOps_no (by rfl) (by rfl) ?_ | refine awOps_yes0 (by rfl) (by rfl) (by rfl) (by simp  only [go_sem, ↓reduceIte, Nat.reduceEqDiff, reduceCtorEq, Nat.reduceAdd, Nat.reduceMul, Nat.reduceLeDiff, aLoad, aStore, hM.c]; exact rfl) ?_ | fail)
            refine awOps_yes (by rfl) (by rfl) (by rfl) ((show aop C false _ _ _ _ = aAppend T _ _ 22 _ _ from rfl).trans (appCO (out := out) (l := [c]) (fz := 0) ((upd_ne _ _ (by have := hM.lo; omega)).trans hM.o) (upd_same _ _ _) (by simp) (by simp only [List.length_cons, List.length_nil]; omega))) ?_
            repeat' (first | refine awOps_yes (by rfl) (by rfl) (by rfl) (by simp  only [go_sem, ↓reduceIte, Nat.reduceEqDiff, reduceCtorEq, Nat.reduceAdd, Nat.reduceMul, Nat.reduceLeDiff, aLoad, aStore, hM.c]; exact rfl) ?_ | refine awOps_no (by rfl) (by rfl) ?_ | refine awOps_yes0 (by rfl) (by rfl) (by rfl) (by simp  only [go_sem, ↓reduceIte, Nat.reduceEqDiff, reduceCtorEq, Nat.reduceAdd, Nat.reduceMul, Nat.reduceLeDiff, aLoad, aStore, hM.c]; exact rfl) ?_ | fail)
            refine awOps_nil ?_
            try simp only [thenA_normal, thenA_ret, thenA_exit, blockA_normal, blockA_ret, blockA_exit]
            refine aw_region C (pb := false) rfl ?_
            repeat' (first | refine awOps_yes (by rfl) (by rfl) (by rfl) (by simp  only [go_sem, ↓reduceIte, Nat.reduceEqDiff, reduceCtorEq, Nat.reduceAdd, Nat.reduceMul, Nat.reduceLeDiff, aLoad, aStore, wrap_small ((i : Int) + 1) (by omega) (by omega)]; exact rfl) ?_ | refine awOps_no (by rfl) (by rfl) ?_ | refine awOps_yes0 (by rfl) (by rfl) (by rfl) (by simp  only [go_sem, ↓reduceIte, Nat.reduceEqDiff, reduceCtorEq, Nat.reduceAdd, Nat.reduceMul, Nat.reduceLeDiff, aLoad, aStore, wrap_small ((i : Int) + 1) (by omega) (by omega)]; exact rfl) ?_ | fail)
            refine awOps_nil ?_
            try simp only [thenA_normal, thenA_ret, thenA_exit, blockA_normal, blockA_ret, blockA_exit]
            -- end of round 0 at 0f1t2f4t5f
            have hlo9 := hM.lo
            have hkp9 := hM.kp.1
            have hol : (out ++ [c]).length = i + 1 := by rw [List.length_append, hb.1]; rfl
            refine ⟨most - (out ++ [c]).length, [(0, .av (.sc x)), (1, vI most), (5, .av (.own (s9.nx + 9) 0 (out ++ [c]).length 3)), (6, vI (nd - 1)), (7, vI (i + 1))], by omega, AllIn.less ⟨rfl, rfl, rfl, rfl, rfl, trivial⟩, i + 1, nd - 1, s9.nx + 9, out ++ [c], rfl, rfl, ?_, ?_, ?_⟩
            · exact ⟨⟨(by first | omega | (dsimp only; omega) | (dsimp only at *; omega)), fun j hj => (upd_ne _ _ (by omega)).trans ((upd_ne _ _ (by omega)).trans ((upd_ne _ _ (by omega)).trans (hM.kp.2.1 j hj))), hM.kp.2.2⟩, (by first | omega | (dsimp only; omega) | (dsimp only at *; omega)), (by first | omega | (dsimp only; omega) | (dsimp only at *; omega)), upd_same _ _ _⟩
            · exact ⟨hol, by first | omega | (have := hcn hck; omega), by first | omega | (have := hcn hck; omega)⟩
            · exact hp.add (by omega) hok (by rw [if_neg hck])
        · intro hc4
          refine aw_cut_seq C (pb := false) [(0, .av (.sc x)), (1, vI most), (5, .av (.own io 0 out.length 3)), (6, vI nd), (7, vI i), (8, .av (.ptr c8 0)), (82, vB (fitsIn t i ((out.length : Int) + nd) most))] rfl ?_ fun n12 hn12 => ?_
          · by_cases hi2 : i < t.length
            · have hlt : decide ((i : Int) < (t.length : Int)) = true := decide_eq_true (by omega)
              have hg : t[i]? = some t[i] := List.getElem?_eq_getElem hi2
              have hA3 : IntKind.i64.wrap (BitVec.ofInt 64 t[i].n &&& BitVec.ofInt 64 3).toNat = andI t[i].n 3 := rfl
              have hk : fitsIn t i ((out.length : Int) + nd) most = decide ((out.length : Int) + nd + andI t[i].n 3 ≤ most) := by rw [fitsIn, hg]
              repeat' (first | refine awOps_yes (by rfl) (by rfl) (by rfl) (by simp only [go_sem, ↓reduceIte, Nat.reduceEqDiff, reduceCtorEq, Nat.reduceAdd, Nat.reduceMul, Nat.reduceLeDiff, aLoad, aStore]; exact (rfl : some (Va.av (Av.sc (Sc.int IntKind.i64 (andI t[i].n 3))), s7.ob) = _)) ?_ | refine awOps_yes (by rfl) (by rfl) (by rfl) (by simp only [go_sem, ↓reduceIte, Nat.reduceEqDiff, reduceCtorEq, Nat.reduceAdd, Nat.reduceMul, Nat.reduceLeDiff, aLoad, aStore, lenC hx, hlt, idxC hx hi2, lenOwn, wrap_small ((out.length : Int) + nd) (by omega) (by omega), wrap_small ((out.length : Int) + nd + andI t[i].n 3) (by have := andI_low3 t[i].n; omega) (by have := andI_low3 t[i].n; omega), hA3]; exact rfl) ?_ | refine awOps_no (by rfl) (by rfl) ?_ | fail)
              exact awOps_nil ⟨⟨rfl, rfl, rfl, rfl, rfl, rfl, congrArg vB hk.symm, trivial⟩, rfl, (by first | omega | (dsimp only; omega) | (dsimp only at *; omega)), rfl⟩
            · have hlt : decide ((i : Int) < (t.length : Int)) = false := decide_eq_false (by omega)
              have hg : t[i]? = none := List.getElem?_eq_none (by omega)
              have hk : fitsIn t i ((out.length : Int) + nd) most = false := by rw [fitsIn, hg]
              repeat' (first | refine awOps_yes (by rfl) (by rfl) (by rfl) (by simp only [go_sem, ↓reduceIte, Nat.reduceEqDiff, reduceCtorEq, Nat.reduceAdd, Nat.reduceMul, Nat.reduceLeDiff, aLoad, aStore, lenC hx, hlt]; exact rfl) ?_ | refine awOps_no (by rfl) (by rfl) ?_ | fail)
              exact awOps_nil ⟨⟨rfl, rfl, rfl, rfl, rfl, rfl, congrArg vB hk.symm, trivial⟩, rfl, (by first | omega | (dsimp only; omega) | (dsimp only at *; omega)), rfl⟩
          refine aw_cond (by rfl) ?_ ?_
          · intro hc6
            have hi2 := fitsIn_lt hc6
            rw [fitsIn, List.getElem?_eq_getElem hi2] at hc6
            have hfit := of_decide_eq_true hc6
            refine aw_dra C (pb := false) 14 [13] [s7.ob, upd s7.ob c8 (.cs [.sc (.int .i64 3), .sc (.str (nameR t[i].name)), .sc (.int .i64 (andI t[i].n 3))] 0)] rfl (by kernel_rfl) (by kernel_rfl) rfl (fun _ _ => rfl) ?_
            iterate 5 (first | refine dra_yes [0] (by rfl) (by rfl) (by rfl) (by rfl) (by kernel_rfl) ⟨⟨_, by simp  only [go_sem, ↓reduceIte, Nat.reduceEqDiff, reduceCtorEq, Nat.reduceAdd, Nat.reduceMul, Nat.reduceLeDiff, aLoad, aStore, osL_0, osL_1, osL_2, osL_3, osL_4, osL_5, osL_6, idxC hx hi2, hM7.c, zeroA, y42, storeL]; (try exact rfl), fun _ => rfl⟩, trivial⟩ ?_ | refine dra_no (by rfl) (by rfl) (by rfl) ?_)
            refine dra_callsil [0] (by rfl) (by rfl) (by rfl) (by rfl) (by kernel_rfl) ⟨And.intro Try.call33 (fn33 L t[i].name _), trivial⟩ ?_
            iterate 7 (first | refine dra_yes [0] (by rfl) (by rfl) (by rfl) (by rfl) (by kernel_rfl) ⟨⟨_, by simp  only [go_sem, ↓reduceIte, Nat.reduceEqDiff, reduceCtorEq, Nat.reduceAdd, Nat.reduceMul, Nat.reduceLeDiff, aLoad, aStore, osL_0, osL_1, osL_2, osL_3, osL_4, osL_5, osL_6, idxC hx hi2, hM7.c, zeroA, y42, storeL]; (try exact rfl), fun _ => rfl⟩, trivial⟩ ?_ | refine dra_no (by rfl) (by rfl) (by rfl) ?_)
            refine dra_eff0 (by rfl) (by rfl) (by rfl) (by rfl) (by simp  only [go_sem, ↓reduceIte, Nat.reduceEqDiff, reduceCtorEq, Nat.reduceAdd, Nat.reduceMul, Nat.reduceLeDiff, aLoad, aStore, osL_0, osL_1, osL_2, osL_3, osL_4, osL_5, osL_6, idxC hx hi2, hM7.c, zeroA, y42, storeL]; exact rfl) (fun _ => rfl) ⟨Nat.le_refl _, rfl⟩ ?_
            refine dra_nil ?_
            simp only [osL_0, osL_1, osL_2, osL_3, osL_4, osL_5, osL_6, List.length_cons, List.length_nil, Nat.reduceAdd]
            refine aw_state (J := fun s9 => MD s io c8 out ⟨3, nameR t[i].name, andI t[i].n 3⟩ s9) ((hM7.up (m := n12) (by omega)).set (by first | omega | (dsimp only; omega) | (dsimp only at *; omega)) _) fun s9 hM => ?_
            obtain ⟨c, hc⟩ : ∃ c : Cell, c = ⟨3, nameR t[i].name, andI t[i].n 3⟩ := ⟨_, rfl⟩
            have hok : cellOk c = true := by rw [hc]; exact okF _ _
            have hcn : c.kind = 3 → 0 ≤ c.n ∧ i + nd + c.n ≤ most := by
              rw [hc]
              intro hk
              have := andI_low3 t[i].n; dsimp only; omega
            rw [← hc] at hM
            clear hc
            try simp only [thenA_normal, thenA_ret, thenA_exit, blockA_normal, blockA_ret, blockA_exit]
            refine aw_region_seq C (pb := false) rfl fun K hK => ?_
            repeat' (first | refine awOps_yes (by rfl) (by rfl) (by rfl) (by simp  only [go_sem, ↓reduceIte, Nat.reduceEqDiff, reduceCtorEq, Nat.reduceAdd, Nat.reduceMul, Nat.reduceLeDiff, aLoad, aStore, wrap_small (nd - 1) (by omega) (by omega)]; exact rfl) ?_ | refine awOps_no (by rfl) (by rfl) ?_ | refine awOps_yes0 (by rfl) (by rfl) (by rfl) (by simp  only [go_sem, ↓reduceIte, Nat.reduceEqDiff, reduceCtorEq, Nat.reduceAdd, Nat.reduceMul, Nat.reduceLeDiff, aLoad, aStore, wrap_small (nd - 1) (by omega) (by omega)]; exact rfl) ?_ | fail)
            refine awOps_nil (hK _ _ ?_)
            clear hK K
            refine aw_seq ?_
            refine aw_region_seq C (pb := false) rfl fun K hK => ?_
            repeat' (first | refine awOps_yes (by rfl) (by rfl) (by rfl) (by simp  only [go_sem, ↓reduceIte, Nat.reduceEqDiff, reduceCtorEq, Nat.reduceAdd, Nat.reduceMul, Nat.reduceLeDiff, aLoad, aStore, hM.c]; exact rfl) ?_ | refine awOps_no (by rfl) (by rfl) ?_ | refine awOps_yes0 (by rfl) (by rfl) (by rfl) (by simp  only [go_sem, ↓reduceIte, Nat.reduceEqDiff, reduceCtorEq, Nat.reduceAdd, Nat.reduceMul, Nat.reduceLeDiff, aLoad, aStore, hM.c]; exact rfl) ?_ | fail)
            refine awOps_nil (hK _ _ ?_)
            clear hK K
            refine aw_cond (by rfl) ?_ ?_
            · intro hc7
              try simp only [beq_iff_eq, beq_eq_false_iff_ne, ne_eq] at hc7
              have hck := hc7
              refine aw_region C (pb := false) rfl ?_
              repeat' (first | refine awOps_yes (by rfl) (by rfl) (by rfl) (by simp  only [go_sem, ↓reduceIte, Nat.reduceEqDiff, reduceCtorEq, Nat.reduceAdd, Nat.reduceMul, Nat.reduceLeDiff, aLoad, aStore, hM.c, wrap_small (nd - 1 + c.n) (by have := hcn hck; omega) (by have := hcn hck; omega)]; exact rfl) ?_ | refine awOps_no (by rfl) (by rfl) ?_ | refine awOps_yes0 (by rfl) (by rfl) (by rfl) (by simp  only [go_sem, ↓reduceIte, Nat.reduceEqDiff, reduceCtorEq, Nat.reduceAdd, Nat.reduceMul, Nat.reduceLeDiff, aLoad, aStore, hM.c, wrap_small (nd - 1 + c.n) (by have := hcn hck; omega) (by have := hcn hck; omega)]; exact rfl) ?_ | fail)
              refine awOps_nil ?_
              try simp only [thenA_normal, thenA_ret, thenA_exit, blockA_normal, blockA_ret, blockA_exit]
              refine aw_region C (pb := false) rfl ?_
              repeat' (first | refine awOps_yes (by rfl) (by rfl) (by rfl) (by simp  only [go_sem, ↓reduceIte, Nat.reduceEqDiff, reduceCtorEq, Nat.reduceAdd, Nat.reduceMul, Nat.reduceLeDiff, aLoad, aStore, hM.c]; exact rfl) ?_ | refine awOps_no (by rfl) (by rfl) ?_ | refine awOps_yes0 (by rfl) (by rfl) (by rfl) (by simp  only [go_sem, ↓reduceIte, Nat.reduceEqDiff, reduceCtorEq, Nat.reduceAdd, Nat.reduceMul, Nat.reduceLeDiff, aLoad, aStore, hM.c]; exact rfl) ?_ | fail)
              refine awOps_yes (by rfl) (by rfl) (by rfl) ((show aop C false _ _ _ _ = aAppend T _ _ 22 _ _ from rfl).trans (appCO (out := out) (l := [c]) (fz := 0) ((upd_ne _ _ (by have := hM.lo; omega)).trans hM.o) (upd_same _ _ _) (by simp) (by simp only [List.length_cons, List.length_nil]; omega))) ?_
              repeat' (first | refine awOps_yes (by rfl) (by rfl) (by rfl) (by simp  only [go_sem, ↓reduceIte, Nat.reduceEqDiff, reduceCtorEq, Nat.reduceAdd, Nat.reduceMul, Nat.reduceLeDiff, aLoad, aStore, hM.c]; exact rfl) ?_ | refine awOps_no (by rfl) (by rfl) ?_ | refine awOps_yes0 (by rfl) (by rfl) (by rfl) (by simp  only [go_sem, ↓reduceIte, Nat.reduceEqDiff, reduceCtorEq, Nat.reduceAdd, Nat.reduceMul, Nat.reduceLeDiff, aLoad, aStore, hM.c]; exact rfl) ?_ | fail)
              refine awOps_nil ?_
              try simp only [thenA_normal, thenA_ret, thenA_exit, blockA_normal, blockA_ret, blockA_exit]
              refine aw_region C (pb := false) rfl ?_
              repeat' (first | refine awOps_yes (by rfl) (by rfl) (by rfl) (by simp  only [go_sem, ↓reduceIte, Nat.reduceEqDiff, reduceCtorEq, Nat.reduceAdd, Nat.reduceMul, Nat.reduceLeDiff, aLoad, aStore, wrap_small ((i : Int) + 1) (by omega) (by omega)]; exact rfl) ?_ | refine awOps_no (by rfl) (by rfl) ?_ | refine awOps_yes0 (by rfl) (by rfl) (by rfl) (by simp  only [go_sem, ↓reduceIte, Nat.reduceEqDiff, reduceCtorEq, Nat.reduceAdd, Nat.reduceMul, Nat.reduceLeDiff, aLoad, aStore, wrap_small ((i : Int) + 1) (by omega) (by omega)]; exact rfl) ?_ | fail)
              refine awOps_nil ?_
              try simp only [thenA_normal, thenA_ret, thenA_exit, blockA_normal, blockA_ret, blockA_exit]
              -- end of round 0 at 0f1t2f4f6t7t
              have hlo9 := hM.lo
              have hkp9 := hM.kp.1
              have hol : (out ++ [c]).length = i + 1 := by rw [List.length_append, hb.1]; rfl
              refine ⟨most - (out ++ [c]).length, [(0, .av (.sc x)), (1, vI most), (5, .av (.own (s9.nx + 14) 0 (out ++ [c]).length 3)), (6, vI (nd - 1 + c.n)), (7, vI (i + 1))], by omega, AllIn.less ⟨rfl, rfl, rfl, rfl, rfl, trivial⟩, i + 1, nd - 1 + c.n, s9.nx + 14, out ++ [c], rfl, rfl, ?_, ?_, ?_⟩
              · exact ⟨⟨(by first | omega | (dsimp only; omega) | (dsimp only at *; omega)), fun j hj => (upd_ne _ _ (by omega)).trans ((upd_ne _ _ (by omega)).trans ((upd_ne _ _ (by omega)).trans (hM.kp.2.1 j hj))), hM.kp.2.2⟩, (by first | omega | (dsimp only; omega) | (dsimp only at *; omega)), (by first | omega | (dsimp only; omega) | (dsimp only at *; omega)), upd_same _ _ _⟩
              · exact ⟨hol, by first | omega | (have := hcn hck; omega), by first | omega | (have := hcn hck; omega)⟩
              · exact hp.add (by omega) hok (by rw [if_pos hck])
            · intro hc7
              try simp only [beq_iff_eq, beq_eq_false_iff_ne, ne_eq] at hc7
              have hck := hc7
              refine aw_skip ?_
              simp only [thenA_normal, thenA_ret, thenA_exit, blockA_normal, blockA_ret, blockA_exit, ↓reduceIte, Nat.reduceEqDiff]
              refine aw_region C (pb := false) rfl ?_
              repeat' (first | refine awOps_yes (by rfl) (by rfl) (by rfl) (by simp  only [go_sem, ↓reduceIte, Nat.reduceEqDiff, reduceCtorEq, Nat.reduceAdd, Nat.reduceMul, Nat.reduceLeDiff, aLoad, aStore, hM.c]; exact rfl) ?_ | refine awOps_no (by rfl) (by rfl) ?_ | refine awOps_yes0 (by rfl) (by rfl) (by rfl) (by simp  only [go_sem, ↓reduceIte, Nat.reduceEqDiff, reduceCtorEq, Nat.reduceAdd, Nat.reduceMul, Nat.reduceLeDiff, aLoad, aStore, hM.c]; exact rfl) ?_ | fail)
              refine awOps_yes (by rfl) (by rfl) (by rfl) ((show aop C false _ _ _ _ = aAppend T _ _ 22 _ _ from rfl).trans (appCO (out := out) (l := [c]) (fz := 0) ((upd_ne _ _ (by have := hM.lo; omega)).trans hM.o) (upd_same _ _ _) (by simp) (by simp only [List.length_cons, List.length_nil]; omega))) ?_
              repeat' (first | refine awOps_yes (by rfl) (by rfl) (by rfl) (by simp  only [go_sem, ↓reduceIte, Nat.reduceEqDiff, reduceCtorEq, Nat.reduceAdd, Nat.reduceMul, Nat.reduceLeDiff, aLoad, aStore, hM.c]; exact rfl) ?_ | refine awOps_no (by rfl) (by rfl) ?_ | refine awOps_yes0 (by rfl) (by rfl) (by rfl) (by simp  only [go_sem, ↓reduceIte, Nat.reduceEqDiff, reduceCtorEq, Nat.reduceAdd, Nat.reduceMul, Nat.reduceLeDiff, aLoad, aStore, hM.c]; exact rfl) ?_ | fail)
              refine awOps_nil ?_
              try simp only [thenA_normal, thenA_ret, thenA_exit, blockA_normal, blockA_ret, blockA_exit]
              refine aw_region C (pb := false) rfl ?_
              repeat' (first | refine awOps_yes (by rfl) (by rfl) (by rfl) (by simp  only [go_sem, ↓reduceIte, Nat.reduceEqDiff, reduceCtorEq, Nat.reduceAdd, Nat.reduceMul, Nat.reduceLeDiff, aLoad, aStore, wrap_small ((i : Int) + 1) (by omega) (by omega)]; exact rfl) ?_ | refine awOps_no (by rfl) (by rfl) ?_ | refine awOps_yes0 (by rfl) (by rfl) (by rfl) (by simp  only [go_sem, ↓reduceIte, Nat.reduceEqDiff, reduceCtorEq, Nat.reduceAdd, Nat.reduceMul, Nat.reduceLeDiff, aLoad, aStore, wrap_small ((i : Int) + 1) (by omega) (by omega)]; exact rfl) ?_ | fail)
              refine awOps_nil ?_
              try simp only [thenA_normal, thenA_ret, thenA_exit, blockA_normal, blockA_ret, blockA_exit]
              -- end of round 0 at 0f1t2f4f6t7f
              have hlo9 := hM.lo
              have hkp9 := hM.kp.1
              have hol : (out ++ [c]).length = i + 1 := by rw [List.length_append, hb.1]; rfl
              refine ⟨most - (out ++ [c]).length, [(0, .av (.sc x)), (1, vI most), (5, .av (.own (s9.nx + 9) 0 (out ++ [c]).length 3)), (6, vI (nd - 1)), (7, vI (i + 1))], by omega, AllIn.less ⟨rfl, rfl, rfl, rfl, rfl, trivial⟩, i + 1, nd - 1, s9.nx + 9, out ++ [c], rfl, rfl, ?_, ?_, ?_⟩
              · exact ⟨⟨(by first | omega | (dsimp only; omega) | (dsimp only at *; omega)), fun j hj => (upd_ne _ _ (by omega)).trans ((upd_ne _ _ (by omega)).trans ((upd_ne _ _ (by omega)).trans (hM.kp.2.1 j hj))), hM.kp.2.2⟩, (by first | omega | (dsimp only; omega) | (dsimp only at *; omega)), (by first | omega | (dsimp only; omega) | (dsimp only at *; omega)), upd_same _ _ _⟩
              · exact ⟨hol, by first | omega | (have := hcn hck; omega), by first | omega | (have := hcn hck; omega)⟩
              · exact hp.add (by omega) hok (by rw [if_neg hck])
          · intro hc6
            refine aw_state (J := fun s9 => MD s io c8 out ⟨3, nmA, 0⟩ s9) (hM7.up (by omega)) fun s9 hM => ?_
            obtain ⟨c, hc⟩ : ∃ c : Cell, c = ⟨3, nmA, 0⟩ := ⟨_, rfl⟩
            have hok : cellOk c = true := by rw [hc]; exact okA
            have hcn : c.kind = 3 → 0 ≤ c.n ∧ i + nd + c.n ≤ most := by
              rw [hc]
              intro hk
              dsimp only; omega
            rw [← hc] at hM
            clear hc
            refine aw_skip ?_
            simp only [thenA_normal, thenA_ret, thenA_exit, blockA_normal, blockA_ret, blockA_exit, ↓reduceIte, Nat.reduceEqDiff]
            refine aw_region_seq C (pb := false) rfl fun K hK => ?_
            repeat' (first | refine awOps_yes (by rfl) (by rfl) (by rfl) (by simp  only [go_sem, ↓reduceIte, Nat.reduceEqDiff, reduceCtorEq, Nat.reduceAdd, Nat.reduceMul, Nat.reduceLeDiff, aLoad, aStore, wrap_small (nd - 1) (by omega) (by omega)]; exact rfl) ?_ | refine awOps_no (by rfl) (by rfl) ?_ | refine awOps_yes0 (by rfl) (by rfl) (by rfl) (by simp  only [go_sem, ↓reduceIte, Nat.reduceEqDiff, reduceCtorEq, Nat.reduceAdd, Nat.reduceMul, Nat.reduceLeDiff, aLoad, aStore, wrap_small (nd - 1) (by omega) (by omega)]; exact rfl) ?_ | fail)
            refine awOps_nil (hK _ _ ?_)
            clear hK K
            refine aw_seq ?_
            refine aw_region_seq C (pb := false) rfl fun K hK => ?_
            repeat' (first | refine awOps_yes (by rfl) (by rfl) (by rfl) (by simp  only [go_sem, ↓reduceIte, Nat.reduceEqDiff, reduceCtorEq, Nat.reduceAdd, Nat.reduceMul, Nat.reduceLeDiff, aLoad, aStore, hM.c]; exact rfl) ?_ | refine awOps_no (by rfl) (by rfl) ?_ | refine awOps_yes0 (by rfl) (by rfl) (by rfl) (by simp  only [go_sem, ↓reduceIte, Nat.reduceEqDiff, reduceCtorEq, Nat.reduceAdd, Nat.reduceMul, Nat.reduceLeDiff, aLoad, aStore, hM.c]; exact rfl) ?_ | fail)
            refine awOps_nil (hK _ _ ?_)
            clear hK K
            refine aw_cond (by rfl) ?_ ?_
            · intro hc8
              try simp only [beq_iff_eq, beq_eq_false_iff_ne, ne_eq] at hc8
              have hck := hc8
              refine aw_region C (pb := false) rfl ?_
              repeat' (first | refine awOps_yes (by rfl) (by rfl) (by rfl) (by simp  only [go_sem, ↓reduceIte, Nat.reduceEqDiff, reduceCtorEq, Nat.reduceAdd, Nat.reduceMul, Nat.reduceLeDiff, aLoad, aStore, hM.c, wrap_small (nd - 1 + c.n) (by have := hcn hck; omega) (by have := hcn hck; omega)]; exact rfl) ?_ | refine awOps_no (by rfl) (by rfl) ?_ | refine awOps_yes0 (by rfl) (by rfl) (by rfl) (by simp  only [go_sem, ↓reduceIte, Nat.reduceEqDiff, reduceCtorEq, Nat.reduceAdd, Nat.reduceMul, Nat.reduceLeDiff, aLoad, aStore, hM.c, wrap_small (nd - 1 + c.n) (by have := hcn hck; omega) (by have := hcn hck; omega)]; exact rfl) ?_ | fail)
              refine awOps_nil ?_
              try simp only [thenA_normal, thenA_ret, thenA_exit, blockA_normal, blockA_ret, blockA_exit]
              refine aw_region C (pb := false) rfl ?_
              repeat' (first | refine awOps_yes (by rfl) (by rfl) (by rfl) (by simp  only [go_sem, ↓reduceIte, Nat.reduceEqDiff, reduceCtorEq, Nat.reduceAdd, Nat.reduceMul, Nat.reduceLeDiff, aLoad, aStore, hM.c]; exact rfl) ?_ | refine awOps_no (by rfl) (by rfl) ?_ | refine awOps_yes0 (by rfl) (by rfl) (by rfl) (by simp  only [go_sem, ↓reduceIte, Nat.reduceEqDiff, reduceCtorEq, Nat.reduceAdd, Nat.reduceMul, Nat.reduceLeDiff, aLoad, aStore, hM.c]; exact rfl) ?_ | fail)
              refine awOps_yes (by rfl) (by rfl) (by rfl) ((show aop C false _ _ _ _ = aAppend T _ _ 22 _ _ from rfl).trans (appCO (out := out) (l := [c]) (fz := 0) ((upd_ne _ _ (by have := hM.lo; omega)).trans hM.o) (upd_same _ _ _) (by simp) (by simp only [List.length_cons, List.length_nil]; omega))) ?_
              repeat' (first | refine awOps_yes (by rfl) (by rfl) (by rfl) (by simp  only [go_sem, ↓reduceIte, Nat.reduceEqDiff, reduceCtorEq, Nat.reduceAdd, Nat.reduceMul, Nat.reduceLeDiff, aLoad, aStore, hM.c]; exact rfl) ?_ | refine awOps_no (by rfl) (by rfl) ?_ | refine awOps_yes0 (by rfl) (by rfl) (by rfl) (by simp  only [go_sem, ↓reduceIte, Nat.reduceEqDiff, reduceCtorEq, Nat.reduceAdd, Nat.reduceMul, Nat.reduceLeDiff, aLoad, aStore, hM.c]; exact rfl) ?_ | fail)
              refine awOps_nil ?_
              try simp only [thenA_normal, thenA_ret, thenA_exit, blockA_normal, blockA_ret, blockA_exit]
              refine aw_region C (pb := false) rfl ?_
              repeat' (first | refine awOps_yes (by rfl) (by rfl) (by rfl) (by simp  only [go_sem, ↓reduceIte, Nat.reduceEqDiff, reduceCtorEq, Nat.reduceAdd, Nat.reduceMul, Nat.reduceLeDiff, aLoad, aStore, wrap_small ((i : Int) + 1) (by omega) (by omega)]; exact rfl) ?_ | refine awOps_no (by rfl) (by rfl) ?_ | refine awOps_yes0 (by rfl) (by rfl) (by rfl) (by simp  only [go_sem, ↓reduceIte, Nat.reduceEqDiff, reduceCtorEq, Nat.reduceAdd, Nat.reduceMul, Nat.reduceLeDiff, aLoad, aStore, wrap_small ((i : Int) + 1) (by omega) (by omega)]; exact rfl) ?_ | fail)
              refine awOps_nil ?_
              try simp only [thenA_normal, thenA_ret, thenA_exit, blockA_normal, blockA_ret, blockA_exit]
              -- end of round 0 at 0f1t2f4f6f8t
              have hlo9 := hM.lo
              have hkp9 := hM.kp.1
              have hol : (out ++ [c]).length = i + 1 := by rw [List.length_append, hb.1]; rfl
              refine ⟨most - (out ++ [c]).length, [(0, .av (.sc x)), (1, vI most), (5, .av (.own (s9.nx + 14) 0 (out ++ [c]).length 3)), (6, vI (nd - 1 + c.n)), (7, vI (i + 1))], by omega, AllIn.less ⟨rfl, rfl, rfl, rfl, rfl, trivial⟩, i + 1, nd - 1 + c.n, s9.nx + 14, out ++ [c], rfl, rfl, ?_, ?_, ?_⟩
              · exact ⟨⟨(by first | omega | (dsimp only; omega) | (dsimp only at *; omega)), fun j hj => (upd_ne _ _ (by omega)).trans ((upd_ne _ _ (by omega)).trans ((upd_ne _ _ (by omega)).trans (hM.kp.2.1 j hj))), hM.kp.2.2⟩, (by first | omega | (dsimp only; omega) | (dsimp only at *; omega)), (by first | omega | (dsimp only; omega) | (dsimp only at *; omega)), upd_same _ _ _⟩
              · exact ⟨hol, by first | omega | (have := hcn hck; omega), by first | omega | (have := hcn hck; omega)⟩
              · exact hp.add (by omega) hok (by rw [if_pos hck])
            · intro hc8
              try simp only [beq_iff_eq, beq_eq_false_iff_ne, ne_eq] at hc8
              have hck := hc8
              refine aw_skip ?_
              simp only [thenA_normal, thenA_ret, thenA_exit, blockA_normal, blockA_ret, blockA_exit, ↓reduceIte, Nat.reduceEqDiff]
              refine aw_region C (pb := false) rfl ?_
              repeat' (first | refine awOps_yes (by rfl) (by rfl) (by rfl) (by simp  only [go_sem, ↓reduceIte, Nat.reduceEqDiff, reduceCtorEq, Nat.reduceAdd, Nat.reduceMul, Nat.reduceLeDiff, aLoad, aStore, hM.c]; exact rfl) ?_ | refine awOps_no (by rfl) (by rfl) ?_ | refine awOps_yes0 (by rfl) (by rfl) (by rfl) (by simp  only [go_sem, ↓reduceIte, Nat.reduceEqDiff, reduceCtorEq, Nat.reduceAdd, Nat.reduceMul, Nat.reduceLeDiff, aLoad, aStore, hM.c]; exact rfl) ?_ | fail)
              refine awOps_yes (by rfl) (by rfl) (by rfl) ((show aop C false _ _ _ _ = aAppend T _ _ 22 _ _ from rfl).trans (appCO (out := out) (l := [c]) (fz := 0) ((upd_ne _ _ (by have := hM.lo; omega)).trans hM.o) (upd_same _ _ _) (by simp) (by simp only [List.length_cons, List.length_nil]; omega))) ?_
              repeat' (first | refine awOps_yes (by rfl) (by rfl) (by rfl) (by simp  only [go_sem, ↓reduceIte, Nat.reduceEqDiff, reduceCtorEq, Nat.reduceAdd, Nat.reduceMul, Nat.reduceLeDiff, aLoad, aStore, hM.c]; exact rfl) ?_ | refine awOps_no (by rfl) (by rfl) ?_ | refine awOps_yes0 (by rfl) (by rfl) (by rfl) (by simp  only [go_sem, ↓reduceIte, Nat.reduceEqDiff, reduceCtorEq, Nat.reduceAdd, Nat.reduceMul, Nat.reduceLeDiff, aLoad, aStore, hM.c]; exact rfl) ?_ | fail)
              refine awOps_nil ?_
              try simp only [thenA_normal, thenA_ret, thenA_exit, blockA_normal, blockA_ret, blockA_exit]
              refine aw_region C (pb := false) rfl ?_
              repeat' (first | refine awOps_yes (by rfl) (by rfl) (by rfl) (by simp  only [go_sem, ↓reduceIte, Nat.reduceEqDiff, reduceCtorEq, Nat.reduceAdd, Nat.reduceMul, Nat.reduceLeDiff, aLoad, aStore, wrap_small ((i : Int) + 1) (by omega) (by omega)]; exact rfl) ?_ | refine awOps_no (by rfl) (by rfl) ?_ | refine awOps_yes0 (by rfl) (by rfl) (by rfl) (by simp  only [go_sem, ↓reduceIte, Nat.reduceEqDiff, reduceCtorEq, Nat.reduceAdd, Nat.reduceMul, Nat.reduceLeDiff, aLoad, aStore, wrap_small ((i : Int) + 1) (by omega) (by omega)]; exact rfl) ?_ | fail)
              refine awOps_nil ?_
              try simp only [thenA_normal, thenA_ret, thenA_exit, blockA_normal, blockA_ret, blockA_exit]
              -- end of round 0 at 0f1t2f4f6f8f
              have hlo9 := hM.lo
              have hkp9 := hM.kp.1
              have hol : (out ++ [c]).length = i + 1 := by rw [List.length_append, hb.1]; rfl
              refine ⟨most - (out ++ [c]).length, [(0, .av (.sc x)), (1, vI most), (5, .av (.own (s9.nx + 9) 0 (out ++ [c]).length 3)), (6, vI (nd - 1)), (7, vI (i + 1))], by omega, AllIn.less ⟨rfl, rfl, rfl, rfl, rfl, trivial⟩, i + 1, nd - 1, s9.nx + 9, out ++ [c], rfl, rfl, ?_, ?_, ?_⟩
              · exact ⟨⟨(by first | omega | (dsimp only; omega) | (dsimp only at *; omega)), fun j hj => (upd_ne _ _ (by omega)).trans ((upd_ne _ _ (by omega)).trans ((upd_ne _ _ (by omega)).trans (hM.kp.2.1 j hj))), hM.kp.2.2⟩, (by first | omega | (dsimp only; omega) | (dsimp only at *; omega)), (by first | omega | (dsimp only; omega) | (dsimp only at *; omega)), upd_same _ _ _⟩
              · exact ⟨hol, by first | omega | (have := hcn hck; omega), by first | omega | (have := hcn hck; omega)⟩
              · exact hp.add (by omega) hok (by rw [if_neg hck])
    · intro hc1
      try simp only [decide_eq_true_eq, decide_eq_false_iff_not] at hc1
      have hnd : nd = 0 := by omega
      have hend := hp.done hnd
      have hr0 : rightOk out = true := by
        have hpos : out.length ≠ 0 := by
          intro h
          rw [List.length_eq_zero_iff.1 h] at hend
          simp [endG] at hend
        simp only [rightOk, hend, beq_self_eq_true, Bool.and_true, Bool.and_eq_true, decide_eq_true_eq]
        omega
      refine aw_pur 5 (celC_pure hs1.2.2.2) ?_
      refine aw_exit ?_
      simp only [thenA_normal, thenA_ret, thenA_exit, blockA_normal, blockA_ret, blockA_exit, ↓reduceIte, Nat.reduceEqDiff]
      refine aw_region_seq C (pb := false) rfl fun K hK => ?_
      repeat' (first | refine awOps_yes (by rfl) (by rfl) (by rfl) (by simp  only [go_sem, ↓reduceIte, Nat.reduceEqDiff, reduceCtorEq, Nat.reduceAdd, Nat.reduceMul, Nat.reduceLeDiff, aLoad, aStore]; exact rfl) ?_ | refine awOps_no (by rfl) (by rfl) ?_ | refine awOps_yes0 (by rfl) (by rfl) (by rfl) (by simp  only [go_sem, ↓reduceIte, Nat.reduceEqDiff, reduceCtorEq, Nat.reduceAdd, Nat.reduceMul, Nat.reduceLeDiff, aLoad, aStore]; exact rfl) ?_ | fail)
      refine awOps_nil (hK _ _ ?_)
      clear hK K
      refine aw_ret ?_
      simp only [go_sem, ↓reduceIte, Nat.reduceEqDiff, reduceCtorEq, Nat.reduceAdd, Nat.reduceMul, Nat.reduceLeDiff, aLoad, aStore, FnQ, resA]
      -- 0f1f.x0.ret
      exact fun _ => ⟨by first | rfl | trivial, fun j hj => (upd_ne _ _ (by omega)).trans (hs1.1.2.1 j hj), hs1.1.2.2, _, out, rfl, gslC out, hr0, by omega⟩
end Go.Am.Seat
/-
  THE PLAIN LAW, part A: right terms, as rows of cells.
-/
namespace Go.Am.Seat
/-- A right term. -/
structure RTm (t : List Cell) : Prop where
  tk : takes t 1 = some t.length
  ok : ∀ c ∈ t, cellOk c = true
  pos : 1 ≤ t.length
  len : t.length ≤ 200
theorem arC_nat {c : Cell} (hc : cellOk c = true) (o : Nat) : (if c.kind = 3 then ((o + 1 : Nat) : Int) - 1 + c.n else ((o + 1 : Nat) : Int) - 1) = ((o + arC c : Nat) : Int) := by
  unfold arC
  split
  · have := cellOk_n hc (by assumption); omega
  · omega
theorem endG_takes : ∀ {l : List Cell} {o : Nat} {i : Nat} {r : Int}, 0 < o → endG l o i = r → r ≠ -1 → ∃ k, r = ((i + k : Nat) : Int) ∧ takes l o = some k ∧ ∀ c ∈ l.take k, cellOk c = true
  | [], o, i, r, _, h, hr => absurd h.symm (by simpa [endG] using hr)
  | c :: l, o, i, r, ho, h, hr => by
    obtain ⟨o, rfl⟩ : ∃ p, o = p + 1 := ⟨o - 1, by omega⟩
    rw [endG] at h
    split at h
    · rename_i hc
      rw [arC_nat hc] at h
      split at h
      · rename_i h0
        have h0' : o + arC c = 0 := by omega
        refine ⟨1, by omega, by simp [takes, h0'], fun d hd => ?_⟩
        simp only [List.take_succ_cons, List.take_zero, List.mem_singleton] at hd
        rw [hd]; exact hc
      · rename_i h0
        obtain ⟨k, h1, h2, h3⟩ := endG_takes (i := i + 1) (by omega) h hr
        refine ⟨k + 1, by omega, by simp [takes, h2], fun d hd => ?_⟩
        simp only [List.take_succ_cons, List.mem_cons] at hd
        rcases hd with rfl | hd
        · exact hc
        · exact h3 d hd
    · exact absurd h.symm hr
theorem takes_endG : ∀ {l : List Cell} {o k : Nat} {i : Nat}, 0 < o → takes l o = some k → (∀ c ∈ l, cellOk c = true) → endG l o i = ((i + k : Nat) : Int)
  | [], o, k, i, ho, h, _ => (takes_nil ho h).elim
  | c :: l, o, k, i, ho, h, hok => by
    obtain ⟨p, rfl, h1⟩ := takes_cons ho h
    obtain ⟨o, rfl⟩ : ∃ p, o = p + 1 := ⟨o - 1, by omega⟩
    have hc := hok c (by simp)
    rw [endG, if_pos hc, arC_nat hc]
    simp only [Nat.add_sub_cancel] at h1
    split
    · rename_i h0
      rw [show o + arC c = 0 by omega] at h1
      have := takes_zero h1
      omega
    · rename_i h0
      rw [takes_endG (i := i + 1) (by omega) h1 fun c h => hok c (by simp [h])]
      omega
theorem right_tm {t : List Cell} (h : rightOk t = true) : RTm t := by
  simp only [rightOk, Bool.and_eq_true, decide_eq_true_eq, beq_iff_eq] at h
  obtain ⟨⟨h1, h2⟩, h3⟩ := h
  obtain ⟨k, k1, k2, k3⟩ := endG_takes (o := 1) (i := 0) (by omega) h3 (by omega)
  have hk : k = t.length := by omega
  subst hk
  exact ⟨k2, by simpa using k3, by omega, by omega⟩
theorem tm_right {t : List Cell} (h : RTm t) : rightOk t = true := by
  have := takes_endG (i := 0) (by omega) h.tk h.ok
  have h1 := h.pos
  have h2 := h.len
  simp only [rightOk, Bool.and_eq_true, decide_eq_true_eq, beq_iff_eq]
  refine ⟨⟨by omega, by omega⟩, ?_⟩
  rw [show ((1 : Nat) : Int) = 1 from rfl] at this
  rw [this]; omega
theorem takes_app : ∀ {l r : List Cell} {n k : Nat}, takes l n = some k → takes (l ++ r) n = some k
  | l, r, 0, k, h => by rw [takes_zero h]; cases l <;> cases r <;> rfl
  | [], r, n + 1, k, h => (takes_nil (by omega) h).elim
  | c :: l, r, n + 1, k, h => by
    obtain ⟨p, rfl, h1⟩ := takes_cons (by omega) h
    simp only [Nat.add_sub_cancel] at h1
    simp [takes, takes_app h1]
theorem takes_cat : ∀ {a b : List Cell} {n m : Nat}, takes a n = some a.length → takes b m = some b.length → takes (a ++ b) (n + m) = some (a ++ b).length
  | [], b, n, m, h, h2 => by
    have : n = 0 := by
      rcases Nat.eq_zero_or_pos n with h0 | h0
      · exact h0
      · exact (takes_nil h0 h).elim
    subst this
    simpa using h2
  | c :: a, b, n, m, h, h2 => by
    have hn : 0 < n := by
      rcases Nat.eq_zero_or_pos n with h0 | h0
      · subst h0; have := takes_zero h; simp at this
      · exact h0
    obtain ⟨p, hp, h1⟩ := takes_cons hn h
    simp only [List.length_cons] at hp
    obtain rfl : a.length = p := by omega
    have := takes_cat h1 h2
    obtain ⟨n, rfl⟩ : ∃ p, n = p + 1 := ⟨n - 1, by omega⟩
    simp only [Nat.add_sub_cancel] at this
    rw [List.cons_append, show n + 1 + m = (n + m) + 1 by omega, takes, show n + m + arC c = n + arC c + m by omega, this]
    simp
theorem takes_sfx : ∀ {l : List Cell} {n : Nat}, takes l n = some l.length → ∀ i, i < l.length → ∃ k, takes (l.drop i) 1 = some k
  | [], _, _, i, hi => by simp at hi
  | c :: l, n, h, i, hi => by
    have hn : 0 < n := by
      rcases Nat.eq_zero_or_pos n with h0 | h0
      · subst h0; have := takes_zero h; simp at this
      · exact h0
    cases i with
    | zero =>
      obtain ⟨p, hp, _⟩ := takes_add (a := 1) (b := n - 1) (by rw [show 1 + (n - 1) = n by omega]; exact h)
      exact ⟨p, hp⟩
    | succ i =>
      obtain ⟨p, hp, h1⟩ := takes_cons hn h
      simp only [List.length_cons] at hp hi
      obtain rfl : l.length = p := by omega
      exact takes_sfx h1 i (by omega)
theorem ok_n3 {c : Cell} (h : cellOk c = true) (hk : c.kind = 3) : 0 ≤ c.n ∧ c.n ≤ 1000 := by have := cellOk_n h hk; omega
theorem RTm.tok {t : List Cell} (h : RTm t) : TOK t := ⟨takes_sfx h.tk, fun c hc hk => ok_n3 (h.ok c hc) hk⟩
theorem tok_two {a b : List Cell} (ha : RTm a) (hb : RTm b) : TOK (a ++ b) :=
  ⟨takes_sfx (takes_cat ha.tk hb.tk), fun c hc hk => ok_n3 ((List.mem_append.1 hc).elim (ha.ok c) (hb.ok c)) hk⟩
theorem bytes_inj {a b : ByteArray} (h : a.toList = b.toList) : a = b := by
  rw [ByteArray.toList_eq, ByteArray.toList_eq, Array.toList_inj] at h
  cases a; cases b
  exact congrArg ByteArray.mk h
theorem ok_var {c : Cell} (h : cellOk c = true) (hk : c.kind = 1) : c.name = .empty ∧ 0 ≤ c.n ∧ c.n ≤ 999 := by
  rw [cellOk, if_pos hk] at h
  simp only [Bool.and_eq_true, decide_eq_true_eq, beq_iff_eq] at h
  refine ⟨bytes_inj h.1.1, by omega⟩
theorem ok_int {c : Cell} (h : cellOk c = true) (hk : c.kind = 2) : c.name = .empty := by
  rw [cellOk, if_neg (by omega), if_pos hk] at h
  simp only [Bool.and_eq_true, decide_eq_true_eq, beq_iff_eq] at h
  exact bytes_inj h.1.1
theorem cellEq_iff {a b : Cell} : cellEq a b = true ↔ a = b := by
  have hb : (a.name == b.name) = true ↔ a.name = b.name := by rw [bytes_beq, beq_iff_eq]; exact ⟨bytes_inj, fun h => by rw [h]⟩
  unfold cellEq
  rw [Bool.and_eq_true, Bool.and_eq_true, Bool.and_eq_true, hb, beq_iff_eq, beq_iff_eq]
  constructor
  · rintro ⟨h1, h2, h3, _⟩
    cases a; cases b; simp_all
  · rintro rfl; exact ⟨rfl, rfl, rfl, rfl⟩
instance instCellEq : DecidableEq Cell := fun a b => if h : cellEq a b = true then isTrue (cellEq_iff.1 h) else isFalse fun e => h (cellEq_iff.2 e)
theorem sameL_iff : ∀ {a b : List Cell}, sameL a b = true ↔ a = b
  | [], [] => by simp [sameL]
  | [], _ :: _ => by simp [sameL]
  | _ :: _, [] => by simp [sameL]
  | x :: a, y :: b => by
    rw [sameL, Bool.and_eq_true, cellEq_iff, sameL_iff]
    simp
theorem sameL_false {a b : List Cell} : sameL a b = false ↔ a ≠ b := by
  rw [ne_eq, ← sameL_iff, Bool.not_eq_true]
theorem name_size {c : Cell} (h : cellOk c = true) : c.name.size ≤ 12 := by
  by_cases h1 : c.kind = 1
  · rw [(ok_var h h1).1]; decide
  · by_cases h2 : c.kind = 2
    · rw [ok_int h h2]; decide
    · by_cases h3 : c.kind = 3
      · rw [cellOk, if_neg h1, if_neg h2, if_pos h3] at h
        simp only [nameOk, Bool.and_eq_true, decide_eq_true_eq] at h
        exact h.1.1.2.2
      · rw [cellOk, if_neg h1, if_neg h2, if_neg h3] at h; cases h
end Go.Am.Seat
/-
  MADE BY PROGRAM (am.py): the walks of functions 17.
-/
namespace Go.Am.Seat
open Go.Proofs

/-- Two rows of bindings, alike? -/
def sameB : List Bnd → List Bnd → (Bnd → List Cell) → Bool
  | [], [], _ => true
  | a :: l, b :: r, val => (a.v == b.v) && sameL (val a) (val b) && sameB l r val
  | _, _, _ => false
theorem sameB_len : ∀ {a b : List Bnd} {val : Bnd → List Cell}, sameB a b val = true → a.length = b.length
  | [], [], _, _ => rfl
  | [], _ :: _, _, h => by simp [sameB] at h
  | _ :: _, [], _, h => by simp [sameB] at h
  | x :: a, y :: b, val, h => by
    simp only [sameB, Bool.and_eq_true] at h
    simp [sameB_len h.2]

theorem bod17 : Try.f17.body = some (Try.f17.body.getD .skip) := rfl
theorem fn17 (L : Loops) (a b : List Bnd) (val : Bnd → List Cell) (s : Me) (x y : Sc) (hx : GSl encB x a) (hy : GSl encB y b) (hva : ∀ c ∈ a, GSl encC c.t (val c) ∧ (val c).length ≤ 1000000) (hvb : ∀ c ∈ b, GSl encC c.t (val c)) (hl : a.length ≤ 1000000000) : FnL Try.prog L 17 [.av (.sc x), .av (.sc y)] s fun r s' => (r = vB (sameB a b val)) ∧ s' = s := by
  refine FnL.pure (R := fun r => r = vB (sameB a b val)) ?_
  refine fn_of_body (ts := [4]) Try.func17 bod17 rfl (by simp) (by simp [Try.ntmps17]) fun D0 => ?_
  unfold Try.f17
  simp only [Option.getD_some, initSl]
  refine aw_region_seq C (pb := false) rfl fun K hK => ?_
  repeat' (first | refine awOps_yes (by rfl) (by rfl) (by rfl) (by simp  only [go_sem, ↓reduceIte, Nat.reduceEqDiff, reduceCtorEq, Nat.reduceAdd, Nat.reduceMul, Nat.reduceLeDiff, aLoad, aStore]; exact rfl) ?_ | refine awOps_no (by rfl) (by rfl) ?_ | refine awOps_yes0 (by rfl) (by rfl) (by rfl) (by simp  only [go_sem, ↓reduceIte, Nat.reduceEqDiff, reduceCtorEq, Nat.reduceAdd, Nat.reduceMul, Nat.reduceLeDiff, aLoad, aStore]; exact rfl) ?_ | fail)
  refine awOps_nil (hK _ _ ?_)
  clear hK K
  refine aw_seq ?_
  refine aw_region_seq C (pb := false) rfl fun K hK => ?_
  repeat' (first | refine awOps_yes (by rfl) (by rfl) (by rfl) (by simp  only [go_sem, ↓reduceIte, Nat.reduceEqDiff, reduceCtorEq, Nat.reduceAdd, Nat.reduceMul, Nat.reduceLeDiff, aLoad, aStore, lenB hx, lenB hy]; exact rfl) ?_ | refine awOps_no (by rfl) (by rfl) ?_ | refine awOps_yes0 (by rfl) (by rfl) (by rfl) (by simp  only [go_sem, ↓reduceIte, Nat.reduceEqDiff, reduceCtorEq, Nat.reduceAdd, Nat.reduceMul, Nat.reduceLeDiff, aLoad, aStore, lenB hx, lenB hy]; exact rfl) ?_ | fail)
  refine awOps_nil (hK _ _ ?_)
  clear hK K
  refine aw_cond (by rfl) ?_ ?_
  · intro hc0
    try simp only [bne_iff_ne, ne_eq, bne_eq_false_iff_eq] at hc0
    refine aw_region_seq C (pb := false) rfl fun K hK => ?_
    repeat' (first | refine awOps_yes (by rfl) (by rfl) (by rfl) (by simp  only [go_sem, ↓reduceIte, Nat.reduceEqDiff, reduceCtorEq, Nat.reduceAdd, Nat.reduceMul, Nat.reduceLeDiff, aLoad, aStore]; exact rfl) ?_ | refine awOps_no (by rfl) (by rfl) ?_ | refine awOps_yes0 (by rfl) (by rfl) (by rfl) (by simp  only [go_sem, ↓reduceIte, Nat.reduceEqDiff, reduceCtorEq, Nat.reduceAdd, Nat.reduceMul, Nat.reduceLeDiff, aLoad, aStore]; exact rfl) ?_ | fail)
    refine awOps_nil (hK _ _ ?_)
    clear hK K
    refine aw_ret ?_
    try simp only [thenA_normal, thenA_ret, thenA_exit, blockA_normal, blockA_ret, blockA_exit]
    simp only [go_sem, ↓reduceIte, Nat.reduceEqDiff, reduceCtorEq, Nat.reduceAdd, Nat.reduceMul, Nat.reduceLeDiff, aLoad, aStore, FnQ, resA]
    -- 0t.ret
    have hne : sameB a b val = false := by
      cases h : sameB a b val
      · rfl
      · exact absurd (sameB_len h) (by omega)
    exact fun _ => ⟨by first | rfl | trivial, by first | exact fun _ _ => rfl | trivial, by first | rfl | trivial, by rw [hne]⟩
  · intro hc0
    try simp only [bne_iff_ne, ne_eq, bne_eq_false_iff_eq] at hc0
    refine aw_skip ?_
    simp only [thenA_normal, thenA_ret, thenA_exit, blockA_normal, blockA_ret, blockA_exit, ↓reduceIte, Nat.reduceEqDiff]
    refine aw_seq ?_
    refine aw_region_seq C (pb := false) rfl fun K hK => ?_
    repeat' (first | refine awOps_yes (by rfl) (by rfl) (by rfl) (by simp  only [go_sem, ↓reduceIte, Nat.reduceEqDiff, reduceCtorEq, Nat.reduceAdd, Nat.reduceMul, Nat.reduceLeDiff, aLoad, aStore]; exact rfl) ?_ | refine awOps_no (by rfl) (by rfl) ?_ | refine awOps_yes0 (by rfl) (by rfl) (by rfl) (by simp  only [go_sem, ↓reduceIte, Nat.reduceEqDiff, reduceCtorEq, Nat.reduceAdd, Nat.reduceMul, Nat.reduceLeDiff, aLoad, aStore]; exact rfl) ?_ | fail)
    refine awOps_nil (hK _ _ ?_)
    clear hK K
    refine aw_block ?_
    refine AW.less (sl' := [(0, .av (.sc x)), (1, .av (.sc y)), (5, vI (0))]) (AllIn.less ⟨rfl, rfl, rfl, trivial⟩) (aw_loop (fun k sl1 s1 => ∃ (i : Nat), k = a.length - i ∧ sl1 = [(0, .av (.sc x)), (1, .av (.sc y)), (5, vI (i))] ∧ (Kp s s1) ∧ (i ≤ a.length) ∧ (sameB (a.drop i) (b.drop i) val = sameB a b val)) (k := a.length - (0)) ⟨0, rfl, rfl, (Kp.refl s).up (by omega), Nat.zero_le _, by simp⟩ ?_)
    rintro k1 _ s1 ⟨i, hk1, rfl, hs1, hb, h3⟩
    refine aw_seq ?_
    refine aw_region_seq C (pb := false) rfl fun K hK => ?_
    repeat' (first | refine awOps_yes (by rfl) (by rfl) (by rfl) (by simp  only [go_sem, ↓reduceIte, Nat.reduceEqDiff, reduceCtorEq, Nat.reduceAdd, Nat.reduceMul, Nat.reduceLeDiff, aLoad, aStore, lenB hx]; exact rfl) ?_ | refine awOps_no (by rfl) (by rfl) ?_ | refine awOps_yes0 (by rfl) (by rfl) (by rfl) (by simp  only [go_sem, ↓reduceIte, Nat.reduceEqDiff, reduceCtorEq, Nat.reduceAdd, Nat.reduceMul, Nat.reduceLeDiff, aLoad, aStore, lenB hx]; exact rfl) ?_ | fail)
    refine awOps_nil (hK _ _ ?_)
    clear hK K
    refine aw_cond (by rfl) ?_ ?_
    · intro hc1
      try simp only [decide_eq_true_eq, decide_eq_false_iff_not] at hc1
      have hi2 : i < a.length := by omega
      have hi3 : i < b.length := by omega
      have ga := (hva a[i] (List.getElem_mem hi2))
      have gb := (hvb b[i] (List.getElem_mem hi3))
      refine aw_skip ?_
      simp only [thenA_normal, thenA_ret, thenA_exit, blockA_normal, blockA_ret, blockA_exit, ↓reduceIte, Nat.reduceEqDiff]
      refine aw_seq ?_
      refine aw_block ?_
      refine aw_silcut_seq C (pb := false) 25 _ [(0, .av (.sc x)), (1, .av (.sc y)), (5, vI i), (41, vB (!((a[i].v == b[i].v) && sameL (val a[i]) (val b[i]))))] rfl (by kernel_rfl) rfl (fun _ _ => rfl) ?_ ?_
      · cases hA0 : (a[i].v == b[i].v : Bool)
        all_goals (repeat' (first | refine sil_yes (by rfl) (by rfl) (by rfl) (by simp  only [go_sem, ↓reduceIte, Nat.reduceEqDiff, reduceCtorEq, Nat.reduceAdd, Nat.reduceMul, Nat.reduceLeDiff, aLoad, aStore, idxB hx hi2, idxB hy hi3, bne, hA0]; exact rfl) (fun _ => rfl) ?_ | refine sil_no (by rfl) (by rfl) ?_ | fail))
        all_goals (try (first | refine sil_call (by rfl) (by rfl) (by rfl) (And.intro Try.call20 (fn20 L (val a[i]) (val b[i]) _ _ _ ga.1 gb (by omega))) ?_ | refine sil_no (by rfl) (by rfl) ?_ | fail))
        all_goals (repeat' (first | refine sil_yes (by rfl) (by rfl) (by rfl) (by simp  only [go_sem, ↓reduceIte, Nat.reduceEqDiff, reduceCtorEq, Nat.reduceAdd, Nat.reduceMul, Nat.reduceLeDiff, aLoad, aStore, idxB hx hi2, idxB hy hi3, bne, hA0]; exact rfl) (fun _ => rfl) ?_ | refine sil_no (by rfl) (by rfl) ?_ | fail))
        all_goals (exact sil_nil ⟨rfl, rfl, rfl, rfl, trivial⟩)
      refine aw_cond (by rfl) ?_ ?_
      · intro hc2
        have hq : ((a[i].v == b[i].v) && sameL (val a[i]) (val b[i])) = false := by
          simpa only [Bool.not_eq_true'] using hc2
        refine aw_region_seq C (pb := false) rfl fun K hK => ?_
        repeat' (first | refine awOps_yes (by rfl) (by rfl) (by rfl) (by simp  only [go_sem, ↓reduceIte, Nat.reduceEqDiff, reduceCtorEq, Nat.reduceAdd, Nat.reduceMul, Nat.reduceLeDiff, aLoad, aStore]; exact rfl) ?_ | refine awOps_no (by rfl) (by rfl) ?_ | refine awOps_yes0 (by rfl) (by rfl) (by rfl) (by simp  only [go_sem, ↓reduceIte, Nat.reduceEqDiff, reduceCtorEq, Nat.reduceAdd, Nat.reduceMul, Nat.reduceLeDiff, aLoad, aStore]; exact rfl) ?_ | fail)
        refine awOps_nil (hK _ _ ?_)
        clear hK K
        refine aw_ret ?_
        try simp only [thenA_normal, thenA_ret, thenA_exit, blockA_normal, blockA_ret, blockA_exit]
        simp only [go_sem, ↓reduceIte, Nat.reduceEqDiff, reduceCtorEq, Nat.reduceAdd, Nat.reduceMul, Nat.reduceLeDiff, aLoad, aStore, FnQ, resA]
        -- 0f1t2t.ret
        have hne : sameB a b val = false := by
          rw [← h3, List.drop_eq_getElem_cons hi2, List.drop_eq_getElem_cons hi3, sameB, hq]
          rfl
        exact fun _ => ⟨by first | rfl | trivial, hs1.2.1, hs1.2.2, by rw [hne]⟩
      · intro hc2
        have hq : ((a[i].v == b[i].v) && sameL (val a[i]) (val b[i])) = true := by
          simpa only [Bool.not_eq_false'] using hc2
        refine aw_skip ?_
        simp only [thenA_normal, thenA_ret, thenA_exit, blockA_normal, blockA_ret, blockA_exit, ↓reduceIte, Nat.reduceEqDiff]
        refine aw_region C (pb := false) rfl ?_
        repeat' (first | refine awOps_yes (by rfl) (by rfl) (by rfl) (by simp  only [go_sem, ↓reduceIte, Nat.reduceEqDiff, reduceCtorEq, Nat.reduceAdd, Nat.reduceMul, Nat.reduceLeDiff, aLoad, aStore, wrap_small ((i : Int) + 1) (by omega) (by omega)]; exact rfl) ?_ | refine awOps_no (by rfl) (by rfl) ?_ | refine awOps_yes0 (by rfl) (by rfl) (by rfl) (by simp  only [go_sem, ↓reduceIte, Nat.reduceEqDiff, reduceCtorEq, Nat.reduceAdd, Nat.reduceMul, Nat.reduceLeDiff, aLoad, aStore, wrap_small ((i : Int) + 1) (by omega) (by omega)]; exact rfl) ?_ | fail)
        refine awOps_nil ?_
        try simp only [thenA_normal, thenA_ret, thenA_exit, blockA_normal, blockA_ret, blockA_exit]
        -- end of round 0 at 0f1t2f
        refine ⟨a.length - (i + 1), [(0, .av (.sc x)), (1, .av (.sc y)), (5, vI (i + 1))], by omega, AllIn.less ⟨rfl, rfl, rfl, trivial⟩, i + 1, rfl, rfl, ?_, ?_, ?_⟩
        · exact hs1.up (by omega)
        · omega
        · rw [← h3, List.drop_eq_getElem_cons hi2, List.drop_eq_getElem_cons hi3, sameB, hq]
          rfl
    · intro hc1
      try simp only [decide_eq_true_eq, decide_eq_false_iff_not] at hc1
      refine aw_exit ?_
      simp only [thenA_normal, thenA_ret, thenA_exit, blockA_normal, blockA_ret, blockA_exit, ↓reduceIte, Nat.reduceEqDiff]
      refine aw_region_seq C (pb := false) rfl fun K hK => ?_
      repeat' (first | refine awOps_yes (by rfl) (by rfl) (by rfl) (by simp  only [go_sem, ↓reduceIte, Nat.reduceEqDiff, reduceCtorEq, Nat.reduceAdd, Nat.reduceMul, Nat.reduceLeDiff, aLoad, aStore]; exact rfl) ?_ | refine awOps_no (by rfl) (by rfl) ?_ | refine awOps_yes0 (by rfl) (by rfl) (by rfl) (by simp  only [go_sem, ↓reduceIte, Nat.reduceEqDiff, reduceCtorEq, Nat.reduceAdd, Nat.reduceMul, Nat.reduceLeDiff, aLoad, aStore]; exact rfl) ?_ | fail)
      refine awOps_nil (hK _ _ ?_)
      clear hK K
      refine aw_ret ?_
      simp only [go_sem, ↓reduceIte, Nat.reduceEqDiff, reduceCtorEq, Nat.reduceAdd, Nat.reduceMul, Nat.reduceLeDiff, aLoad, aStore, FnQ, resA]
      -- 0f1f.x0.ret
      have hne : sameB a b val = true := by
        rw [← h3, List.drop_of_length_le (by omega), List.drop_of_length_le (by omega)]; rfl
      exact fun _ => ⟨by first | rfl | trivial, hs1.2.1, hs1.2.2, by rw [hne]⟩
end Go.Am.Seat
/-
  THE PLAIN LAW, part B: rows of bindings, and how they are held against each other.
-/
namespace Go.Am.Seat
open Go.Proofs
open Classical in
noncomputable def valT (t : Sc) : List Cell := if h : ∃ l, GSl encC t l then h.choose else []
theorem valT_eq {t : Sc} {l : List Cell} (h : GSl encC t l) : valT t = l := by
  have hx : ∃ l, GSl encC t l := ⟨l, h⟩
  unfold valT
  rw [dif_pos hx]
  exact gsl_inj hx.choose_spec h
theorem bndI_t (b : Int × List Cell) : GSl encC (bndI b).t b.2 := .inr rfl
theorem sameB_iff : ∀ {a b : List (Int × List Cell)}, sameB (a.map bndI) (b.map bndI) (fun c => valT c.t) = decide (a = b)
  | [], [] => by simp [sameB]
  | [], _ :: _ => by simp [sameB]
  | _ :: _, [] => by simp [sameB]
  | x :: a, y :: b => by
    simp only [List.map_cons, sameB]
    rw [sameB_iff, valT_eq (bndI_t x), valT_eq (bndI_t y), Bool.eq_iff_iff]
    simp only [Bool.and_eq_true, beq_iff_eq, sameL_iff, decide_eq_true_eq, List.cons.injEq]
    constructor
    · rintro ⟨⟨h1, h2⟩, h3⟩
      exact ⟨Prod.ext h1 h2, h3⟩
    · rintro ⟨rfl, rfl⟩
      exact ⟨⟨rfl, rfl⟩, rfl⟩
theorem fnSame (L : Loops) (a b : List (Int × List Cell)) (s : Me) (x y : Sc) (hx : GSl encB x (a.map bndI)) (hy : GSl encB y (b.map bndI)) (hl : a.length ≤ 1000000) (hc : ∀ c ∈ a, c.2.length ≤ 1000000) : FnL Try.prog L 17 [.av (.sc x), .av (.sc y)] s fun r s' => r = vB (decide (a = b)) ∧ s' = s := by
  refine (fn17 L (a.map bndI) (b.map bndI) (fun c => valT c.t) s x y hx hy (fun c hc' => ?_) (fun c hc' => ?_) (by rw [List.length_map]; omega)).mono fun r s' ⟨h1, h2⟩ => ⟨by rw [h1, sameB_iff], h2⟩
  · obtain ⟨d, hd, rfl⟩ := List.mem_map.1 hc'
    have h := bndI_t d
    exact ⟨(valT_eq h).symm ▸ h, by rw [valT_eq h]; exact hc d hd⟩
  · obtain ⟨d, hd, rfl⟩ := List.mem_map.1 hc'
    have h := bndI_t d
    exact (valT_eq h).symm ▸ h
/-- A binding told by Mgu, its number as it is written. -/
def toI (b : Nat × List Cell) : Int × List Cell := ((b.1 : Int), b.2)
theorem map_bndOf (out : List (Nat × List Cell)) : out.map bndOf = (out.map toI).map bndI := by
  rw [List.map_map]
  exact List.map_congr_left fun b _ => rfl
end Go.Am.Seat
