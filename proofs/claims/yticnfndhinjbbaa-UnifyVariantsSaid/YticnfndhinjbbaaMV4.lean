/-
  Part 4 of the proof: W35, W13, W84, W106, W109, W107, W86, W79, W99, W62, W98, W85, W74, W75, W53, W69, W48, W72, W81, W70, W71, W49, W50.
-/
import Derived.Shelf.Slices.In.SortNone
import Derived.Shelf.Sort.Plain
import Derived.Test.YticnfndhinjbbaaMV3
set_option linter.unusedVariables false
set_option linter.unusedSimpArgs false
/-
  MADE BY PROGRAM (am.py): the walks of functions 35.
-/
namespace Go.Am.Seat
open Go.Proofs

def lens (val : Sc → List Cell) (l : List Sc) : Nat := (l.map fun t => (val t).length).sum
theorem lens_take {val : Sc → List Cell} {l : List Sc} {i : Nat} (h : i < l.length) : lens val (l.take (i + 1)) = lens val (l.take i) + (val l[i]).length := by
  rw [lens, List.take_succ_eq_append_getElem h, List.map_append, List.sum_append]
  simp [lens]
theorem lens_le {val : Sc → List Cell} {B : Nat} : ∀ {l : List Sc}, (∀ t ∈ l, (val t).length ≤ B) → lens val l ≤ B * l.length
  | [], _ => by simp [lens]
  | a :: l, h => by
    have h1 := h a (by simp)
    have h2 := lens_le (l := l) fun t ht => h t (by simp [ht])
    have e1 : lens val (a :: l) = (val a).length + lens val l := by simp [lens]
    have e2 : B * (l.length + 1) = B * l.length + B := Nat.mul_succ _ _
    rw [e1, List.length_cons, e2]
    omega
theorem lens_flat {val : Sc → List Cell} : ∀ {l : List Sc}, (l.flatMap val).length = lens val l
  | [] => rfl
  | a :: l => by simp [lens]

theorem bod35 : Try.f35.body = some (Try.f35.body.getD .skip) := rfl
theorem fn35 (L : Loops) (ts : List Sc) (val : Sc → List Cell) (s : Me) (x : Sc) (hx : GSl encT x ts) (hv : ∀ t ∈ ts, GSl encC t (val t) ∧ (val t).length ≤ 1000000) (hl : ts.length ≤ 100000) : FnL Try.prog L 35 [.av (.sc x)] s fun r s' => (∃ y, r = .av (.sc y) ∧ GSl encC y (ts.flatMap val)) ∧ s' = s := by
  refine FnL.pure (R := fun r => ∃ y, r = .av (.sc y) ∧ GSl encC y (ts.flatMap val)) ?_
  have hv0 := hv
  have hvl : ∀ l : List Sc, (∀ t ∈ l, t ∈ ts) → l.length ≤ 100000 → lens val l ≤ 100000000000 := fun l h1 h2 => by
    have := lens_le (val := val) (B := 1000000) fun t ht => (hv t (h1 t ht)).2
    have : 1000000 * l.length ≤ 1000000 * 100000 := Nat.mul_le_mul_left _ h2
    omega
  refine fn_of_body (ts := [2]) Try.func35 bod35 rfl (by simp) (by simp [Try.ntmps35]) fun D0 => ?_
  unfold Try.f35
  simp only [Option.getD_some, initSl]
  refine aw_region_seq C (pb := false) rfl fun K hK => ?_
  repeat' (first | refine awOps_yes (by rfl) (by rfl) (by rfl) (by simp  only [go_sem, ↓reduceIte, Nat.reduceEqDiff, reduceCtorEq, Nat.reduceAdd, Nat.reduceMul, Nat.reduceLeDiff, aLoad, aStore]; exact rfl) ?_ | refine awOps_no (by rfl) (by rfl) ?_ | refine awOps_yes0 (by rfl) (by rfl) (by rfl) (by simp  only [go_sem, ↓reduceIte, Nat.reduceEqDiff, reduceCtorEq, Nat.reduceAdd, Nat.reduceMul, Nat.reduceLeDiff, aLoad, aStore]; exact rfl) ?_ | fail)
  refine awOps_nil (hK _ _ ?_)
  clear hK K
  refine aw_region_seq C (pb := false) rfl fun K hK => ?_
  repeat' (first | refine awOps_yes (by rfl) (by rfl) (by rfl) (by simp  only [go_sem, ↓reduceIte, Nat.reduceEqDiff, reduceCtorEq, Nat.reduceAdd, Nat.reduceMul, Nat.reduceLeDiff, aLoad, aStore]; exact rfl) ?_ | refine awOps_no (by rfl) (by rfl) ?_ | refine awOps_yes0 (by rfl) (by rfl) (by rfl) (by simp  only [go_sem, ↓reduceIte, Nat.reduceEqDiff, reduceCtorEq, Nat.reduceAdd, Nat.reduceMul, Nat.reduceLeDiff, aLoad, aStore]; exact rfl) ?_ | fail)
  refine awOps_nil (hK _ _ ?_)
  clear hK K
  refine aw_seq ?_
  refine aw_region_seq C (pb := false) rfl fun K hK => ?_
  repeat' (first | refine awOps_yes (by rfl) (by rfl) (by rfl) (by simp  only [go_sem, ↓reduceIte, Nat.reduceEqDiff, reduceCtorEq, Nat.reduceAdd, Nat.reduceMul, Nat.reduceLeDiff, aLoad, aStore, lenT hx]; exact rfl) ?_ | refine awOps_no (by rfl) (by rfl) ?_ | refine awOps_yes0 (by rfl) (by rfl) (by rfl) (by simp  only [go_sem, ↓reduceIte, Nat.reduceEqDiff, reduceCtorEq, Nat.reduceAdd, Nat.reduceMul, Nat.reduceLeDiff, aLoad, aStore, lenT hx]; exact rfl) ?_ | fail)
  refine awOps_nil (hK _ _ ?_)
  clear hK K
  refine aw_block ?_
  refine AW.less (sl' := [(0, .av (.sc x)), (3, vI (lens val (ts.take (0)) : Nat)), (9, .av (.sc x)), (10, vI ts.length), (11, vI (0))]) (AllIn.less ⟨rfl, rfl, rfl, rfl, rfl, trivial⟩) (aw_loop (fun k sl1 s1 => ∃ (i : Nat), k = ts.length - i ∧ sl1 = [(0, .av (.sc x)), (3, vI (lens val (ts.take (i)) : Nat)), (9, .av (.sc x)), (10, vI ts.length), (11, vI (i))] ∧ (Kp s s1) ∧ (i ≤ ts.length)) (k := ts.length - (0)) ⟨0, rfl, rfl, (Kp.refl s).up (by omega), Nat.zero_le _⟩ ?_)
  rintro k1 _ s1 ⟨i, hk1, rfl, hs1, hb⟩
  refine aw_region_seq C (pb := false) rfl fun K hK => ?_
  repeat' (first | refine awOps_yes (by rfl) (by rfl) (by rfl) (by simp  only [go_sem, ↓reduceIte, Nat.reduceEqDiff, reduceCtorEq, Nat.reduceAdd, Nat.reduceMul, Nat.reduceLeDiff, aLoad, aStore]; exact rfl) ?_ | refine awOps_no (by rfl) (by rfl) ?_ | refine awOps_yes0 (by rfl) (by rfl) (by rfl) (by simp  only [go_sem, ↓reduceIte, Nat.reduceEqDiff, reduceCtorEq, Nat.reduceAdd, Nat.reduceMul, Nat.reduceLeDiff, aLoad, aStore]; exact rfl) ?_ | fail)
  refine awOps_nil (hK _ _ ?_)
  clear hK K
  refine aw_seq ?_
  refine aw_cond (by rfl) ?_ ?_
  · intro hc0
    try simp only [decide_eq_true_eq, decide_eq_false_iff_not] at hc0
    have hi2 : i < ts.length := by omega
    have hvi := (hv ts[i] (List.getElem_mem hi2))
    have hlt := hvl (ts.take i) (fun t ht => List.mem_of_mem_take ht) (by rw [List.length_take]; omega)
    refine aw_skip ?_
    simp only [thenA_normal, thenA_ret, thenA_exit, blockA_normal, blockA_ret, blockA_exit, ↓reduceIte, Nat.reduceEqDiff]
    refine aw_seq ?_
    refine aw_block ?_
    refine aw_region_seq C (pb := false) rfl fun K hK => ?_
    repeat' (first | refine awOps_yes (by rfl) (by rfl) (by rfl) (by simp  only [go_sem, ↓reduceIte, Nat.reduceEqDiff, reduceCtorEq, Nat.reduceAdd, Nat.reduceMul, Nat.reduceLeDiff, aLoad, aStore, idxT hx hi2]; exact rfl) ?_ | refine awOps_no (by rfl) (by rfl) ?_ | refine awOps_yes0 (by rfl) (by rfl) (by rfl) (by simp  only [go_sem, ↓reduceIte, Nat.reduceEqDiff, reduceCtorEq, Nat.reduceAdd, Nat.reduceMul, Nat.reduceLeDiff, aLoad, aStore, idxT hx hi2]; exact rfl) ?_ | fail)
    refine awOps_nil (hK _ _ ?_)
    clear hK K
    refine aw_region_seq C (pb := false) rfl fun K hK => ?_
    repeat' (first | refine awOps_yes (by rfl) (by rfl) (by rfl) (by simp  only [go_sem, ↓reduceIte, Nat.reduceEqDiff, reduceCtorEq, Nat.reduceAdd, Nat.reduceMul, Nat.reduceLeDiff, aLoad, aStore, lenC hvi.1, wrap_small ((lens val (ts.take i) : Nat) + ((val ts[i]).length : Nat) : Int) (by omega) (by omega)]; exact rfl) ?_ | refine awOps_no (by rfl) (by rfl) ?_ | refine awOps_yes0 (by rfl) (by rfl) (by rfl) (by simp  only [go_sem, ↓reduceIte, Nat.reduceEqDiff, reduceCtorEq, Nat.reduceAdd, Nat.reduceMul, Nat.reduceLeDiff, aLoad, aStore, lenC hvi.1, wrap_small ((lens val (ts.take i) : Nat) + ((val ts[i]).length : Nat) : Int) (by omega) (by omega)]; exact rfl) ?_ | fail)
    refine awOps_nil (hK _ _ ?_)
    clear hK K
    refine aw_region_seq C (pb := false) rfl fun K hK => ?_
    repeat' (first | refine awOps_yes (by rfl) (by rfl) (by rfl) (by simp  only [go_sem, ↓reduceIte, Nat.reduceEqDiff, reduceCtorEq, Nat.reduceAdd, Nat.reduceMul, Nat.reduceLeDiff, aLoad, aStore]; exact rfl) ?_ | refine awOps_no (by rfl) (by rfl) ?_ | refine awOps_yes0 (by rfl) (by rfl) (by rfl) (by simp  only [go_sem, ↓reduceIte, Nat.reduceEqDiff, reduceCtorEq, Nat.reduceAdd, Nat.reduceMul, Nat.reduceLeDiff, aLoad, aStore]; exact rfl) ?_ | fail)
    refine awOps_nil (hK _ _ ?_)
    clear hK K
    refine aw_cond (by rfl) ?_ ?_
    · intro hc1
      try simp only [decide_eq_true_eq, decide_eq_false_iff_not] at hc1
      omega
    · intro hc1
      try simp only [decide_eq_true_eq, decide_eq_false_iff_not] at hc1
      refine aw_skip ?_
      simp only [thenA_normal, thenA_ret, thenA_exit, blockA_normal, blockA_ret, blockA_exit, ↓reduceIte, Nat.reduceEqDiff]
      refine aw_region C (pb := false) rfl ?_
      repeat' (first | refine awOps_yes (by rfl) (by rfl) (by rfl) (by simp  only [go_sem, ↓reduceIte, Nat.reduceEqDiff, reduceCtorEq, Nat.reduceAdd, Nat.reduceMul, Nat.reduceLeDiff, aLoad, aStore, wrap_small ((i : Int) + 1) (by omega) (by omega)]; exact rfl) ?_ | refine awOps_no (by rfl) (by rfl) ?_ | refine awOps_yes0 (by rfl) (by rfl) (by rfl) (by simp  only [go_sem, ↓reduceIte, Nat.reduceEqDiff, reduceCtorEq, Nat.reduceAdd, Nat.reduceMul, Nat.reduceLeDiff, aLoad, aStore, wrap_small ((i : Int) + 1) (by omega) (by omega)]; exact rfl) ?_ | fail)
      refine awOps_nil ?_
      try simp only [thenA_normal, thenA_ret, thenA_exit, blockA_normal, blockA_ret, blockA_exit]
      -- end of round 0 at 0t1f
      refine ⟨ts.length - (i + 1), [(0, .av (.sc x)), (3, vI (lens val (ts.take (i + 1)) : Nat)), (9, .av (.sc x)), (10, vI ts.length), (11, vI (i + 1))], by omega, AllIn.less ⟨rfl, by rw [lens_take hi2]; rfl, rfl, rfl, rfl, trivial⟩, i + 1, rfl, rfl, ?_, ?_⟩
      · exact hs1.up (by omega)
      · omega
  · intro hc0
    try simp only [decide_eq_true_eq, decide_eq_false_iff_not] at hc0
    refine aw_exit ?_
    simp only [thenA_normal, thenA_ret, thenA_exit, blockA_normal, blockA_ret, blockA_exit, ↓reduceIte, Nat.reduceEqDiff]
    have hi3 : i = ts.length := by omega
    subst hi3
    have hlt := hvl ts (fun t ht => ht) hl
    rw [List.take_length] at *
    refine aw_region_seq C (pb := false) rfl fun K hK => ?_
    repeat' (first | refine awOps_yes (by rfl) (by rfl) (by rfl) (by simp  only [go_sem, ↓reduceIte, Nat.reduceEqDiff, reduceCtorEq, Nat.reduceAdd, Nat.reduceMul, Nat.reduceLeDiff, aLoad, aStore]; exact rfl) ?_ | refine awOps_no (by rfl) (by rfl) ?_ | refine awOps_yes0 (by rfl) (by rfl) (by rfl) (by simp  only [go_sem, ↓reduceIte, Nat.reduceEqDiff, reduceCtorEq, Nat.reduceAdd, Nat.reduceMul, Nat.reduceLeDiff, aLoad, aStore]; exact rfl) ?_ | fail)
    refine awOps_call (by rfl) (by rfl) (by rfl) (And.intro Try.call63 (fn63 L (lens val ts) _ (by omega))) ?_
    rintro x7 _ ⟨ob7, m7, rfl, hm7, hob7, hacc7⟩
    dsimp only at hm7 hob7 hacc7
    have hs11 := hs1.1
    repeat' (first | refine awOps_yes (by rfl) (by rfl) (by rfl) (by simp  only [go_sem, ↓reduceIte, Nat.reduceEqDiff, reduceCtorEq, Nat.reduceAdd, Nat.reduceMul, Nat.reduceLeDiff, aLoad, aStore]; exact rfl) ?_ | refine awOps_no (by rfl) (by rfl) ?_ | refine awOps_yes0 (by rfl) (by rfl) (by rfl) (by simp  only [go_sem, ↓reduceIte, Nat.reduceEqDiff, reduceCtorEq, Nat.reduceAdd, Nat.reduceMul, Nat.reduceLeDiff, aLoad, aStore]; exact rfl) ?_ | fail)
    refine awOps_nil (hK _ _ ?_)
    clear hK K
    refine aw_seq ?_
    refine aw_region_seq C (pb := false) rfl fun K hK => ?_
    repeat' (first | refine awOps_yes (by rfl) (by rfl) (by rfl) (by simp  only [go_sem, ↓reduceIte, Nat.reduceEqDiff, reduceCtorEq, Nat.reduceAdd, Nat.reduceMul, Nat.reduceLeDiff, aLoad, aStore, lenT hx]; exact rfl) ?_ | refine awOps_no (by rfl) (by rfl) ?_ | refine awOps_yes0 (by rfl) (by rfl) (by rfl) (by simp  only [go_sem, ↓reduceIte, Nat.reduceEqDiff, reduceCtorEq, Nat.reduceAdd, Nat.reduceMul, Nat.reduceLeDiff, aLoad, aStore, lenT hx]; exact rfl) ?_ | fail)
    refine awOps_nil (hK _ _ ?_)
    clear hK K
    refine aw_block ?_
    refine AW.less (sl' := [(0, .av (.sc x)), (6, (_)), (25, .av (.sc x)), (26, vI ts.length), (27, vI (0))]) (AllIn.less ⟨rfl, rfl, rfl, rfl, rfl, trivial⟩) (aw_loop (fun k sl1 s1 => ∃ (i : Nat) (xo : Va) (out : List Cell), k = ts.length - i ∧ sl1 = [(0, .av (.sc x)), (6, (xo)), (25, .av (.sc x)), (26, vI ts.length), (27, vI (i))] ∧ (Kp s s1) ∧ (i ≤ ts.length ∧ out = (ts.take i).flatMap val) ∧ (AccL s.nx s1.nx s1.ob xo out.length 3 ((out.flatMap encC).map .sc))) (k := ts.length - (0)) ⟨0, _, [], rfl, rfl, ⟨(by first | omega | (dsimp only; omega) | (dsimp only at *; omega)), fun j hj => (hob7 j (by first | omega | (dsimp only; omega) | (dsimp only at *; omega))).trans (hs1.2.1 j hj), hs1.2.2⟩, ⟨Nat.zero_le _, rfl⟩, (hacc7.low (by first | omega | (dsimp only; omega) | (dsimp only at *; omega))).up (by first | omega | (dsimp only; omega) | (dsimp only at *; omega)) fun _ _ _ => rfl⟩ ?_)
    rintro k2 _ s2 ⟨i, xo, out, hk2, rfl, hs2, hb2, hacc⟩
    refine aw_region_seq C (pb := false) rfl fun K hK => ?_
    repeat' (first | refine awOps_yes (by rfl) (by rfl) (by rfl) (by simp  only [go_sem, ↓reduceIte, Nat.reduceEqDiff, reduceCtorEq, Nat.reduceAdd, Nat.reduceMul, Nat.reduceLeDiff, aLoad, aStore]; exact rfl) ?_ | refine awOps_no (by rfl) (by rfl) ?_ | refine awOps_yes0 (by rfl) (by rfl) (by rfl) (by simp  only [go_sem, ↓reduceIte, Nat.reduceEqDiff, reduceCtorEq, Nat.reduceAdd, Nat.reduceMul, Nat.reduceLeDiff, aLoad, aStore]; exact rfl) ?_ | fail)
    refine awOps_nil (hK _ _ ?_)
    clear hK K
    refine aw_seq ?_
    refine aw_cond (by rfl) ?_ ?_
    · intro hc2
      try simp only [decide_eq_true_eq, decide_eq_false_iff_not] at hc2
      have hi2 : i < ts.length := by omega
      have hvi := (hv ts[i] (List.getElem_mem hi2))
      have hol : out.length ≤ 100000000000 := by rw [hb2.2, lens_flat]; exact hvl _ (fun t ht => List.mem_of_mem_take ht) (by rw [List.length_take]; omega)
      refine aw_skip ?_
      simp only [thenA_normal, thenA_ret, thenA_exit, blockA_normal, blockA_ret, blockA_exit, ↓reduceIte, Nat.reduceEqDiff]
      refine aw_seq ?_
      refine aw_block ?_
      refine aw_region_seq C (pb := false) rfl fun K hK => ?_
      repeat' (first | refine awOps_yes (by rfl) (by rfl) (by rfl) (by simp  only [go_sem, ↓reduceIte, Nat.reduceEqDiff, reduceCtorEq, Nat.reduceAdd, Nat.reduceMul, Nat.reduceLeDiff, aLoad, aStore, idxT hx hi2]; exact rfl) ?_ | refine awOps_no (by rfl) (by rfl) ?_ | refine awOps_yes0 (by rfl) (by rfl) (by rfl) (by simp  only [go_sem, ↓reduceIte, Nat.reduceEqDiff, reduceCtorEq, Nat.reduceAdd, Nat.reduceMul, Nat.reduceLeDiff, aLoad, aStore, idxT hx hi2]; exact rfl) ?_ | fail)
      refine awOps_nil (hK _ _ ?_)
      clear hK K
      refine aw_region C (pb := false) rfl ?_
      repeat' (first | refine awOps_yes (by rfl) (by rfl) (by rfl) (by simp  only [go_sem, ↓reduceIte, Nat.reduceEqDiff, reduceCtorEq, Nat.reduceAdd, Nat.reduceMul, Nat.reduceLeDiff, aLoad, aStore]; exact rfl) ?_ | refine awOps_no (by rfl) (by rfl) ?_ | refine awOps_yes0 (by rfl) (by rfl) (by rfl) (by simp  only [go_sem, ↓reduceIte, Nat.reduceEqDiff, reduceCtorEq, Nat.reduceAdd, Nat.reduceMul, Nat.reduceLeDiff, aLoad, aStore]; exact rfl) ?_ | fail)
      refine awOps_appendL (by rfl) (by rfl) (by rfl) (by rfl) hacc T22 rfl T42 rfl (by simp) (by simp [y42]) (aSrc_g (enc := encC) (k := 3) (fun _ => rfl) hvi.1 _) (by simp [flat_len (enc := encC) (k := 3) (fun _ => rfl)]) (by omega) (by omega) (by have := hs2.1; omega) fun x6 ob6 hacc6 hlow6 => ?_
      repeat' (first | refine awOps_yes (by rfl) (by rfl) (by rfl) (by simp  only [go_sem, ↓reduceIte, Nat.reduceEqDiff, reduceCtorEq, Nat.reduceAdd, Nat.reduceMul, Nat.reduceLeDiff, aLoad, aStore]; exact rfl) ?_ | refine awOps_no (by rfl) (by rfl) ?_ | refine awOps_yes0 (by rfl) (by rfl) (by rfl) (by simp  only [go_sem, ↓reduceIte, Nat.reduceEqDiff, reduceCtorEq, Nat.reduceAdd, Nat.reduceMul, Nat.reduceLeDiff, aLoad, aStore]; exact rfl) ?_ | fail)
      refine awOps_nil ?_
      try simp only [thenA_normal, thenA_ret, thenA_exit, blockA_normal, blockA_ret, blockA_exit]
      refine aw_region C (pb := false) rfl ?_
      repeat' (first | refine awOps_yes (by rfl) (by rfl) (by rfl) (by simp  only [go_sem, ↓reduceIte, Nat.reduceEqDiff, reduceCtorEq, Nat.reduceAdd, Nat.reduceMul, Nat.reduceLeDiff, aLoad, aStore, wrap_small ((i : Int) + 1) (by omega) (by omega)]; exact rfl) ?_ | refine awOps_no (by rfl) (by rfl) ?_ | refine awOps_yes0 (by rfl) (by rfl) (by rfl) (by simp  only [go_sem, ↓reduceIte, Nat.reduceEqDiff, reduceCtorEq, Nat.reduceAdd, Nat.reduceMul, Nat.reduceLeDiff, aLoad, aStore, wrap_small ((i : Int) + 1) (by omega) (by omega)]; exact rfl) ?_ | fail)
      refine awOps_nil ?_
      try simp only [thenA_normal, thenA_ret, thenA_exit, blockA_normal, blockA_ret, blockA_exit]
      -- end of round 1 at 0f.x02t
      refine ⟨ts.length - (i + 1), [(0, .av (.sc x)), (6, (x6)), (25, .av (.sc x)), (26, vI ts.length), (27, vI (i + 1))], by omega, AllIn.less ⟨rfl, rfl, rfl, rfl, rfl, trivial⟩, i + 1, x6, out ++ val ts[i], rfl, rfl, ?_, ?_, ?_⟩
      · exact ⟨by have := hs2.1; exact (by first | omega | (dsimp only; omega) | (dsimp only at *; omega)), fun j hj => (hlow6 j hj).trans (hs2.2.1 j hj), hs2.2.2⟩
      · exact ⟨by omega, by rw [hb2.2, List.take_succ_eq_append_getElem hi2, List.flatMap_append]; simp⟩
      · simp only [List.length_append, List.flatMap_append, List.map_append]
        exact hacc6.up (by first | omega | (dsimp only; omega)) fun _ _ _ => rfl
    · intro hc2
      try simp only [decide_eq_true_eq, decide_eq_false_iff_not] at hc2
      refine aw_exit ?_
      simp only [thenA_normal, thenA_ret, thenA_exit, blockA_normal, blockA_ret, blockA_exit, ↓reduceIte, Nat.reduceEqDiff]
      obtain ⟨ty, ob9, hpv9, hty, hlow9⟩ := AccL.pure (enc := encC) (k := 3) (fun _ => rfl) hacc
      refine aw_pur 6 hpv9 ?_
      refine aw_region_seq C (pb := false) rfl fun K hK => ?_
      repeat' (first | refine awOps_yes (by rfl) (by rfl) (by rfl) (by simp  only [go_sem, ↓reduceIte, Nat.reduceEqDiff, reduceCtorEq, Nat.reduceAdd, Nat.reduceMul, Nat.reduceLeDiff, aLoad, aStore]; exact rfl) ?_ | refine awOps_no (by rfl) (by rfl) ?_ | refine awOps_yes0 (by rfl) (by rfl) (by rfl) (by simp  only [go_sem, ↓reduceIte, Nat.reduceEqDiff, reduceCtorEq, Nat.reduceAdd, Nat.reduceMul, Nat.reduceLeDiff, aLoad, aStore]; exact rfl) ?_ | fail)
      refine awOps_nil (hK _ _ ?_)
      clear hK K
      refine aw_ret ?_
      simp only [go_sem, ↓reduceIte, Nat.reduceEqDiff, reduceCtorEq, Nat.reduceAdd, Nat.reduceMul, Nat.reduceLeDiff, aLoad, aStore, FnQ, resA]
      -- 0f.x02f.x2.ret
      have hi3 : i = ts.length := by omega
      subst hi3
      rw [List.take_length] at hb2
      exact fun _ => ⟨rfl, fun j hj => (hlow9 j hj).trans (hs2.2.1 j hj), hs2.2.2, ty, rfl, by rw [← hb2.2]; exact hty⟩
end Go.Am.Seat
/-
  MADE BY PROGRAM (am.py): the walks of functions 13.
-/
namespace Go.Am.Seat
open Go.Proofs

theorem joinF_inv {t : List Cell} {nn : Nat} (ht : TOK t) (hnn : nn = t.length) : ∀ {F : Nat} {p : Nat → Nat} {D N : Nat → Int} {td : List (Nat × Nat)} {b : Bool} {p' : Nat → Nat} {D' N' : Nat → Int}, joinF t F p D N td = some (b, p', D', N') →
    (∀ i, i < nn → p i < nn) → (∀ i, i < nn → D i < nn) → (∀ ab ∈ td, ab.1 < nn ∧ ab.2 < nn) → (∀ i, i < nn → p' i < nn) ∧ (∀ i, i < nn → D' i < nn)
  | 0, _, _, _, _, _, _, _, _, h, _, _, _ => by simp [joinF] at h
  | F + 1, p, D, N, td, b, p', D', N', h, hp, hD, htd => by
    rcases List.eq_nil_or_concat td with rfl | ⟨td0, ab, rfl⟩
    · simp only [joinF, List.getLast?_nil, Option.some.injEq, Prod.mk.injEq] at h
      obtain ⟨_, rfl, rfl, _⟩ := h
      exact ⟨hp, hD⟩
    obtain ⟨a, c⟩ := ab
    rw [List.concat_eq_append] at h htd
    have hab := htd (a, c) (by simp)
    have htd0 : ∀ ab ∈ td0, ab.1 < nn ∧ ab.2 < nn := fun ab h => htd ab (by simp [h])
    simp only [joinF, List.getLast?_append, List.getLast?_singleton, Option.some_or, List.dropLast_concat] at h
    split at h
    · cases h
    rename_i x p1 h1
    split at h
    · cases h
    rename_i y p2 h2
    obtain ⟨hx, hp1⟩ := own1_lt h1 hab.1 hp
    obtain ⟨hy, hp2⟩ := own1_lt h2 hab.2 hp1
    have hp3 : ∀ i, i < nn → (upd p2 y x) i < nn := fun i hi => by
      by_cases h' : i = y
      · rw [h', upd_same]; exact hx
      · rw [upd_ne _ _ h']; exact hp2 i hi
    split at h
    · exact joinF_inv ht hnn h hp2 hD htd0
    split at h
    · exact joinF_inv ht hnn h hp3 hD htd0
    split at h
    · exact joinF_inv ht hnn h hp3 (fun i hi => by
        by_cases h' : i = x
        · rw [h', upd_same]; exact hD y hy
        · rw [upd_ne _ _ h']; exact hD i hi) htd0
    split at h
    · split at h
      · have hdx : (D x).toNat < t.length := by have := hD x hx; omega
        have hdy : (D y).toNat < t.length := by have := hD y hy; omega
        refine joinF_inv ht hnn h hp3 hD fun ab hab => ?_
        rcases List.mem_append.1 hab with h' | h'
        · exact htd0 ab h'
        · have := List.of_mem_zip (a := ab.1) (b := ab.2) h'
          rw [hnn]
          exact ⟨(partsN_lt ht hdx _ this.1).1, (partsN_lt ht hdy _ this.2).1⟩
      · simp only [Option.some.injEq, Prod.mk.injEq] at h
        obtain ⟨_, rfl, rfl, _⟩ := h
        exact ⟨hp3, hD⟩
    · cases h
def upN (t : List Cell) (i : Nat) : Nat := (upM t i).toNat
/-- The last place of a variable among the first i. -/
def lastB (t : List Cell) : Nat → Int → Option Nat
  | 0, _ => none
  | i + 1, n => match t[i]? with
    | some c => if c.kind = 1 ∧ c.n = n then some i else lastB t i n
    | none => lastB t i n
def bindL (t : List Cell) (D N : Nat → Int) (sz : Nat → Nat) (F : Nat) : List Nat → (Nat → Nat) → List (Nat × List Cell) → Option (List (Nat × List Cell) × Int)
  | [], _, out => some (out, 0)
  | n :: l, p, out => match lastB t t.length n with
    | none => bindL t D N sz F l p out
    | some a => match own1 F p a with
      | none => none
      | some (o, p1) => if D o < 0 ∧ N o = n then bindL t D N sz F l p1 out
        else if 200 < sz o then some ([], 2)
        else match termF t D N F p1 o with
          | none => none
          | some (c, p2) => if 1000000 < c.length then none else bindL t D N sz F l p2 (out ++ [(n, c)])
/-- What Mgu tells of two terms, one behind the other; the second one begins at k. -/
def mguR (F : Nat) (t : List Cell) (k : Nat) : Option (List (Nat × List Cell) × Int) :=
  match joinF t F (upN t) (doesM t) (nameM t) [(0, k)] with
  | none => none
  | some (ok, p1, D1, N1) => if ok = false then some ([], 3) else match ofAll t D1 F (List.range t.length) (st0 p1) with
    | none => none
    | some st => if st.fine = false then some ([], 3) else bindL t D1 N1 st.sz F (List.range 1000) st.p []
def bndOf (b : Nat × List Cell) : Bnd := ⟨(b.1 : Int), .sl b.2.length (b.2.flatMap encC)⟩
theorem flatC_inj : ∀ {l r : List Cell}, l.flatMap encC = r.flatMap encC → l = r
  | [], [], _ => rfl
  | [], c :: r, h => by simp [encC] at h
  | c :: l, [], h => by simp [encC] at h
  | ⟨k, n, i⟩ :: l, ⟨k', n', i'⟩ :: r, h => by
    simp only [List.flatMap_cons, encC, List.cons_append, List.nil_append, List.cons.injEq, Sc.int.injEq, Sc.str.injEq, true_and] at h
    obtain ⟨rfl, rfl, rfl, h⟩ := h
    rw [flatC_inj h]
theorem gsl_inj {x : Sc} {l r : List Cell} (h : GSl encC x l) (k : GSl encC x r) : l = r := by
  rcases h with ⟨rfl, rfl⟩ | rfl
  · rcases k with ⟨_, rfl⟩ | k
    · rfl
    · cases k
  · rcases k with ⟨k, _⟩ | k
    · cases k
    · simp only [Sc.sl.injEq] at k; exact flatC_inj k.2
theorem pur_two {ob : Nat → Obj} {k : Nat} {a b : Sc} (h : ob k = .cs [.sc a, .sc b] 0) : purV ob (.av (.own k 0 2 1)) = some (.av (.sc (.sl 2 [a, b])), upd ob k (.cs [.sc a, .sc b] 2)) := by
  simp [purV, purD, pur, h, purL]
theorem doesM_lt {t : List Cell} {i : Nat} (hi : i < t.length) : doesM t i < t.length := by
  rw [doesM, List.getElem?_eq_getElem hi]
  simp only
  split <;> omega
theorem upM_nat {t : List Cell} {i : Nat} : upM t i = ((upN t i : Nat) : Int) := by
  unfold upN upM
  split
  · split <;> simp
  · simp
theorem upN_lt {t : List Cell} {i : Nat} (hi : i < t.length) : upN t i < t.length := by
  unfold upN upM
  rw [List.getElem?_eq_getElem hi]
  simp only
  split
  · rename_i hk
    have := fstV_le hi hk
    omega
  · omega
theorem lastB_lt {t : List Cell} {n : Int} {k : Nat} : ∀ {i : Nat}, lastB t i n = some k → k < i ∧ k < t.length
  | 0, h => by simp [lastB] at h
  | i + 1, h => by
    simp only [lastB] at h
    split at h
    · rename_i c hc
      have := (List.getElem?_eq_some_iff.1 hc).1
      split at h
      · simp only [Option.some.injEq] at h; omega
      · have := lastB_lt h; omega
    · have := lastB_lt h; omega
def LastM (t : List Cell) (i : Nat) (ml : List (Int × Av)) : Prop := ∀ n, lkA ml n = (lastB t i n).map fun k => .sc (.int .i64 (k : Int))
/-- The state in Mgu. -/
structure MJ (s : Me) (x : Sc) (cid iu id iN n B : Nat) (p : Nat → Nat) (D N : Nat → Int) (s1 : Me) : Prop where
  kp : Kp s s1
  cl : CL s1.ob B x cid iu id iN n p D N
  lo : s.nx ≤ cid ∧ s.nx ≤ iu ∧ s.nx ≤ id ∧ s.nx ≤ iN ∧ B ≤ s1.nx
theorem MJ.frame {s s1 : Me} {x : Sc} {cid iu id iN n B : Nat} {p : Nat → Nat} {D N : Nat → Int} (h : MJ s x cid iu id iN n B p D N s1) {ob' : Nat → Obj} {m : Nat} (hm : s1.nx ≤ m) (ho : ∀ j, j < s.nx ∨ j = cid ∨ j = iu ∨ j = id ∨ j = iN → ob' j = s1.ob j) : MJ s x cid iu id iN n B p D N ⟨ob', m, s1.ls⟩ :=
  ⟨⟨Nat.le_trans h.kp.1 hm, fun j hj => (ho j (.inl hj)).trans (h.kp.2.1 j hj), h.kp.2.2⟩, h.cl.congr (fun j hj => ho j (.inr hj)) (Nat.le_refl _), by have := h.lo; dsimp only; omega⟩
theorem MJ.setU {s s1 : Me} {x : Sc} {cid iu id iN n B : Nat} {p : Nat → Nat} {D N : Nat → Int} (h : MJ s x cid iu id iN n B p D N s1) {m : Nat} (hm : s1.nx ≤ m) (p' : Nat → Nat) : MJ s x cid iu id iN n B p' D N ⟨upd s1.ob iu (.cs (arrN n p') 0), m, s1.ls⟩ :=
  ⟨⟨Nat.le_trans h.kp.1 hm, fun j hj => (upd_ne _ _ (by have := h.lo; omega)).trans (h.kp.2.1 j hj), h.kp.2.2⟩, h.cl.setU p', by have := h.lo; dsimp only; omega⟩

-- many steps
theorem bod13 : Try.f13.body = some (Try.f13.body.getD .skip) := rfl
set_option maxHeartbeats 4000000 in
theorem fn13 (L : Loops) (F : Nat) (a b : List Cell) (out : List (Nat × List Cell)) (e : Int) (s : Me) (sa sb : Sc) (ha : GSl encC sa a) (hb : GSl encC sb b) (hl : a.length ≤ 100000 ∧ b.length ≤ 100000) (hpos : 0 < a.length ∧ 0 < b.length) (ht : TOK (a ++ b)) (hF : F ≤ 1000000000) (ho : mguR F (a ++ b) a.length = some (out, e)) : FnL Try.prog L 13 [.av (.sc sa), .av (.sc sb)] s fun r s' => (∃ y, r = .tup [.av (.sc y), vI e] ∧ GSl encB y (out.map bndOf) ∧ (e ≠ 0 → y = .nilsl)) ∧ s' = s := by
  refine FnL.pure (R := fun r => ∃ y, r = .tup [.av (.sc y), vI e] ∧ GSl encB y (out.map bndOf) ∧ (e ≠ 0 → y = .nilsl)) ?_
  obtain ⟨t, hte⟩ : ∃ t, t = a ++ b := ⟨_, rfl⟩
  obtain ⟨nn, hnn⟩ : ∃ n, n = t.length := ⟨_, rfl⟩
  have hnl : nn = a.length + b.length := by rw [hnn, hte, List.length_append]
  rw [← hte] at ho ht
  unfold mguR at ho
  obtain ⟨⟨ok, p1, D1, N1⟩, hj⟩ : ∃ r, joinF t F (upN t) (doesM t) (nameM t) [(0, a.length)] = some r := by
    cases h : joinF t F (upN t) (doesM t) (nameM t) [(0, a.length)] with
    | none => rw [h] at ho; cases ho
    | some r => exact ⟨r, rfl⟩
  rw [hj] at ho
  dsimp only at ho
  obtain ⟨hp1, hD1⟩ := joinF_inv ht hnn hj (fun i hi => by rw [hnn]; exact upN_lt (by omega)) (fun i hi => by rw [hnn]; exact doesM_lt (by omega)) (fun ab h => by simp only [List.mem_singleton] at h; subst h; dsimp only; omega)
  refine fn_of_body (ts := [4, 5]) Try.func13 bod13 rfl (by simp) (by simp [Try.ntmps13]) fun D0 => ?_
  unfold Try.f13
  simp only [Option.getD_some, initSl]
  refine aw_region_seq C (pb := false) rfl fun K hK => ?_
  repeat' (first | refine awOps_yes (by rfl) (by rfl) (by rfl) (by simp  only [go_sem, ↓reduceIte, Nat.reduceEqDiff, reduceCtorEq, Nat.reduceAdd, Nat.reduceMul, Nat.reduceLeDiff, aLoad, aStore]; exact rfl) ?_ | refine awOps_no (by rfl) (by rfl) ?_ | refine awOps_yes0 (by rfl) (by rfl) (by rfl) (by simp  only [go_sem, ↓reduceIte, Nat.reduceEqDiff, reduceCtorEq, Nat.reduceAdd, Nat.reduceMul, Nat.reduceLeDiff, aLoad, aStore]; exact rfl) ?_ | fail)
  refine awOps_nil (hK _ _ ?_)
  clear hK K
  refine aw_region_seq C (pb := false) rfl fun K hK => ?_
  repeat' (first | refine awOps_yes (by rfl) (by rfl) (by rfl) (by simp  only [go_sem, ↓reduceIte, Nat.reduceEqDiff, reduceCtorEq, Nat.reduceAdd, Nat.reduceMul, Nat.reduceLeDiff, aLoad, aStore]; exact rfl) ?_ | refine awOps_no (by rfl) (by rfl) ?_ | refine awOps_yes0 (by rfl) (by rfl) (by rfl) (by simp  only [go_sem, ↓reduceIte, Nat.reduceEqDiff, reduceCtorEq, Nat.reduceAdd, Nat.reduceMul, Nat.reduceLeDiff, aLoad, aStore]; exact rfl) ?_ | fail)
  refine awOps_call (by rfl) (by rfl) (by rfl) (And.intro Try.call35 (FnL.pur (PurArgs.pur (pur_two (a := sa) (b := sb) (upd_same _ _ _)) PurArgs.nil) (fn35 L [sa, sb] (fun z => @ite _ (z = sa) (Classical.propDecidable _) a b) _ (.sl 2 [sa, sb]) (.inr rfl) (fun z hz => ?_) (by simp)))) ?_
  · by_cases h : z = sa
    · rw [if_pos h, h]; exact ⟨ha, by omega⟩
    · rw [if_neg h]; simp only [List.mem_cons, List.not_mem_nil, or_false] at hz; rcases hz with hz | hz; exact absurd hz h; rw [hz]; exact ⟨hb, by omega⟩
  rintro _ _ ⟨⟨x, rfl, hx0⟩, rfl⟩
  have hx : GSl encC x t := by
    have e1 : ([sa, sb].flatMap fun z => @ite _ (z = sa) (Classical.propDecidable _) a b) = t := by
      simp only [List.flatMap_cons, List.flatMap_nil, List.append_nil, if_pos]
      by_cases h : sb = sa
      · rw [if_pos h, hte, gsl_inj hb (h ▸ ha)]
      · rw [if_neg h, hte]
    rw [e1] at hx0; exact hx0
  refine awOps_call (by rfl) (by rfl) (by rfl) (And.intro Try.call34 (fn34 L t _ x hx (by omega))) ?_
  rintro _ s2 ⟨cid, mid, iu, id, iN, ml0, rfl, hMI⟩
  repeat' (first | refine awOps_yes (by rfl) (by rfl) (by rfl) (by simp  only [go_sem, ↓reduceIte, Nat.reduceEqDiff, reduceCtorEq, Nat.reduceAdd, Nat.reduceMul, Nat.reduceLeDiff, aLoad, aStore]; exact rfl) ?_ | refine awOps_no (by rfl) (by rfl) ?_ | refine awOps_yes0 (by rfl) (by rfl) (by rfl) (by simp  only [go_sem, ↓reduceIte, Nat.reduceEqDiff, reduceCtorEq, Nat.reduceAdd, Nat.reduceMul, Nat.reduceLeDiff, aLoad, aStore]; exact rfl) ?_ | fail)
  refine awOps_nil (hK _ _ ?_)
  refine AW.less (sl' := [(0, .av (.sc sa)), (1, .av (.sc sb)), (6, .av (.ptr cid 0))]) (AllIn.less ⟨rfl, rfl, rfl, trivial⟩) ?_
  have hMI' := hMI
  rw [← hnn] at hMI'
  have hne : nn ≠ 0 := by omega
  refine aw_state (J := fun s3 => MJ s x cid iu id iN nn s2.nx (upN t) (doesM t) (nameM t) s3) ⟨⟨by have := hMI.kp.1; dsimp only at this ⊢; omega, fun j hj => (hMI.kp.2.1 j ((by first | omega | (dsimp only; omega) | (dsimp only at *; omega)))).trans (by dsimp only; rw [upd_ne _ _ (by omega), upd_ne _ _ (by omega)]), hMI.kp.2.2⟩, ⟨by have := hMI'.c; rwa [slOf_pos hne, slOf_pos hne, slOf_pos hne] at this, (hMI'.u hne).trans (by rw [arrN]; congr 1; exact arr_congr fun i _ => upM_nat), hMI'.d hne, hMI'.n hne, by have := hMI'.dist; omega, by have := hMI'.hi; omega⟩, by have := hMI'.lo; dsimp only at this ⊢; omega⟩ fun s3 hJ3 => ?_
  have lo3 := hJ3.lo
  clear hK K
  refine aw_seq ?_
  refine aw_region_seq C (pb := false) rfl fun K hK => ?_
  repeat' (first | refine awOps_yes (by rfl) (by rfl) (by rfl) (by simp  only [go_sem, ↓reduceIte, Nat.reduceEqDiff, reduceCtorEq, Nat.reduceAdd, Nat.reduceMul, Nat.reduceLeDiff, aLoad, aStore, lenC ha]; exact rfl) ?_ | refine awOps_no (by rfl) (by rfl) ?_ | refine awOps_yes0 (by rfl) (by rfl) (by rfl) (by simp  only [go_sem, ↓reduceIte, Nat.reduceEqDiff, reduceCtorEq, Nat.reduceAdd, Nat.reduceMul, Nat.reduceLeDiff, aLoad, aStore, lenC ha]; exact rfl) ?_ | fail)
  refine awOps_call (by rfl) (by rfl) (by rfl) (And.intro Try.call36 (fn36 L F nn 0 a.length t (upN t) (doesM t) (nameM t) cid iu id iN (ok, p1, D1, N1) _ x hx (by omega) hnn ht hF (hJ3.cl.congr (fun _ _ => rfl) ((by first | omega | (dsimp only; omega) | (dsimp only at *; omega)))) ⟨by omega, by omega⟩ (fun i hi => by rw [hnn]; exact upN_lt (by omega)) (fun i hi => by rw [hnn]; exact doesM_lt (by omega)) hj)) ?_
  rintro _ _ ⟨ob5, ⟨rfl, hcl5, hold5⟩, rfl⟩
  repeat' (first | refine awOps_yes (by rfl) (by rfl) (by rfl) (by simp  only [go_sem, ↓reduceIte, Nat.reduceEqDiff, reduceCtorEq, Nat.reduceAdd, Nat.reduceMul, Nat.reduceLeDiff, aLoad, aStore, lenC ha]; exact rfl) ?_ | refine awOps_no (by rfl) (by rfl) ?_ | refine awOps_yes0 (by rfl) (by rfl) (by rfl) (by simp  only [go_sem, ↓reduceIte, Nat.reduceEqDiff, reduceCtorEq, Nat.reduceAdd, Nat.reduceMul, Nat.reduceLeDiff, aLoad, aStore, lenC ha]; exact rfl) ?_ | fail)
  refine awOps_nil (hK _ _ ?_)
  refine AW.less (sl' := [(6, .av (.ptr cid 0)), (26, vB (!ok))]) (AllIn.less ⟨rfl, rfl, trivial⟩) ?_
  refine aw_state (J := fun s4 => MJ s x cid iu id iN nn (s3.nx + 4) p1 D1 N1 s4) ⟨⟨by have := hJ3.kp.1; dsimp only; omega, fun j hj => (hold5 j (by have := hJ3.kp.1; dsimp only; omega) (by omega) (by omega) (by omega)).trans (hJ3.kp.2.1 j hj), hJ3.kp.2.2⟩, hcl5, (by first | omega | (dsimp only; omega) | (dsimp only at *; omega))⟩ fun s4 hJ4 => ?_
  have lo4 := hJ4.lo
  have hiB := hJ4.cl.hi
  clear hK K
  refine aw_cond (by rfl) ?_ ?_
  · intro hc0
    have hok : ok = false := by cases ok; rfl; cases hc0
    rw [if_pos hok] at ho
    refine aw_region_seq C (pb := false) rfl fun K hK => ?_
    repeat' (first | refine awOps_yes (by rfl) (by rfl) (by rfl) (by simp  only [go_sem, ↓reduceIte, Nat.reduceEqDiff, reduceCtorEq, Nat.reduceAdd, Nat.reduceMul, Nat.reduceLeDiff, aLoad, aStore]; exact rfl) ?_ | refine awOps_no (by rfl) (by rfl) ?_ | refine awOps_yes0 (by rfl) (by rfl) (by rfl) (by simp  only [go_sem, ↓reduceIte, Nat.reduceEqDiff, reduceCtorEq, Nat.reduceAdd, Nat.reduceMul, Nat.reduceLeDiff, aLoad, aStore]; exact rfl) ?_ | fail)
    refine awOps_nil (hK _ _ ?_)
    clear hK K
    refine aw_ret ?_
    try simp only [thenA_normal, thenA_ret, thenA_exit, blockA_normal, blockA_ret, blockA_exit]
    simp only [go_sem, ↓reduceIte, Nat.reduceEqDiff, reduceCtorEq, Nat.reduceAdd, Nat.reduceMul, Nat.reduceLeDiff, aLoad, aStore, FnQ, resA]
    -- 0t.ret
    simp only [Option.some.injEq, Prod.mk.injEq] at ho
    obtain ⟨rfl, rfl⟩ := ho
    exact fun _ => ⟨rfl, hJ4.kp.2.1, hJ4.kp.2.2, .nilsl, rfl, .inl ⟨rfl, rfl⟩, fun _ => rfl⟩
  · intro hc0
    have hok : ¬ ok = false := by cases ok; cases hc0; exact fun h => by cases h
    rw [if_neg hok] at ho
    obtain ⟨st, hst⟩ : ∃ r, ofAll t D1 F (List.range t.length) (st0 p1) = some r := by
      cases h : ofAll t D1 F (List.range t.length) (st0 p1) with
      | none => rw [h] at ho; cases ho
      | some r => exact ⟨r, rfl⟩
    rw [hst] at ho
    dsimp only at ho
    rw [← hnn] at hst
    obtain ⟨hps, hss⟩ := ofAll_inv ht hnn hD1 hst (fun q hq => List.mem_range.1 hq) hp1 (fun _ => Nat.zero_le _)
    obtain ⟨SZ0, hSZ⟩ : ∃ z : Sc, z = .sl nn ((List.range nn).map fun i => .int .i64 (st.sz i : Int)) := ⟨_, rfl⟩
    have hgz : GSl encI SZ0 ((List.range nn).map fun i => (st.sz i : Int)) := by rw [hSZ]; exact arr_gsl
    refine aw_skip ?_
    simp only [thenA_normal, thenA_ret, thenA_exit, blockA_normal, blockA_ret, blockA_exit, ↓reduceIte, Nat.reduceEqDiff]
    refine aw_region_seq C (pb := false) rfl fun K hK => ?_
    repeat' (first | refine awOps_yes (by rfl) (by rfl) (by rfl) (by simp  only [go_sem, ↓reduceIte, Nat.reduceEqDiff, reduceCtorEq, Nat.reduceAdd, Nat.reduceMul, Nat.reduceLeDiff, aLoad, aStore]; exact rfl) ?_ | refine awOps_no (by rfl) (by rfl) ?_ | refine awOps_yes0 (by rfl) (by rfl) (by rfl) (by simp  only [go_sem, ↓reduceIte, Nat.reduceEqDiff, reduceCtorEq, Nat.reduceAdd, Nat.reduceMul, Nat.reduceLeDiff, aLoad, aStore]; exact rfl) ?_ | fail)
    refine awOps_call (by rfl) (by rfl) (by rfl) (And.intro Try.call37 (fn37 L F nn t p1 D1 N1 cid iu id iN st _ x hx (by omega) hnn ht (hJ4.cl.congr (fun _ _ => rfl) ((by first | omega | (dsimp only; omega) | (dsimp only at *; omega)))) hp1 hD1 hst)) ?_
    rintro _ _ ⟨_, ⟨rfl, rfl⟩, rfl⟩
    rw [← hSZ]
    repeat' (first | refine awOps_yes (by rfl) (by rfl) (by rfl) (by simp  only [go_sem, ↓reduceIte, Nat.reduceEqDiff, reduceCtorEq, Nat.reduceAdd, Nat.reduceMul, Nat.reduceLeDiff, aLoad, aStore]; exact rfl) ?_ | refine awOps_no (by rfl) (by rfl) ?_ | refine awOps_yes0 (by rfl) (by rfl) (by rfl) (by simp  only [go_sem, ↓reduceIte, Nat.reduceEqDiff, reduceCtorEq, Nat.reduceAdd, Nat.reduceMul, Nat.reduceLeDiff, aLoad, aStore]; exact rfl) ?_ | fail)
    refine awOps_nil (hK _ _ ?_)
    refine AW.less (sl' := [(6, .av (.ptr cid 0)), (7, .av (.sc SZ0)), (8, vB st.fine)]) (AllIn.less ⟨rfl, rfl, rfl, trivial⟩) ?_
    refine aw_state (J := fun s5 => MJ s x cid iu id iN nn (s3.nx + 4) st.p D1 N1 s5) (hJ4.setU (by first | omega | (dsimp only; omega) | (dsimp only at *; omega)) st.p) fun s5 hJ5 => ?_
    have lo5 := hJ5.lo
    clear hK K
    refine aw_seq ?_
    refine aw_region_seq C (pb := false) rfl fun K hK => ?_
    repeat' (first | refine awOps_yes (by rfl) (by rfl) (by rfl) (by simp  only [go_sem, ↓reduceIte, Nat.reduceEqDiff, reduceCtorEq, Nat.reduceAdd, Nat.reduceMul, Nat.reduceLeDiff, aLoad, aStore]; exact rfl) ?_ | refine awOps_no (by rfl) (by rfl) ?_ | refine awOps_yes0 (by rfl) (by rfl) (by rfl) (by simp  only [go_sem, ↓reduceIte, Nat.reduceEqDiff, reduceCtorEq, Nat.reduceAdd, Nat.reduceMul, Nat.reduceLeDiff, aLoad, aStore]; exact rfl) ?_ | fail)
    refine awOps_nil (hK _ _ ?_)
    clear hK K
    refine aw_cond (by rfl) ?_ ?_
    · intro hc1
      have hfi : st.fine = false := by cases h : st.fine; rfl; rw [h] at hc1; cases hc1
      rw [if_pos hfi] at ho
      refine aw_region_seq C (pb := false) rfl fun K hK => ?_
      repeat' (first | refine awOps_yes (by rfl) (by rfl) (by rfl) (by simp  only [go_sem, ↓reduceIte, Nat.reduceEqDiff, reduceCtorEq, Nat.reduceAdd, Nat.reduceMul, Nat.reduceLeDiff, aLoad, aStore]; exact rfl) ?_ | refine awOps_no (by rfl) (by rfl) ?_ | refine awOps_yes0 (by rfl) (by rfl) (by rfl) (by simp  only [go_sem, ↓reduceIte, Nat.reduceEqDiff, reduceCtorEq, Nat.reduceAdd, Nat.reduceMul, Nat.reduceLeDiff, aLoad, aStore]; exact rfl) ?_ | fail)
      refine awOps_nil (hK _ _ ?_)
      clear hK K
      refine aw_ret ?_
      try simp only [thenA_normal, thenA_ret, thenA_exit, blockA_normal, blockA_ret, blockA_exit]
      simp only [go_sem, ↓reduceIte, Nat.reduceEqDiff, reduceCtorEq, Nat.reduceAdd, Nat.reduceMul, Nat.reduceLeDiff, aLoad, aStore, FnQ, resA]
      -- 0f1t.ret
      simp only [Option.some.injEq, Prod.mk.injEq] at ho
      obtain ⟨rfl, rfl⟩ := ho
      exact fun _ => ⟨rfl, hJ5.kp.2.1, hJ5.kp.2.2, .nilsl, rfl, .inl ⟨rfl, rfl⟩, fun _ => rfl⟩
    · intro hc1
      have hfi : ¬ st.fine = false := by intro h; rw [h] at hc1; cases hc1
      rw [if_neg hfi] at ho
      refine aw_skip ?_
      simp only [thenA_normal, thenA_ret, thenA_exit, blockA_normal, blockA_ret, blockA_exit, ↓reduceIte, Nat.reduceEqDiff]
      refine aw_region_seq C (pb := false) rfl fun K hK => ?_
      repeat' (first | refine awOps_yes (by rfl) (by rfl) (by rfl) (by simp  only [go_sem, ↓reduceIte, Nat.reduceEqDiff, reduceCtorEq, Nat.reduceAdd, Nat.reduceMul, Nat.reduceLeDiff, aLoad, aStore]; exact rfl) ?_ | refine awOps_no (by rfl) (by rfl) ?_ | refine awOps_yes0 (by rfl) (by rfl) (by rfl) (by simp  only [go_sem, ↓reduceIte, Nat.reduceEqDiff, reduceCtorEq, Nat.reduceAdd, Nat.reduceMul, Nat.reduceLeDiff, aLoad, aStore]; exact rfl) ?_ | fail)
      refine awOps_nil (hK _ _ ?_)
      clear hK K
      refine aw_seq ?_
      refine aw_region_seq C (pb := false) rfl fun K hK => ?_
      repeat' (first | refine awOps_yes (by rfl) (by rfl) (by rfl) (by simp  only [go_sem, ↓reduceIte, Nat.reduceEqDiff, reduceCtorEq, Nat.reduceAdd, Nat.reduceMul, Nat.reduceLeDiff, aLoad, aStore, show upd s5.ob (s5.nx + 2) (.mp []) cid = _ from (upd_ne _ _ (by have := hJ5.cl.hi; omega)).trans hJ5.cl.c, lenC hx, ← hnn]; exact rfl) ?_ | refine awOps_no (by rfl) (by rfl) ?_ | refine awOps_yes0 (by rfl) (by rfl) (by rfl) (by simp  only [go_sem, ↓reduceIte, Nat.reduceEqDiff, reduceCtorEq, Nat.reduceAdd, Nat.reduceMul, Nat.reduceLeDiff, aLoad, aStore, show upd s5.ob (s5.nx + 2) (.mp []) cid = _ from (upd_ne _ _ (by have := hJ5.cl.hi; omega)).trans hJ5.cl.c, lenC hx, ← hnn]; exact rfl) ?_ | fail)
      refine awOps_nil (hK _ _ ?_)
      refine AW.less (sl' := [(6, .av (.ptr cid 0)), (7, .av (.sc SZ0)), (9, .av (.map (s5.nx + 2))), (38, .av (.sc x)), (39, vI nn), (40, vI 0)]) (AllIn.less ⟨rfl, rfl, rfl, rfl, rfl, rfl, trivial⟩) ?_
      clear hK K
      refine aw_block ?_
      refine AW.less (sl' := [(6, .av (.ptr cid 0)), (7, .av (.sc SZ0)), (9, .av (.map (s5.nx + 2))), (38, .av (.sc x)), (39, vI nn), (40, vI (0))]) (AllIn.less ⟨rfl, rfl, rfl, rfl, rfl, rfl, trivial⟩) (aw_loop (fun k sl1 s1 => ∃ (i : Nat) (ml : List (Int × Av)), k = nn - i ∧ sl1 = [(6, .av (.ptr cid 0)), (7, .av (.sc SZ0)), (9, .av (.map (s5.nx + 2))), (38, .av (.sc x)), (39, vI nn), (40, vI (i))] ∧ (MJ s x cid iu id iN nn (s3.nx + 4) st.p D1 N1 s1 ∧ s1.ob (s5.nx + 2) = .mp (mapA ml) ∧ s5.nx + 2 < s1.nx) ∧ (i ≤ nn) ∧ (LastM t i ml)) (k := nn - (0)) ⟨0, [], rfl, rfl, ⟨hJ5.frame (by first | omega | (dsimp only; omega) | (dsimp only at *; omega)) (fun j hj => upd_ne _ _ (by have := hJ5.kp.1; omega)), upd_same _ _ _, (by first | omega | (dsimp only; omega) | (dsimp only at *; omega))⟩, Nat.zero_le _, fun n => rfl⟩ ?_)
      rintro k1 _ s1 ⟨i, ml, hk1, rfl, hs1, hb2, hf⟩
      refine aw_region_seq C (pb := false) rfl fun K hK => ?_
      repeat' (first | refine awOps_yes (by rfl) (by rfl) (by rfl) (by simp  only [go_sem, ↓reduceIte, Nat.reduceEqDiff, reduceCtorEq, Nat.reduceAdd, Nat.reduceMul, Nat.reduceLeDiff, aLoad, aStore]; exact rfl) ?_ | refine awOps_no (by rfl) (by rfl) ?_ | refine awOps_yes0 (by rfl) (by rfl) (by rfl) (by simp  only [go_sem, ↓reduceIte, Nat.reduceEqDiff, reduceCtorEq, Nat.reduceAdd, Nat.reduceMul, Nat.reduceLeDiff, aLoad, aStore]; exact rfl) ?_ | fail)
      refine awOps_nil (hK _ _ ?_)
      clear hK K
      refine aw_seq ?_
      refine aw_cond (by rfl) ?_ ?_
      · intro hc2
        try simp only [decide_eq_true_eq, decide_eq_false_iff_not] at hc2
        have hi2 : i < t.length := by omega
        have hm1 := hs1.2.2
        refine aw_skip ?_
        simp only [thenA_normal, thenA_ret, thenA_exit, blockA_normal, blockA_ret, blockA_exit, ↓reduceIte, Nat.reduceEqDiff]
        refine aw_seq ?_
        refine aw_block ?_
        refine aw_region_seq C (pb := false) rfl fun K hK => ?_
        repeat' (first | refine awOps_yes (by rfl) (by rfl) (by rfl) (by simp (disch := omega) only [go_sem, ↓reduceIte, Nat.reduceEqDiff, reduceCtorEq, Nat.reduceAdd, Nat.reduceMul, Nat.reduceLeDiff, aLoad, aStore, idxC hx hi2]; exact rfl) ?_ | refine awOps_no (by rfl) (by rfl) ?_ | refine awOps_yes0 (by rfl) (by rfl) (by rfl) (by simp (disch := omega) only [go_sem, ↓reduceIte, Nat.reduceEqDiff, reduceCtorEq, Nat.reduceAdd, Nat.reduceMul, Nat.reduceLeDiff, aLoad, aStore, idxC hx hi2]; exact rfl) ?_ | fail)
        refine awOps_nil (hK _ _ ?_)
        refine AW.less (sl' := [(6, .av (.ptr cid 0)), (7, .av (.sc SZ0)), (9, .av (.map (s5.nx + 2))), (38, .av (.sc x)), (39, vI nn), (40, vI i), (10, vI i), (11, .av (.ptr (s1.nx + 4) 0))]) (AllIn.less ⟨rfl, rfl, rfl, rfl, rfl, rfl, rfl, rfl, trivial⟩) ?_
        refine aw_state (J := fun s6 => MJ s x cid iu id iN nn (s3.nx + 4) st.p D1 N1 s6 ∧ s6.ob (s5.nx + 2) = .mp (mapA ml) ∧ s6.ob (s1.nx + 4) = .cs [.sc (.int .i64 t[i].kind), .sc (.str t[i].name), .sc (.int .i64 t[i].n)] 0 ∧ s1.nx + 4 < s6.nx) ⟨hs1.1.frame (by first | omega | (dsimp only; omega) | (dsimp only at *; omega)) (fun j hj => (upd_ne _ _ (by omega)).trans (upd_ne _ _ (by omega))), (upd_ne _ _ (by omega)).trans ((upd_ne _ _ (by omega)).trans hs1.2.1), upd_same _ _ _, (by first | omega | (dsimp only; omega) | (dsimp only at *; omega))⟩ fun s6 hJ6 => ?_
        obtain ⟨hJ6, hm6, hx6, hn6⟩ := hJ6
        clear hK K
        refine aw_region_seq C (pb := false) rfl fun K hK => ?_
        repeat' (first | refine awOps_yes (by rfl) (by rfl) (by rfl) (by simp  only [go_sem, ↓reduceIte, Nat.reduceEqDiff, reduceCtorEq, Nat.reduceAdd, Nat.reduceMul, Nat.reduceLeDiff, aLoad, aStore, hx6]; exact rfl) ?_ | refine awOps_no (by rfl) (by rfl) ?_ | refine awOps_yes0 (by rfl) (by rfl) (by rfl) (by simp  only [go_sem, ↓reduceIte, Nat.reduceEqDiff, reduceCtorEq, Nat.reduceAdd, Nat.reduceMul, Nat.reduceLeDiff, aLoad, aStore, hx6]; exact rfl) ?_ | fail)
        refine awOps_nil (hK _ _ ?_)
        clear hK K
        refine aw_cond (by rfl) ?_ ?_
        · intro hc3
          try simp only [beq_iff_eq, beq_eq_false_iff_ne, ne_eq] at hc3
          refine aw_region C (pb := false) rfl ?_
          repeat' (first | refine awOps_yes (by rfl) (by rfl) (by rfl) (by simp (disch := omega) only [go_sem, ↓reduceIte, Nat.reduceEqDiff, reduceCtorEq, Nat.reduceAdd, Nat.reduceMul, Nat.reduceLeDiff, aLoad, aStore, hx6, mapUpdA T61 rfl T3 rfl hm6]; exact rfl) ?_ | refine awOps_no (by rfl) (by rfl) ?_ | refine awOps_yes0 (by rfl) (by rfl) (by rfl) (by simp (disch := omega) only [go_sem, ↓reduceIte, Nat.reduceEqDiff, reduceCtorEq, Nat.reduceAdd, Nat.reduceMul, Nat.reduceLeDiff, aLoad, aStore, hx6, mapUpdA T61 rfl T3 rfl hm6]; exact rfl) ?_ | fail)
          refine awOps_nil ?_
          refine aw_state (J := fun s7 => MJ s x cid iu id iN nn (s3.nx + 4) st.p D1 N1 s7 ∧ s7.ob (s5.nx + 2) = .mp (mapA (setA ml t[i].n (.sc (.int .i64 (i : Int))))) ∧ s5.nx + 2 < s7.nx) ⟨hJ6.frame (by first | omega | (dsimp only; omega) | (dsimp only at *; omega)) (fun j hj => upd_ne _ _ (by omega)), upd_same _ _ _, (by first | omega | (dsimp only; omega) | (dsimp only at *; omega))⟩ fun s7 hJ7 => ?_
          try simp only [thenA_normal, thenA_ret, thenA_exit, blockA_normal, blockA_ret, blockA_exit]
          refine aw_region C (pb := false) rfl ?_
          repeat' (first | refine awOps_yes (by rfl) (by rfl) (by rfl) (by simp  only [go_sem, ↓reduceIte, Nat.reduceEqDiff, reduceCtorEq, Nat.reduceAdd, Nat.reduceMul, Nat.reduceLeDiff, aLoad, aStore, wrap_small ((i : Int) + 1) (by omega) (by omega)]; exact rfl) ?_ | refine awOps_no (by rfl) (by rfl) ?_ | refine awOps_yes0 (by rfl) (by rfl) (by rfl) (by simp  only [go_sem, ↓reduceIte, Nat.reduceEqDiff, reduceCtorEq, Nat.reduceAdd, Nat.reduceMul, Nat.reduceLeDiff, aLoad, aStore, wrap_small ((i : Int) + 1) (by omega) (by omega)]; exact rfl) ?_ | fail)
          refine awOps_nil ?_
          try simp only [thenA_normal, thenA_ret, thenA_exit, blockA_normal, blockA_ret, blockA_exit]
          -- end of round 0 at 0f1f2t3t
          refine ⟨nn - (i + 1), [(6, .av (.ptr cid 0)), (7, .av (.sc SZ0)), (9, .av (.map (s5.nx + 2))), (38, .av (.sc x)), (39, vI nn), (40, vI (i + 1))], by omega, AllIn.less ⟨rfl, rfl, rfl, rfl, rfl, rfl, trivial⟩, i + 1, setA ml t[i].n (.sc (.int .i64 (i : Int))), rfl, rfl, ?_, ?_, ?_⟩
          · exact ⟨hJ7.1.frame (by first | omega | (dsimp only; omega) | (dsimp only at *; omega)) (fun _ _ => rfl), hJ7.2.1, by have := hJ7.2.2; exact (by first | omega | (dsimp only; omega) | (dsimp only at *; omega))⟩
          · omega
          · intro n
            rw [lk_setA, hf n, lastB, List.getElem?_eq_getElem hi2]
            dsimp only
            by_cases h : n = t[i].n
            · rw [if_pos h, if_pos ⟨hc3, h.symm⟩]; rfl
            · rw [if_neg h, if_neg (fun h' => h h'.2.symm)]
        · intro hc3
          try simp only [beq_iff_eq, beq_eq_false_iff_ne, ne_eq] at hc3
          refine aw_skip ?_
          simp only [thenA_normal, thenA_ret, thenA_exit, blockA_normal, blockA_ret, blockA_exit, ↓reduceIte, Nat.reduceEqDiff]
          refine aw_region C (pb := false) rfl ?_
          repeat' (first | refine awOps_yes (by rfl) (by rfl) (by rfl) (by simp  only [go_sem, ↓reduceIte, Nat.reduceEqDiff, reduceCtorEq, Nat.reduceAdd, Nat.reduceMul, Nat.reduceLeDiff, aLoad, aStore, wrap_small ((i : Int) + 1) (by omega) (by omega)]; exact rfl) ?_ | refine awOps_no (by rfl) (by rfl) ?_ | refine awOps_yes0 (by rfl) (by rfl) (by rfl) (by simp  only [go_sem, ↓reduceIte, Nat.reduceEqDiff, reduceCtorEq, Nat.reduceAdd, Nat.reduceMul, Nat.reduceLeDiff, aLoad, aStore, wrap_small ((i : Int) + 1) (by omega) (by omega)]; exact rfl) ?_ | fail)
          refine awOps_nil ?_
          try simp only [thenA_normal, thenA_ret, thenA_exit, blockA_normal, blockA_ret, blockA_exit]
          -- end of round 0 at 0f1f2t3f
          refine ⟨nn - (i + 1), [(6, .av (.ptr cid 0)), (7, .av (.sc SZ0)), (9, .av (.map (s5.nx + 2))), (38, .av (.sc x)), (39, vI nn), (40, vI (i + 1))], by omega, AllIn.less ⟨rfl, rfl, rfl, rfl, rfl, rfl, trivial⟩, i + 1, ml, rfl, rfl, ?_, ?_, ?_⟩
          · exact ⟨hJ6.frame (by first | omega | (dsimp only; omega) | (dsimp only at *; omega)) (fun _ _ => rfl), hm6, (by first | omega | (dsimp only; omega) | (dsimp only at *; omega))⟩
          · omega
          · intro n
            rw [hf n, lastB, List.getElem?_eq_getElem hi2]
            dsimp only
            rw [if_neg (fun h' => hc3 h'.1)]
      · intro hc2
        try simp only [decide_eq_true_eq, decide_eq_false_iff_not] at hc2
        have hin : i = nn := by omega
        rw [hin] at hf
        have hm1 := hs1.2.2
        refine aw_exit ?_
        simp only [thenA_normal, thenA_ret, thenA_exit, blockA_normal, blockA_ret, blockA_exit, ↓reduceIte, Nat.reduceEqDiff]
        refine aw_region_seq C (pb := false) rfl fun K hK => ?_
        repeat' (first | refine awOps_yes (by rfl) (by rfl) (by rfl) (by simp  only [go_sem, ↓reduceIte, Nat.reduceEqDiff, reduceCtorEq, Nat.reduceAdd, Nat.reduceMul, Nat.reduceLeDiff, aLoad, aStore]; exact rfl) ?_ | refine awOps_no (by rfl) (by rfl) ?_ | refine awOps_yes0 (by rfl) (by rfl) (by rfl) (by simp  only [go_sem, ↓reduceIte, Nat.reduceEqDiff, reduceCtorEq, Nat.reduceAdd, Nat.reduceMul, Nat.reduceLeDiff, aLoad, aStore]; exact rfl) ?_ | fail)
        refine awOps_nil (hK _ _ ?_)
        clear hK K
        refine aw_seq ?_
        refine aw_region_seq C (pb := false) rfl fun K hK => ?_
        repeat' (first | refine awOps_yes (by rfl) (by rfl) (by rfl) (by simp  only [go_sem, ↓reduceIte, Nat.reduceEqDiff, reduceCtorEq, Nat.reduceAdd, Nat.reduceMul, Nat.reduceLeDiff, aLoad, aStore]; exact rfl) ?_ | refine awOps_no (by rfl) (by rfl) ?_ | refine awOps_yes0 (by rfl) (by rfl) (by rfl) (by simp  only [go_sem, ↓reduceIte, Nat.reduceEqDiff, reduceCtorEq, Nat.reduceAdd, Nat.reduceMul, Nat.reduceLeDiff, aLoad, aStore]; exact rfl) ?_ | fail)
        refine awOps_nil (hK _ _ ?_)
        clear hK K
        refine aw_block ?_
        obtain ⟨B2, hB2e⟩ : ∃ k, k = s1.nx := ⟨_, rfl⟩
        have hB2l : s5.nx + 2 < B2 := by omega
        refine AW.less (sl' := [(6, .av (.ptr cid 0)), (7, .av (.sc SZ0)), (9, .av (.map (s5.nx + 2))), (12, (_)), (53, vI (0))]) (AllIn.less ⟨rfl, rfl, rfl, rfl, rfl, trivial⟩) (aw_loop (fun k sl1 s1 => ∃ (kc : Nat) (p : Nat → Nat) (xo : Va) (outl : List (Nat × List Cell)), k = 1000 - kc ∧ sl1 = [(6, .av (.ptr cid 0)), (7, .av (.sc SZ0)), (9, .av (.map (s5.nx + 2))), (12, (xo)), (53, vI (kc))] ∧ (MJ s x cid iu id iN nn (s3.nx + 4) p D1 N1 s1 ∧ s1.ob (s5.nx + 2) = .mp (mapA ml) ∧ Acc B2 s1.nx s1.ob xo outl.length 2 ((outl.flatMap fun b => encB (bndOf b)).map .sc) ∧ B2 ≤ s1.nx) ∧ (kc ≤ 1000 ∧ (∀ i, i < nn → p i < nn) ∧ outl.length ≤ kc) ∧ (bindL t D1 N1 st.sz F ((List.range 1000).drop kc) p outl = some (out, e))) (k := 1000 - (0)) ⟨0, st.p, _, [], rfl, rfl, ⟨hs1.1.frame (by first | omega | (dsimp only; omega) | (dsimp only at *; omega)) (fun _ _ => rfl), hs1.2.1, .inl ⟨rfl, rfl, rfl⟩, (by first | omega | (dsimp only; omega) | (dsimp only at *; omega))⟩, ⟨Nat.zero_le _, hps, Nat.zero_le _⟩, by rw [List.drop_zero]; exact ho⟩ ?_)
        rintro k2 _ s2 ⟨kc, p, xo, outl, hk2, rfl, hs2, hb3, h3⟩
        refine aw_region_seq C (pb := false) rfl fun K hK => ?_
        repeat' (first | refine awOps_yes (by rfl) (by rfl) (by rfl) (by simp  only [go_sem, ↓reduceIte, Nat.reduceEqDiff, reduceCtorEq, Nat.reduceAdd, Nat.reduceMul, Nat.reduceLeDiff, aLoad, aStore]; exact rfl) ?_ | refine awOps_no (by rfl) (by rfl) ?_ | refine awOps_yes0 (by rfl) (by rfl) (by rfl) (by simp  only [go_sem, ↓reduceIte, Nat.reduceEqDiff, reduceCtorEq, Nat.reduceAdd, Nat.reduceMul, Nat.reduceLeDiff, aLoad, aStore]; exact rfl) ?_ | fail)
        refine awOps_nil (hK _ _ ?_)
        clear hK K
        refine aw_seq ?_
        refine aw_cond (by rfl) ?_ ?_
        · intro hc4
          try simp only [decide_eq_true_eq, decide_eq_false_iff_not] at hc4
          have hk4 : kc < 1000 := by omega
          rw [List.drop_eq_getElem_cons (by rw [List.length_range]; exact hk4), List.getElem_range, bindL, ← hnn] at h3
          have hB2 := hs2.2.2.2
          refine aw_skip ?_
          simp only [thenA_normal, thenA_ret, thenA_exit, blockA_normal, blockA_ret, blockA_exit, ↓reduceIte, Nat.reduceEqDiff]
          refine aw_seq ?_
          refine aw_block ?_
          refine aw_region_seq C (pb := false) rfl fun K hK => ?_
          repeat' (first | refine awOps_yes (by rfl) (by rfl) (by rfl) (by simp  only [go_sem, ↓reduceIte, Nat.reduceEqDiff, reduceCtorEq, Nat.reduceAdd, Nat.reduceMul, Nat.reduceLeDiff, aLoad, aStore]; exact rfl) ?_ | refine awOps_no (by rfl) (by rfl) ?_ | refine awOps_yes0 (by rfl) (by rfl) (by rfl) (by simp  only [go_sem, ↓reduceIte, Nat.reduceEqDiff, reduceCtorEq, Nat.reduceAdd, Nat.reduceMul, Nat.reduceLeDiff, aLoad, aStore]; exact rfl) ?_ | fail)
          refine awOps_nil (hK _ _ ?_)
          clear hK K
          refine aw_region_seq C (pb := false) rfl fun K hK => ?_
          repeat' (first | refine awOps_yes (by rfl) (by rfl) (by rfl) (by simp  only [go_sem, ↓reduceIte, Nat.reduceEqDiff, reduceCtorEq, Nat.reduceAdd, Nat.reduceMul, Nat.reduceLeDiff, aLoad, aStore, lookA T61 rfl T3 rfl T3 rfl rfl hs2.2.1]; exact rfl) ?_ | refine awOps_no (by rfl) (by rfl) ?_ | refine awOps_yes0 (by rfl) (by rfl) (by rfl) (by simp  only [go_sem, ↓reduceIte, Nat.reduceEqDiff, reduceCtorEq, Nat.reduceAdd, Nat.reduceMul, Nat.reduceLeDiff, aLoad, aStore, lookA T61 rfl T3 rfl T3 rfl rfl hs2.2.1]; exact rfl) ?_ | fail)
          refine awOps_nil (hK _ _ ?_)
          clear hK K
          refine aw_seq ?_
          refine aw_region_seq C (pb := false) rfl fun K hK => ?_
          repeat' (first | refine awOps_yes (by rfl) (by rfl) (by rfl) (by simp  only [go_sem, ↓reduceIte, Nat.reduceEqDiff, reduceCtorEq, Nat.reduceAdd, Nat.reduceMul, Nat.reduceLeDiff, aLoad, aStore]; exact rfl) ?_ | refine awOps_no (by rfl) (by rfl) ?_ | refine awOps_yes0 (by rfl) (by rfl) (by rfl) (by simp  only [go_sem, ↓reduceIte, Nat.reduceEqDiff, reduceCtorEq, Nat.reduceAdd, Nat.reduceMul, Nat.reduceLeDiff, aLoad, aStore]; exact rfl) ?_ | fail)
          refine awOps_nil (hK _ _ ?_)
          clear hK K
          refine aw_cond (by rfl) ?_ ?_
          · intro hc5
            have hnone : lastB t nn kc = none := by
              have := hf kc
              cases h : lastB t nn kc with
              | none => rfl
              | some k => rw [h] at this; rw [this] at hc5; cases hc5
            rw [hnone] at h3
            dsimp only at h3
            refine aw_exit ?_
            simp only [thenA_normal, thenA_ret, thenA_exit, blockA_normal, blockA_ret, blockA_exit, ↓reduceIte, Nat.reduceEqDiff]
            refine aw_region C (pb := false) rfl ?_
            repeat' (first | refine awOps_yes (by rfl) (by rfl) (by rfl) (by simp  only [go_sem, ↓reduceIte, Nat.reduceEqDiff, reduceCtorEq, Nat.reduceAdd, Nat.reduceMul, Nat.reduceLeDiff, aLoad, aStore, wrap_small ((kc : Int) + 1) (by omega) (by omega)]; exact rfl) ?_ | refine awOps_no (by rfl) (by rfl) ?_ | refine awOps_yes0 (by rfl) (by rfl) (by rfl) (by simp  only [go_sem, ↓reduceIte, Nat.reduceEqDiff, reduceCtorEq, Nat.reduceAdd, Nat.reduceMul, Nat.reduceLeDiff, aLoad, aStore, wrap_small ((kc : Int) + 1) (by omega) (by omega)]; exact rfl) ?_ | fail)
            refine awOps_nil ?_
            try simp only [thenA_normal, thenA_ret, thenA_exit, blockA_normal, blockA_ret, blockA_exit]
            -- end of round 1 at 0f1f2f.x04t5t.x3
            refine ⟨1000 - (kc + 1), [(6, .av (.ptr cid 0)), (7, .av (.sc SZ0)), (9, .av (.map (s5.nx + 2))), (12, (xo)), (53, vI (kc + 1))], by omega, AllIn.less ⟨rfl, rfl, rfl, rfl, rfl, trivial⟩, kc + 1, p, xo, outl, rfl, rfl, ?_, ?_, ?_⟩
            · exact ⟨hs2.1.frame (by first | omega | (dsimp only; omega) | (dsimp only at *; omega)) (fun _ _ => rfl), hs2.2.1, hs2.2.2.1.up (by first | omega | (dsimp only; omega) | (dsimp only at *; omega)) fun _ _ _ => rfl, (by first | omega | (dsimp only; omega) | (dsimp only at *; omega))⟩
            · exact ⟨by omega, hb3.2.1, by omega⟩
            · exact h3
          · intro hc5
            obtain ⟨ar, har⟩ : ∃ k, lastB t nn kc = some k := by
              have := hf kc
              cases h : lastB t nn kc with
              | none => rw [h] at this; rw [this] at hc5; cases hc5
              | some k => exact ⟨k, rfl⟩
            have hlk : lkA ml (kc : Int) = some (.sc (.int .i64 (ar : Int))) := by rw [hf kc, har]; rfl
            have har1 : ar < nn := (lastB_lt har).1
            rw [har] at h3
            dsimp only at h3
            obtain ⟨⟨orr, p2⟩, ho2⟩ : ∃ r, own1 F p ar = some r := by
              cases h : own1 F p ar with
              | none => rw [h] at h3; cases h3
              | some r => exact ⟨r, rfl⟩
            rw [ho2] at h3
            dsimp only at h3
            obtain ⟨ho1, hp2⟩ := own1_lt ho2 har1 hb3.2.1
            refine aw_skip ?_
            simp only [thenA_normal, thenA_ret, thenA_exit, blockA_normal, blockA_ret, blockA_exit, ↓reduceIte, Nat.reduceEqDiff]
            refine aw_region_seq C (pb := false) rfl fun K hK => ?_
            repeat' (first | refine awOps_yes (by rfl) (by rfl) (by rfl) (by simp  only [go_sem, ↓reduceIte, Nat.reduceEqDiff, reduceCtorEq, Nat.reduceAdd, Nat.reduceMul, Nat.reduceLeDiff, aLoad, aStore, hlk, Option.getD_some]; exact rfl) ?_ | refine awOps_no (by rfl) (by rfl) ?_ | refine awOps_yes0 (by rfl) (by rfl) (by rfl) (by simp  only [go_sem, ↓reduceIte, Nat.reduceEqDiff, reduceCtorEq, Nat.reduceAdd, Nat.reduceMul, Nat.reduceLeDiff, aLoad, aStore, hlk, Option.getD_some]; exact rfl) ?_ | fail)
            refine awOps_call (by rfl) (by rfl) (by rfl) (And.intro Try.call38 (fn38 L F nn ar orr p p2 cid iu (.sc x) (.own id 0 nn 1) (.own iN 0 nn 1) _ (by have := hs2.1.cl.hi; have := hs2.1.lo; dsimp only; omega) (by have := hs2.1.cl.hi; have := hs2.1.lo; dsimp only; omega) hs2.1.cl.dist.1 hs2.1.cl.c hs2.1.cl.u har1 hb3.2.1 ho2)) ?_
            rintro _ _ ⟨rfl, rfl⟩
            repeat' (first | refine awOps_yes (by rfl) (by rfl) (by rfl) (by simp  only [go_sem, ↓reduceIte, Nat.reduceEqDiff, reduceCtorEq, Nat.reduceAdd, Nat.reduceMul, Nat.reduceLeDiff, aLoad, aStore, hlk, Option.getD_some]; exact rfl) ?_ | refine awOps_no (by rfl) (by rfl) ?_ | refine awOps_yes0 (by rfl) (by rfl) (by rfl) (by simp  only [go_sem, ↓reduceIte, Nat.reduceEqDiff, reduceCtorEq, Nat.reduceAdd, Nat.reduceMul, Nat.reduceLeDiff, aLoad, aStore, hlk, Option.getD_some]; exact rfl) ?_ | fail)
            refine awOps_nil (hK _ _ ?_)
            refine AW.less (sl' := [(6, .av (.ptr cid 0)), (7, .av (.sc SZ0)), (9, .av (.map (s5.nx + 2))), (12, xo), (53, vI kc), (13, vI kc), (16, vI orr)]) (AllIn.less ⟨rfl, rfl, rfl, rfl, rfl, rfl, rfl, trivial⟩) ?_
            refine aw_state (J := fun s8 => MJ s x cid iu id iN nn (s3.nx + 4) p2 D1 N1 s8 ∧ s8.ob (s5.nx + 2) = .mp (mapA ml) ∧ Acc B2 s8.nx s8.ob xo outl.length 2 ((outl.flatMap fun b => encB (bndOf b)).map .sc) ∧ B2 ≤ s8.nx) ⟨hs2.1.setU (by first | omega | (dsimp only; omega) | (dsimp only at *; omega)) p2, (upd_ne _ _ (by omega)).trans hs2.2.1, hs2.2.2.1.up (by first | omega | (dsimp only; omega) | (dsimp only at *; omega)) (fun j h1 h2 => upd_ne _ _ (by omega)), (by first | omega | (dsimp only; omega) | (dsimp only at *; omega))⟩ fun s8 hJ8 => ?_
            obtain ⟨hJ8, hm8, hac8, hn8⟩ := hJ8
            have lo8 := hJ8.lo
            clear hK K
            refine aw_seq ?_
            refine aw_block ?_
            refine aw_cut_seq C (pb := false) [(6, .av (.ptr cid 0)), (7, .av (.sc SZ0)), (9, .av (.map (s5.nx + 2))), (12, xo), (53, vI kc), (13, vI kc), (16, vI orr), (67, vB ((decide (D1 orr < 0)) && (N1 orr == (kc : Int))))] rfl ?_ fun n21 hn21 => ?_
            · cases hA0 : (decide (D1 orr < 0) : Bool) <;> cases hA1 : (N1 orr == (kc : Int) : Bool)
              all_goals (repeat' (first | refine awOps_yes (by rfl) (by rfl) (by rfl) (by simp  only [go_sem, ↓reduceIte, Nat.reduceEqDiff, reduceCtorEq, Nat.reduceAdd, Nat.reduceMul, Nat.reduceLeDiff, ldA hJ8.cl.c, ixO ho1, ldO hJ8.cl.d ho1, ldO hJ8.cl.n ho1, hA0, hA1]; exact rfl) ?_ | refine awOps_no (by rfl) (by rfl) ?_ | refine awOps_yes0 (by rfl) (by rfl) (by rfl) (by simp  only [go_sem, ↓reduceIte, Nat.reduceEqDiff, reduceCtorEq, Nat.reduceAdd, Nat.reduceMul, Nat.reduceLeDiff, ldA hJ8.cl.c, ixO ho1, ldO hJ8.cl.d ho1, ldO hJ8.cl.n ho1, hA0, hA1]; exact rfl) ?_ | fail))
              all_goals (exact awOps_nil ⟨⟨rfl, rfl, rfl, rfl, rfl, rfl, rfl, rfl, trivial⟩, rfl, (by first | omega | (dsimp only; omega)), rfl⟩)
            refine aw_cond (by rfl) ?_ ?_
            · intro hc6
              try simp only [Bool.and_eq_true, decide_eq_true_eq, beq_iff_eq, Bool.and_eq_false_imp, beq_eq_false_iff_ne, ne_eq] at hc6
              have hc6' : D1 orr < 0 ∧ N1 orr = kc := ⟨hc6.1, hc6.2⟩
              rw [if_pos hc6'] at h3
              refine aw_exit ?_
              simp only [thenA_normal, thenA_ret, thenA_exit, blockA_normal, blockA_ret, blockA_exit, ↓reduceIte, Nat.reduceEqDiff]
              refine aw_region C (pb := false) rfl ?_
              repeat' (first | refine awOps_yes (by rfl) (by rfl) (by rfl) (by simp  only [go_sem, ↓reduceIte, Nat.reduceEqDiff, reduceCtorEq, Nat.reduceAdd, Nat.reduceMul, Nat.reduceLeDiff, aLoad, aStore, wrap_small ((kc : Int) + 1) (by omega) (by omega)]; exact rfl) ?_ | refine awOps_no (by rfl) (by rfl) ?_ | refine awOps_yes0 (by rfl) (by rfl) (by rfl) (by simp  only [go_sem, ↓reduceIte, Nat.reduceEqDiff, reduceCtorEq, Nat.reduceAdd, Nat.reduceMul, Nat.reduceLeDiff, aLoad, aStore, wrap_small ((kc : Int) + 1) (by omega) (by omega)]; exact rfl) ?_ | fail)
              refine awOps_nil ?_
              try simp only [thenA_normal, thenA_ret, thenA_exit, blockA_normal, blockA_ret, blockA_exit]
              -- end of round 1 at 0f1f2f.x04t5f6t.x3
              refine ⟨1000 - (kc + 1), [(6, .av (.ptr cid 0)), (7, .av (.sc SZ0)), (9, .av (.map (s5.nx + 2))), (12, (xo)), (53, vI (kc + 1))], by omega, AllIn.less ⟨rfl, rfl, rfl, rfl, rfl, trivial⟩, kc + 1, p2, xo, outl, rfl, rfl, ?_, ?_, ?_⟩
              · exact ⟨hJ8.frame (by first | omega | (dsimp only; omega) | (dsimp only at *; omega)) (fun _ _ => rfl), hm8, hac8.up (by first | omega | (dsimp only; omega) | (dsimp only at *; omega)) fun _ _ _ => rfl, (by first | omega | (dsimp only; omega) | (dsimp only at *; omega))⟩
              · exact ⟨by omega, hp2, by omega⟩
              · exact h3
            · intro hc6
              try simp only [Bool.and_eq_true, decide_eq_true_eq, beq_iff_eq, Bool.and_eq_false_imp, beq_eq_false_iff_ne, ne_eq] at hc6
              have hc6' : ¬ (D1 orr < 0 ∧ N1 orr = kc) := fun h => hc6 h.1 h.2
              rw [if_neg hc6'] at h3
              have hszo : ((List.range nn).map fun i => (st.sz i : Int))[orr]'(by rw [List.length_map, List.length_range]; exact ho1) = (st.sz orr : Int) := by simp
              refine aw_region_seq C (pb := false) rfl fun K hK => ?_
              repeat' (first | refine awOps_yes (by rfl) (by rfl) (by rfl) (by simp  only [go_sem, ↓reduceIte, Nat.reduceEqDiff, reduceCtorEq, Nat.reduceAdd, Nat.reduceMul, Nat.reduceLeDiff, aLoad, aStore, idxI hgz (i := orr) (by rw [List.length_map, List.length_range]; exact ho1), hszo]; exact rfl) ?_ | refine awOps_no (by rfl) (by rfl) ?_ | refine awOps_yes0 (by rfl) (by rfl) (by rfl) (by simp  only [go_sem, ↓reduceIte, Nat.reduceEqDiff, reduceCtorEq, Nat.reduceAdd, Nat.reduceMul, Nat.reduceLeDiff, aLoad, aStore, idxI hgz (i := orr) (by rw [List.length_map, List.length_range]; exact ho1), hszo]; exact rfl) ?_ | fail)
              refine awOps_nil (hK _ _ ?_)
              clear hK K
              refine aw_cond (by rfl) ?_ ?_
              · intro hc7
                try simp only [decide_eq_true_eq, decide_eq_false_iff_not] at hc7
                have hc7' : 200 < st.sz orr := by omega
                rw [if_pos hc7'] at h3
                refine aw_region_seq C (pb := false) rfl fun K hK => ?_
                repeat' (first | refine awOps_yes (by rfl) (by rfl) (by rfl) (by simp  only [go_sem, ↓reduceIte, Nat.reduceEqDiff, reduceCtorEq, Nat.reduceAdd, Nat.reduceMul, Nat.reduceLeDiff, aLoad, aStore]; exact rfl) ?_ | refine awOps_no (by rfl) (by rfl) ?_ | refine awOps_yes0 (by rfl) (by rfl) (by rfl) (by simp  only [go_sem, ↓reduceIte, Nat.reduceEqDiff, reduceCtorEq, Nat.reduceAdd, Nat.reduceMul, Nat.reduceLeDiff, aLoad, aStore]; exact rfl) ?_ | fail)
                refine awOps_nil (hK _ _ ?_)
                clear hK K
                refine aw_ret ?_
                try simp only [thenA_normal, thenA_ret, thenA_exit, blockA_normal, blockA_ret, blockA_exit]
                simp only [go_sem, ↓reduceIte, Nat.reduceEqDiff, reduceCtorEq, Nat.reduceAdd, Nat.reduceMul, Nat.reduceLeDiff, aLoad, aStore, FnQ, resA]
                -- 0f1f2f.x04t5f6f7t.ret
                simp only [Option.some.injEq, Prod.mk.injEq] at h3
                obtain ⟨rfl, rfl⟩ := h3
                exact fun _ => ⟨rfl, hJ8.kp.2.1, hJ8.kp.2.2, .nilsl, rfl, .inl ⟨rfl, rfl⟩, fun _ => rfl⟩
              · intro hc7
                try simp only [decide_eq_true_eq, decide_eq_false_iff_not] at hc7
                have hc7' : ¬ 200 < st.sz orr := by omega
                rw [if_neg hc7'] at h3
                obtain ⟨⟨cc, p3⟩, ho3⟩ : ∃ r, termF t D1 N1 F p2 orr = some r := by
                  cases h : termF t D1 N1 F p2 orr with
                  | none => rw [h] at h3; cases h3
                  | some r => exact ⟨r, rfl⟩
                rw [ho3] at h3
                dsimp only at h3
                have hcl : ¬ 1000000 < cc.length := by intro h; rw [if_pos h] at h3; cases h3
                rw [if_neg hcl] at h3
                have hp3 := termF_inv ht hnn hD1 ho3 ho1 hp2
                refine aw_skip ?_
                simp only [thenA_normal, thenA_ret, thenA_exit, blockA_normal, blockA_ret, blockA_exit, ↓reduceIte, Nat.reduceEqDiff]
                refine aw_region C (pb := false) rfl ?_
                repeat' (first | refine awOps_yes (by rfl) (by rfl) (by rfl) (by simp  only [go_sem, ↓reduceIte, Nat.reduceEqDiff, reduceCtorEq, Nat.reduceAdd, Nat.reduceMul, Nat.reduceLeDiff, aLoad, aStore, pl38]; exact rfl) ?_ | refine awOps_no (by rfl) (by rfl) ?_ | refine awOps_yes0 (by rfl) (by rfl) (by rfl) (by simp  only [go_sem, ↓reduceIte, Nat.reduceEqDiff, reduceCtorEq, Nat.reduceAdd, Nat.reduceMul, Nat.reduceLeDiff, aLoad, aStore, pl38]; exact rfl) ?_ | fail)
                refine awOps_call (by rfl) (by rfl) (by rfl) (And.intro Try.call39 (fn39 hx (by omega) hnn ht hD1 F L _ cid iu id iN orr p2 p3 cc (hJ8.cl.congr (fun _ _ => rfl) ((by first | omega | (dsimp only; omega) | (dsimp only at *; omega)))) ho1 hp2 (by omega) ho3)) ?_
                rintro _ _ ⟨rfl, rfl⟩
                repeat' (first | refine awOps_yes (by rfl) (by rfl) (by rfl) (by simp  only [go_sem, ↓reduceIte, Nat.reduceEqDiff, reduceCtorEq, Nat.reduceAdd, Nat.reduceMul, Nat.reduceLeDiff, aLoad, aStore, pl38]; exact rfl) ?_ | refine awOps_no (by rfl) (by rfl) ?_ | refine awOps_yes0 (by rfl) (by rfl) (by rfl) (by simp  only [go_sem, ↓reduceIte, Nat.reduceEqDiff, reduceCtorEq, Nat.reduceAdd, Nat.reduceMul, Nat.reduceLeDiff, aLoad, aStore, pl38]; exact rfl) ?_ | fail)
                refine awOps_append (by rfl) (by rfl) (by rfl) (by rfl) (hac8.up (hi' := s8.nx) (Nat.le_refl _) (fun j h1 h2 => (upd_ne _ _ (by omega)).trans (upd_ne _ _ (by omega)))) T25 rfl T39 rfl (by simp) (by simp [y39]) (k := 1) (new := (encB (bndOf (kc, cc))).map .sc) (by simp [aSrc, evA, get, upd, zeroA, zerosA, encB, bndOf, storeL, List.range, List.range.loop]) (by simp [encB]) (by first | omega | (dsimp only; omega) | (dsimp only at *; omega)) (by first | omega | (dsimp only; omega) | (dsimp only at *; omega)) (by first | omega | (dsimp only; omega) | (dsimp only at *; omega)) fun x9 ob9 hacc9 hlow9 _ => ?_
                repeat' (first | refine awOps_yes (by rfl) (by rfl) (by rfl) (by simp  only [go_sem, ↓reduceIte, Nat.reduceEqDiff, reduceCtorEq, Nat.reduceAdd, Nat.reduceMul, Nat.reduceLeDiff, aLoad, aStore, pl38]; exact rfl) ?_ | refine awOps_no (by rfl) (by rfl) ?_ | refine awOps_yes0 (by rfl) (by rfl) (by rfl) (by simp  only [go_sem, ↓reduceIte, Nat.reduceEqDiff, reduceCtorEq, Nat.reduceAdd, Nat.reduceMul, Nat.reduceLeDiff, aLoad, aStore, pl38]; exact rfl) ?_ | fail)
                refine awOps_nil ?_
                try simp only [thenA_normal, thenA_ret, thenA_exit, blockA_normal, blockA_ret, blockA_exit]
                refine aw_region C (pb := false) rfl ?_
                repeat' (first | refine awOps_yes (by rfl) (by rfl) (by rfl) (by simp  only [go_sem, ↓reduceIte, Nat.reduceEqDiff, reduceCtorEq, Nat.reduceAdd, Nat.reduceMul, Nat.reduceLeDiff, aLoad, aStore, wrap_small ((kc : Int) + 1) (by omega) (by omega)]; exact rfl) ?_ | refine awOps_no (by rfl) (by rfl) ?_ | refine awOps_yes0 (by rfl) (by rfl) (by rfl) (by simp  only [go_sem, ↓reduceIte, Nat.reduceEqDiff, reduceCtorEq, Nat.reduceAdd, Nat.reduceMul, Nat.reduceLeDiff, aLoad, aStore, wrap_small ((kc : Int) + 1) (by omega) (by omega)]; exact rfl) ?_ | fail)
                refine awOps_nil ?_
                try simp only [thenA_normal, thenA_ret, thenA_exit, blockA_normal, blockA_ret, blockA_exit]
                -- end of round 1 at 0f1f2f.x04t5f6f7f
                refine ⟨1000 - (kc + 1), [(6, .av (.ptr cid 0)), (7, .av (.sc SZ0)), (9, .av (.map (s5.nx + 2))), (12, (x9)), (53, vI (kc + 1))], by omega, AllIn.less ⟨rfl, rfl, rfl, rfl, rfl, trivial⟩, kc + 1, p3, x9, outl ++ [(kc, cc)], rfl, rfl, ?_, ?_, ?_⟩
                · exact ⟨(hJ8.setU (m := s8.nx) (Nat.le_refl _) p3).frame (by first | omega | (dsimp only; omega) | (dsimp only at *; omega)) (fun j hj => (hlow9 j (by omega)).trans (upd_ne _ _ (by omega))), (hlow9 _ (by omega)).trans ((upd_ne _ _ (by omega)).trans ((upd_ne _ _ (by omega)).trans hm8)), (by simp only [List.length_append, List.length_cons, List.length_nil, List.flatMap_append, List.flatMap_cons, List.flatMap_nil, List.append_nil, List.map_append]; exact hacc9.up (by first | omega | (dsimp only; omega) | (dsimp only at *; omega)) fun _ _ _ => rfl), (by first | omega | (dsimp only; omega) | (dsimp only at *; omega))⟩
                · exact ⟨by omega, hp3, by simp only [List.length_append, List.length_cons, List.length_nil]; omega⟩
                · exact h3
        · intro hc4
          try simp only [decide_eq_true_eq, decide_eq_false_iff_not] at hc4
          refine aw_exit ?_
          simp only [thenA_normal, thenA_ret, thenA_exit, blockA_normal, blockA_ret, blockA_exit, ↓reduceIte, Nat.reduceEqDiff]
          have hk : kc = 1000 := by omega
          rw [hk, List.drop_of_length_le (by rw [List.length_range]; exact Nat.le_refl _), bindL] at h3
          have hB2 := hs2.2.2.2
          have hac := hs2.2.2.1
          rw [show (outl.flatMap fun b => encB (bndOf b)) = (outl.map bndOf).flatMap encB by rw [List.flatMap_map], show outl.length = (outl.map bndOf).length by rw [List.length_map]] at hac
          obtain ⟨ty, ob7, hpv7, hty, hacc7, hlow7, _⟩ := Acc.pure (enc := encB) (k := 2) (fun _ => rfl) hac
          refine aw_pur 12 hpv7 ?_
          refine aw_region_seq C (pb := false) rfl fun K hK => ?_
          repeat' (first | refine awOps_yes (by rfl) (by rfl) (by rfl) (by simp  only [go_sem, ↓reduceIte, Nat.reduceEqDiff, reduceCtorEq, Nat.reduceAdd, Nat.reduceMul, Nat.reduceLeDiff, aLoad, aStore]; exact rfl) ?_ | refine awOps_no (by rfl) (by rfl) ?_ | refine awOps_yes0 (by rfl) (by rfl) (by rfl) (by simp  only [go_sem, ↓reduceIte, Nat.reduceEqDiff, reduceCtorEq, Nat.reduceAdd, Nat.reduceMul, Nat.reduceLeDiff, aLoad, aStore]; exact rfl) ?_ | fail)
          refine awOps_nil (hK _ _ ?_)
          clear hK K
          refine aw_ret ?_
          simp only [go_sem, ↓reduceIte, Nat.reduceEqDiff, reduceCtorEq, Nat.reduceAdd, Nat.reduceMul, Nat.reduceLeDiff, aLoad, aStore, FnQ, resA]
          -- 0f1f2f.x04f.x2.ret
          simp only [Option.some.injEq, Prod.mk.injEq] at h3
          obtain ⟨rfl, rfl⟩ := h3
          exact fun _ => ⟨rfl, fun j hj => (hlow7 j (by have := hs2.1.kp.1; omega)).trans (hs2.1.kp.2.1 j hj), hs2.1.kp.2.2, ty, rfl, hty, fun h => absurd rfl h⟩
end Go.Am.Seat
/-
  MADE BY PROGRAM (am.py): the walks of functions 84.
-/
namespace Go.Am.Seat
open Go.Proofs
theorem bod84 : Try.f84.body = some (Try.f84.body.getD .skip) := rfl
theorem fn84 (L : Loops) (n a b : Int) (s : Me)  : FnL Try.prog L 84 [vI n, vI a, vI b] s fun r s' => (r = vB (decide (n ≥ a) && decide (n ≤ b))) ∧ s' = s := by
  refine FnL.pure (R := fun r => r = vB (decide (n ≥ a) && decide (n ≤ b))) ?_
  refine fn_of_body (ts := [6]) Try.func84 bod84 rfl (by simp) (by simp [Try.ntmps84]) fun D0 => ?_
  unfold Try.f84
  simp only [Option.getD_some, initSl]
  refine aw_region_seq C (pb := false) rfl fun K hK => ?_
  repeat' (first | refine awOps_yes (by rfl) (by rfl) (by rfl) (by simp  only [go_sem, ↓reduceIte, Nat.reduceEqDiff, reduceCtorEq, Nat.reduceAdd, Nat.reduceMul, Nat.reduceLeDiff, aLoad, aStore]; exact rfl) ?_ | refine awOps_no (by rfl) (by rfl) ?_ | refine awOps_yes0 (by rfl) (by rfl) (by rfl) (by simp  only [go_sem, ↓reduceIte, Nat.reduceEqDiff, reduceCtorEq, Nat.reduceAdd, Nat.reduceMul, Nat.reduceLeDiff, aLoad, aStore]; exact rfl) ?_ | fail)
  refine awOps_nil (hK _ _ ?_)
  clear hK K
  refine aw_cut_seq C (pb := false) [(6, vB (decide (n ≥ a) && decide (n ≤ b)))] rfl ?_ fun n1 hn1 => ?_
  · cases hA0 : (decide (n ≥ a) : Bool) <;> cases hA1 : (decide (n ≤ b) : Bool)
    all_goals (repeat' (first | refine awOps_yes (by rfl) (by rfl) (by rfl) (by simp  only [go_sem, ↓reduceIte, Nat.reduceEqDiff, reduceCtorEq, Nat.reduceAdd, Nat.reduceMul, Nat.reduceLeDiff, aLoad, aStore, hA0, hA1]; exact rfl) ?_ | refine awOps_no (by rfl) (by rfl) ?_ | refine awOps_yes0 (by rfl) (by rfl) (by rfl) (by simp  only [go_sem, ↓reduceIte, Nat.reduceEqDiff, reduceCtorEq, Nat.reduceAdd, Nat.reduceMul, Nat.reduceLeDiff, aLoad, aStore, hA0, hA1]; exact rfl) ?_ | fail))
    all_goals (exact awOps_nil ⟨⟨rfl, trivial⟩, rfl, (by first | omega | (dsimp only; omega)), rfl⟩)
  refine aw_ret ?_
  simp only [go_sem, ↓reduceIte, Nat.reduceEqDiff, reduceCtorEq, Nat.reduceAdd, Nat.reduceMul, Nat.reduceLeDiff, aLoad, aStore, FnQ, resA]
  -- .ret
  exact fun _ => ⟨by first | rfl | trivial, by first | exact fun _ _ => rfl | trivial, by first | rfl | trivial, by first | rfl | trivial⟩
theorem fn84t (L : Loops) (n a b : Int) (s : Me) (h : a ≤ n ∧ n ≤ b) : FnL Try.prog L 84 [vI n, vI a, vI b] s fun r s' => r = vB true ∧ s' = s :=
  FnL.mono (fn84 L n a b s) fun r s' ⟨h1, h2⟩ => ⟨by rw [h1, decide_eq_true (show n ≥ a from h.1), decide_eq_true h.2]; rfl, h2⟩
end Go.Am.Seat
/-
  MADE BY PROGRAM (am.py): the walks of functions 106.
-/
namespace Go.Am.Seat
open Go.Proofs
theorem bod106 : Try.f106.body = some (Try.f106.body.getD .skip) := rfl
theorem fn106 (L : Loops) (n : Int) (s : Me) (hn : 32 ≤ n ∧ n ≤ 126 ∧ n ≠ 39) : FnL Try.prog L 106 [.av (.sc (.int .i32 n))] s fun r s' => (r = vB false) ∧ s' = s := by
  refine FnL.pure (R := fun r => r = vB false) ?_
  refine fn_of_body (ts := [2]) Try.func106 bod106 rfl (by simp) (by simp [Try.ntmps106]) fun D0 => ?_
  unfold Try.f106
  simp only [Option.getD_some, initSl]
  refine aw_region_seq C (pb := false) rfl fun K hK => ?_
  repeat' (first | refine awOps_yes (by rfl) (by rfl) (by rfl) (by simp  only [go_sem, ↓reduceIte, Nat.reduceEqDiff, reduceCtorEq, Nat.reduceAdd, Nat.reduceMul, Nat.reduceLeDiff, aLoad, aStore]; exact rfl) ?_ | refine awOps_no (by rfl) (by rfl) ?_ | refine awOps_yes0 (by rfl) (by rfl) (by rfl) (by simp  only [go_sem, ↓reduceIte, Nat.reduceEqDiff, reduceCtorEq, Nat.reduceAdd, Nat.reduceMul, Nat.reduceLeDiff, aLoad, aStore]; exact rfl) ?_ | fail)
  refine awOps_nil (hK _ _ ?_)
  clear hK K
  refine aw_region_seq C (pb := false) rfl fun K hK => ?_
  repeat' (first | refine awOps_yes (by rfl) (by rfl) (by rfl) (by simp  only [go_sem, ↓reduceIte, Nat.reduceEqDiff, reduceCtorEq, Nat.reduceAdd, Nat.reduceMul, Nat.reduceLeDiff, aLoad, aStore, show decide (n < 32) = false from decide_eq_false (by omega), show decide (n > 126) = false from decide_eq_false (by omega), show (n == 39) = false from beq_eq_false_iff_ne.2 hn.2.2]; exact rfl) ?_ | refine awOps_no (by rfl) (by rfl) ?_ | refine awOps_yes0 (by rfl) (by rfl) (by rfl) (by simp  only [go_sem, ↓reduceIte, Nat.reduceEqDiff, reduceCtorEq, Nat.reduceAdd, Nat.reduceMul, Nat.reduceLeDiff, aLoad, aStore, show decide (n < 32) = false from decide_eq_false (by omega), show decide (n > 126) = false from decide_eq_false (by omega), show (n == 39) = false from beq_eq_false_iff_ne.2 hn.2.2]; exact rfl) ?_ | fail)
  refine awOps_nil (hK _ _ ?_)
  clear hK K
  refine aw_ret ?_
  simp only [go_sem, ↓reduceIte, Nat.reduceEqDiff, reduceCtorEq, Nat.reduceAdd, Nat.reduceMul, Nat.reduceLeDiff, aLoad, aStore, FnQ, resA]
  -- .ret
  exact fun _ => ⟨by first | rfl | trivial, by first | exact fun _ _ => rfl | trivial, by first | rfl | trivial, by first | rfl | trivial⟩
end Go.Am.Seat
/-
  MADE BY PROGRAM (am.py): the walks of functions 109.
-/
namespace Go.Am.Seat
open Go.Proofs

def arrR (l : List Int) : List Av := l.map fun n => .sc (.int .i32 n)
theorem ix120 {id n i : Nat} (hi : i < n) : aIndex T 120 (.av (.own id 0 n 1)) (vI (i : Int)) = some (.av (.ptr id i)) := by
  unfold aIndex
  simp only [T120, Option.bind_some, y120, T21, y21]
  rw [if_pos ⟨trivial, by omega, by omega⟩]
  simp
theorem ldR {ob : Nat → Obj} {id i fz : Nat} {l : List Int} (h : ob id = .cs (arrR l) fz) (hi : i < l.length) : aLoad T ob 21 (.av (.ptr id i)) = some (.av (.sc (.int .i32 l[i]))) := by
  rw [ldA h]
  simp only [T21, Option.bind_some, y21]
  rw [if_pos (by simp [arrR]; omega), List.drop_eq_getElem_cons (by simp [arrR]; exact hi)]
  simp [unflat, isAggD, arrR]

theorem bod109 : Try.f109.body = some (Try.f109.body.getD .skip) := rfl
theorem fn109 (L : Loops) (l : List Int) (id : Nat) (s : Me) (hid : id < s.nx) (ho : s.ob id = .cs (arrR l) 0) (hl : l.length ≤ 1000000000) (hf : ∀ n ∈ l, 32 ≤ n ∧ n ≤ 126 ∧ n ≠ 39) : FnL Try.prog L 109 [.av (.own id 0 l.length 1), .av (.fn 106 [] [])] s fun r s' => (r = vI (-1)) ∧ s' = s := by
  refine FnL.pure (R := fun r => r = vI (-1)) ?_
  refine fn_of_body (ts := [4]) Try.func109 bod109 rfl (by simp) (by simp [Try.ntmps109]) fun D0 => ?_
  unfold Try.f109
  simp only [Option.getD_some, initSl]
  refine aw_region_seq C (pb := false) rfl fun K hK => ?_
  repeat' (first | refine awOps_yes (by rfl) (by rfl) (by rfl) (by simp  only [go_sem, ↓reduceIte, Nat.reduceEqDiff, reduceCtorEq, Nat.reduceAdd, Nat.reduceMul, Nat.reduceLeDiff, aLoad, aStore]; exact rfl) ?_ | refine awOps_no (by rfl) (by rfl) ?_ | refine awOps_yes0 (by rfl) (by rfl) (by rfl) (by simp  only [go_sem, ↓reduceIte, Nat.reduceEqDiff, reduceCtorEq, Nat.reduceAdd, Nat.reduceMul, Nat.reduceLeDiff, aLoad, aStore]; exact rfl) ?_ | fail)
  refine awOps_nil (hK _ _ ?_)
  clear hK K
  refine aw_seq ?_
  refine aw_region_seq C (pb := false) rfl fun K hK => ?_
  repeat' (first | refine awOps_yes (by rfl) (by rfl) (by rfl) (by simp  only [go_sem, ↓reduceIte, Nat.reduceEqDiff, reduceCtorEq, Nat.reduceAdd, Nat.reduceMul, Nat.reduceLeDiff, aLoad, aStore, aLen]; exact rfl) ?_ | refine awOps_no (by rfl) (by rfl) ?_ | refine awOps_yes0 (by rfl) (by rfl) (by rfl) (by simp  only [go_sem, ↓reduceIte, Nat.reduceEqDiff, reduceCtorEq, Nat.reduceAdd, Nat.reduceMul, Nat.reduceLeDiff, aLoad, aStore, aLen]; exact rfl) ?_ | fail)
  refine awOps_nil (hK _ _ ?_)
  clear hK K
  refine aw_block ?_
  refine AW.less (sl' := [(0, .av (.own id 0 l.length 1)), (1, .av (.fn 106 [] [])), (7, vI l.length), (8, vI (0))]) (AllIn.less ⟨rfl, rfl, rfl, rfl, trivial⟩) (aw_loop (fun k sl1 s1 => ∃ (i : Nat), k = l.length - i ∧ sl1 = [(0, .av (.own id 0 l.length 1)), (1, .av (.fn 106 [] [])), (7, vI l.length), (8, vI (i))] ∧ (Kp s s1) ∧ (i ≤ l.length)) (k := l.length - (0)) ⟨0, rfl, rfl, (Kp.refl s).up (by omega), Nat.zero_le _⟩ ?_)
  rintro k1 _ s1 ⟨i, hk1, rfl, hs1, hb⟩
  refine aw_region_seq C (pb := false) rfl fun K hK => ?_
  repeat' (first | refine awOps_yes (by rfl) (by rfl) (by rfl) (by simp  only [go_sem, ↓reduceIte, Nat.reduceEqDiff, reduceCtorEq, Nat.reduceAdd, Nat.reduceMul, Nat.reduceLeDiff, aLoad, aStore]; exact rfl) ?_ | refine awOps_no (by rfl) (by rfl) ?_ | refine awOps_yes0 (by rfl) (by rfl) (by rfl) (by simp  only [go_sem, ↓reduceIte, Nat.reduceEqDiff, reduceCtorEq, Nat.reduceAdd, Nat.reduceMul, Nat.reduceLeDiff, aLoad, aStore]; exact rfl) ?_ | fail)
  refine awOps_nil (hK _ _ ?_)
  clear hK K
  refine aw_seq ?_
  refine aw_cond (by rfl) ?_ ?_
  · intro hc0
    try simp only [decide_eq_true_eq, decide_eq_false_iff_not] at hc0
    have hi2 : i < l.length := by omega
    have hc := (hs1.2.1 id hid).trans ho
    refine aw_skip ?_
    simp only [thenA_normal, thenA_ret, thenA_exit, blockA_normal, blockA_ret, blockA_exit, ↓reduceIte, Nat.reduceEqDiff]
    refine aw_seq ?_
    refine aw_block ?_
    refine aw_region_seq C (pb := false) rfl fun K hK => ?_
    repeat' (first | refine awOps_yes (by rfl) (by rfl) (by rfl) (by simp  only [go_sem, ↓reduceIte, Nat.reduceEqDiff, reduceCtorEq, Nat.reduceAdd, Nat.reduceMul, Nat.reduceLeDiff, aLoad, aStore]; exact rfl) ?_ | refine awOps_no (by rfl) (by rfl) ?_ | refine awOps_yes0 (by rfl) (by rfl) (by rfl) (by simp  only [go_sem, ↓reduceIte, Nat.reduceEqDiff, reduceCtorEq, Nat.reduceAdd, Nat.reduceMul, Nat.reduceLeDiff, aLoad, aStore]; exact rfl) ?_ | fail)
    refine awOps_nil (hK _ _ ?_)
    clear hK K
    refine aw_region_seq C (pb := false) rfl fun K hK => ?_
    repeat' (first | refine awOps_yes (by rfl) (by rfl) (by rfl) (by simp  only [go_sem, ↓reduceIte, Nat.reduceEqDiff, reduceCtorEq, Nat.reduceAdd, Nat.reduceMul, Nat.reduceLeDiff, ix120 hi2, ldR hc hi2]; exact rfl) ?_ | refine awOps_no (by rfl) (by rfl) ?_ | refine awOps_yes0 (by rfl) (by rfl) (by rfl) (by simp  only [go_sem, ↓reduceIte, Nat.reduceEqDiff, reduceCtorEq, Nat.reduceAdd, Nat.reduceMul, Nat.reduceLeDiff, ix120 hi2, ldR hc hi2]; exact rfl) ?_ | fail)
    refine awOps_call (by rfl) (by rfl) (by rfl) (And.intro Try.call106 (fn106 L l[i] _ (hf _ (List.getElem_mem hi2)))) ?_
    rintro _ _ ⟨rfl, rfl⟩
    refine awOps_nil (hK _ _ ?_)
    clear hK K
    refine aw_cond (by rfl) ?_ ?_
    · intro hc1
      cases hc1
    · intro hc1
      refine aw_skip ?_
      simp only [thenA_normal, thenA_ret, thenA_exit, blockA_normal, blockA_ret, blockA_exit, ↓reduceIte, Nat.reduceEqDiff]
      refine aw_region C (pb := false) rfl ?_
      repeat' (first | refine awOps_yes (by rfl) (by rfl) (by rfl) (by simp  only [go_sem, ↓reduceIte, Nat.reduceEqDiff, reduceCtorEq, Nat.reduceAdd, Nat.reduceMul, Nat.reduceLeDiff, aLoad, aStore, wrap_small ((i : Int) + 1) (by omega) (by omega)]; exact rfl) ?_ | refine awOps_no (by rfl) (by rfl) ?_ | refine awOps_yes0 (by rfl) (by rfl) (by rfl) (by simp  only [go_sem, ↓reduceIte, Nat.reduceEqDiff, reduceCtorEq, Nat.reduceAdd, Nat.reduceMul, Nat.reduceLeDiff, aLoad, aStore, wrap_small ((i : Int) + 1) (by omega) (by omega)]; exact rfl) ?_ | fail)
      refine awOps_nil ?_
      try simp only [thenA_normal, thenA_ret, thenA_exit, blockA_normal, blockA_ret, blockA_exit]
      -- end of round 0 at 0t1f
      refine ⟨l.length - (i + 1), [(0, .av (.own id 0 l.length 1)), (1, .av (.fn 106 [] [])), (7, vI l.length), (8, vI (i + 1))], by omega, AllIn.less ⟨rfl, rfl, rfl, rfl, trivial⟩, i + 1, rfl, rfl, ?_, ?_⟩
      · exact hs1.up (by omega)
      · omega
  · intro hc0
    try simp only [decide_eq_true_eq, decide_eq_false_iff_not] at hc0
    refine aw_exit ?_
    simp only [thenA_normal, thenA_ret, thenA_exit, blockA_normal, blockA_ret, blockA_exit, ↓reduceIte, Nat.reduceEqDiff]
    refine aw_region_seq C (pb := false) rfl fun K hK => ?_
    repeat' (first | refine awOps_yes (by rfl) (by rfl) (by rfl) (by simp  only [go_sem, ↓reduceIte, Nat.reduceEqDiff, reduceCtorEq, Nat.reduceAdd, Nat.reduceMul, Nat.reduceLeDiff, aLoad, aStore]; exact rfl) ?_ | refine awOps_no (by rfl) (by rfl) ?_ | refine awOps_yes0 (by rfl) (by rfl) (by rfl) (by simp  only [go_sem, ↓reduceIte, Nat.reduceEqDiff, reduceCtorEq, Nat.reduceAdd, Nat.reduceMul, Nat.reduceLeDiff, aLoad, aStore]; exact rfl) ?_ | fail)
    refine awOps_nil (hK _ _ ?_)
    clear hK K
    refine aw_ret ?_
    simp only [go_sem, ↓reduceIte, Nat.reduceEqDiff, reduceCtorEq, Nat.reduceAdd, Nat.reduceMul, Nat.reduceLeDiff, aLoad, aStore, FnQ, resA]
    -- 0f.x0.ret
    exact fun _ => ⟨by first | rfl | trivial, hs1.2.1, hs1.2.2, by first | rfl | trivial⟩
end Go.Am.Seat
/-
  MADE BY PROGRAM (am.py): the walks of functions 107.
-/
namespace Go.Am.Seat
open Go.Proofs
theorem bod107 : Try.f107.body = some (Try.f107.body.getD .skip) := rfl
theorem fn107 (L : Loops) (l : List Int) (id : Nat) (s : Me) (hid : id < s.nx) (ho : s.ob id = .cs (arrR l) 0) (hl : l.length ≤ 1000000000) (hf : ∀ n ∈ l, 32 ≤ n ∧ n ≤ 126 ∧ n ≠ 39) : FnL Try.prog L 107 [.av (.own id 0 l.length 1), .av (.fn 106 [] [])] s fun r s' => (r = vB false) ∧ s' = s := by
  refine FnL.pure (R := fun r => r = vB false) ?_
  refine fn_of_body (ts := [4]) Try.func107 bod107 rfl (by simp) (by simp [Try.ntmps107]) fun D0 => ?_
  unfold Try.f107
  simp only [Option.getD_some, initSl]
  refine aw_region_seq C (pb := false) rfl fun K hK => ?_
  repeat' (first | refine awOps_yes (by rfl) (by rfl) (by rfl) (by simp  only [go_sem, ↓reduceIte, Nat.reduceEqDiff, reduceCtorEq, Nat.reduceAdd, Nat.reduceMul, Nat.reduceLeDiff, aLoad, aStore]; exact rfl) ?_ | refine awOps_no (by rfl) (by rfl) ?_ | refine awOps_yes0 (by rfl) (by rfl) (by rfl) (by simp  only [go_sem, ↓reduceIte, Nat.reduceEqDiff, reduceCtorEq, Nat.reduceAdd, Nat.reduceMul, Nat.reduceLeDiff, aLoad, aStore]; exact rfl) ?_ | fail)
  refine awOps_nil (hK _ _ ?_)
  clear hK K
  refine aw_region_seq C (pb := false) rfl fun K hK => ?_
  repeat' (first | refine awOps_yes (by rfl) (by rfl) (by rfl) (by simp  only [go_sem, ↓reduceIte, Nat.reduceEqDiff, reduceCtorEq, Nat.reduceAdd, Nat.reduceMul, Nat.reduceLeDiff, aLoad, aStore]; exact rfl) ?_ | refine awOps_no (by rfl) (by rfl) ?_ | refine awOps_yes0 (by rfl) (by rfl) (by rfl) (by simp  only [go_sem, ↓reduceIte, Nat.reduceEqDiff, reduceCtorEq, Nat.reduceAdd, Nat.reduceMul, Nat.reduceLeDiff, aLoad, aStore]; exact rfl) ?_ | fail)
  (refine awOps_call (by rfl) (by rfl) (by rfl) (And.intro Try.call109 (fn109 L l id _ (by first | omega | (dsimp only; omega) | (dsimp only at *; omega)) ho hl hf)) ?_; rintro _ _ ⟨rfl, rfl⟩)
  repeat' (first | refine awOps_yes (by rfl) (by rfl) (by rfl) (by simp  only [go_sem, ↓reduceIte, Nat.reduceEqDiff, reduceCtorEq, Nat.reduceAdd, Nat.reduceMul, Nat.reduceLeDiff, aLoad, aStore]; exact rfl) ?_ | refine awOps_no (by rfl) (by rfl) ?_ | refine awOps_yes0 (by rfl) (by rfl) (by rfl) (by simp  only [go_sem, ↓reduceIte, Nat.reduceEqDiff, reduceCtorEq, Nat.reduceAdd, Nat.reduceMul, Nat.reduceLeDiff, aLoad, aStore]; exact rfl) ?_ | fail)
  refine awOps_nil (hK _ _ ?_)
  clear hK K
  refine aw_ret ?_
  simp only [go_sem, ↓reduceIte, Nat.reduceEqDiff, reduceCtorEq, Nat.reduceAdd, Nat.reduceMul, Nat.reduceLeDiff, aLoad, aStore, FnQ, resA]
  -- .ret
  exact fun _ => ⟨by first | rfl | trivial, by first | exact fun _ _ => rfl | trivial, by first | rfl | trivial, by first | rfl | trivial⟩
end Go.Am.Seat
/-
  MADE BY PROGRAM (am.py): the walks of functions 86.
-/
namespace Go.Am.Seat
open Go.Proofs

def eName : ByteArray := ⟨#[]⟩
def byteOk (b : UInt8) : Bool := decide (32 ≤ b.toNat) && decide (b.toNat ≤ 126) && decide (b.toNat ≠ 39)
def nameOk (s : ByteArray) : Bool := s.data.toList.all byteOk && (decide (1 ≤ s.size) && decide (s.size ≤ 12))
theorem byteOk_raw (b : UInt8) : byteOk b = !((decide ((b.toNat : Int) < 32) || decide ((b.toNat : Int) > 126)) || ((b.toNat : Int) == 39)) := by
  rw [Bool.eq_iff_iff]
  simp [byteOk]
  omega

theorem bod86 : Try.f86.body = some (Try.f86.body.getD .skip) := rfl
theorem fn86 (L : Loops) (x : ByteArray) (s : Me) (hl : x.size ≤ 1152921504606846976) : FnL Try.prog L 86 [.av (.sc (.str x))] s fun r s' => (r = vB (nameOk x)) ∧ s' = s := by
  refine FnL.pure (R := fun r => r = vB (nameOk x)) ?_
  refine fn_of_body (ts := [2]) Try.func86 bod86 rfl (by simp) (by simp [Try.ntmps86]) fun D0 => ?_
  unfold Try.f86
  simp only [Option.getD_some, initSl]
  refine aw_region_seq C (pb := false) rfl fun K hK => ?_
  repeat' (first | refine awOps_yes (by rfl) (by rfl) (by rfl) (by simp  only [go_sem, ↓reduceIte, Nat.reduceEqDiff, reduceCtorEq, Nat.reduceAdd, Nat.reduceMul, Nat.reduceLeDiff, aLoad, aStore]; exact rfl) ?_ | refine awOps_no (by rfl) (by rfl) ?_ | refine awOps_yes0 (by rfl) (by rfl) (by rfl) (by simp  only [go_sem, ↓reduceIte, Nat.reduceEqDiff, reduceCtorEq, Nat.reduceAdd, Nat.reduceMul, Nat.reduceLeDiff, aLoad, aStore]; exact rfl) ?_ | fail)
  refine awOps_nil (hK _ _ ?_)
  clear hK K
  refine aw_seq ?_
  refine aw_region_seq C (pb := false) rfl fun K hK => ?_
  repeat' (first | refine awOps_yes (by rfl) (by rfl) (by rfl) (by simp  only [go_sem, ↓reduceIte, Nat.reduceEqDiff, reduceCtorEq, Nat.reduceAdd, Nat.reduceMul, Nat.reduceLeDiff, aLoad, aStore]; exact rfl) ?_ | refine awOps_no (by rfl) (by rfl) ?_ | refine awOps_yes0 (by rfl) (by rfl) (by rfl) (by simp  only [go_sem, ↓reduceIte, Nat.reduceEqDiff, reduceCtorEq, Nat.reduceAdd, Nat.reduceMul, Nat.reduceLeDiff, aLoad, aStore]; exact rfl) ?_ | fail)
  refine awOps_nil (hK _ _ ?_)
  clear hK K
  refine aw_block ?_
  refine AW.less (sl' := [(0, .av (.sc (.str x))), (3, vI (0))]) (AllIn.less ⟨rfl, rfl, trivial⟩) (aw_loop (fun k sl1 s1 => ∃ (i : Nat), k = x.size - i ∧ sl1 = [(0, .av (.sc (.str x))), (3, vI (i))] ∧ (Kp s s1) ∧ (i ≤ x.size) ∧ ((x.data.toList.take i).all byteOk = true)) (k := x.size - (0)) ⟨0, rfl, rfl, (Kp.refl s).up (by omega), Nat.zero_le _, by simp⟩ ?_)
  rintro k1 _ s1 ⟨i, hk1, rfl, hs1, hb, h3⟩
  refine aw_seq ?_
  refine aw_region_seq C (pb := false) rfl fun K hK => ?_
  repeat' (first | refine awOps_yes (by rfl) (by rfl) (by rfl) (by simp  only [go_sem, ↓reduceIte, Nat.reduceEqDiff, reduceCtorEq, Nat.reduceAdd, Nat.reduceMul, Nat.reduceLeDiff, aLoad, aStore, lenS]; exact rfl) ?_ | refine awOps_no (by rfl) (by rfl) ?_ | refine awOps_yes0 (by rfl) (by rfl) (by rfl) (by simp  only [go_sem, ↓reduceIte, Nat.reduceEqDiff, reduceCtorEq, Nat.reduceAdd, Nat.reduceMul, Nat.reduceLeDiff, aLoad, aStore, lenS]; exact rfl) ?_ | fail)
  refine awOps_nil (hK _ _ ?_)
  clear hK K
  refine aw_cond (by rfl) ?_ ?_
  · intro hc0
    try simp only [decide_eq_true_eq, decide_eq_false_iff_not] at hc0
    have hi2 : i < x.data.toList.length := by simpa using (by omega : i < x.size)
    refine aw_skip ?_
    simp only [thenA_normal, thenA_ret, thenA_exit, blockA_normal, blockA_ret, blockA_exit, ↓reduceIte, Nat.reduceEqDiff]
    refine aw_seq ?_
    refine aw_block ?_
    refine aw_cut_seq C (pb := false) [(0, .av (.sc (.str x))), (3, vI i), (25, vB ((decide ((x.data.toList[i].toNat : Int) < 32) || decide ((x.data.toList[i].toNat : Int) > 126)) || ((x.data.toList[i].toNat : Int) == 39)))] rfl ?_ fun n4 hn4 => ?_
    · cases hA0 : (decide ((x.data.toList[i].toNat : Int) < 32) : Bool) <;> cases hA1 : (decide ((x.data.toList[i].toNat : Int) > 126) : Bool)
      all_goals (repeat' (first | refine awOps_yes (by rfl) (by rfl) (by rfl) (by simp  only [go_sem, ↓reduceIte, Nat.reduceEqDiff, reduceCtorEq, Nat.reduceAdd, Nat.reduceMul, Nat.reduceLeDiff, aLoad, aStore, idxS hi2, hA0, hA1]; exact rfl) ?_ | refine awOps_no (by rfl) (by rfl) ?_ | refine awOps_yes0 (by rfl) (by rfl) (by rfl) (by simp  only [go_sem, ↓reduceIte, Nat.reduceEqDiff, reduceCtorEq, Nat.reduceAdd, Nat.reduceMul, Nat.reduceLeDiff, aLoad, aStore, idxS hi2, hA0, hA1]; exact rfl) ?_ | fail))
      all_goals (exact awOps_nil ⟨⟨rfl, rfl, rfl, trivial⟩, rfl, (by first | omega | (dsimp only; omega)), rfl⟩)
    refine aw_cond (by rfl) ?_ ?_
    · intro hc1
      try simp only [decide_eq_true_eq, decide_eq_false_iff_not] at hc1
      refine aw_region_seq C (pb := false) rfl fun K hK => ?_
      repeat' (first | refine awOps_yes (by rfl) (by rfl) (by rfl) (by simp  only [go_sem, ↓reduceIte, Nat.reduceEqDiff, reduceCtorEq, Nat.reduceAdd, Nat.reduceMul, Nat.reduceLeDiff, aLoad, aStore]; exact rfl) ?_ | refine awOps_no (by rfl) (by rfl) ?_ | refine awOps_yes0 (by rfl) (by rfl) (by rfl) (by simp  only [go_sem, ↓reduceIte, Nat.reduceEqDiff, reduceCtorEq, Nat.reduceAdd, Nat.reduceMul, Nat.reduceLeDiff, aLoad, aStore]; exact rfl) ?_ | fail)
      refine awOps_nil (hK _ _ ?_)
      clear hK K
      refine aw_ret ?_
      try simp only [thenA_normal, thenA_ret, thenA_exit, blockA_normal, blockA_ret, blockA_exit]
      simp only [go_sem, ↓reduceIte, Nat.reduceEqDiff, reduceCtorEq, Nat.reduceAdd, Nat.reduceMul, Nat.reduceLeDiff, aLoad, aStore, FnQ, resA]
      -- 0t1t.ret
      refine fun _ => ⟨rfl, hs1.2.1, hs1.2.2, ?_⟩
      have hbad : byteOk x.data.toList[i] = false := by rw [byteOk_raw, hc1]; rfl
      have : nameOk x = false := by
        have h : x.data.toList.all byteOk = false := by
          rw [List.all_eq_false]
          exact ⟨_, List.getElem_mem hi2, by rw [hbad]; exact Bool.false_ne_true⟩
        simp [nameOk, h]
      rw [this]
    · intro hc1
      try simp only [decide_eq_true_eq, decide_eq_false_iff_not] at hc1
      refine aw_skip ?_
      simp only [thenA_normal, thenA_ret, thenA_exit, blockA_normal, blockA_ret, blockA_exit, ↓reduceIte, Nat.reduceEqDiff]
      refine aw_region C (pb := false) rfl ?_
      repeat' (first | refine awOps_yes (by rfl) (by rfl) (by rfl) (by simp  only [go_sem, ↓reduceIte, Nat.reduceEqDiff, reduceCtorEq, Nat.reduceAdd, Nat.reduceMul, Nat.reduceLeDiff, aLoad, aStore, wrap_small ((i : Int) + 1) (by omega) (by omega)]; exact rfl) ?_ | refine awOps_no (by rfl) (by rfl) ?_ | refine awOps_yes0 (by rfl) (by rfl) (by rfl) (by simp  only [go_sem, ↓reduceIte, Nat.reduceEqDiff, reduceCtorEq, Nat.reduceAdd, Nat.reduceMul, Nat.reduceLeDiff, aLoad, aStore, wrap_small ((i : Int) + 1) (by omega) (by omega)]; exact rfl) ?_ | fail)
      refine awOps_nil ?_
      try simp only [thenA_normal, thenA_ret, thenA_exit, blockA_normal, blockA_ret, blockA_exit]
      -- end of round 0 at 0t1f
      refine ⟨x.size - (i + 1), [(0, .av (.sc (.str x))), (3, vI (i + 1))], by omega, AllIn.less ⟨rfl, rfl, trivial⟩, i + 1, rfl, rfl, ?_, ?_, ?_⟩
      · exact hs1.up (by omega)
      · omega
      · rw [List.take_succ_eq_append_getElem hi2]
        simp only [List.all_append, h3, Bool.true_and, List.all_cons, List.all_nil, Bool.and_true]
        rw [byteOk_raw, hc1]; rfl
  · intro hc0
    try simp only [decide_eq_true_eq, decide_eq_false_iff_not] at hc0
    refine aw_exit ?_
    simp only [thenA_normal, thenA_ret, thenA_exit, blockA_normal, blockA_ret, blockA_exit, ↓reduceIte, Nat.reduceEqDiff]
    refine aw_cut_seq C (pb := false) [(2, vB (decide ((x.size : Int) ≥ 1) && decide ((x.size : Int) ≤ 12)))] rfl ?_ fun n6 hn6 => ?_
    · cases hA0 : (decide ((x.size : Int) ≥ 1) : Bool)
      all_goals (repeat' (first | refine awOps_yes (by rfl) (by rfl) (by rfl) (by simp  only [go_sem, ↓reduceIte, Nat.reduceEqDiff, reduceCtorEq, Nat.reduceAdd, Nat.reduceMul, Nat.reduceLeDiff, aLoad, aStore, lenS, hA0]; exact rfl) ?_ | refine awOps_no (by rfl) (by rfl) ?_ | refine awOps_yes0 (by rfl) (by rfl) (by rfl) (by simp  only [go_sem, ↓reduceIte, Nat.reduceEqDiff, reduceCtorEq, Nat.reduceAdd, Nat.reduceMul, Nat.reduceLeDiff, aLoad, aStore, lenS, hA0]; exact rfl) ?_ | fail))
      all_goals (exact awOps_nil ⟨⟨rfl, trivial⟩, rfl, (by first | omega | (dsimp only; omega)), rfl⟩)
    refine aw_ret ?_
    simp only [go_sem, ↓reduceIte, Nat.reduceEqDiff, reduceCtorEq, Nat.reduceAdd, Nat.reduceMul, Nat.reduceLeDiff, aLoad, aStore, FnQ, resA]
    -- 0f.x0.ret
    refine fun _ => ⟨rfl, hs1.2.1, hs1.2.2, ?_⟩
    rw [List.take_of_length_le (by simp; omega)] at h3
    have e1 : decide ((x.size : Int) ≥ 1) = decide (1 ≤ x.size) := by simp; omega
    have e2 : decide ((x.size : Int) ≤ 12) = decide (x.size ≤ 12) := by simp; omega
    simp only [nameOk, h3, e1, e2, Bool.true_and]
end Go.Am.Seat
/-
  MADE BY PROGRAM (am.py): the walks of functions 79.
-/
namespace Go.Am.Seat
open Go.Proofs

def noName : ByteArray := ⟨#[]⟩
def cellOk (c : Cell) : Bool :=
  if c.kind = 1 then ((c.name.toList == noName.toList) && decide (c.n ≥ 0)) && decide (c.n ≤ 999)
  else if c.kind = 2 then ((c.name.toList == noName.toList) && decide (c.n ≥ -2147483647)) && decide (c.n ≤ 2147483647)
  else if c.kind = 3 then (nameOk c.name && decide (c.n ≥ 0)) && decide (c.n ≤ 6)
  else false
def aggC (c : Cell) : Va := .agg [.sc (.int .i64 c.kind), .sc (.str c.name), .sc (.int .i64 c.n)]

theorem bod79 : Try.f79.body = some (Try.f79.body.getD .skip) := rfl
theorem fn79 (L : Loops) (c : Cell) (s : Me) (hl : c.name.size ≤ 1152921504606846976) : FnL Try.prog L 79 [aggC c] s fun r s' => (r = vB (cellOk c)) ∧ s' = s := by
  refine FnL.pure (R := fun r => r = vB (cellOk c)) ?_
  refine fn_of_body (ts := [2]) Try.func79 bod79 rfl (by simp) (by simp [Try.ntmps79]) fun D0 => ?_
  unfold Try.f79
  simp only [Option.getD_some, initSl]
  refine aw_region_seq C (pb := false) rfl fun K hK => ?_
  repeat' (first | refine awOps_yes (by rfl) (by rfl) (by rfl) (by simp  only [go_sem, ↓reduceIte, Nat.reduceEqDiff, reduceCtorEq, Nat.reduceAdd, Nat.reduceMul, Nat.reduceLeDiff, aLoad, aStore, aggC]; exact rfl) ?_ | refine awOps_no (by rfl) (by rfl) ?_ | refine awOps_yes0 (by rfl) (by rfl) (by rfl) (by simp  only [go_sem, ↓reduceIte, Nat.reduceEqDiff, reduceCtorEq, Nat.reduceAdd, Nat.reduceMul, Nat.reduceLeDiff, aLoad, aStore, aggC]; exact rfl) ?_ | fail)
  refine awOps_nil (hK _ _ ?_)
  clear hK K
  refine aw_seq ?_
  refine aw_region_seq C (pb := false) rfl fun K hK => ?_
  repeat' (first | refine awOps_yes (by rfl) (by rfl) (by rfl) (by simp  only [go_sem, ↓reduceIte, Nat.reduceEqDiff, reduceCtorEq, Nat.reduceAdd, Nat.reduceMul, Nat.reduceLeDiff, aLoad, aStore]; exact rfl) ?_ | refine awOps_no (by rfl) (by rfl) ?_ | refine awOps_yes0 (by rfl) (by rfl) (by rfl) (by simp  only [go_sem, ↓reduceIte, Nat.reduceEqDiff, reduceCtorEq, Nat.reduceAdd, Nat.reduceMul, Nat.reduceLeDiff, aLoad, aStore]; exact rfl) ?_ | fail)
  refine awOps_nil (hK _ _ ?_)
  clear hK K
  refine aw_block ?_
  refine aw_region_seq C (pb := false) rfl fun K hK => ?_
  repeat' (first | refine awOps_yes (by rfl) (by rfl) (by rfl) (by simp  only [go_sem, ↓reduceIte, Nat.reduceEqDiff, reduceCtorEq, Nat.reduceAdd, Nat.reduceMul, Nat.reduceLeDiff, aLoad, aStore]; exact rfl) ?_ | refine awOps_no (by rfl) (by rfl) ?_ | refine awOps_yes0 (by rfl) (by rfl) (by rfl) (by simp  only [go_sem, ↓reduceIte, Nat.reduceEqDiff, reduceCtorEq, Nat.reduceAdd, Nat.reduceMul, Nat.reduceLeDiff, aLoad, aStore]; exact rfl) ?_ | fail)
  refine awOps_nil (hK _ _ ?_)
  clear hK K
  refine aw_cond (by rfl) ?_ ?_
  · intro hc0
    try simp only [beq_iff_eq, beq_eq_false_iff_ne, ne_eq] at hc0
    have hno : (⟨#[]⟩ : ByteArray) = noName := rfl
    refine aw_cut_seq C (pb := false) [(2, vB (((c.name.toList == noName.toList) && decide (c.n ≥ 0)) && decide (c.n ≤ 999)))] rfl ?_ fun n3 hn3 => ?_
    · cases hA0 : (c.name.toList == noName.toList : Bool) <;> cases hA1 : (decide (c.n ≥ 0) : Bool) <;> cases hA2 : (decide (c.n ≤ 999) : Bool)
      all_goals (repeat' (first | refine awOps_yes (by rfl) (by rfl) (by rfl) (by simp  only [go_sem, ↓reduceIte, Nat.reduceEqDiff, reduceCtorEq, Nat.reduceAdd, Nat.reduceMul, Nat.reduceLeDiff, aLoad, aStore, hno, hA0, hA1, hA2]; exact rfl) ?_ | refine awOps_no (by rfl) (by rfl) ?_ | refine awOps_yes0 (by rfl) (by rfl) (by rfl) (by simp  only [go_sem, ↓reduceIte, Nat.reduceEqDiff, reduceCtorEq, Nat.reduceAdd, Nat.reduceMul, Nat.reduceLeDiff, aLoad, aStore, hno, hA0, hA1, hA2]; exact rfl) ?_ | fail))
      all_goals (exact awOps_nil ⟨⟨rfl, trivial⟩, rfl, (by first | omega | (dsimp only; omega)), rfl⟩)
    refine aw_ret ?_
    try simp only [thenA_normal, thenA_ret, thenA_exit, blockA_normal, blockA_ret, blockA_exit]
    simp only [go_sem, ↓reduceIte, Nat.reduceEqDiff, reduceCtorEq, Nat.reduceAdd, Nat.reduceMul, Nat.reduceLeDiff, aLoad, aStore, FnQ, resA]
    -- 0t.ret
    refine fun _ => ⟨by first | rfl | trivial, fun i hi => upd_ne _ _ (by omega), by first | rfl | trivial, ?_⟩
    rw [cellOk, if_pos hc0]
  · intro hc0
    try simp only [beq_iff_eq, beq_eq_false_iff_ne, ne_eq] at hc0
    refine aw_region_seq C (pb := false) rfl fun K hK => ?_
    repeat' (first | refine awOps_yes (by rfl) (by rfl) (by rfl) (by simp  only [go_sem, ↓reduceIte, Nat.reduceEqDiff, reduceCtorEq, Nat.reduceAdd, Nat.reduceMul, Nat.reduceLeDiff, aLoad, aStore]; exact rfl) ?_ | refine awOps_no (by rfl) (by rfl) ?_ | refine awOps_yes0 (by rfl) (by rfl) (by rfl) (by simp  only [go_sem, ↓reduceIte, Nat.reduceEqDiff, reduceCtorEq, Nat.reduceAdd, Nat.reduceMul, Nat.reduceLeDiff, aLoad, aStore]; exact rfl) ?_ | fail)
    refine awOps_nil (hK _ _ ?_)
    clear hK K
    refine aw_cond (by rfl) ?_ ?_
    · intro hc1
      try simp only [beq_iff_eq, beq_eq_false_iff_ne, ne_eq] at hc1
      have hno : (⟨#[]⟩ : ByteArray) = noName := rfl
      refine aw_cut_seq C (pb := false) [(2, vB (((c.name.toList == noName.toList) && decide (c.n ≥ -2147483647)) && decide (c.n ≤ 2147483647)))] rfl ?_ fun n5 hn5 => ?_
      · cases hA0 : (c.name.toList == noName.toList : Bool) <;> cases hA1 : (decide (c.n ≥ -2147483647) : Bool) <;> cases hA2 : (decide (c.n ≤ 2147483647) : Bool)
        all_goals (repeat' (first | refine awOps_yes (by rfl) (by rfl) (by rfl) (by simp  only [go_sem, ↓reduceIte, Nat.reduceEqDiff, reduceCtorEq, Nat.reduceAdd, Nat.reduceMul, Nat.reduceLeDiff, aLoad, aStore, hno, hA0, hA1, hA2]; exact rfl) ?_ | refine awOps_no (by rfl) (by rfl) ?_ | refine awOps_yes0 (by rfl) (by rfl) (by rfl) (by simp  only [go_sem, ↓reduceIte, Nat.reduceEqDiff, reduceCtorEq, Nat.reduceAdd, Nat.reduceMul, Nat.reduceLeDiff, aLoad, aStore, hno, hA0, hA1, hA2]; exact rfl) ?_ | fail))
        all_goals (exact awOps_nil ⟨⟨rfl, trivial⟩, rfl, (by first | omega | (dsimp only; omega)), rfl⟩)
      refine aw_ret ?_
      try simp only [thenA_normal, thenA_ret, thenA_exit, blockA_normal, blockA_ret, blockA_exit]
      simp only [go_sem, ↓reduceIte, Nat.reduceEqDiff, reduceCtorEq, Nat.reduceAdd, Nat.reduceMul, Nat.reduceLeDiff, aLoad, aStore, FnQ, resA]
      -- 0f1t.ret
      refine fun _ => ⟨by first | rfl | trivial, fun i hi => upd_ne _ _ (by omega), by first | rfl | trivial, ?_⟩
      rw [cellOk, if_neg hc0, if_pos hc1]
    · intro hc1
      try simp only [beq_iff_eq, beq_eq_false_iff_ne, ne_eq] at hc1
      refine aw_region_seq C (pb := false) rfl fun K hK => ?_
      repeat' (first | refine awOps_yes (by rfl) (by rfl) (by rfl) (by simp  only [go_sem, ↓reduceIte, Nat.reduceEqDiff, reduceCtorEq, Nat.reduceAdd, Nat.reduceMul, Nat.reduceLeDiff, aLoad, aStore]; exact rfl) ?_ | refine awOps_no (by rfl) (by rfl) ?_ | refine awOps_yes0 (by rfl) (by rfl) (by rfl) (by simp  only [go_sem, ↓reduceIte, Nat.reduceEqDiff, reduceCtorEq, Nat.reduceAdd, Nat.reduceMul, Nat.reduceLeDiff, aLoad, aStore]; exact rfl) ?_ | fail)
      refine awOps_nil (hK _ _ ?_)
      clear hK K
      refine aw_cond (by rfl) ?_ ?_
      · intro hc2
        try simp only [beq_iff_eq, beq_eq_false_iff_ne, ne_eq] at hc2
        refine aw_cut_seq C (pb := false) [(2, vB ((nameOk c.name && decide (c.n ≥ 0)) && decide (c.n ≤ 6)))] rfl ?_ fun n7 hn7 => ?_
        · cases hA0 : (nameOk c.name : Bool) <;> cases hA1 : (decide (c.n ≥ 0) : Bool) <;> cases hA2 : (decide (c.n ≤ 6) : Bool)
          all_goals (repeat' (first | refine awOps_yes (by rfl) (by rfl) (by rfl) (by simp  only [go_sem, ↓reduceIte, Nat.reduceEqDiff, reduceCtorEq, Nat.reduceAdd, Nat.reduceMul, Nat.reduceLeDiff, aLoad, aStore, hA0, hA1, hA2]; exact rfl) ?_ | refine awOps_no (by rfl) (by rfl) ?_ | refine awOps_yes0 (by rfl) (by rfl) (by rfl) (by simp  only [go_sem, ↓reduceIte, Nat.reduceEqDiff, reduceCtorEq, Nat.reduceAdd, Nat.reduceMul, Nat.reduceLeDiff, aLoad, aStore, hA0, hA1, hA2]; exact rfl) ?_ | fail))
          all_goals ((refine awOps_call (by rfl) (by rfl) (by rfl) (And.intro Try.call86 (fn86 L c.name _ hl)) ?_; rintro _ _ ⟨rfl, rfl⟩))
          all_goals (repeat' (first | refine awOps_yes (by rfl) (by rfl) (by rfl) (by simp  only [go_sem, ↓reduceIte, Nat.reduceEqDiff, reduceCtorEq, Nat.reduceAdd, Nat.reduceMul, Nat.reduceLeDiff, aLoad, aStore, hA0, hA1, hA2]; exact rfl) ?_ | refine awOps_no (by rfl) (by rfl) ?_ | refine awOps_yes0 (by rfl) (by rfl) (by rfl) (by simp  only [go_sem, ↓reduceIte, Nat.reduceEqDiff, reduceCtorEq, Nat.reduceAdd, Nat.reduceMul, Nat.reduceLeDiff, aLoad, aStore, hA0, hA1, hA2]; exact rfl) ?_ | fail))
          all_goals (exact awOps_nil ⟨⟨rfl, trivial⟩, rfl, (by first | omega | (dsimp only; omega)), rfl⟩)
        refine aw_ret ?_
        try simp only [thenA_normal, thenA_ret, thenA_exit, blockA_normal, blockA_ret, blockA_exit]
        simp only [go_sem, ↓reduceIte, Nat.reduceEqDiff, reduceCtorEq, Nat.reduceAdd, Nat.reduceMul, Nat.reduceLeDiff, aLoad, aStore, FnQ, resA]
        -- 0f1f2t.ret
        refine fun _ => ⟨by first | rfl | trivial, fun i hi => upd_ne _ _ (by omega), by first | rfl | trivial, ?_⟩
        rw [cellOk, if_neg hc0, if_neg hc1, if_pos hc2]
      · intro hc2
        try simp only [beq_iff_eq, beq_eq_false_iff_ne, ne_eq] at hc2
        refine aw_skip ?_
        simp only [thenA_normal, thenA_ret, thenA_exit, blockA_normal, blockA_ret, blockA_exit, ↓reduceIte, Nat.reduceEqDiff]
        refine aw_region_seq C (pb := false) rfl fun K hK => ?_
        repeat' (first | refine awOps_yes (by rfl) (by rfl) (by rfl) (by simp  only [go_sem, ↓reduceIte, Nat.reduceEqDiff, reduceCtorEq, Nat.reduceAdd, Nat.reduceMul, Nat.reduceLeDiff, aLoad, aStore]; exact rfl) ?_ | refine awOps_no (by rfl) (by rfl) ?_ | refine awOps_yes0 (by rfl) (by rfl) (by rfl) (by simp  only [go_sem, ↓reduceIte, Nat.reduceEqDiff, reduceCtorEq, Nat.reduceAdd, Nat.reduceMul, Nat.reduceLeDiff, aLoad, aStore]; exact rfl) ?_ | fail)
        refine awOps_nil (hK _ _ ?_)
        clear hK K
        refine aw_ret ?_
        simp only [go_sem, ↓reduceIte, Nat.reduceEqDiff, reduceCtorEq, Nat.reduceAdd, Nat.reduceMul, Nat.reduceLeDiff, aLoad, aStore, FnQ, resA]
        -- 0f1f2f.ret
        refine fun _ => ⟨by first | rfl | trivial, fun i hi => upd_ne _ _ (by omega), by first | rfl | trivial, ?_⟩
        rw [cellOk, if_neg hc0, if_neg hc1, if_neg hc2]
end Go.Am.Seat
/-
  MADE BY PROGRAM (am.py): the walks of functions 99.
-/
namespace Go.Am.Seat
open Go.Proofs

theorem rn120 {ob : Nat → Obj} {nid : Nat} {s : ByteArray} (h : s.size ≤ 1000000) : aRunes T ob nid 9 120 (.av (.sc (.str s))) = some (.av (.own nid 0 (runesL s s.size 0).length 1), upd ob nid (.cs (arrR (runesL s s.size 0)) 0)) := by
  unfold aRunes
  simp only [T9, T120, Option.bind_some, y9, y120, T21, y21]
  rw [if_pos ⟨by omega, trivial⟩]
  rfl
theorem runes_fine {s : ByteArray} (h : ∀ b ∈ s.data.toList, 32 ≤ b.toNat ∧ b.toNat ≤ 126 ∧ b.toNat ≠ 39) : ∀ (b i : Nat), ∀ n ∈ runesL s b i, 32 ≤ n ∧ n ≤ 126 ∧ n ≠ 39
  | 0, i, n, hn => by simp [runesL] at hn
  | b + 1, i, n, hn => by
    unfold runesL at hn
    split at hn
    · rename_i hi
      have hi' : i < s.data.size := hi
      have hb := h s.data[i] (by simp)
      have hd : Utf8.decode s i = (s.data[i].toNat, 1) := by
        have hg : (s.get! (i + 0)).toNat = s.data[i].toNat := by
          show (s.data[i + 0]!).toNat = _
          rw [Nat.add_zero, getElem!_pos s.data i hi']
        unfold Utf8.decode
        simp only [hg]
        rw [if_pos (by omega)]
      rw [hd] at hn
      rcases List.mem_cons.1 hn with rfl | hn
      · dsimp only; omega
      · exact runes_fine h b _ n hn
    · simp at hn

theorem bod99 : Try.f99.body = some (Try.f99.body.getD .skip) := rfl
theorem fn99a (L : Loops) (n : Int) (s : Me) (hn : 0 ≤ n ∧ n ≤ 999) : FnL Try.prog L 99 [.agg [.sc (.int .i64 1), .sc (.str ⟨#[]⟩), .sc (.int .i64 n)]] s fun r s' => (r = vB true) ∧ s' = s := by
  refine FnL.pure (R := fun r => r = vB true) ?_
  refine fn_of_body (ts := [2]) Try.func99 bod99 rfl (by simp) (by simp [Try.ntmps99]) fun D0 => ?_
  unfold Try.f99
  simp only [Option.getD_some, initSl]
  refine aw_region_seq C (pb := false) rfl fun K hK => ?_
  repeat' (first | refine awOps_yes (by rfl) (by rfl) (by rfl) (by simp  only [go_sem, ↓reduceIte, Nat.reduceEqDiff, reduceCtorEq, Nat.reduceAdd, Nat.reduceMul, Nat.reduceLeDiff, aLoad, aStore]; exact rfl) ?_ | refine awOps_no (by rfl) (by rfl) ?_ | refine awOps_yes0 (by rfl) (by rfl) (by rfl) (by simp  only [go_sem, ↓reduceIte, Nat.reduceEqDiff, reduceCtorEq, Nat.reduceAdd, Nat.reduceMul, Nat.reduceLeDiff, aLoad, aStore]; exact rfl) ?_ | fail)
  refine awOps_nil (hK _ _ ?_)
  clear hK K
  refine aw_seq ?_
  refine aw_region_seq C (pb := false) rfl fun K hK => ?_
  repeat' (first | refine awOps_yes (by rfl) (by rfl) (by rfl) (by simp  only [go_sem, ↓reduceIte, Nat.reduceEqDiff, reduceCtorEq, Nat.reduceAdd, Nat.reduceMul, Nat.reduceLeDiff, aLoad, aStore, upd_same]; exact rfl) ?_ | refine awOps_no (by rfl) (by rfl) ?_ | refine awOps_yes0 (by rfl) (by rfl) (by rfl) (by simp  only [go_sem, ↓reduceIte, Nat.reduceEqDiff, reduceCtorEq, Nat.reduceAdd, Nat.reduceMul, Nat.reduceLeDiff, aLoad, aStore, upd_same]; exact rfl) ?_ | fail)
  refine awOps_nil (hK _ _ ?_)
  clear hK K
  refine aw_block ?_
  refine aw_region_seq C (pb := false) rfl fun K hK => ?_
  repeat' (first | refine awOps_yes (by rfl) (by rfl) (by rfl) (by simp  only [go_sem, ↓reduceIte, Nat.reduceEqDiff, reduceCtorEq, Nat.reduceAdd, Nat.reduceMul, Nat.reduceLeDiff, aLoad, aStore]; exact rfl) ?_ | refine awOps_no (by rfl) (by rfl) ?_ | refine awOps_yes0 (by rfl) (by rfl) (by rfl) (by simp  only [go_sem, ↓reduceIte, Nat.reduceEqDiff, reduceCtorEq, Nat.reduceAdd, Nat.reduceMul, Nat.reduceLeDiff, aLoad, aStore]; exact rfl) ?_ | fail)
  refine awOps_nil (hK _ _ ?_)
  clear hK K
  refine aw_cond (by rfl) ?_ ?_
  · intro hc0
    refine aw_region_seq C (pb := false) rfl fun K hK => ?_
    repeat' (first | refine awOps_yes (by rfl) (by rfl) (by rfl) (by simp  only [go_sem, ↓reduceIte, Nat.reduceEqDiff, reduceCtorEq, Nat.reduceAdd, Nat.reduceMul, Nat.reduceLeDiff, aLoad, aStore, upd_same, pl41, aEq, eqCells, eqSc, beq_self_eq_true, Bool.and_true, zeroA, C, E]; exact rfl) ?_ | refine awOps_no (by rfl) (by rfl) ?_ | refine awOps_yes0 (by rfl) (by rfl) (by rfl) (by simp  only [go_sem, ↓reduceIte, Nat.reduceEqDiff, reduceCtorEq, Nat.reduceAdd, Nat.reduceMul, Nat.reduceLeDiff, aLoad, aStore, upd_same, pl41, aEq, eqCells, eqSc, beq_self_eq_true, Bool.and_true, zeroA, C, E]; exact rfl) ?_ | fail)
    try (first | (refine awOps_call (by rfl) (by rfl) (by rfl) (And.intro Try.call84 (fn84t L n 0 999 _ hn)) ?_; rintro _ _ ⟨rfl, rfl⟩) | refine awOps_no (by rfl) (by rfl) ?_ | fail)
    repeat' (first | refine awOps_yes (by rfl) (by rfl) (by rfl) (by simp  only [go_sem, ↓reduceIte, Nat.reduceEqDiff, reduceCtorEq, Nat.reduceAdd, Nat.reduceMul, Nat.reduceLeDiff, aLoad, aStore, upd_same, pl41, aEq, eqCells, eqSc, beq_self_eq_true, Bool.and_true, zeroA, C, E]; exact rfl) ?_ | refine awOps_no (by rfl) (by rfl) ?_ | refine awOps_yes0 (by rfl) (by rfl) (by rfl) (by simp  only [go_sem, ↓reduceIte, Nat.reduceEqDiff, reduceCtorEq, Nat.reduceAdd, Nat.reduceMul, Nat.reduceLeDiff, aLoad, aStore, upd_same, pl41, aEq, eqCells, eqSc, beq_self_eq_true, Bool.and_true, zeroA, C, E]; exact rfl) ?_ | fail)
    refine awOps_nil (hK _ _ ?_)
    clear hK K
    refine aw_ret ?_
    try simp only [thenA_normal, thenA_ret, thenA_exit, blockA_normal, blockA_ret, blockA_exit]
    simp only [go_sem, ↓reduceIte, Nat.reduceEqDiff, reduceCtorEq, Nat.reduceAdd, Nat.reduceMul, Nat.reduceLeDiff, aLoad, aStore, FnQ, resA]
    -- 0t.ret
    exact fun _ => ⟨by first | rfl | trivial, fun i hi => by first | rfl | exact upd_ne _ _ (by omega) | exact (upd_ne _ _ (by omega)).trans (upd_ne _ _ (by omega)), by first | rfl | trivial, by first | rfl | trivial⟩
  · intro hc0
    exact absurd hc0 (by decide)
theorem fn99b (L : Loops) (n : Int) (s : Me) (hn : -2147483647 ≤ n ∧ n ≤ 2147483647) : FnL Try.prog L 99 [.agg [.sc (.int .i64 2), .sc (.str ⟨#[]⟩), .sc (.int .i64 n)]] s fun r s' => (r = vB true) ∧ s' = s := by
  refine FnL.pure (R := fun r => r = vB true) ?_
  refine fn_of_body (ts := [2]) Try.func99 bod99 rfl (by simp) (by simp [Try.ntmps99]) fun D0 => ?_
  unfold Try.f99
  simp only [Option.getD_some, initSl]
  refine aw_region_seq C (pb := false) rfl fun K hK => ?_
  repeat' (first | refine awOps_yes (by rfl) (by rfl) (by rfl) (by simp  only [go_sem, ↓reduceIte, Nat.reduceEqDiff, reduceCtorEq, Nat.reduceAdd, Nat.reduceMul, Nat.reduceLeDiff, aLoad, aStore]; exact rfl) ?_ | refine awOps_no (by rfl) (by rfl) ?_ | refine awOps_yes0 (by rfl) (by rfl) (by rfl) (by simp  only [go_sem, ↓reduceIte, Nat.reduceEqDiff, reduceCtorEq, Nat.reduceAdd, Nat.reduceMul, Nat.reduceLeDiff, aLoad, aStore]; exact rfl) ?_ | fail)
  refine awOps_nil (hK _ _ ?_)
  clear hK K
  refine aw_seq ?_
  refine aw_region_seq C (pb := false) rfl fun K hK => ?_
  repeat' (first | refine awOps_yes (by rfl) (by rfl) (by rfl) (by simp  only [go_sem, ↓reduceIte, Nat.reduceEqDiff, reduceCtorEq, Nat.reduceAdd, Nat.reduceMul, Nat.reduceLeDiff, aLoad, aStore, upd_same]; exact rfl) ?_ | refine awOps_no (by rfl) (by rfl) ?_ | refine awOps_yes0 (by rfl) (by rfl) (by rfl) (by simp  only [go_sem, ↓reduceIte, Nat.reduceEqDiff, reduceCtorEq, Nat.reduceAdd, Nat.reduceMul, Nat.reduceLeDiff, aLoad, aStore, upd_same]; exact rfl) ?_ | fail)
  refine awOps_nil (hK _ _ ?_)
  clear hK K
  refine aw_block ?_
  refine aw_region_seq C (pb := false) rfl fun K hK => ?_
  repeat' (first | refine awOps_yes (by rfl) (by rfl) (by rfl) (by simp  only [go_sem, ↓reduceIte, Nat.reduceEqDiff, reduceCtorEq, Nat.reduceAdd, Nat.reduceMul, Nat.reduceLeDiff, aLoad, aStore]; exact rfl) ?_ | refine awOps_no (by rfl) (by rfl) ?_ | refine awOps_yes0 (by rfl) (by rfl) (by rfl) (by simp  only [go_sem, ↓reduceIte, Nat.reduceEqDiff, reduceCtorEq, Nat.reduceAdd, Nat.reduceMul, Nat.reduceLeDiff, aLoad, aStore]; exact rfl) ?_ | fail)
  refine awOps_nil (hK _ _ ?_)
  clear hK K
  refine aw_cond (by rfl) ?_ ?_
  · intro hc0
    exact absurd hc0 (by decide)
  · intro hc0
    refine aw_region_seq C (pb := false) rfl fun K hK => ?_
    repeat' (first | refine awOps_yes (by rfl) (by rfl) (by rfl) (by simp  only [go_sem, ↓reduceIte, Nat.reduceEqDiff, reduceCtorEq, Nat.reduceAdd, Nat.reduceMul, Nat.reduceLeDiff, aLoad, aStore]; exact rfl) ?_ | refine awOps_no (by rfl) (by rfl) ?_ | refine awOps_yes0 (by rfl) (by rfl) (by rfl) (by simp  only [go_sem, ↓reduceIte, Nat.reduceEqDiff, reduceCtorEq, Nat.reduceAdd, Nat.reduceMul, Nat.reduceLeDiff, aLoad, aStore]; exact rfl) ?_ | fail)
    refine awOps_nil (hK _ _ ?_)
    clear hK K
    refine aw_cond (by rfl) ?_ ?_
    · intro hc1
      refine aw_region_seq C (pb := false) rfl fun K hK => ?_
      repeat' (first | refine awOps_yes (by rfl) (by rfl) (by rfl) (by simp  only [go_sem, ↓reduceIte, Nat.reduceEqDiff, reduceCtorEq, Nat.reduceAdd, Nat.reduceMul, Nat.reduceLeDiff, aLoad, aStore, upd_same, pl41, aEq, eqCells, eqSc, beq_self_eq_true, Bool.and_true, zeroA, C, E]; exact rfl) ?_ | refine awOps_no (by rfl) (by rfl) ?_ | refine awOps_yes0 (by rfl) (by rfl) (by rfl) (by simp  only [go_sem, ↓reduceIte, Nat.reduceEqDiff, reduceCtorEq, Nat.reduceAdd, Nat.reduceMul, Nat.reduceLeDiff, aLoad, aStore, upd_same, pl41, aEq, eqCells, eqSc, beq_self_eq_true, Bool.and_true, zeroA, C, E]; exact rfl) ?_ | fail)
      try (first | (refine awOps_call (by rfl) (by rfl) (by rfl) (And.intro Try.call84 (fn84t L n (-2147483647) 2147483647 _ hn)) ?_; rintro _ _ ⟨rfl, rfl⟩) | refine awOps_no (by rfl) (by rfl) ?_ | fail)
      repeat' (first | refine awOps_yes (by rfl) (by rfl) (by rfl) (by simp  only [go_sem, ↓reduceIte, Nat.reduceEqDiff, reduceCtorEq, Nat.reduceAdd, Nat.reduceMul, Nat.reduceLeDiff, aLoad, aStore, upd_same, pl41, aEq, eqCells, eqSc, beq_self_eq_true, Bool.and_true, zeroA, C, E]; exact rfl) ?_ | refine awOps_no (by rfl) (by rfl) ?_ | refine awOps_yes0 (by rfl) (by rfl) (by rfl) (by simp  only [go_sem, ↓reduceIte, Nat.reduceEqDiff, reduceCtorEq, Nat.reduceAdd, Nat.reduceMul, Nat.reduceLeDiff, aLoad, aStore, upd_same, pl41, aEq, eqCells, eqSc, beq_self_eq_true, Bool.and_true, zeroA, C, E]; exact rfl) ?_ | fail)
      refine awOps_nil (hK _ _ ?_)
      clear hK K
      refine aw_ret ?_
      try simp only [thenA_normal, thenA_ret, thenA_exit, blockA_normal, blockA_ret, blockA_exit]
      simp only [go_sem, ↓reduceIte, Nat.reduceEqDiff, reduceCtorEq, Nat.reduceAdd, Nat.reduceMul, Nat.reduceLeDiff, aLoad, aStore, FnQ, resA]
      -- 0f1t.ret
      exact fun _ => ⟨by first | rfl | trivial, fun i hi => by first | rfl | exact upd_ne _ _ (by omega) | exact (upd_ne _ _ (by omega)).trans (upd_ne _ _ (by omega)), by first | rfl | trivial, by first | rfl | trivial⟩
    · intro hc1
      exact absurd hc1 (by decide)
theorem fn99c (L : Loops) (n : Int) (nm : ByteArray) (s : Me) (hn : 0 ≤ n ∧ n ≤ 6) (hs : 1 ≤ nm.size ∧ nm.size ≤ 12) (hb : ∀ b ∈ nm.data.toList, 32 ≤ b.toNat ∧ b.toNat ≤ 126 ∧ b.toNat ≠ 39) : FnL Try.prog L 99 [.agg [.sc (.int .i64 3), .sc (.str nm), .sc (.int .i64 n)]] s fun r s' => (r = vB true) ∧ s' = s := by
  refine FnL.pure (R := fun r => r = vB true) ?_
  refine fn_of_body (ts := [2]) Try.func99 bod99 rfl (by simp) (by simp [Try.ntmps99]) fun D0 => ?_
  unfold Try.f99
  simp only [Option.getD_some, initSl]
  refine aw_region_seq C (pb := false) rfl fun K hK => ?_
  repeat' (first | refine awOps_yes (by rfl) (by rfl) (by rfl) (by simp  only [go_sem, ↓reduceIte, Nat.reduceEqDiff, reduceCtorEq, Nat.reduceAdd, Nat.reduceMul, Nat.reduceLeDiff, aLoad, aStore]; exact rfl) ?_ | refine awOps_no (by rfl) (by rfl) ?_ | refine awOps_yes0 (by rfl) (by rfl) (by rfl) (by simp  only [go_sem, ↓reduceIte, Nat.reduceEqDiff, reduceCtorEq, Nat.reduceAdd, Nat.reduceMul, Nat.reduceLeDiff, aLoad, aStore]; exact rfl) ?_ | fail)
  refine awOps_nil (hK _ _ ?_)
  clear hK K
  refine aw_seq ?_
  refine aw_region_seq C (pb := false) rfl fun K hK => ?_
  repeat' (first | refine awOps_yes (by rfl) (by rfl) (by rfl) (by simp  only [go_sem, ↓reduceIte, Nat.reduceEqDiff, reduceCtorEq, Nat.reduceAdd, Nat.reduceMul, Nat.reduceLeDiff, aLoad, aStore, upd_same]; exact rfl) ?_ | refine awOps_no (by rfl) (by rfl) ?_ | refine awOps_yes0 (by rfl) (by rfl) (by rfl) (by simp  only [go_sem, ↓reduceIte, Nat.reduceEqDiff, reduceCtorEq, Nat.reduceAdd, Nat.reduceMul, Nat.reduceLeDiff, aLoad, aStore, upd_same]; exact rfl) ?_ | fail)
  refine awOps_nil (hK _ _ ?_)
  clear hK K
  refine aw_block ?_
  refine aw_region_seq C (pb := false) rfl fun K hK => ?_
  repeat' (first | refine awOps_yes (by rfl) (by rfl) (by rfl) (by simp  only [go_sem, ↓reduceIte, Nat.reduceEqDiff, reduceCtorEq, Nat.reduceAdd, Nat.reduceMul, Nat.reduceLeDiff, aLoad, aStore]; exact rfl) ?_ | refine awOps_no (by rfl) (by rfl) ?_ | refine awOps_yes0 (by rfl) (by rfl) (by rfl) (by simp  only [go_sem, ↓reduceIte, Nat.reduceEqDiff, reduceCtorEq, Nat.reduceAdd, Nat.reduceMul, Nat.reduceLeDiff, aLoad, aStore]; exact rfl) ?_ | fail)
  refine awOps_nil (hK _ _ ?_)
  clear hK K
  refine aw_cond (by rfl) ?_ ?_
  · intro hc0
    exact absurd hc0 (by decide)
  · intro hc0
    refine aw_region_seq C (pb := false) rfl fun K hK => ?_
    repeat' (first | refine awOps_yes (by rfl) (by rfl) (by rfl) (by simp  only [go_sem, ↓reduceIte, Nat.reduceEqDiff, reduceCtorEq, Nat.reduceAdd, Nat.reduceMul, Nat.reduceLeDiff, aLoad, aStore]; exact rfl) ?_ | refine awOps_no (by rfl) (by rfl) ?_ | refine awOps_yes0 (by rfl) (by rfl) (by rfl) (by simp  only [go_sem, ↓reduceIte, Nat.reduceEqDiff, reduceCtorEq, Nat.reduceAdd, Nat.reduceMul, Nat.reduceLeDiff, aLoad, aStore]; exact rfl) ?_ | fail)
    refine awOps_nil (hK _ _ ?_)
    clear hK K
    refine aw_cond (by rfl) ?_ ?_
    · intro hc1
      exact absurd hc1 (by decide)
    · intro hc1
      refine aw_region_seq C (pb := false) rfl fun K hK => ?_
      repeat' (first | refine awOps_yes (by rfl) (by rfl) (by rfl) (by simp  only [go_sem, ↓reduceIte, Nat.reduceEqDiff, reduceCtorEq, Nat.reduceAdd, Nat.reduceMul, Nat.reduceLeDiff, aLoad, aStore]; exact rfl) ?_ | refine awOps_no (by rfl) (by rfl) ?_ | refine awOps_yes0 (by rfl) (by rfl) (by rfl) (by simp  only [go_sem, ↓reduceIte, Nat.reduceEqDiff, reduceCtorEq, Nat.reduceAdd, Nat.reduceMul, Nat.reduceLeDiff, aLoad, aStore]; exact rfl) ?_ | fail)
      refine awOps_nil (hK _ _ ?_)
      clear hK K
      refine aw_cond (by rfl) ?_ ?_
      · intro hc2
        refine aw_region_seq C (pb := false) rfl fun K hK => ?_
        repeat' (first | refine awOps_yes (by rfl) (by rfl) (by rfl) (by simp  only [go_sem, ↓reduceIte, Nat.reduceEqDiff, reduceCtorEq, Nat.reduceAdd, Nat.reduceMul, Nat.reduceLeDiff, aLoad, aStore]; exact rfl) ?_ | refine awOps_no (by rfl) (by rfl) ?_ | refine awOps_yes0 (by rfl) (by rfl) (by rfl) (by simp  only [go_sem, ↓reduceIte, Nat.reduceEqDiff, reduceCtorEq, Nat.reduceAdd, Nat.reduceMul, Nat.reduceLeDiff, aLoad, aStore]; exact rfl) ?_ | fail)
        refine awOps_nil (hK _ _ ?_)
        clear hK K
        refine aw_region_seq C (pb := false) rfl fun K hK => ?_
        repeat' (first | refine awOps_yes (by rfl) (by rfl) (by rfl) (by simp (disch := omega) only [go_sem, ↓reduceIte, Nat.reduceEqDiff, reduceCtorEq, Nat.reduceAdd, Nat.reduceMul, Nat.reduceLeDiff, aLoad, aStore, upd_same, lenS, rn120 (show nm.size ≤ 1000000 by omega), upd_ne]; exact rfl) ?_ | refine awOps_no (by rfl) (by rfl) ?_ | refine awOps_yes0 (by rfl) (by rfl) (by rfl) (by simp (disch := omega) only [go_sem, ↓reduceIte, Nat.reduceEqDiff, reduceCtorEq, Nat.reduceAdd, Nat.reduceMul, Nat.reduceLeDiff, aLoad, aStore, upd_same, lenS, rn120 (show nm.size ≤ 1000000 by omega), upd_ne]; exact rfl) ?_ | fail)
        (refine awOps_call (by rfl) (by rfl) (by rfl) (And.intro Try.call84 (fn84t L n 0 6 _ hn)) ?_; rintro _ _ ⟨rfl, rfl⟩)
        repeat' (first | refine awOps_yes (by rfl) (by rfl) (by rfl) (by simp (disch := omega) only [go_sem, ↓reduceIte, Nat.reduceEqDiff, reduceCtorEq, Nat.reduceAdd, Nat.reduceMul, Nat.reduceLeDiff, aLoad, aStore, upd_same, lenS, rn120 (show nm.size ≤ 1000000 by omega), upd_ne]; exact rfl) ?_ | refine awOps_no (by rfl) (by rfl) ?_ | refine awOps_yes0 (by rfl) (by rfl) (by rfl) (by simp (disch := omega) only [go_sem, ↓reduceIte, Nat.reduceEqDiff, reduceCtorEq, Nat.reduceAdd, Nat.reduceMul, Nat.reduceLeDiff, aLoad, aStore, upd_same, lenS, rn120 (show nm.size ≤ 1000000 by omega), upd_ne]; exact rfl) ?_ | fail)
        try (first | (refine awOps_call (by rfl) (by rfl) (by rfl) (And.intro Try.call84 (fn84t L (nm.size : Int) 1 12 _ (by omega))) ?_; rintro _ _ ⟨rfl, rfl⟩) | refine awOps_no (by rfl) (by rfl) ?_ | fail)
        repeat' (first | refine awOps_yes (by rfl) (by rfl) (by rfl) (by simp (disch := omega) only [go_sem, ↓reduceIte, Nat.reduceEqDiff, reduceCtorEq, Nat.reduceAdd, Nat.reduceMul, Nat.reduceLeDiff, aLoad, aStore, upd_same, lenS, rn120 (show nm.size ≤ 1000000 by omega), upd_ne]; exact rfl) ?_ | refine awOps_no (by rfl) (by rfl) ?_ | refine awOps_yes0 (by rfl) (by rfl) (by rfl) (by simp (disch := omega) only [go_sem, ↓reduceIte, Nat.reduceEqDiff, reduceCtorEq, Nat.reduceAdd, Nat.reduceMul, Nat.reduceLeDiff, aLoad, aStore, upd_same, lenS, rn120 (show nm.size ≤ 1000000 by omega), upd_ne]; exact rfl) ?_ | fail)
        try (first | (refine awOps_call (by rfl) (by rfl) (by rfl) (And.intro Try.call107 (fn107 L (runesL nm nm.size 0) _ _ (by first | omega | (dsimp only; omega) | (dsimp only at *; omega)) (upd_same _ _ _) (by have := runesL_len nm nm.size 0; omega) (runes_fine hb _ _))) ?_; rintro _ _ ⟨rfl, rfl⟩) | refine awOps_no (by rfl) (by rfl) ?_ | fail)
        repeat' (first | refine awOps_yes (by rfl) (by rfl) (by rfl) (by simp (disch := omega) only [go_sem, ↓reduceIte, Nat.reduceEqDiff, reduceCtorEq, Nat.reduceAdd, Nat.reduceMul, Nat.reduceLeDiff, aLoad, aStore, upd_same, lenS, rn120 (show nm.size ≤ 1000000 by omega), upd_ne]; exact rfl) ?_ | refine awOps_no (by rfl) (by rfl) ?_ | refine awOps_yes0 (by rfl) (by rfl) (by rfl) (by simp (disch := omega) only [go_sem, ↓reduceIte, Nat.reduceEqDiff, reduceCtorEq, Nat.reduceAdd, Nat.reduceMul, Nat.reduceLeDiff, aLoad, aStore, upd_same, lenS, rn120 (show nm.size ≤ 1000000 by omega), upd_ne]; exact rfl) ?_ | fail)
        refine awOps_nil (hK _ _ ?_)
        clear hK K
        refine aw_ret ?_
        try simp only [thenA_normal, thenA_ret, thenA_exit, blockA_normal, blockA_ret, blockA_exit]
        simp only [go_sem, ↓reduceIte, Nat.reduceEqDiff, reduceCtorEq, Nat.reduceAdd, Nat.reduceMul, Nat.reduceLeDiff, aLoad, aStore, FnQ, resA]
        -- 0f1f2t.ret
        exact fun _ => ⟨by first | rfl | trivial, fun i hi => by first | rfl | exact upd_ne _ _ (by omega) | exact (upd_ne _ _ (by omega)).trans (upd_ne _ _ (by omega)), by first | rfl | trivial, by first | rfl | trivial⟩
      · intro hc2
        exact absurd hc2 (by decide)
theorem name_nil {s : ByteArray} (h : (s.toList == noName.toList) = true) : s = ⟨#[]⟩ := by
  have h1 : (s == noName) = true := by rw [bytes_beq]; exact h
  rw [ba_beq] at h1
  obtain ⟨d⟩ := s
  have h2 : d = #[] := eq_of_beq h1
  rw [h2]
theorem fn99 (L : Loops) (c : Cell) (s : Me) (h : cellOk c = true) : FnL Try.prog L 99 [aggC c] s fun r s' => r = vB true ∧ s' = s := by
  obtain ⟨k, nm, n⟩ := c
  unfold cellOk at h
  dsimp only at h
  split at h
  · rename_i hk
    subst hk
    simp only [Bool.and_eq_true, decide_eq_true_eq] at h
    obtain rfl := name_nil h.1.1
    exact fn99a L n s ⟨h.1.2, h.2⟩
  split at h
  · rename_i hk
    subst hk
    simp only [Bool.and_eq_true, decide_eq_true_eq] at h
    obtain rfl := name_nil h.1.1
    exact fn99b L n s ⟨h.1.2, h.2⟩
  split at h
  · rename_i hk
    subst hk
    simp only [nameOk, Bool.and_eq_true, decide_eq_true_eq, List.all_eq_true, byteOk] at h
    exact fn99c L n nm s ⟨h.1.2, h.2⟩ h.1.1.2 fun b hb => by have := h.1.1.1 b hb; omega
  · cases h
end Go.Am.Seat
/-
  MADE BY PROGRAM (am.py): the walks of functions 62.
-/
namespace Go.Am.Seat
open Go.Proofs

def big : Nat := 2199023255552
/-- The place behind the term that begins at i, o of which are open. -/
def endG : List Cell → Int → Nat → Int
  | [], _, _ => -1
  | c :: l, o, i => if cellOk c then (if (if c.kind = 3 then o - 1 + c.n else o - 1) = 0 then (i : Int) + 1 else endG l (if c.kind = 3 then o - 1 + c.n else o - 1) (i + 1)) else -1
theorem cellOk_n {c : Cell} (h : cellOk c = true) (hk : c.kind = 3) : 0 ≤ c.n ∧ c.n ≤ 6 := by
  rw [cellOk, if_neg (by omega), if_neg (by omega), if_pos hk] at h
  simp only [Bool.and_eq_true, decide_eq_true_eq] at h
  omega

theorem bod62 : Try.f62.body = some (Try.f62.body.getD .skip) := rfl
theorem fn62 (L : Loops) (t : List Cell) (at_ : Nat) (s : Me) (x : Sc) (hx : GSl encC x t) (hl : t.length ≤ 281474976710656) (hn : ∀ c ∈ t, c.name.size ≤ 1152921504606846976) (hat : at_ ≤ 281474976710656) : FnL Try.prog L 62 [.av (.sc x), vI at_] s fun r s' => (r = vI (endG (t.drop at_) 1 at_)) ∧ s' = s := by
  refine FnL.pure (R := fun r => r = vI (endG (t.drop at_) 1 at_)) ?_
  refine fn_of_body (ts := [4]) Try.func62 bod62 rfl (by simp) (by simp [Try.ntmps62]) fun D0 => ?_
  unfold Try.f62
  simp only [Option.getD_some, initSl]
  refine aw_region_seq C (pb := false) rfl fun K hK => ?_
  repeat' (first | refine awOps_yes (by rfl) (by rfl) (by rfl) (by simp  only [go_sem, ↓reduceIte, Nat.reduceEqDiff, reduceCtorEq, Nat.reduceAdd, Nat.reduceMul, Nat.reduceLeDiff, aLoad, aStore]; exact rfl) ?_ | refine awOps_no (by rfl) (by rfl) ?_ | refine awOps_yes0 (by rfl) (by rfl) (by rfl) (by simp  only [go_sem, ↓reduceIte, Nat.reduceEqDiff, reduceCtorEq, Nat.reduceAdd, Nat.reduceMul, Nat.reduceLeDiff, aLoad, aStore]; exact rfl) ?_ | fail)
  refine awOps_nil (hK _ _ ?_)
  clear hK K
  refine aw_region_seq C (pb := false) rfl fun K hK => ?_
  repeat' (first | refine awOps_yes (by rfl) (by rfl) (by rfl) (by simp  only [go_sem, ↓reduceIte, Nat.reduceEqDiff, reduceCtorEq, Nat.reduceAdd, Nat.reduceMul, Nat.reduceLeDiff, aLoad, aStore]; exact rfl) ?_ | refine awOps_no (by rfl) (by rfl) ?_ | refine awOps_yes0 (by rfl) (by rfl) (by rfl) (by simp  only [go_sem, ↓reduceIte, Nat.reduceEqDiff, reduceCtorEq, Nat.reduceAdd, Nat.reduceMul, Nat.reduceLeDiff, aLoad, aStore]; exact rfl) ?_ | fail)
  refine awOps_nil (hK _ _ ?_)
  clear hK K
  refine aw_seq ?_
  refine aw_region_seq C (pb := false) rfl fun K hK => ?_
  repeat' (first | refine awOps_yes (by rfl) (by rfl) (by rfl) (by simp  only [go_sem, ↓reduceIte, Nat.reduceEqDiff, reduceCtorEq, Nat.reduceAdd, Nat.reduceMul, Nat.reduceLeDiff, aLoad, aStore]; exact rfl) ?_ | refine awOps_no (by rfl) (by rfl) ?_ | refine awOps_yes0 (by rfl) (by rfl) (by rfl) (by simp  only [go_sem, ↓reduceIte, Nat.reduceEqDiff, reduceCtorEq, Nat.reduceAdd, Nat.reduceMul, Nat.reduceLeDiff, aLoad, aStore]; exact rfl) ?_ | fail)
  refine awOps_nil (hK _ _ ?_)
  clear hK K
  refine aw_block ?_
  refine AW.less (sl' := [(0, .av (.sc x)), (5, vI (1)), (6, vI (at_))]) (AllIn.less ⟨rfl, rfl, rfl, trivial⟩) (aw_loop (fun k sl1 s1 => ∃ (i : Nat) (o : Int), k = t.length - i ∧ sl1 = [(0, .av (.sc x)), (5, vI (o)), (6, vI (i))] ∧ (Kp s s1) ∧ (-(i : Int) ≤ o ∧ o ≤ 1 + 6 * (i : Int) ∧ i ≤ at_ + t.length) ∧ (endG (t.drop i) o i = endG (t.drop at_) 1 at_)) (k := t.length - (at_)) ⟨at_, 1, rfl, rfl, (Kp.refl s).up (by omega), by omega, rfl⟩ ?_)
  rintro k1 _ s1 ⟨i, o, hk1, rfl, hs1, hb, h3⟩
  refine aw_seq ?_
  refine aw_region_seq C (pb := false) rfl fun K hK => ?_
  repeat' (first | refine awOps_yes (by rfl) (by rfl) (by rfl) (by simp  only [go_sem, ↓reduceIte, Nat.reduceEqDiff, reduceCtorEq, Nat.reduceAdd, Nat.reduceMul, Nat.reduceLeDiff, aLoad, aStore, lenC hx]; exact rfl) ?_ | refine awOps_no (by rfl) (by rfl) ?_ | refine awOps_yes0 (by rfl) (by rfl) (by rfl) (by simp  only [go_sem, ↓reduceIte, Nat.reduceEqDiff, reduceCtorEq, Nat.reduceAdd, Nat.reduceMul, Nat.reduceLeDiff, aLoad, aStore, lenC hx]; exact rfl) ?_ | fail)
  refine awOps_nil (hK _ _ ?_)
  clear hK K
  refine aw_cond (by rfl) ?_ ?_
  · intro hc0
    try simp only [decide_eq_true_eq, decide_eq_false_iff_not] at hc0
    have hi2 : i < t.length := by omega
    have hdrop : t.drop i = t[i] :: t.drop (i + 1) := List.drop_eq_getElem_cons hi2
    have hni := hn t[i] (List.getElem_mem hi2)
    refine aw_skip ?_
    simp only [thenA_normal, thenA_ret, thenA_exit, blockA_normal, blockA_ret, blockA_exit, ↓reduceIte, Nat.reduceEqDiff]
    refine aw_seq ?_
    refine aw_block ?_
    refine aw_seq ?_
    refine aw_region_seq C (pb := false) rfl fun K hK => ?_
    repeat' (first | refine awOps_yes (by rfl) (by rfl) (by rfl) (by simp  only [go_sem, ↓reduceIte, Nat.reduceEqDiff, reduceCtorEq, Nat.reduceAdd, Nat.reduceMul, Nat.reduceLeDiff, aLoad, aStore, idxC hx hi2]; exact rfl) ?_ | refine awOps_no (by rfl) (by rfl) ?_ | refine awOps_yes0 (by rfl) (by rfl) (by rfl) (by simp  only [go_sem, ↓reduceIte, Nat.reduceEqDiff, reduceCtorEq, Nat.reduceAdd, Nat.reduceMul, Nat.reduceLeDiff, aLoad, aStore, idxC hx hi2]; exact rfl) ?_ | fail)
    (refine awOps_call (by rfl) (by rfl) (by rfl) (And.intro Try.call79 (fn79 L t[i] _ hni)) ?_; rintro _ _ ⟨rfl, rfl⟩)
    repeat' (first | refine awOps_yes (by rfl) (by rfl) (by rfl) (by simp  only [go_sem, ↓reduceIte, Nat.reduceEqDiff, reduceCtorEq, Nat.reduceAdd, Nat.reduceMul, Nat.reduceLeDiff, aLoad, aStore, idxC hx hi2]; exact rfl) ?_ | refine awOps_no (by rfl) (by rfl) ?_ | refine awOps_yes0 (by rfl) (by rfl) (by rfl) (by simp  only [go_sem, ↓reduceIte, Nat.reduceEqDiff, reduceCtorEq, Nat.reduceAdd, Nat.reduceMul, Nat.reduceLeDiff, aLoad, aStore, idxC hx hi2]; exact rfl) ?_ | fail)
    refine awOps_nil (hK _ _ ?_)
    clear hK K
    refine aw_cond (by rfl) ?_ ?_
    · intro hc1
      try simp only [Bool.not_eq_true', Bool.not_eq_false'] at hc1
      refine aw_region_seq C (pb := false) rfl fun K hK => ?_
      repeat' (first | refine awOps_yes (by rfl) (by rfl) (by rfl) (by simp  only [go_sem, ↓reduceIte, Nat.reduceEqDiff, reduceCtorEq, Nat.reduceAdd, Nat.reduceMul, Nat.reduceLeDiff, aLoad, aStore]; exact rfl) ?_ | refine awOps_no (by rfl) (by rfl) ?_ | refine awOps_yes0 (by rfl) (by rfl) (by rfl) (by simp  only [go_sem, ↓reduceIte, Nat.reduceEqDiff, reduceCtorEq, Nat.reduceAdd, Nat.reduceMul, Nat.reduceLeDiff, aLoad, aStore]; exact rfl) ?_ | fail)
      refine awOps_nil (hK _ _ ?_)
      clear hK K
      refine aw_ret ?_
      try simp only [thenA_normal, thenA_ret, thenA_exit, blockA_normal, blockA_ret, blockA_exit]
      simp only [go_sem, ↓reduceIte, Nat.reduceEqDiff, reduceCtorEq, Nat.reduceAdd, Nat.reduceMul, Nat.reduceLeDiff, aLoad, aStore, FnQ, resA]
      -- 0t1t.ret
      refine fun _ => ⟨by first | rfl | trivial, hs1.2.1, hs1.2.2, ?_⟩
      rw [← h3, hdrop, endG, if_neg (by rw [hc1]; exact Bool.false_ne_true)]
    · intro hc1
      try simp only [Bool.not_eq_true', Bool.not_eq_false'] at hc1
      have hk3 : cellOk t[i] = true := by simpa using hc1
      refine aw_skip ?_
      simp only [thenA_normal, thenA_ret, thenA_exit, blockA_normal, blockA_ret, blockA_exit, ↓reduceIte, Nat.reduceEqDiff]
      refine aw_region_seq C (pb := false) rfl fun K hK => ?_
      repeat' (first | refine awOps_yes (by rfl) (by rfl) (by rfl) (by simp  only [go_sem, ↓reduceIte, Nat.reduceEqDiff, reduceCtorEq, Nat.reduceAdd, Nat.reduceMul, Nat.reduceLeDiff, aLoad, aStore, wrap_small (o - 1) (by omega) (by omega)]; exact rfl) ?_ | refine awOps_no (by rfl) (by rfl) ?_ | refine awOps_yes0 (by rfl) (by rfl) (by rfl) (by simp  only [go_sem, ↓reduceIte, Nat.reduceEqDiff, reduceCtorEq, Nat.reduceAdd, Nat.reduceMul, Nat.reduceLeDiff, aLoad, aStore, wrap_small (o - 1) (by omega) (by omega)]; exact rfl) ?_ | fail)
      refine awOps_nil (hK _ _ ?_)
      clear hK K
      refine aw_seq ?_
      refine aw_region_seq C (pb := false) rfl fun K hK => ?_
      repeat' (first | refine awOps_yes (by rfl) (by rfl) (by rfl) (by simp  only [go_sem, ↓reduceIte, Nat.reduceEqDiff, reduceCtorEq, Nat.reduceAdd, Nat.reduceMul, Nat.reduceLeDiff, aLoad, aStore, idxC hx hi2]; exact rfl) ?_ | refine awOps_no (by rfl) (by rfl) ?_ | refine awOps_yes0 (by rfl) (by rfl) (by rfl) (by simp  only [go_sem, ↓reduceIte, Nat.reduceEqDiff, reduceCtorEq, Nat.reduceAdd, Nat.reduceMul, Nat.reduceLeDiff, aLoad, aStore, idxC hx hi2]; exact rfl) ?_ | fail)
      refine awOps_nil (hK _ _ ?_)
      clear hK K
      refine aw_cond (by rfl) ?_ ?_
      · intro hc2
        try simp only [beq_iff_eq, beq_eq_false_iff_ne, ne_eq] at hc2
        refine aw_region C (pb := false) rfl ?_
        repeat' (first | refine awOps_yes (by rfl) (by rfl) (by rfl) (by simp  only [go_sem, ↓reduceIte, Nat.reduceEqDiff, reduceCtorEq, Nat.reduceAdd, Nat.reduceMul, Nat.reduceLeDiff, aLoad, aStore, idxC hx hi2, wrap_small (o - 1 + t[i].n) (by have := cellOk_n hk3 hc2; omega) (by have := cellOk_n hk3 hc2; omega)]; exact rfl) ?_ | refine awOps_no (by rfl) (by rfl) ?_ | refine awOps_yes0 (by rfl) (by rfl) (by rfl) (by simp  only [go_sem, ↓reduceIte, Nat.reduceEqDiff, reduceCtorEq, Nat.reduceAdd, Nat.reduceMul, Nat.reduceLeDiff, aLoad, aStore, idxC hx hi2, wrap_small (o - 1 + t[i].n) (by have := cellOk_n hk3 hc2; omega) (by have := cellOk_n hk3 hc2; omega)]; exact rfl) ?_ | fail)
        refine awOps_nil ?_
        try simp only [thenA_normal, thenA_ret, thenA_exit, blockA_normal, blockA_ret, blockA_exit]
        refine aw_region_seq C (pb := false) rfl fun K hK => ?_
        repeat' (first | refine awOps_yes (by rfl) (by rfl) (by rfl) (by simp  only [go_sem, ↓reduceIte, Nat.reduceEqDiff, reduceCtorEq, Nat.reduceAdd, Nat.reduceMul, Nat.reduceLeDiff, aLoad, aStore]; exact rfl) ?_ | refine awOps_no (by rfl) (by rfl) ?_ | refine awOps_yes0 (by rfl) (by rfl) (by rfl) (by simp  only [go_sem, ↓reduceIte, Nat.reduceEqDiff, reduceCtorEq, Nat.reduceAdd, Nat.reduceMul, Nat.reduceLeDiff, aLoad, aStore]; exact rfl) ?_ | fail)
        refine awOps_nil (hK _ _ ?_)
        clear hK K
        refine aw_cond (by rfl) ?_ ?_
        · intro hc3
          try simp only [beq_iff_eq, beq_eq_false_iff_ne, ne_eq] at hc3
          refine aw_region_seq C (pb := false) rfl fun K hK => ?_
          repeat' (first | refine awOps_yes (by rfl) (by rfl) (by rfl) (by simp  only [go_sem, ↓reduceIte, Nat.reduceEqDiff, reduceCtorEq, Nat.reduceAdd, Nat.reduceMul, Nat.reduceLeDiff, aLoad, aStore, wrap_small ((i : Int) + 1) (by omega) (by omega)]; exact rfl) ?_ | refine awOps_no (by rfl) (by rfl) ?_ | refine awOps_yes0 (by rfl) (by rfl) (by rfl) (by simp  only [go_sem, ↓reduceIte, Nat.reduceEqDiff, reduceCtorEq, Nat.reduceAdd, Nat.reduceMul, Nat.reduceLeDiff, aLoad, aStore, wrap_small ((i : Int) + 1) (by omega) (by omega)]; exact rfl) ?_ | fail)
          refine awOps_nil (hK _ _ ?_)
          clear hK K
          refine aw_ret ?_
          try simp only [thenA_normal, thenA_ret, thenA_exit, blockA_normal, blockA_ret, blockA_exit]
          simp only [go_sem, ↓reduceIte, Nat.reduceEqDiff, reduceCtorEq, Nat.reduceAdd, Nat.reduceMul, Nat.reduceLeDiff, aLoad, aStore, FnQ, resA]
          -- 0t1f2t3t.ret
          refine fun _ => ⟨by first | rfl | trivial, hs1.2.1, hs1.2.2, ?_⟩
          rw [← h3, hdrop, endG, if_pos hk3, if_pos hc2, if_pos hc3]
        · intro hc3
          try simp only [beq_iff_eq, beq_eq_false_iff_ne, ne_eq] at hc3
          refine aw_skip ?_
          simp only [thenA_normal, thenA_ret, thenA_exit, blockA_normal, blockA_ret, blockA_exit, ↓reduceIte, Nat.reduceEqDiff]
          refine aw_region C (pb := false) rfl ?_
          repeat' (first | refine awOps_yes (by rfl) (by rfl) (by rfl) (by simp  only [go_sem, ↓reduceIte, Nat.reduceEqDiff, reduceCtorEq, Nat.reduceAdd, Nat.reduceMul, Nat.reduceLeDiff, aLoad, aStore, wrap_small ((i : Int) + 1) (by omega) (by omega)]; exact rfl) ?_ | refine awOps_no (by rfl) (by rfl) ?_ | refine awOps_yes0 (by rfl) (by rfl) (by rfl) (by simp  only [go_sem, ↓reduceIte, Nat.reduceEqDiff, reduceCtorEq, Nat.reduceAdd, Nat.reduceMul, Nat.reduceLeDiff, aLoad, aStore, wrap_small ((i : Int) + 1) (by omega) (by omega)]; exact rfl) ?_ | fail)
          refine awOps_nil ?_
          try simp only [thenA_normal, thenA_ret, thenA_exit, blockA_normal, blockA_ret, blockA_exit]
          -- end of round 0 at 0t1f2t3f
          refine ⟨t.length - (i + 1), [(0, .av (.sc x)), (5, vI (o - 1 + t[i].n)), (6, vI (i + 1))], by omega, AllIn.less ⟨rfl, rfl, rfl, trivial⟩, i + 1, o - 1 + t[i].n, rfl, rfl, ?_, ?_, ?_⟩
          · exact hs1.up (by omega)
          · have := cellOk_n hk3 hc2
            omega
          · rw [← h3, hdrop, endG, if_pos hk3, if_pos hc2, if_neg hc3]
      · intro hc2
        try simp only [beq_iff_eq, beq_eq_false_iff_ne, ne_eq] at hc2
        refine aw_skip ?_
        simp only [thenA_normal, thenA_ret, thenA_exit, blockA_normal, blockA_ret, blockA_exit, ↓reduceIte, Nat.reduceEqDiff]
        refine aw_region_seq C (pb := false) rfl fun K hK => ?_
        repeat' (first | refine awOps_yes (by rfl) (by rfl) (by rfl) (by simp  only [go_sem, ↓reduceIte, Nat.reduceEqDiff, reduceCtorEq, Nat.reduceAdd, Nat.reduceMul, Nat.reduceLeDiff, aLoad, aStore]; exact rfl) ?_ | refine awOps_no (by rfl) (by rfl) ?_ | refine awOps_yes0 (by rfl) (by rfl) (by rfl) (by simp  only [go_sem, ↓reduceIte, Nat.reduceEqDiff, reduceCtorEq, Nat.reduceAdd, Nat.reduceMul, Nat.reduceLeDiff, aLoad, aStore]; exact rfl) ?_ | fail)
        refine awOps_nil (hK _ _ ?_)
        clear hK K
        refine aw_cond (by rfl) ?_ ?_
        · intro hc4
          try simp only [beq_iff_eq, beq_eq_false_iff_ne, ne_eq] at hc4
          refine aw_region_seq C (pb := false) rfl fun K hK => ?_
          repeat' (first | refine awOps_yes (by rfl) (by rfl) (by rfl) (by simp  only [go_sem, ↓reduceIte, Nat.reduceEqDiff, reduceCtorEq, Nat.reduceAdd, Nat.reduceMul, Nat.reduceLeDiff, aLoad, aStore, wrap_small ((i : Int) + 1) (by omega) (by omega)]; exact rfl) ?_ | refine awOps_no (by rfl) (by rfl) ?_ | refine awOps_yes0 (by rfl) (by rfl) (by rfl) (by simp  only [go_sem, ↓reduceIte, Nat.reduceEqDiff, reduceCtorEq, Nat.reduceAdd, Nat.reduceMul, Nat.reduceLeDiff, aLoad, aStore, wrap_small ((i : Int) + 1) (by omega) (by omega)]; exact rfl) ?_ | fail)
          refine awOps_nil (hK _ _ ?_)
          clear hK K
          refine aw_ret ?_
          try simp only [thenA_normal, thenA_ret, thenA_exit, blockA_normal, blockA_ret, blockA_exit]
          simp only [go_sem, ↓reduceIte, Nat.reduceEqDiff, reduceCtorEq, Nat.reduceAdd, Nat.reduceMul, Nat.reduceLeDiff, aLoad, aStore, FnQ, resA]
          -- 0t1f2f4t.ret
          refine fun _ => ⟨by first | rfl | trivial, hs1.2.1, hs1.2.2, ?_⟩
          rw [← h3, hdrop, endG, if_pos hk3, if_neg hc2, if_pos hc4]
        · intro hc4
          try simp only [beq_iff_eq, beq_eq_false_iff_ne, ne_eq] at hc4
          refine aw_skip ?_
          simp only [thenA_normal, thenA_ret, thenA_exit, blockA_normal, blockA_ret, blockA_exit, ↓reduceIte, Nat.reduceEqDiff]
          refine aw_region C (pb := false) rfl ?_
          repeat' (first | refine awOps_yes (by rfl) (by rfl) (by rfl) (by simp  only [go_sem, ↓reduceIte, Nat.reduceEqDiff, reduceCtorEq, Nat.reduceAdd, Nat.reduceMul, Nat.reduceLeDiff, aLoad, aStore, wrap_small ((i : Int) + 1) (by omega) (by omega)]; exact rfl) ?_ | refine awOps_no (by rfl) (by rfl) ?_ | refine awOps_yes0 (by rfl) (by rfl) (by rfl) (by simp  only [go_sem, ↓reduceIte, Nat.reduceEqDiff, reduceCtorEq, Nat.reduceAdd, Nat.reduceMul, Nat.reduceLeDiff, aLoad, aStore, wrap_small ((i : Int) + 1) (by omega) (by omega)]; exact rfl) ?_ | fail)
          refine awOps_nil ?_
          try simp only [thenA_normal, thenA_ret, thenA_exit, blockA_normal, blockA_ret, blockA_exit]
          -- end of round 0 at 0t1f2f4f
          refine ⟨t.length - (i + 1), [(0, .av (.sc x)), (5, vI (o - 1)), (6, vI (i + 1))], by omega, AllIn.less ⟨rfl, rfl, rfl, trivial⟩, i + 1, o - 1, rfl, rfl, ?_, ?_, ?_⟩
          · exact hs1.up (by omega)
          · omega
          · rw [← h3, hdrop, endG, if_pos hk3, if_neg hc2, if_neg hc4]
  · intro hc0
    try simp only [decide_eq_true_eq, decide_eq_false_iff_not] at hc0
    refine aw_exit ?_
    simp only [thenA_normal, thenA_ret, thenA_exit, blockA_normal, blockA_ret, blockA_exit, ↓reduceIte, Nat.reduceEqDiff]
    refine aw_region_seq C (pb := false) rfl fun K hK => ?_
    repeat' (first | refine awOps_yes (by rfl) (by rfl) (by rfl) (by simp  only [go_sem, ↓reduceIte, Nat.reduceEqDiff, reduceCtorEq, Nat.reduceAdd, Nat.reduceMul, Nat.reduceLeDiff, aLoad, aStore]; exact rfl) ?_ | refine awOps_no (by rfl) (by rfl) ?_ | refine awOps_yes0 (by rfl) (by rfl) (by rfl) (by simp  only [go_sem, ↓reduceIte, Nat.reduceEqDiff, reduceCtorEq, Nat.reduceAdd, Nat.reduceMul, Nat.reduceLeDiff, aLoad, aStore]; exact rfl) ?_ | fail)
    refine awOps_nil (hK _ _ ?_)
    clear hK K
    refine aw_ret ?_
    simp only [go_sem, ↓reduceIte, Nat.reduceEqDiff, reduceCtorEq, Nat.reduceAdd, Nat.reduceMul, Nat.reduceLeDiff, aLoad, aStore, FnQ, resA]
    -- 0f.x0.ret
    refine fun _ => ⟨by first | rfl | trivial, hs1.2.1, hs1.2.2, ?_⟩
    rw [← h3, List.drop_of_length_le (by omega), endG]
end Go.Am.Seat
/-
  MADE BY PROGRAM (am.py): the walks of functions 98.
-/
namespace Go.Am.Seat
open Go.Proofs

def Of98 (t : List Cell) (x : Sc) (F : Nat) : Prop := ∀ (L : Loops) (s : Me) (bt bv at_ kk : Nat), s.ob bt = .cs [.sc x] 0 → s.ob bv = .cs [.fn 98 [] [.ptr bt 0, .ptr bv 0]] 0 → bt < s.nx → bv < s.nx → kk ≤ F → takes (t.drop at_) 1 = some kk →
  FnL Try.prog L 98 [vI (at_ : Nat), .av (.ptr bt 0), .av (.ptr bv 0)] s fun r s' => r = vI ((at_ + kk : Nat) : Int) ∧ s' = s

-- many steps
theorem bod98 : Try.f98.body = some (Try.f98.body.getD .skip) := rfl
set_option maxHeartbeats 1000000 in
theorem fn98s (L : Loops) (F at_ kk bt bv : Nat) (t : List Cell) (s : Me) (x : Sc) (hx : GSl encC x t) (hl : t.length ≤ 1000000) (hok : ∀ c ∈ t, cellOk c = true) (ih : Of98 t x F) (hbt : s.ob bt = .cs [.sc x] 0) (hbv : s.ob bv = .cs [.fn 98 [] [.ptr bt 0, .ptr bv 0]] 0) (hn1 : bt < s.nx) (hn2 : bv < s.nx) (hkF : kk ≤ F + 1) (hk : takes (t.drop at_) 1 = some kk) : FnL Try.prog L 98 [vI (at_ : Nat), .av (.ptr bt 0), .av (.ptr bv 0)] s fun r s' => (r = vI ((at_ + kk : Nat) : Int)) ∧ s' = s := by
  refine FnL.pure (R := fun r => r = vI ((at_ + kk : Nat) : Int)) ?_
  have hat : at_ < t.length := by
    rcases Nat.lt_or_ge at_ t.length with h | h
    · exact h
    · rw [List.drop_of_length_le h] at hk; exact (takes_nil (by omega) hk).elim
  have hco := hok t[at_] (List.getElem_mem hat)
  have hk1 := hk
  rw [List.drop_eq_getElem_cons hat] at hk1
  obtain ⟨p0, hkp, hp0⟩ := takes_cons (by omega) hk1
  refine fn_of_body (ts := [4]) Try.func98 bod98 rfl (by simp) (by simp [Try.ntmps98]) fun D0 => ?_
  unfold Try.f98
  simp only [Option.getD_some, initSl]
  refine aw_region_seq C (pb := false) rfl fun K hK => ?_
  repeat' (first | refine awOps_yes (by rfl) (by rfl) (by rfl) (by simp  only [go_sem, ↓reduceIte, Nat.reduceEqDiff, reduceCtorEq, Nat.reduceAdd, Nat.reduceMul, Nat.reduceLeDiff, aLoad, aStore]; exact rfl) ?_ | refine awOps_no (by rfl) (by rfl) ?_ | refine awOps_yes0 (by rfl) (by rfl) (by rfl) (by simp  only [go_sem, ↓reduceIte, Nat.reduceEqDiff, reduceCtorEq, Nat.reduceAdd, Nat.reduceMul, Nat.reduceLeDiff, aLoad, aStore]; exact rfl) ?_ | fail)
  refine awOps_nil (hK _ _ ?_)
  clear hK K
  refine aw_seq ?_
  refine aw_region_seq C (pb := false) rfl fun K hK => ?_
  repeat' (first | refine awOps_yes (by rfl) (by rfl) (by rfl) (by simp  only [go_sem, ↓reduceIte, Nat.reduceEqDiff, reduceCtorEq, Nat.reduceAdd, Nat.reduceMul, Nat.reduceLeDiff, aLoad, aStore, hbt, lenC hx, show decide ((at_ : Int) ≥ (t.length : Int)) = false from decide_eq_false (by omega), idxC hx hat]; exact rfl) ?_ | refine awOps_no (by rfl) (by rfl) ?_ | refine awOps_yes0 (by rfl) (by rfl) (by rfl) (by simp  only [go_sem, ↓reduceIte, Nat.reduceEqDiff, reduceCtorEq, Nat.reduceAdd, Nat.reduceMul, Nat.reduceLeDiff, aLoad, aStore, hbt, lenC hx, show decide ((at_ : Int) ≥ (t.length : Int)) = false from decide_eq_false (by omega), idxC hx hat]; exact rfl) ?_ | fail)
  try (first | (refine awOps_call (by rfl) (by rfl) (by rfl) (And.intro Try.call99 (fn99 L t[at_] _ hco)) ?_; rintro _ _ ⟨rfl, rfl⟩) | refine awOps_no (by rfl) (by rfl) ?_ | fail)
  repeat' (first | refine awOps_yes (by rfl) (by rfl) (by rfl) (by simp  only [go_sem, ↓reduceIte, Nat.reduceEqDiff, reduceCtorEq, Nat.reduceAdd, Nat.reduceMul, Nat.reduceLeDiff, aLoad, aStore, hbt, lenC hx, show decide ((at_ : Int) ≥ (t.length : Int)) = false from decide_eq_false (by omega), idxC hx hat]; exact rfl) ?_ | refine awOps_no (by rfl) (by rfl) ?_ | refine awOps_yes0 (by rfl) (by rfl) (by rfl) (by simp  only [go_sem, ↓reduceIte, Nat.reduceEqDiff, reduceCtorEq, Nat.reduceAdd, Nat.reduceMul, Nat.reduceLeDiff, aLoad, aStore, hbt, lenC hx, show decide ((at_ : Int) ≥ (t.length : Int)) = false from decide_eq_false (by omega), idxC hx hat]; exact rfl) ?_ | fail)
  refine awOps_nil (hK _ _ ?_)
  clear hK K
  refine aw_cond (by rfl) ?_ ?_
  · intro hc0
    cases hc0
  · intro hc0
    refine aw_skip ?_
    simp only [thenA_normal, thenA_ret, thenA_exit, blockA_normal, blockA_ret, blockA_exit, ↓reduceIte, Nat.reduceEqDiff]
    refine aw_region_seq C (pb := false) rfl fun K hK => ?_
    repeat' (first | refine awOps_yes (by rfl) (by rfl) (by rfl) (by simp  only [go_sem, ↓reduceIte, Nat.reduceEqDiff, reduceCtorEq, Nat.reduceAdd, Nat.reduceMul, Nat.reduceLeDiff, aLoad, aStore, wrap_small ((at_ : Int) + 1) (by omega) (by omega)]; exact rfl) ?_ | refine awOps_no (by rfl) (by rfl) ?_ | refine awOps_yes0 (by rfl) (by rfl) (by rfl) (by simp  only [go_sem, ↓reduceIte, Nat.reduceEqDiff, reduceCtorEq, Nat.reduceAdd, Nat.reduceMul, Nat.reduceLeDiff, aLoad, aStore, wrap_small ((at_ : Int) + 1) (by omega) (by omega)]; exact rfl) ?_ | fail)
    refine awOps_nil (hK _ _ ?_)
    clear hK K
    refine aw_seq ?_
    refine aw_region_seq C (pb := false) rfl fun K hK => ?_
    repeat' (first | refine awOps_yes (by rfl) (by rfl) (by rfl) (by simp  only [go_sem, ↓reduceIte, Nat.reduceEqDiff, reduceCtorEq, Nat.reduceAdd, Nat.reduceMul, Nat.reduceLeDiff, aLoad, aStore, hbt, idxC hx hat]; exact rfl) ?_ | refine awOps_no (by rfl) (by rfl) ?_ | refine awOps_yes0 (by rfl) (by rfl) (by rfl) (by simp  only [go_sem, ↓reduceIte, Nat.reduceEqDiff, reduceCtorEq, Nat.reduceAdd, Nat.reduceMul, Nat.reduceLeDiff, aLoad, aStore, hbt, idxC hx hat]; exact rfl) ?_ | fail)
    refine awOps_nil (hK _ _ ?_)
    clear hK K
    refine aw_cond (by rfl) ?_ ?_
    · intro hc1
      try simp only [bne_iff_ne, ne_eq, bne_eq_false_iff_eq] at hc1
      rw [show 1 - 1 + arC t[at_] = 0 by rw [arC, if_neg hc1]] at hp0
      have hp00 := takes_zero hp0
      refine aw_region_seq C (pb := false) rfl fun K hK => ?_
      repeat' (first | refine awOps_yes (by rfl) (by rfl) (by rfl) (by simp  only [go_sem, ↓reduceIte, Nat.reduceEqDiff, reduceCtorEq, Nat.reduceAdd, Nat.reduceMul, Nat.reduceLeDiff, aLoad, aStore]; exact rfl) ?_ | refine awOps_no (by rfl) (by rfl) ?_ | refine awOps_yes0 (by rfl) (by rfl) (by rfl) (by simp  only [go_sem, ↓reduceIte, Nat.reduceEqDiff, reduceCtorEq, Nat.reduceAdd, Nat.reduceMul, Nat.reduceLeDiff, aLoad, aStore]; exact rfl) ?_ | fail)
      refine awOps_nil (hK _ _ ?_)
      clear hK K
      refine aw_ret ?_
      try simp only [thenA_normal, thenA_ret, thenA_exit, blockA_normal, blockA_ret, blockA_exit]
      simp only [go_sem, ↓reduceIte, Nat.reduceEqDiff, reduceCtorEq, Nat.reduceAdd, Nat.reduceMul, Nat.reduceLeDiff, aLoad, aStore, FnQ, resA]
      -- 0f1t.ret
      exact fun _ => ⟨by first | rfl | trivial, by first | exact fun _ _ => rfl | trivial, by first | rfl | trivial, by rw [hkp, hp00]; rfl⟩
    · intro hc1
      try simp only [bne_iff_ne, ne_eq, bne_eq_false_iff_eq] at hc1
      have hn0 := cellOk_n hco hc1
      rw [show 1 - 1 + arC t[at_] = t[at_].n.toNat by rw [arC, if_pos hc1]; omega] at hp0
      refine aw_skip ?_
      simp only [thenA_normal, thenA_ret, thenA_exit, blockA_normal, blockA_ret, blockA_exit, ↓reduceIte, Nat.reduceEqDiff]
      refine aw_seq ?_
      refine aw_region_seq C (pb := false) rfl fun K hK => ?_
      repeat' (first | refine awOps_yes (by rfl) (by rfl) (by rfl) (by simp  only [go_sem, ↓reduceIte, Nat.reduceEqDiff, reduceCtorEq, Nat.reduceAdd, Nat.reduceMul, Nat.reduceLeDiff, aLoad, aStore, hbt, idxC hx hat]; exact rfl) ?_ | refine awOps_no (by rfl) (by rfl) ?_ | refine awOps_yes0 (by rfl) (by rfl) (by rfl) (by simp  only [go_sem, ↓reduceIte, Nat.reduceEqDiff, reduceCtorEq, Nat.reduceAdd, Nat.reduceMul, Nat.reduceLeDiff, aLoad, aStore, hbt, idxC hx hat]; exact rfl) ?_ | fail)
      refine awOps_nil (hK _ _ ?_)
      clear hK K
      refine aw_block ?_
      refine AW.less (sl' := [(0, vI (at_ : Nat)), (1, .av (.ptr bt 0)), (2, .av (.ptr bv 0)), (5, vI (at_ + 1)), (31, vI t[at_].n), (32, vI (0))]) (AllIn.less ⟨rfl, rfl, rfl, rfl, rfl, rfl, trivial⟩) (aw_loop (fun k sl1 s1 => ∃ (i : Nat) (to : Nat) (q : Nat) (m : Nat), k = m ∧ sl1 = [(0, vI (at_ : Nat)), (1, .av (.ptr bt 0)), (2, .av (.ptr bv 0)), (5, vI (to)), (31, vI t[at_].n), (32, vI (i))] ∧ (Kp s s1) ∧ ((i : Int) + m = t[at_].n ∧ to + q = at_ + kk ∧ 1 ≤ to ∧ q ≤ F) ∧ (takes (t.drop to) m = some q)) (k := (t[at_].n.toNat)) ⟨0, at_ + 1, p0, t[at_].n.toNat, rfl, rfl, (Kp.refl s).up (by omega), by omega, hp0⟩ ?_)
      rintro k1 _ s1 ⟨i, to, q, m, hk1, rfl, hs1, hb, hq⟩
      refine aw_region_seq C (pb := false) rfl fun K hK => ?_
      repeat' (first | refine awOps_yes (by rfl) (by rfl) (by rfl) (by simp  only [go_sem, ↓reduceIte, Nat.reduceEqDiff, reduceCtorEq, Nat.reduceAdd, Nat.reduceMul, Nat.reduceLeDiff, aLoad, aStore]; exact rfl) ?_ | refine awOps_no (by rfl) (by rfl) ?_ | refine awOps_yes0 (by rfl) (by rfl) (by rfl) (by simp  only [go_sem, ↓reduceIte, Nat.reduceEqDiff, reduceCtorEq, Nat.reduceAdd, Nat.reduceMul, Nat.reduceLeDiff, aLoad, aStore]; exact rfl) ?_ | fail)
      refine awOps_nil (hK _ _ ?_)
      clear hK K
      refine aw_seq ?_
      refine aw_cond (by rfl) ?_ ?_
      · intro hc2
        try simp only [decide_eq_true_eq, decide_eq_false_iff_not] at hc2
        have hm : 0 < m := by omega
        obtain ⟨p, hp, hpq0, hpq1⟩ := takes_add (a := 1) (b := m - 1) (by rw [show 1 + (m - 1) = m by omega]; exact hq)
        have hpq : takes (t.drop (to + p)) (m - 1) = some (q - p) := by rw [← List.drop_drop]; exact hpq1
        refine aw_skip ?_
        simp only [thenA_normal, thenA_ret, thenA_exit, blockA_normal, blockA_ret, blockA_exit, ↓reduceIte, Nat.reduceEqDiff]
        refine aw_seq ?_
        refine aw_block ?_
        refine aw_region_seq C (pb := false) rfl fun K hK => ?_
        repeat' (first | refine awOps_yes (by rfl) (by rfl) (by rfl) (by simp  only [go_sem, ↓reduceIte, Nat.reduceEqDiff, reduceCtorEq, Nat.reduceAdd, Nat.reduceMul, Nat.reduceLeDiff, aLoad, aStore, (hs1.2.1 _ hn2).trans hbv]; exact rfl) ?_ | refine awOps_no (by rfl) (by rfl) ?_ | refine awOps_yes0 (by rfl) (by rfl) (by rfl) (by simp  only [go_sem, ↓reduceIte, Nat.reduceEqDiff, reduceCtorEq, Nat.reduceAdd, Nat.reduceMul, Nat.reduceLeDiff, aLoad, aStore, (hs1.2.1 _ hn2).trans hbv]; exact rfl) ?_ | fail)
        refine awOps_call (by rfl) (by rfl) (by rfl) (And.intro Try.call98 (ih L _ bt bv to p ((hs1.2.1 _ hn1).trans hbt) ((hs1.2.1 _ hn2).trans hbv) (by have := hs1.1; exact (by first | omega | (dsimp only; omega) | (dsimp only at *; omega))) (by have := hs1.1; exact (by first | omega | (dsimp only; omega) | (dsimp only at *; omega))) (by omega) hp)) ?_
        rintro _ _ ⟨rfl, rfl⟩
        repeat' (first | refine awOps_yes (by rfl) (by rfl) (by rfl) (by simp  only [go_sem, ↓reduceIte, Nat.reduceEqDiff, reduceCtorEq, Nat.reduceAdd, Nat.reduceMul, Nat.reduceLeDiff, aLoad, aStore, (hs1.2.1 _ hn2).trans hbv]; exact rfl) ?_ | refine awOps_no (by rfl) (by rfl) ?_ | refine awOps_yes0 (by rfl) (by rfl) (by rfl) (by simp  only [go_sem, ↓reduceIte, Nat.reduceEqDiff, reduceCtorEq, Nat.reduceAdd, Nat.reduceMul, Nat.reduceLeDiff, aLoad, aStore, (hs1.2.1 _ hn2).trans hbv]; exact rfl) ?_ | fail)
        refine awOps_nil (hK _ _ ?_)
        clear hK K
        refine aw_region_seq C (pb := false) rfl fun K hK => ?_
        repeat' (first | refine awOps_yes (by rfl) (by rfl) (by rfl) (by simp  only [go_sem, ↓reduceIte, Nat.reduceEqDiff, reduceCtorEq, Nat.reduceAdd, Nat.reduceMul, Nat.reduceLeDiff, aLoad, aStore]; exact rfl) ?_ | refine awOps_no (by rfl) (by rfl) ?_ | refine awOps_yes0 (by rfl) (by rfl) (by rfl) (by simp  only [go_sem, ↓reduceIte, Nat.reduceEqDiff, reduceCtorEq, Nat.reduceAdd, Nat.reduceMul, Nat.reduceLeDiff, aLoad, aStore]; exact rfl) ?_ | fail)
        refine awOps_nil (hK _ _ ?_)
        clear hK K
        refine aw_cond (by rfl) ?_ ?_
        · intro hc3
          try simp only [beq_iff_eq, beq_eq_false_iff_ne, ne_eq] at hc3
          exact absurd hc3 (by omega)
        · intro hc3
          try simp only [beq_iff_eq, beq_eq_false_iff_ne, ne_eq] at hc3
          refine aw_skip ?_
          simp only [thenA_normal, thenA_ret, thenA_exit, blockA_normal, blockA_ret, blockA_exit, ↓reduceIte, Nat.reduceEqDiff]
          refine aw_region C (pb := false) rfl ?_
          repeat' (first | refine awOps_yes (by rfl) (by rfl) (by rfl) (by simp  only [go_sem, ↓reduceIte, Nat.reduceEqDiff, reduceCtorEq, Nat.reduceAdd, Nat.reduceMul, Nat.reduceLeDiff, aLoad, aStore, wrap_small ((i : Int) + 1) (by omega) (by omega)]; exact rfl) ?_ | refine awOps_no (by rfl) (by rfl) ?_ | refine awOps_yes0 (by rfl) (by rfl) (by rfl) (by simp  only [go_sem, ↓reduceIte, Nat.reduceEqDiff, reduceCtorEq, Nat.reduceAdd, Nat.reduceMul, Nat.reduceLeDiff, aLoad, aStore, wrap_small ((i : Int) + 1) (by omega) (by omega)]; exact rfl) ?_ | fail)
          refine awOps_nil ?_
          try simp only [thenA_normal, thenA_ret, thenA_exit, blockA_normal, blockA_ret, blockA_exit]
          -- end of round 0 at 0f1f2t3f
          refine ⟨(m - 1), [(0, vI (at_ : Nat)), (1, .av (.ptr bt 0)), (2, .av (.ptr bv 0)), (5, vI (to + p)), (31, vI t[at_].n), (32, vI (i + 1))], by omega, AllIn.less ⟨rfl, rfl, rfl, rfl, rfl, rfl, trivial⟩, i + 1, to + p, q - p, m - 1, rfl, rfl, ?_, ?_, ?_⟩
          · exact hs1.up (by omega)
          · omega
          · exact hpq
      · intro hc2
        try simp only [decide_eq_true_eq, decide_eq_false_iff_not] at hc2
        refine aw_exit ?_
        simp only [thenA_normal, thenA_ret, thenA_exit, blockA_normal, blockA_ret, blockA_exit, ↓reduceIte, Nat.reduceEqDiff]
        refine aw_region_seq C (pb := false) rfl fun K hK => ?_
        repeat' (first | refine awOps_yes (by rfl) (by rfl) (by rfl) (by simp  only [go_sem, ↓reduceIte, Nat.reduceEqDiff, reduceCtorEq, Nat.reduceAdd, Nat.reduceMul, Nat.reduceLeDiff, aLoad, aStore]; exact rfl) ?_ | refine awOps_no (by rfl) (by rfl) ?_ | refine awOps_yes0 (by rfl) (by rfl) (by rfl) (by simp  only [go_sem, ↓reduceIte, Nat.reduceEqDiff, reduceCtorEq, Nat.reduceAdd, Nat.reduceMul, Nat.reduceLeDiff, aLoad, aStore]; exact rfl) ?_ | fail)
        refine awOps_nil (hK _ _ ?_)
        clear hK K
        refine aw_ret ?_
        simp only [go_sem, ↓reduceIte, Nat.reduceEqDiff, reduceCtorEq, Nat.reduceAdd, Nat.reduceMul, Nat.reduceLeDiff, aLoad, aStore, FnQ, resA]
        -- 0f1f2f.x0.ret
        have hm : m = 0 := by omega
        subst hm
        have hq0 := takes_zero hq
        exact fun _ => ⟨by first | rfl | trivial, hs1.2.1, hs1.2.2, by rw [show at_ + kk = to by omega]⟩
theorem fn98 {t : List Cell} {x : Sc} (hx : GSl encC x t) (hl : t.length ≤ 1000000) (hok : ∀ c ∈ t, cellOk c = true) : ∀ F, Of98 t x F
  | 0 => fun _ _ _ _ at_ kk _ _ _ _ hF hk => by
    exfalso
    have h0 : kk = 0 := by omega
    subst h0
    rcases Nat.lt_or_ge at_ t.length with h | h
    · rw [List.drop_eq_getElem_cons h] at hk
      obtain ⟨p, hp, _⟩ := takes_cons (by omega) hk
      omega
    · rw [List.drop_of_length_le h] at hk; exact takes_nil (by omega) hk
  | F + 1 => fun L s bt bv at_ kk h1 h2 h3 h4 h5 h6 => fn98s L F at_ kk bt bv t s x hx hl hok (fn98 hx hl hok F) h1 h2 h3 h4 h5 h6
end Go.Am.Seat
/-
  MADE BY PROGRAM (am.py): the walks of functions 85.
-/
namespace Go.Am.Seat
open Go.Proofs
theorem bod85 : Try.f85.body = some (Try.f85.body.getD .skip) := rfl
theorem fn85 (L : Loops) (kk : Nat) (t : List Cell) (s : Me) (x : Sc) (hx : GSl encC x t) (hl : t.length ≤ 1000000) (hok : ∀ c ∈ t, cellOk c = true) (hk : takes t 1 = some kk) : FnL Try.prog L 85 [.av (.sc x), vI 0] s fun r s' => (r = vI (kk : Nat)) ∧ s' = s := by
  refine FnL.pure (R := fun r => r = vI (kk : Nat)) ?_
  refine fn_of_body (ts := [4]) Try.func85 bod85 rfl (by simp) (by simp [Try.ntmps85]) fun D0 => ?_
  unfold Try.f85
  simp only [Option.getD_some, initSl]
  refine aw_region_seq C (pb := false) rfl fun K hK => ?_
  repeat' (first | refine awOps_yes (by rfl) (by rfl) (by rfl) (by simp  only [go_sem, ↓reduceIte, Nat.reduceEqDiff, reduceCtorEq, Nat.reduceAdd, Nat.reduceMul, Nat.reduceLeDiff, aLoad, aStore]; exact rfl) ?_ | refine awOps_no (by rfl) (by rfl) ?_ | refine awOps_yes0 (by rfl) (by rfl) (by rfl) (by simp  only [go_sem, ↓reduceIte, Nat.reduceEqDiff, reduceCtorEq, Nat.reduceAdd, Nat.reduceMul, Nat.reduceLeDiff, aLoad, aStore]; exact rfl) ?_ | fail)
  refine awOps_nil (hK _ _ ?_)
  clear hK K
  refine aw_region_seq C (pb := false) rfl fun K hK => ?_
  repeat' (first | refine awOps_yes (by rfl) (by rfl) (by rfl) (by simp  only [go_sem, ↓reduceIte, Nat.reduceEqDiff, reduceCtorEq, Nat.reduceAdd, Nat.reduceMul, Nat.reduceLeDiff, aLoad, aStore]; exact rfl) ?_ | refine awOps_no (by rfl) (by rfl) ?_ | refine awOps_yes0 (by rfl) (by rfl) (by rfl) (by simp  only [go_sem, ↓reduceIte, Nat.reduceEqDiff, reduceCtorEq, Nat.reduceAdd, Nat.reduceMul, Nat.reduceLeDiff, aLoad, aStore]; exact rfl) ?_ | fail)
  refine awOps_nil (hK _ _ ?_)
  clear hK K
  refine aw_region_seq C (pb := false) rfl fun K hK => ?_
  repeat' (first | refine awOps_yes (by rfl) (by rfl) (by rfl) (by simp  only [go_sem, ↓reduceIte, Nat.reduceEqDiff, reduceCtorEq, Nat.reduceAdd, Nat.reduceMul, Nat.reduceLeDiff, aLoad, aStore, avs, upd_same, storeL]; exact rfl) ?_ | refine awOps_no (by rfl) (by rfl) ?_ | refine awOps_yes0 (by rfl) (by rfl) (by rfl) (by simp  only [go_sem, ↓reduceIte, Nat.reduceEqDiff, reduceCtorEq, Nat.reduceAdd, Nat.reduceMul, Nat.reduceLeDiff, aLoad, aStore, avs, upd_same, storeL]; exact rfl) ?_ | fail)
  refine awOps_nil (hK _ _ ?_)
  refine AW.less (sl' := [(1, vI 0), (5, .av (.ptr (s.nx + 2) 0))]) (AllIn.less ⟨rfl, rfl, trivial⟩) ?_
  refine aw_state (J := fun s2 => Kp s s2 ∧ s2.ob s.nx = .cs [.sc x] 0 ∧ s2.ob (s.nx + 2) = .cs [.fn 98 [] [.ptr s.nx 0, .ptr (s.nx + 2) 0]] 0 ∧ s.nx + 2 < s2.nx) ⟨⟨(by first | omega | (dsimp only; omega) | (dsimp only at *; omega)), fun j hj => (upd_ne _ _ (by omega)).trans ((upd_ne _ _ (by omega)).trans (upd_ne _ _ (by omega))), rfl⟩, (upd_ne _ _ (by omega)).trans ((upd_ne _ _ (by omega)).trans (upd_same _ _ _)), upd_same _ _ _, (by first | omega | (dsimp only; omega) | (dsimp only at *; omega))⟩ fun s2 hJ2 => ?_
  obtain ⟨hK2, hb2, hv2, hn2⟩ := hJ2
  clear hK K
  refine aw_region_seq C (pb := false) rfl fun K hK => ?_
  repeat' (first | refine awOps_yes (by rfl) (by rfl) (by rfl) (by simp  only [go_sem, ↓reduceIte, Nat.reduceEqDiff, reduceCtorEq, Nat.reduceAdd, Nat.reduceMul, Nat.reduceLeDiff, aLoad, aStore, hv2]; exact rfl) ?_ | refine awOps_no (by rfl) (by rfl) ?_ | refine awOps_yes0 (by rfl) (by rfl) (by rfl) (by simp  only [go_sem, ↓reduceIte, Nat.reduceEqDiff, reduceCtorEq, Nat.reduceAdd, Nat.reduceMul, Nat.reduceLeDiff, aLoad, aStore, hv2]; exact rfl) ?_ | fail)
  refine awOps_call (by rfl) (by rfl) (by rfl) (And.intro Try.call98 (fn98 hx hl hok kk L _ s.nx (s.nx + 2) 0 kk hb2 hv2 (by first | omega | (dsimp only; omega) | (dsimp only at *; omega)) (by first | omega | (dsimp only; omega) | (dsimp only at *; omega)) (Nat.le_refl _) (by rw [List.drop_zero]; exact hk))) ?_
  rintro _ _ ⟨rfl, rfl⟩
  repeat' (first | refine awOps_yes (by rfl) (by rfl) (by rfl) (by simp  only [go_sem, ↓reduceIte, Nat.reduceEqDiff, reduceCtorEq, Nat.reduceAdd, Nat.reduceMul, Nat.reduceLeDiff, aLoad, aStore, hv2]; exact rfl) ?_ | refine awOps_no (by rfl) (by rfl) ?_ | refine awOps_yes0 (by rfl) (by rfl) (by rfl) (by simp  only [go_sem, ↓reduceIte, Nat.reduceEqDiff, reduceCtorEq, Nat.reduceAdd, Nat.reduceMul, Nat.reduceLeDiff, aLoad, aStore, hv2]; exact rfl) ?_ | fail)
  refine awOps_nil (hK _ _ ?_)
  clear hK K
  refine aw_ret ?_
  simp only [go_sem, ↓reduceIte, Nat.reduceEqDiff, reduceCtorEq, Nat.reduceAdd, Nat.reduceMul, Nat.reduceLeDiff, aLoad, aStore, FnQ, resA]
  -- .ret
  exact fun _ => ⟨by first | rfl | trivial, hK2.2.1, hK2.2.2, by rw [Nat.zero_add]⟩
end Go.Am.Seat
/-
  MADE BY PROGRAM (am.py): the walks of functions 74.
-/
namespace Go.Am.Seat
open Go.Proofs
theorem bod74 : Try.f74.body = some (Try.f74.body.getD .skip) := rfl
theorem fn74 (L : Loops) (t : List Cell) (s : Me) (x : Sc) (hx : GSl encC x t) (hl : 1 ≤ t.length ∧ t.length ≤ 200) (hok : ∀ c ∈ t, cellOk c = true) (hk : takes t 1 = some t.length) : FnL Try.prog L 74 [.av (.sc x)] s fun r s' => (r = vB true) ∧ s' = s := by
  refine FnL.pure (R := fun r => r = vB true) ?_
  refine fn_of_body (ts := [2]) Try.func74 bod74 rfl (by simp) (by simp [Try.ntmps74]) fun D0 => ?_
  unfold Try.f74
  simp only [Option.getD_some, initSl]
  refine aw_region_seq C (pb := false) rfl fun K hK => ?_
  repeat' (first | refine awOps_yes (by rfl) (by rfl) (by rfl) (by simp  only [go_sem, ↓reduceIte, Nat.reduceEqDiff, reduceCtorEq, Nat.reduceAdd, Nat.reduceMul, Nat.reduceLeDiff, aLoad, aStore]; exact rfl) ?_ | refine awOps_no (by rfl) (by rfl) ?_ | refine awOps_yes0 (by rfl) (by rfl) (by rfl) (by simp  only [go_sem, ↓reduceIte, Nat.reduceEqDiff, reduceCtorEq, Nat.reduceAdd, Nat.reduceMul, Nat.reduceLeDiff, aLoad, aStore]; exact rfl) ?_ | fail)
  refine awOps_nil (hK _ _ ?_)
  clear hK K
  refine aw_region_seq C (pb := false) rfl fun K hK => ?_
  repeat' (first | refine awOps_yes (by rfl) (by rfl) (by rfl) (by simp  only [go_sem, ↓reduceIte, Nat.reduceEqDiff, reduceCtorEq, Nat.reduceAdd, Nat.reduceMul, Nat.reduceLeDiff, aLoad, aStore, lenC hx, beq_self_eq_true]; exact rfl) ?_ | refine awOps_no (by rfl) (by rfl) ?_ | refine awOps_yes0 (by rfl) (by rfl) (by rfl) (by simp  only [go_sem, ↓reduceIte, Nat.reduceEqDiff, reduceCtorEq, Nat.reduceAdd, Nat.reduceMul, Nat.reduceLeDiff, aLoad, aStore, lenC hx, beq_self_eq_true]; exact rfl) ?_ | fail)
  (refine awOps_call (by rfl) (by rfl) (by rfl) (And.intro Try.call84 (fn84t L (t.length : Int) 1 200 _ (by omega))) ?_; rintro _ _ ⟨rfl, rfl⟩)
  repeat' (first | refine awOps_yes (by rfl) (by rfl) (by rfl) (by simp  only [go_sem, ↓reduceIte, Nat.reduceEqDiff, reduceCtorEq, Nat.reduceAdd, Nat.reduceMul, Nat.reduceLeDiff, aLoad, aStore, lenC hx, beq_self_eq_true]; exact rfl) ?_ | refine awOps_no (by rfl) (by rfl) ?_ | refine awOps_yes0 (by rfl) (by rfl) (by rfl) (by simp  only [go_sem, ↓reduceIte, Nat.reduceEqDiff, reduceCtorEq, Nat.reduceAdd, Nat.reduceMul, Nat.reduceLeDiff, aLoad, aStore, lenC hx, beq_self_eq_true]; exact rfl) ?_ | fail)
  try (first | (refine awOps_call (by rfl) (by rfl) (by rfl) (And.intro Try.call85 (fn85 L t.length t _ x hx (by omega) hok hk)) ?_; rintro _ _ ⟨rfl, rfl⟩) | refine awOps_no (by rfl) (by rfl) ?_ | fail)
  repeat' (first | refine awOps_yes (by rfl) (by rfl) (by rfl) (by simp  only [go_sem, ↓reduceIte, Nat.reduceEqDiff, reduceCtorEq, Nat.reduceAdd, Nat.reduceMul, Nat.reduceLeDiff, aLoad, aStore, lenC hx, beq_self_eq_true]; exact rfl) ?_ | refine awOps_no (by rfl) (by rfl) ?_ | refine awOps_yes0 (by rfl) (by rfl) (by rfl) (by simp  only [go_sem, ↓reduceIte, Nat.reduceEqDiff, reduceCtorEq, Nat.reduceAdd, Nat.reduceMul, Nat.reduceLeDiff, aLoad, aStore, lenC hx, beq_self_eq_true]; exact rfl) ?_ | fail)
  refine awOps_nil (hK _ _ ?_)
  clear hK K
  refine aw_ret ?_
  simp only [go_sem, ↓reduceIte, Nat.reduceEqDiff, reduceCtorEq, Nat.reduceAdd, Nat.reduceMul, Nat.reduceLeDiff, aLoad, aStore, FnQ, resA]
  -- .ret
  exact fun _ => ⟨by first | rfl | trivial, by first | exact fun _ _ => rfl | trivial, by first | rfl | trivial, by first | rfl | trivial⟩
end Go.Am.Seat
/-
  MADE BY PROGRAM (am.py): the walks of functions 75.
-/
namespace Go.Am.Seat
open Go.Proofs
theorem bod75 : Try.f75.body = some (Try.f75.body.getD .skip) := rfl
theorem fn75 (L : Loops) (t : List Cell) (n : Int) (s : Me) (x : Sc) (hx : GSl encC x t) (hp : 0 < t.length) (hne : ¬ (t.length = 1 ∧ t[0].kind = 1 ∧ t[0].n = n)) : FnL Try.prog L 75 [.av (.sc x), vI n] s fun r s' => (r = vB false) ∧ s' = s := by
  refine FnL.pure (R := fun r => r = vB false) ?_
  have hat : 0 < t.length := hp
  have hix := idxC hx hat
  refine fn_of_body (ts := [4]) Try.func75 bod75 rfl (by simp) (by simp [Try.ntmps75]) fun D0 => ?_
  unfold Try.f75
  simp only [Option.getD_some, initSl]
  refine aw_region_seq C (pb := false) rfl fun K hK => ?_
  repeat' (first | refine awOps_yes (by rfl) (by rfl) (by rfl) (by simp  only [go_sem, ↓reduceIte, Nat.reduceEqDiff, reduceCtorEq, Nat.reduceAdd, Nat.reduceMul, Nat.reduceLeDiff, aLoad, aStore]; exact rfl) ?_ | refine awOps_no (by rfl) (by rfl) ?_ | refine awOps_yes0 (by rfl) (by rfl) (by rfl) (by simp  only [go_sem, ↓reduceIte, Nat.reduceEqDiff, reduceCtorEq, Nat.reduceAdd, Nat.reduceMul, Nat.reduceLeDiff, aLoad, aStore]; exact rfl) ?_ | fail)
  refine awOps_nil (hK _ _ ?_)
  clear hK K
  refine aw_cut_seq C (pb := false) [(4, vB ((((t.length : Int) == 1) && (t[0].kind == 1)) && (t[0].n == n)))] rfl ?_ fun n1 hn1 => ?_
  · cases hA0 : ((t.length : Int) == 1 : Bool) <;> cases hA1 : (t[0].kind == 1 : Bool) <;> cases hA2 : (t[0].n == n : Bool)
    all_goals (repeat' (first | refine awOps_yes (by rfl) (by rfl) (by rfl) (by simp  only [go_sem, ↓reduceIte, Nat.reduceEqDiff, reduceCtorEq, Nat.reduceAdd, Nat.reduceMul, Nat.reduceLeDiff, aLoad, aStore, lenC hx, show aIndex T 22 (.av (.sc x)) (.av (.sc (.int .i64 0))) = _ from hix, hA0, hA1, hA2]; exact rfl) ?_ | refine awOps_no (by rfl) (by rfl) ?_ | refine awOps_yes0 (by rfl) (by rfl) (by rfl) (by simp  only [go_sem, ↓reduceIte, Nat.reduceEqDiff, reduceCtorEq, Nat.reduceAdd, Nat.reduceMul, Nat.reduceLeDiff, aLoad, aStore, lenC hx, show aIndex T 22 (.av (.sc x)) (.av (.sc (.int .i64 0))) = _ from hix, hA0, hA1, hA2]; exact rfl) ?_ | fail))
    all_goals (exact awOps_nil ⟨⟨rfl, trivial⟩, rfl, (by first | omega | (dsimp only; omega)), rfl⟩)
  refine aw_ret ?_
  simp only [go_sem, ↓reduceIte, Nat.reduceEqDiff, reduceCtorEq, Nat.reduceAdd, Nat.reduceMul, Nat.reduceLeDiff, aLoad, aStore, FnQ, resA]
  -- .ret
  have hv : ((((t.length : Int) == 1) && (t[0].kind == 1)) && (t[0].n == n)) = false := by
    rw [Bool.eq_false_iff]; intro h; simp only [Bool.and_eq_true, beq_iff_eq] at h; exact hne ⟨by omega, h.1.2, h.2⟩
  exact fun _ => ⟨by first | rfl | trivial, by first | exact fun _ _ => rfl | trivial, by first | rfl | trivial, by rw [hv]⟩
end Go.Am.Seat
/-
  MADE BY PROGRAM (am.py): the walks of functions 53.
-/
namespace Go.Am.Seat
open Go.Proofs

/-- Bindings that are right: variables rising, terms right, none just its own variable. -/
def RightB (bs : List (Int × List Cell)) : Prop := (∀ b ∈ bs, 0 ≤ b.1 ∧ b.1 ≤ 999 ∧ 1 ≤ b.2.length ∧ b.2.length ≤ 200 ∧ (∀ c ∈ b.2, cellOk c = true) ∧ takes b.2 1 = some b.2.length ∧ ∀ h : 0 < b.2.length, ¬ (b.2.length = 1 ∧ b.2[0].kind = 1 ∧ b.2[0].n = b.1)) ∧ bs.Pairwise fun a b => a.1 < b.1
def bndI (b : Int × List Cell) : Bnd := ⟨b.1, .sl b.2.length (b.2.flatMap encC)⟩

theorem bod53 : Try.f53.body = some (Try.f53.body.getD .skip) := rfl
theorem fn53 (L : Loops) (bs : List (Int × List Cell)) (s : Me) (x : Sc) (hx : GSl encB x (bs.map bndI)) (hl : bs.length ≤ 1000000) (hr : RightB bs) : FnL Try.prog L 53 [.av (.sc x)] s fun r s' => (r = vB true) ∧ s' = s := by
  refine FnL.pure (R := fun r => r = vB true) ?_
  refine fn_of_body (ts := [2]) Try.func53 bod53 rfl (by simp) (by simp [Try.ntmps53]) fun D0 => ?_
  unfold Try.f53
  simp only [Option.getD_some, initSl]
  refine aw_region_seq C (pb := false) rfl fun K hK => ?_
  repeat' (first | refine awOps_yes (by rfl) (by rfl) (by rfl) (by simp  only [go_sem, ↓reduceIte, Nat.reduceEqDiff, reduceCtorEq, Nat.reduceAdd, Nat.reduceMul, Nat.reduceLeDiff, aLoad, aStore]; exact rfl) ?_ | refine awOps_no (by rfl) (by rfl) ?_ | refine awOps_yes0 (by rfl) (by rfl) (by rfl) (by simp  only [go_sem, ↓reduceIte, Nat.reduceEqDiff, reduceCtorEq, Nat.reduceAdd, Nat.reduceMul, Nat.reduceLeDiff, aLoad, aStore]; exact rfl) ?_ | fail)
  refine awOps_nil (hK _ _ ?_)
  clear hK K
  refine aw_region_seq C (pb := false) rfl fun K hK => ?_
  repeat' (first | refine awOps_yes (by rfl) (by rfl) (by rfl) (by simp  only [go_sem, ↓reduceIte, Nat.reduceEqDiff, reduceCtorEq, Nat.reduceAdd, Nat.reduceMul, Nat.reduceLeDiff, aLoad, aStore]; exact rfl) ?_ | refine awOps_no (by rfl) (by rfl) ?_ | refine awOps_yes0 (by rfl) (by rfl) (by rfl) (by simp  only [go_sem, ↓reduceIte, Nat.reduceEqDiff, reduceCtorEq, Nat.reduceAdd, Nat.reduceMul, Nat.reduceLeDiff, aLoad, aStore]; exact rfl) ?_ | fail)
  refine awOps_nil (hK _ _ ?_)
  clear hK K
  refine aw_seq ?_
  refine aw_region_seq C (pb := false) rfl fun K hK => ?_
  repeat' (first | refine awOps_yes (by rfl) (by rfl) (by rfl) (by simp  only [go_sem, ↓reduceIte, Nat.reduceEqDiff, reduceCtorEq, Nat.reduceAdd, Nat.reduceMul, Nat.reduceLeDiff, aLoad, aStore, lenB hx]; exact rfl) ?_ | refine awOps_no (by rfl) (by rfl) ?_ | refine awOps_yes0 (by rfl) (by rfl) (by rfl) (by simp  only [go_sem, ↓reduceIte, Nat.reduceEqDiff, reduceCtorEq, Nat.reduceAdd, Nat.reduceMul, Nat.reduceLeDiff, aLoad, aStore, lenB hx]; exact rfl) ?_ | fail)
  refine awOps_nil (hK _ _ ?_)
  clear hK K
  refine aw_block ?_
  refine AW.less (sl' := [(3, vI (-1)), (6, .av (.sc x)), (7, vI bs.length), (8, vI (0))]) (AllIn.less ⟨rfl, rfl, by rw [List.length_map]; rfl, rfl, trivial⟩) (aw_loop (fun k sl1 s1 => ∃ (i : Nat) (pv : Int), k = bs.length - i ∧ sl1 = [(3, vI (pv)), (6, .av (.sc x)), (7, vI bs.length), (8, vI (i))] ∧ (Kp s s1) ∧ (i ≤ bs.length) ∧ ((i = 0 ∧ pv = -1) ∨ ∃ h : i - 1 < bs.length, 0 < i ∧ pv = bs[i - 1].1)) (k := bs.length - (0)) ⟨0, -1, rfl, rfl, (Kp.refl s).up (by omega), Nat.zero_le _, .inl ⟨rfl, rfl⟩⟩ ?_)
  rintro k1 _ s1 ⟨i, pv, hk1, rfl, hs1, hb, hpv⟩
  refine aw_region_seq C (pb := false) rfl fun K hK => ?_
  repeat' (first | refine awOps_yes (by rfl) (by rfl) (by rfl) (by simp  only [go_sem, ↓reduceIte, Nat.reduceEqDiff, reduceCtorEq, Nat.reduceAdd, Nat.reduceMul, Nat.reduceLeDiff, aLoad, aStore]; exact rfl) ?_ | refine awOps_no (by rfl) (by rfl) ?_ | refine awOps_yes0 (by rfl) (by rfl) (by rfl) (by simp  only [go_sem, ↓reduceIte, Nat.reduceEqDiff, reduceCtorEq, Nat.reduceAdd, Nat.reduceMul, Nat.reduceLeDiff, aLoad, aStore]; exact rfl) ?_ | fail)
  refine awOps_nil (hK _ _ ?_)
  clear hK K
  refine aw_seq ?_
  refine aw_cond (by rfl) ?_ ?_
  · intro hc0
    try simp only [decide_eq_true_eq, decide_eq_false_iff_not] at hc0
    have hi2 : i < bs.length := by omega
    have hi3 : i < (bs.map bndI).length := by rw [List.length_map]; exact hi2
    obtain ⟨q1, q2, q3, q4, q5, q6, q7⟩ := hr.1 bs[i] (List.getElem_mem hi2)
    have hgt : pv < bs[i].1 := by
      rcases hpv with ⟨_, h⟩ | ⟨h1, h2, h3⟩
      · omega
      · rw [h3]; exact List.pairwise_iff_getElem.1 hr.2 (i - 1) i h1 hi2 (by omega)
    have h75 : ∀ s' : Me, FnL Try.prog L 75 [vC bs[i].2, vI bs[i].1] s' fun r s'' => r = vB false ∧ s'' = s' := fun s' => fn75 L bs[i].2 bs[i].1 s' _ (gslC _) (by omega) (q7 (by omega))
    have hix : aIndex T 25 (.av (.sc x)) (vI i) = some (.av (.sc (.cptr (.int .i64 bs[i].1 :: .sl bs[i].2.length (bs[i].2.flatMap encC) :: ((bs.map bndI).drop (i + 1)).flatMap encB)))) := by
      have := idxB hx hi3
      rw [List.getElem_map] at this
      exact this
    refine aw_skip ?_
    simp only [thenA_normal, thenA_ret, thenA_exit, blockA_normal, blockA_ret, blockA_exit, ↓reduceIte, Nat.reduceEqDiff]
    refine aw_seq ?_
    refine aw_block ?_
    refine aw_region_seq C (pb := false) rfl fun K hK => ?_
    repeat' (first | refine awOps_yes (by rfl) (by rfl) (by rfl) (by simp  only [go_sem, ↓reduceIte, Nat.reduceEqDiff, reduceCtorEq, Nat.reduceAdd, Nat.reduceMul, Nat.reduceLeDiff, aLoad, aStore, hix, pl38]; exact rfl) ?_ | refine awOps_no (by rfl) (by rfl) ?_ | refine awOps_yes0 (by rfl) (by rfl) (by rfl) (by simp  only [go_sem, ↓reduceIte, Nat.reduceEqDiff, reduceCtorEq, Nat.reduceAdd, Nat.reduceMul, Nat.reduceLeDiff, aLoad, aStore, hix, pl38]; exact rfl) ?_ | fail)
    refine awOps_nil (hK _ _ ?_)
    refine AW.less (sl' := [(3, vI pv), (6, .av (.sc x)), (7, vI bs.length), (8, vI i), (5, .av (.ptr (s1.nx + 3) 0))]) (AllIn.less ⟨rfl, rfl, rfl, rfl, rfl, trivial⟩) ?_
    refine aw_state (J := fun s4 => Kp s s4 ∧ s4.ob (s1.nx + 3) = .cs [.sc (.int .i64 bs[i].1), .sc (.sl bs[i].2.length (bs[i].2.flatMap encC))] 0) ⟨⟨by have := hs1.1; exact (by first | omega | (dsimp only; omega) | (dsimp only at *; omega)), fun j hj => (upd_ne _ _ (by have := hs1.1; omega)).trans ((upd_ne _ _ (by have := hs1.1; omega)).trans (hs1.2.1 j hj)), hs1.2.2⟩, upd_same _ _ _⟩ fun s4 hJ4 => ?_
    obtain ⟨hK4, hx4⟩ := hJ4
    clear hK K
    refine aw_seq ?_
    refine aw_region_seq C (pb := false) rfl fun K hK => ?_
    repeat' (first | refine awOps_yes (by rfl) (by rfl) (by rfl) (by simp  only [go_sem, ↓reduceIte, Nat.reduceEqDiff, reduceCtorEq, Nat.reduceAdd, Nat.reduceMul, Nat.reduceLeDiff, aLoad, aStore, hx4, show decide (bs[i].1 ≤ pv) = false from decide_eq_false (by omega), show decide (bs[i].1 > 999) = false from decide_eq_false (by omega)]; exact rfl) ?_ | refine awOps_no (by rfl) (by rfl) ?_ | refine awOps_yes0 (by rfl) (by rfl) (by rfl) (by simp  only [go_sem, ↓reduceIte, Nat.reduceEqDiff, reduceCtorEq, Nat.reduceAdd, Nat.reduceMul, Nat.reduceLeDiff, aLoad, aStore, hx4, show decide (bs[i].1 ≤ pv) = false from decide_eq_false (by omega), show decide (bs[i].1 > 999) = false from decide_eq_false (by omega)]; exact rfl) ?_ | fail)
    try (first | (refine awOps_call (by rfl) (by rfl) (by rfl) (And.intro Try.call74 (fn74 L bs[i].2 _ _ (gslC _) ⟨q3, q4⟩ q5 q6)) ?_; rintro _ _ ⟨rfl, rfl⟩) | refine awOps_no (by rfl) (by rfl) ?_ | fail)
    repeat' (first | refine awOps_yes (by rfl) (by rfl) (by rfl) (by simp  only [go_sem, ↓reduceIte, Nat.reduceEqDiff, reduceCtorEq, Nat.reduceAdd, Nat.reduceMul, Nat.reduceLeDiff, aLoad, aStore, hx4, show decide (bs[i].1 ≤ pv) = false from decide_eq_false (by omega), show decide (bs[i].1 > 999) = false from decide_eq_false (by omega)]; exact rfl) ?_ | refine awOps_no (by rfl) (by rfl) ?_ | refine awOps_yes0 (by rfl) (by rfl) (by rfl) (by simp  only [go_sem, ↓reduceIte, Nat.reduceEqDiff, reduceCtorEq, Nat.reduceAdd, Nat.reduceMul, Nat.reduceLeDiff, aLoad, aStore, hx4, show decide (bs[i].1 ≤ pv) = false from decide_eq_false (by omega), show decide (bs[i].1 > 999) = false from decide_eq_false (by omega)]; exact rfl) ?_ | fail)
    try (first | (refine awOps_call (by rfl) (by rfl) (by rfl) (And.intro Try.call75 (h75 _)) ?_; rintro _ _ ⟨rfl, rfl⟩) | refine awOps_no (by rfl) (by rfl) ?_ | fail)
    repeat' (first | refine awOps_yes (by rfl) (by rfl) (by rfl) (by simp  only [go_sem, ↓reduceIte, Nat.reduceEqDiff, reduceCtorEq, Nat.reduceAdd, Nat.reduceMul, Nat.reduceLeDiff, aLoad, aStore, hx4, show decide (bs[i].1 ≤ pv) = false from decide_eq_false (by omega), show decide (bs[i].1 > 999) = false from decide_eq_false (by omega)]; exact rfl) ?_ | refine awOps_no (by rfl) (by rfl) ?_ | refine awOps_yes0 (by rfl) (by rfl) (by rfl) (by simp  only [go_sem, ↓reduceIte, Nat.reduceEqDiff, reduceCtorEq, Nat.reduceAdd, Nat.reduceMul, Nat.reduceLeDiff, aLoad, aStore, hx4, show decide (bs[i].1 ≤ pv) = false from decide_eq_false (by omega), show decide (bs[i].1 > 999) = false from decide_eq_false (by omega)]; exact rfl) ?_ | fail)
    refine awOps_nil (hK _ _ ?_)
    clear hK K
    refine aw_cond (by rfl) ?_ ?_
    · intro hc1
      cases hc1
    · intro hc1
      refine aw_skip ?_
      simp only [thenA_normal, thenA_ret, thenA_exit, blockA_normal, blockA_ret, blockA_exit, ↓reduceIte, Nat.reduceEqDiff]
      refine aw_region C (pb := false) rfl ?_
      repeat' (first | refine awOps_yes (by rfl) (by rfl) (by rfl) (by simp  only [go_sem, ↓reduceIte, Nat.reduceEqDiff, reduceCtorEq, Nat.reduceAdd, Nat.reduceMul, Nat.reduceLeDiff, aLoad, aStore, hx4]; exact rfl) ?_ | refine awOps_no (by rfl) (by rfl) ?_ | refine awOps_yes0 (by rfl) (by rfl) (by rfl) (by simp  only [go_sem, ↓reduceIte, Nat.reduceEqDiff, reduceCtorEq, Nat.reduceAdd, Nat.reduceMul, Nat.reduceLeDiff, aLoad, aStore, hx4]; exact rfl) ?_ | fail)
      refine awOps_nil ?_
      try simp only [thenA_normal, thenA_ret, thenA_exit, blockA_normal, blockA_ret, blockA_exit]
      refine aw_region C (pb := false) rfl ?_
      repeat' (first | refine awOps_yes (by rfl) (by rfl) (by rfl) (by simp  only [go_sem, ↓reduceIte, Nat.reduceEqDiff, reduceCtorEq, Nat.reduceAdd, Nat.reduceMul, Nat.reduceLeDiff, aLoad, aStore, wrap_small ((i : Int) + 1) (by omega) (by omega)]; exact rfl) ?_ | refine awOps_no (by rfl) (by rfl) ?_ | refine awOps_yes0 (by rfl) (by rfl) (by rfl) (by simp  only [go_sem, ↓reduceIte, Nat.reduceEqDiff, reduceCtorEq, Nat.reduceAdd, Nat.reduceMul, Nat.reduceLeDiff, aLoad, aStore, wrap_small ((i : Int) + 1) (by omega) (by omega)]; exact rfl) ?_ | fail)
      refine awOps_nil ?_
      try simp only [thenA_normal, thenA_ret, thenA_exit, blockA_normal, blockA_ret, blockA_exit]
      -- end of round 0 at 0t1f
      refine ⟨bs.length - (i + 1), [(3, vI (bs[i].1)), (6, .av (.sc x)), (7, vI bs.length), (8, vI (i + 1))], by omega, AllIn.less ⟨rfl, rfl, rfl, rfl, trivial⟩, i + 1, bs[i].1, rfl, rfl, ?_, ?_, ?_⟩
      · exact hK4.up (by omega)
      · omega
      · exact .inr ⟨by omega, by omega, by simp⟩
  · intro hc0
    try simp only [decide_eq_true_eq, decide_eq_false_iff_not] at hc0
    refine aw_exit ?_
    simp only [thenA_normal, thenA_ret, thenA_exit, blockA_normal, blockA_ret, blockA_exit, ↓reduceIte, Nat.reduceEqDiff]
    refine aw_region_seq C (pb := false) rfl fun K hK => ?_
    repeat' (first | refine awOps_yes (by rfl) (by rfl) (by rfl) (by simp  only [go_sem, ↓reduceIte, Nat.reduceEqDiff, reduceCtorEq, Nat.reduceAdd, Nat.reduceMul, Nat.reduceLeDiff, aLoad, aStore]; exact rfl) ?_ | refine awOps_no (by rfl) (by rfl) ?_ | refine awOps_yes0 (by rfl) (by rfl) (by rfl) (by simp  only [go_sem, ↓reduceIte, Nat.reduceEqDiff, reduceCtorEq, Nat.reduceAdd, Nat.reduceMul, Nat.reduceLeDiff, aLoad, aStore]; exact rfl) ?_ | fail)
    refine awOps_nil (hK _ _ ?_)
    clear hK K
    refine aw_ret ?_
    simp only [go_sem, ↓reduceIte, Nat.reduceEqDiff, reduceCtorEq, Nat.reduceAdd, Nat.reduceMul, Nat.reduceLeDiff, aLoad, aStore, FnQ, resA]
    -- 0f.x0.ret
    exact fun _ => ⟨by first | rfl | trivial, hs1.2.1, hs1.2.2, by first | rfl | trivial⟩
end Go.Am.Seat
/-
  MADE BY PROGRAM (am.py): the walks of functions 69.
-/
namespace Go.Am.Seat
open Go.Proofs
theorem bod69 : Try.f69.body = some (Try.f69.body.getD .skip) := rfl
theorem fn69 (L : Loops) (a b : List Cell) (s : Me) (x y : Sc) (hx : GSl encC x a) (hy : GSl encC y b) (hl : a.length ≤ 2199023255552) : FnL Try.prog L 69 [.av (.sc x), .av (.sc y)] s fun r s' => (r = vB (sameL a b)) ∧ s' = s := by
  refine FnL.pure (R := fun r => r = vB (sameL a b)) ?_
  refine fn_of_body (ts := [4]) Try.func69 bod69 rfl (by simp) (by simp [Try.ntmps69]) fun D0 => ?_
  unfold Try.f69
  simp only [Option.getD_some, initSl]
  refine aw_region_seq C (pb := false) rfl fun K hK => ?_
  repeat' (first | refine awOps_yes (by rfl) (by rfl) (by rfl) (by simp  only [go_sem, ↓reduceIte, Nat.reduceEqDiff, reduceCtorEq, Nat.reduceAdd, Nat.reduceMul, Nat.reduceLeDiff, aLoad, aStore]; exact rfl) ?_ | refine awOps_no (by rfl) (by rfl) ?_ | refine awOps_yes0 (by rfl) (by rfl) (by rfl) (by simp  only [go_sem, ↓reduceIte, Nat.reduceEqDiff, reduceCtorEq, Nat.reduceAdd, Nat.reduceMul, Nat.reduceLeDiff, aLoad, aStore]; exact rfl) ?_ | fail)
  refine awOps_nil (hK _ _ ?_)
  clear hK K
  refine aw_seq ?_
  refine aw_region_seq C (pb := false) rfl fun K hK => ?_
  repeat' (first | refine awOps_yes (by rfl) (by rfl) (by rfl) (by simp  only [go_sem, ↓reduceIte, Nat.reduceEqDiff, reduceCtorEq, Nat.reduceAdd, Nat.reduceMul, Nat.reduceLeDiff, aLoad, aStore, lenC hx, lenC hy]; exact rfl) ?_ | refine awOps_no (by rfl) (by rfl) ?_ | refine awOps_yes0 (by rfl) (by rfl) (by rfl) (by simp  only [go_sem, ↓reduceIte, Nat.reduceEqDiff, reduceCtorEq, Nat.reduceAdd, Nat.reduceMul, Nat.reduceLeDiff, aLoad, aStore, lenC hx, lenC hy]; exact rfl) ?_ | fail)
  refine awOps_nil (hK _ _ ?_)
  clear hK K
  refine aw_cond (by rfl) ?_ ?_
  · intro hc0
    try simp only [bne_iff_ne, ne_eq, bne_eq_false_iff_eq] at hc0
    refine aw_region_seq C (pb := false) rfl fun K hK => ?_
    repeat' (first | refine awOps_yes (by rfl) (by rfl) (by rfl) (by simp  only [go_sem, ↓reduceIte, Nat.reduceEqDiff, reduceCtorEq, Nat.reduceAdd, Nat.reduceMul, Nat.reduceLeDiff, aLoad, aStore]; exact rfl) ?_ | refine awOps_no (by rfl) (by rfl) ?_ | refine awOps_yes0 (by rfl) (by rfl) (by rfl) (by simp  only [go_sem, ↓reduceIte, Nat.reduceEqDiff, reduceCtorEq, Nat.reduceAdd, Nat.reduceMul, Nat.reduceLeDiff, aLoad, aStore]; exact rfl) ?_ | fail)
    refine awOps_nil (hK _ _ ?_)
    clear hK K
    refine aw_ret ?_
    try simp only [thenA_normal, thenA_ret, thenA_exit, blockA_normal, blockA_ret, blockA_exit]
    simp only [go_sem, ↓reduceIte, Nat.reduceEqDiff, reduceCtorEq, Nat.reduceAdd, Nat.reduceMul, Nat.reduceLeDiff, aLoad, aStore, FnQ, resA]
    -- 0t.ret
    have hne : sameL a b = false := by
      cases h : sameL a b
      · rfl
      · exact absurd (sameL_len h) (by omega)
    exact fun _ => ⟨by first | rfl | trivial, by first | exact fun _ _ => rfl | trivial, by first | rfl | trivial, by rw [hne]⟩
  · intro hc0
    try simp only [bne_iff_ne, ne_eq, bne_eq_false_iff_eq] at hc0
    refine aw_skip ?_
    simp only [thenA_normal, thenA_ret, thenA_exit, blockA_normal, blockA_ret, blockA_exit, ↓reduceIte, Nat.reduceEqDiff]
    refine aw_seq ?_
    refine aw_region_seq C (pb := false) rfl fun K hK => ?_
    repeat' (first | refine awOps_yes (by rfl) (by rfl) (by rfl) (by simp  only [go_sem, ↓reduceIte, Nat.reduceEqDiff, reduceCtorEq, Nat.reduceAdd, Nat.reduceMul, Nat.reduceLeDiff, aLoad, aStore, lenC hx]; exact rfl) ?_ | refine awOps_no (by rfl) (by rfl) ?_ | refine awOps_yes0 (by rfl) (by rfl) (by rfl) (by simp  only [go_sem, ↓reduceIte, Nat.reduceEqDiff, reduceCtorEq, Nat.reduceAdd, Nat.reduceMul, Nat.reduceLeDiff, aLoad, aStore, lenC hx]; exact rfl) ?_ | fail)
    refine awOps_nil (hK _ _ ?_)
    clear hK K
    refine aw_block ?_
    refine AW.less (sl' := [(0, .av (.sc x)), (1, .av (.sc y)), (12, vI a.length), (13, vI (0))]) (AllIn.less ⟨rfl, rfl, rfl, rfl, trivial⟩) (aw_loop (fun k sl1 s1 => ∃ (i : Nat), k = a.length - i ∧ sl1 = [(0, .av (.sc x)), (1, .av (.sc y)), (12, vI a.length), (13, vI (i))] ∧ (Kp s s1) ∧ (i ≤ a.length) ∧ (sameL (a.drop i) (b.drop i) = sameL a b)) (k := a.length - (0)) ⟨0, rfl, rfl, (Kp.refl s).up (by omega), Nat.zero_le _, by simp⟩ ?_)
    rintro k1 _ s1 ⟨i, hk1, rfl, hs1, hb, h3⟩
    refine aw_region_seq C (pb := false) rfl fun K hK => ?_
    repeat' (first | refine awOps_yes (by rfl) (by rfl) (by rfl) (by simp  only [go_sem, ↓reduceIte, Nat.reduceEqDiff, reduceCtorEq, Nat.reduceAdd, Nat.reduceMul, Nat.reduceLeDiff, aLoad, aStore]; exact rfl) ?_ | refine awOps_no (by rfl) (by rfl) ?_ | refine awOps_yes0 (by rfl) (by rfl) (by rfl) (by simp  only [go_sem, ↓reduceIte, Nat.reduceEqDiff, reduceCtorEq, Nat.reduceAdd, Nat.reduceMul, Nat.reduceLeDiff, aLoad, aStore]; exact rfl) ?_ | fail)
    refine awOps_nil (hK _ _ ?_)
    clear hK K
    refine aw_seq ?_
    refine aw_cond (by rfl) ?_ ?_
    · intro hc1
      try simp only [decide_eq_true_eq, decide_eq_false_iff_not] at hc1
      have hi2 : i < a.length := by omega
      have hi3 : i < b.length := by omega
      refine aw_skip ?_
      simp only [thenA_normal, thenA_ret, thenA_exit, blockA_normal, blockA_ret, blockA_exit, ↓reduceIte, Nat.reduceEqDiff]
      refine aw_seq ?_
      refine aw_block ?_
      refine aw_region_seq C (pb := false) rfl fun K hK => ?_
      repeat' (first | refine awOps_yes (by rfl) (by rfl) (by rfl) (by simp  only [go_sem, ↓reduceIte, Nat.reduceEqDiff, reduceCtorEq, Nat.reduceAdd, Nat.reduceMul, Nat.reduceLeDiff, aLoad, aStore]; exact rfl) ?_ | refine awOps_no (by rfl) (by rfl) ?_ | refine awOps_yes0 (by rfl) (by rfl) (by rfl) (by simp  only [go_sem, ↓reduceIte, Nat.reduceEqDiff, reduceCtorEq, Nat.reduceAdd, Nat.reduceMul, Nat.reduceLeDiff, aLoad, aStore]; exact rfl) ?_ | fail)
      refine awOps_nil (hK _ _ ?_)
      clear hK K
      refine aw_sil_seq C (pb := false) 9 _ rfl (by kernel_rfl) rfl (fun _ _ => rfl) fun K hK => ?_
      repeat' (first | refine sil_yes (by rfl) (by rfl) (by rfl) (by simp  only [go_sem, ↓reduceIte, Nat.reduceEqDiff, reduceCtorEq, Nat.reduceAdd, Nat.reduceMul, Nat.reduceLeDiff, aLoad, aStore, idxC hx hi2, idxC hy hi3]; exact rfl) (fun _ => rfl) ?_ | refine sil_no (by rfl) (by rfl) ?_ | fail)
      refine sil_nil (hK _ ?_)
      clear hK K
      refine aw_cond (by rfl) ?_ ?_
      · intro hc2
        refine aw_region_seq C (pb := false) rfl fun K hK => ?_
        repeat' (first | refine awOps_yes (by rfl) (by rfl) (by rfl) (by simp  only [go_sem, ↓reduceIte, Nat.reduceEqDiff, reduceCtorEq, Nat.reduceAdd, Nat.reduceMul, Nat.reduceLeDiff, aLoad, aStore]; exact rfl) ?_ | refine awOps_no (by rfl) (by rfl) ?_ | refine awOps_yes0 (by rfl) (by rfl) (by rfl) (by simp  only [go_sem, ↓reduceIte, Nat.reduceEqDiff, reduceCtorEq, Nat.reduceAdd, Nat.reduceMul, Nat.reduceLeDiff, aLoad, aStore]; exact rfl) ?_ | fail)
        refine awOps_nil (hK _ _ ?_)
        clear hK K
        refine aw_ret ?_
        try simp only [thenA_normal, thenA_ret, thenA_exit, blockA_normal, blockA_ret, blockA_exit]
        simp only [go_sem, ↓reduceIte, Nat.reduceEqDiff, reduceCtorEq, Nat.reduceAdd, Nat.reduceMul, Nat.reduceLeDiff, aLoad, aStore, FnQ, resA]
        -- 0f1t2t.ret
        have hne : sameL a b = false := by
          rw [← h3, List.drop_eq_getElem_cons hi2, List.drop_eq_getElem_cons hi3, sameL]
          have : cellEq a[i] b[i] = false := by
            unfold cellEq
            cases h : (a[i].kind == b[i].kind && (a[i].name == b[i].name && (a[i].n == b[i].n && true)))
            · rfl
            · have hc2n : (!(a[i].kind == b[i].kind && (a[i].name == b[i].name && (a[i].n == b[i].n && true)))) = true := hc2
              rw [h] at hc2n; cases hc2n
          rw [this]; rfl
        exact fun _ => ⟨by first | rfl | trivial, hs1.2.1, hs1.2.2, by rw [hne]⟩
      · intro hc2
        refine aw_skip ?_
        simp only [thenA_normal, thenA_ret, thenA_exit, blockA_normal, blockA_ret, blockA_exit, ↓reduceIte, Nat.reduceEqDiff]
        refine aw_region C (pb := false) rfl ?_
        repeat' (first | refine awOps_yes (by rfl) (by rfl) (by rfl) (by simp  only [go_sem, ↓reduceIte, Nat.reduceEqDiff, reduceCtorEq, Nat.reduceAdd, Nat.reduceMul, Nat.reduceLeDiff, aLoad, aStore, wrap_small ((i : Int) + 1) (by omega) (by omega)]; exact rfl) ?_ | refine awOps_no (by rfl) (by rfl) ?_ | refine awOps_yes0 (by rfl) (by rfl) (by rfl) (by simp  only [go_sem, ↓reduceIte, Nat.reduceEqDiff, reduceCtorEq, Nat.reduceAdd, Nat.reduceMul, Nat.reduceLeDiff, aLoad, aStore, wrap_small ((i : Int) + 1) (by omega) (by omega)]; exact rfl) ?_ | fail)
        refine awOps_nil ?_
        try simp only [thenA_normal, thenA_ret, thenA_exit, blockA_normal, blockA_ret, blockA_exit]
        -- end of round 0 at 0f1t2f
        refine ⟨a.length - (i + 1), [(0, .av (.sc x)), (1, .av (.sc y)), (12, vI a.length), (13, vI (i + 1))], by omega, AllIn.less ⟨rfl, rfl, rfl, rfl, trivial⟩, i + 1, rfl, rfl, ?_, ?_, ?_⟩
        · exact hs1.up (by omega)
        · omega
        · rw [← h3, List.drop_eq_getElem_cons hi2, List.drop_eq_getElem_cons hi3, sameL]
          have : cellEq a[i] b[i] = true := by
            unfold cellEq
            cases h : (a[i].kind == b[i].kind && (a[i].name == b[i].name && (a[i].n == b[i].n && true)))
            · have hc2n : (!(a[i].kind == b[i].kind && (a[i].name == b[i].name && (a[i].n == b[i].n && true)))) = false := hc2
              rw [h] at hc2n; cases hc2n
            · rfl
          rw [this]; rfl
    · intro hc1
      try simp only [decide_eq_true_eq, decide_eq_false_iff_not] at hc1
      refine aw_exit ?_
      simp only [thenA_normal, thenA_ret, thenA_exit, blockA_normal, blockA_ret, blockA_exit, ↓reduceIte, Nat.reduceEqDiff]
      refine aw_region_seq C (pb := false) rfl fun K hK => ?_
      repeat' (first | refine awOps_yes (by rfl) (by rfl) (by rfl) (by simp  only [go_sem, ↓reduceIte, Nat.reduceEqDiff, reduceCtorEq, Nat.reduceAdd, Nat.reduceMul, Nat.reduceLeDiff, aLoad, aStore]; exact rfl) ?_ | refine awOps_no (by rfl) (by rfl) ?_ | refine awOps_yes0 (by rfl) (by rfl) (by rfl) (by simp  only [go_sem, ↓reduceIte, Nat.reduceEqDiff, reduceCtorEq, Nat.reduceAdd, Nat.reduceMul, Nat.reduceLeDiff, aLoad, aStore]; exact rfl) ?_ | fail)
      refine awOps_nil (hK _ _ ?_)
      clear hK K
      refine aw_ret ?_
      simp only [go_sem, ↓reduceIte, Nat.reduceEqDiff, reduceCtorEq, Nat.reduceAdd, Nat.reduceMul, Nat.reduceLeDiff, aLoad, aStore, FnQ, resA]
      -- 0f1f.x0.ret
      have hne : sameL a b = true := by
        rw [← h3, List.drop_of_length_le (by omega), List.drop_of_length_le (by omega)]; rfl
      exact fun _ => ⟨by first | rfl | trivial, hs1.2.1, hs1.2.2, by rw [hne]⟩
end Go.Am.Seat
/-
  MADE BY PROGRAM (am.py): the walks of functions 48.
-/
namespace Go.Am.Seat
open Go.Proofs
theorem bod48 : Try.f48.body = some (Try.f48.body.getD .skip) := rfl
theorem fn48 (L : Loops) (a b : List Cell) (s : Me) (x y : Sc) (hx : GSl encC x a) (hy : GSl encC y b) (hl : a.length ≤ 2199023255552) : FnL Try.prog L 48 [.av (.sc x), .av (.sc y)] s fun r s' => (r = vB (sameL a b)) ∧ s' = s := by
  refine FnL.pure (R := fun r => r = vB (sameL a b)) ?_
  refine fn_of_body (ts := [4]) Try.func48 bod48 rfl (by simp) (by simp [Try.ntmps48]) fun D0 => ?_
  unfold Try.f48
  simp only [Option.getD_some, initSl]
  refine aw_region_seq C (pb := false) rfl fun K hK => ?_
  repeat' (first | refine awOps_yes (by rfl) (by rfl) (by rfl) (by simp  only [go_sem, ↓reduceIte, Nat.reduceEqDiff, reduceCtorEq, Nat.reduceAdd, Nat.reduceMul, Nat.reduceLeDiff, aLoad, aStore]; exact rfl) ?_ | refine awOps_no (by rfl) (by rfl) ?_ | refine awOps_yes0 (by rfl) (by rfl) (by rfl) (by simp  only [go_sem, ↓reduceIte, Nat.reduceEqDiff, reduceCtorEq, Nat.reduceAdd, Nat.reduceMul, Nat.reduceLeDiff, aLoad, aStore]; exact rfl) ?_ | fail)
  refine awOps_nil (hK _ _ ?_)
  clear hK K
  refine aw_region_seq C (pb := false) rfl fun K hK => ?_
  repeat' (first | refine awOps_yes (by rfl) (by rfl) (by rfl) (by simp  only [go_sem, ↓reduceIte, Nat.reduceEqDiff, reduceCtorEq, Nat.reduceAdd, Nat.reduceMul, Nat.reduceLeDiff, aLoad, aStore]; exact rfl) ?_ | refine awOps_no (by rfl) (by rfl) ?_ | refine awOps_yes0 (by rfl) (by rfl) (by rfl) (by simp  only [go_sem, ↓reduceIte, Nat.reduceEqDiff, reduceCtorEq, Nat.reduceAdd, Nat.reduceMul, Nat.reduceLeDiff, aLoad, aStore]; exact rfl) ?_ | fail)
  (refine awOps_call (by rfl) (by rfl) (by rfl) (And.intro Try.call69 (fn69 L a b _ x y hx hy hl)) ?_; rintro _ _ ⟨rfl, rfl⟩)
  repeat' (first | refine awOps_yes (by rfl) (by rfl) (by rfl) (by simp  only [go_sem, ↓reduceIte, Nat.reduceEqDiff, reduceCtorEq, Nat.reduceAdd, Nat.reduceMul, Nat.reduceLeDiff, aLoad, aStore]; exact rfl) ?_ | refine awOps_no (by rfl) (by rfl) ?_ | refine awOps_yes0 (by rfl) (by rfl) (by rfl) (by simp  only [go_sem, ↓reduceIte, Nat.reduceEqDiff, reduceCtorEq, Nat.reduceAdd, Nat.reduceMul, Nat.reduceLeDiff, aLoad, aStore]; exact rfl) ?_ | fail)
  refine awOps_nil (hK _ _ ?_)
  clear hK K
  refine aw_ret ?_
  simp only [go_sem, ↓reduceIte, Nat.reduceEqDiff, reduceCtorEq, Nat.reduceAdd, Nat.reduceMul, Nat.reduceLeDiff, aLoad, aStore, FnQ, resA]
  -- .ret
  exact fun _ => ⟨by first | rfl | trivial, by first | exact fun _ _ => rfl | trivial, by first | rfl | trivial, by first | rfl | trivial⟩
end Go.Am.Seat
/-
  MADE BY PROGRAM (am.py): the walks of functions 72.
-/
namespace Go.Am.Seat
open Go.Proofs
theorem bod72 : Try.f72.body = some (Try.f72.body.getD .skip) := rfl
theorem fn72 (L : Loops) (I : Nat → Me → Prop) (l : Nat) (t : List Int) (bt : Nat) (s : Me) (x : Sc) (hx : GSl encI x t) (hl : t.length ≤ 1000000000) (hlp : (L.rc l).params.size = 1) (hI : ∀ j s', I j s' → s'.ob bt = .cs [.sc x] 0) (hup : ∀ j s' m, I j s' → s'.nx ≤ m → I j ⟨s'.ob, m, s'.ls⟩) (hr : ∀ j s' (h : j < t.length), I j s' → RoundL Try.prog L l [vI t[j]] s' fun r s'' => r = vB true ∧ I (j + 1) s'') (h0 : I 0 s) : FnL Try.prog L 72 [.av (.yl l), .av (.ptr bt 0)] s fun r s' => I t.length s' := by
  have hbt := hI 0 s h0
  refine fn_of_body (ts := []) Try.func72 bod72 rfl (by simp) (by simp [Try.ntmps72]) fun D0 => ?_
  unfold Try.f72
  simp only [Option.getD_some, initSl]
  refine aw_region_seq C (pb := false) rfl fun K hK => ?_
  repeat' (first | refine awOps_yes (by rfl) (by rfl) (by rfl) (by simp  only [go_sem, ↓reduceIte, Nat.reduceEqDiff, reduceCtorEq, Nat.reduceAdd, Nat.reduceMul, Nat.reduceLeDiff, aLoad, aStore, hbt, lenI hx]; exact rfl) ?_ | refine awOps_no (by rfl) (by rfl) ?_ | refine awOps_yes0 (by rfl) (by rfl) (by rfl) (by simp  only [go_sem, ↓reduceIte, Nat.reduceEqDiff, reduceCtorEq, Nat.reduceAdd, Nat.reduceMul, Nat.reduceLeDiff, aLoad, aStore, hbt, lenI hx]; exact rfl) ?_ | fail)
  refine awOps_nil (hK _ _ ?_)
  clear hK K
  refine aw_block ?_
  refine AW.less (sl' := [(0, .av (.yl l)), (1, .av (.ptr bt 0)), (5, .av (.sc x)), (6, vI t.length), (7, vI (0))]) (AllIn.less ⟨rfl, rfl, rfl, rfl, rfl, trivial⟩) (aw_loop (fun k sl1 s1 => ∃ (i : Nat), k = t.length - i ∧ sl1 = [(0, .av (.yl l)), (1, .av (.ptr bt 0)), (5, .av (.sc x)), (6, vI t.length), (7, vI (i))] ∧ (I i s1) ∧ (i ≤ t.length)) (k := t.length - (0)) ⟨0, rfl, rfl, hup _ _ _ h0 (by omega), Nat.zero_le _⟩ ?_)
  rintro k1 _ s1 ⟨i, hk1, rfl, hs1, hb⟩
  refine aw_region_seq C (pb := false) rfl fun K hK => ?_
  repeat' (first | refine awOps_yes (by rfl) (by rfl) (by rfl) (by simp  only [go_sem, ↓reduceIte, Nat.reduceEqDiff, reduceCtorEq, Nat.reduceAdd, Nat.reduceMul, Nat.reduceLeDiff, aLoad, aStore]; exact rfl) ?_ | refine awOps_no (by rfl) (by rfl) ?_ | refine awOps_yes0 (by rfl) (by rfl) (by rfl) (by simp  only [go_sem, ↓reduceIte, Nat.reduceEqDiff, reduceCtorEq, Nat.reduceAdd, Nat.reduceMul, Nat.reduceLeDiff, aLoad, aStore]; exact rfl) ?_ | fail)
  refine awOps_nil (hK _ _ ?_)
  clear hK K
  refine aw_seq ?_
  refine aw_cond (by rfl) ?_ ?_
  · intro hc0
    try simp only [decide_eq_true_eq, decide_eq_false_iff_not] at hc0
    have hil : i < t.length := by omega
    refine aw_skip ?_
    simp only [thenA_normal, thenA_ret, thenA_exit, blockA_normal, blockA_ret, blockA_exit, ↓reduceIte, Nat.reduceEqDiff]
    refine aw_seq ?_
    refine aw_block ?_
    refine aw_region_seq C (pb := false) rfl fun K hK => ?_
    repeat' (first | refine awOps_yes (by rfl) (by rfl) (by rfl) (by simp  only [go_sem, ↓reduceIte, Nat.reduceEqDiff, reduceCtorEq, Nat.reduceAdd, Nat.reduceMul, Nat.reduceLeDiff, aLoad, aStore, idxI hx hil]; exact rfl) ?_ | refine awOps_no (by rfl) (by rfl) ?_ | refine awOps_yes0 (by rfl) (by rfl) (by rfl) (by simp  only [go_sem, ↓reduceIte, Nat.reduceEqDiff, reduceCtorEq, Nat.reduceAdd, Nat.reduceMul, Nat.reduceLeDiff, aLoad, aStore, idxI hx hil]; exact rfl) ?_ | fail)
    refine awOps_nil (hK _ _ ?_)
    clear hK K
    refine aw_region_seq C (pb := false) rfl fun K hK => ?_
    repeat' (first | refine awOps_yes (by rfl) (by rfl) (by rfl) (by simp  only [go_sem, ↓reduceIte, Nat.reduceEqDiff, reduceCtorEq, Nat.reduceAdd, Nat.reduceMul, Nat.reduceLeDiff, aLoad, aStore]; exact rfl) ?_ | refine awOps_no (by rfl) (by rfl) ?_ | refine awOps_yes0 (by rfl) (by rfl) (by rfl) (by simp  only [go_sem, ↓reduceIte, Nat.reduceEqDiff, reduceCtorEq, Nat.reduceAdd, Nat.reduceMul, Nat.reduceLeDiff, aLoad, aStore]; exact rfl) ?_ | fail)
    refine awOps_call (by rfl) (by rfl) (by rfl) (And.intro (by rw [hlp]; rfl) (by show RoundL _ _ l [vI t[i]] _ _; exact hr i _ hil (hup _ _ _ hs1 (by omega)))) ?_
    rintro _ s6 ⟨rfl, hI6⟩
    repeat' (first | refine awOps_yes (by rfl) (by rfl) (by rfl) (by simp  only [go_sem, ↓reduceIte, Nat.reduceEqDiff, reduceCtorEq, Nat.reduceAdd, Nat.reduceMul, Nat.reduceLeDiff, aLoad, aStore]; exact rfl) ?_ | refine awOps_no (by rfl) (by rfl) ?_ | refine awOps_yes0 (by rfl) (by rfl) (by rfl) (by simp  only [go_sem, ↓reduceIte, Nat.reduceEqDiff, reduceCtorEq, Nat.reduceAdd, Nat.reduceMul, Nat.reduceLeDiff, aLoad, aStore]; exact rfl) ?_ | fail)
    refine awOps_nil (hK _ _ ?_)
    clear hK K
    refine aw_cond (by rfl) ?_ ?_
    · intro hc1
      cases hc1
    · intro hc1
      refine aw_skip ?_
      simp only [thenA_normal, thenA_ret, thenA_exit, blockA_normal, blockA_ret, blockA_exit, ↓reduceIte, Nat.reduceEqDiff]
      refine aw_region C (pb := false) rfl ?_
      repeat' (first | refine awOps_yes (by rfl) (by rfl) (by rfl) (by simp  only [go_sem, ↓reduceIte, Nat.reduceEqDiff, reduceCtorEq, Nat.reduceAdd, Nat.reduceMul, Nat.reduceLeDiff, aLoad, aStore, wrap_small ((i : Int) + 1) (by omega) (by omega)]; exact rfl) ?_ | refine awOps_no (by rfl) (by rfl) ?_ | refine awOps_yes0 (by rfl) (by rfl) (by rfl) (by simp  only [go_sem, ↓reduceIte, Nat.reduceEqDiff, reduceCtorEq, Nat.reduceAdd, Nat.reduceMul, Nat.reduceLeDiff, aLoad, aStore, wrap_small ((i : Int) + 1) (by omega) (by omega)]; exact rfl) ?_ | fail)
      refine awOps_nil ?_
      try simp only [thenA_normal, thenA_ret, thenA_exit, blockA_normal, blockA_ret, blockA_exit]
      -- end of round 0 at 0t1f
      refine ⟨t.length - (i + 1), [(0, .av (.yl l)), (1, .av (.ptr bt 0)), (5, .av (.sc x)), (6, vI t.length), (7, vI (i + 1))], by omega, AllIn.less ⟨rfl, rfl, rfl, rfl, rfl, trivial⟩, i + 1, rfl, rfl, ?_, ?_⟩
      · exact hup _ _ _ hI6 (by omega)
      · omega
  · intro hc0
    try simp only [decide_eq_true_eq, decide_eq_false_iff_not] at hc0
    refine aw_exit ?_
    simp only [thenA_normal, thenA_ret, thenA_exit, blockA_normal, blockA_ret, blockA_exit, ↓reduceIte, Nat.reduceEqDiff]
    -- 0f.x0.end
    have hin : i = t.length := by omega
    exact fun _ => by rw [← hin]; exact hup _ _ _ hs1 (by omega)
end Go.Am.Seat
/-
  MADE BY PROGRAM (am.py): the walks of functions 81.
-/
namespace Go.Am.Seat
open Go.Proofs
-- many steps
theorem bod81 : Try.f81.body = some (Try.f81.body.getD .skip) := rfl
set_option maxHeartbeats 1000000 in
theorem fn81 (L : Loops) (t : List Int) (bt : Nat) (s : Me) (x : Sc) (hx : GSl encI x t) (hl : t.length ≤ 1000000) (hbt : s.ob bt = .cs [.sc x] 0) (hlt : bt < s.nx) : FnL Try.prog L 81 [.av (.sc .nilsl), .av (.fn 72 [] [.ptr bt 0])] s fun r s' => ∃ io ob' m, r = .av (slOf io t.length) ∧ s' = ⟨ob', m, s.ls⟩ ∧ s.nx ≤ io ∧ s.nx ≤ m ∧ (t.length ≠ 0 → ob' io = .cs (arr t.length fun k => t.getD k 0) 0 ∧ io < m) ∧ ∀ i, i < s.nx → ob' i = s.ob i := by
  refine fn_of_body (ts := [4]) Try.func81 bod81 rfl (by simp) (by simp [Try.ntmps81]) fun D0 => ?_
  unfold Try.f81
  simp only [Option.getD_some, initSl]
  refine aw_region_seq C (pb := false) rfl fun K hK => ?_
  repeat' (first | refine awOps_yes (by rfl) (by rfl) (by rfl) (by simp  only [go_sem, ↓reduceIte, Nat.reduceEqDiff, reduceCtorEq, Nat.reduceAdd, Nat.reduceMul, Nat.reduceLeDiff, aLoad, aStore]; exact rfl) ?_ | refine awOps_no (by rfl) (by rfl) ?_ | refine awOps_yes0 (by rfl) (by rfl) (by rfl) (by simp  only [go_sem, ↓reduceIte, Nat.reduceEqDiff, reduceCtorEq, Nat.reduceAdd, Nat.reduceMul, Nat.reduceLeDiff, aLoad, aStore]; exact rfl) ?_ | fail)
  refine awOps_nil (hK _ _ ?_)
  clear hK K
  refine aw_seq ?_
  refine aw_region_seq C (pb := false) rfl fun K hK => ?_
  repeat' (first | refine awOps_yes (by rfl) (by rfl) (by rfl) (by simp  only [go_sem, ↓reduceIte, Nat.reduceEqDiff, reduceCtorEq, Nat.reduceAdd, Nat.reduceMul, Nat.reduceLeDiff, aLoad, aStore]; exact rfl) ?_ | refine awOps_no (by rfl) (by rfl) ?_ | refine awOps_yes0 (by rfl) (by rfl) (by rfl) (by simp  only [go_sem, ↓reduceIte, Nat.reduceEqDiff, reduceCtorEq, Nat.reduceAdd, Nat.reduceMul, Nat.reduceLeDiff, aLoad, aStore]; exact rfl) ?_ | fail)
  refine awOps_nil (hK _ _ ?_)
  refine AW.less (sl' := [(2, .av (.ptr s.nx 0)), (6, .av (.fn 72 [] [.ptr bt 0]))]) (AllIn.less ⟨rfl, rfl, trivial⟩) ?_
  refine aw_state (J := fun s2 => Kp s s2 ∧ s2.ob s.nx = .cs [.sc .nilsl] 0 ∧ s.nx < s2.nx ∧ s2.ob bt = .cs [.sc x] 0) ⟨⟨(by first | omega | (dsimp only; omega) | (dsimp only at *; omega)), fun j hj => upd_ne _ _ (by omega), rfl⟩, upd_same _ _ _, (by first | omega | (dsimp only; omega) | (dsimp only at *; omega)), (upd_ne _ _ (by omega)).trans hbt⟩ fun s2 hJ2 => ?_
  obtain ⟨hK2, ho2, hn2, hb2⟩ := hJ2
  clear hK K
  refine aw_block ?_
  refine aw_rangeFunc rfl (by rfl) Try.call72 fun L0 l0 hL0 => ?_
  refine FnL.mono (fn72 L0 (fun j s' => s'.ls = upd s2.ls l0 .ready ∧ s2.nx ≤ s'.nx ∧ (∀ i, i < s2.nx → i ≠ s.nx → s'.ob i = s2.ob i) ∧ (∀ i, s2.nx ≤ i → (s'.ob i).noyl = true) ∧ ∃ io, s2.nx ≤ io ∧ s'.ob s.nx = .cs [slOf io j] 0 ∧ (j ≠ 0 → s'.ob io = .cs (arr j fun k => t.getD k 0) 0 ∧ io < s'.nx)) l0 t bt _ x hx (by omega) (by rw [hL0.params]; rfl) ?_ ?_ ?_ ?_) ?_
  · rintro j s' ⟨h1, h2, h3', h4, io, h5, h6, h7⟩
    exact (h3' bt (by omega) (by omega)).trans hb2
  · rintro j s' m ⟨h1, h2, h3', h4, io, h5, h6, h7⟩ hm
    exact ⟨h1, Nat.le_trans h2 hm, h3', h4, io, h5, h6, fun h => ⟨(h7 h).1, Nat.lt_of_lt_of_le (h7 h).2 hm⟩⟩
  · intro j0 sJ0 hj0 hJ0
    obtain ⟨g1, g2, g3, g4, io, g5, g6, g7⟩ := hJ0
    refine roundL_of hL0.params hL0.assign hL0.body hL0.size (fun p hp => by have e : p = 7 := (by simpa using hp); subst e; exact (show (7 : Nat) < 13 from by decide)) ?_
    rw [hL0.sl]
    simp only [setPs]
    refine aw_region C (pb := false) rfl ?_
    repeat' (first | refine awOps_yes (by rfl) (by rfl) (by rfl) (by simp  only [go_sem, ↓reduceIte, Nat.reduceEqDiff, reduceCtorEq, Nat.reduceAdd, Nat.reduceMul, Nat.reduceLeDiff, aLoad, aStore]; exact rfl) ?_ | refine awOps_no (by rfl) (by rfl) ?_ | refine awOps_yes0 (by rfl) (by rfl) (by rfl) (by simp  only [go_sem, ↓reduceIte, Nat.reduceEqDiff, reduceCtorEq, Nat.reduceAdd, Nat.reduceMul, Nat.reduceLeDiff, aLoad, aStore]; exact rfl) ?_ | fail)
    refine awOps_nil ?_
    try simp only [thenA_normal, thenA_ret, thenA_exit, blockA_normal, blockA_ret, blockA_exit]
    refine ⟨?_, ?_⟩
    · show sJ0.ls l0 = _; rw [g1, upd_same]
    refine aw_block ?_
    refine aw_region C (pb := false) rfl ?_
    repeat' (first | refine awOps_yes (by rfl) (by rfl) (by rfl) (by simp  only [go_sem, ↓reduceIte, Nat.reduceEqDiff, reduceCtorEq, Nat.reduceAdd, Nat.reduceMul, Nat.reduceLeDiff, aLoad, aStore, g6]; exact rfl) ?_ | refine awOps_no (by rfl) (by rfl) ?_ | refine awOps_yes0 (by rfl) (by rfl) (by rfl) (by simp  only [go_sem, ↓reduceIte, Nat.reduceEqDiff, reduceCtorEq, Nat.reduceAdd, Nat.reduceMul, Nat.reduceLeDiff, aLoad, aStore, g6]; exact rfl) ?_ | fail)
    refine awOps_yes (by rfl) (by rfl) (by rfl) ((show aop C false _ _ _ _ = aAppend T _ _ 36 _ _ from rfl).trans (appO (id := io) (n := j0) (f := fun k => t.getD k 0) (v := t[j0]) (fun h => (upd_ne _ _ (by have := (g7 h).2; omega)).trans (g7 h).1) (upd_same _ _ _) (by omega))) ?_
    repeat' (first | refine awOps_yes (by rfl) (by rfl) (by rfl) (by simp (disch := omega) only [go_sem, ↓reduceIte, Nat.reduceEqDiff, reduceCtorEq, Nat.reduceAdd, Nat.reduceMul, Nat.reduceLeDiff, aLoad, aStore, g6, upd_ne, kill_ne]; exact rfl) ?_ | refine awOps_no (by rfl) (by rfl) ?_ | refine awOps_yes0 (by rfl) (by rfl) (by rfl) (by simp (disch := omega) only [go_sem, ↓reduceIte, Nat.reduceEqDiff, reduceCtorEq, Nat.reduceAdd, Nat.reduceMul, Nat.reduceLeDiff, aLoad, aStore, g6, upd_ne, kill_ne]; exact rfl) ?_ | fail)
    refine awOps_nil ?_
    try simp only [thenA_normal, thenA_ret, thenA_exit, blockA_normal, blockA_ret, blockA_exit]
    -- end of round of range 0 at R0.b
    refine ⟨rfl, ?_, (by first | omega | (dsimp only; omega) | (dsimp only at *; omega)), fun i hi hne => (upd_ne _ _ hne).trans ((upd_ne _ _ (by omega)).trans ((kill_ne (by omega)).trans ((upd_ne _ _ (by omega)).trans (g3 i hi hne)))), fun i hi => upd_noyl rfl (upd_noyl arr_noyl (kill_noyl (upd_noyl rfl (g4 i hi)))), sJ0.nx + 1 + 1 + 1 + 1, by omega, upd_same _ _ _, fun _ => ⟨(upd_ne _ _ (by omega)).trans ((upd_same _ _ _).trans ?_), (by first | omega | (dsimp only; omega) | (dsimp only at *; omega))⟩⟩
    · show upd (upd sJ0.ls l0 .busy) l0 .ready = _
      rw [g1, upd_upd, upd_upd]
    · congr 1
      refine arr_congr fun k hk => ?_
      by_cases h' : k = j0
      · subst h'; rw [upd_same, List.getD_eq_getElem?_getD, List.getElem?_eq_getElem hj0]; rfl
      · rw [upd_ne _ _ h']
  · exact ⟨rfl, Nat.le_refl _, fun i hi _ => if_pos hi, fun i hi => by dsimp only; rw [if_neg (by omega)]; rfl, s2.nx, Nat.le_refl _, (if_pos (by omega)).trans ho2, fun h => (h rfl).elim⟩
  · rintro r0 s0' hm0
    obtain ⟨g1, g2, g3, g4, io, g5, g6, g7⟩ := hm0
    refine ⟨fun i hi => ?_, ?_⟩
    · by_cases h1 : i < s2.nx
      · by_cases h2 : i = s.nx
        · rw [h2, g6]; refine .inr ?_; show (slOf io _).noyl && true = true; unfold slOf; split <;> rfl
        · exact .inl ⟨h1, g3 i h1 h2⟩
      · exact .inr (g4 i (by omega))
    rw [g1, upd_same, upd_back]
    simp only [leftBy]
    simp only [thenA_normal, thenA_ret, thenA_exit, blockA_normal, blockA_ret, blockA_exit]
    refine aw_region_seq C (pb := false) rfl fun K hK => ?_
    repeat' (first | refine awOps_yes (by rfl) (by rfl) (by rfl) (by simp  only [go_sem, ↓reduceIte, Nat.reduceEqDiff, reduceCtorEq, Nat.reduceAdd, Nat.reduceMul, Nat.reduceLeDiff, aLoad, aStore, g6]; exact rfl) ?_ | refine awOps_no (by rfl) (by rfl) ?_ | refine awOps_yes0 (by rfl) (by rfl) (by rfl) (by simp  only [go_sem, ↓reduceIte, Nat.reduceEqDiff, reduceCtorEq, Nat.reduceAdd, Nat.reduceMul, Nat.reduceLeDiff, aLoad, aStore, g6]; exact rfl) ?_ | fail)
    refine awOps_nil (hK _ _ ?_)
    clear hK K
    refine aw_ret ?_
    simp only [go_sem, ↓reduceIte, Nat.reduceEqDiff, reduceCtorEq, Nat.reduceAdd, Nat.reduceMul, Nat.reduceLeDiff, aLoad, aStore, FnQ, resA]
    -- .ret
    exact fun _ => ⟨io, s0'.ob, _, rfl, by rw [hK2.2.2], by omega, (by first | omega | (dsimp only; omega) | (dsimp only at *; omega)), fun h => ⟨(g7 h).1, by have := (g7 h).2; exact (by first | omega | (dsimp only; omega) | (dsimp only at *; omega))⟩, fun i hi => (g3 i (by omega) (by omega)).trans (hK2.2.1 i hi)⟩
end Go.Am.Seat
/-
  MADE BY PROGRAM (am.py): the walks of functions 70.
-/
namespace Go.Am.Seat
open Go.Proofs
theorem bod70 : Try.f70.body = some (Try.f70.body.getD .skip) := rfl
theorem fn70 (L : Loops) (t : List Int) (bt : Nat) (s : Me) (x : Sc) (hx : GSl encI x t) (hl : t.length ≤ 1000000) (hbt : s.ob bt = .cs [.sc x] 0) (hlt : bt < s.nx) : FnL Try.prog L 70 [.av (.fn 72 [] [.ptr bt 0])] s fun r s' => ∃ io ob' m, r = .av (slOf io t.length) ∧ s' = ⟨ob', m, s.ls⟩ ∧ s.nx ≤ io ∧ s.nx ≤ m ∧ (t.length ≠ 0 → ob' io = .cs (arr t.length fun k => t.getD k 0) 0 ∧ io < m) ∧ ∀ i, i < s.nx → ob' i = s.ob i := by
  refine fn_of_body (ts := [2]) Try.func70 bod70 rfl (by simp) (by simp [Try.ntmps70]) fun D0 => ?_
  unfold Try.f70
  simp only [Option.getD_some, initSl]
  refine aw_region_seq C (pb := false) rfl fun K hK => ?_
  repeat' (first | refine awOps_yes (by rfl) (by rfl) (by rfl) (by simp  only [go_sem, ↓reduceIte, Nat.reduceEqDiff, reduceCtorEq, Nat.reduceAdd, Nat.reduceMul, Nat.reduceLeDiff, aLoad, aStore]; exact rfl) ?_ | refine awOps_no (by rfl) (by rfl) ?_ | refine awOps_yes0 (by rfl) (by rfl) (by rfl) (by simp  only [go_sem, ↓reduceIte, Nat.reduceEqDiff, reduceCtorEq, Nat.reduceAdd, Nat.reduceMul, Nat.reduceLeDiff, aLoad, aStore]; exact rfl) ?_ | fail)
  refine awOps_nil (hK _ _ ?_)
  clear hK K
  refine aw_region_seq C (pb := false) rfl fun K hK => ?_
  repeat' (first | refine awOps_yes (by rfl) (by rfl) (by rfl) (by simp  only [go_sem, ↓reduceIte, Nat.reduceEqDiff, reduceCtorEq, Nat.reduceAdd, Nat.reduceMul, Nat.reduceLeDiff, aLoad, aStore]; exact rfl) ?_ | refine awOps_no (by rfl) (by rfl) ?_ | refine awOps_yes0 (by rfl) (by rfl) (by rfl) (by simp  only [go_sem, ↓reduceIte, Nat.reduceEqDiff, reduceCtorEq, Nat.reduceAdd, Nat.reduceMul, Nat.reduceLeDiff, aLoad, aStore]; exact rfl) ?_ | fail)
  refine awOps_call (by rfl) (by rfl) (by rfl) (And.intro Try.call81 (fn81 L t bt _ x hx hl hbt (by first | omega | (dsimp only; omega) | (dsimp only at *; omega)))) ?_
  rintro _ _ ⟨io, ob', m, rfl, rfl, h1, h2, h3, h4⟩
  repeat' (first | refine awOps_yes (by rfl) (by rfl) (by rfl) (by simp  only [go_sem, ↓reduceIte, Nat.reduceEqDiff, reduceCtorEq, Nat.reduceAdd, Nat.reduceMul, Nat.reduceLeDiff, aLoad, aStore]; exact rfl) ?_ | refine awOps_no (by rfl) (by rfl) ?_ | refine awOps_yes0 (by rfl) (by rfl) (by rfl) (by simp  only [go_sem, ↓reduceIte, Nat.reduceEqDiff, reduceCtorEq, Nat.reduceAdd, Nat.reduceMul, Nat.reduceLeDiff, aLoad, aStore]; exact rfl) ?_ | fail)
  refine awOps_nil (hK _ _ ?_)
  clear hK K
  refine aw_ret ?_
  simp only [go_sem, ↓reduceIte, Nat.reduceEqDiff, reduceCtorEq, Nat.reduceAdd, Nat.reduceMul, Nat.reduceLeDiff, aLoad, aStore, FnQ, resA]
  -- .ret
  exact fun _ => ⟨io, ob', _, rfl, rfl, (by first | omega | (dsimp only; omega) | (dsimp only at *; omega)), (by first | omega | (dsimp only; omega) | (dsimp only at *; omega)), fun h => ⟨(h3 h).1, by have := (h3 h).2; exact (by first | omega | (dsimp only; omega) | (dsimp only at *; omega))⟩, fun i hi => h4 i (by first | omega | (dsimp only; omega) | (dsimp only at *; omega))⟩
end Go.Am.Seat
/-
  slices.Sort at []int: the kit's contract (laid at this program by its own tool, lay-plain.mjs), told of a slice of our own.
-/
namespace Go.Proofs
open Go.Shelf
def Try.lays189_ren : Go.Shelf.Ren := ⟨fun | 189 => 71 | 125 => 83 | 257 => 82 | 128 => 96 | 129 => 97 | 294 => 87 | 295 => 88 | 296 => 89 | 297 => 90 | 298 => 91 | 299 => 92 | 216 => 93 | 300 => 94 | 301 => 95 | 328 => 100 | 329 => 101 | 330 => 102 | 331 => 103 | 332 => 104 | 215 => 105 | 343 => 108 | n => n, fun | 28 => 36 | 3 => 3 | 46 => 98 | 0 => 0 | 51 => 109 | 53 => 111 | 4 => 4 | 183 => 103 | 182 => 102 | 131 => 64 | 5 => 5 | 9 => 9 | 218 => 112 | 222 => 116 | 228 => 121 | 229 => 122 | n => n, fun | n => n⟩
theorem Try.lays189 : Go.Proofs.Lays.n189 Try.prog Try.lays189_ren := {
  mixed := by kernel_rfl
  f125 := Try.func83.trans (congrArg some (by kernel_rfl))
  f128 := Try.func96.trans (congrArg some (by kernel_rfl))
  f129 := Try.func97.trans (congrArg some (by kernel_rfl))
  f189 := Try.func71.trans (congrArg some (by kernel_rfl))
  f215 := Try.func105.trans (congrArg some (by kernel_rfl))
  f216 := Try.func93.trans (congrArg some (by kernel_rfl))
  f257 := Try.func82.trans (congrArg some (by kernel_rfl))
  f294 := Try.func87.trans (congrArg some (by kernel_rfl))
  f295 := Try.func88.trans (congrArg some (by kernel_rfl))
  f296 := Try.func89.trans (congrArg some (by kernel_rfl))
  f297 := Try.func90.trans (congrArg some (by kernel_rfl))
  f298 := Try.func91.trans (congrArg some (by kernel_rfl))
  f299 := Try.func92.trans (congrArg some (by kernel_rfl))
  f300 := Try.func94.trans (congrArg some (by kernel_rfl))
  f301 := Try.func95.trans (congrArg some (by kernel_rfl))
  f328 := Try.func100.trans (congrArg some (by kernel_rfl))
  f329 := Try.func101.trans (congrArg some (by kernel_rfl))
  f330 := Try.func102.trans (congrArg some (by kernel_rfl))
  f331 := Try.func103.trans (congrArg some (by kernel_rfl))
  f332 := Try.func104.trans (congrArg some (by kernel_rfl))
  f343 := Try.func108.trans (congrArg some (by kernel_rfl))
  t0 := Try.underlying0
  a0 := Try.isAgg0
  z0 := Try.sizeOf0
  v0 := Try.zeroValue0
  t3 := Try.underlying3
  a3 := Try.isAgg3
  z3 := Try.sizeOf3
  v3 := Try.zeroValue3
  t4 := Try.underlying4
  a4 := Try.isAgg4
  z4 := Try.sizeOf4
  v4 := Try.zeroValue4
  t5 := Try.underlying5
  a5 := Try.isAgg5
  z5 := Try.sizeOf5
  v5 := Try.zeroValue5
  t9 := Try.underlying9
  a9 := Try.isAgg9
  z9 := Try.sizeOf9
  v9 := Try.zeroValue9
  t28 := Try.underlying36
  a28 := Try.isAgg36
  z28 := Try.sizeOf36
  v28 := Try.zeroValue36
  t46 := Try.underlying98
  a46 := Try.isAgg98
  z46 := Try.sizeOf98
  v46 := Try.zeroValue98
  t51 := Try.underlying109
  a51 := Try.isAgg109
  z51 := Try.sizeOf109
  v51 := Try.zeroValue109
  t53 := Try.underlying111
  a53 := Try.isAgg111
  z53 := Try.sizeOf111
  v53 := Try.zeroValue111
  t131 := Try.underlying64
  a131 := Try.isAgg64
  z131 := Try.sizeOf64
  v131 := Try.zeroValue64
  t182 := Try.underlying102
  a182 := Try.isAgg102
  z182 := Try.sizeOf102
  v182 := Try.zeroValue102
  t183 := Try.underlying103
  a183 := Try.isAgg103
  z183 := Try.sizeOf103
  v183 := Try.zeroValue103
  t218 := Try.underlying112
  a218 := Try.isAgg112
  z218 := Try.sizeOf112
  v218 := Try.zeroValue112
  t222 := Try.underlying116
  a222 := Try.isAgg116
  z222 := Try.sizeOf116
  v222 := Try.zeroValue116
  t228 := Try.underlying121
  a228 := Try.isAgg121
  z228 := Try.sizeOf121
  v228 := Try.zeroValue121
  t229 := Try.underlying122
  a229 := Try.isAgg122
  z229 := Try.sizeOf122
  v229 := Try.zeroValue122 }
end Go.Proofs
namespace Go.Am
theorem Rel.grown {m : Nat → Option Ent} {lb : Nat → Option Nat} {G : Nat → Nat → Prop} {w w' : World} {ob : Nat → Obj} {nx : Nat} (h : Rel m lb G w ob nx) (os : Array Go.Obj) (hh : w'.heap = w.heap ++ os) (h1 : w'.os = w.os) (h2 : w'.tape = w.tape) (h3 : w'.output = w.output) :
    Rel m lb G w' ob nx ∧ Evo m lb G w m G w' := by
  have hold : ∀ b : Nat, b < w.heap.size → w'.heap[b]? = w.heap[b]? := fun b hb => by rw [hh, Array.getElem?_append_left hb]
  have hsz : w.heap.size ≤ w'.heap.size := by rw [hh]; simp
  have on : On m lb G w m lb G w' := ⟨⟨fun _ _ h => h, fun b o hg => cell_of_heap (hold b (h.glt b o hg))⟩, fun _ _ h => h, fun _ _ h => h⟩
  exact ⟨⟨fun i f hf => OR.on on (hold _ (h.mlt i f hf)) (fun _ h => h) (h.obj i f hf), h.inj, fun b o hg => Nat.lt_of_lt_of_le (h.glt b o hg) hsz, fun i f hf => Nat.lt_of_lt_of_le (h.mlt i f hf) hsz, h.fresh, fun l b hl => ⟨Nat.lt_of_lt_of_le (h.ll l b hl).1 hsz, (h.ll l b hl).2⟩⟩,
    on, h1, h2, h3, hsz, fun b hb _ => hold b hb, fun id e he => .inl ⟨id, e, he, rfl⟩⟩
namespace Seat
open Go.Proofs Go.Sort
def cI (l : List Int) : List Av := l.map fun i => .sc (.int .i64 i)
def sortI (l : List Int) : List Int := l.mergeSort fun x y => decide (x ≤ y)
theorem cI_of {m : Nat → Option Ent} {lb : Nat → Option Nat} {G : Nat → Nat → Prop} {w : World} : ∀ {l : List Int} {us : List Value}, ARs m lb G w (cI l) us → us = l.map (Value.int .i64)
  | [], us, h => by simpa [cI, ARs] using h
  | a :: l, us, h => by
    simp only [cI, List.map_cons, ARs, AR, SR] at h
    obtain ⟨u, us', rfl, rfl, h⟩ := h
    rw [cI_of (l := l) (us := us') h]
    rfl
theorem cI_ars {m : Nat → Option Ent} {lb : Nat → Option Nat} {G : Nat → Nat → Prop} {w : World} : ∀ (l : List Int), ARs m lb G w (cI l) (l.map (Value.int .i64))
  | [] => ARs.nil
  | a :: l => ARs.cons (by simp only [AR, SR]) (cI_ars l)
theorem fn71n (L : Loops) (s : Me) : FnL Try.prog L 71 [.av (.sc .nilsl)] s fun r s' => s' = s := by
  intro m G w vs hvs hw
  obtain ⟨v, rfl, hv⟩ := hvs.one
  simp only [VR, AR, SR] at hv
  subst hv
  have h := (callsIn_wide (n := 0)).2 (Any.slices_Sort_int_none Try.lays189 none 0 w)
  refine CallsIn.mono h fun e w' he => ?_
  obtain ⟨rfl, rfl⟩ := he
  exact ⟨.tuple #[], .tup [], s, m, G, rfl, rfl, by simp only [VR]; exact ⟨[], rfl, VRs.nil⟩, hw, Ev.refl, Nat.le_refl _, fun _ _ h => h⟩
theorem fn71 (L : Loops) (l : List Int) (id : Nat) (s : Me) (ho : s.ob id = .cs (cI l) 0) (hl : l.length ≤ 1000000000) : FnL Try.prog L 71 [.av (.own id 0 l.length 1)] s fun r s' => s' = ⟨upd s.ob id (.cs (cI (sortI l)) 0), s.nx, s.ls⟩ := by
  intro m G w vs hvs hw
  obtain ⟨v, rfl, hv⟩ := hvs.one
  simp only [VR, AR] at hv
  obtain ⟨e, hm, hv⟩ := hv
  have hob := hw.rel.obj id e hm
  rw [ho] at hob
  obtain ⟨A, us, hA, hsz, hars, hle, hcell, hfz⟩ := hob
  obtain rfl := cI_of hars
  rcases hv with ⟨c, rfl, hn, hcm, hfit⟩ | ⟨h0, A', rfl⟩
  · have hlt := hw.rel.mlt id e hm
    have hH : Holds (Value.int .i64) w e.b (e.s + 0) l.toArray := by
      intro j hj
      have hj' : j < l.length := by simpa using hj
      refine ⟨?_, by simp [World.frozen?, hA]⟩
      have := hcell j (.int .i64 l[j]) (by simp [List.getElem?_eq_getElem hj'])
      simp only [World.cell?, hA, Nat.add_zero, Option.isSome_none, Bool.false_eq_true, if_false]
      rw [this]
      simp [hj']
    have h := (callsIn_wide (n := 0)).2 (Any.slices_Sort_int Try.lays189 e.b (e.s + 0) c l w hH hlt (by omega))
    refine CallsIn.mono h fun en w' he => ?_
    obtain ⟨rfl, k, os, rfl⟩ := he
    have hlen : (sortI l).length = l.length := by simp [sortI]
    have hblk : (putRow (Value.int .i64) (Sort.ahead w k) e.b (e.s + 0) (sortI l).toArray).heap[e.b]? = some (.cells (putCells (Value.int .i64) (e.s + 0) (sortI l).toArray A) e.t (0, 0)) := by
      simp [putRow, mapBlock, Sort.ahead, Array.getElem?_modify, hA, onCells]
    have hpc : ∀ o : Nat, (putCells (Value.int .i64) (e.s + 0) (sortI l).toArray A)[o]? = if e.s ≤ o ∧ o < e.s + l.length then (if o < A.size then some (.int .i64 (sortI l)[o - e.s]!) else none) else A[o]? := by
      intro o
      simp only [putCells, Nat.add_zero, List.size_toArray, hlen]
      by_cases hoA : o < A.size
      · simp [hoA]
        split <;> simp_all
      · simp [hoA]
    obtain ⟨r1, e1⟩ := hw.rel.turn (w' := putRow (Value.int .i64) (Sort.ahead w k) e.b (e.s + 0) (sortI l).toArray) hm (by rw [ho]; simp) (.cs (cI (sortI l)) 0) (by simp) (by simp [putRow, mapBlock, Sort.ahead]) (fun b hb => by
        simp only [putRow, mapBlock, Sort.ahead, Array.getElem?_modify]
        rw [if_neg (fun h => hb (by rw [h]))]) (fun o hg => by
        have hlo : o < e.s := by
          rcases Nat.lt_or_ge o e.s with h | h
          · exact h
          · exact absurd hg (by have := hfz (o - e.s) (Nat.zero_le _); rwa [show e.s + (o - e.s) = o by omega] at this)
        simp only [World.cell?, hblk, hA, Option.isSome_none, Bool.false_eq_true, if_false]
        rw [hpc, if_neg (by omega)]) rfl rfl rfl (fun on => by
        refine ⟨_, (sortI l).map (Value.int .i64), hblk, by simp [putCells, hsz], cI_ars _, by simpa [cI, hlen] using hle, fun j v hj => ?_, hfz⟩
        have hj' := (List.getElem?_eq_some_iff.1 hj).1
        simp only [List.length_map] at hj'
        have hle' : e.s + l.length ≤ e.sz := by simpa [cI] using hle
        rw [hpc, if_pos (by omega), if_pos (by omega), Nat.add_sub_cancel_left]
        simp [List.getElem?_eq_getElem hj'] at hj
        rw [← hj]
        simp [hj'])
    obtain ⟨r2, e2⟩ := r1.grown (w' := grow (putRow (Value.int .i64) (Sort.ahead w k) e.b (e.s + 0) (sortI l).toArray) os) os rfl rfl rfl rfl
    exact ⟨.tuple #[], .tup [], ⟨upd s.ob id (.cs (cI (sortI l)) 0), s.nx, s.ls⟩, m, G, rfl, rfl, by simp only [VR]; exact ⟨[], rfl, VRs.nil⟩, hw.evo r2 (e1.trans e2) rfl, (e1.trans e2).ev, Nat.le_refl _, fun _ _ h => h⟩
  · have hl0 : l = [] := List.length_eq_zero_iff.1 h0
    subst hl0
    have h := (callsIn_wide (n := 0)).2 (Any.slices_Sort_int_none Try.lays189 A' 0 w)
    refine CallsIn.mono h fun en w' he => ?_
    obtain ⟨rfl, rfl⟩ := he
    exact ⟨.tuple #[], .tup [], ⟨upd s.ob id (.cs (cI (sortI [])) 0), s.nx, s.ls⟩, m, G, rfl, rfl, by simp only [VR]; exact ⟨[], rfl, VRs.nil⟩, hw.agree (fun i _ => upd_self (by rw [ho]; simp [sortI, cI]) i) (Nat.le_refl _) rfl, Ev.refl, Nat.le_refl _, fun _ _ h => h⟩
end Seat
end Go.Am
/-
  MADE BY PROGRAM (am.py): the walks of functions 49.
-/
namespace Go.Am.Seat
open Go.Proofs

theorem cI_arr {l : List Int} : arr l.length (fun k => l.getD k 0) = cI l := by
  refine List.ext_getElem (by simp [arr, cI]) fun i h1 h2 => ?_
  simp only [arr, List.length_map, List.length_range] at h1
  simp [arr, cI, h1]
theorem sortI_len {l : List Int} : (sortI l).length = l.length := by simp [sortI]
theorem cI_pure {ob : Nat → Obj} {id : Nat} {l : List Int} (h : ob id = .cs (cI l) 0) : purV ob (.av (.own id 0 l.length 1)) = some (.av (.sc (.sl l.length (l.map fun i => .int .i64 i))), upd ob id (.cs (cI l) (max 0 (0 + l.length * 1)))) := by
  have hcl : (cI l).length = l.length := by simp [cI]
  simp only [purV, purD, pur, h]
  rw [if_pos (by rw [hcl]; omega), List.drop_zero, List.take_of_length_le (by rw [hcl]; omega)]
  have : cI l = (l.map fun i => Sc.int .i64 i).map .sc := by simp [cI]
  rw [show purL (pur 3) _ (cI l) = _ from (congrArg (purL (pur 3) _) this).trans (purL_plain (fun ob s => by simp [pur]) _ _)]
  rfl
theorem cI_gsl {l : List Int} : GSl encI (.sl l.length (l.map fun i => .int .i64 i)) l := by
  refine .inr ?_
  congr 1
  induction l with
  | nil => rfl
  | cons a l ih => simp [encI, ih]

theorem bod49 : Try.f49.body = some (Try.f49.body.getD .skip) := rfl
theorem fn49 (L : Loops) (t : List Int) (bt : Nat) (s : Me) (x : Sc) (hx : GSl encI x t) (hl : t.length ≤ 1000000) (hbt : s.ob bt = .cs [.sc x] 0) (hlt : bt < s.nx) (hne : t.length ≠ 0) : FnL Try.prog L 49 [.av (.fn 72 [] [.ptr bt 0])] s fun r s' => ∃ io ob' m, r = .av (slOf io t.length) ∧ s' = ⟨ob', m, s.ls⟩ ∧ s.nx ≤ io ∧ s.nx ≤ m ∧ (t.length ≠ 0 → ob' io = .cs (cI (sortI t)) 0 ∧ io < m) ∧ ∀ i, i < s.nx → ob' i = s.ob i := by
  refine fn_of_body (ts := [2]) Try.func49 bod49 rfl (by simp) (by simp [Try.ntmps49]) fun D0 => ?_
  unfold Try.f49
  simp only [Option.getD_some, initSl]
  refine aw_region_seq C (pb := false) rfl fun K hK => ?_
  repeat' (first | refine awOps_yes (by rfl) (by rfl) (by rfl) (by simp  only [go_sem, ↓reduceIte, Nat.reduceEqDiff, reduceCtorEq, Nat.reduceAdd, Nat.reduceMul, Nat.reduceLeDiff, aLoad, aStore]; exact rfl) ?_ | refine awOps_no (by rfl) (by rfl) ?_ | refine awOps_yes0 (by rfl) (by rfl) (by rfl) (by simp  only [go_sem, ↓reduceIte, Nat.reduceEqDiff, reduceCtorEq, Nat.reduceAdd, Nat.reduceMul, Nat.reduceLeDiff, aLoad, aStore]; exact rfl) ?_ | fail)
  refine awOps_nil (hK _ _ ?_)
  clear hK K
  refine aw_region_seq C (pb := false) rfl fun K hK => ?_
  repeat' (first | refine awOps_yes (by rfl) (by rfl) (by rfl) (by simp  only [go_sem, ↓reduceIte, Nat.reduceEqDiff, reduceCtorEq, Nat.reduceAdd, Nat.reduceMul, Nat.reduceLeDiff, aLoad, aStore]; exact rfl) ?_ | refine awOps_no (by rfl) (by rfl) ?_ | refine awOps_yes0 (by rfl) (by rfl) (by rfl) (by simp  only [go_sem, ↓reduceIte, Nat.reduceEqDiff, reduceCtorEq, Nat.reduceAdd, Nat.reduceMul, Nat.reduceLeDiff, aLoad, aStore]; exact rfl) ?_ | fail)
  refine awOps_call (by rfl) (by rfl) (by rfl) (And.intro Try.call70 (fn70 L t bt _ x hx hl hbt (by first | omega | (dsimp only; omega) | (dsimp only at *; omega)))) ?_
  rintro _ _ ⟨io, ob', m, rfl, rfl, h1, h2, h3, h4⟩
  have h3 := h3 hne
  rw [slOf_pos hne]
  repeat' (first | refine awOps_yes (by rfl) (by rfl) (by rfl) (by simp  only [go_sem, ↓reduceIte, Nat.reduceEqDiff, reduceCtorEq, Nat.reduceAdd, Nat.reduceMul, Nat.reduceLeDiff, aLoad, aStore]; exact rfl) ?_ | refine awOps_no (by rfl) (by rfl) ?_ | refine awOps_yes0 (by rfl) (by rfl) (by rfl) (by simp  only [go_sem, ↓reduceIte, Nat.reduceEqDiff, reduceCtorEq, Nat.reduceAdd, Nat.reduceMul, Nat.reduceLeDiff, aLoad, aStore]; exact rfl) ?_ | fail)
  refine awOps_nil (hK _ _ ?_)
  clear hK K
  refine aw_region_seq C (pb := false) rfl fun K hK => ?_
  repeat' (first | refine awOps_yes (by rfl) (by rfl) (by rfl) (by simp  only [go_sem, ↓reduceIte, Nat.reduceEqDiff, reduceCtorEq, Nat.reduceAdd, Nat.reduceMul, Nat.reduceLeDiff, aLoad, aStore]; exact rfl) ?_ | refine awOps_no (by rfl) (by rfl) ?_ | refine awOps_yes0 (by rfl) (by rfl) (by rfl) (by simp  only [go_sem, ↓reduceIte, Nat.reduceEqDiff, reduceCtorEq, Nat.reduceAdd, Nat.reduceMul, Nat.reduceLeDiff, aLoad, aStore]; exact rfl) ?_ | fail)
  refine awOps_call (by rfl) (by rfl) (by rfl) (And.intro Try.call71 (fn71 L t io _ (h3.1.trans (congrArg (Obj.cs · 0) cI_arr)) (by omega))) ?_
  rintro r1 _ rfl
  refine awOps_nil (hK _ _ ?_)
  clear hK K
  refine aw_region_seq C (pb := false) rfl fun K hK => ?_
  repeat' (first | refine awOps_yes (by rfl) (by rfl) (by rfl) (by simp  only [go_sem, ↓reduceIte, Nat.reduceEqDiff, reduceCtorEq, Nat.reduceAdd, Nat.reduceMul, Nat.reduceLeDiff, aLoad, aStore]; exact rfl) ?_ | refine awOps_no (by rfl) (by rfl) ?_ | refine awOps_yes0 (by rfl) (by rfl) (by rfl) (by simp  only [go_sem, ↓reduceIte, Nat.reduceEqDiff, reduceCtorEq, Nat.reduceAdd, Nat.reduceMul, Nat.reduceLeDiff, aLoad, aStore]; exact rfl) ?_ | fail)
  refine awOps_nil (hK _ _ ?_)
  clear hK K
  refine aw_ret ?_
  simp only [go_sem, ↓reduceIte, Nat.reduceEqDiff, reduceCtorEq, Nat.reduceAdd, Nat.reduceMul, Nat.reduceLeDiff, aLoad, aStore, FnQ, resA]
  -- .ret
  exact fun _ => ⟨io, upd ob' io (.cs (cI (sortI t)) 0), _, by rw [slOf_pos hne], rfl, (by first | omega | (dsimp only; omega) | (dsimp only at *; omega)), (by first | omega | (dsimp only; omega) | (dsimp only at *; omega)), fun _ => ⟨upd_same _ _ _, by have := h3.2; exact (by first | omega | (dsimp only; omega) | (dsimp only at *; omega))⟩, fun i hi => (upd_ne _ _ (by dsimp only at *; omega)).trans (h4 i (by first | omega | (dsimp only; omega) | (dsimp only at *; omega)))⟩
theorem fn49n (L : Loops) (t : List Int) (bt : Nat) (s : Me) (x : Sc) (hx : GSl encI x t) (hl : t.length ≤ 1000000) (hbt : s.ob bt = .cs [.sc x] 0) (hlt : bt < s.nx) (hne : t.length = 0) : FnL Try.prog L 49 [.av (.fn 72 [] [.ptr bt 0])] s fun r s' => ∃ io ob' m, r = .av (slOf io t.length) ∧ s' = ⟨ob', m, s.ls⟩ ∧ s.nx ≤ io ∧ s.nx ≤ m ∧ (t.length ≠ 0 → ob' io = .cs (cI (sortI t)) 0 ∧ io < m) ∧ ∀ i, i < s.nx → ob' i = s.ob i := by
  refine fn_of_body (ts := [2]) Try.func49 bod49 rfl (by simp) (by simp [Try.ntmps49]) fun D0 => ?_
  unfold Try.f49
  simp only [Option.getD_some, initSl]
  refine aw_region_seq C (pb := false) rfl fun K hK => ?_
  repeat' (first | refine awOps_yes (by rfl) (by rfl) (by rfl) (by simp  only [go_sem, ↓reduceIte, Nat.reduceEqDiff, reduceCtorEq, Nat.reduceAdd, Nat.reduceMul, Nat.reduceLeDiff, aLoad, aStore]; exact rfl) ?_ | refine awOps_no (by rfl) (by rfl) ?_ | refine awOps_yes0 (by rfl) (by rfl) (by rfl) (by simp  only [go_sem, ↓reduceIte, Nat.reduceEqDiff, reduceCtorEq, Nat.reduceAdd, Nat.reduceMul, Nat.reduceLeDiff, aLoad, aStore]; exact rfl) ?_ | fail)
  refine awOps_nil (hK _ _ ?_)
  clear hK K
  refine aw_region_seq C (pb := false) rfl fun K hK => ?_
  repeat' (first | refine awOps_yes (by rfl) (by rfl) (by rfl) (by simp  only [go_sem, ↓reduceIte, Nat.reduceEqDiff, reduceCtorEq, Nat.reduceAdd, Nat.reduceMul, Nat.reduceLeDiff, aLoad, aStore]; exact rfl) ?_ | refine awOps_no (by rfl) (by rfl) ?_ | refine awOps_yes0 (by rfl) (by rfl) (by rfl) (by simp  only [go_sem, ↓reduceIte, Nat.reduceEqDiff, reduceCtorEq, Nat.reduceAdd, Nat.reduceMul, Nat.reduceLeDiff, aLoad, aStore]; exact rfl) ?_ | fail)
  refine awOps_call (by rfl) (by rfl) (by rfl) (And.intro Try.call70 (fn70 L t bt _ x hx hl hbt (by first | omega | (dsimp only; omega) | (dsimp only at *; omega)))) ?_
  rintro _ _ ⟨io, ob', m, rfl, rfl, h1, h2, h3, h4⟩
  rw [show slOf io t.length = .sc .nilsl from if_pos hne]
  repeat' (first | refine awOps_yes (by rfl) (by rfl) (by rfl) (by simp  only [go_sem, ↓reduceIte, Nat.reduceEqDiff, reduceCtorEq, Nat.reduceAdd, Nat.reduceMul, Nat.reduceLeDiff, aLoad, aStore]; exact rfl) ?_ | refine awOps_no (by rfl) (by rfl) ?_ | refine awOps_yes0 (by rfl) (by rfl) (by rfl) (by simp  only [go_sem, ↓reduceIte, Nat.reduceEqDiff, reduceCtorEq, Nat.reduceAdd, Nat.reduceMul, Nat.reduceLeDiff, aLoad, aStore]; exact rfl) ?_ | fail)
  refine awOps_nil (hK _ _ ?_)
  clear hK K
  refine aw_region_seq C (pb := false) rfl fun K hK => ?_
  repeat' (first | refine awOps_yes (by rfl) (by rfl) (by rfl) (by simp  only [go_sem, ↓reduceIte, Nat.reduceEqDiff, reduceCtorEq, Nat.reduceAdd, Nat.reduceMul, Nat.reduceLeDiff, aLoad, aStore]; exact rfl) ?_ | refine awOps_no (by rfl) (by rfl) ?_ | refine awOps_yes0 (by rfl) (by rfl) (by rfl) (by simp  only [go_sem, ↓reduceIte, Nat.reduceEqDiff, reduceCtorEq, Nat.reduceAdd, Nat.reduceMul, Nat.reduceLeDiff, aLoad, aStore]; exact rfl) ?_ | fail)
  refine awOps_call (by rfl) (by rfl) (by rfl) (And.intro Try.call71 (fn71n L _)) ?_
  rintro r1 _ rfl
  refine awOps_nil (hK _ _ ?_)
  clear hK K
  refine aw_region_seq C (pb := false) rfl fun K hK => ?_
  repeat' (first | refine awOps_yes (by rfl) (by rfl) (by rfl) (by simp  only [go_sem, ↓reduceIte, Nat.reduceEqDiff, reduceCtorEq, Nat.reduceAdd, Nat.reduceMul, Nat.reduceLeDiff, aLoad, aStore]; exact rfl) ?_ | refine awOps_no (by rfl) (by rfl) ?_ | refine awOps_yes0 (by rfl) (by rfl) (by rfl) (by simp  only [go_sem, ↓reduceIte, Nat.reduceEqDiff, reduceCtorEq, Nat.reduceAdd, Nat.reduceMul, Nat.reduceLeDiff, aLoad, aStore]; exact rfl) ?_ | fail)
  refine awOps_nil (hK _ _ ?_)
  clear hK K
  refine aw_ret ?_
  simp only [go_sem, ↓reduceIte, Nat.reduceEqDiff, reduceCtorEq, Nat.reduceAdd, Nat.reduceMul, Nat.reduceLeDiff, aLoad, aStore, FnQ, resA]
  -- .ret
  exact fun _ => ⟨io, ob', _, by rw [show slOf io t.length = .sc .nilsl from if_pos hne], rfl, (by first | omega | (dsimp only; omega) | (dsimp only at *; omega)), (by first | omega | (dsimp only; omega) | (dsimp only at *; omega)), fun h => absurd hne h, fun i hi => h4 i (by first | omega | (dsimp only; omega) | (dsimp only at *; omega))⟩

theorem fn49p (L : Loops) (t : List Int) (bt : Nat) (s : Me) (x : Sc) (hx : GSl encI x t) (hl : t.length ≤ 1000000) (hbt : s.ob bt = .cs [.sc x] 0) (hlt : bt < s.nx) : FnL Try.prog L 49 [.av (.fn 72 [] [.ptr bt 0])] s fun r s' => (∃ y, r = .av (.sc y) ∧ GSl encI y (sortI t)) ∧ s' = s := by
  refine FnL.pure (R := fun r => ∃ y, r = .av (.sc y) ∧ GSl encI y (sortI t)) (FnL.purR ?_)
  by_cases hne : t.length = 0
  · refine (fn49n L t bt s x hx hl hbt hlt hne).mono fun r s' ⟨io, ob', m, h1, h2, h3, h4, h5, h6⟩ => ?_
    subst h1 h2
    refine ⟨.av (.sc .nilsl), ob', by rw [show slOf io t.length = .sc .nilsl from if_pos hne]; rfl, rfl, fun i hi => h6 i hi, rfl, .nilsl, rfl, .inl ⟨rfl, List.length_eq_zero_iff.1 (by rw [sortI_len, hne])⟩⟩
  · refine (fn49 L t bt s x hx hl hbt hlt hne).mono fun r s' ⟨io, ob', m, h1, h2, h3, h4, h5, h6⟩ => ?_
    subst h1 h2
    have h7 := h5 hne
    refine ⟨_, _, by rw [slOf_pos hne, ← sortI_len (l := t)]; exact cI_pure h7.1, rfl, fun i hi => (upd_ne _ _ (by omega)).trans (h6 i hi), rfl, _, rfl, cI_gsl⟩

end Go.Am.Seat
/-
  MADE BY PROGRAM (am.py): the walks of functions 50.
-/
namespace Go.Am.Seat
open Go.Proofs
theorem bod50 : Try.f50.body = some (Try.f50.body.getD .skip) := rfl
theorem fn50 (L : Loops) (x : Sc) (s : Me)  : FnL Try.prog L 50 [.av (.sc x)] s fun r s' => ∃ bt m, r = .av (.fn 72 [] [.ptr bt 0]) ∧ s.nx ≤ bt ∧ bt < m ∧ s' = ⟨upd s.ob bt (.cs [.sc x] 0), m, s.ls⟩ := by
  refine fn_of_body (ts := [2]) Try.func50 bod50 rfl (by simp) (by simp [Try.ntmps50]) fun D0 => ?_
  unfold Try.f50
  simp only [Option.getD_some, initSl]
  refine aw_region_seq C (pb := false) rfl fun K hK => ?_
  repeat' (first | refine awOps_yes (by rfl) (by rfl) (by rfl) (by simp  only [go_sem, ↓reduceIte, Nat.reduceEqDiff, reduceCtorEq, Nat.reduceAdd, Nat.reduceMul, Nat.reduceLeDiff, aLoad, aStore]; exact rfl) ?_ | refine awOps_no (by rfl) (by rfl) ?_ | refine awOps_yes0 (by rfl) (by rfl) (by rfl) (by simp  only [go_sem, ↓reduceIte, Nat.reduceEqDiff, reduceCtorEq, Nat.reduceAdd, Nat.reduceMul, Nat.reduceLeDiff, aLoad, aStore]; exact rfl) ?_ | fail)
  refine awOps_nil (hK _ _ ?_)
  clear hK K
  refine aw_region_seq C (pb := false) rfl fun K hK => ?_
  repeat' (first | refine awOps_yes (by rfl) (by rfl) (by rfl) (by simp  only [go_sem, ↓reduceIte, Nat.reduceEqDiff, reduceCtorEq, Nat.reduceAdd, Nat.reduceMul, Nat.reduceLeDiff, aLoad, aStore, avs]; exact rfl) ?_ | refine awOps_no (by rfl) (by rfl) ?_ | refine awOps_yes0 (by rfl) (by rfl) (by rfl) (by simp  only [go_sem, ↓reduceIte, Nat.reduceEqDiff, reduceCtorEq, Nat.reduceAdd, Nat.reduceMul, Nat.reduceLeDiff, aLoad, aStore, avs]; exact rfl) ?_ | fail)
  refine awOps_nil (hK _ _ ?_)
  clear hK K
  refine aw_ret ?_
  simp only [go_sem, ↓reduceIte, Nat.reduceEqDiff, reduceCtorEq, Nat.reduceAdd, Nat.reduceMul, Nat.reduceLeDiff, aLoad, aStore, FnQ, resA]
  -- .ret
  exact fun _ => ⟨s.nx, _, rfl, Nat.le_refl _, (by first | omega | (dsimp only; omega) | (dsimp only at *; omega)), rfl⟩
end Go.Am.Seat
