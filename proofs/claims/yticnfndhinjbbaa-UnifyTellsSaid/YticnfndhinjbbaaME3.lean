/-
  Part 3 of the proof: W80, W20, W36, W65, W37, W39, W52, W31, W86, W79, W62, W32, W33.
-/
import Derived.Test.YticnfndhinjbbaaME2
set_option linter.unusedVariables false
set_option linter.unusedSimpArgs false
/-
  MADE BY PROGRAM (am.py): the walks of functions 80.
-/
namespace Go.Am.Seat
open Go.Proofs
theorem bod80 : Try.f80.body = some (Try.f80.body.getD .skip) := rfl
theorem fn80 (L : Loops) (I : Nat → Me → Prop) (l : Nat) (t : List Cell) (at_ kk : Nat) (cid bc ba : Nat) (s : Me) (x : Sc) (hx : GSl encC x t) (hl : t.length ≤ 1000000) (hn : ∀ c ∈ t, c.kind = 3 → 0 ≤ c.n ∧ c.n ≤ 1000) (hk : takes (t.drop at_) 1 = some kk) (hat : at_ < t.length) (hlp : (L.rc l).params.size = 1) (hI : ∀ j s', I j s' → s'.ob bc = .cs [.ptr cid 0] 0 ∧ s'.ob ba = .cs [.sc (.int .i64 at_)] 0 ∧ cid < s'.nx ∧ ∃ u d n fz, s'.ob cid = .cs [.sc x, u, d, n] fz) (hup : ∀ j s' m, I j s' → s'.nx ≤ m → I j ⟨s'.ob, m, s'.ls⟩) (hr : ∀ j s' (h : j < (partsG t at_).length), I j s' → RoundL Try.prog L l [vI (partsG t at_)[j]] s' fun r s'' => r = vB true ∧ I (j + 1) s'') (h0 : I 0 s) : FnL Try.prog L 80 [.av (.yl l), .av (.ptr bc 0), .av (.ptr ba 0)] s fun r s' => I (partsG t at_).length s' := by
  obtain ⟨hbc, hba, hcn, u, d, n, fz, hc⟩ := hI 0 s h0
  refine fn_of_body (ts := []) Try.func80 bod80 rfl (by simp) (by simp [Try.ntmps80]) fun D0 => ?_
  unfold Try.f80
  simp only [Option.getD_some, initSl]
  refine aw_seq ?_
  refine aw_sil_seq C (pb := false) 9 _ rfl (by kernel_rfl) rfl (fun _ _ => rfl) fun K hK => ?_
  repeat' (first | refine ws1 (a := by simp only [go_sem, ↓reduceIte, Nat.reduceEqDiff, reduceCtorEq, Nat.reduceAdd, Nat.reduceMul, Nat.reduceLeDiff, aLoad, aStore, hbc, hba, hc, idxC hx hat]; exact rfl) (h := ?_) | fail)
  refine sil_nil (hK _ ?_)
  clear hK K
  refine aw_cond (by rfl) ?_ ?_
  · intro hc0
    try simp only [bne_iff_ne, ne_eq, bne_eq_false_iff_eq] at hc0
    refine aw_ret ?_
    try simp only [thenA_normal, thenA_ret, thenA_exit, blockA_normal, blockA_ret, blockA_exit]
    simp only [go_sem, ↓reduceIte, Nat.reduceEqDiff, reduceCtorEq, Nat.reduceAdd, Nat.reduceMul, Nat.reduceLeDiff, aLoad, aStore, FnQ, resA]
    -- 0t.ret
    have : partsG t at_ = [] := by rw [partsG, List.getElem?_eq_getElem hat]; simp only [if_neg hc0]
    rw [this]
    exact fun _ => hup _ _ _ h0 (by omega)
  · intro hc0
    try simp only [bne_iff_ne, ne_eq, bne_eq_false_iff_eq] at hc0
    refine aw_skip ?_
    simp only [thenA_normal, thenA_ret, thenA_exit, blockA_normal, blockA_ret, blockA_exit, ↓reduceIte, Nat.reduceEqDiff]
    refine aw_region_seq C (pb := false) rfl fun K hK => ?_
    repeat' (first | refine wy1 (a := by simp only [go_sem, ↓reduceIte, Nat.reduceEqDiff, reduceCtorEq, Nat.reduceAdd, Nat.reduceMul, Nat.reduceLeDiff, aLoad, aStore, hba, wrap_small ((at_ : Int) + 1) (by omega) (by omega)]; exact rfl) (h := ?_) | fail)
    refine awOps_nil (hK _ _ ?_)
    clear hK K
    refine aw_sil_seq C (pb := false) 9 _ rfl (by kernel_rfl) rfl (fun _ _ => rfl) fun K hK => ?_
    repeat' (first | refine ws1 (a := by simp only [go_sem, ↓reduceIte, Nat.reduceEqDiff, reduceCtorEq, Nat.reduceAdd, Nat.reduceMul, Nat.reduceLeDiff, aLoad, aStore, hbc, hba, hc, idxC hx hat]; exact rfl) (h := ?_) | fail)
    refine sil_nil (hK _ ?_)
    clear hK K
    refine aw_block ?_
    have hk1 := hk
    rw [List.drop_eq_getElem_cons hat] at hk1
    obtain ⟨p0, _, hp0⟩ := takes_cons (by omega) hk1
    have hn0 := hn t[at_] (List.getElem_mem hat) hc0
    rw [show 1 - 1 + arC t[at_] = t[at_].n.toNat by rw [arC, if_pos hc0]; omega] at hp0
    have hpg : partsG t at_ = posG t (at_ + 1) t[at_].n.toNat := by
      rw [partsG, List.getElem?_eq_getElem hat]
      simp only [if_pos hc0]
    refine AW.less (sl' := [(0, .av (.yl l)), (1, .av (.ptr bc 0)), (2, .av (.ptr ba 0)), (4, vI (at_ + 1)), (23, vI t[at_].n), (24, vI (0))]) (AllIn.less ⟨rfl, rfl, rfl, rfl, rfl, rfl, trivial⟩) (aw_loop (fun k sl1 s1 => ∃ (i : Nat) (to : Nat) (q : Nat) (m : Nat), k = m ∧ sl1 = [(0, .av (.yl l)), (1, .av (.ptr bc 0)), (2, .av (.ptr ba 0)), (4, vI (to)), (23, vI t[at_].n), (24, vI (i))] ∧ (I i s1) ∧ ((i : Int) + m = t[at_].n ∧ to ≤ t.length) ∧ (takes (t.drop to) m = some q) ∧ (i ≤ (partsG t at_).length ∧ (partsG t at_).drop i = posG t to m)) (k := (t[at_].n.toNat)) ⟨0, at_ + 1, p0, t[at_].n.toNat, rfl, rfl, hup _ _ _ h0 (by omega), by omega, hp0, ⟨Nat.zero_le _, by rw [hpg]; rfl⟩⟩ ?_)
    rintro k1 _ s1 ⟨i, to, q, m, hk1, rfl, hs1, hb, hq, h3⟩
    obtain ⟨hbc1, hba1, hcn1, u1, d1, n1, fz1, hcc1⟩ := hI i s1 hs1
    refine aw_region_seq C (pb := false) rfl fun K hK => ?_
    repeat' (first | refine wy0 (h := ?_) | fail)
    refine awOps_nil (hK _ _ ?_)
    clear hK K
    refine aw_seq ?_
    refine aw_cond (by rfl) ?_ ?_
    · intro hc1
      try simp only [decide_eq_true_eq, decide_eq_false_iff_not] at hc1
      have hm : 0 < m := by omega
      obtain ⟨p, hp, hpq0, hpq1⟩ := takes_add (a := 1) (b := m - 1) (by rw [show 1 + (m - 1) = m by omega]; exact hq)
      have hpq : takes (t.drop (to + p)) (m - 1) = some (q - p) := by rw [← List.drop_drop]; exact hpq1
      have hil : i < (partsG t at_).length := by
        have := congrArg List.length h3.2
        obtain ⟨m, rfl⟩ : ∃ m', m = m' + 1 := ⟨m - 1, by omega⟩
        rw [List.length_drop, posG, List.length_cons] at this
        omega
      have hti : (to : Int) = (partsG t at_)[i] := by
        have h4 := h3.2
        obtain ⟨m, rfl⟩ : ∃ m', m = m' + 1 := ⟨m - 1, by omega⟩
        rw [List.drop_eq_getElem_cons hil, posG] at h4
        exact (List.cons.inj h4).1.symm
      refine aw_skip ?_
      simp only [thenA_normal, thenA_ret, thenA_exit, blockA_normal, blockA_ret, blockA_exit, ↓reduceIte, Nat.reduceEqDiff]
      refine aw_seq ?_
      refine aw_block ?_
      refine aw_seq ?_
      refine aw_region_seq C (pb := false) rfl fun K hK => ?_
      repeat' (first | refine wy0 (h := ?_) | fail)
      refine wc (And.intro (by rw [hlp]; rfl) (by show RoundL _ _ l [vI (to : Int)] _ _; rw [hti]; exact hr i _ hil (hup _ _ _ hs1 (by omega)))) ?_
      rintro _ s6 ⟨rfl, hI6⟩
      obtain ⟨hbc6, hba6, hcn6, u6, d6, n6, fz6, hcc6⟩ := hI _ s6 hI6
      repeat' (first | refine wy0 (h := ?_) | fail)
      refine awOps_nil (hK _ _ ?_)
      clear hK K
      refine aw_cond (by rfl) ?_ ?_
      · intro hc2
        try simp only [decide_eq_true_eq, decide_eq_false_iff_not] at hc2
        cases hc2
      · intro hc2
        try simp only [decide_eq_true_eq, decide_eq_false_iff_not] at hc2
        refine aw_skip ?_
        simp only [thenA_normal, thenA_ret, thenA_exit, blockA_normal, blockA_ret, blockA_exit, ↓reduceIte, Nat.reduceEqDiff]
        refine aw_region C (pb := false) rfl ?_
        repeat' (first | refine wy1 (a := by simp only [go_sem, ↓reduceIte, Nat.reduceEqDiff, reduceCtorEq, Nat.reduceAdd, Nat.reduceMul, Nat.reduceLeDiff, aLoad, aStore, hbc6]; exact rfl) (h := ?_) | fail)
        (refine wc (And.intro Try.call47 (fn47 L t to p cid fz6 u6 d6 n6 _ x hx hcc6 (by dsimp only; omega) (by omega) hn hp (by omega))) ?_; rintro _ _ ⟨rfl, rfl⟩)
        repeat' (first | refine wy1 (a := by simp only [go_sem, ↓reduceIte, Nat.reduceEqDiff, reduceCtorEq, Nat.reduceAdd, Nat.reduceMul, Nat.reduceLeDiff, aLoad, aStore, hbc6]; exact rfl) (h := ?_) | fail)
        refine awOps_nil ?_
        try simp only [thenA_normal, thenA_ret, thenA_exit, blockA_normal, blockA_ret, blockA_exit]
        refine aw_region C (pb := false) rfl ?_
        repeat' (first | refine wy1 (a := by simp only [go_sem, ↓reduceIte, Nat.reduceEqDiff, reduceCtorEq, Nat.reduceAdd, Nat.reduceMul, Nat.reduceLeDiff, aLoad, aStore, wrap_small ((i : Int) + 1) (by have := hn t[at_] (List.getElem_mem hat); omega) (by omega)]; exact rfl) (h := ?_) | fail)
        refine awOps_nil ?_
        try simp only [thenA_normal, thenA_ret, thenA_exit, blockA_normal, blockA_ret, blockA_exit]
        -- end of round 0 at 0f1t2f
        refine ⟨(m - 1), [(0, .av (.yl l)), (1, .av (.ptr bc 0)), (2, .av (.ptr ba 0)), (4, vI (to + p)), (23, vI t[at_].n), (24, vI (i + 1))], by omega, AllIn.less ⟨rfl, rfl, rfl, rfl, rfl, rfl, trivial⟩, i + 1, to + p, q - p, m - 1, rfl, rfl, ?_, ?_, ?_, ?_⟩
        · exact hup _ _ _ hI6 (by omega)
        · have := takes_len hp
          rw [List.length_drop] at this
          omega
        · exact hpq
        · refine ⟨by omega, ?_⟩
          rw [← List.drop_drop, h3.2]
          obtain ⟨m, rfl⟩ : ∃ m', m = m' + 1 := ⟨m - 1, by omega⟩
          rw [posG, nextG, hp]
          rfl
    · intro hc1
      try simp only [decide_eq_true_eq, decide_eq_false_iff_not] at hc1
      refine aw_exit ?_
      simp only [thenA_normal, thenA_ret, thenA_exit, blockA_normal, blockA_ret, blockA_exit, ↓reduceIte, Nat.reduceEqDiff]
      -- 0f1f.x0.end
      have hm : m = 0 := by omega
      subst hm
      have h4 := congrArg List.length h3.2
      rw [List.length_drop, posG, List.length_nil] at h4
      rw [show (partsG t at_).length = i by omega]
      exact fun _ => hup _ _ _ hs1 (by omega)
end Go.Am.Seat
/-
  MADE BY PROGRAM (am.py): the walks of functions 20.
-/
namespace Go.Am.Seat
open Go.Proofs

def cellEq (a b : Cell) : Bool := (a.kind == b.kind && (a.name == b.name && (a.n == b.n && true)))
def sameL : List Cell → List Cell → Bool
  | [], [] => true
  | a :: l, b :: r => cellEq a b && sameL l r
  | _, _ => false
theorem sameL_len : ∀ {a b : List Cell}, sameL a b = true → a.length = b.length
  | [], [], _ => rfl
  | [], _ :: _, h => by simp [sameL] at h
  | _ :: _, [], h => by simp [sameL] at h
  | x :: a, y :: b, h => by
    simp only [sameL, Bool.and_eq_true] at h
    simp [sameL_len h.2]

theorem bod20 : Try.f20.body = some (Try.f20.body.getD .skip) := rfl
theorem fn20 (L : Loops) (a b : List Cell) (s : Me) (x y : Sc) (hx : GSl encC x a) (hy : GSl encC y b) (hl : a.length ≤ 2199023255552) : FnL Try.prog L 20 [.av (.sc x), .av (.sc y)] s fun r s' => (r = vB (sameL a b)) ∧ s' = s := by
  refine FnL.pure (R := fun r => r = vB (sameL a b)) ?_
  refine fn_of_body (ts := [4]) Try.func20 bod20 rfl (by simp) (by simp [Try.ntmps20]) fun D0 => ?_
  unfold Try.f20
  simp only [Option.getD_some, initSl]
  refine aw_region_seq C (pb := false) rfl fun K hK => ?_
  repeat' (first | refine wy0 (h := ?_) | fail)
  refine awOps_nil (hK _ _ ?_)
  clear hK K
  refine aw_seq ?_
  refine aw_region_seq C (pb := false) rfl fun K hK => ?_
  repeat' (first | refine wy1 (a := by simp only [go_sem, ↓reduceIte, Nat.reduceEqDiff, reduceCtorEq, Nat.reduceAdd, Nat.reduceMul, Nat.reduceLeDiff, aLoad, aStore, lenC hx, lenC hy]; exact rfl) (h := ?_) | fail)
  refine awOps_nil (hK _ _ ?_)
  clear hK K
  refine aw_cond (by rfl) ?_ ?_
  · intro hc0
    try simp only [bne_iff_ne, ne_eq, bne_eq_false_iff_eq] at hc0
    refine aw_region_seq C (pb := false) rfl fun K hK => ?_
    repeat' (first | refine wy0 (h := ?_) | fail)
    refine awOps_nil (hK _ _ ?_)
    clear hK K
    refine aw_ret ?_
    try simp only [thenA_normal, thenA_ret, thenA_exit, blockA_normal, blockA_ret, blockA_exit]
    simp only [go_sem, ↓reduceIte, Nat.reduceEqDiff, reduceCtorEq, Nat.reduceAdd, Nat.reduceMul, Nat.reduceLeDiff, aLoad, aStore, FnQ, resA]
    -- 0t.ret
    have hne : sameL a b = false := by
      cases h : sameL a b
      · rfl
      · exact absurd (sameL_len h) (by omega)
    exact fun _ => ⟨by first | rfl | trivial, by first | exact fun _ _ => rfl | trivial, by first | rfl | trivial, by rw [hne]⟩
  · intro hc0
    try simp only [bne_iff_ne, ne_eq, bne_eq_false_iff_eq] at hc0
    refine aw_skip ?_
    simp only [thenA_normal, thenA_ret, thenA_exit, blockA_normal, blockA_ret, blockA_exit, ↓reduceIte, Nat.reduceEqDiff]
    refine aw_seq ?_
    refine aw_region_seq C (pb := false) rfl fun K hK => ?_
    repeat' (first | refine wy0 (h := ?_) | fail)
    refine awOps_nil (hK _ _ ?_)
    clear hK K
    refine aw_block ?_
    refine AW.less (sl' := [(0, .av (.sc x)), (1, .av (.sc y)), (5, vI (0))]) (AllIn.less ⟨rfl, rfl, rfl, trivial⟩) (aw_loop (fun k sl1 s1 => ∃ (i : Nat), k = a.length - i ∧ sl1 = [(0, .av (.sc x)), (1, .av (.sc y)), (5, vI (i))] ∧ (Kp s s1) ∧ (i ≤ a.length) ∧ (sameL (a.drop i) (b.drop i) = sameL a b)) (k := a.length - (0)) ⟨0, rfl, rfl, (Kp.refl s).up (by omega), Nat.zero_le _, by simp⟩ ?_)
    rintro k1 _ s1 ⟨i, hk1, rfl, hs1, hb, h3⟩
    refine aw_seq ?_
    refine aw_region_seq C (pb := false) rfl fun K hK => ?_
    repeat' (first | refine wy1 (a := by simp only [go_sem, ↓reduceIte, Nat.reduceEqDiff, reduceCtorEq, Nat.reduceAdd, Nat.reduceMul, Nat.reduceLeDiff, aLoad, aStore, lenC hx]; exact rfl) (h := ?_) | fail)
    refine awOps_nil (hK _ _ ?_)
    clear hK K
    refine aw_cond (by rfl) ?_ ?_
    · intro hc1
      try simp only [decide_eq_true_eq, decide_eq_false_iff_not] at hc1
      have hi2 : i < a.length := by omega
      have hi3 : i < b.length := by omega
      refine aw_skip ?_
      simp only [thenA_normal, thenA_ret, thenA_exit, blockA_normal, blockA_ret, blockA_exit, ↓reduceIte, Nat.reduceEqDiff]
      refine aw_seq ?_
      refine aw_block ?_
      refine aw_sil_seq C (pb := false) 9 _ rfl (by kernel_rfl) rfl (fun _ _ => rfl) fun K hK => ?_
      repeat' (first | refine ws1 (a := by simp only [go_sem, ↓reduceIte, Nat.reduceEqDiff, reduceCtorEq, Nat.reduceAdd, Nat.reduceMul, Nat.reduceLeDiff, aLoad, aStore, idxC hx hi2, idxC hy hi3]; exact rfl) (h := ?_) | fail)
      refine sil_nil (hK _ ?_)
      clear hK K
      refine aw_cond (by rfl) ?_ ?_
      · intro hc2
        try simp only [decide_eq_true_eq, decide_eq_false_iff_not] at hc2
        refine aw_region_seq C (pb := false) rfl fun K hK => ?_
        repeat' (first | refine wy0 (h := ?_) | fail)
        refine awOps_nil (hK _ _ ?_)
        clear hK K
        refine aw_ret ?_
        try simp only [thenA_normal, thenA_ret, thenA_exit, blockA_normal, blockA_ret, blockA_exit]
        simp only [go_sem, ↓reduceIte, Nat.reduceEqDiff, reduceCtorEq, Nat.reduceAdd, Nat.reduceMul, Nat.reduceLeDiff, aLoad, aStore, FnQ, resA]
        -- 0f1t2t.ret
        have hne : sameL a b = false := by
          rw [← h3, List.drop_eq_getElem_cons hi2, List.drop_eq_getElem_cons hi3, sameL]
          have : cellEq a[i] b[i] = false := by
            unfold cellEq
            cases h : (a[i].kind == b[i].kind && (a[i].name == b[i].name && (a[i].n == b[i].n && true)))
            · rfl
            · rw [h] at hc2; cases hc2
          rw [this]; rfl
        exact fun _ => ⟨by first | rfl | trivial, hs1.2.1, hs1.2.2, by rw [hne]⟩
      · intro hc2
        try simp only [decide_eq_true_eq, decide_eq_false_iff_not] at hc2
        refine aw_skip ?_
        simp only [thenA_normal, thenA_ret, thenA_exit, blockA_normal, blockA_ret, blockA_exit, ↓reduceIte, Nat.reduceEqDiff]
        refine aw_region C (pb := false) rfl ?_
        repeat' (first | refine wy1 (a := by simp only [go_sem, ↓reduceIte, Nat.reduceEqDiff, reduceCtorEq, Nat.reduceAdd, Nat.reduceMul, Nat.reduceLeDiff, aLoad, aStore, wrap_small ((i : Int) + 1) (by omega) (by omega)]; exact rfl) (h := ?_) | fail)
        refine awOps_nil ?_
        try simp only [thenA_normal, thenA_ret, thenA_exit, blockA_normal, blockA_ret, blockA_exit]
        -- end of round 0 at 0f1t2f
        refine ⟨a.length - (i + 1), [(0, .av (.sc x)), (1, .av (.sc y)), (5, vI (i + 1))], by omega, AllIn.less ⟨rfl, rfl, rfl, trivial⟩, i + 1, rfl, rfl, ?_, ?_, ?_⟩
        · exact hs1.up (by omega)
        · omega
        · rw [← h3, List.drop_eq_getElem_cons hi2, List.drop_eq_getElem_cons hi3, sameL]
          have : cellEq a[i] b[i] = true := by
            unfold cellEq
            cases h : (a[i].kind == b[i].kind && (a[i].name == b[i].name && (a[i].n == b[i].n && true)))
            · rw [h] at hc2; cases hc2
            · rfl
          rw [this]; rfl
    · intro hc1
      try simp only [decide_eq_true_eq, decide_eq_false_iff_not] at hc1
      refine aw_exit ?_
      simp only [thenA_normal, thenA_ret, thenA_exit, blockA_normal, blockA_ret, blockA_exit, ↓reduceIte, Nat.reduceEqDiff]
      refine aw_region_seq C (pb := false) rfl fun K hK => ?_
      repeat' (first | refine wy0 (h := ?_) | fail)
      refine awOps_nil (hK _ _ ?_)
      clear hK K
      refine aw_ret ?_
      simp only [go_sem, ↓reduceIte, Nat.reduceEqDiff, reduceCtorEq, Nat.reduceAdd, Nat.reduceMul, Nat.reduceLeDiff, aLoad, aStore, FnQ, resA]
      -- 0f1f.x0.ret
      have hne : sameL a b = true := by
        rw [← h3, List.drop_of_length_le (by omega), List.drop_of_length_le (by omega)]; rfl
      exact fun _ => ⟨by first | rfl | trivial, hs1.2.1, hs1.2.2, by rw [hne]⟩
end Go.Am.Seat
/-
  MADE BY PROGRAM (am.py): the walks of functions 36.
-/
namespace Go.Am.Seat
open Go.Proofs

def partsN (t : List Cell) (i : Nat) : List Nat := (partsG t i).map Int.toNat
theorem posG_nat (t : List Cell) : ∀ (m to : Nat), posG t to m = ((posG t to m).map Int.toNat).map (fun k : Nat => (k : Int))
  | 0, _ => rfl
  | m + 1, to => by rw [posG, List.map_cons, List.map_cons, ← posG_nat t m, Int.toNat_natCast]
theorem partsG_nat (t : List Cell) (i : Nat) : partsG t i = (partsN t i).map (fun k : Nat => (k : Int)) := by
  rw [partsN, partsG]
  split
  · split
    · exact posG_nat t _ _
    · rfl
  · rfl
theorem partsN_len (t : List Cell) (i : Nat) : (partsN t i).length = (partsG t i).length := by simp [partsN]
theorem partsN_get {t : List Cell} {i j : Nat} (h : j < (partsG t i).length) : (partsG t i)[j] = (((partsN t i)[j]'(by rw [partsN_len]; exact h) : Nat) : Int) := by
  have := partsG_nat t i
  have h2 : (partsG t i)[j] = ((partsN t i).map (fun k : Nat => (k : Int)))[j]'(by rw [← this]; exact h) := by congr 1
  rw [h2, List.getElem_map]
/-- Each place begins a term. -/
def TOK (t : List Cell) : Prop := (∀ i, i < t.length → ∃ k, takes (t.drop i) 1 = some k) ∧ ∀ c ∈ t, c.kind = 3 → 0 ≤ c.n ∧ c.n ≤ 1000
theorem posG_lt {t : List Cell} : ∀ {m to q : Nat}, takes (t.drop to) m = some q → to ≤ t.length → ∀ k ∈ posG t to m, 0 ≤ k ∧ (to : Int) ≤ k ∧ k < t.length
  | 0, _, _, _, _, k, hk => by simp [posG] at hk
  | m + 1, to, q, hq, hto, k, hk => by
    obtain ⟨p, hp, hpq0, hpq1⟩ := takes_add (a := 1) (b := m) (by rw [show 1 + m = m + 1 by omega]; exact hq)
    have hlt : to < t.length := by
      rcases Nat.lt_or_ge to t.length with h | h
      · exact h
      · rw [List.drop_of_length_le h] at hp; exact (takes_nil (by omega) hp).elim
    rw [posG, List.mem_cons] at hk
    rcases hk with rfl | hk
    · omega
    · have h2 := takes_len hp
      rw [List.length_drop] at h2
      rw [nextG, hp] at hk
      have := posG_lt (m := m) (to := to + p) (q := q - p) (by rw [← List.drop_drop]; exact hpq1) (by omega) k hk
      omega
theorem partsN_lt {t : List Cell} (ht : TOK t) {i : Nat} (hi : i < t.length) : ∀ k ∈ partsN t i, k < t.length ∧ i < k := by
  intro k hk
  obtain ⟨kk, hkk⟩ := ht.1 i hi
  rw [List.drop_eq_getElem_cons hi] at hkk
  obtain ⟨p0, _, hp0⟩ := takes_cons (by omega) hkk
  obtain ⟨z, hz, rfl⟩ := List.mem_map.1 hk
  rw [partsG, List.getElem?_eq_getElem hi] at hz
  simp only at hz
  split at hz
  · rename_i hk3
    rw [show 1 - 1 + arC t[i] = t[i].n.toNat by rw [arC, if_pos hk3]; omega] at hp0
    have := posG_lt hp0 (by omega) z hz
    omega
  · simp at hz
theorem own1_lt {n : Nat} : ∀ {F : Nat} {p p' : Nat → Nat} {a r : Nat}, own1 F p a = some (r, p') → a < n → (∀ i, i < n → p i < n) → r < n ∧ ∀ i, i < n → p' i < n
  | 0, _, _, _, _, h, _, _ => by simp [own1] at h
  | F + 1, p, p', a, r, h, ha, hp => by
    rw [own1] at h
    split at h
    · cases h; exact ⟨ha, hp⟩
    · exact own1_lt h (hp _ (hp _ ha)) fun i hi => by
        by_cases h' : i = a
        · rw [h', upd_same]; exact hp _ (hp _ ha)
        · rw [upd_ne _ _ h']; exact hp i hi
def minI (a b : Int) : Int := if b < a then b else a
/-- What join does: the ways, what each class does, its least variable; true: it has gone through. -/
def joinF (t : List Cell) : Nat → (Nat → Nat) → (Nat → Int) → (Nat → Int) → List (Nat × Nat) → Option (Bool × (Nat → Nat) × (Nat → Int) × (Nat → Int))
  | 0, _, _, _, _ => none
  | F + 1, p, D, N, td => match td.getLast? with
    | none => some (true, p, D, N)
    | some (a, b) => match own1 F p a with
      | none => none
      | some (x, p1) => match own1 F p1 b with
        | none => none
        | some (y, p2) =>
          if x = y then joinF t F p2 D N td.dropLast
          else if D y < 0 then joinF t F (upd p2 y x) D (upd N x (minI (N x) (N y))) td.dropLast
          else if D x < 0 then joinF t F (upd p2 y x) (upd D x (D y)) (upd N x (minI (N x) (N y))) td.dropLast
          else match t[(D x).toNat]?, t[(D y).toNat]? with
            | some c, some d => if cellEq c d then joinF t F (upd p2 y x) D (upd N x (minI (N x) (N y))) (td.dropLast ++ (partsN t (D x).toNat).zip (partsN t (D y).toNat))
              else some (false, upd p2 y x, D, upd N x (minI (N x) (N y)))
            | _, _ => none
def tdC (td : List (Nat × Nat)) : List Av := td.flatMap fun ab => [.sc (.int .i64 (ab.1 : Int)), .sc (.int .i64 (ab.2 : Int))]
theorem tdC_len (td : List (Nat × Nat)) : (tdC td).length = td.length * 2 := by
  induction td with
  | nil => rfl
  | cons a l ih => simp only [tdC, List.flatMap_cons, List.length_append, List.length_cons, List.length_nil] at ih ⊢; omega
theorem tdC_noyl {td : List (Nat × Nat)} {l : List Av} (h : l = tdC td) {a b : Int} : (Obj.cs (l ++ [.sc (.int .i64 a), .sc (.int .i64 b)]) 0).noyl = true := by
  subst h
  simp [Obj.noyl, tdC, Av.noyl]
theorem tdC_append (a b : List (Nat × Nat)) : tdC (a ++ b) = tdC a ++ tdC b := by simp [tdC]
theorem jplain {s : Me} {ob : Nat → Obj} {nx : Nat} {x : Sc} {cid iu id iN n : Nat} {p : Nat → Nat} {D N : Nat → Int} (h : CL ob nx x cid iu id iN n p D N) (ho : ∀ j, j < s.nx → j ≠ iu → j ≠ id → j ≠ iN → ob j = s.ob j) (i : Nat) (hi : i < s.nx) : ob i = s.ob i ∨ (ob i).plain = true := by
  by_cases h1 : i = iu
  · rw [h1, h.u]; exact .inr arrN_plain
  by_cases h2 : i = id
  · rw [h2, h.d]; exact .inr arr_plain
  by_cases h3 : i = iN
  · rw [h3, h.n]; exact .inr arr_plain
  exact .inl (ho i hi h1 h2 h3)
structure JI (s : Me) (x : Sc) (cid iu id iN n : Nat) (p : Nat → Nat) (D N : Nat → Int) (tid itd : Nat) (td : List (Nat × Nat)) (s1 : Me) : Prop where
  ls : s1.ls = s.ls
  nx : s.nx ≤ s1.nx
  old : ∀ j, j < s.nx → j ≠ iu → j ≠ id → j ≠ iN → s1.ob j = s.ob j
  cl : CL s1.ob s.nx x cid iu id iN n p D N
  t : s1.ob tid = .cs [.own itd 0 td.length 2] 0
  td : ∃ l, s1.ob itd = .cs l 0 ∧ l.take (td.length * 2) = tdC td ∧ td.length * 2 ≤ l.length ∧ l.all Av.noyl = true
  new : s.nx ≤ tid ∧ s.nx ≤ itd ∧ tid ≠ itd ∧ tid < s1.nx ∧ itd < s1.nx
section
variable {s s1 : Me} {x : Sc} {cid iu id iN n tid itd : Nat} {p : Nat → Nat} {D N : Nat → Int} {td : List (Nat × Nat)}
theorem JI.frame (h : JI s x cid iu id iN n p D N tid itd td s1) {ob' : Nat → Obj} {m : Nat} (hm : s1.nx ≤ m) (ho : ∀ j, j < s1.nx → ob' j = s1.ob j) : JI s x cid iu id iN n p D N tid itd td ⟨ob', m, s1.ls⟩ := by
  have hn := h.nx; have hw := h.new
  obtain ⟨l, h1, h2⟩ := h.td
  exact ⟨h.ls, Nat.le_trans h.nx hm, fun j hj a b c => (ho j (by omega)).trans (h.old j hj a b c), h.cl.frame (Nat.le_refl _) fun j hj => ho j (by omega), (ho _ (by omega)).trans h.t, ⟨l, (ho _ (by omega)).trans h1, h2⟩, by dsimp only; omega⟩
theorem JI.setU (h : JI s x cid iu id iN n p D N tid itd td s1) (p' : Nat → Nat) {m : Nat} (hm : s1.nx ≤ m) : JI s x cid iu id iN n p' D N tid itd td ⟨upd s1.ob iu (.cs (arrN n p') 0), m, s1.ls⟩ := by
  have hn := h.nx; have hw := h.new; have hc := h.cl.hi
  obtain ⟨l, h1, h2⟩ := h.td
  exact ⟨h.ls, Nat.le_trans h.nx hm, fun j hj a b c => (upd_ne _ _ a).trans (h.old j hj a b c), h.cl.setU p', (upd_ne _ _ (by omega)).trans h.t, ⟨l, (upd_ne _ _ (by omega)).trans h1, h2⟩, by dsimp only; omega⟩
theorem JI.setD (h : JI s x cid iu id iN n p D N tid itd td s1) (D' : Nat → Int) {m : Nat} (hm : s1.nx ≤ m) : JI s x cid iu id iN n p D' N tid itd td ⟨upd s1.ob id (.cs (arr n D') 0), m, s1.ls⟩ := by
  have hn := h.nx; have hw := h.new; have hc := h.cl.hi
  obtain ⟨l, h1, h2⟩ := h.td
  exact ⟨h.ls, Nat.le_trans h.nx hm, fun j hj a b c => (upd_ne _ _ b).trans (h.old j hj a b c), h.cl.setD D', (upd_ne _ _ (by omega)).trans h.t, ⟨l, (upd_ne _ _ (by omega)).trans h1, h2⟩, by dsimp only; omega⟩
theorem JI.setN (h : JI s x cid iu id iN n p D N tid itd td s1) (N' : Nat → Int) {m : Nat} (hm : s1.nx ≤ m) : JI s x cid iu id iN n p D N' tid itd td ⟨upd s1.ob iN (.cs (arr n N') 0), m, s1.ls⟩ := by
  have hn := h.nx; have hw := h.new; have hc := h.cl.hi
  obtain ⟨l, h1, h2⟩ := h.td
  exact ⟨h.ls, Nat.le_trans h.nx hm, fun j hj a b c => (upd_ne _ _ c).trans (h.old j hj a b c), h.cl.setN N', (upd_ne _ _ (by omega)).trans h.t, ⟨l, (upd_ne _ _ (by omega)).trans h1, h2⟩, by dsimp only; omega⟩
theorem JI.pop {td0 : List (Nat × Nat)} {ab : Nat × Nat} (h : JI s x cid iu id iN n p D N tid itd (td0 ++ [ab]) s1) {m : Nat} (hm : s1.nx ≤ m) : JI s x cid iu id iN n p D N tid itd td0 ⟨upd s1.ob tid (.cs [.own itd 0 td0.length 2] 0), m, s1.ls⟩ := by
  have hn := h.nx; have hw := h.new; have hc := h.cl.hi
  obtain ⟨l, h1, h2, h3, h4⟩ := h.td
  simp only [List.length_append, List.length_cons, List.length_nil, Nat.zero_add] at h2 h3
  refine ⟨h.ls, Nat.le_trans h.nx hm, fun j hj a b c => (upd_ne _ _ (by omega)).trans (h.old j hj a b c), h.cl.frame (Nat.le_refl _) fun j hj => upd_ne _ _ (by omega), upd_same _ _ _, ⟨l, (upd_ne _ _ (by omega)).trans h1, ?_, by omega, h4⟩, by dsimp only; omega⟩
  have := congrArg (List.take (td0.length * 2)) h2
  rw [List.take_take, Nat.min_eq_left (by omega)] at this
  rw [this, tdC_append, List.take_append_of_le_length (by rw [tdC_len]; exact Nat.le_refl _), List.take_of_length_le (by rw [tdC_len]; exact Nat.le_refl _)]
/-- What lies last. -/
theorem JI.last {td0 : List (Nat × Nat)} {a b : Nat} (h : JI s x cid iu id iN n p D N tid itd (td0 ++ [(a, b)]) s1) {ob : Nat → Obj} (ho : ob itd = s1.ob itd) :
    aLoad T ob 3 (.av (.ptr itd (td0.length * 2))) = some (vI (a : Int)) ∧ aLoad T ob 3 (.av (.ptr itd (td0.length * 2 + 1))) = some (vI (b : Int)) := by
  obtain ⟨l, h1, h2, h3, _⟩ := h.td
  simp only [List.length_append, List.length_cons, List.length_nil, Nat.zero_add] at h2 h3
  have e : l.drop (td0.length * 2) = [.sc (.int .i64 (a : Int)), .sc (.int .i64 (b : Int))] ++ l.drop ((td0.length + 1) * 2) := by
    have h4 := List.take_append_drop ((td0.length + 1) * 2) l
    rw [h2, tdC_append] at h4
    have h5 := congrArg (List.drop (td0.length * 2)) h4
    rw [List.append_assoc, List.drop_append_of_le_length (by rw [tdC_len]; exact Nat.le_refl _), List.drop_of_length_le (by rw [tdC_len]; exact Nat.le_refl _), List.nil_append] at h5
    rw [← h5]
    simp [tdC]
  constructor
  · rw [ldA (ho.trans h1)]
    simp only [T3, y3, Option.bind_some]
    rw [if_pos (by omega), e]
    rfl
  · rw [ldA (ho.trans h1)]
    simp only [T3, y3, Option.bind_some]
    rw [if_pos (by omega), ← List.drop_drop, e]
    rfl
theorem ixTd {m k : Nat} (h : k < m) : aIndex T 84 (.av (.own itd 0 m 2)) (vI (k : Int)) = some (.av (.ptr itd (k * 2))) := by
  unfold aIndex
  simp only [T84, y84, Option.bind_some, T83, y83]
  rw [if_pos ⟨trivial, by omega, by omega⟩]
  simp
theorem ix83_0 {o : Nat} : aIndex T 83 (.av (.ptr itd o)) (.av (.sc (.int .i64 0))) = some (.av (.ptr itd o)) := rfl
theorem ix83_1 {o : Nat} : aIndex T 83 (.av (.ptr itd o)) (.av (.sc (.int .i64 1))) = some (.av (.ptr itd (o + 1))) := rfl
theorem slcTd {m k : Nat} (h : k ≤ m) : aSlice T 84 (.av (.own itd 0 m 2)) none (some (vI (k : Int))) = some (.av (.own itd 0 k 2)) := by
  unfold aSlice
  simp only [T84, y84, Option.bind_some, T83, bnd, vI]
  rw [if_pos (by omega)]
  simp only [Option.bind_some, Int.toNat_natCast]
  rw [if_pos ⟨by simp [y83], Nat.zero_le _, h⟩]
  simp
theorem appTd {ob : Nat → Obj} {nid id n k : Nat} {l new : List Av} (h : ob id = .cs l 0) (hl : n * 2 ≤ l.length) (hk : ob k = .cs new 0) (hnew : new.length = 2) (hn : n + 1 ≤ 1099511627776) :
    aAppend T ob nid 84 (.av (.own id 0 n 2)) (.av (.own k 0 1 2)) = some (.av (.own nid 0 (n + 1) 2), upd (upd ob id .dead) nid (.cs (l.take (n * 2) ++ new) 0)) := by
  unfold aAppend
  simp only [T84, Option.bind_some, y84, T83, aSrc, hk]
  rw [if_pos (by simp [y83]; omega)]
  simp only [Option.bind_some]
  rw [if_neg (by simp [y83])]
  simp only [h]
  rw [if_pos ⟨by simp [y83], by omega, by omega, hn⟩, if_neg (by simp)]
  simp only [List.drop_zero, Nat.zero_sub, y83, Nat.one_mul]
  rw [List.take_of_length_le (l := new) (by omega)]
theorem posG_len (t : List Cell) : ∀ (m to : Nat), (posG t to m).length = m
  | 0, _ => rfl
  | m + 1, to => by rw [posG, List.length_cons, posG_len t m]
theorem partsN_length {t : List Cell} {i : Nat} (hi : i < t.length) : (partsN t i).length = if t[i].kind = 3 then t[i].n.toNat else 0 := by
  rw [partsN_len, partsG, List.getElem?_eq_getElem hi]
  simp only
  split
  · exact posG_len _ _ _
  · rfl
theorem cellEq_ar {c d : Cell} (h : cellEq c d = true) : c.kind = d.kind ∧ c.n = d.n := by
  simp only [cellEq, Bool.and_eq_true, beq_iff_eq] at h
  exact ⟨h.1, h.2.2.1⟩
end

-- many steps
theorem bod36 : Try.f36.body = some (Try.f36.body.getD .skip) := rfl
set_option maxHeartbeats 4000000 in
theorem fn36 (L : Loops) (F nn ar br : Nat) (t : List Cell) (p0 : Nat → Nat) (D0' N0 : Nat → Int) (cid iu id iN : Nat) (res : Bool × (Nat → Nat) × (Nat → Int) × (Nat → Int)) (s : Me) (x : Sc) (hx : GSl encC x t) (hl : t.length ≤ 1000000) (hnn : nn = t.length) (ht : TOK t) (hF : F ≤ 1000000000) (hcl : CL s.ob s.nx x cid iu id iN nn p0 D0' N0) (ha : ar < nn ∧ br < nn) (hp : ∀ i, i < nn → p0 i < nn) (hD : ∀ i, i < nn → D0' i < nn) (ho : joinF t F p0 D0' N0 [(ar, br)] = some res) : FnL Try.prog L 36 [.av (.ptr cid 0), vI ar, vI br] s fun r s' => ∃ ob', (r = vB res.1 ∧ CL ob' s.nx x cid iu id iN nn res.2.1 res.2.2.1 res.2.2.2 ∧ (∀ j, j < s.nx → j ≠ iu → j ≠ id → j ≠ iN → ob' j = s.ob j)) ∧ s' = ⟨ob', s.nx, s.ls⟩ := by
  refine FnL.pureE ?_
  obtain ⟨hi1, hi2, hi3, hi4⟩ := hcl.hi
  have hds := hcl.dist
  refine fn_of_body (ts := [6]) Try.func36 bod36 rfl (by simp) (by simp [Try.ntmps36]) fun D0 => ?_
  unfold Try.f36
  simp only [Option.getD_some, initSl]
  refine aw_region_seq C (pb := false) rfl fun K hK => ?_
  repeat' (first | refine wy0 (h := ?_) | fail)
  refine awOps_nil (hK _ _ ?_)
  clear hK K
  refine aw_scope (fun _ _ _ h => h) ?_
  refine aw_cutM_seq C (pb := false) [(0, .av (.ptr cid 0)), (6, vB false), (7, .av (.ptr (s.nx + 5) 0))] (fun s2 => JI s x cid iu id iN nn p0 D0' N0 (s.nx + 5) (s.nx + 4) [(ar, br)] s2) rfl ?_ fun sM1 hM1 => ?_
  · skip
    all_goals (repeat' (first | refine wy1 (a := by simp only [go_sem, ↓reduceIte, Nat.reduceEqDiff, reduceCtorEq, Nat.reduceAdd, Nat.reduceMul, Nat.reduceLeDiff, aLoad, aStore, storeL]; exact rfl) (h := ?_) | refine wz1 (a := by simp only [go_sem, ↓reduceIte, Nat.reduceEqDiff, reduceCtorEq, Nat.reduceAdd, Nat.reduceMul, Nat.reduceLeDiff, aLoad, aStore, storeL]; exact rfl) (h := ?_) | fail))
    exact awOps_nil ⟨⟨rfl, rfl, rfl, trivial⟩, rfl, by dsimp only; omega, fun j hj _ _ _ => (upd_ne _ _ (by omega)).trans ((upd_ne _ _ (by omega)).trans (upd_ne _ _ (by omega))), hcl.frame (Nat.le_refl _) (fun j hj => (upd_ne _ _ (by omega)).trans ((upd_ne _ _ (by omega)).trans (upd_ne _ _ (by omega)))), upd_same _ _ _, ⟨_, (upd_ne _ _ (by omega)).trans ((upd_ne _ _ (by omega)).trans (upd_same _ _ _)), rfl, Nat.le_refl _, rfl⟩, by dsimp only; omega⟩
  refine aw_seq ?_
  refine aw_label ?_
  simp only [thenA_normal, thenA_ret, thenA_exit, blockA_normal, blockA_ret, blockA_exit, ↓reduceIte, Nat.reduceEqDiff]
  refine aw_seq ?_
  refine aw_block ?_
  refine AW.less (sl' := [(0, .av (.ptr cid 0)), (6, vB false), (7, .av (.ptr (s.nx + 5) 0))]) (AllIn.less ⟨rfl, rfl, rfl, trivial⟩) (aw_loop (fun k sl1 s1 => ∃ (fu : Nat) (p : Nat → Nat) (D : Nat → Int) (N : Nat → Int) (td : List (Nat × Nat)) (itd : Nat), k = fu ∧ sl1 = [(0, .av (.ptr cid 0)), (6, vB false), (7, .av (.ptr (s.nx + 5) 0))] ∧ (JI s x cid iu id iN nn p D N (s.nx + 5) itd td s1) ∧ ((∀ i, i < nn → p i < nn) ∧ (∀ i, i < nn → D i < nn) ∧ ∀ ab ∈ td, ab.1 < nn ∧ ab.2 < nn) ∧ (joinF t fu p D N td = some res) ∧ (td.length + 1000 * fu ≤ 1 + 1000 * F)) (k := (F)) ⟨F, p0, D0', N0, [(ar, br)], (s.nx + 4), rfl, rfl, hM1, ⟨hp, hD, fun ab h => by simp only [List.mem_singleton] at h; subst h; exact ha⟩, ho, by simp only [List.length_cons, List.length_nil]; omega⟩ ?_)
  rintro k1 _ s1 ⟨fu, p, D, N, td, itd, hk1, rfl, hs1, hb, h3, hlt⟩
  refine aw_seq ?_
  refine aw_region_seq C (pb := false) rfl fun K hK => ?_
  repeat' (first | refine wy1 (a := by simp only [go_sem, ↓reduceIte, Nat.reduceEqDiff, reduceCtorEq, Nat.reduceAdd, Nat.reduceMul, Nat.reduceLeDiff, aLoad, aStore, hs1.t, aLen]; exact rfl) (h := ?_) | fail)
  refine awOps_nil (hK _ _ ?_)
  clear hK K
  refine aw_cond (by rfl) ?_ ?_
  · intro hc0
    try simp only [decide_eq_true_eq, decide_eq_false_iff_not] at hc0
    obtain ⟨td0, ⟨a, b⟩, rfl⟩ : ∃ td0 ab, td = td0 ++ [ab] := by
      rcases List.eq_nil_or_concat td with rfl | ⟨l, y, rfl⟩
      · simp at hc0
      · exact ⟨l, y, by simp⟩
    obtain ⟨fu, rfl⟩ : ∃ k', fu = k' + 1 := by
      cases fu with
      | zero => simp [joinF] at h3
      | succ k => exact ⟨k, rfl⟩
    simp only [joinF, List.getLast?_append, List.getLast?_singleton, Option.some_or, List.dropLast_concat] at h3
    obtain ⟨hb1, hb2, hb3⟩ := hb
    have hab := hb3 (a, b) (by simp)
    have hb30 : ∀ ab ∈ td0, ab.1 < nn ∧ ab.2 < nn := fun ab h => hb3 ab (by simp [h])
    obtain ⟨⟨xr, p1⟩, ha1⟩ : ∃ r, own1 fu p a = some r := by
      cases h : own1 fu p a with
      | none => rw [h] at h3; cases h3
      | some r => exact ⟨r, rfl⟩
    rw [ha1] at h3
    dsimp only at h3
    obtain ⟨⟨yr, p2⟩, ha2⟩ : ∃ r, own1 fu p1 b = some r := by
      cases h : own1 fu p1 b with
      | none => rw [h] at h3; cases h3
      | some r => exact ⟨r, rfl⟩
    rw [ha2] at h3
    dsimp only at h3
    obtain ⟨hx1, hp1⟩ := own1_lt ha1 hab.1 hb1
    obtain ⟨hy1, hp2⟩ := own1_lt ha2 hab.2 hp1
    have hp3 : ∀ i, i < nn → (upd p2 yr xr) i < nn := fun i hi => by
      by_cases h' : i = yr
      · rw [h', upd_same]; exact hx1
      · rw [upd_ne _ _ h']; exact hp2 i hi
    have hlen : (td0 ++ [(a, b)]).length = td0.length + 1 := by simp
    rw [hlen] at hlt
    have htt : s1.ob (s.nx + 5) = .cs [.own itd 0 (td0.length + 1) 2] 0 := by have := hs1.t; rwa [hlen] at this
    have hsub : (((td0.length + 1 : Nat) : Int) - 1) = (td0.length : Int) := by omega
    have hnew := hs1.new
    have htt1 : (upd s1.ob iu (.cs (arrN nn p1) 0)) (s.nx + 5) = .cs [.own itd 0 (td0.length + 1) 2] 0 := (upd_ne _ _ (by omega)).trans htt
    have lst0 := hs1.last (ob := s1.ob) rfl
    have lst1 := hs1.last (ob := upd s1.ob iu (.cs (arrN nn p1) 0)) (upd_ne _ _ (by omega))
    refine aw_skip ?_
    simp only [thenA_normal, thenA_ret, thenA_exit, blockA_normal, blockA_ret, blockA_exit, ↓reduceIte, Nat.reduceEqDiff]
    refine aw_block ?_
    refine aw_dra_seq C (pb := false) 20 [8, 17] [s1.ob, upd s1.ob iu (.cs (arrN nn p1) 0), upd (upd s1.ob iu (.cs (arrN nn p1) 0)) iu (.cs (arrN nn p2) 0)] rfl (by kernel_rfl) (by kernel_rfl) rfl (fun _ _ => rfl) fun K hK => ?_
    iterate 8 (first | refine dra_yes [0] (by rfl) (by rfl) (by rfl) (by rfl) (by kernel_rfl) ⟨⟨_, by simp  only [go_sem, ↓reduceIte, Nat.reduceEqDiff, reduceCtorEq, Nat.reduceAdd, Nat.reduceMul, Nat.reduceLeDiff, osL_0, osL_1, osL_2, osL_3, osL_4, osL_5, osL_6, ldA htt, ldA htt1, aLen, hsub, wrap_small (td0.length : Int) (by omega) (by omega), ixTd (Nat.lt_succ_self td0.length), ix83_0, ix83_1, lst0.1, lst0.2, lst1.1, lst1.2]; (try exact rfl), fun _ => rfl⟩, trivial⟩ ?_ | refine dra_no (by rfl) (by rfl) (by rfl) ?_)
    refine dra_call (q := 0) (by rfl) (by rfl) (by rfl) (by rfl) (And.intro Try.call38 (fn38 L fu nn a xr p p1 cid iu (.sc x) (.own id 0 nn 1) (.own iN 0 nn 1) _ (by dsimp only; omega) (by dsimp only; omega) hds.1 hs1.cl.c hs1.cl.u hab.1 hb1 ha1)) ?_
    iterate 8 (first | refine dra_yes [0, 1] (by rfl) (by rfl) (by rfl) (by rfl) (by kernel_rfl) ⟨⟨_, by simp  only [go_sem, ↓reduceIte, Nat.reduceEqDiff, reduceCtorEq, Nat.reduceAdd, Nat.reduceMul, Nat.reduceLeDiff, osL_0, osL_1, osL_2, osL_3, osL_4, osL_5, osL_6, ldA htt, ldA htt1, aLen, hsub, wrap_small (td0.length : Int) (by omega) (by omega), ixTd (Nat.lt_succ_self td0.length), ix83_0, ix83_1, lst0.1, lst0.2, lst1.1, lst1.2]; (try exact rfl), fun _ => rfl⟩, ⟨_, by simp  only [go_sem, ↓reduceIte, Nat.reduceEqDiff, reduceCtorEq, Nat.reduceAdd, Nat.reduceMul, Nat.reduceLeDiff, osL_0, osL_1, osL_2, osL_3, osL_4, osL_5, osL_6, ldA htt, ldA htt1, aLen, hsub, wrap_small (td0.length : Int) (by omega) (by omega), ixTd (Nat.lt_succ_self td0.length), ix83_0, ix83_1, lst0.1, lst0.2, lst1.1, lst1.2]; (try exact rfl), fun _ => rfl⟩, trivial⟩ ?_ | refine dra_no (by rfl) (by rfl) (by rfl) ?_)
    refine dra_call (q := 1) (by rfl) (by rfl) (by rfl) (by rfl) (And.intro Try.call38 (fn38 L fu nn b yr p1 p2 cid iu (.sc x) (.own id 0 nn 1) (.own iN 0 nn 1) _ (by dsimp only; omega) (by dsimp only; omega) hds.1 ((upd_ne _ _ hds.1).trans hs1.cl.c) (upd_same _ _ _) hab.2 hp1 ha2)) ?_
    iterate 2 (first | refine dra_yes [2] (by rfl) (by rfl) (by rfl) (by rfl) (by kernel_rfl) ⟨⟨_, by simp  only [go_sem, ↓reduceIte, Nat.reduceEqDiff, reduceCtorEq, Nat.reduceAdd, Nat.reduceMul, Nat.reduceLeDiff, osL_0, osL_1, osL_2, osL_3, osL_4, osL_5, osL_6, ldA htt, ldA htt1, aLen, hsub, wrap_small (td0.length : Int) (by omega) (by omega), ixTd (Nat.lt_succ_self td0.length), ix83_0, ix83_1, lst0.1, lst0.2, lst1.1, lst1.2]; (try exact rfl), fun _ => rfl⟩, trivial⟩ ?_ | refine dra_no (by rfl) (by rfl) (by rfl) ?_)
    refine dra_nil (hK _ ?_)
    simp only [osL_0, osL_1, osL_2, osL_3, osL_4, osL_5, osL_6, List.length_cons, List.length_nil, Nat.reduceAdd]
    refine AW.less (sl' := [(0, .av (.ptr cid 0)), (6, vB false), (7, .av (.ptr (s.nx + 5) 0)), (8, vI (xr : Nat)), (9, vI (yr : Nat))]) (AllIn.less ⟨rfl, rfl, rfl, rfl, rfl, trivial⟩) ?_
    refine aw_state (J := fun s3 => JI s x cid iu id iN nn p2 D N (s.nx + 5) itd (td0 ++ [(a, b)]) s3) ((hs1.setU p1 (m := s1.nx + 3 + 20) (by omega)).setU p2 (by first | omega | (dsimp only; omega) | (dsimp only at *; omega))) fun s3 hJ3 => ?_
    have htt3 : s3.ob (s.nx + 5) = .cs [.own itd 0 (td0.length + 1) 2] 0 := by have := hJ3.t; rwa [hlen] at this
    clear hK K
    refine aw_region_seq C (pb := false) rfl fun K hK => ?_
    repeat' (first | refine wy1 (a := by simp only [go_sem, ↓reduceIte, Nat.reduceEqDiff, reduceCtorEq, Nat.reduceAdd, Nat.reduceMul, Nat.reduceLeDiff, ldA htt3, aLen, hsub, wrap_small (td0.length : Int) (by omega) (by omega), slcTd (Nat.le_succ td0.length), stA htt3 (v := .av (.own itd 0 td0.length 2)) rfl]; exact rfl) (h := ?_) | refine wz1 (a := by simp only [go_sem, ↓reduceIte, Nat.reduceEqDiff, reduceCtorEq, Nat.reduceAdd, Nat.reduceMul, Nat.reduceLeDiff, ldA htt3, aLen, hsub, wrap_small (td0.length : Int) (by omega) (by omega), slcTd (Nat.le_succ td0.length), stA htt3 (v := .av (.own itd 0 td0.length 2)) rfl]; exact rfl) (h := ?_) | fail)
    refine awOps_nil (hK _ _ ?_)
    refine aw_state (J := fun s4 => JI s x cid iu id iN nn p2 D N (s.nx + 5) itd td0 s4) (hJ3.pop (by first | omega | (dsimp only; omega) | (dsimp only at *; omega))) fun s4 hJ4 => ?_
    clear hK K
    refine aw_seq ?_
    refine aw_region_seq C (pb := false) rfl fun K hK => ?_
    repeat' (first | refine wy0 (h := ?_) | fail)
    refine awOps_nil (hK _ _ ?_)
    clear hK K
    refine aw_cond (by rfl) ?_ ?_
    · intro hc1
      try simp only [beq_iff_eq, beq_eq_false_iff_ne, ne_eq, Int.natCast_inj] at hc1
      refine aw_exit ?_
      simp only [thenA_normal, thenA_ret, thenA_exit, blockA_normal, blockA_ret, blockA_exit, ↓reduceIte, Nat.reduceEqDiff]
      -- end of round 0 at 0t1t.x1
      refine ⟨(fu), [(0, .av (.ptr cid 0)), (6, vB false), (7, .av (.ptr (s.nx + 5) 0))], by omega, AllIn.less ⟨rfl, rfl, rfl, trivial⟩, fu, p2, D, N, td0, itd, rfl, rfl, ?_, ?_, ?_, ?_⟩
      · exact hJ4.frame (by first | omega | (dsimp only; omega) | (dsimp only at *; omega)) (fun _ _ => rfl)
      · exact ⟨hp2, hb2, hb30⟩
      · rwa [if_pos hc1] at h3
      · omega
    · intro hc1
      try simp only [beq_iff_eq, beq_eq_false_iff_ne, ne_eq, Int.natCast_inj] at hc1
      refine aw_skip ?_
      simp only [thenA_normal, thenA_ret, thenA_exit, blockA_normal, blockA_ret, blockA_exit, ↓reduceIte, Nat.reduceEqDiff]
      refine aw_region_seq C (pb := false) rfl fun K hK => ?_
      repeat' (first | refine wy1 (a := by simp only [go_sem, ↓reduceIte, Nat.reduceEqDiff, reduceCtorEq, Nat.reduceAdd, Nat.reduceMul, Nat.reduceLeDiff, ldA hJ4.cl.c, ixO hy1, stN hJ4.cl.u hy1 (Nat.zero_le _)]; exact rfl) (h := ?_) | refine wz1 (a := by simp only [go_sem, ↓reduceIte, Nat.reduceEqDiff, reduceCtorEq, Nat.reduceAdd, Nat.reduceMul, Nat.reduceLeDiff, ldA hJ4.cl.c, ixO hy1, stN hJ4.cl.u hy1 (Nat.zero_le _)]; exact rfl) (h := ?_) | fail)
      refine awOps_nil (hK _ _ ?_)
      refine aw_state (J := fun s6 => JI s x cid iu id iN nn (upd p2 yr xr) D N (s.nx + 5) itd td0 s6) (hJ4.setU (upd p2 yr xr) (by first | omega | (dsimp only; omega) | (dsimp only at *; omega))) fun s6 hJ6 => ?_
      clear hK K
      refine aw_dra_seq C (pb := false) 22 [21] [s6.ob, upd s6.ob iN (.cs (arr nn (upd N xr (minI (N xr) (N yr)))) 0)] rfl (by kernel_rfl) (by kernel_rfl) rfl (fun _ _ => rfl) fun K hK => ?_
      iterate 21 (first | refine dra_yes [0] (by rfl) (by rfl) (by rfl) (by rfl) (by kernel_rfl) ⟨⟨_, by simp  only [go_sem, ↓reduceIte, Nat.reduceEqDiff, reduceCtorEq, Nat.reduceAdd, Nat.reduceMul, Nat.reduceLeDiff, osL_0, osL_1, osL_2, osL_3, osL_4, osL_5, osL_6, ldA hJ6.cl.c, ixO hx1, ixO hy1, ldO hJ6.cl.n hx1, ldO hJ6.cl.n hy1, stO hJ6.cl.n hx1 (Nat.zero_le _)]; (try exact rfl), fun _ => rfl⟩, trivial⟩ ?_ | refine dra_no (by rfl) (by rfl) (by rfl) ?_)
      refine dra_eff0 (by rfl) (by rfl) (by rfl) (by rfl) (by simp  only [go_sem, ↓reduceIte, Nat.reduceEqDiff, reduceCtorEq, Nat.reduceAdd, Nat.reduceMul, Nat.reduceLeDiff, osL_0, osL_1, osL_2, osL_3, osL_4, osL_5, osL_6, ldA hJ6.cl.c, ixO hx1, ixO hy1, ldO hJ6.cl.n hx1, ldO hJ6.cl.n hy1, stO hJ6.cl.n hx1 (Nat.zero_le _)]; exact rfl) (fun _ => rfl) ⟨Nat.le_refl _, rfl⟩ ?_
      refine dra_nil (hK _ ?_)
      simp only [osL_0, osL_1, osL_2, osL_3, osL_4, osL_5, osL_6, List.length_cons, List.length_nil, Nat.reduceAdd]
      refine aw_state (J := fun s7 => JI s x cid iu id iN nn (upd p2 yr xr) D (upd N xr (minI (N xr) (N yr))) (s.nx + 5) itd td0 s7) (hJ6.setN (upd N xr (minI (N xr) (N yr))) (by first | omega | (dsimp only; omega) | (dsimp only at *; omega))) fun s7 hJ7 => ?_
      clear hK K
      refine aw_sil_seq C (pb := false) 16 _ rfl (by kernel_rfl) rfl (fun _ _ => rfl) fun K hK => ?_
      repeat' (first | refine ws1 (a := by simp only [go_sem, ↓reduceIte, Nat.reduceEqDiff, reduceCtorEq, Nat.reduceAdd, Nat.reduceMul, Nat.reduceLeDiff, ldA hJ7.cl.c, ixO hx1, ixO hy1, ldO hJ7.cl.d hx1, ldO hJ7.cl.d hy1]; exact rfl) (h := ?_) | fail)
      refine sil_nil (hK _ ?_)
      refine AW.less (sl' := [(8, vI (xr : Nat)), (0, .av (.ptr cid 0)), (6, vB false), (7, .av (.ptr (s.nx + 5) 0)), (10, vI (D xr)), (11, vI (D yr))]) (AllIn.less ⟨rfl, rfl, rfl, rfl, rfl, rfl, trivial⟩) ?_
      refine aw_state (J := fun s8 => JI s x cid iu id iN nn (upd p2 yr xr) D (upd N xr (minI (N xr) (N yr))) (s.nx + 5) itd td0 s8) (hJ7.frame (by first | omega | (dsimp only; omega) | (dsimp only at *; omega)) fun _ _ => rfl) fun s8 hJ8 => ?_
      have hn8 := hJ8.new
      have hm8 := hJ8.nx
      clear hK K
      refine aw_seq ?_
      refine aw_block ?_
      refine aw_region_seq C (pb := false) rfl fun K hK => ?_
      repeat' (first | refine wy0 (h := ?_) | fail)
      refine awOps_nil (hK _ _ ?_)
      clear hK K
      refine aw_cond (by rfl) ?_ ?_
      · intro hc2
        try simp only [decide_eq_true_eq, decide_eq_false_iff_not] at hc2
        refine aw_exit ?_
        simp only [thenA_normal, thenA_ret, thenA_exit, blockA_normal, blockA_ret, blockA_exit, ↓reduceIte, Nat.reduceEqDiff]
        -- end of round 0 at 0t1f2t.x1
        refine ⟨(fu), [(0, .av (.ptr cid 0)), (6, vB false), (7, .av (.ptr (s.nx + 5) 0))], by omega, AllIn.less ⟨rfl, rfl, rfl, trivial⟩, fu, (upd p2 yr xr), D, (upd N xr (minI (N xr) (N yr))), td0, itd, rfl, rfl, ?_, ?_, ?_, ?_⟩
        · exact hJ8.frame (by first | omega | (dsimp only; omega) | (dsimp only at *; omega)) (fun _ _ => rfl)
        · exact ⟨hp3, hb2, hb30⟩
        · rwa [if_neg hc1, if_pos hc2] at h3
        · omega
      · intro hc2
        try simp only [decide_eq_true_eq, decide_eq_false_iff_not] at hc2
        refine aw_region_seq C (pb := false) rfl fun K hK => ?_
        repeat' (first | refine wy0 (h := ?_) | fail)
        refine awOps_nil (hK _ _ ?_)
        clear hK K
        refine aw_cond (by rfl) ?_ ?_
        · intro hc3
          try simp only [decide_eq_true_eq, decide_eq_false_iff_not] at hc3
          refine aw_region_seq C (pb := false) rfl fun K hK => ?_
          repeat' (first | refine wy1 (a := by simp only [go_sem, ↓reduceIte, Nat.reduceEqDiff, reduceCtorEq, Nat.reduceAdd, Nat.reduceMul, Nat.reduceLeDiff, ldA hJ8.cl.c, ixO hx1, stO hJ8.cl.d hx1 (Nat.zero_le _)]; exact rfl) (h := ?_) | refine wz1 (a := by simp only [go_sem, ↓reduceIte, Nat.reduceEqDiff, reduceCtorEq, Nat.reduceAdd, Nat.reduceMul, Nat.reduceLeDiff, ldA hJ8.cl.c, ixO hx1, stO hJ8.cl.d hx1 (Nat.zero_le _)]; exact rfl) (h := ?_) | fail)
          refine awOps_nil (hK _ _ ?_)
          refine aw_state (J := fun s11 => JI s x cid iu id iN nn (upd p2 yr xr) (upd D xr (D yr)) (upd N xr (minI (N xr) (N yr))) (s.nx + 5) itd td0 s11) (hJ8.setD (upd D xr (D yr)) (by first | omega | (dsimp only; omega) | (dsimp only at *; omega))) fun s11 hJ11 => ?_
          clear hK K
          refine aw_exit ?_
          simp only [thenA_normal, thenA_ret, thenA_exit, blockA_normal, blockA_ret, blockA_exit, ↓reduceIte, Nat.reduceEqDiff]
          -- end of round 0 at 0t1f2f3t.x1
          refine ⟨(fu), [(0, .av (.ptr cid 0)), (6, vB false), (7, .av (.ptr (s.nx + 5) 0))], by omega, AllIn.less ⟨rfl, rfl, rfl, trivial⟩, fu, (upd p2 yr xr), upd D xr (D yr), (upd N xr (minI (N xr) (N yr))), td0, itd, rfl, rfl, ?_, ?_, ?_, ?_⟩
          · exact hJ11.frame (by first | omega | (dsimp only; omega) | (dsimp only at *; omega)) (fun _ _ => rfl)
          · refine ⟨hp3, fun i hi => ?_, hb30⟩
            by_cases h' : i = xr
            · rw [h', upd_same]; exact hb2 yr hy1
            · rw [upd_ne _ _ h']; exact hb2 i hi
          · rwa [if_neg hc1, if_neg hc2, if_pos hc3] at h3
          · omega
        · intro hc3
          try simp only [decide_eq_true_eq, decide_eq_false_iff_not] at hc3
          obtain ⟨dx, hdx⟩ : ∃ d : Nat, D xr = (d : Int) := ⟨(D xr).toNat, by omega⟩
          obtain ⟨dy, hdy⟩ : ∃ d : Nat, D yr = (d : Int) := ⟨(D yr).toNat, by omega⟩
          have hdx1 : dx < t.length := by have := hb2 xr hx1; omega
          have hdy1 : dy < t.length := by have := hb2 yr hy1; omega
          rw [hdx, hdy, Int.toNat_natCast, Int.toNat_natCast, List.getElem?_eq_getElem hdx1, List.getElem?_eq_getElem hdy1] at h3
          dsimp only at h3
          rw [hdx] at hc3
          rw [hdy] at hc2
          refine aw_sil_seq C (pb := false) 16 _ rfl (by kernel_rfl) rfl (fun _ _ => rfl) fun K hK => ?_
          repeat' (first | refine ws1 (a := by simp only [go_sem, ↓reduceIte, Nat.reduceEqDiff, reduceCtorEq, Nat.reduceAdd, Nat.reduceMul, Nat.reduceLeDiff, aLoad, aStore, hJ8.cl.c, hdx, hdy, idxC hx hdx1, idxC hx hdy1]; exact rfl) (h := ?_) | fail)
          refine sil_nil (hK _ ?_)
          clear hK K
          refine aw_cond (by rfl) ?_ ?_
          · intro hc4
            have hcq : cellEq t[dx] t[dy] = false := by
              unfold cellEq
              cases h : (t[dx].kind == t[dy].kind && (t[dx].name == t[dy].name && (t[dx].n == t[dy].n && true)))
              · rfl
              · rw [h] at hc4; cases hc4
            refine aw_region_seq C (pb := false) rfl fun K hK => ?_
            repeat' (first | refine wy0 (h := ?_) | fail)
            refine awOps_nil (hK _ _ ?_)
            clear hK K
            refine aw_ret ?_
            try simp only [thenA_normal, thenA_ret, thenA_exit, blockA_normal, blockA_ret, blockA_exit]
            simp only [go_sem, ↓reduceIte, Nat.reduceEqDiff, reduceCtorEq, Nat.reduceAdd, Nat.reduceMul, Nat.reduceLeDiff, aLoad, aStore, FnQ, resA]
            -- 0t1f2f3f4t.ret
            rw [if_neg hc1, if_neg hc2, if_neg hc3, hcq] at h3
            simp only [Bool.false_eq_true, if_false, Option.some.injEq] at h3
            subst h3
            exact fun _ => ⟨rfl, hJ8.ls, s8.ob, fun _ _ => rfl, fun i hi => jplain hJ8.cl hJ8.old i hi, rfl, hJ8.cl, hJ8.old⟩
          · intro hc4
            have hcq : cellEq t[dx] t[dy] = true := by
              unfold cellEq
              cases h : (t[dx].kind == t[dy].kind && (t[dx].name == t[dy].name && (t[dx].n == t[dy].n && true)))
              · rw [h] at hc4; cases hc4
              · rfl
            refine aw_skip ?_
            simp only [thenA_normal, thenA_ret, thenA_exit, blockA_normal, blockA_ret, blockA_exit, ↓reduceIte, Nat.reduceEqDiff]
            refine aw_region_seq C (pb := false) rfl fun K hK => ?_
            repeat' (first | refine wy0 (h := ?_) | fail)
            refine awOps_nil (hK _ _ ?_)
            clear hK K
            refine aw_seq ?_
            refine aw_region_seq C (pb := false) rfl fun K hK => ?_
            repeat' (first | refine wy1 (a := by simp only [go_sem, ↓reduceIte, Nat.reduceEqDiff, reduceCtorEq, Nat.reduceAdd, Nat.reduceMul, Nat.reduceLeDiff, aLoad, aStore, hdx]; exact rfl) (h := ?_) | fail)
            refine wc (And.intro Try.call64 (fn64 L (dx : Int) cid _)) ?_
            rintro _ _ ⟨bc, ba, m1, rfl, hbc1, hba1, hm1, rfl⟩
            dsimp only at hbc1
            refine awOps_nil (hK _ _ ?_)
            refine AW.less (sl' := [(0, .av (.ptr cid 0)), (6, vB false), (7, .av (.ptr (s.nx + 5) 0)), (11, vI (D yr)), (12, .av (.ptr (s8.nx + 22) 0)), (122, .av (.fn 80 [] [.ptr bc 0, .ptr ba 0]))]) (AllIn.less ⟨rfl, rfl, rfl, rfl, rfl, rfl, trivial⟩) ?_
            refine aw_state (J := fun s5 => JI s x cid iu id iN nn (upd p2 yr xr) D (upd N xr (minI (N xr) (N yr))) (s.nx + 5) itd td0 s5 ∧ s5.ob (s8.nx + 22) = .cs [.sc .nilsl] 0 ∧ s5.ob bc = .cs [.ptr cid 0] 0 ∧ s5.ob ba = .cs [.sc (.int .i64 (dx : Int))] 0 ∧ (s8.nx + 22) < bc ∧ bc < ba ∧ ba < s5.nx ∧ s8.nx ≤ s5.nx) ⟨hJ8.frame (by omega) (fun j hj => (upd_ne _ _ (by omega)).trans ((upd_ne _ _ (by omega)).trans (upd_ne _ _ (by omega)))), (upd_ne _ _ (by omega)).trans ((upd_ne _ _ (by omega)).trans (upd_same _ _ _)), (upd_ne _ _ (by omega)).trans (upd_same _ _ _), upd_same _ _ _, by omega, hba1, hm1, by dsimp only; omega⟩ fun s5 hJ5 => ?_
            obtain ⟨hJ5, hof5, hbc5, hba5, hn5⟩ := hJ5
            clear hK K
            refine aw_block ?_
            refine aw_rangeFunc rfl (by rfl) Try.call80 fun L0 l0 hL0 => ?_
            have hpk : (partsN t dx).length ≤ 1000 := by
              rw [partsN_length hdx1]
              split
              · rename_i hk3; have := ht.2 t[dx] (List.getElem_mem hdx1) hk3; omega
              · omega
            obtain ⟨kx, hkx⟩ := ht.1 dx hdx1
            obtain ⟨ky, hky⟩ := ht.1 dy hdy1
            refine FnL.mono (fn80 L0 (fun j s' => s'.ls = upd s5.ls l0 .ready ∧ s5.nx ≤ s'.nx ∧ (∀ i, i < s5.nx → i ≠ (s8.nx + 22) → s'.ob i = s5.ob i) ∧ (∀ i, s5.nx ≤ i → (s'.ob i).noyl = true) ∧ ∃ io, s5.nx ≤ io ∧ s'.ob (s8.nx + 22) = .cs [slOf io j] 0 ∧ (j ≠ 0 → s'.ob io = .cs (arrN j fun k => (partsN t dx).getD k 0) 0 ∧ io < s'.nx)) l0 t dx kx cid bc ba _ x hx hl ht.2 hkx hdx1 (by rw [hL0.params]; rfl) ?_ ?_ ?_ ?_) ?_
            · rintro j s' ⟨h1, h2, h3', h4, io, h5, h6, h7⟩
              exact ⟨(h3' bc (by omega) (by omega)).trans hbc5, (h3' ba (by omega) (by omega)).trans hba5, by omega, _, _, _, _, (h3' cid (by omega) (by omega)).trans hJ5.cl.c⟩
            · rintro j s' m ⟨h1, h2, h3', h4, io, h5, h6, h7⟩ hm
              exact ⟨h1, Nat.le_trans h2 hm, h3', h4, io, h5, h6, fun h => ⟨(h7 h).1, Nat.lt_of_lt_of_le (h7 h).2 hm⟩⟩
            · intro j0 sJ0 hj0 hJ0
              obtain ⟨g1, g2, g3, g4, io, g5, g6, g7⟩ := hJ0
              have hjl : j0 < (partsN t dx).length := by rw [partsN_len]; exact hj0
              rw [partsN_get hj0]
              refine roundL_of hL0.params hL0.assign hL0.body hL0.size (fun p hp => by have e : p = 123 := (by simpa using hp); subst e; exact (show (123 : Nat) < 143 from by decide)) ?_
              rw [hL0.sl]
              simp only [setPs]
              refine aw_region C (pb := false) rfl ?_
              repeat' (first | refine wy0 (h := ?_) | fail)
              refine awOps_nil ?_
              try simp only [thenA_normal, thenA_ret, thenA_exit, blockA_normal, blockA_ret, blockA_exit]
              refine ⟨?_, ?_⟩
              · show sJ0.ls l0 = _; rw [g1, upd_same]
              refine aw_block ?_
              refine aw_region C (pb := false) rfl ?_
              repeat' (first | refine wy1 (a := by simp only [go_sem, ↓reduceIte, Nat.reduceEqDiff, reduceCtorEq, Nat.reduceAdd, Nat.reduceMul, Nat.reduceLeDiff, aLoad, aStore, g6]; exact rfl) (h := ?_) | fail)
              refine wy2 ((show aop C false _ _ _ _ = aAppend T _ _ 36 _ _ from rfl).trans (appO (id := io) (n := j0) (f := fun k => (((partsN t dx).getD k 0 : Nat) : Int)) (v := ((partsN t dx)[j0] : Nat)) (fun h => (upd_ne _ _ (by have := (g7 h).2; omega)).trans (g7 h).1) (upd_same _ _ _) (by omega))) ?_
              repeat' (first | refine wz1 (a := by simp (disch := omega) only [go_sem, ↓reduceIte, Nat.reduceEqDiff, reduceCtorEq, Nat.reduceAdd, Nat.reduceMul, Nat.reduceLeDiff, aLoad, aStore, g6, upd_ne, kill_ne]; exact rfl) (h := ?_) | fail)
              refine awOps_nil ?_
              try simp only [thenA_normal, thenA_ret, thenA_exit, blockA_normal, blockA_ret, blockA_exit]
              -- end of round of range 0 at 0t1f2f3f4fR0.b
              refine ⟨rfl, ?_, by dsimp only; omega, fun i hi hne => (upd_ne _ _ hne).trans ((upd_ne _ _ (by omega)).trans ((kill_ne (by omega)).trans ((upd_ne _ _ (by omega)).trans (g3 i hi hne)))), fun i hi => upd_noyl rfl (upd_noyl arr_noyl (kill_noyl (upd_noyl rfl (g4 i hi)))), sJ0.nx + 1 + 1 + 1 + 1, by omega, upd_same _ _ _, fun _ => ⟨(upd_ne _ _ (by omega)).trans ((upd_same _ _ _).trans ?_), by dsimp only; omega⟩⟩
              · show upd (upd sJ0.ls l0 .busy) l0 .ready = _
                rw [g1, upd_upd, upd_upd]
              · rw [arrN]
                congr 1
                refine arr_congr fun k hk => ?_
                by_cases h' : k = j0
                · subst h'; rw [upd_same, List.getD_eq_getElem?_getD, List.getElem?_eq_getElem hjl]; rfl
                · rw [upd_ne _ _ h']
            · exact ⟨rfl, Nat.le_refl _, fun i hi _ => if_pos hi, fun i hi => by dsimp only; rw [if_neg (by omega)]; rfl, s5.nx, Nat.le_refl _, (if_pos (by omega)).trans hof5, fun h => (h rfl).elim⟩
            · rintro r0 s0' hm0
              obtain ⟨g1, g2, g3, g4, io, g5, g6, g7⟩ := hm0
              rw [← partsN_len] at g6 g7
              refine ⟨fun i hi => ?_, ?_⟩
              · by_cases h1 : i < s5.nx
                · by_cases h2 : i = (s8.nx + 22)
                  · rw [h2, g6]; refine .inr ?_; show (slOf io _).noyl && true = true; unfold slOf; split <;> rfl
                  · exact .inl ⟨h1, g3 i h1 h2⟩
                · exact .inr (g4 i (by omega))
              rw [g1, upd_same, upd_back]
              simp only [leftBy]
              simp only [thenA_normal, thenA_ret, thenA_exit, blockA_normal, blockA_ret, blockA_exit]
              refine aw_state (J := fun s10 => JI s x cid iu id iN nn (upd p2 yr xr) D (upd N xr (minI (N xr) (N yr))) (s.nx + 5) itd td0 s10 ∧ s10.ob (s8.nx + 22) = .cs [slOf io (partsN t dx).length] 0 ∧ ((partsN t dx).length ≠ 0 → s10.ob io = .cs (arrN (partsN t dx).length fun k => (partsN t dx).getD k 0) 0 ∧ io < s10.nx) ∧ s5.nx ≤ s10.nx) ⟨⟨hJ5.ls, by dsimp only; have := hJ5.nx; omega, fun j hj a b c => (g3 j (by omega) (by omega)).trans (hJ5.old j hj a b c), hJ5.cl.frame (Nat.le_refl _) (fun j hj => g3 j (by omega) (by omega)), (g3 _ (by omega) (by omega)).trans hJ5.t, (let ⟨l, q1, q2⟩ := hJ5.td; ⟨l, (g3 _ (by omega) (by omega)).trans q1, q2⟩), by dsimp only; omega⟩, g6, g7, g2⟩ fun s10 hJ10 => ?_
              clear g1 g2 g3 g4 g6 g7
              obtain ⟨hJ10, hof10, hio10, hn10⟩ := hJ10
              refine aw_region_seq C (pb := false) rfl fun K hK => ?_
              repeat' (first | refine wy1 (a := by simp only [go_sem, ↓reduceIte, Nat.reduceEqDiff, reduceCtorEq, Nat.reduceAdd, Nat.reduceMul, Nat.reduceLeDiff, aLoad, aStore, upd_same, storeL]; exact rfl) (h := ?_) | refine wz1 (a := by simp only [go_sem, ↓reduceIte, Nat.reduceEqDiff, reduceCtorEq, Nat.reduceAdd, Nat.reduceMul, Nat.reduceLeDiff, aLoad, aStore, upd_same, storeL]; exact rfl) (h := ?_) | fail)
              refine awOps_nil (hK _ _ ?_)
              clear hK K
              refine aw_region_seq C (pb := false) rfl fun K hK => ?_
              repeat' (first | refine wy1 (a := by simp only [go_sem, ↓reduceIte, Nat.reduceEqDiff, reduceCtorEq, Nat.reduceAdd, Nat.reduceMul, Nat.reduceLeDiff, aLoad, aStore, hdy]; exact rfl) (h := ?_) | fail)
              refine wc (And.intro Try.call64 (fn64 L (dy : Int) cid _)) ?_
              rintro _ _ ⟨bc2, ba2, m2, rfl, hbc2, hba2, hm2, rfl⟩
              dsimp only at hbc2
              refine awOps_nil (hK _ _ ?_)
              refine AW.less (sl' := [(0, .av (.ptr cid 0)), (6, vB false), (7, .av (.ptr (s.nx + 5) 0)), (12, .av (.ptr (s8.nx + 22) 0)), (14, .av (.ptr s10.nx 0)), (130, .av (.fn 80 [] [.ptr bc2 0, .ptr ba2 0]))]) (AllIn.less ⟨rfl, rfl, rfl, rfl, rfl, rfl, trivial⟩) ?_
              refine aw_state (J := fun s9 => JI s x cid iu id iN nn (upd p2 yr xr) D (upd N xr (minI (N xr) (N yr))) (s.nx + 5) itd td0 s9 ∧ s9.ob (s8.nx + 22) = .cs [slOf io (partsN t dx).length] 0 ∧ ((partsN t dx).length ≠ 0 → s9.ob io = .cs (arrN (partsN t dx).length fun k => (partsN t dx).getD k 0) 0 ∧ io < s10.nx) ∧ s9.ob s10.nx = .cs [.sc (.int .i64 ((0 : Nat) : Int))] 0 ∧ s9.ob bc2 = .cs [.ptr cid 0] 0 ∧ s9.ob ba2 = .cs [.sc (.int .i64 (dy : Int))] 0 ∧ s10.nx < bc2 ∧ bc2 < ba2 ∧ ba2 < s9.nx) ⟨hJ10.frame (by omega) (fun j hj => (upd_ne _ _ (by omega)).trans ((upd_ne _ _ (by omega)).trans ((upd_ne _ _ (by omega)).trans (upd_ne _ _ (by omega))))), (upd_ne _ _ (by omega)).trans ((upd_ne _ _ (by omega)).trans ((upd_ne _ _ (by omega)).trans ((upd_ne _ _ (by omega)).trans hof10))), fun h => ⟨(upd_ne _ _ (by have := (hio10 h).2; omega)).trans ((upd_ne _ _ (by have := (hio10 h).2; omega)).trans ((upd_ne _ _ (by have := (hio10 h).2; omega)).trans ((upd_ne _ _ (by have := (hio10 h).2; omega)).trans (hio10 h).1))), (hio10 h).2⟩, (upd_ne _ _ (by omega)).trans ((upd_ne _ _ (by omega)).trans (upd_same _ _ _)), (upd_ne _ _ (by omega)).trans (upd_same _ _ _), upd_same _ _ _, by omega, hba2, hm2⟩ fun s9 hJ9 => ?_
              obtain ⟨hJ9, hof9, hio9, hiv9, hbc9, hba9, hn9⟩ := hJ9
              have hn9' := hJ9.new
              have hpl : (partsN t dx).length = (partsN t dy).length := by
                obtain ⟨e1, e2⟩ := cellEq_ar hcq
                rw [partsN_length hdx1, partsN_length hdy1, e1, e2]
              have hzl : ((partsN t dx).zip (partsN t dy)).length = (partsN t dx).length := by rw [List.length_zip, ← hpl, Nat.min_self]
              have hity : True ∧ (if itd < s9.nx then s9.ob itd else Obj.dead).noyl = true := ⟨trivial, by rw [if_pos (by omega)]; obtain ⟨l, q1, q2, q3, q4⟩ := hJ9.td; rw [q1]; exact q4⟩
              clear hK K
              refine aw_block ?_
              refine aw_rangeFunc rfl (by rfl) Try.call80 fun L1 l1 hL1 => ?_
              refine FnL.mono (fn80 L1 (fun j s' => s'.ls = upd s9.ls l1 .ready ∧ s9.nx ≤ s'.nx ∧ (∀ i, i < s9.nx → i ≠ s.nx + 5 → i ≠ s10.nx → i ≠ itd → s'.ob i = s9.ob i) ∧ (∀ i, s9.nx ≤ i → (s'.ob i).noyl = true) ∧ (s'.ob itd).noyl = true ∧ s'.ob s10.nx = .cs [.sc (.int .i64 (j : Int))] 0 ∧ ∃ it2 lc, s'.ob (s.nx + 5) = .cs [.own it2 0 (td0.length + j) 2] 0 ∧ s'.ob it2 = .cs lc 0 ∧ lc.take ((td0.length + j) * 2) = tdC (td0 ++ ((partsN t dx).zip (partsN t dy)).take j) ∧ ((td0.length + j) * 2 ≤ lc.length ∧ lc.all Av.noyl = true) ∧ (it2 = itd ∨ s9.nx ≤ it2) ∧ it2 < s'.nx) l1 t dy ky cid bc2 ba2 _ x hx hl ht.2 hky hdy1 (by rw [hL1.params]; rfl) ?_ ?_ ?_ ?_) ?_
              · rintro j s' ⟨h1, h2, h3', h4, h5, h6, it2, lc, h7, h8, h9, h10, h11, h12⟩
                exact ⟨(h3' bc2 (by omega) (by omega) (by omega) (by omega)).trans hbc9, (h3' ba2 (by omega) (by omega) (by omega) (by omega)).trans hba9, by omega, _, _, _, _, (h3' cid (by omega) (by omega) (by omega) (by omega)).trans hJ9.cl.c⟩
              · rintro j s' m ⟨h1, h2, h3', h4, h5, h6, it2, lc, h7, h8, h9, h10, h11, h12⟩ hm
                exact ⟨h1, Nat.le_trans h2 hm, h3', h4, h5, h6, it2, lc, h7, h8, h9, h10, h11, Nat.lt_of_lt_of_le h12 hm⟩
              · intro j1 sJ1 hj1 hJ1
                obtain ⟨g1, g2, g3, g4, g5, g6, it2, lc, g7, g8, g9, g10, g11, g12⟩ := hJ1
                have hjl : j1 < (partsN t dy).length := by rw [partsN_len]; exact hj1
                rw [partsN_get hj1]
                have hjx : j1 < (partsN t dx).length := by omega
                have hm0 : (partsN t dx).length ≠ 0 := by omega
                have hio9' := hio9 hm0
                have k1 : sJ1.ob (s8.nx + 22) = .cs [.own io 0 (partsN t dx).length 1] 0 := (g3 _ (by omega) (by omega) (by omega) (by omega)).trans (hof9.trans (by rw [slOf_pos hm0]))
                have k2 : sJ1.ob io = .cs (arrN (partsN t dx).length fun k => (partsN t dx).getD k 0) 0 := (g3 _ (by omega) (by omega) (by omega) (by omega)).trans hio9'.1
                have hgd : (partsN t dx).getD j1 0 = (partsN t dx)[j1] := by rw [List.getD_eq_getElem?_getD, List.getElem?_eq_getElem hjx]; rfl
                refine roundL_of hL1.params hL1.assign hL1.body hL1.size (fun p hp => by have e : p = 131 := (by simpa using hp); subst e; exact (show (131 : Nat) < 143 from by decide)) ?_
                rw [hL1.sl]
                simp only [setPs]
                refine aw_region C (pb := false) rfl ?_
                repeat' (first | refine wy0 (h := ?_) | fail)
                refine awOps_nil ?_
                try simp only [thenA_normal, thenA_ret, thenA_exit, blockA_normal, blockA_ret, blockA_exit]
                refine ⟨?_, ?_⟩
                · show sJ1.ls l1 = _; rw [g1, upd_same]
                refine aw_block ?_
                obtain ⟨o0, ho0⟩ : ∃ o, o = upd sJ1.ob (sJ1.nx + 1 + 7) (.cs [.sc (.int .i64 ((partsN t dx)[j1] : Int)), .sc (.int .i64 ((partsN t dy)[j1] : Int))] 0) := ⟨_, rfl⟩
                obtain ⟨o1, ho1⟩ : ∃ o, o = upd (upd o0 it2 .dead) (sJ1.nx + 1 + 8) (.cs (lc.take ((td0.length + j1) * 2) ++ [.sc (.int .i64 ((partsN t dx)[j1] : Int)), .sc (.int .i64 ((partsN t dy)[j1] : Int))]) 0) := ⟨_, rfl⟩
                obtain ⟨o2, ho2⟩ : ∃ o, o = upd o1 (s.nx + 5) (.cs [.own (sJ1.nx + 1 + 8) 0 (td0.length + j1 + 1) 2] 0) := ⟨_, rfl⟩
                have q0 : o0 (s.nx + 5) = _ := (show o0 (s.nx + 5) = sJ1.ob (s.nx + 5) from by simp (disch := omega) only [ho0, upd_ne, upd_same]).trans g7
                have q1 : o0 (s8.nx + 22) = _ := (show o0 (s8.nx + 22) = sJ1.ob (s8.nx + 22) from by simp (disch := omega) only [ho0, upd_ne, upd_same]).trans k1
                have q2 : o0 io = _ := (show o0 io = sJ1.ob io from by simp (disch := omega) only [ho0, upd_ne, upd_same]).trans k2
                have q3 : o0 s10.nx = _ := (show o0 s10.nx = sJ1.ob s10.nx from by simp (disch := omega) only [ho0, upd_ne, upd_same]).trans g6
                have q4 : o0 (sJ1.nx + 1 + 7) = .cs [.sc (.int .i64 ((partsN t dx)[j1] : Int)), .sc (.int .i64 ((partsN t dy)[j1] : Int))] 0 := by simp (disch := omega) only [ho0, upd_ne, upd_same]
                have q5 : o0 it2 = _ := (show o0 it2 = sJ1.ob it2 from by simp (disch := omega) only [ho0, upd_ne, upd_same]).trans g8
                have q6 : o1 (s.nx + 5) = _ := (show o1 (s.nx + 5) = o0 (s.nx + 5) from by simp (disch := omega) only [ho1, upd_ne, upd_same]).trans q0
                have q7 : o2 s10.nx = _ := (show o2 s10.nx = o0 s10.nx from by simp (disch := omega) only [ho2, ho1, upd_ne, upd_same]).trans q3
                refine aw_dra_seq C (pb := false) 10 [8, 9] [o0, o1, o2] rfl (by kernel_rfl) (by kernel_rfl) rfl (fun j hj => by simp (disch := omega) only [osL_0, ho0, upd_ne]) fun K hK => ?_
                iterate 7 (first | refine dra_yes [0] (by rfl) (by rfl) (by rfl) (by rfl) (by kernel_rfl) ⟨⟨_, by simp  only [go_sem, ↓reduceIte, Nat.reduceEqDiff, reduceCtorEq, Nat.reduceAdd, Nat.reduceMul, Nat.reduceLeDiff, osL_0, osL_1, osL_2, osL_3, osL_4, osL_5, osL_6, ldA q0, ldA q1, ldA q3, ixO hjx, ldN q2 hjx, hgd, stA q6 (v := .av (.own (sJ1.nx + 1 + 8) 0 (td0.length + j1 + 1) 2)) rfl]; (try exact rfl), fun _ => rfl⟩, trivial⟩ ?_ | refine dra_no (by rfl) (by rfl) (by rfl) ?_)
                refine dra_yes [0] (by rfl) (by rfl) (by rfl) (by rfl) (by kernel_rfl) ⟨⟨_, (by simp only [go_sem, ↓reduceIte, Nat.reduceEqDiff, reduceCtorEq, Nat.reduceAdd, Nat.reduceMul, Nat.reduceLeDiff, osL_0]; try exact rfl), fun j => upd_self q4 j⟩, trivial⟩ ?_
                refine dra_eff (by rfl) (by rfl) (by rfl) (by rfl) ((show aop C false _ _ _ _ = aAppend T o0 _ 84 _ _ from rfl).trans (appTd q5 g10.1 q4 rfl (by omega))) (fun j => (congrFun ho1 j).symm) ⟨Nat.le_refl _, rfl⟩ ?_
                refine dra_eff0 (by rfl) (by rfl) (by rfl) (by rfl) (by simp  only [go_sem, ↓reduceIte, Nat.reduceEqDiff, reduceCtorEq, Nat.reduceAdd, Nat.reduceMul, Nat.reduceLeDiff, osL_0, osL_1, osL_2, osL_3, osL_4, osL_5, osL_6, ldA q0, ldA q1, ldA q3, ixO hjx, ldN q2 hjx, hgd, stA q6 (v := .av (.own (sJ1.nx + 1 + 8) 0 (td0.length + j1 + 1) 2)) rfl]; exact rfl) (fun j => (congrFun ho2 j).symm) ⟨Nat.le_refl _, rfl⟩ ?_
                refine dra_nil (hK _ ?_)
                simp only [osL_0, osL_1, osL_2, osL_3, osL_4, osL_5, osL_6, List.length_cons, List.length_nil, Nat.reduceAdd]
                clear hK K
                refine aw_region C (pb := false) rfl ?_
                repeat' (first | refine wy1 (a := by simp (disch := omega) only [go_sem, ↓reduceIte, Nat.reduceEqDiff, reduceCtorEq, Nat.reduceAdd, Nat.reduceMul, Nat.reduceLeDiff, aLoad, aStore, q7, upd_ne, wrap_small ((j1 : Int) + 1) (by omega) (by omega)]; exact rfl) (h := ?_) | refine wz1 (a := by simp (disch := omega) only [go_sem, ↓reduceIte, Nat.reduceEqDiff, reduceCtorEq, Nat.reduceAdd, Nat.reduceMul, Nat.reduceLeDiff, aLoad, aStore, q7, upd_ne, wrap_small ((j1 : Int) + 1) (by omega) (by omega)]; exact rfl) (h := ?_) | fail)
                refine awOps_nil ?_
                try simp only [thenA_normal, thenA_ret, thenA_exit, blockA_normal, blockA_ret, blockA_exit]
                -- end of round of range 1 at 0t1f2f3f4fR1.b
                have hny : ∀ i, (sJ1.ob i).noyl = true → (o2 i).noyl = true := fun i hi => by
                  rw [ho2, ho1, ho0]
                  exact upd_noyl rfl (upd_noyl (tdC_noyl g9) (upd_noyl rfl (upd_noyl rfl hi)))
                refine ⟨rfl, ?_, by dsimp only; omega, fun i hi h1 h2 h3 => (upd_ne _ _ h2).trans ((congrFun ho2 i).trans ((upd_ne _ _ h1).trans ((congrFun ho1 i).trans ((upd_ne _ _ (by omega)).trans ((upd_ne _ _ (by omega)).trans ((congrFun ho0 i).trans ((upd_ne _ _ (by omega)).trans (g3 i hi h1 h2 h3)))))))), fun i hi => upd_noyl rfl (hny i (g4 i hi)), upd_noyl rfl (hny itd g5), (upd_same _ _ _).trans (by rw [Int.natCast_succ]; rfl), sJ1.nx + 1 + 8, _, (upd_ne _ _ (by omega)).trans ((congrFun ho2 _).trans (upd_same _ _ _)), (upd_ne _ _ (by omega)).trans ((congrFun ho2 _).trans ((upd_ne _ _ (by omega)).trans ((congrFun ho1 _).trans (upd_same _ _ _)))), ?_, ?_, .inr (by omega), by dsimp only; omega⟩
                · show upd (upd sJ1.ls l1 .busy) l1 .ready = _
                  rw [g1, upd_upd, upd_upd]
                · rw [g9, List.take_of_length_le (by rw [List.length_append, tdC_len, List.length_append, List.length_take, hzl]; simp only [List.length_cons, List.length_nil]; omega), List.take_succ_eq_append_getElem (by rw [hzl]; exact hjx), ← List.append_assoc, tdC_append]
                  simp [tdC]
                · rw [List.length_append, List.length_take, Nat.min_eq_left g10.1]
                  simp only [List.length_cons, List.length_nil]
                  refine ⟨by omega, ?_⟩
                  have := tdC_noyl (a := ((partsN t dx)[j1] : Int)) (b := ((partsN t dy)[j1] : Int)) g9
                  exact this
              · obtain ⟨lc, q1, q2, q3⟩ := hJ9.td
                exact ⟨rfl, Nat.le_refl _, fun i hi _ _ _ => if_pos hi, fun i hi => by dsimp only; rw [if_neg (by omega)]; rfl, hity.2, (if_pos (by omega)).trans hiv9, itd, lc, (if_pos (by omega)).trans hJ9.t, (if_pos (by omega)).trans q1, by simpa using q2, q3, .inl rfl, by dsimp only; omega⟩
              · rintro r1 s1' hm1
                obtain ⟨g1, g2, g3, g4, g5, g6, it2, lc, g7, g8, g9, g10, g11, g12⟩ := hm1
                rw [← partsN_len, ← hpl] at g7 g9 g10
                rw [List.take_of_length_le (l := (partsN t dx).zip (partsN t dy)) (by rw [hzl]; exact Nat.le_refl _)] at g9
                refine ⟨fun i hi => ?_, ?_⟩
                · by_cases h1 : i < s9.nx
                  · by_cases h2 : i = s.nx + 5
                    · rw [h2, g7]; exact .inr rfl
                    · by_cases h3 : i = s10.nx
                      · rw [h3, g6]; exact .inr rfl
                      · by_cases h4 : i = itd
                        · rw [h4]; exact .inr g5
                        · exact .inl ⟨h1, g3 i h1 h2 h3 h4⟩
                  · exact .inr (g4 i (by omega))
                rw [g1, upd_same, upd_back]
                simp only [leftBy]
                have hJ12 : JI s x cid iu id iN nn (upd p2 yr xr) D (upd N xr (minI (N xr) (N yr))) (s.nx + 5) it2 (td0 ++ (partsN t dx).zip (partsN t dy)) ⟨s1'.ob, s1'.nx, s9.ls⟩ := ⟨hJ9.ls, by dsimp only; have := hJ9.nx; omega, fun j hj a b c => (g3 j (by omega) (by omega) (by omega) (by omega)).trans (hJ9.old j hj a b c), hJ9.cl.frame (Nat.le_refl _) (fun j hj => g3 j (by omega) (by omega) (by omega) (by omega)), g7.trans (by rw [List.length_append, hzl]), ⟨lc, g8, by rw [List.length_append, hzl]; exact g9, by rw [List.length_append, hzl]; exact g10.1, g10.2⟩, by dsimp only; omega⟩
                simp only [thenA_normal, thenA_ret, thenA_exit, blockA_normal, blockA_ret, blockA_exit]
                -- end of round 0 at 0t1f2f3f4f
                refine ⟨(fu), [(0, .av (.ptr cid 0)), (6, vB false), (7, .av (.ptr (s.nx + 5) 0))], by omega, AllIn.less ⟨rfl, rfl, rfl, trivial⟩, fu, (upd p2 yr xr), D, (upd N xr (minI (N xr) (N yr))), (td0 ++ (partsN t dx).zip (partsN t dy)), it2, rfl, rfl, ?_, ?_, ?_, ?_⟩
                · exact hJ12.frame (by first | omega | (dsimp only; omega) | (dsimp only at *; omega)) (fun _ _ => rfl)
                · refine ⟨hp3, hb2, fun ab hab => ?_⟩
                  rcases List.mem_append.1 hab with h | h
                  · exact hb30 ab h
                  · have := List.of_mem_zip (a := ab.1) (b := ab.2) h; exact ⟨by rw [hnn]; exact (partsN_lt ht hdx1 _ this.1).1, by rw [hnn]; exact (partsN_lt ht hdy1 _ this.2).1⟩
                · rwa [if_neg hc1, if_neg hc2, if_neg hc3, if_pos hcq] at h3
                · rw [List.length_append, hzl]
                  omega
  · intro hc0
    try simp only [decide_eq_true_eq, decide_eq_false_iff_not] at hc0
    refine aw_exit ?_
    simp only [thenA_normal, thenA_ret, thenA_exit, blockA_normal, blockA_ret, blockA_exit, ↓reduceIte, Nat.reduceEqDiff]
    refine aw_region_seq C (pb := false) rfl fun K hK => ?_
    repeat' (first | refine wy0 (h := ?_) | fail)
    refine awOps_nil (hK _ _ ?_)
    clear hK K
    refine aw_ret ?_
    simp only [go_sem, ↓reduceIte, Nat.reduceEqDiff, reduceCtorEq, Nat.reduceAdd, Nat.reduceMul, Nat.reduceLeDiff, aLoad, aStore, FnQ, resA]
    -- 0f.x0.ret
    have htd : td = [] := List.length_eq_zero_iff.1 (by omega)
    subst htd
    cases fu with
    | zero => simp [joinF] at h3
    | succ fu =>
      simp only [joinF, List.getLast?_nil, Option.some.injEq] at h3
      subst h3
      exact fun _ => ⟨rfl, hs1.ls, s1.ob, fun _ _ => rfl, fun i hi => jplain hs1.cl hs1.old i hi, rfl, hs1.cl, hs1.old⟩
end Go.Am.Seat
/-
  MADE BY PROGRAM (am.py): the walks of functions 65.
-/
namespace Go.Am.Seat
open Go.Proofs

/-- The state while sizes are counted. -/
structure SzS where
  p : Nat → Nat
  sz : Nat → Nat
  sn : Nat → Nat
  fine : Bool
def capN (k : Nat) : Nat := if 201 < k then 201 else k
def ofL (f : SzS → Nat → Option (Nat × SzS)) (x : Nat) : List Nat → SzS → Option SzS
  | [], st => some st
  | q :: l, st => match f st q with
    | none => none
    | some (n, st') => ofL f x l ⟨st'.p, upd st'.sz x (capN (st'.sz x + n)), st'.sn, st'.fine⟩
/-- What counting comes to. -/
def ofF (t : List Cell) (D : Nat → Int) : Nat → SzS → Nat → Option (Nat × SzS)
  | 0, _, _ => none
  | F + 1, st, a => match own1 F st.p a with
    | none => none
    | some (x, p1) =>
      if st.sn x = 1 then some (0, ⟨p1, st.sz, st.sn, false⟩)
      else if st.sn x = 2 ∨ st.fine = false then some (st.sz x, ⟨p1, st.sz, st.sn, st.fine⟩)
      else match ofL (ofF t D F) x (if 0 ≤ D x then partsN t (D x).toNat else []) ⟨p1, upd st.sz x 1, upd st.sn x 1, st.fine⟩ with
        | none => none
        | some st' => some (st'.sz x, ⟨st'.p, st'.sz, upd st'.sn x 2, st'.fine⟩)
/-- The objects' names. -/
structure SzI where
  cid : Nat
  iu : Nat
  id : Nat
  iN : Nat
  isn : Nat
  isz : Nat
  bo : Nat
  bsn : Nat
  bf : Nat
  bsz : Nat
  bc : Nat
  bof : Nat
def SzI.clo (I : SzI) : Av := .fn 65 [] [.ptr I.bo 0, .ptr I.bsn 0, .ptr I.bf 0, .ptr I.bsz 0, .ptr I.bc 0, .ptr I.bof 0]
/-- The store, its four parts turned. -/
def szOb (I : SzI) (n : Nat) (ob : Nat → Obj) (st : SzS) : Nat → Obj :=
  upd (upd (upd (upd ob I.iu (.cs (arrN n st.p) 0)) I.isn (.cs (arrN n st.sn) 0)) I.isz (.cs (arrN n st.sz) 0)) I.bf (.cs [.sc (.bool st.fine)] 0)
structure SZ (ob : Nat → Obj) (nx : Nat) (x : Sc) (n : Nat) (D N : Nat → Int) (I : SzI) (st : SzS) : Prop where
  cl : CL ob nx x I.cid I.iu I.id I.iN n st.p D N
  sn : ob I.isn = .cs (arrN n st.sn) 0
  sz : ob I.isz = .cs (arrN n st.sz) 0
  bf : ob I.bf = .cs [.sc (.bool st.fine)] 0
  bo : ob I.bo = .cs [.fn 38 [.ptr I.cid 0] []] 0
  bsn : ob I.bsn = .cs [.own I.isn 0 n 1] 0
  bsz : ob I.bsz = .cs [.own I.isz 0 n 1] 0
  bc : ob I.bc = .cs [.ptr I.cid 0] 0
  bof : ob I.bof = .cs [I.clo] 0
  ord : I.cid < I.bc ∧ I.iu < I.bc ∧ I.id < I.bc ∧ I.iN < I.bc ∧ I.bc < I.isz ∧ I.isz < I.isn ∧ I.isn < I.bsz ∧ I.bsz < I.bsn ∧ I.bsn < I.bf ∧ I.bf < I.bo ∧ I.bo < I.bof ∧ I.bof < nx
theorem szOb_ne {I : SzI} {n : Nat} {ob : Nat → Obj} {st : SzS} {j : Nat} (h1 : j ≠ I.iu) (h2 : j ≠ I.isn) (h3 : j ≠ I.isz) (h4 : j ≠ I.bf) : szOb I n ob st j = ob j :=
  (upd_ne _ _ h4).trans ((upd_ne _ _ h3).trans ((upd_ne _ _ h2).trans (upd_ne _ _ h1)))
theorem szOb_noyl {I : SzI} {n : Nat} {ob : Nat → Obj} {st : SzS} {j : Nat} (h : (ob j).noyl = true) : (szOb I n ob st j).noyl = true :=
  upd_noyl rfl (upd_noyl arr_noyl (upd_noyl arr_noyl (upd_noyl arr_noyl h)))
theorem szOb_or {I : SzI} {n : Nat} {ob : Nat → Obj} {st : SzS} (j : Nat) : szOb I n ob st j = ob j ∨ (szOb I n ob st j).plain = true := by
  by_cases h4 : j = I.bf
  · rw [szOb, h4, upd_same]; exact .inr rfl
  by_cases h3 : j = I.isz
  · rw [szOb, upd_ne _ _ h4, h3, upd_same]; exact .inr arrN_plain
  by_cases h2 : j = I.isn
  · rw [szOb, upd_ne _ _ h4, upd_ne _ _ h3, h2, upd_same]; exact .inr arrN_plain
  by_cases h1 : j = I.iu
  · rw [szOb, upd_ne _ _ h4, upd_ne _ _ h3, upd_ne _ _ h2, h1, upd_same]; exact .inr arrN_plain
  exact .inl (szOb_ne h1 h2 h3 h4)
section
variable {ob ob' : Nat → Obj} {nx nx' : Nat} {x : Sc} {n : Nat} {D N : Nat → Int} {I : SzI} {st st' : SzS}
theorem szOb_two : szOb I n (szOb I n ob st) st' = szOb I n ob st' := by
  funext j
  unfold szOb upd
  split
  · rfl
  split
  · rfl
  split
  · rfl
  split
  · rfl
  · rfl
theorem szOb_at {j : Nat} (h : ob' j = ob j) : szOb I n ob' st j = szOb I n ob st j := by
  unfold szOb upd
  split
  · rfl
  split
  · rfl
  split
  · rfl
  split
  · rfl
  · exact h
theorem SZ.s_cid (h : SZ ob nx x n D N I st) : szOb I n ob st' I.cid = ob I.cid := szOb_ne h.cl.dist.1 (by have := h.ord; omega) (by have := h.ord; omega) (by have := h.ord; omega)
theorem SZ.s_id (h : SZ ob nx x n D N I st) : szOb I n ob st' I.id = ob I.id := szOb_ne (Ne.symm h.cl.dist.2.2.2.1) (by have := h.ord; omega) (by have := h.ord; omega) (by have := h.ord; omega)
theorem SZ.s_iN (h : SZ ob nx x n D N I st) : szOb I n ob st' I.iN = ob I.iN := szOb_ne (Ne.symm h.cl.dist.2.2.2.2.1) (by have := h.ord; omega) (by have := h.ord; omega) (by have := h.ord; omega)
theorem SZ.s_bo (h : SZ ob nx x n D N I st) : szOb I n ob st' I.bo = ob I.bo := szOb_ne (by have := h.ord; omega) (by have := h.ord; omega) (by have := h.ord; omega) (by have := h.ord; omega)
theorem SZ.s_bsn (h : SZ ob nx x n D N I st) : szOb I n ob st' I.bsn = ob I.bsn := szOb_ne (by have := h.ord; omega) (by have := h.ord; omega) (by have := h.ord; omega) (by have := h.ord; omega)
theorem SZ.s_bsz (h : SZ ob nx x n D N I st) : szOb I n ob st' I.bsz = ob I.bsz := szOb_ne (by have := h.ord; omega) (by have := h.ord; omega) (by have := h.ord; omega) (by have := h.ord; omega)
theorem SZ.s_bc (h : SZ ob nx x n D N I st) : szOb I n ob st' I.bc = ob I.bc := szOb_ne (by have := h.ord; omega) (by have := h.ord; omega) (by have := h.ord; omega) (by have := h.ord; omega)
theorem SZ.s_bof (h : SZ ob nx x n D N I st) : szOb I n ob st' I.bof = ob I.bof := szOb_ne (by have := h.ord; omega) (by have := h.ord; omega) (by have := h.ord; omega) (by have := h.ord; omega)
theorem SZ.s_iu (h : SZ ob nx x n D N I st) : szOb I n ob st' I.iu = .cs (arrN n st'.p) 0 := by
  have := h.ord
  rw [szOb, upd_ne _ _ (by omega), upd_ne _ _ (by omega), upd_ne _ _ (by omega), upd_same]
theorem SZ.s_isn (h : SZ ob nx x n D N I st) : szOb I n ob st' I.isn = .cs (arrN n st'.sn) 0 := by
  have := h.ord
  rw [szOb, upd_ne _ _ (by omega), upd_ne _ _ (by omega), upd_same]
theorem SZ.s_isz (h : SZ ob nx x n D N I st) : szOb I n ob st' I.isz = .cs (arrN n st'.sz) 0 := by
  have := h.ord
  rw [szOb, upd_ne _ _ (by omega), upd_same]
/-- The state behind is again such a state. -/
theorem SZ.to (h : SZ ob nx x n D N I st) (hn : nx ≤ nx') (ho : ∀ j, j < nx → ob' j = szOb I n ob st' j) : SZ ob' nx' x n D N I st' := by
  have o := h.ord
  exact ⟨⟨(ho _ (by omega)).trans (h.s_cid.trans h.cl.c), (ho _ (by omega)).trans h.s_iu, (ho _ (by omega)).trans (h.s_id.trans h.cl.d), (ho _ (by omega)).trans (h.s_iN.trans h.cl.n), h.cl.dist, by omega⟩,
    (ho _ (by omega)).trans h.s_isn, (ho _ (by omega)).trans h.s_isz, (ho _ (by omega)).trans (upd_same _ _ _), (ho _ (by omega)).trans (h.s_bo.trans h.bo), (ho _ (by omega)).trans (h.s_bsn.trans h.bsn), (ho _ (by omega)).trans (h.s_bsz.trans h.bsz), (ho _ (by omega)).trans (h.s_bc.trans h.bc), (ho _ (by omega)).trans (h.s_bof.trans h.bof), by omega⟩
theorem SZ.self (h : SZ ob nx x n D N I st) (j : Nat) : szOb I n ob st j = ob j := by
  have o := h.ord
  unfold szOb
  rw [upd_self (i := I.bf), upd_self (i := I.isz), upd_self (i := I.isn), upd_self (i := I.iu)]
  · exact h.cl.u
  · rw [upd_ne _ _ (by omega)]; exact h.sn
  · rw [upd_ne _ _ (by omega), upd_ne _ _ (by omega)]; exact h.sz
  · rw [upd_ne _ _ (by omega), upd_ne _ _ (by omega), upd_ne _ _ (by omega)]; exact h.bf
end
/-- What the inner function's contract is, with so much to go. -/
def Of65 (t : List Cell) (x : Sc) (nn : Nat) (D N : Nat → Int) (F : Nat) : Prop := ∀ (L : Loops) (s : Me) (I : SzI) (st st' : SzS) (a r0 : Nat), SZ s.ob s.nx x nn D N I st → a < nn → (∀ i, i < nn → st.p i < nn) → (∀ i, st.sz i ≤ 201) → ofF t D F st a = some (r0, st') →
  FnL Try.prog L 65 [vI (a : Nat), .av (.ptr I.bo 0), .av (.ptr I.bsn 0), .av (.ptr I.bf 0), .av (.ptr I.bsz 0), .av (.ptr I.bc 0), .av (.ptr I.bof 0)] s fun r s' => r = vI (r0 : Nat) ∧ s' = ⟨szOb I nn s.ob st', s.nx, s.ls⟩
theorem ofL_inv {nn : Nat} {f : SzS → Nat → Option (Nat × SzS)} {x : Nat} (hf : ∀ st a r0 st', f st a = some (r0, st') → a < nn → (∀ i, i < nn → st.p i < nn) → (∀ i, st.sz i ≤ 201) → (∀ i, i < nn → st'.p i < nn) ∧ (∀ i, st'.sz i ≤ 201) ∧ r0 ≤ 201) :
    ∀ {l : List Nat} {st st' : SzS}, ofL f x l st = some st' → (∀ q ∈ l, q < nn) → (∀ i, i < nn → st.p i < nn) → (∀ i, st.sz i ≤ 201) → (∀ i, i < nn → st'.p i < nn) ∧ (∀ i, st'.sz i ≤ 201)
  | [], st, st', h, _, h1, h2 => by simp only [ofL, Option.some.injEq] at h; subst h; exact ⟨h1, h2⟩
  | q :: l, st, st', h, hq, h1, h2 => by
    simp only [ofL] at h
    split at h
    · cases h
    · rename_i n st1 h3
      obtain ⟨h4, h5, h6⟩ := hf _ _ _ _ h3 (hq q (by simp)) h1 h2
      refine ofL_inv hf h (fun q hq' => hq q (by simp [hq'])) h4 fun i => ?_
      dsimp only
      unfold upd capN
      split
      · split <;> omega
      · exact h5 i
theorem ofF_inv {t : List Cell} {D : Nat → Int} {nn : Nat} (ht : TOK t) (hnn : nn = t.length) (hD : ∀ i, i < nn → D i < nn) : ∀ {F : Nat} {st st' : SzS} {a r0 : Nat}, ofF t D F st a = some (r0, st') → a < nn → (∀ i, i < nn → st.p i < nn) → (∀ i, st.sz i ≤ 201) → (∀ i, i < nn → st'.p i < nn) ∧ (∀ i, st'.sz i ≤ 201) ∧ r0 ≤ 201
  | 0, _, _, _, _, h, _, _, _ => by simp [ofF] at h
  | F + 1, st, st', a, r0, h, ha, h1, h2 => by
    simp only [ofF] at h
    split at h
    · cases h
    · rename_i x p1 h3
      obtain ⟨hx, hp⟩ := own1_lt h3 ha h1
      split at h
      · simp only [Option.some.injEq, Prod.mk.injEq] at h; obtain ⟨rfl, rfl⟩ := h; exact ⟨hp, h2, by omega⟩
      · split at h
        · simp only [Option.some.injEq, Prod.mk.injEq] at h; obtain ⟨rfl, rfl⟩ := h; exact ⟨hp, h2, h2 x⟩
        · split at h
          · cases h
          · rename_i st1 h4
            simp only [Option.some.injEq, Prod.mk.injEq] at h
            obtain ⟨rfl, rfl⟩ := h
            have := ofL_inv (nn := nn) (fun _ _ _ _ h => ofF_inv ht hnn hD h) h4 (fun q hq => by
              split at hq
              · rw [hnn]; exact (partsN_lt ht (by have := hD x hx; omega) q hq).1
              · simp at hq) hp (fun i => by dsimp only; unfold upd; split; omega; exact h2 i)
            exact ⟨this.1, this.2, this.2 x⟩
theorem plain_noyl {o : Obj} (h : o.plain = true) : o.noyl = true := by
  cases o with
  | dead => rfl
  | cs l fz =>
    simp only [Obj.plain, Obj.noyl, List.all_eq_true] at h ⊢
    intro a ha
    have := h a ha
    cases a <;> simp [Av.plain] at this
    rfl
  | mp l =>
    simp only [Obj.plain, Obj.noyl, List.all_eq_true] at h ⊢
    intro a ha
    have := h a ha
    obtain ⟨k, v⟩ := a
    cases v <;> simp [Av.plain] at this
    rfl
theorem szOb_setSz {I : SzI} {n : Nat} {ob ob' : Nat → Obj} {st : SzS} {j : Nat} (h : ob' j = szOb I n ob st j) (hd : I.isz ≠ I.bf) (v : Nat → Nat) : upd ob' I.isz (.cs (arrN n v) 0) j = szOb I n ob ⟨st.p, v, st.sn, st.fine⟩ j := by
  by_cases hj' : j = I.isz
  · rw [hj', upd_same, szOb, upd_ne _ _ hd, upd_same]
  · rw [upd_ne _ _ hj', h]
    simp only [szOb, upd, if_neg hj']
abbrev KZ (I : SzI) (nn : Nat) (s : Me) (st : SzS) (s1 : Me) : Prop := Kp ⟨szOb I nn s.ob st, s.nx, s.ls⟩ s1
section
variable {I : SzI} {nn : Nat} {s s1 : Me} {st : SzS} {m : Nat}
theorem KZ.frame (h : KZ I nn s st s1) {ob' : Nat → Obj} (hm : s1.nx ≤ m) (ho : ∀ j, j < s.nx → ob' j = s1.ob j) : KZ I nn s st ⟨ob', m, s1.ls⟩ :=
  ⟨Nat.le_trans h.1 hm, fun j hj => (ho j hj).trans (h.2.1 j hj), h.2.2⟩
theorem KZ.setP (h : KZ I nn s st s1) (hm : s1.nx ≤ m) (hd : I.iu ≠ I.isn ∧ I.iu ≠ I.isz ∧ I.iu ≠ I.bf) (p' : Nat → Nat) : KZ I nn s ⟨p', st.sz, st.sn, st.fine⟩ ⟨upd s1.ob I.iu (.cs (arrN nn p') 0), m, s1.ls⟩ := by
  refine ⟨Nat.le_trans h.1 hm, fun j hj => ?_, h.2.2⟩
  have h1 := h.2.1 j hj
  dsimp only at h1 ⊢
  by_cases hj' : j = I.iu
  · rw [hj', upd_same, szOb, upd_ne _ _ hd.2.2, upd_ne _ _ hd.2.1, upd_ne _ _ hd.1, upd_same]
  · rw [upd_ne _ _ hj', h1]
    simp only [szOb, upd, if_neg hj']
theorem KZ.setSn (h : KZ I nn s st s1) (hm : s1.nx ≤ m) (hd : I.isn ≠ I.isz ∧ I.isn ≠ I.bf) (v : Nat → Nat) : KZ I nn s ⟨st.p, st.sz, v, st.fine⟩ ⟨upd s1.ob I.isn (.cs (arrN nn v) 0), m, s1.ls⟩ := by
  refine ⟨Nat.le_trans h.1 hm, fun j hj => ?_, h.2.2⟩
  have h1 := h.2.1 j hj
  dsimp only at h1 ⊢
  by_cases hj' : j = I.isn
  · rw [hj', upd_same, szOb, upd_ne _ _ hd.2, upd_ne _ _ hd.1, upd_same]
  · rw [upd_ne _ _ hj', h1]
    simp only [szOb, upd, if_neg hj']
theorem KZ.setSz (h : KZ I nn s st s1) (hm : s1.nx ≤ m) (hd : I.isz ≠ I.bf) (v : Nat → Nat) : KZ I nn s ⟨st.p, v, st.sn, st.fine⟩ ⟨upd s1.ob I.isz (.cs (arrN nn v) 0), m, s1.ls⟩ := by
  refine ⟨Nat.le_trans h.1 hm, fun j hj => ?_, h.2.2⟩
  have h1 := h.2.1 j hj
  dsimp only at h1 ⊢
  by_cases hj' : j = I.isz
  · rw [hj', upd_same, szOb, upd_ne _ _ hd, upd_same]
  · rw [upd_ne _ _ hj', h1]
    simp only [szOb, upd, if_neg hj']
theorem KZ.setF (h : KZ I nn s st s1) (hm : s1.nx ≤ m) (b : Bool) : KZ I nn s ⟨st.p, st.sz, st.sn, b⟩ ⟨upd s1.ob I.bf (.cs [.sc (.bool b)] 0), m, s1.ls⟩ := by
  refine ⟨Nat.le_trans h.1 hm, fun j hj => ?_, h.2.2⟩
  have h1 := h.2.1 j hj
  dsimp only at h1 ⊢
  by_cases hj' : j = I.bf
  · rw [hj', upd_same, szOb, upd_same]
  · rw [upd_ne _ _ hj', h1]
    simp only [szOb, upd, if_neg hj']
end
theorem capI (a n : Nat) : (if (201 : Int) < (a : Int) + (n : Int) then (201 : Int) else (a : Int) + (n : Int)) = ((capN (a + n) : Nat) : Int) := by
  unfold capN
  split
  · rw [if_pos (by omega)]; rfl
  · rw [if_neg (by omega)]; omega

-- many steps
theorem bod65 : Try.f65.body = some (Try.f65.body.getD .skip) := rfl
set_option maxHeartbeats 4000000 in
theorem fn65s (L : Loops) (F nn a r0 : Nat) (t : List Cell) (I : SzI) (st st' : SzS) (D N : Nat → Int) (s : Me) (x : Sc) (hx : GSl encC x t) (hl : t.length ≤ 1000000) (hnn : nn = t.length) (ht : TOK t) (hD : ∀ i, i < nn → D i < nn) (ih : Of65 t x nn D N F) (hz : SZ s.ob s.nx x nn D N I st) (ha : a < nn) (hp : ∀ i, i < nn → st.p i < nn) (hsz : ∀ i, st.sz i ≤ 201) (ho : ofF t D (F + 1) st a = some (r0, st')) : FnL Try.prog L 65 [vI (a : Nat), .av (.ptr I.bo 0), .av (.ptr I.bsn 0), .av (.ptr I.bf 0), .av (.ptr I.bsz 0), .av (.ptr I.bc 0), .av (.ptr I.bof 0)] s fun r s' => r = vI (r0 : Nat) ∧ s' = ⟨szOb I nn s.ob st', s.nx, s.ls⟩ := by
  refine FnL.pureM (R := fun r => r = vI (r0 : Nat)) (szOb I nn s.ob st') (fun i _ => szOb_or i) ?_
  have o := hz.ord
  simp only [ofF] at ho
  obtain ⟨⟨xr, p1⟩, ho1⟩ : ∃ r, own1 F st.p a = some r := by
    cases h : own1 F st.p a with
    | none => rw [h] at ho; cases ho
    | some r => exact ⟨r, rfl⟩
  rw [ho1] at ho
  dsimp only at ho
  obtain ⟨hx1, hp1⟩ := own1_lt ho1 ha hp
  have hd1 : I.iu ≠ I.isn ∧ I.iu ≠ I.isz ∧ I.iu ≠ I.bf := by omega
  have hd2 : I.isn ≠ I.isz ∧ I.isn ≠ I.bf := by omega
  have hd3 : I.isz ≠ I.bf := by omega
  refine fn_of_body (ts := [8]) Try.func65 bod65 rfl (by simp) (by simp [Try.ntmps65]) fun D0 => ?_
  unfold Try.f65
  simp only [Option.getD_some, initSl]
  refine aw_region_seq C (pb := false) rfl fun K hK => ?_
  repeat' (first | refine wy0 (h := ?_) | fail)
  refine awOps_nil (hK _ _ ?_)
  refine AW.less (sl' := [(1, .av (.ptr I.bo 0)), (2, .av (.ptr I.bsn 0)), (3, .av (.ptr I.bf 0)), (4, .av (.ptr I.bsz 0)), (5, .av (.ptr I.bc 0)), (6, .av (.ptr I.bof 0)), (7, .av (.ptr s.nx 0)), (0, vI (a : Nat)), (8, vI 0)]) (AllIn.less ⟨rfl, rfl, rfl, rfl, rfl, rfl, rfl, rfl, rfl, trivial⟩) ?_
  refine aw_state (J := fun s1 => KZ I nn s st s1 ∧ s1.ob s.nx = .cs [.sc (.int .i64 (a : Nat))] 0 ∧ s.nx < s1.nx) ⟨⟨by dsimp only; omega, fun j hj => (upd_ne _ _ (by dsimp only at hj; omega)).trans (hz.self j).symm, rfl⟩, upd_same _ _ _, by dsimp only; omega⟩ fun s1 hJ1 => ?_
  obtain ⟨hK1, hb1, hn1⟩ := hJ1
  have hm1 : s.nx ≤ s1.nx := hK1.1
  have Z1 := hz.to (nx' := s1.nx) hK1.1 hK1.2.1
  clear hK K
  refine aw_region_seq C (pb := false) rfl fun K hK => ?_
  repeat' (first | refine wy1 (a := by simp only [go_sem, ↓reduceIte, Nat.reduceEqDiff, reduceCtorEq, Nat.reduceAdd, Nat.reduceMul, Nat.reduceLeDiff, ldA Z1.bo, ldA hb1]; exact rfl) (h := ?_) | fail)
  refine wc (And.intro Try.call38 (fn38 L F nn a xr st.p p1 I.cid I.iu (.sc x) (.own I.id 0 nn 1) (.own I.iN 0 nn 1) _ (by dsimp only; omega) (by dsimp only; omega) hz.cl.dist.1 Z1.cl.c Z1.cl.u ha hp ho1)) ?_
  rintro _ _ ⟨rfl, rfl⟩
  repeat' (first | refine wz1 (a := by simp only [go_sem, ↓reduceIte, Nat.reduceEqDiff, reduceCtorEq, Nat.reduceAdd, Nat.reduceMul, Nat.reduceLeDiff, ldA Z1.bo, ldA hb1, stA (show upd s1.ob I.iu (.cs (arrN nn p1) 0) s.nx = _ from (upd_ne _ _ (by omega)).trans hb1) (v := vI (xr : Nat)) rfl]; exact rfl) (h := ?_) | fail)
  refine awOps_nil (hK _ _ ?_)
  refine AW.less (sl' := [(1, .av (.ptr I.bo 0)), (2, .av (.ptr I.bsn 0)), (3, .av (.ptr I.bf 0)), (4, .av (.ptr I.bsz 0)), (5, .av (.ptr I.bc 0)), (6, .av (.ptr I.bof 0)), (7, .av (.ptr s.nx 0))]) (AllIn.less ⟨rfl, rfl, rfl, rfl, rfl, rfl, rfl, trivial⟩) ?_
  refine aw_state (J := fun s2 => KZ I nn s ⟨p1, st.sz, st.sn, st.fine⟩ s2 ∧ s2.ob s.nx = .cs [.sc (.int .i64 (xr : Nat))] 0 ∧ s.nx < s2.nx) ⟨(hK1.setP (m := s1.nx + 3) (by omega) hd1 p1).frame (by first | omega | (dsimp only; omega) | (dsimp only at *; omega)) (fun j hj => upd_ne _ _ (by omega)), upd_same _ _ _, by dsimp only; omega⟩ fun s2 hJ2 => ?_
  obtain ⟨hK2, hb2, hn2⟩ := hJ2
  have hm2 : s.nx ≤ s2.nx := hK2.1
  have Z2 := hz.to (nx' := s2.nx) hK2.1 hK2.2.1
  clear hK K
  refine aw_seq ?_
  refine aw_region_seq C (pb := false) rfl fun K hK => ?_
  repeat' (first | refine wy1 (a := by simp only [go_sem, ↓reduceIte, Nat.reduceEqDiff, reduceCtorEq, Nat.reduceAdd, Nat.reduceMul, Nat.reduceLeDiff, ldA Z2.bsn, ldA hb2, ixO hx1, ldN Z2.sn hx1]; exact rfl) (h := ?_) | fail)
  refine awOps_nil (hK _ _ ?_)
  clear hK K
  refine aw_cond (by rfl) ?_ ?_
  · intro hc0
    try simp only [beq_iff_eq, beq_eq_false_iff_ne, ne_eq] at hc0
    have hc0' : st.sn xr = 1 := by omega
    rw [if_pos hc0'] at ho
    refine aw_region_seq C (pb := false) rfl fun K hK => ?_
    repeat' (first | refine wz1 (a := by simp only [go_sem, ↓reduceIte, Nat.reduceEqDiff, reduceCtorEq, Nat.reduceAdd, Nat.reduceMul, Nat.reduceLeDiff, aLoad, aStore, Z2.bf]; exact rfl) (h := ?_) | fail)
    refine awOps_nil (hK _ _ ?_)
    clear hK K
    refine aw_region_seq C (pb := false) rfl fun K hK => ?_
    repeat' (first | refine wy0 (h := ?_) | fail)
    refine awOps_nil (hK _ _ ?_)
    clear hK K
    refine aw_ret ?_
    try simp only [thenA_normal, thenA_ret, thenA_exit, blockA_normal, blockA_ret, blockA_exit]
    simp only [go_sem, ↓reduceIte, Nat.reduceEqDiff, reduceCtorEq, Nat.reduceAdd, Nat.reduceMul, Nat.reduceLeDiff, aLoad, aStore, FnQ, resA]
    -- 0t.ret
    simp only [Option.some.injEq, Prod.mk.injEq] at ho
    obtain ⟨rfl, rfl⟩ := ho
    exact fun _ => ⟨rfl, fun j hj => (hK2.setF (m := s2.nx) (Nat.le_refl _) false).2.1 j hj, hK2.2.2, rfl⟩
  · intro hc0
    try simp only [beq_iff_eq, beq_eq_false_iff_ne, ne_eq] at hc0
    have hc0' : ¬ st.sn xr = 1 := by omega
    rw [if_neg hc0'] at ho
    refine aw_skip ?_
    simp only [thenA_normal, thenA_ret, thenA_exit, blockA_normal, blockA_ret, blockA_exit, ↓reduceIte, Nat.reduceEqDiff]
    refine aw_seq ?_
    refine aw_cut_seq C (pb := false) [(1, .av (.ptr I.bo 0)), (2, .av (.ptr I.bsn 0)), (3, .av (.ptr I.bf 0)), (4, .av (.ptr I.bsz 0)), (5, .av (.ptr I.bc 0)), (6, .av (.ptr I.bof 0)), (7, .av (.ptr s.nx 0)), (27, vB ((((st.sn xr : Nat) : Int) == 2) || !st.fine))] rfl ?_ fun n5 hn5 => ?_
    · cases hA0 : (((st.sn xr : Nat) : Int) == 2 : Bool) <;> cases hA1 : (st.fine : Bool)
      all_goals (repeat' (first | refine wy1 (a := by simp only [go_sem, ↓reduceIte, Nat.reduceEqDiff, reduceCtorEq, Nat.reduceAdd, Nat.reduceMul, Nat.reduceLeDiff, ldA Z2.bsn, ldA hb2, ixO hx1, ldN Z2.sn hx1, ldA Z2.bf, hA0, hA1]; exact rfl) (h := ?_) | refine wn (h := ?_) | fail))
      all_goals (exact awOps_nil ⟨⟨rfl, rfl, rfl, rfl, rfl, rfl, rfl, rfl, trivial⟩, rfl, (by first | omega | (dsimp only; omega)), rfl⟩)
    refine aw_cond (by rfl) ?_ ?_
    · intro hc1
      try simp only [Bool.or_eq_true, beq_iff_eq, Bool.not_eq_true', Bool.or_eq_false_iff, beq_eq_false_iff_ne, ne_eq, Bool.not_eq_false'] at hc1
      have hc1' : st.sn xr = 2 ∨ st.fine = false := by rcases hc1 with h | h; exact .inl (by omega); exact .inr h
      rw [if_pos hc1'] at ho
      refine aw_region_seq C (pb := false) rfl fun K hK => ?_
      repeat' (first | refine wy1 (a := by simp only [go_sem, ↓reduceIte, Nat.reduceEqDiff, reduceCtorEq, Nat.reduceAdd, Nat.reduceMul, Nat.reduceLeDiff, ldA Z2.bsz, ldA hb2, ixO hx1, ldN Z2.sz hx1]; exact rfl) (h := ?_) | fail)
      refine awOps_nil (hK _ _ ?_)
      clear hK K
      refine aw_ret ?_
      try simp only [thenA_normal, thenA_ret, thenA_exit, blockA_normal, blockA_ret, blockA_exit]
      simp only [go_sem, ↓reduceIte, Nat.reduceEqDiff, reduceCtorEq, Nat.reduceAdd, Nat.reduceMul, Nat.reduceLeDiff, aLoad, aStore, FnQ, resA]
      -- 0f1t.ret
      simp only [Option.some.injEq, Prod.mk.injEq] at ho
      obtain ⟨rfl, rfl⟩ := ho
      exact fun _ => ⟨rfl, hK2.2.1, hK2.2.2, rfl⟩
    · intro hc1
      try simp only [Bool.or_eq_true, beq_iff_eq, Bool.not_eq_true', Bool.or_eq_false_iff, beq_eq_false_iff_ne, ne_eq, Bool.not_eq_false'] at hc1
      have hc1' : ¬ (st.sn xr = 2 ∨ st.fine = false) := by rintro (h | h); exact hc1.1 (by omega); rw [hc1.2] at h; cases h
      rw [if_neg hc1'] at ho
      refine aw_skip ?_
      simp only [thenA_normal, thenA_ret, thenA_exit, blockA_normal, blockA_ret, blockA_exit, ↓reduceIte, Nat.reduceEqDiff]
      refine aw_dra_seq C (pb := false) 8 [5, 7] [s2.ob, upd s2.ob I.isn (.cs (arrN nn (upd st.sn xr 1)) 0), upd (upd s2.ob I.isn (.cs (arrN nn (upd st.sn xr 1)) 0)) I.isz (.cs (arrN nn (upd st.sz xr 1)) 0)] rfl (by kernel_rfl) (by kernel_rfl) rfl (fun _ _ => rfl) fun K hK => ?_
      iterate 2 (first | refine dra_yes [0] (by rfl) (by rfl) (by rfl) (by rfl) (by kernel_rfl) ⟨⟨_, by simp  only [go_sem, ↓reduceIte, Nat.reduceEqDiff, reduceCtorEq, Nat.reduceAdd, Nat.reduceMul, Nat.reduceLeDiff, osL_0, osL_1, osL_2, osL_3, osL_4, osL_5, osL_6, ldA Z2.bsn, ldA Z2.bsz, ldA hb2, ldA (show upd s2.ob I.isn (.cs (arrN nn (upd st.sn xr 1)) 0) I.bsz = _ from (upd_ne _ _ (by omega)).trans Z2.bsz), ldA (show upd s2.ob I.isn (.cs (arrN nn (upd st.sn xr 1)) 0) s.nx = _ from (upd_ne _ _ (by omega)).trans hb2), ixO hx1, stNc Z2.sn hx1 (Nat.zero_le _) 1 (c := 1) rfl, stNc (show upd s2.ob I.isn (.cs (arrN nn (upd st.sn xr 1)) 0) I.isz = _ from (upd_ne _ _ (by omega)).trans Z2.sz) hx1 (Nat.zero_le _) 1 (c := 1) rfl]; (try exact rfl), fun _ => rfl⟩, trivial⟩ ?_ | refine dra_no (by rfl) (by rfl) (by rfl) ?_)
      iterate 2 (first | refine dra_yes [0, 1] (by rfl) (by rfl) (by rfl) (by rfl) (by kernel_rfl) ⟨⟨_, by simp  only [go_sem, ↓reduceIte, Nat.reduceEqDiff, reduceCtorEq, Nat.reduceAdd, Nat.reduceMul, Nat.reduceLeDiff, osL_0, osL_1, osL_2, osL_3, osL_4, osL_5, osL_6, ldA Z2.bsn, ldA Z2.bsz, ldA hb2, ldA (show upd s2.ob I.isn (.cs (arrN nn (upd st.sn xr 1)) 0) I.bsz = _ from (upd_ne _ _ (by omega)).trans Z2.bsz), ldA (show upd s2.ob I.isn (.cs (arrN nn (upd st.sn xr 1)) 0) s.nx = _ from (upd_ne _ _ (by omega)).trans hb2), ixO hx1, stNc Z2.sn hx1 (Nat.zero_le _) 1 (c := 1) rfl, stNc (show upd s2.ob I.isn (.cs (arrN nn (upd st.sn xr 1)) 0) I.isz = _ from (upd_ne _ _ (by omega)).trans Z2.sz) hx1 (Nat.zero_le _) 1 (c := 1) rfl]; (try exact rfl), fun _ => rfl⟩, ⟨_, by simp  only [go_sem, ↓reduceIte, Nat.reduceEqDiff, reduceCtorEq, Nat.reduceAdd, Nat.reduceMul, Nat.reduceLeDiff, osL_0, osL_1, osL_2, osL_3, osL_4, osL_5, osL_6, ldA Z2.bsn, ldA Z2.bsz, ldA hb2, ldA (show upd s2.ob I.isn (.cs (arrN nn (upd st.sn xr 1)) 0) I.bsz = _ from (upd_ne _ _ (by omega)).trans Z2.bsz), ldA (show upd s2.ob I.isn (.cs (arrN nn (upd st.sn xr 1)) 0) s.nx = _ from (upd_ne _ _ (by omega)).trans hb2), ixO hx1, stNc Z2.sn hx1 (Nat.zero_le _) 1 (c := 1) rfl, stNc (show upd s2.ob I.isn (.cs (arrN nn (upd st.sn xr 1)) 0) I.isz = _ from (upd_ne _ _ (by omega)).trans Z2.sz) hx1 (Nat.zero_le _) 1 (c := 1) rfl]; (try exact rfl), fun _ => rfl⟩, trivial⟩ ?_ | refine dra_no (by rfl) (by rfl) (by rfl) ?_)
      (first | refine dra_yes [0] (by rfl) (by rfl) (by rfl) (by rfl) (by kernel_rfl) ⟨⟨_, by simp  only [go_sem, ↓reduceIte, Nat.reduceEqDiff, reduceCtorEq, Nat.reduceAdd, Nat.reduceMul, Nat.reduceLeDiff, osL_0, osL_1, osL_2, osL_3, osL_4, osL_5, osL_6, ldA Z2.bsn, ldA Z2.bsz, ldA hb2, ldA (show upd s2.ob I.isn (.cs (arrN nn (upd st.sn xr 1)) 0) I.bsz = _ from (upd_ne _ _ (by omega)).trans Z2.bsz), ldA (show upd s2.ob I.isn (.cs (arrN nn (upd st.sn xr 1)) 0) s.nx = _ from (upd_ne _ _ (by omega)).trans hb2), ixO hx1, stNc Z2.sn hx1 (Nat.zero_le _) 1 (c := 1) rfl, stNc (show upd s2.ob I.isn (.cs (arrN nn (upd st.sn xr 1)) 0) I.isz = _ from (upd_ne _ _ (by omega)).trans Z2.sz) hx1 (Nat.zero_le _) 1 (c := 1) rfl]; (try exact rfl), fun _ => rfl⟩, trivial⟩ ?_ | refine dra_no (by rfl) (by rfl) (by rfl) ?_)
      refine dra_eff0 (by rfl) (by rfl) (by rfl) (by rfl) (by simp  only [go_sem, ↓reduceIte, Nat.reduceEqDiff, reduceCtorEq, Nat.reduceAdd, Nat.reduceMul, Nat.reduceLeDiff, osL_0, osL_1, osL_2, osL_3, osL_4, osL_5, osL_6, ldA Z2.bsn, ldA Z2.bsz, ldA hb2, ldA (show upd s2.ob I.isn (.cs (arrN nn (upd st.sn xr 1)) 0) I.bsz = _ from (upd_ne _ _ (by omega)).trans Z2.bsz), ldA (show upd s2.ob I.isn (.cs (arrN nn (upd st.sn xr 1)) 0) s.nx = _ from (upd_ne _ _ (by omega)).trans hb2), ixO hx1, stNc Z2.sn hx1 (Nat.zero_le _) 1 (c := 1) rfl, stNc (show upd s2.ob I.isn (.cs (arrN nn (upd st.sn xr 1)) 0) I.isz = _ from (upd_ne _ _ (by omega)).trans Z2.sz) hx1 (Nat.zero_le _) 1 (c := 1) rfl]; exact rfl) (fun _ => rfl) ⟨Nat.le_refl _, rfl⟩ ?_
      (first | refine dra_yes [1] (by rfl) (by rfl) (by rfl) (by rfl) (by kernel_rfl) ⟨⟨_, by simp  only [go_sem, ↓reduceIte, Nat.reduceEqDiff, reduceCtorEq, Nat.reduceAdd, Nat.reduceMul, Nat.reduceLeDiff, osL_0, osL_1, osL_2, osL_3, osL_4, osL_5, osL_6, ldA Z2.bsn, ldA Z2.bsz, ldA hb2, ldA (show upd s2.ob I.isn (.cs (arrN nn (upd st.sn xr 1)) 0) I.bsz = _ from (upd_ne _ _ (by omega)).trans Z2.bsz), ldA (show upd s2.ob I.isn (.cs (arrN nn (upd st.sn xr 1)) 0) s.nx = _ from (upd_ne _ _ (by omega)).trans hb2), ixO hx1, stNc Z2.sn hx1 (Nat.zero_le _) 1 (c := 1) rfl, stNc (show upd s2.ob I.isn (.cs (arrN nn (upd st.sn xr 1)) 0) I.isz = _ from (upd_ne _ _ (by omega)).trans Z2.sz) hx1 (Nat.zero_le _) 1 (c := 1) rfl]; (try exact rfl), fun _ => rfl⟩, trivial⟩ ?_ | refine dra_no (by rfl) (by rfl) (by rfl) ?_)
      refine dra_eff0 (by rfl) (by rfl) (by rfl) (by rfl) (by simp  only [go_sem, ↓reduceIte, Nat.reduceEqDiff, reduceCtorEq, Nat.reduceAdd, Nat.reduceMul, Nat.reduceLeDiff, osL_0, osL_1, osL_2, osL_3, osL_4, osL_5, osL_6, ldA Z2.bsn, ldA Z2.bsz, ldA hb2, ldA (show upd s2.ob I.isn (.cs (arrN nn (upd st.sn xr 1)) 0) I.bsz = _ from (upd_ne _ _ (by omega)).trans Z2.bsz), ldA (show upd s2.ob I.isn (.cs (arrN nn (upd st.sn xr 1)) 0) s.nx = _ from (upd_ne _ _ (by omega)).trans hb2), ixO hx1, stNc Z2.sn hx1 (Nat.zero_le _) 1 (c := 1) rfl, stNc (show upd s2.ob I.isn (.cs (arrN nn (upd st.sn xr 1)) 0) I.isz = _ from (upd_ne _ _ (by omega)).trans Z2.sz) hx1 (Nat.zero_le _) 1 (c := 1) rfl]; exact rfl) (fun _ => rfl) ⟨Nat.le_refl _, rfl⟩ ?_
      refine dra_nil (hK _ ?_)
      simp only [osL_0, osL_1, osL_2, osL_3, osL_4, osL_5, osL_6, List.length_cons, List.length_nil, Nat.reduceAdd]
      refine AW.less (sl' := [(1, .av (.ptr I.bo 0)), (2, .av (.ptr I.bsn 0)), (3, .av (.ptr I.bf 0)), (4, .av (.ptr I.bsz 0)), (5, .av (.ptr I.bc 0)), (6, .av (.ptr I.bof 0)), (7, .av (.ptr s.nx 0))]) (AllIn.less ⟨rfl, rfl, rfl, rfl, rfl, rfl, rfl, trivial⟩) ?_
      refine aw_state (J := fun s3 => KZ I nn s ⟨p1, upd st.sz xr 1, upd st.sn xr 1, st.fine⟩ s3 ∧ s3.ob s.nx = .cs [.sc (.int .i64 (xr : Nat))] 0 ∧ s.nx < s3.nx) ⟨(hK2.setSn (m := s2.nx) (Nat.le_refl _) hd2 (upd st.sn xr 1)).setSz (by first | omega | (dsimp only; omega) | (dsimp only at *; omega)) hd3 (upd st.sz xr 1), (upd_ne _ _ (by omega)).trans ((upd_ne _ _ (by omega)).trans hb2), by dsimp only; omega⟩ fun s3 hJ3 => ?_
      obtain ⟨hK3, hb3, hn3⟩ := hJ3
      have hm3 : s.nx ≤ s3.nx := hK3.1
      have Z3 := hz.to (nx' := s3.nx) hK3.1 hK3.2.1
      clear hK K
      refine aw_seq ?_
      refine aw_sil_seq C (pb := false) 8 _ rfl (by kernel_rfl) rfl (fun _ _ => rfl) fun K hK => ?_
      repeat' (first | refine ws1 (a := by simp only [go_sem, ↓reduceIte, Nat.reduceEqDiff, reduceCtorEq, Nat.reduceAdd, Nat.reduceMul, Nat.reduceLeDiff, ldA Z3.bc, ldA Z3.cl.c, ldA hb3, ixO hx1, ldO Z3.cl.d hx1]; exact rfl) (h := ?_) | fail)
      refine sil_nil (hK _ ?_)
      refine AW.less (sl' := [(1, .av (.ptr I.bo 0)), (2, .av (.ptr I.bsn 0)), (3, .av (.ptr I.bf 0)), (4, .av (.ptr I.bsz 0)), (5, .av (.ptr I.bc 0)), (6, .av (.ptr I.bof 0)), (7, .av (.ptr s.nx 0)), (45, vB (decide (D xr ≥ 0)))]) (AllIn.less ⟨rfl, rfl, rfl, rfl, rfl, rfl, rfl, rfl, trivial⟩) ?_
      clear hK K
      refine aw_cond (by rfl) ?_ ?_
      · intro hc2
        try simp only [decide_eq_true_eq, decide_eq_false_iff_not] at hc2
        have hc2' : 0 ≤ D xr := hc2
        rw [if_pos hc2'] at ho
        obtain ⟨dx, hdx⟩ : ∃ d : Nat, D xr = (d : Int) := ⟨(D xr).toNat, by omega⟩
        have hdx1 : dx < t.length := by have := hD xr hx1; omega
        rw [hdx, Int.toNat_natCast] at ho
        obtain ⟨st3, ho3⟩ : ∃ st3, ofL (ofF t D F) xr (partsN t dx) ⟨p1, upd st.sz xr 1, upd st.sn xr 1, st.fine⟩ = some st3 := by
          cases h : ofL (ofF t D F) xr (partsN t dx) ⟨p1, upd st.sz xr 1, upd st.sn xr 1, st.fine⟩ with
          | none => rw [h] at ho; cases ho
          | some r => exact ⟨r, rfl⟩
        rw [ho3] at ho
        dsimp only at ho
        obtain ⟨kx, hkx⟩ := ht.1 dx hdx1
        refine aw_drag_seq C (pb := false) 9 [8] [s3.ob, upd (upd s3.ob (s3.nx + 17) (.cs [.ptr I.cid 0] 0)) (s3.nx + 18) (.cs [.sc (.int .i64 (dx : Int))] 0)] (fun k => 5 * k) rfl (by kernel_rfl) (by kernel_rfl) rfl (fun _ _ => rfl) fun K hK => ?_
        iterate 8 (first | refine dra_yes [0] (by rfl) (by rfl) (by rfl) (by rfl) (by kernel_rfl) ⟨⟨_, by simp  only [go_sem, ↓reduceIte, Nat.reduceEqDiff, reduceCtorEq, Nat.reduceAdd, Nat.reduceMul, Nat.reduceLeDiff, osL_0, osL_1, osL_2, osL_3, osL_4, osL_5, osL_6, ldA Z3.bc, ldA Z3.cl.c, ldA hb3, ixO hx1, ldO Z3.cl.d hx1, hdx]; (try exact rfl), fun _ => rfl⟩, trivial⟩ ?_ | refine dra_no (by rfl) (by rfl) (by rfl) ?_)
        refine dra_callS (q := 0) (by rfl) (by rfl) (by rfl) (by rfl) (And.intro Try.call64 (FnL.mono (fn64x L (dx : Int) I.cid _) fun r s' ⟨h1, h2⟩ => ⟨h1, by rw [h2]; exact ⟨fun _ => rfl, by dsimp only; omega, rfl⟩⟩)) ?_
        refine dra_nil (hK _ ?_)
        simp only [osL_0, osL_1, osL_2, osL_3, osL_4, osL_5, osL_6, List.length_cons, List.length_nil, Nat.reduceAdd]
        refine AW.less (sl' := [(1, .av (.ptr I.bo 0)), (2, .av (.ptr I.bsn 0)), (3, .av (.ptr I.bf 0)), (4, .av (.ptr I.bsz 0)), (5, .av (.ptr I.bc 0)), (6, .av (.ptr I.bof 0)), (7, .av (.ptr s.nx 0)), (54, .av (.fn 80 [] [.ptr (s3.nx + 17) 0, .ptr (s3.nx + 18) 0]))]) (AllIn.less ⟨rfl, rfl, rfl, rfl, rfl, rfl, rfl, rfl, trivial⟩) ?_
        refine aw_state (J := fun s5 => KZ I nn s ⟨p1, upd st.sz xr 1, upd st.sn xr 1, st.fine⟩ s5 ∧ s5.ob s.nx = .cs [.sc (.int .i64 (xr : Nat))] 0 ∧ s5.ob (s3.nx + 17) = .cs [.ptr I.cid 0] 0 ∧ s5.ob (s3.nx + 18) = .cs [.sc (.int .i64 (dx : Int))] 0 ∧ s3.nx + 18 < s5.nx) ⟨hK3.frame (by first | omega | (dsimp only; omega) | (dsimp only at *; omega)) (fun j hj => (upd_ne _ _ (by omega)).trans (upd_ne _ _ (by omega))), (upd_ne _ _ (by omega)).trans ((upd_ne _ _ (by omega)).trans hb3), (upd_ne _ _ (by omega)).trans (upd_same _ _ _), upd_same _ _ _, by dsimp only; omega⟩ fun s5 hJ5 => ?_
        obtain ⟨hK5, hb5, hbc5, hba5, hn5⟩ := hJ5
        have Z5 := hz.to (nx' := s5.nx) hK5.1 hK5.2.1
        clear hK K
        refine aw_block ?_
        refine aw_rangeFunc rfl (by rfl) Try.call80 fun L0 l0 hL0 => ?_
        have hm5 : s.nx ≤ s5.nx := hK5.1
        refine FnL.mono (fn80 L0 (fun j s' => s'.ls = upd s5.ls l0 .ready ∧ s5.nx ≤ s'.nx ∧ (∀ i, s5.nx ≤ i → (s'.ob i).noyl = true) ∧ ∃ sj : SzS, ofL (ofF t D F) xr ((partsN t dx).drop j) sj = some st3 ∧ (∀ i, i < nn → sj.p i < nn) ∧ (∀ i, sj.sz i ≤ 201) ∧ ∀ i, i < s5.nx → s'.ob i = szOb I nn s5.ob sj i) l0 t dx kx I.cid (s3.nx + 17) (s3.nx + 18) _ x hx hl ht.2 hkx hdx1 (by rw [hL0.params]; rfl) ?_ ?_ ?_ ?_) ?_
        · rintro j s' ⟨h1, h2, h3, sj, h4, h5, h6, h7⟩
          exact ⟨(h7 _ (by omega)).trans ((szOb_ne (by omega) (by omega) (by omega) (by omega)).trans hbc5), (h7 _ (by omega)).trans ((szOb_ne (by omega) (by omega) (by omega) (by omega)).trans hba5), by omega, _, _, _, _, (Z5.to h2 h7).cl.c⟩
        · rintro j s' m ⟨h1, h2, h3, sj, h4⟩ hm
          exact ⟨h1, Nat.le_trans h2 hm, h3, sj, h4⟩
        · intro j0 sJ0 hj0 hJ0
          obtain ⟨g1, g2, g3, sj, g4, g5, g6, g7⟩ := hJ0
          have hjl : j0 < (partsN t dx).length := by rw [partsN_len]; exact hj0
          rw [partsN_get hj0]
          rw [List.drop_eq_getElem_cons hjl, ofL] at g4
          obtain ⟨⟨n6, sk⟩, ho6⟩ : ∃ r, ofF t D F sj (partsN t dx)[j0] = some r := by
            cases h : ofF t D F sj (partsN t dx)[j0] with
            | none => rw [h] at g4; cases g4
            | some r => exact ⟨r, rfl⟩
          rw [ho6] at g4
          dsimp only at g4
          have hql : (partsN t dx)[j0] < nn := by rw [hnn]; exact (partsN_lt ht hdx1 _ (List.getElem_mem hjl)).1
          obtain ⟨q1, q2, q3⟩ := ofF_inv ht hnn hD ho6 hql g5 g6
          have Z6 : ∀ m, s5.nx ≤ m → SZ sJ0.ob m x nn D N I sj := fun m hm => Z5.to hm g7
          have hb6 : sJ0.ob s.nx = .cs [.sc (.int .i64 (xr : Nat))] 0 := (g7 _ (by omega)).trans ((szOb_ne (by omega) (by omega) (by omega) (by omega)).trans hb5)
          refine roundL_of hL0.params hL0.assign hL0.body hL0.size (fun p hp => by have e : p = 55 := (by simpa using hp); subst e; exact (show (55 : Nat) < 76 from by decide)) ?_
          rw [hL0.sl]
          simp only [setPs]
          refine aw_region C (pb := false) rfl ?_
          repeat' (first | refine wy0 (h := ?_) | fail)
          refine awOps_nil ?_
          try simp only [thenA_normal, thenA_ret, thenA_exit, blockA_normal, blockA_ret, blockA_exit]
          refine ⟨?_, ?_⟩
          · show sJ0.ls l0 = _; rw [g1, upd_same]
          refine aw_block ?_
          refine aw_region_seq C (pb := false) rfl fun K hK => ?_
          repeat' (first | refine wy1 (a := by simp only [go_sem, ↓reduceIte, Nat.reduceEqDiff, reduceCtorEq, Nat.reduceAdd, Nat.reduceMul, Nat.reduceLeDiff, ldA (Z6 s5.nx (Nat.le_refl _)).bof, SzI.clo]; exact rfl) (h := ?_) | fail)
          refine wc (And.intro Try.call65 (ih L0 _ I sj sk (partsN t dx)[j0] n6 (Z6 _ (by dsimp only; omega)) (by rw [hnn]; exact (partsN_lt ht hdx1 _ (List.getElem_mem hjl)).1) g5 g6 ho6)) ?_
          rintro _ _ ⟨rfl, rfl⟩
          repeat' (first | refine wy1 (a := by simp only [go_sem, ↓reduceIte, Nat.reduceEqDiff, reduceCtorEq, Nat.reduceAdd, Nat.reduceMul, Nat.reduceLeDiff, ldA (Z6 s5.nx (Nat.le_refl _)).bof, SzI.clo]; exact rfl) (h := ?_) | fail)
          refine awOps_nil (hK _ _ ?_)
          refine AW.less (sl' := [(1, .av (.ptr I.bo 0)), (2, .av (.ptr I.bsn 0)), (3, .av (.ptr I.bf 0)), (4, .av (.ptr I.bsz 0)), (5, .av (.ptr I.bc 0)), (6, .av (.ptr I.bof 0)), (7, .av (.ptr s.nx 0)), (10, vI (n6 : Nat))]) (AllIn.less ⟨rfl, rfl, rfl, rfl, rfl, rfl, rfl, rfl, trivial⟩) ?_
          refine aw_state (J := fun s6 => (∀ i, i < s5.nx → s6.ob i = szOb I nn s5.ob sk i) ∧ (∀ i, s5.nx ≤ i → (s6.ob i).noyl = true) ∧ sJ0.nx ≤ s6.nx ∧ s6.ls = upd sJ0.ls l0 .busy ∧ s6.ob s.nx = .cs [.sc (.int .i64 (xr : Nat))] 0) ⟨fun i hi => (szOb_at (g7 i hi)).trans (congrFun szOb_two i), fun i hi => szOb_noyl (g3 i hi), by dsimp only; omega, rfl, (szOb_ne (by omega) (by omega) (by omega) (by omega)).trans hb6⟩ fun s6 hJ6 => ?_
          obtain ⟨h6a, h6b, h6c, h6d, h6e⟩ := hJ6
          have Z8 : SZ s6.ob s6.nx x nn D N I sk := Z5.to (by omega) h6a
          clear hK K
          refine aw_dra C (pb := false) 11 [10] [s6.ob, upd s6.ob I.isz (.cs (arrN nn (upd sk.sz xr (capN (sk.sz xr + n6)))) 0)] rfl (by kernel_rfl) (by kernel_rfl) rfl (fun _ _ => rfl) ?_
          iterate 10 (first | refine dra_yes [0] (by rfl) (by rfl) (by rfl) (by rfl) (by kernel_rfl) ⟨⟨_, by simp  only [go_sem, ↓reduceIte, Nat.reduceEqDiff, reduceCtorEq, Nat.reduceAdd, Nat.reduceMul, Nat.reduceLeDiff, osL_0, osL_1, osL_2, osL_3, osL_4, osL_5, osL_6, ldA Z8.bsz, ldA h6e, ixO hx1, ldN Z8.sz hx1, wrap_small (((sk.sz xr : Nat) : Int) + ((n6 : Nat) : Int)) (by omega) (by have := q2 xr; omega), capI, stN Z8.sz hx1 (Nat.zero_le _)]; (try exact rfl), fun _ => rfl⟩, trivial⟩ ?_ | refine dra_no (by rfl) (by rfl) (by rfl) ?_)
          refine dra_eff0 (by rfl) (by rfl) (by rfl) (by rfl) (by simp  only [go_sem, ↓reduceIte, Nat.reduceEqDiff, reduceCtorEq, Nat.reduceAdd, Nat.reduceMul, Nat.reduceLeDiff, osL_0, osL_1, osL_2, osL_3, osL_4, osL_5, osL_6, ldA Z8.bsz, ldA h6e, ixO hx1, ldN Z8.sz hx1, wrap_small (((sk.sz xr : Nat) : Int) + ((n6 : Nat) : Int)) (by omega) (by have := q2 xr; omega), capI, stN Z8.sz hx1 (Nat.zero_le _)]; exact rfl) (fun _ => rfl) ⟨Nat.le_refl _, rfl⟩ ?_
          refine dra_nil ?_
          simp only [osL_0, osL_1, osL_2, osL_3, osL_4, osL_5, osL_6, List.length_cons, List.length_nil, Nat.reduceAdd]
          try simp only [thenA_normal, thenA_ret, thenA_exit, blockA_normal, blockA_ret, blockA_exit]
          -- end of round of range 0 at 0f1f2tR0.b
          refine ⟨rfl, ?_, by dsimp only; omega, fun i hi => upd_noyl arr_noyl (h6b i hi), ⟨sk.p, upd sk.sz xr (capN (sk.sz xr + n6)), sk.sn, sk.fine⟩, g4, q1, fun i => ?_, fun i hi => szOb_setSz (h6a i hi) hd3 _⟩
          · show upd s6.ls l0 .ready = _
            rw [h6d, g1, upd_upd, upd_upd]
          · dsimp only
            unfold upd capN
            split
            · split <;> omega
            · exact q2 i
        · exact ⟨rfl, Nat.le_refl _, fun i hi => by dsimp only; rw [if_neg (by omega)]; rfl, ⟨p1, upd st.sz xr 1, upd st.sn xr 1, st.fine⟩, by rw [List.drop_zero]; exact ho3, hp1, fun i => by dsimp only; unfold upd; split; omega; exact hsz i, fun i hi => (if_pos hi).trans (Z5.self i).symm⟩
        · rintro r0 s0' hm0
          obtain ⟨g1, g2, g3, sj, g4, g5, g6, g7⟩ := hm0
          rw [← partsN_len, List.drop_of_length_le (Nat.le_refl _), ofL, Option.some.injEq] at g4
          subst g4
          refine ⟨fun i hi => ?_, ?_⟩
          · by_cases h1 : i < s5.nx
            · rcases szOb_or (I := I) (n := nn) (ob := s5.ob) (st := sj) i with h | h
              · exact .inl ⟨h1, (g7 i h1).trans h⟩
              · exact .inr (by rw [g7 i h1]; exact plain_noyl h)
            · exact .inr (g3 i (by omega))
          rw [g1, upd_same, upd_back]
          simp only [leftBy]
          simp only [thenA_normal, thenA_ret, thenA_exit, blockA_normal, blockA_ret, blockA_exit]
          refine aw_state (J := fun s7 => KZ I nn s sj s7 ∧ s7.ob s.nx = .cs [.sc (.int .i64 (xr : Nat))] 0 ∧ s.nx < s7.nx) ⟨⟨by dsimp only; omega, fun j hj => (g7 j (by dsimp only at hj; omega)).trans ((szOb_at (hK5.2.1 j hj)).trans (congrFun szOb_two j)), hK5.2.2⟩, (g7 _ (by omega)).trans ((szOb_ne (by omega) (by omega) (by omega) (by omega)).trans hb5), by dsimp only; omega⟩ fun s7 hJ7 => ?_
          clear g1 g2 g3 g5 g6 g7
          obtain ⟨st3, e3⟩ : ∃ z : SzS, z = sj := ⟨_, rfl⟩
          rw [← e3] at hJ7 ho
          obtain ⟨hK7, hb7, hn7⟩ := hJ7
          have hm7 : s.nx ≤ s7.nx := hK7.1
          have Z7 := hz.to (nx' := s7.nx) hK7.1 hK7.2.1
          refine aw_region_seq C (pb := false) rfl fun K hK => ?_
          repeat' (first | refine wy1 (a := by simp only [go_sem, ↓reduceIte, Nat.reduceEqDiff, reduceCtorEq, Nat.reduceAdd, Nat.reduceMul, Nat.reduceLeDiff, ldA Z7.bsn, ldA hb7, ixO hx1, stNc Z7.sn hx1 (Nat.zero_le _) 2 (c := 2) rfl]; exact rfl) (h := ?_) | refine wz1 (a := by simp only [go_sem, ↓reduceIte, Nat.reduceEqDiff, reduceCtorEq, Nat.reduceAdd, Nat.reduceMul, Nat.reduceLeDiff, ldA Z7.bsn, ldA hb7, ixO hx1, stNc Z7.sn hx1 (Nat.zero_le _) 2 (c := 2) rfl]; exact rfl) (h := ?_) | fail)
          refine awOps_nil (hK _ _ ?_)
          clear hK K
          refine aw_region_seq C (pb := false) rfl fun K hK => ?_
          repeat' (first | refine wy1 (a := by simp only [go_sem, ↓reduceIte, Nat.reduceEqDiff, reduceCtorEq, Nat.reduceAdd, Nat.reduceMul, Nat.reduceLeDiff, ldA (show upd s7.ob I.isn (.cs (arrN nn (upd st3.sn xr 2)) 0) I.bsz = _ from (upd_ne _ _ (by omega)).trans Z7.bsz), ldA (show upd s7.ob I.isn (.cs (arrN nn (upd st3.sn xr 2)) 0) s.nx = _ from (upd_ne _ _ (by omega)).trans hb7), ixO hx1, ldN (show upd s7.ob I.isn (.cs (arrN nn (upd st3.sn xr 2)) 0) I.isz = _ from (upd_ne _ _ (by omega)).trans Z7.sz) hx1]; exact rfl) (h := ?_) | fail)
          refine awOps_nil (hK _ _ ?_)
          clear hK K
          refine aw_ret ?_
          simp only [go_sem, ↓reduceIte, Nat.reduceEqDiff, reduceCtorEq, Nat.reduceAdd, Nat.reduceMul, Nat.reduceLeDiff, aLoad, aStore, FnQ, resA]
          -- 0f1f2t.ret
          simp only [Option.some.injEq, Prod.mk.injEq] at ho
          obtain ⟨rfl, rfl⟩ := ho
          exact fun _ => ⟨rfl, fun j hj => (hK7.setSn (m := s7.nx) (Nat.le_refl _) hd2 _).2.1 j hj, hK7.2.2, rfl⟩
      · intro hc2
        try simp only [decide_eq_true_eq, decide_eq_false_iff_not] at hc2
        have hc2' : ¬ 0 ≤ D xr := hc2
        rw [if_neg hc2'] at ho
        simp only [ofL] at ho
        refine aw_state (J := fun s7 => KZ I nn s ⟨p1, upd st.sz xr 1, upd st.sn xr 1, st.fine⟩ s7 ∧ s7.ob s.nx = .cs [.sc (.int .i64 (xr : Nat))] 0 ∧ s.nx < s7.nx) ⟨hK3.frame (by first | omega | (dsimp only; omega) | (dsimp only at *; omega)) (fun _ _ => rfl), hb3, by dsimp only; omega⟩ fun s7 hJ7 => ?_
        obtain ⟨st3, e3⟩ : ∃ z : SzS, z = ⟨p1, upd st.sz xr 1, upd st.sn xr 1, st.fine⟩ := ⟨_, rfl⟩
        rw [← e3] at hJ7
        have ho : some (st3.sz xr, (⟨st3.p, st3.sz, upd st3.sn xr 2, st3.fine⟩ : SzS)) = some (r0, st') := by rw [e3]; exact ho
        obtain ⟨hK7, hb7, hn7⟩ := hJ7
        have hm7 : s.nx ≤ s7.nx := hK7.1
        have Z7 := hz.to (nx' := s7.nx) hK7.1 hK7.2.1
        refine aw_skip ?_
        simp only [thenA_normal, thenA_ret, thenA_exit, blockA_normal, blockA_ret, blockA_exit, ↓reduceIte, Nat.reduceEqDiff]
        refine aw_region_seq C (pb := false) rfl fun K hK => ?_
        repeat' (first | refine wy1 (a := by simp only [go_sem, ↓reduceIte, Nat.reduceEqDiff, reduceCtorEq, Nat.reduceAdd, Nat.reduceMul, Nat.reduceLeDiff, ldA Z7.bsn, ldA hb7, ixO hx1, stNc Z7.sn hx1 (Nat.zero_le _) 2 (c := 2) rfl]; exact rfl) (h := ?_) | refine wz1 (a := by simp only [go_sem, ↓reduceIte, Nat.reduceEqDiff, reduceCtorEq, Nat.reduceAdd, Nat.reduceMul, Nat.reduceLeDiff, ldA Z7.bsn, ldA hb7, ixO hx1, stNc Z7.sn hx1 (Nat.zero_le _) 2 (c := 2) rfl]; exact rfl) (h := ?_) | fail)
        refine awOps_nil (hK _ _ ?_)
        clear hK K
        refine aw_region_seq C (pb := false) rfl fun K hK => ?_
        repeat' (first | refine wy1 (a := by simp only [go_sem, ↓reduceIte, Nat.reduceEqDiff, reduceCtorEq, Nat.reduceAdd, Nat.reduceMul, Nat.reduceLeDiff, ldA (show upd s7.ob I.isn (.cs (arrN nn (upd st3.sn xr 2)) 0) I.bsz = _ from (upd_ne _ _ (by omega)).trans Z7.bsz), ldA (show upd s7.ob I.isn (.cs (arrN nn (upd st3.sn xr 2)) 0) s.nx = _ from (upd_ne _ _ (by omega)).trans hb7), ixO hx1, ldN (show upd s7.ob I.isn (.cs (arrN nn (upd st3.sn xr 2)) 0) I.isz = _ from (upd_ne _ _ (by omega)).trans Z7.sz) hx1]; exact rfl) (h := ?_) | fail)
        refine awOps_nil (hK _ _ ?_)
        clear hK K
        refine aw_ret ?_
        simp only [go_sem, ↓reduceIte, Nat.reduceEqDiff, reduceCtorEq, Nat.reduceAdd, Nat.reduceMul, Nat.reduceLeDiff, aLoad, aStore, FnQ, resA]
        -- 0f1f2f.ret
        simp only [Option.some.injEq, Prod.mk.injEq] at ho
        obtain ⟨rfl, rfl⟩ := ho
        exact fun _ => ⟨rfl, fun j hj => (hK7.setSn (m := s7.nx) (Nat.le_refl _) hd2 _).2.1 j hj, hK7.2.2, rfl⟩
theorem fn65 {t : List Cell} {x : Sc} {nn : Nat} {D N : Nat → Int} (hx : GSl encC x t) (hl : t.length ≤ 1000000) (hnn : nn = t.length) (ht : TOK t) (hD : ∀ i, i < nn → D i < nn) : ∀ F, Of65 t x nn D N F
  | 0 => fun _ _ _ _ _ _ _ _ _ _ _ h => by simp [ofF] at h
  | F + 1 => fun L s I st st' a r0 hz ha hp hsz ho => fn65s L F nn a r0 t I st st' D N s x hx hl hnn ht hD (fn65 hx hl hnn ht hD F) hz ha hp hsz ho
end Go.Am.Seat
/-
  MADE BY PROGRAM (am.py): the walks of functions 37.
-/
namespace Go.Am.Seat
open Go.Proofs

def ofAll (t : List Cell) (D : Nat → Int) (F : Nat) : List Nat → SzS → Option SzS
  | [], st => some st
  | a :: l, st => match ofF t D F st a with
    | none => none
    | some (_, st') => ofAll t D F l st'
def st0 (p : Nat → Nat) : SzS := ⟨p, fun _ => 0, fun _ => 0, true⟩
theorem mk36 {ob : Nat → Obj} {nid n : Nat} (hn : n ≤ 1000000000) : aMake T ob nid 36 (vI (n : Int)) (vI (n : Int)) = some (.av (.own nid 0 n 1), upd ob nid (.cs (arrN n fun _ => 0) 0)) := by
  unfold aMake
  simp only [vI, T36, y36, T3, Option.bind_some]
  rw [if_pos ⟨by omega, Int.le_refl _, by omega, by simp [y3], by simp [y3]⟩]
  simp only [Int.toNat_natCast, y3, Nat.mul_one]
  congr 4
  simp [zerosA, arrN, arr, Nat.mod_one]
theorem arr_pure {ob : Nat → Obj} {id n : Nat} {f : Nat → Nat} (h : ob id = .cs (arrN n f) 0) : purV ob (.av (.own id 0 n 1)) = some (.av (.sc (.sl n ((List.range n).map fun i => .int .i64 (f i : Int)))), upd ob id (.cs (arrN n f) (max 0 (0 + n * 1)))) := by
  simp only [purV, purD, pur, h]
  rw [if_pos (by rw [arrN_len]; omega), List.drop_zero, List.take_of_length_le (by rw [arrN_len]; omega)]
  have : arrN n f = ((List.range n).map fun i => Sc.int .i64 (f i : Int)).map .sc := by simp [arrN, arr]
  rw [show purL (pur 3) _ (arrN n f) = _ from (congrArg (purL (pur 3) _) this).trans (purL_plain (fun ob s => by simp [pur]) _ _)]
  rfl
theorem arr_gsl {n : Nat} {f : Nat → Nat} : GSl encI (.sl n ((List.range n).map fun i => .int .i64 (f i : Int))) ((List.range n).map fun i => (f i : Int)) := by
  refine .inr ?_
  simp only [List.length_map, List.length_range, Sc.sl.injEq, true_and]
  rw [List.flatMap_map]
  simp [encI, List.flatMap, Function.comp_def]
  induction List.range n with
  | nil => rfl
  | cons a l ih => simp [ih]
theorem ofAll_inv {t : List Cell} {D : Nat → Int} {nn F : Nat} (ht : TOK t) (hnn : nn = t.length) (hD : ∀ i, i < nn → D i < nn) : ∀ {l : List Nat} {st st' : SzS}, ofAll t D F l st = some st' → (∀ q ∈ l, q < nn) → (∀ i, i < nn → st.p i < nn) → (∀ i, st.sz i ≤ 201) → (∀ i, i < nn → st'.p i < nn) ∧ (∀ i, st'.sz i ≤ 201)
  | [], st, st', h, _, h1, h2 => by simp only [ofAll, Option.some.injEq] at h; subst h; exact ⟨h1, h2⟩
  | q :: l, st, st', h, hq, h1, h2 => by
    simp only [ofAll] at h
    split at h
    · cases h
    · rename_i n st1 h3
      obtain ⟨h4, h5, _⟩ := ofF_inv ht hnn hD h3 (hq q (by simp)) h1 h2
      exact ofAll_inv ht hnn hD h (fun q hq' => hq q (by simp [hq'])) h4 h5
def szI (cid iu id iN m : Nat) : SzI := ⟨cid, iu, id, iN, m + 14, m + 8, m + 22, m + 16, m + 21, m + 15, m, m + 25⟩

-- many steps
theorem bod37 : Try.f37.body = some (Try.f37.body.getD .skip) := rfl
set_option maxHeartbeats 4000000 in
theorem fn37 (L : Loops) (F nn : Nat) (t : List Cell) (p : Nat → Nat) (D N : Nat → Int) (cid iu id iN : Nat) (st' : SzS) (s : Me) (x : Sc) (hx : GSl encC x t) (hl : t.length ≤ 1000000) (hnn : nn = t.length) (ht : TOK t) (hcl : CL s.ob s.nx x cid iu id iN nn p D N) (hp : ∀ i, i < nn → p i < nn) (hD : ∀ i, i < nn → D i < nn) (ho : ofAll t D F (List.range nn) (st0 p) = some st') : FnL Try.prog L 37 [.av (.ptr cid 0)] s fun r s' => ∃ ob', (r = .tup [.av (.sc (.sl nn ((List.range nn).map fun i => .int .i64 (st'.sz i : Int)))), vB st'.fine] ∧ ob' = upd s.ob iu (.cs (arrN nn st'.p) 0)) ∧ s' = ⟨ob', s.nx, s.ls⟩ := by
  refine FnL.pureE ?_
  obtain ⟨hi1, hi2, hi3, hi4⟩ := hcl.hi
  have hds := hcl.dist
  refine fn_of_body (ts := [2, 3]) Try.func37 bod37 rfl (by simp) (by simp [Try.ntmps37]) fun D0 => ?_
  unfold Try.f37
  simp only [Option.getD_some, initSl]
  refine aw_region_seq C (pb := false) rfl fun K hK => ?_
  repeat' (first | refine wy0 (h := ?_) | fail)
  refine awOps_nil (hK _ _ ?_)
  refine AW.less (sl' := [(0, .av (.ptr cid 0)), (1, .av (.ptr s.nx 0))]) (AllIn.less ⟨rfl, rfl, trivial⟩) ?_
  clear hK K
  obtain ⟨o0, ho0⟩ : ∃ o, o = upd (upd (upd (upd ((upd s.ob s.nx (.cs [.ptr cid 0] 0))) (s.nx + 8) (.cs (arrN nn fun _ => 0) 0)) (s.nx + 14) (.cs (arrN nn fun _ => 0) 0)) (s.nx + 15) (.cs [.sc .nilsl] 0)) (s.nx + 16) (.cs [.sc .nilsl] 0) := ⟨_, rfl⟩
  obtain ⟨o1, ho1⟩ : ∃ o, o = upd o0 (s.nx + 15) (.cs [.own (s.nx + 8) 0 nn 1] 0) := ⟨_, rfl⟩
  obtain ⟨o2, ho2⟩ : ∃ o, o = upd o1 (s.nx + 16) (.cs [.own (s.nx + 14) 0 nn 1] 0) := ⟨_, rfl⟩
  have ca : o0 s.nx = .cs [.ptr cid 0] 0 := by simp (disch := omega) only [ho0, upd_ne, upd_same]
  have cb : o0 cid = _ := (show o0 cid = s.ob cid from by simp (disch := omega) only [ho0, upd_ne, upd_same]).trans hcl.c
  have ca1 : o1 s.nx = .cs [.ptr cid 0] 0 := by simp (disch := omega) only [ho1, ho0, upd_ne, upd_same]
  have cb1 : o1 cid = _ := (show o1 cid = s.ob cid from by simp (disch := omega) only [ho1, ho0, upd_ne, upd_same]).trans hcl.c
  have ca2 : o2 s.nx = .cs [.ptr cid 0] 0 := by simp (disch := omega) only [ho2, ho1, ho0, upd_ne, upd_same]
  have cb2 : o2 cid = _ := (show o2 cid = s.ob cid from by simp (disch := omega) only [ho2, ho1, ho0, upd_ne, upd_same]).trans hcl.c
  have k80 : o0 (s.nx + 8) = .cs (arrN nn fun _ => 0) 0 := by simp (disch := omega) only [ho0, upd_ne, upd_same]
  have k81 : o1 (s.nx + 8) = .cs (arrN nn fun _ => 0) 0 := by simp (disch := omega) only [ho1, ho0, upd_ne, upd_same]
  have k82 : o2 (s.nx + 8) = .cs (arrN nn fun _ => 0) 0 := by simp (disch := omega) only [ho2, ho1, ho0, upd_ne, upd_same]
  have k140 : o0 (s.nx + 14) = .cs (arrN nn fun _ => 0) 0 := by simp (disch := omega) only [ho0, upd_ne, upd_same]
  have k141 : o1 (s.nx + 14) = .cs (arrN nn fun _ => 0) 0 := by simp (disch := omega) only [ho1, ho0, upd_ne, upd_same]
  have k142 : o2 (s.nx + 14) = .cs (arrN nn fun _ => 0) 0 := by simp (disch := omega) only [ho2, ho1, ho0, upd_ne, upd_same]
  have k150 : o0 (s.nx + 15) = .cs [.sc .nilsl] 0 := by simp (disch := omega) only [ho0, upd_ne, upd_same]
  have k160 : o0 (s.nx + 16) = .cs [.sc .nilsl] 0 := by simp (disch := omega) only [ho0, upd_ne, upd_same]
  have k161 : o1 (s.nx + 16) = .cs [.sc .nilsl] 0 := by simp (disch := omega) only [ho1, ho0, upd_ne, upd_same]
  refine aw_dra_seq C (pb := false) 16 [14, 15] [o0, o1, o2] rfl (by kernel_rfl) (by kernel_rfl) rfl (fun j hj => by simp (disch := omega) only [osL_0, ho0, upd_ne]) fun K hK => ?_
  iterate 5 (first | refine dra_yes [0] (by rfl) (by rfl) (by rfl) (by rfl) (by kernel_rfl) ⟨⟨_, by simp  only [go_sem, ↓reduceIte, Nat.reduceEqDiff, reduceCtorEq, Nat.reduceAdd, Nat.reduceMul, Nat.reduceLeDiff, osL_0, osL_1, osL_2, osL_3, osL_4, osL_5, osL_6, ldA ca, ldA cb, ldA ca1, ldA cb1, ldA ca2, ldA cb2, lenC hx, ← hnn, mk36 (show nn ≤ 1000000000 by omega), stA k150 (v := .av (.own (s.nx + 8) 0 nn 1)) rfl, stA k161 (v := .av (.own (s.nx + 14) 0 nn 1)) rfl, storeL]; (try exact rfl), fun _ => rfl⟩, trivial⟩ ?_ | refine dra_no (by rfl) (by rfl) (by rfl) ?_)
  refine dra_yes [0] (by rfl) (by rfl) (by rfl) (by rfl) (by kernel_rfl) ⟨⟨_, (by simp only [go_sem, ↓reduceIte, Nat.reduceEqDiff, reduceCtorEq, Nat.reduceAdd, Nat.reduceMul, Nat.reduceLeDiff, osL_0, osL_1, osL_2, osL_3, osL_4, osL_5, osL_6, ldA ca, ldA cb, ldA ca1, ldA cb1, ldA ca2, ldA cb2, lenC hx, ← hnn, mk36 (show nn ≤ 1000000000 by omega), stA k150 (v := .av (.own (s.nx + 8) 0 nn 1)) rfl, stA k161 (v := .av (.own (s.nx + 14) 0 nn 1)) rfl, storeL]; try exact rfl), fun j => upd_self k80 j⟩, trivial⟩ ?_
  iterate 5 (first | refine dra_yes [0, 1] (by rfl) (by rfl) (by rfl) (by rfl) (by kernel_rfl) ⟨⟨_, by simp  only [go_sem, ↓reduceIte, Nat.reduceEqDiff, reduceCtorEq, Nat.reduceAdd, Nat.reduceMul, Nat.reduceLeDiff, osL_0, osL_1, osL_2, osL_3, osL_4, osL_5, osL_6, ldA ca, ldA cb, ldA ca1, ldA cb1, ldA ca2, ldA cb2, lenC hx, ← hnn, mk36 (show nn ≤ 1000000000 by omega), stA k150 (v := .av (.own (s.nx + 8) 0 nn 1)) rfl, stA k161 (v := .av (.own (s.nx + 14) 0 nn 1)) rfl, storeL]; (try exact rfl), fun _ => rfl⟩, ⟨_, by simp  only [go_sem, ↓reduceIte, Nat.reduceEqDiff, reduceCtorEq, Nat.reduceAdd, Nat.reduceMul, Nat.reduceLeDiff, osL_0, osL_1, osL_2, osL_3, osL_4, osL_5, osL_6, ldA ca, ldA cb, ldA ca1, ldA cb1, ldA ca2, ldA cb2, lenC hx, ← hnn, mk36 (show nn ≤ 1000000000 by omega), stA k150 (v := .av (.own (s.nx + 8) 0 nn 1)) rfl, stA k161 (v := .av (.own (s.nx + 14) 0 nn 1)) rfl, storeL]; (try exact rfl), fun _ => rfl⟩, trivial⟩ ?_ | refine dra_no (by rfl) (by rfl) (by rfl) ?_)
  refine dra_yes [0, 1] (by rfl) (by rfl) (by rfl) (by rfl) (by kernel_rfl) ⟨⟨_, (by simp only [go_sem, ↓reduceIte, Nat.reduceEqDiff, reduceCtorEq, Nat.reduceAdd, Nat.reduceMul, Nat.reduceLeDiff, osL_0, osL_1, osL_2, osL_3, osL_4, osL_5, osL_6, ldA ca, ldA cb, ldA ca1, ldA cb1, ldA ca2, ldA cb2, lenC hx, ← hnn, mk36 (show nn ≤ 1000000000 by omega), stA k150 (v := .av (.own (s.nx + 8) 0 nn 1)) rfl, stA k161 (v := .av (.own (s.nx + 14) 0 nn 1)) rfl, storeL]; try exact rfl), fun j => upd_self k140 j⟩, ⟨_, (by simp only [go_sem, ↓reduceIte, Nat.reduceEqDiff, reduceCtorEq, Nat.reduceAdd, Nat.reduceMul, Nat.reduceLeDiff, osL_0, osL_1, osL_2, osL_3, osL_4, osL_5, osL_6, ldA ca, ldA cb, ldA ca1, ldA cb1, ldA ca2, ldA cb2, lenC hx, ← hnn, mk36 (show nn ≤ 1000000000 by omega), stA k150 (v := .av (.own (s.nx + 8) 0 nn 1)) rfl, stA k161 (v := .av (.own (s.nx + 14) 0 nn 1)) rfl, storeL]; try exact rfl), fun j => upd_self k141 j⟩, trivial⟩ ?_
  refine dra_yes [0] (by rfl) (by rfl) (by rfl) (by rfl) (by kernel_rfl) ⟨⟨_, (by simp only [go_sem, ↓reduceIte, Nat.reduceEqDiff, reduceCtorEq, Nat.reduceAdd, Nat.reduceMul, Nat.reduceLeDiff, osL_0, osL_1, osL_2, osL_3, osL_4, osL_5, osL_6, ldA ca, ldA cb, ldA ca1, ldA cb1, ldA ca2, ldA cb2, lenC hx, ← hnn, mk36 (show nn ≤ 1000000000 by omega), stA k150 (v := .av (.own (s.nx + 8) 0 nn 1)) rfl, stA k161 (v := .av (.own (s.nx + 14) 0 nn 1)) rfl, storeL]; try exact rfl), fun j => upd_self k150 j⟩, trivial⟩ ?_
  refine dra_yes [0] (by rfl) (by rfl) (by rfl) (by rfl) (by kernel_rfl) ⟨⟨_, (by simp only [go_sem, ↓reduceIte, Nat.reduceEqDiff, reduceCtorEq, Nat.reduceAdd, Nat.reduceMul, Nat.reduceLeDiff, osL_0, osL_1, osL_2, osL_3, osL_4, osL_5, osL_6, ldA ca, ldA cb, ldA ca1, ldA cb1, ldA ca2, ldA cb2, lenC hx, ← hnn, mk36 (show nn ≤ 1000000000 by omega), stA k150 (v := .av (.own (s.nx + 8) 0 nn 1)) rfl, stA k161 (v := .av (.own (s.nx + 14) 0 nn 1)) rfl, storeL]; try exact rfl), fun j => upd_self k160 j⟩, trivial⟩ ?_
  refine dra_eff0 (by rfl) (by rfl) (by rfl) (by rfl) (by simp  only [go_sem, ↓reduceIte, Nat.reduceEqDiff, reduceCtorEq, Nat.reduceAdd, Nat.reduceMul, Nat.reduceLeDiff, osL_0, osL_1, osL_2, osL_3, osL_4, osL_5, osL_6, ldA ca, ldA cb, ldA ca1, ldA cb1, ldA ca2, ldA cb2, lenC hx, ← hnn, mk36 (show nn ≤ 1000000000 by omega), stA k150 (v := .av (.own (s.nx + 8) 0 nn 1)) rfl, stA k161 (v := .av (.own (s.nx + 14) 0 nn 1)) rfl, storeL]; exact rfl) (fun j => (congrFun ho1 j).symm) ⟨Nat.le_refl _, rfl⟩ ?_
  refine dra_eff0 (by rfl) (by rfl) (by rfl) (by rfl) (by simp  only [go_sem, ↓reduceIte, Nat.reduceEqDiff, reduceCtorEq, Nat.reduceAdd, Nat.reduceMul, Nat.reduceLeDiff, osL_0, osL_1, osL_2, osL_3, osL_4, osL_5, osL_6, ldA ca, ldA cb, ldA ca1, ldA cb1, ldA ca2, ldA cb2, lenC hx, ← hnn, mk36 (show nn ≤ 1000000000 by omega), stA k150 (v := .av (.own (s.nx + 8) 0 nn 1)) rfl, stA k161 (v := .av (.own (s.nx + 14) 0 nn 1)) rfl, storeL]; exact rfl) (fun j => (congrFun ho2 j).symm) ⟨Nat.le_refl _, rfl⟩ ?_
  refine dra_nil (hK _ ?_)
  simp only [osL_0, osL_1, osL_2, osL_3, osL_4, osL_5, osL_6, List.length_cons, List.length_nil, Nat.reduceAdd]
  refine AW.less (sl' := [(1, .av (.ptr s.nx 0)), (4, .av (.ptr (s.nx + 15) 0)), (5, .av (.ptr (s.nx + 16) 0))]) (AllIn.less ⟨rfl, rfl, rfl, trivial⟩) ?_
  clear hK K
  obtain ⟨q0, hq0⟩ : ∃ o, o = upd (upd (o2) (s.nx + 21) (.cs [.sc (.bool false)] 0)) (s.nx + 22) (.cs [.sc .nilfn] 0) := ⟨_, rfl⟩
  obtain ⟨q1, hq1⟩ : ∃ o, o = upd q0 (s.nx + 21) (.cs [.sc (.bool true)] 0) := ⟨_, rfl⟩
  obtain ⟨q2, hq2⟩ : ∃ o, o = upd q1 (s.nx + 22) (.cs [.fn 38 [.ptr cid 0] []] 0) := ⟨_, rfl⟩
  have da0 : q0 s.nx = .cs [.ptr cid 0] 0 := (show q0 s.nx = o2 s.nx from by simp (disch := omega) only [hq0, upd_ne, upd_same]).trans ca2
  have da1 : q1 s.nx = .cs [.ptr cid 0] 0 := (show q1 s.nx = o2 s.nx from by simp (disch := omega) only [hq1, hq0, upd_ne, upd_same]).trans ca2
  have da2 : q2 s.nx = .cs [.ptr cid 0] 0 := (show q2 s.nx = o2 s.nx from by simp (disch := omega) only [hq2, hq1, hq0, upd_ne, upd_same]).trans ca2
  have k210 : q0 (s.nx + 21) = .cs [.sc (.bool false)] 0 := by simp (disch := omega) only [hq0, upd_ne, upd_same]
  have k220 : q0 (s.nx + 22) = .cs [.sc .nilfn] 0 := by simp (disch := omega) only [hq0, upd_ne, upd_same]
  have k221 : q1 (s.nx + 22) = .cs [.sc .nilfn] 0 := by simp (disch := omega) only [hq1, hq0, upd_ne, upd_same]
  refine aw_dra_seq C (pb := false) 6 [4, 5] [q0, q1, q2] rfl (by kernel_rfl) (by kernel_rfl) rfl (fun j hj => by simp (disch := omega) only [osL_0, hq0, upd_ne]) fun K hK => ?_
  iterate 2 (first | refine dra_yes [0, 1] (by rfl) (by rfl) (by rfl) (by rfl) (by kernel_rfl) ⟨⟨_, by simp  only [go_sem, ↓reduceIte, Nat.reduceEqDiff, reduceCtorEq, Nat.reduceAdd, Nat.reduceMul, Nat.reduceLeDiff, aLoad, aStore, osL_0, osL_1, osL_2, osL_3, osL_4, osL_5, osL_6, da0, da1, da2, avs, k210, k220, k221, storeL]; (try exact rfl), fun _ => rfl⟩, ⟨_, by simp  only [go_sem, ↓reduceIte, Nat.reduceEqDiff, reduceCtorEq, Nat.reduceAdd, Nat.reduceMul, Nat.reduceLeDiff, aLoad, aStore, osL_0, osL_1, osL_2, osL_3, osL_4, osL_5, osL_6, da0, da1, da2, avs, k210, k220, k221, storeL]; (try exact rfl), fun _ => rfl⟩, trivial⟩ ?_ | refine dra_no (by rfl) (by rfl) (by rfl) ?_)
  refine dra_yes [0] (by rfl) (by rfl) (by rfl) (by rfl) (by kernel_rfl) ⟨⟨_, (by simp only [go_sem, ↓reduceIte, Nat.reduceEqDiff, reduceCtorEq, Nat.reduceAdd, Nat.reduceMul, Nat.reduceLeDiff, aLoad, aStore, osL_0, osL_1, osL_2, osL_3, osL_4, osL_5, osL_6, da0, da1, da2, avs, k210, k220, k221, storeL]; try exact rfl), fun j => upd_self k210 j⟩, trivial⟩ ?_
  refine dra_yes [0] (by rfl) (by rfl) (by rfl) (by rfl) (by kernel_rfl) ⟨⟨_, (by simp only [go_sem, ↓reduceIte, Nat.reduceEqDiff, reduceCtorEq, Nat.reduceAdd, Nat.reduceMul, Nat.reduceLeDiff, aLoad, aStore, osL_0, osL_1, osL_2, osL_3, osL_4, osL_5, osL_6, da0, da1, da2, avs, k210, k220, k221, storeL]; try exact rfl), fun j => upd_self k220 j⟩, trivial⟩ ?_
  refine dra_eff0 (by rfl) (by rfl) (by rfl) (by rfl) (by simp  only [go_sem, ↓reduceIte, Nat.reduceEqDiff, reduceCtorEq, Nat.reduceAdd, Nat.reduceMul, Nat.reduceLeDiff, aLoad, aStore, osL_0, osL_1, osL_2, osL_3, osL_4, osL_5, osL_6, da0, da1, da2, avs, k210, k220, k221, storeL]; exact rfl) (fun j => (congrFun hq1 j).symm) ⟨Nat.le_refl _, rfl⟩ ?_
  refine dra_eff0 (by rfl) (by rfl) (by rfl) (by rfl) (by simp  only [go_sem, ↓reduceIte, Nat.reduceEqDiff, reduceCtorEq, Nat.reduceAdd, Nat.reduceMul, Nat.reduceLeDiff, aLoad, aStore, osL_0, osL_1, osL_2, osL_3, osL_4, osL_5, osL_6, da0, da1, da2, avs, k210, k220, k221, storeL]; exact rfl) (fun j => (congrFun hq2 j).symm) ⟨Nat.le_refl _, rfl⟩ ?_
  refine dra_nil (hK _ ?_)
  simp only [osL_0, osL_1, osL_2, osL_3, osL_4, osL_5, osL_6, List.length_cons, List.length_nil, Nat.reduceAdd]
  refine AW.less (sl' := [(1, .av (.ptr s.nx 0)), (4, .av (.ptr (s.nx + 15) 0)), (5, .av (.ptr (s.nx + 16) 0)), (6, .av (.ptr (s.nx + 21) 0)), (7, .av (.ptr (s.nx + 22) 0))]) (AllIn.less ⟨rfl, rfl, rfl, rfl, rfl, trivial⟩) ?_
  clear hK K
  refine aw_region_seq C (pb := false) rfl fun K hK => ?_
  repeat' (first | refine wy0 (h := ?_) | fail)
  refine awOps_nil (hK _ _ ?_)
  clear hK K
  refine aw_region_seq C (pb := false) rfl fun K hK => ?_
  repeat' (first | refine wy1 (a := by simp only [go_sem, ↓reduceIte, Nat.reduceEqDiff, reduceCtorEq, Nat.reduceAdd, Nat.reduceMul, Nat.reduceLeDiff, aLoad, aStore, avs, upd_same, storeL]; exact rfl) (h := ?_) | refine wz1 (a := by simp only [go_sem, ↓reduceIte, Nat.reduceEqDiff, reduceCtorEq, Nat.reduceAdd, Nat.reduceMul, Nat.reduceLeDiff, aLoad, aStore, avs, upd_same, storeL]; exact rfl) (h := ?_) | fail)
  refine awOps_nil (hK _ _ ?_)
  refine AW.less (sl' := [(1, .av (.ptr s.nx 0)), (4, .av (.ptr (s.nx + 15) 0)), (6, .av (.ptr (s.nx + 21) 0)), (8, .av (.ptr (s.nx + 25) 0))]) (AllIn.less ⟨rfl, rfl, rfl, rfl, trivial⟩) ?_
  refine aw_state (J := fun s4 => SZ s4.ob s4.nx x nn D N (szI cid iu id iN s.nx) (st0 p) ∧ (∀ j, j < s.nx → s4.ob j = s.ob j) ∧ s4.ls = s.ls ∧ s.nx ≤ s4.nx) ?_ fun s4 hJ4 => ?_
  · have hh : ∀ j, j < s.nx → (upd (upd q2 (s.nx + 25) (.cs [.sc .nilfn] 0)) (s.nx + 25) (.cs [(szI cid iu id iN s.nx).clo] 0)) j = s.ob j := fun j hj => by simp (disch := omega) only [upd_ne, hq2, hq1, hq0, ho2, ho1, ho0]
    exact ⟨⟨hcl.frame (by dsimp only; omega) hh, by simp (disch := omega) only [szI, st0, hq2, hq1, hq0, ho2, ho1, ho0, upd_ne, upd_same], by simp (disch := omega) only [szI, st0, hq2, hq1, hq0, ho2, ho1, ho0, upd_ne, upd_same], by simp (disch := omega) only [szI, st0, hq2, hq1, hq0, ho2, ho1, ho0, upd_ne, upd_same], by simp (disch := omega) only [szI, st0, hq2, hq1, hq0, ho2, ho1, ho0, upd_ne, upd_same], by simp (disch := omega) only [szI, st0, hq2, hq1, hq0, ho2, ho1, ho0, upd_ne, upd_same], by simp (disch := omega) only [szI, st0, hq2, hq1, hq0, ho2, ho1, ho0, upd_ne, upd_same], by simp (disch := omega) only [szI, st0, hq2, hq1, hq0, ho2, ho1, ho0, upd_ne, upd_same], upd_same _ _ _, by simp only [szI]; omega⟩, hh, rfl, by dsimp only; omega⟩
  obtain ⟨Z4, h4o, h4l, h4n⟩ := hJ4
  have hz4 : KZ (szI cid iu id iN s.nx) nn s4 (st0 p) s4 := ⟨Nat.le_refl _, fun j _ => (Z4.self j).symm, rfl⟩
  clear hK K
  refine aw_seq ?_
  refine aw_region_seq C (pb := false) rfl fun K hK => ?_
  repeat' (first | refine wy1 (a := by simp only [go_sem, ↓reduceIte, Nat.reduceEqDiff, reduceCtorEq, Nat.reduceAdd, Nat.reduceMul, Nat.reduceLeDiff, aLoad, aStore, show s4.ob s.nx = .cs [.ptr cid 0] 0 from Z4.bc, show s4.ob cid = .cs [.sc x, .own iu 0 nn 1, .own id 0 nn 1, .own iN 0 nn 1] 0 from Z4.cl.c, lenC hx, ← hnn]; exact rfl) (h := ?_) | fail)
  refine awOps_nil (hK _ _ ?_)
  clear hK K
  refine aw_block ?_
  refine AW.less (sl' := [(1, .av (.ptr s.nx 0)), (4, .av (.ptr (s.nx + 15) 0)), (6, .av (.ptr (s.nx + 21) 0)), (8, .av (.ptr (s.nx + 25) 0)), (29, vI nn), (30, vI (0))]) (AllIn.less ⟨rfl, rfl, rfl, rfl, rfl, rfl, trivial⟩) (aw_loop (fun k sl1 s1 => ∃ (i : Nat) (sj : SzS), k = nn - i ∧ sl1 = [(1, .av (.ptr s.nx 0)), (4, .av (.ptr (s.nx + 15) 0)), (6, .av (.ptr (s.nx + 21) 0)), (8, .av (.ptr (s.nx + 25) 0)), (29, vI nn), (30, vI (i))] ∧ (KZ (szI cid iu id iN s.nx) nn s4 sj s1) ∧ (i ≤ nn ∧ (∀ j, j < nn → sj.p j < nn) ∧ ∀ j, sj.sz j ≤ 201) ∧ (ofAll t D F ((List.range nn).drop i) sj = some st')) (k := nn - (0)) ⟨0, st0 p, rfl, rfl, hz4.frame (by first | omega | (dsimp only; omega) | (dsimp only at *; omega)) fun _ _ => rfl, ⟨Nat.zero_le _, hp, fun _ => Nat.zero_le _⟩, by rw [List.drop_zero]; exact ho⟩ ?_)
  rintro k1 _ s1 ⟨i, sj, hk1, rfl, hs1, hb, h3⟩
  have Z1 := Z4.to (nx' := s1.nx) hs1.1 hs1.2.1
  refine aw_region_seq C (pb := false) rfl fun K hK => ?_
  repeat' (first | refine wy0 (h := ?_) | fail)
  refine awOps_nil (hK _ _ ?_)
  clear hK K
  refine aw_seq ?_
  refine aw_cond (by rfl) ?_ ?_
  · intro hc0
    try simp only [decide_eq_true_eq, decide_eq_false_iff_not] at hc0
    have hi : i < nn := by omega
    rw [List.drop_eq_getElem_cons (by rw [List.length_range]; exact hi), List.getElem_range, ofAll] at h3
    obtain ⟨⟨n6, sk⟩, ho6⟩ : ∃ r, ofF t D F sj i = some r := by
      cases h : ofF t D F sj i with
      | none => rw [h] at h3; cases h3
      | some r => exact ⟨r, rfl⟩
    rw [ho6] at h3
    dsimp only at h3
    obtain ⟨q1, q2, q3⟩ := ofF_inv ht hnn hD ho6 hi hb.2.1 hb.2.2
    refine aw_skip ?_
    simp only [thenA_normal, thenA_ret, thenA_exit, blockA_normal, blockA_ret, blockA_exit, ↓reduceIte, Nat.reduceEqDiff]
    refine aw_seq ?_
    refine aw_block ?_
    refine aw_region_seq C (pb := false) rfl fun K hK => ?_
    repeat' (first | refine wy0 (h := ?_) | fail)
    refine awOps_nil (hK _ _ ?_)
    clear hK K
    refine aw_region C (pb := false) rfl ?_
    repeat' (first | refine wy1 (a := by simp only [go_sem, ↓reduceIte, Nat.reduceEqDiff, reduceCtorEq, Nat.reduceAdd, Nat.reduceMul, Nat.reduceLeDiff, ldA (show s1.ob (s.nx + 25) = .cs [(szI cid iu id iN s.nx).clo] 0 from Z1.bof), SzI.clo, szI]; exact rfl) (h := ?_) | fail)
    refine wc (And.intro Try.call65 (fn65 hx hl hnn ht hD F L _ (szI cid iu id iN s.nx) sj sk i n6 (Z1.to (nx' := s1.nx + 6) (by omega) fun j _ => (Z1.self j).symm) hi hb.2.1 hb.2.2 ho6)) ?_
    rintro _ _ ⟨rfl, rfl⟩
    refine awOps_nil ?_
    try simp only [thenA_normal, thenA_ret, thenA_exit, blockA_normal, blockA_ret, blockA_exit]
    refine aw_region C (pb := false) rfl ?_
    repeat' (first | refine wy1 (a := by simp only [go_sem, ↓reduceIte, Nat.reduceEqDiff, reduceCtorEq, Nat.reduceAdd, Nat.reduceMul, Nat.reduceLeDiff, aLoad, aStore, wrap_small ((i : Int) + 1) (by omega) (by omega)]; exact rfl) (h := ?_) | fail)
    refine awOps_nil ?_
    try simp only [thenA_normal, thenA_ret, thenA_exit, blockA_normal, blockA_ret, blockA_exit]
    -- end of round 0 at 0t
    refine ⟨nn - (i + 1), [(1, .av (.ptr s.nx 0)), (4, .av (.ptr (s.nx + 15) 0)), (6, .av (.ptr (s.nx + 21) 0)), (8, .av (.ptr (s.nx + 25) 0)), (29, vI nn), (30, vI (i + 1))], by omega, AllIn.less ⟨rfl, rfl, rfl, rfl, rfl, rfl, trivial⟩, i + 1, sk, rfl, rfl, ?_, ?_, ?_⟩
    · exact ⟨by have := hs1.1; dsimp only at this ⊢; omega, fun j hj => (szOb_at (hs1.2.1 j hj)).trans (congrFun szOb_two j), hs1.2.2⟩
    · exact ⟨by omega, q1, q2⟩
    · exact h3
  · intro hc0
    try simp only [decide_eq_true_eq, decide_eq_false_iff_not] at hc0
    have hin : i = nn := by omega
    rw [List.drop_of_length_le (by rw [List.length_range]; omega), ofAll, Option.some.injEq] at h3
    subst h3
    have Z9 := Z1
    refine aw_exit ?_
    simp only [thenA_normal, thenA_ret, thenA_exit, blockA_normal, blockA_ret, blockA_exit, ↓reduceIte, Nat.reduceEqDiff]
    refine aw_sil_seq C (pb := false) 4 _ rfl (by kernel_rfl) rfl (fun _ _ => rfl) fun K hK => ?_
    repeat' (first | refine ws1 (a := by simp only [go_sem, ↓reduceIte, Nat.reduceEqDiff, reduceCtorEq, Nat.reduceAdd, Nat.reduceMul, Nat.reduceLeDiff, aLoad, aStore, show s1.ob (s.nx + 15) = .cs [.own (s.nx + 8) 0 nn 1] 0 from Z1.bsz, show s1.ob (s.nx + 21) = .cs [.sc (.bool sj.fine)] 0 from Z1.bf]; exact rfl) (h := ?_) | fail)
    refine sil_nil (hK _ ?_)
    refine AW.less (sl' := [(2, .av (.own (s.nx + 8) 0 nn 1)), (3, vB sj.fine)]) (AllIn.less ⟨rfl, rfl, trivial⟩) ?_
    refine aw_pur 2 (arr_pure (show s1.ob (s.nx + 8) = .cs (arrN nn sj.sz) 0 from Z1.sz)) ?_
    clear hK K
    refine aw_ret ?_
    simp only [go_sem, ↓reduceIte, Nat.reduceEqDiff, reduceCtorEq, Nat.reduceAdd, Nat.reduceMul, Nat.reduceLeDiff, aLoad, aStore, FnQ, resA]
    -- 0f.x0.ret
    refine fun _ => ⟨by first | rfl | trivial, hs1.2.2.trans h4l, upd s.ob iu (.cs (arrN nn sj.p) 0), fun j hj => ?_, fun j _ => upd_plain arrN_plain j, by first | rfl | exact ⟨rfl, rfl⟩ | exact ⟨⟨trivial, trivial⟩, trivial⟩ | simp⟩
    refine (upd_ne _ _ (by omega)).trans ((hs1.2.1 j (by dsimp only; omega)).trans ?_)
    show upd (upd (upd (upd s4.ob iu _) (s.nx + 14) _) (s.nx + 8) _) (s.nx + 21) _ j = _
    rw [upd_ne _ _ (by omega), upd_ne _ _ (by omega), upd_ne _ _ (by omega)]
    by_cases h' : j = iu
    · rw [h', upd_same, upd_same]
    · rw [upd_ne _ _ h', upd_ne _ _ h', h4o j hj]
end Go.Am.Seat
/-
  MADE BY PROGRAM (am.py): the walks of functions 39.
-/
namespace Go.Am.Seat
open Go.Proofs

def noNm : ByteArray := ⟨#[]⟩
def varCell (n : Int) : Cell := ⟨1, noNm, n⟩
def termL (f : (Nat → Nat) → Nat → Option (List Cell × (Nat → Nat))) : List Nat → (Nat → Nat) → List Cell → Option (List Cell × (Nat → Nat))
  | [], p, out => some (out, p)
  | q :: l, p, out => match f p q with
    | none => none
    | some (c, p') => termL f l p' (out ++ c)
/-- A class's term. -/
def termF (t : List Cell) (D N : Nat → Int) : Nat → (Nat → Nat) → Nat → Option (List Cell × (Nat → Nat))
  | 0, _, _ => none
  | F + 1, p, a => match own1 F p a with
    | none => none
    | some (x, p1) => if D x < 0 then some ([varCell (N x)], p1) else match t[(D x).toNat]? with
      | none => none
      | some c => termL (termF t D N F) (partsN t (D x).toNat) p1 [c]
theorem termL_len {f : (Nat → Nat) → Nat → Option (List Cell × (Nat → Nat))} : ∀ {ls : List Nat} {p p' : Nat → Nat} {out l : List Cell}, termL f ls p out = some (l, p') → out.length ≤ l.length
  | [], p, p', out, l, h => by simp only [termL, Option.some.injEq, Prod.mk.injEq] at h; rw [h.1]; exact Nat.le_refl _
  | q :: ls, p, p', out, l, h => by
    simp only [termL] at h
    split at h
    · cases h
    · have := termL_len h
      rw [List.length_append] at this
      omega
theorem termF_pos {t : List Cell} {D N : Nat → Int} {F : Nat} {p p' : Nat → Nat} {a : Nat} {l : List Cell} (h : termF t D N F p a = some (l, p')) : 0 < l.length := by
  cases F with
  | zero => simp [termF] at h
  | succ F =>
    simp only [termF] at h
    split at h
    · cases h
    · split at h
      · simp only [Option.some.injEq, Prod.mk.injEq] at h; rw [← h.1]; simp
      · split at h
        · cases h
        · have := termL_len h
          simp only [List.length_cons, List.length_nil] at this
          omega
theorem termL_inv {nn : Nat} {f : (Nat → Nat) → Nat → Option (List Cell × (Nat → Nat))} (hf : ∀ p a l p', f p a = some (l, p') → a < nn → (∀ i, i < nn → p i < nn) → ∀ i, i < nn → p' i < nn) :
    ∀ {ls : List Nat} {p p' : Nat → Nat} {out l : List Cell}, termL f ls p out = some (l, p') → (∀ q ∈ ls, q < nn) → (∀ i, i < nn → p i < nn) → ∀ i, i < nn → p' i < nn
  | [], p, p', out, l, h, _, h1 => by simp only [termL, Option.some.injEq, Prod.mk.injEq] at h; rw [← h.2]; exact h1
  | q :: ls, p, p', out, l, h, hq, h1 => by
    simp only [termL] at h
    split at h
    · cases h
    · rename_i c p1 h2
      exact termL_inv hf h (fun q hq' => hq q (by simp [hq'])) (hf _ _ _ _ h2 (hq q (by simp)) h1)
theorem termF_inv {t : List Cell} {D N : Nat → Int} {nn : Nat} (ht : TOK t) (hnn : nn = t.length) (hD : ∀ i, i < nn → D i < nn) : ∀ {F : Nat} {p p' : Nat → Nat} {a : Nat} {l : List Cell}, termF t D N F p a = some (l, p') → a < nn → (∀ i, i < nn → p i < nn) → ∀ i, i < nn → p' i < nn
  | 0, _, _, _, _, h, _, _ => by simp [termF] at h
  | F + 1, p, p', a, l, h, ha, hp => by
    simp only [termF] at h
    split at h
    · cases h
    · rename_i x p1 h3
      obtain ⟨hx, hp1⟩ := own1_lt h3 ha hp
      split at h
      · simp only [Option.some.injEq, Prod.mk.injEq] at h; rw [← h.2]; exact hp1
      · split at h
        · cases h
        · exact termL_inv (fun _ _ _ _ h => termF_inv ht hnn hD h) h (fun q hq => by rw [hnn]; exact (partsN_lt ht (by have := hD x hx; omega) q hq).1) hp1
def celC (l : List Cell) : List Av := (l.flatMap encC).map .sc
theorem celC_len (l : List Cell) : (celC l).length = l.length * 3 := by rw [celC, List.length_map, flat_len (k := 3) (fun _ => rfl)]
theorem celC_app (a b : List Cell) : celC (a ++ b) = celC a ++ celC b := by simp [celC]
theorem celC_noyl {l : List Cell} {fz : Nat} : (Obj.cs (celC l) fz).noyl = true := by simp [Obj.noyl, celC, Av.noyl]
@[reducible] def vC (l : List Cell) : Va := .av (.sc (.sl l.length (l.flatMap encC)))
theorem appC {ob : Nat → Obj} {nid id : Nat} {out l : List Cell} (h : ob id = .cs (celC out) 0) (hl : 0 < l.length) (hn : out.length + l.length ≤ 1000000000) :
    aAppend T ob nid 22 (.av (.own id 0 out.length 3)) (vC l) = some (.av (.own nid 0 (out ++ l).length 3), upd (upd ob id .dead) nid (.cs (celC (out ++ l)) 0)) := by
  unfold aAppend
  have e : (l.flatMap encC).length = l.length * 3 := flat_len (k := 3) (fun _ => rfl) l
  simp only [T22, Option.bind_some, y22, T42, aSrc, vC]
  rw [if_pos (by rw [e]; simp [y42])]
  simp only [Option.bind_some]
  rw [if_neg (by simp [y42])]
  simp only [h]
  rw [if_pos ⟨by simp [y42], by rw [celC_len]; omega, by omega, by omega⟩, if_neg (by omega)]
  simp only [List.drop_zero, Nat.zero_sub, List.length_append]
  rw [List.take_of_length_le (by rw [celC_len]; exact Nat.le_refl _), celC_app]
  rfl
theorem celC_pure {ob : Nat → Obj} {id : Nat} {l : List Cell} (h : ob id = .cs (celC l) 0) : purV ob (.av (.own id 0 l.length 3)) = some (vC l, upd ob id (.cs (celC l) (max 0 (0 + l.length * 3)))) := by
  simp only [purV, purD, pur, h]
  rw [if_pos (by rw [celC_len]; omega), List.drop_zero, List.take_of_length_le (by rw [celC_len]; exact Nat.le_refl _)]
  rw [show purL (pur 3) _ (celC l) = _ from purL_plain (fun ob s => by simp [pur]) _ _]
  rfl
theorem gslC (l : List Cell) : GSl encC (.sl l.length (l.flatMap encC)) l := .inr rfl
def Of39 (t : List Cell) (x : Sc) (nn : Nat) (D N : Nat → Int) (F : Nat) : Prop := ∀ (L : Loops) (s : Me) (cid iu id iN a : Nat) (p p' : Nat → Nat) (l : List Cell), CL s.ob s.nx x cid iu id iN nn p D N → a < nn → (∀ i, i < nn → p i < nn) → l.length ≤ 1000000 → termF t D N F p a = some (l, p') →
  FnL Try.prog L 39 [.av (.ptr cid 0), vI (a : Nat)] s fun r s' => r = vC l ∧ s' = ⟨upd s.ob iu (.cs (arrN nn p') 0), s.nx, s.ls⟩

-- many steps
theorem bod39 : Try.f39.body = some (Try.f39.body.getD .skip) := rfl
set_option maxHeartbeats 4000000 in
theorem fn39s (L : Loops) (F nn a : Nat) (t : List Cell) (p p' : Nat → Nat) (D N : Nat → Int) (cid iu id iN : Nat) (l : List Cell) (s : Me) (x : Sc) (hx : GSl encC x t) (hl : t.length ≤ 1000000) (hnn : nn = t.length) (ht : TOK t) (hD : ∀ i, i < nn → D i < nn) (ih : Of39 t x nn D N F) (hcl : CL s.ob s.nx x cid iu id iN nn p D N) (ha : a < nn) (hp : ∀ i, i < nn → p i < nn) (hll : l.length ≤ 1000000) (ho : termF t D N (F + 1) p a = some (l, p')) : FnL Try.prog L 39 [.av (.ptr cid 0), vI (a : Nat)] s fun r s' => r = vC l ∧ s' = ⟨upd s.ob iu (.cs (arrN nn p') 0), s.nx, s.ls⟩ := by
  refine FnL.pureM (R := fun r => r = vC l) (upd s.ob iu (.cs (arrN nn p') 0)) (fun i _ => upd_plain arrN_plain i) ?_
  obtain ⟨hi1, hi2, hi3, hi4⟩ := hcl.hi
  have hds := hcl.dist
  simp only [termF] at ho
  obtain ⟨⟨xr, p1⟩, ho1⟩ : ∃ r, own1 F p a = some r := by
    cases h : own1 F p a with
    | none => rw [h] at ho; cases ho
    | some r => exact ⟨r, rfl⟩
  rw [ho1] at ho
  dsimp only at ho
  obtain ⟨hx1, hp1⟩ := own1_lt ho1 ha hp
  refine fn_of_body (ts := [4]) Try.func39 bod39 rfl (by simp) (by simp [Try.ntmps39]) fun D0 => ?_
  unfold Try.f39
  simp only [Option.getD_some, initSl]
  refine aw_region_seq C (pb := false) rfl fun K hK => ?_
  repeat' (first | refine wy0 (h := ?_) | fail)
  refine awOps_nil (hK _ _ ?_)
  clear hK K
  refine aw_region_seq C (pb := false) rfl fun K hK => ?_
  repeat' (first | refine wy1 (a := by simp only [go_sem, ↓reduceIte, Nat.reduceEqDiff, reduceCtorEq, Nat.reduceAdd, Nat.reduceMul, Nat.reduceLeDiff, ldA (upd_same s.ob s.nx (.cs [.ptr cid 0] 0))]; exact rfl) (h := ?_) | fail)
  refine wc (And.intro Try.call38 (fn38 L F nn a xr p p1 cid iu (.sc x) (.own id 0 nn 1) (.own iN 0 nn 1) _ (by dsimp only; omega) (by dsimp only; omega) hds.1 ((upd_ne _ _ (by omega)).trans hcl.c) ((upd_ne _ _ (by omega)).trans hcl.u) ha hp ho1)) ?_
  rintro _ _ ⟨rfl, rfl⟩
  repeat' (first | refine wy1 (a := by simp only [go_sem, ↓reduceIte, Nat.reduceEqDiff, reduceCtorEq, Nat.reduceAdd, Nat.reduceMul, Nat.reduceLeDiff, ldA (upd_same s.ob s.nx (.cs [.ptr cid 0] 0))]; exact rfl) (h := ?_) | fail)
  refine awOps_nil (hK _ _ ?_)
  refine AW.less (sl' := [(2, .av (.ptr s.nx 0)), (1, vI (xr : Nat))]) (AllIn.less ⟨rfl, rfl, trivial⟩) ?_
  refine aw_state (J := fun s2 => CL s2.ob s.nx x cid iu id iN nn p1 D N ∧ s2.ob s.nx = .cs [.ptr cid 0] 0 ∧ s.nx < s2.nx ∧ (∀ j, j < s.nx → s2.ob j = upd s.ob iu (.cs (arrN nn p1) 0) j) ∧ s2.ls = s.ls) ⟨(hcl.frame (nx' := s.nx) (Nat.le_refl _) (fun j hj => upd_ne _ _ (by omega))).setU p1, (upd_ne _ _ (by omega)).trans (upd_same _ _ _), by dsimp only; omega, fun j hj => ?_, rfl⟩ fun s2 hJ2 => ?_
  · show upd (upd s.ob s.nx _) iu _ j = upd s.ob iu _ j
    by_cases h' : j = iu
    · rw [h', upd_same, upd_same]
    · rw [upd_ne _ _ h', upd_ne _ _ h', upd_ne _ _ (by omega)]
  obtain ⟨Z2, hb2, hn2, ho2, hl2⟩ := hJ2
  clear hK K
  refine aw_region_seq C (pb := false) rfl fun K hK => ?_
  repeat' (first | refine wy1 (a := by simp only [go_sem, ↓reduceIte, Nat.reduceEqDiff, reduceCtorEq, Nat.reduceAdd, Nat.reduceMul, Nat.reduceLeDiff, ldA hb2, ldA Z2.c, ixO hx1, ldO Z2.d hx1]; exact rfl) (h := ?_) | fail)
  refine awOps_nil (hK _ _ ?_)
  refine AW.less (sl' := [(2, .av (.ptr s.nx 0)), (1, vI (xr : Nat)), (5, vI (D xr))]) (AllIn.less ⟨rfl, rfl, rfl, trivial⟩) ?_
  clear hK K
  refine aw_seq ?_
  refine aw_region_seq C (pb := false) rfl fun K hK => ?_
  repeat' (first | refine wy0 (h := ?_) | fail)
  refine awOps_nil (hK _ _ ?_)
  clear hK K
  refine aw_cond (by rfl) ?_ ?_
  · intro hc0
    try simp only [decide_eq_true_eq, decide_eq_false_iff_not] at hc0
    have hc0' : D xr < 0 := hc0
    rw [if_pos hc0'] at ho
    refine aw_region_seq C (pb := false) rfl fun K hK => ?_
    repeat' (first | refine wy1 (a := by simp only [go_sem, ↓reduceIte, Nat.reduceEqDiff, reduceCtorEq, Nat.reduceAdd, Nat.reduceMul, Nat.reduceLeDiff, ldA hb2, ldA Z2.c, ixO hx1, ldO Z2.n hx1, pl41]; exact rfl) (h := ?_) | fail)
    refine awOps_nil (hK _ _ ?_)
    refine AW.less (sl' := [(4, .av (.own (s2.nx + 18) 0 1 3))]) (AllIn.less ⟨rfl, trivial⟩) ?_
    refine aw_pur 4 (celC_pure (l := [varCell (N xr)]) (upd_same _ _ _)) ?_
    clear hK K
    refine aw_ret ?_
    try simp only [thenA_normal, thenA_ret, thenA_exit, blockA_normal, blockA_ret, blockA_exit]
    simp only [go_sem, ↓reduceIte, Nat.reduceEqDiff, reduceCtorEq, Nat.reduceAdd, Nat.reduceMul, Nat.reduceLeDiff, aLoad, aStore, FnQ, resA]
    -- 0t.ret
    simp only [Option.some.injEq, Prod.mk.injEq] at ho
    obtain ⟨rfl, rfl⟩ := ho
    exact fun _ => ⟨rfl, fun j hj => (upd_ne _ _ (by omega)).trans ((upd_ne _ _ (by omega)).trans (ho2 j hj)), hl2, by first | rfl | trivial⟩
  · intro hc0
    try simp only [decide_eq_true_eq, decide_eq_false_iff_not] at hc0
    have hc0' : ¬ D xr < 0 := hc0
    rw [if_neg hc0'] at ho
    obtain ⟨dx, hdx⟩ : ∃ d : Nat, D xr = (d : Int) := ⟨(D xr).toNat, by omega⟩
    have hdx1 : dx < t.length := by have := hD xr hx1; omega
    rw [hdx, Int.toNat_natCast, List.getElem?_eq_getElem hdx1] at ho
    dsimp only at ho
    obtain ⟨kx, hkx⟩ := ht.1 dx hdx1
    refine aw_skip ?_
    simp only [thenA_normal, thenA_ret, thenA_exit, blockA_normal, blockA_ret, blockA_exit, ↓reduceIte, Nat.reduceEqDiff]
    refine aw_region_seq C (pb := false) rfl fun K hK => ?_
    repeat' (first | refine wy1 (a := by simp only [go_sem, ↓reduceIte, Nat.reduceEqDiff, reduceCtorEq, Nat.reduceAdd, Nat.reduceMul, Nat.reduceLeDiff, aLoad, aStore, hb2, Z2.c, hdx, idxC hx hdx1, upd_same, storeL]; exact rfl) (h := ?_) | refine wz1 (a := by simp only [go_sem, ↓reduceIte, Nat.reduceEqDiff, reduceCtorEq, Nat.reduceAdd, Nat.reduceMul, Nat.reduceLeDiff, aLoad, aStore, hb2, Z2.c, hdx, idxC hx hdx1, upd_same, storeL]; exact rfl) (h := ?_) | fail)
    refine awOps_nil (hK _ _ ?_)
    refine AW.less (sl' := [(2, .av (.ptr s.nx 0)), (5, vI (D xr)), (6, .av (.ptr (s2.nx + 18) 0))]) (AllIn.less ⟨rfl, rfl, rfl, trivial⟩) ?_
    refine aw_state (J := fun s3 => (∀ j, j < s2.nx → s3.ob j = s2.ob j) ∧ s3.ob (s2.nx + 17) = .cs (celC [t[dx]]) 0 ∧ s3.ob (s2.nx + 18) = .cs [.own (s2.nx + 17) 0 [t[dx]].length 3] 0 ∧ s2.nx + 18 < s3.nx ∧ s3.ls = s.ls) ⟨fun j hj => by simp (disch := omega) only [Nat.zero_le, upd_ne, upd_same], (by simp (disch := omega) only [Nat.zero_le, upd_ne, upd_same]; rfl), upd_same _ _ _, by dsimp only; omega, hl2⟩ fun s3 hJ3 => ?_
    obtain ⟨h3a, h3b, h3c, h3n, h3l⟩ := hJ3
    have Z3 := Z2.frame (ob' := s3.ob) (nx' := s.nx) (Nat.le_refl _) fun j hj => h3a j (by omega)
    have hb3 := (h3a s.nx hn2).trans hb2
    clear hK K
    refine aw_seq ?_
    refine aw_region_seq C (pb := false) rfl fun K hK => ?_
    repeat' (first | refine wy1 (a := by simp only [go_sem, ↓reduceIte, Nat.reduceEqDiff, reduceCtorEq, Nat.reduceAdd, Nat.reduceMul, Nat.reduceLeDiff, ldA hb3, hdx]; exact rfl) (h := ?_) | fail)
    refine wc (And.intro Try.call64 (fn64 L (dx : Int) cid _)) ?_
    rintro _ _ ⟨bc, ba, m1, rfl, hbc1, hba1, hm1, rfl⟩
    dsimp only at hbc1
    refine awOps_nil (hK _ _ ?_)
    refine AW.less (sl' := [(2, .av (.ptr s.nx 0)), (6, .av (.ptr (s2.nx + 18) 0)), (39, .av (.fn 80 [] [.ptr bc 0, .ptr ba 0]))]) (AllIn.less ⟨rfl, rfl, rfl, trivial⟩) ?_
    refine aw_state (J := fun s5 => (∀ j, j < s3.nx → s5.ob j = s3.ob j) ∧ s5.ob bc = .cs [.ptr cid 0] 0 ∧ s5.ob ba = .cs [.sc (.int .i64 (dx : Int))] 0 ∧ s3.nx ≤ bc ∧ bc < ba ∧ ba < s5.nx ∧ s5.ls = s.ls) ⟨fun j hj => (upd_ne _ _ (by omega)).trans (upd_ne _ _ (by omega)), (upd_ne _ _ (by omega)).trans (upd_same _ _ _), upd_same _ _ _, by omega, by omega, by dsimp only; omega, h3l⟩ fun s5 hJ5 => ?_
    obtain ⟨h5a, h5b, h5c, h5n1, h5n2, h5n3, h5l⟩ := hJ5
    have Z5 := Z3.frame (ob' := s5.ob) (nx' := s.nx) (Nat.le_refl _) fun j hj => h5a j (by omega)
    have hb5 := (h5a s.nx (by omega)).trans hb3
    have h5i := (h5a (s2.nx + 17) (by omega)).trans h3b
    have h5o := (h5a (s2.nx + 18) (by omega)).trans h3c
    clear hK K
    refine aw_block ?_
    refine aw_rangeFunc rfl (by rfl) Try.call80 fun L0 l0 hL0 => ?_
    refine FnL.mono (fn80 L0 (fun j s' => s'.ls = upd s5.ls l0 .ready ∧ s5.nx ≤ s'.nx ∧ (∀ i, s5.nx ≤ i → (s'.ob i).noyl = true) ∧ ∃ pj out io, termL (termF t D N F) ((partsN t dx).drop j) pj out = some (l, p') ∧ (∀ i, i < nn → pj i < nn) ∧ (∀ i, i < s5.nx → i ≠ (s2.nx + 18) → i ≠ (s2.nx + 17) → s'.ob i = upd s5.ob iu (.cs (arrN nn pj) 0) i) ∧ (s'.ob (s2.nx + 17)).noyl = true ∧ s'.ob (s2.nx + 18) = .cs [.own io 0 out.length 3] 0 ∧ s'.ob io = .cs (celC out) 0 ∧ (io = (s2.nx + 17) ∨ s5.nx ≤ io) ∧ io < s'.nx) l0 t dx kx cid bc ba _ x hx hl ht.2 hkx hdx1 (by rw [hL0.params]; rfl) ?_ ?_ ?_ ?_) ?_
    · rintro j s' ⟨h1, h2, h3, pj, out, io, h4, h5, h6, h7, h8, h9, h10, h11⟩
      exact ⟨(h6 _ (by omega) (by omega) (by omega)).trans ((upd_ne _ _ (by omega)).trans h5b), (h6 _ (by omega) (by omega) (by omega)).trans ((upd_ne _ _ (by omega)).trans h5c), by omega, _, _, _, _, (h6 _ (by omega) (by omega) (by omega)).trans ((upd_ne _ _ (by omega)).trans Z5.c)⟩
    · rintro j s' m ⟨h1, h2, h3, pj, out, io, h4, h5, h6, h7, h8, h9, h10, h11⟩ hm
      exact ⟨h1, Nat.le_trans h2 hm, h3, pj, out, io, h4, h5, h6, h7, h8, h9, h10, Nat.lt_of_lt_of_le h11 hm⟩
    · intro j0 sJ0 hj0 hJ0
      obtain ⟨g1, g2, g3, pj, out, io, g4, g5, g6, g7, g7c, g8, g9, g10⟩ := hJ0
      have hjl : j0 < (partsN t dx).length := by rw [partsN_len]; exact hj0
      rw [partsN_get hj0]
      rw [List.drop_eq_getElem_cons hjl, termL] at g4
      obtain ⟨⟨c6, pk⟩, ho6⟩ : ∃ r, termF t D N F pj (partsN t dx)[j0] = some r := by
        cases h : termF t D N F pj (partsN t dx)[j0] with
        | none => rw [h] at g4; cases g4
        | some r => exact ⟨r, rfl⟩
      rw [ho6] at g4
      dsimp only at g4
      have hql : (partsN t dx)[j0] < nn := by rw [hnn]; exact (partsN_lt ht hdx1 _ (List.getElem_mem hjl)).1
      have q9 := termF_inv ht hnn hD ho6 hql g5
      have hle := termL_len g4
      rw [List.length_append] at hle
      have Z6 : CL sJ0.ob s.nx x cid iu id iN nn pj D N := (Z5.setU pj).frame (Nat.le_refl _) fun j hj => g6 j (by omega) (by omega) (by omega)
      have hb6 : sJ0.ob s.nx = .cs [.ptr cid 0] 0 := (g6 _ (by omega) (by omega) (by omega)).trans ((upd_ne _ _ (by omega)).trans hb5)
      obtain ⟨o1, ho1'⟩ : ∃ o, o = upd sJ0.ob iu (.cs (arrN nn pk) 0) := ⟨_, rfl⟩
      obtain ⟨o2, ho2'⟩ : ∃ o, o = upd (upd o1 io .dead) (sJ0.nx + 1 + 4) (.cs (celC (out ++ c6)) 0) := ⟨_, rfl⟩
      obtain ⟨o3, ho3⟩ : ∃ o, o = upd o2 (s2.nx + 18) (.cs [.own (sJ0.nx + 1 + 4) 0 (out ++ c6).length 3] 0) := ⟨_, rfl⟩
      have hio : iu ≠ io := by omega
      have q1 : o1 io = .cs (celC out) 0 := (show o1 io = sJ0.ob io from by rw [ho1']; exact upd_ne _ _ (by omega)).trans g8
      have q7c : o1 (s2.nx + 18) = _ := (show o1 (s2.nx + 18) = sJ0.ob (s2.nx + 18) from by rw [ho1']; exact upd_ne _ _ (by omega)).trans g7c
      have qb6 : o1 s.nx = _ := (show o1 s.nx = sJ0.ob s.nx from by rw [ho1']; exact upd_ne _ _ (by omega)).trans hb6
      have q2 : o2 (s2.nx + 18) = _ := (show o2 (s2.nx + 18) = o1 (s2.nx + 18) from by rw [ho2', upd_ne _ _ (by omega), upd_ne _ _ (by omega)]).trans q7c
      refine roundL_of hL0.params hL0.assign hL0.body hL0.size (fun p hp => by have e : p = 40 := (by simpa using hp); subst e; exact (show (40 : Nat) < 47 from by decide)) ?_
      rw [hL0.sl]
      simp only [setPs]
      refine aw_region C (pb := false) rfl ?_
      repeat' (first | refine wy0 (h := ?_) | fail)
      refine awOps_nil ?_
      try simp only [thenA_normal, thenA_ret, thenA_exit, blockA_normal, blockA_ret, blockA_exit]
      refine ⟨?_, ?_⟩
      · show sJ0.ls l0 = _; rw [g1, upd_same]
      refine aw_block ?_
      refine aw_dra C (pb := false) 6 [3, 4, 5] [sJ0.ob, o1, o2, o3] rfl (by kernel_rfl) (by kernel_rfl) rfl (fun _ _ => rfl) ?_
      (first | refine dra_yes [0, 1] (by rfl) (by rfl) (by rfl) (by rfl) (by kernel_rfl) ⟨⟨_, by simp  only [go_sem, ↓reduceIte, Nat.reduceEqDiff, reduceCtorEq, Nat.reduceAdd, Nat.reduceMul, Nat.reduceLeDiff, osL_0, osL_1, osL_2, osL_3, osL_4, osL_5, osL_6, ldA g7c, ldA hb6, ldA q7c, ldA qb6, stA q2 (v := .av (.own (sJ0.nx + 1 + 4) 0 (out ++ c6).length 3)) rfl]; (try exact rfl), fun _ => rfl⟩, ⟨_, by simp  only [go_sem, ↓reduceIte, Nat.reduceEqDiff, reduceCtorEq, Nat.reduceAdd, Nat.reduceMul, Nat.reduceLeDiff, osL_0, osL_1, osL_2, osL_3, osL_4, osL_5, osL_6, ldA g7c, ldA hb6, ldA q7c, ldA qb6, stA q2 (v := .av (.own (sJ0.nx + 1 + 4) 0 (out ++ c6).length 3)) rfl]; (try exact rfl), fun _ => rfl⟩, trivial⟩ ?_ | refine dra_no (by rfl) (by rfl) (by rfl) ?_)
      iterate 2 (first | refine dra_yes [0] (by rfl) (by rfl) (by rfl) (by rfl) (by kernel_rfl) ⟨⟨_, by simp  only [go_sem, ↓reduceIte, Nat.reduceEqDiff, reduceCtorEq, Nat.reduceAdd, Nat.reduceMul, Nat.reduceLeDiff, osL_0, osL_1, osL_2, osL_3, osL_4, osL_5, osL_6, ldA g7c, ldA hb6, ldA q7c, ldA qb6, stA q2 (v := .av (.own (sJ0.nx + 1 + 4) 0 (out ++ c6).length 3)) rfl]; (try exact rfl), fun _ => rfl⟩, trivial⟩ ?_ | refine dra_no (by rfl) (by rfl) (by rfl) ?_)
      refine dra_call (q := 0) (by rfl) (by rfl) (by rfl) (by rfl) (And.intro Try.call39 (FnL.mono (ih L0 _ cid iu id iN (partsN t dx)[j0] pj pk c6 (Z6.frame (by dsimp only; omega) (fun _ _ => rfl)) hql g5 (by omega) ho6) fun r s' ⟨h1, h2⟩ => ⟨h1, h2.trans (by rw [osL_1, ho1']; rfl)⟩)) ?_
      refine dra_eff (by rfl) (by rfl) (by rfl) (by rfl) ((show aop C false _ _ _ _ = aAppend T o1 _ 22 _ _ from rfl).trans (appC q1 (termF_pos ho6) (by omega))) (fun j => (congrFun ho2' j).symm) ⟨Nat.le_refl _, rfl⟩ ?_
      refine dra_eff0 (by rfl) (by rfl) (by rfl) (by rfl) (by simp  only [go_sem, ↓reduceIte, Nat.reduceEqDiff, reduceCtorEq, Nat.reduceAdd, Nat.reduceMul, Nat.reduceLeDiff, osL_0, osL_1, osL_2, osL_3, osL_4, osL_5, osL_6, ldA g7c, ldA hb6, ldA q7c, ldA qb6, stA q2 (v := .av (.own (sJ0.nx + 1 + 4) 0 (out ++ c6).length 3)) rfl]; exact rfl) (fun j => (congrFun ho3 j).symm) ⟨Nat.le_refl _, rfl⟩ ?_
      refine dra_nil ?_
      simp only [osL_0, osL_1, osL_2, osL_3, osL_4, osL_5, osL_6, List.length_cons, List.length_nil, Nat.reduceAdd]
      try simp only [thenA_normal, thenA_ret, thenA_exit, blockA_normal, blockA_ret, blockA_exit]
      -- end of round of range 0 at 0fR0.b
      have hny : ∀ i, (sJ0.ob i).noyl = true → (o3 i).noyl = true := fun i hi => by
        rw [ho3, ho2', ho1']
        exact upd_noyl rfl (upd_noyl celC_noyl (upd_noyl rfl (upd_noyl arr_noyl hi)))
      refine ⟨rfl, ?_, by dsimp only; omega, fun i hi => hny i (g3 i hi), pk, out ++ c6, sJ0.nx + 1 + 4, g4, q9, fun i hi h1 h2 => ?_, hny _ g7, (congrFun ho3 _).trans (upd_same _ _ _), (congrFun ho3 _).trans ((upd_ne _ _ (by omega)).trans ((congrFun ho2' _).trans (upd_same _ _ _))), .inr (by omega), by dsimp only; omega⟩
      · show upd (upd sJ0.ls l0 .busy) l0 .ready = _
        rw [g1, upd_upd, upd_upd]
      · show o3 i = _
        rw [ho3, upd_ne _ _ h1, ho2', upd_ne _ _ (by omega), upd_ne _ _ (by omega), ho1']
        by_cases h' : i = iu
        · rw [h', upd_same, upd_same]
        · rw [upd_ne _ _ h', upd_ne _ _ h', g6 i hi h1 h2, upd_ne _ _ h']
    · exact ⟨rfl, Nat.le_refl _, fun i hi => by dsimp only; rw [if_neg (by omega)]; rfl, p1, [t[dx]], (s2.nx + 17), by rw [List.drop_zero]; exact ho, hp1, fun i hi _ _ => (if_pos hi).trans (upd_self Z5.u i).symm, by dsimp only; rw [if_pos (by omega), h5i]; exact celC_noyl, (if_pos (by omega)).trans h5o, (if_pos (by omega)).trans h5i, .inl rfl, by dsimp only; omega⟩
    · rintro r0 s0' hm0
      obtain ⟨g1, g2, g3, pj, out, io, g4, g5, g6, g7, g7c, g8, g9, g10⟩ := hm0
      rw [← partsN_len, List.drop_of_length_le (Nat.le_refl _), termL, Option.some.injEq, Prod.mk.injEq] at g4
      obtain ⟨rfl, rfl⟩ := g4
      refine ⟨fun i hi => ?_, ?_⟩
      · by_cases h1 : i < s5.nx
        · by_cases h2 : i = (s2.nx + 18)
          · rw [h2, g7c]; exact .inr rfl
          · by_cases h3 : i = (s2.nx + 17)
            · rw [h3]; exact .inr g7
            · by_cases h4 : i = iu
              · rw [g6 i h1 h2 h3, h4, upd_same]; exact .inr arr_noyl
              · exact .inl ⟨h1, (g6 i h1 h2 h3).trans (upd_ne _ _ h4)⟩
        · exact .inr (g3 i (by omega))
      rw [g1, upd_same, upd_back]
      simp only [leftBy]
      simp only [thenA_normal, thenA_ret, thenA_exit, blockA_normal, blockA_ret, blockA_exit]
      refine aw_region_seq C (pb := false) rfl fun K hK => ?_
      repeat' (first | refine wy1 (a := by simp only [go_sem, ↓reduceIte, Nat.reduceEqDiff, reduceCtorEq, Nat.reduceAdd, Nat.reduceMul, Nat.reduceLeDiff, aLoad, aStore, g7c]; exact rfl) (h := ?_) | fail)
      refine awOps_nil (hK _ _ ?_)
      refine AW.less (sl' := [(4, .av (.own io 0 out.length 3))]) (AllIn.less ⟨rfl, trivial⟩) ?_
      refine aw_pur 4 (celC_pure g8) ?_
      clear hK K
      refine aw_ret ?_
      simp only [go_sem, ↓reduceIte, Nat.reduceEqDiff, reduceCtorEq, Nat.reduceAdd, Nat.reduceMul, Nat.reduceLeDiff, aLoad, aStore, FnQ, resA]
      -- 0f.ret
      refine fun _ => ⟨rfl, fun j hj => (upd_ne _ _ (by omega)).trans ((g6 j (by omega) (by omega) (by omega)).trans ?_), h5l, by first | rfl | trivial⟩
      by_cases h' : j = iu
      · rw [h', upd_same, upd_same]
      · rw [upd_ne _ _ h', upd_ne _ _ h', h5a j (by omega), h3a j (by omega), ho2 j hj, upd_ne _ _ h']
theorem fn39 {t : List Cell} {x : Sc} {nn : Nat} {D N : Nat → Int} (hx : GSl encC x t) (hl : t.length ≤ 1000000) (hnn : nn = t.length) (ht : TOK t) (hD : ∀ i, i < nn → D i < nn) : ∀ F, Of39 t x nn D N F
  | 0 => fun _ _ _ _ _ _ _ _ _ _ _ _ _ _ h => by simp [termF] at h
  | F + 1 => fun L s cid iu id iN a p p' l hcl ha hp hll ho => fn39s L F nn a t p p' D N cid iu id iN l s x hx hl hnn ht hD (fn39 hx hl hnn ht hD F) hcl ha hp hll ho
end Go.Am.Seat
/-
  MADE BY PROGRAM (am.py): the walks of functions 52.
-/
namespace Go.Am.Seat
open Go.Proofs

theorem gsl_pos {x : Sc} {l : List Cell} (h : GSl encC x l) (hl : 0 < l.length) : x = .sl l.length (l.flatMap encC) := by
  rcases h with ⟨_, rfl⟩ | h
  · simp at hl
  · exact h
theorem appC0 {ob : Nat → Obj} {nid id : Nat} {l : List Cell} (h : ob id = .cs [] 0) (hl : 0 < l.length) (hn : l.length ≤ 1000000000) : aAppend T ob nid 22 (.av (.own id 0 0 3)) (vC l) = some (.av (.own nid 0 l.length 3), upd (upd ob id .dead) nid (.cs (celC l) 0)) := by
  have := appC (nid := nid) (out := []) (l := l) (show ob id = .cs (celC []) 0 from h) hl (by simp; omega)
  simpa using this

theorem bod52 : Try.f52.body = some (Try.f52.body.getD .skip) := rfl
theorem fn52 (L : Loops) (l : List Cell) (s : Me) (hl : 0 < l.length ∧ l.length ≤ 1000000) : FnL Try.prog L 52 [vC l] s fun r s' => ∃ id ob' m, r = .av (.own id 0 l.length 3) ∧ s' = ⟨ob', m, s.ls⟩ ∧ s.nx ≤ id ∧ id < m ∧ ob' id = .cs (celC l) 0 ∧ ∀ i, i < s.nx → ob' i = s.ob i := by
  refine fn_of_body (ts := [2]) Try.func52 bod52 rfl (by simp) (by simp [Try.ntmps52]) fun D0 => ?_
  unfold Try.f52
  simp only [Option.getD_some, initSl]
  refine aw_region_seq C (pb := false) rfl fun K hK => ?_
  repeat' (first | refine wy0 (h := ?_) | fail)
  refine awOps_nil (hK _ _ ?_)
  clear hK K
  refine aw_seq ?_
  refine aw_region_seq C (pb := false) rfl fun K hK => ?_
  repeat' (first | refine wy1 (a := by simp only [go_sem, ↓reduceIte, Nat.reduceEqDiff, reduceCtorEq, Nat.reduceAdd, Nat.reduceMul, Nat.reduceLeDiff, aLoad, aStore, aEq, aEqNil, show (l.flatMap encC).isEmpty = false from by cases l with | nil => simp at hl | cons a l => rfl, Bool.false_eq_true, if_false]; exact rfl) (h := ?_) | fail)
  refine awOps_nil (hK _ _ ?_)
  clear hK K
  refine aw_cond (by rfl) ?_ ?_
  · intro hc0
    cases hc0
  · intro hc0
    refine aw_skip ?_
    simp only [thenA_normal, thenA_ret, thenA_exit, blockA_normal, blockA_ret, blockA_exit, ↓reduceIte, Nat.reduceEqDiff]
    refine aw_region_seq C (pb := false) rfl fun K hK => ?_
    repeat' (first | refine wy0 (h := ?_) | fail)
    refine wy2 ((show aop C false _ _ _ _ = aAppend T _ _ 22 _ _ from rfl).trans (appC0 (l := l) (upd_same _ _ _) hl.1 (by omega))) ?_
    repeat' (first | refine wy0 (h := ?_) | fail)
    refine awOps_nil (hK _ _ ?_)
    clear hK K
    refine aw_ret ?_
    simp only [go_sem, ↓reduceIte, Nat.reduceEqDiff, reduceCtorEq, Nat.reduceAdd, Nat.reduceMul, Nat.reduceLeDiff, aLoad, aStore, FnQ, resA]
    -- 0f.ret
    exact fun h => ⟨_, _, _, rfl, rfl, (by first | omega | (dsimp only; omega) | (dsimp only at *; omega)), (by first | omega | (dsimp only; omega) | (dsimp only at *; omega)), upd_same _ _ _, fun i hi => (upd_ne _ _ (by first | omega | (dsimp only; omega) | (dsimp only at *; omega))).trans ((upd_ne _ _ (by first | omega | (dsimp only; omega) | (dsimp only at *; omega))).trans (upd_ne _ _ (by first | omega | (dsimp only; omega) | (dsimp only at *; omega))))⟩
end Go.Am.Seat
/-
  MADE BY PROGRAM (am.py): the walks of functions 31.
-/
namespace Go.Am.Seat
open Go.Proofs

theorem srcO {ob : Nat → Obj} {id : Nat} {l : List Cell} {fz : Nat} (h : ob id = .cs (celC l) fz) : aSrc ob 3 (.av (.own id 0 l.length 3)) = some (l.length, celC l) := by
  simp only [aSrc, h]
  rw [if_pos ⟨trivial, by rw [celC_len]; omega⟩, List.drop_zero, List.take_of_length_le (by rw [celC_len]; exact Nat.le_refl _)]
theorem appCO {ob : Nat → Obj} {nid id id2 : Nat} {out l : List Cell} {fz : Nat} (h : ob id = .cs (celC out) 0) (h2 : ob id2 = .cs (celC l) fz) (hl : 0 < l.length) (hn : out.length + l.length ≤ 1000000000) :
    aAppend T ob nid 22 (.av (.own id 0 out.length 3)) (.av (.own id2 0 l.length 3)) = some (.av (.own nid 0 (out ++ l).length 3), upd (upd ob id .dead) nid (.cs (celC (out ++ l)) 0)) := by
  unfold aAppend
  simp only [T22, Option.bind_some, y22, T42]
  rw [show y42.size = 3 from rfl, srcO h2]
  simp only [Option.bind_some]
  rw [if_neg (by simp [y42])]
  simp only [h]
  rw [if_pos ⟨by simp [y42], by rw [celC_len]; omega, by omega, by omega⟩, if_neg (by omega)]
  simp only [List.drop_zero, Nat.zero_sub, List.length_append]
  rw [List.take_of_length_le (by rw [celC_len]; exact Nat.le_refl _), celC_app]
/-- The name f. -/
def nmF : ByteArray := ⟨#[102]⟩

theorem bod31 : Try.f31.body = some (Try.f31.body.getD .skip) := rfl
theorem fn31 (L : Loops) (l : List Cell) (id fz : Nat) (s : Me) (hid : s.ob id = .cs (celC l) fz) (hlt : id < s.nx) (hl : 0 < l.length ∧ l.length ≤ 1000000) : FnL Try.prog L 31 [.av (.own id 0 l.length 3)] s fun r s' => (r = vC (⟨3, nmF, l.length⟩ :: l)) ∧ s' = s := by
  refine FnL.pure (R := fun r => r = vC (⟨3, nmF, l.length⟩ :: l)) ?_
  refine fn_of_body (ts := [2]) Try.func31 bod31 rfl (by simp) (by simp [Try.ntmps31]) fun D0 => ?_
  unfold Try.f31
  simp only [Option.getD_some, initSl]
  refine aw_region_seq C (pb := false) rfl fun K hK => ?_
  repeat' (first | refine wy0 (h := ?_) | fail)
  refine awOps_nil (hK _ _ ?_)
  clear hK K
  refine aw_region_seq C (pb := false) rfl fun K hK => ?_
  repeat' (first | refine wy0 (h := ?_) | fail)
  refine awOps_nil (hK _ _ ?_)
  clear hK K
  refine aw_region_seq C (pb := false) rfl fun K hK => ?_
  repeat' (first | refine wy0 (h := ?_) | fail)
  refine wy2 ((show aop C false _ _ _ _ = aAppend T _ _ 22 _ _ from rfl).trans (appCO (out := [⟨3, nmF, l.length⟩]) (l := l) (upd_same _ _ _) ((upd_ne _ _ (by omega)).trans hid) hl.1 (by simp; omega))) ?_
  repeat' (first | refine wy0 (h := ?_) | fail)
  refine awOps_nil (hK _ _ ?_)
  refine aw_pur 2 (celC_pure (upd_same _ _ _)) ?_
  clear hK K
  refine aw_ret ?_
  simp only [go_sem, ↓reduceIte, Nat.reduceEqDiff, reduceCtorEq, Nat.reduceAdd, Nat.reduceMul, Nat.reduceLeDiff, aLoad, aStore, FnQ, resA]
  -- .ret
  refine fun _ => ⟨by first | rfl | trivial, fun i hi => ?_, by first | rfl | trivial, by first | rfl | trivial⟩
  exact (upd_ne _ _ (by omega)).trans ((upd_ne _ _ (by omega)).trans ((upd_ne _ _ (by omega)).trans (upd_ne _ _ (by omega))))
end Go.Am.Seat
/-
  MADE BY PROGRAM (am.py): the walks of functions 86.
-/
namespace Go.Am.Seat
open Go.Proofs

def eName : ByteArray := ⟨#[]⟩
def byteOk (b : UInt8) : Bool := decide (32 ≤ b.toNat) && decide (b.toNat ≤ 126) && decide (b.toNat ≠ 39)
def nameOk (s : ByteArray) : Bool := s.data.toList.all byteOk && (decide (1 ≤ s.size) && decide (s.size ≤ 12))
theorem byteOk_raw (b : UInt8) : byteOk b = !((decide ((b.toNat : Int) < 32) || decide ((b.toNat : Int) > 126)) || ((b.toNat : Int) == 39)) := by
  rw [Bool.eq_iff_iff]
  simp [byteOk]
  omega

theorem bod86 : Try.f86.body = some (Try.f86.body.getD .skip) := rfl
theorem fn86 (L : Loops) (x : ByteArray) (s : Me) (hl : x.size ≤ 1152921504606846976) : FnL Try.prog L 86 [.av (.sc (.str x))] s fun r s' => (r = vB (nameOk x)) ∧ s' = s := by
  refine FnL.pure (R := fun r => r = vB (nameOk x)) ?_
  refine fn_of_body (ts := [2]) Try.func86 bod86 rfl (by simp) (by simp [Try.ntmps86]) fun D0 => ?_
  unfold Try.f86
  simp only [Option.getD_some, initSl]
  refine aw_region_seq C (pb := false) rfl fun K hK => ?_
  repeat' (first | refine wy0 (h := ?_) | fail)
  refine awOps_nil (hK _ _ ?_)
  clear hK K
  refine aw_seq ?_
  refine aw_region_seq C (pb := false) rfl fun K hK => ?_
  repeat' (first | refine wy0 (h := ?_) | fail)
  refine awOps_nil (hK _ _ ?_)
  clear hK K
  refine aw_block ?_
  refine AW.less (sl' := [(0, .av (.sc (.str x))), (3, vI (0))]) (AllIn.less ⟨rfl, rfl, trivial⟩) (aw_loop (fun k sl1 s1 => ∃ (i : Nat), k = x.size - i ∧ sl1 = [(0, .av (.sc (.str x))), (3, vI (i))] ∧ (Kp s s1) ∧ (i ≤ x.size) ∧ ((x.data.toList.take i).all byteOk = true)) (k := x.size - (0)) ⟨0, rfl, rfl, (Kp.refl s).up (by omega), Nat.zero_le _, by simp⟩ ?_)
  rintro k1 _ s1 ⟨i, hk1, rfl, hs1, hb, h3⟩
  refine aw_seq ?_
  refine aw_region_seq C (pb := false) rfl fun K hK => ?_
  repeat' (first | refine wy1 (a := by simp only [go_sem, ↓reduceIte, Nat.reduceEqDiff, reduceCtorEq, Nat.reduceAdd, Nat.reduceMul, Nat.reduceLeDiff, aLoad, aStore, lenS]; exact rfl) (h := ?_) | fail)
  refine awOps_nil (hK _ _ ?_)
  clear hK K
  refine aw_cond (by rfl) ?_ ?_
  · intro hc0
    try simp only [decide_eq_true_eq, decide_eq_false_iff_not] at hc0
    have hi2 : i < x.data.toList.length := by simpa using (by omega : i < x.size)
    refine aw_skip ?_
    simp only [thenA_normal, thenA_ret, thenA_exit, blockA_normal, blockA_ret, blockA_exit, ↓reduceIte, Nat.reduceEqDiff]
    refine aw_seq ?_
    refine aw_block ?_
    refine aw_cut_seq C (pb := false) [(0, .av (.sc (.str x))), (3, vI i), (25, vB ((decide ((x.data.toList[i].toNat : Int) < 32) || decide ((x.data.toList[i].toNat : Int) > 126)) || ((x.data.toList[i].toNat : Int) == 39)))] rfl ?_ fun n4 hn4 => ?_
    · cases hA0 : (decide ((x.data.toList[i].toNat : Int) < 32) : Bool) <;> cases hA1 : (decide ((x.data.toList[i].toNat : Int) > 126) : Bool)
      all_goals (repeat' (first | refine wy1 (a := by simp only [go_sem, ↓reduceIte, Nat.reduceEqDiff, reduceCtorEq, Nat.reduceAdd, Nat.reduceMul, Nat.reduceLeDiff, aLoad, aStore, idxS hi2, hA0, hA1]; exact rfl) (h := ?_) | refine wn (h := ?_) | fail))
      all_goals (exact awOps_nil ⟨⟨rfl, rfl, rfl, trivial⟩, rfl, (by first | omega | (dsimp only; omega)), rfl⟩)
    refine aw_cond (by rfl) ?_ ?_
    · intro hc1
      try simp only [decide_eq_true_eq, decide_eq_false_iff_not] at hc1
      refine aw_region_seq C (pb := false) rfl fun K hK => ?_
      repeat' (first | refine wy0 (h := ?_) | fail)
      refine awOps_nil (hK _ _ ?_)
      clear hK K
      refine aw_ret ?_
      try simp only [thenA_normal, thenA_ret, thenA_exit, blockA_normal, blockA_ret, blockA_exit]
      simp only [go_sem, ↓reduceIte, Nat.reduceEqDiff, reduceCtorEq, Nat.reduceAdd, Nat.reduceMul, Nat.reduceLeDiff, aLoad, aStore, FnQ, resA]
      -- 0t1t.ret
      refine fun _ => ⟨rfl, hs1.2.1, hs1.2.2, ?_⟩
      have hbad : byteOk x.data.toList[i] = false := by rw [byteOk_raw, hc1]; rfl
      have : nameOk x = false := by
        have h : x.data.toList.all byteOk = false := by
          rw [List.all_eq_false]
          exact ⟨_, List.getElem_mem hi2, by rw [hbad]; exact Bool.false_ne_true⟩
        simp [nameOk, h]
      rw [this]
    · intro hc1
      try simp only [decide_eq_true_eq, decide_eq_false_iff_not] at hc1
      refine aw_skip ?_
      simp only [thenA_normal, thenA_ret, thenA_exit, blockA_normal, blockA_ret, blockA_exit, ↓reduceIte, Nat.reduceEqDiff]
      refine aw_region C (pb := false) rfl ?_
      repeat' (first | refine wy1 (a := by simp only [go_sem, ↓reduceIte, Nat.reduceEqDiff, reduceCtorEq, Nat.reduceAdd, Nat.reduceMul, Nat.reduceLeDiff, aLoad, aStore, wrap_small ((i : Int) + 1) (by omega) (by omega)]; exact rfl) (h := ?_) | fail)
      refine awOps_nil ?_
      try simp only [thenA_normal, thenA_ret, thenA_exit, blockA_normal, blockA_ret, blockA_exit]
      -- end of round 0 at 0t1f
      refine ⟨x.size - (i + 1), [(0, .av (.sc (.str x))), (3, vI (i + 1))], by omega, AllIn.less ⟨rfl, rfl, trivial⟩, i + 1, rfl, rfl, ?_, ?_, ?_⟩
      · exact hs1.up (by omega)
      · omega
      · rw [List.take_succ_eq_append_getElem hi2]
        simp only [List.all_append, h3, Bool.true_and, List.all_cons, List.all_nil, Bool.and_true]
        rw [byteOk_raw, hc1]; rfl
  · intro hc0
    try simp only [decide_eq_true_eq, decide_eq_false_iff_not] at hc0
    refine aw_exit ?_
    simp only [thenA_normal, thenA_ret, thenA_exit, blockA_normal, blockA_ret, blockA_exit, ↓reduceIte, Nat.reduceEqDiff]
    refine aw_cut_seq C (pb := false) [(2, vB (decide ((x.size : Int) ≥ 1) && decide ((x.size : Int) ≤ 12)))] rfl ?_ fun n6 hn6 => ?_
    · cases hA0 : (decide ((x.size : Int) ≥ 1) : Bool)
      all_goals (repeat' (first | refine wy1 (a := by simp only [go_sem, ↓reduceIte, Nat.reduceEqDiff, reduceCtorEq, Nat.reduceAdd, Nat.reduceMul, Nat.reduceLeDiff, aLoad, aStore, lenS, hA0]; exact rfl) (h := ?_) | refine wn (h := ?_) | fail))
      all_goals (exact awOps_nil ⟨⟨rfl, trivial⟩, rfl, (by first | omega | (dsimp only; omega)), rfl⟩)
    refine aw_ret ?_
    simp only [go_sem, ↓reduceIte, Nat.reduceEqDiff, reduceCtorEq, Nat.reduceAdd, Nat.reduceMul, Nat.reduceLeDiff, aLoad, aStore, FnQ, resA]
    -- 0f.x0.ret
    refine fun _ => ⟨rfl, hs1.2.1, hs1.2.2, ?_⟩
    rw [List.take_of_length_le (by simp; omega)] at h3
    have e1 : decide ((x.size : Int) ≥ 1) = decide (1 ≤ x.size) := by simp; omega
    have e2 : decide ((x.size : Int) ≤ 12) = decide (x.size ≤ 12) := by simp; omega
    simp only [nameOk, h3, e1, e2, Bool.true_and]
end Go.Am.Seat
/-
  MADE BY PROGRAM (am.py): the walks of functions 79.
-/
namespace Go.Am.Seat
open Go.Proofs

def noName : ByteArray := ⟨#[]⟩
def cellOk (c : Cell) : Bool :=
  if c.kind = 1 then ((c.name.toList == noName.toList) && decide (c.n ≥ 0)) && decide (c.n ≤ 999)
  else if c.kind = 2 then ((c.name.toList == noName.toList) && decide (c.n ≥ -2147483647)) && decide (c.n ≤ 2147483647)
  else if c.kind = 3 then (nameOk c.name && decide (c.n ≥ 0)) && decide (c.n ≤ 6)
  else false
def aggC (c : Cell) : Va := .agg [.sc (.int .i64 c.kind), .sc (.str c.name), .sc (.int .i64 c.n)]

theorem bod79 : Try.f79.body = some (Try.f79.body.getD .skip) := rfl
theorem fn79 (L : Loops) (c : Cell) (s : Me) (hl : c.name.size ≤ 1152921504606846976) : FnL Try.prog L 79 [aggC c] s fun r s' => (r = vB (cellOk c)) ∧ s' = s := by
  refine FnL.pure (R := fun r => r = vB (cellOk c)) ?_
  refine fn_of_body (ts := [2]) Try.func79 bod79 rfl (by simp) (by simp [Try.ntmps79]) fun D0 => ?_
  unfold Try.f79
  simp only [Option.getD_some, initSl]
  refine aw_region_seq C (pb := false) rfl fun K hK => ?_
  repeat' (first | refine wy1 (a := by simp only [go_sem, ↓reduceIte, Nat.reduceEqDiff, reduceCtorEq, Nat.reduceAdd, Nat.reduceMul, Nat.reduceLeDiff, aLoad, aStore, aggC]; exact rfl) (h := ?_) | fail)
  refine awOps_nil (hK _ _ ?_)
  clear hK K
  refine aw_seq ?_
  refine aw_region_seq C (pb := false) rfl fun K hK => ?_
  repeat' (first | refine wy0 (h := ?_) | fail)
  refine awOps_nil (hK _ _ ?_)
  clear hK K
  refine aw_block ?_
  refine aw_region_seq C (pb := false) rfl fun K hK => ?_
  repeat' (first | refine wy0 (h := ?_) | fail)
  refine awOps_nil (hK _ _ ?_)
  clear hK K
  refine aw_cond (by rfl) ?_ ?_
  · intro hc0
    try simp only [beq_iff_eq, beq_eq_false_iff_ne, ne_eq] at hc0
    have hno : (⟨#[]⟩ : ByteArray) = noName := rfl
    refine aw_cut_seq C (pb := false) [(2, vB (((c.name.toList == noName.toList) && decide (c.n ≥ 0)) && decide (c.n ≤ 999)))] rfl ?_ fun n3 hn3 => ?_
    · cases hA0 : (c.name.toList == noName.toList : Bool) <;> cases hA1 : (decide (c.n ≥ 0) : Bool) <;> cases hA2 : (decide (c.n ≤ 999) : Bool)
      all_goals (repeat' (first | refine wy1 (a := by simp only [go_sem, ↓reduceIte, Nat.reduceEqDiff, reduceCtorEq, Nat.reduceAdd, Nat.reduceMul, Nat.reduceLeDiff, aLoad, aStore, hno, hA0, hA1, hA2]; exact rfl) (h := ?_) | refine wn (h := ?_) | fail))
      all_goals (exact awOps_nil ⟨⟨rfl, trivial⟩, rfl, (by first | omega | (dsimp only; omega)), rfl⟩)
    refine aw_ret ?_
    try simp only [thenA_normal, thenA_ret, thenA_exit, blockA_normal, blockA_ret, blockA_exit]
    simp only [go_sem, ↓reduceIte, Nat.reduceEqDiff, reduceCtorEq, Nat.reduceAdd, Nat.reduceMul, Nat.reduceLeDiff, aLoad, aStore, FnQ, resA]
    -- 0t.ret
    refine fun _ => ⟨by first | rfl | trivial, fun i hi => upd_ne _ _ (by omega), by first | rfl | trivial, ?_⟩
    rw [cellOk, if_pos hc0]
  · intro hc0
    try simp only [beq_iff_eq, beq_eq_false_iff_ne, ne_eq] at hc0
    refine aw_region_seq C (pb := false) rfl fun K hK => ?_
    repeat' (first | refine wy0 (h := ?_) | fail)
    refine awOps_nil (hK _ _ ?_)
    clear hK K
    refine aw_cond (by rfl) ?_ ?_
    · intro hc1
      try simp only [beq_iff_eq, beq_eq_false_iff_ne, ne_eq] at hc1
      have hno : (⟨#[]⟩ : ByteArray) = noName := rfl
      refine aw_cut_seq C (pb := false) [(2, vB (((c.name.toList == noName.toList) && decide (c.n ≥ -2147483647)) && decide (c.n ≤ 2147483647)))] rfl ?_ fun n5 hn5 => ?_
      · cases hA0 : (c.name.toList == noName.toList : Bool) <;> cases hA1 : (decide (c.n ≥ -2147483647) : Bool) <;> cases hA2 : (decide (c.n ≤ 2147483647) : Bool)
        all_goals (repeat' (first | refine wy1 (a := by simp only [go_sem, ↓reduceIte, Nat.reduceEqDiff, reduceCtorEq, Nat.reduceAdd, Nat.reduceMul, Nat.reduceLeDiff, aLoad, aStore, hno, hA0, hA1, hA2]; exact rfl) (h := ?_) | refine wn (h := ?_) | fail))
        all_goals (exact awOps_nil ⟨⟨rfl, trivial⟩, rfl, (by first | omega | (dsimp only; omega)), rfl⟩)
      refine aw_ret ?_
      try simp only [thenA_normal, thenA_ret, thenA_exit, blockA_normal, blockA_ret, blockA_exit]
      simp only [go_sem, ↓reduceIte, Nat.reduceEqDiff, reduceCtorEq, Nat.reduceAdd, Nat.reduceMul, Nat.reduceLeDiff, aLoad, aStore, FnQ, resA]
      -- 0f1t.ret
      refine fun _ => ⟨by first | rfl | trivial, fun i hi => upd_ne _ _ (by omega), by first | rfl | trivial, ?_⟩
      rw [cellOk, if_neg hc0, if_pos hc1]
    · intro hc1
      try simp only [beq_iff_eq, beq_eq_false_iff_ne, ne_eq] at hc1
      refine aw_region_seq C (pb := false) rfl fun K hK => ?_
      repeat' (first | refine wy0 (h := ?_) | fail)
      refine awOps_nil (hK _ _ ?_)
      clear hK K
      refine aw_cond (by rfl) ?_ ?_
      · intro hc2
        try simp only [beq_iff_eq, beq_eq_false_iff_ne, ne_eq] at hc2
        refine aw_cut_seq C (pb := false) [(2, vB ((nameOk c.name && decide (c.n ≥ 0)) && decide (c.n ≤ 6)))] rfl ?_ fun n7 hn7 => ?_
        · cases hA0 : (nameOk c.name : Bool) <;> cases hA1 : (decide (c.n ≥ 0) : Bool) <;> cases hA2 : (decide (c.n ≤ 6) : Bool)
          all_goals (repeat' (first | refine wy1 (a := by simp only [go_sem, ↓reduceIte, Nat.reduceEqDiff, reduceCtorEq, Nat.reduceAdd, Nat.reduceMul, Nat.reduceLeDiff, aLoad, aStore, hA0, hA1, hA2]; exact rfl) (h := ?_) | fail))
          all_goals ((refine wc (And.intro Try.call86 (fn86 L c.name _ hl)) ?_; rintro _ _ ⟨rfl, rfl⟩))
          all_goals (repeat' (first | refine wy1 (a := by simp only [go_sem, ↓reduceIte, Nat.reduceEqDiff, reduceCtorEq, Nat.reduceAdd, Nat.reduceMul, Nat.reduceLeDiff, aLoad, aStore, hA0, hA1, hA2]; exact rfl) (h := ?_) | refine wn (h := ?_) | fail))
          all_goals (exact awOps_nil ⟨⟨rfl, trivial⟩, rfl, (by first | omega | (dsimp only; omega)), rfl⟩)
        refine aw_ret ?_
        try simp only [thenA_normal, thenA_ret, thenA_exit, blockA_normal, blockA_ret, blockA_exit]
        simp only [go_sem, ↓reduceIte, Nat.reduceEqDiff, reduceCtorEq, Nat.reduceAdd, Nat.reduceMul, Nat.reduceLeDiff, aLoad, aStore, FnQ, resA]
        -- 0f1f2t.ret
        refine fun _ => ⟨by first | rfl | trivial, fun i hi => upd_ne _ _ (by omega), by first | rfl | trivial, ?_⟩
        rw [cellOk, if_neg hc0, if_neg hc1, if_pos hc2]
      · intro hc2
        try simp only [beq_iff_eq, beq_eq_false_iff_ne, ne_eq] at hc2
        refine aw_skip ?_
        simp only [thenA_normal, thenA_ret, thenA_exit, blockA_normal, blockA_ret, blockA_exit, ↓reduceIte, Nat.reduceEqDiff]
        refine aw_region_seq C (pb := false) rfl fun K hK => ?_
        repeat' (first | refine wy0 (h := ?_) | fail)
        refine awOps_nil (hK _ _ ?_)
        clear hK K
        refine aw_ret ?_
        simp only [go_sem, ↓reduceIte, Nat.reduceEqDiff, reduceCtorEq, Nat.reduceAdd, Nat.reduceMul, Nat.reduceLeDiff, aLoad, aStore, FnQ, resA]
        -- 0f1f2f.ret
        refine fun _ => ⟨by first | rfl | trivial, fun i hi => upd_ne _ _ (by omega), by first | rfl | trivial, ?_⟩
        rw [cellOk, if_neg hc0, if_neg hc1, if_neg hc2]
end Go.Am.Seat
/-
  MADE BY PROGRAM (am.py): the walks of functions 62.
-/
namespace Go.Am.Seat
open Go.Proofs

def big : Nat := 2199023255552
/-- The place behind the term that begins at i, o of which are open. -/
def endG : List Cell → Int → Nat → Int
  | [], _, _ => -1
  | c :: l, o, i => if cellOk c then (if (if c.kind = 3 then o - 1 + c.n else o - 1) = 0 then (i : Int) + 1 else endG l (if c.kind = 3 then o - 1 + c.n else o - 1) (i + 1)) else -1
theorem cellOk_n {c : Cell} (h : cellOk c = true) (hk : c.kind = 3) : 0 ≤ c.n ∧ c.n ≤ 6 := by
  rw [cellOk, if_neg (by omega), if_neg (by omega), if_pos hk] at h
  simp only [Bool.and_eq_true, decide_eq_true_eq] at h
  omega

theorem bod62 : Try.f62.body = some (Try.f62.body.getD .skip) := rfl
theorem fn62 (L : Loops) (t : List Cell) (at_ : Nat) (s : Me) (x : Sc) (hx : GSl encC x t) (hl : t.length ≤ 281474976710656) (hn : ∀ c ∈ t, c.name.size ≤ 1152921504606846976) (hat : at_ ≤ 281474976710656) : FnL Try.prog L 62 [.av (.sc x), vI at_] s fun r s' => (r = vI (endG (t.drop at_) 1 at_)) ∧ s' = s := by
  refine FnL.pure (R := fun r => r = vI (endG (t.drop at_) 1 at_)) ?_
  refine fn_of_body (ts := [4]) Try.func62 bod62 rfl (by simp) (by simp [Try.ntmps62]) fun D0 => ?_
  unfold Try.f62
  simp only [Option.getD_some, initSl]
  refine aw_region_seq C (pb := false) rfl fun K hK => ?_
  repeat' (first | refine wy0 (h := ?_) | fail)
  refine awOps_nil (hK _ _ ?_)
  clear hK K
  refine aw_region_seq C (pb := false) rfl fun K hK => ?_
  repeat' (first | refine wy0 (h := ?_) | fail)
  refine awOps_nil (hK _ _ ?_)
  clear hK K
  refine aw_seq ?_
  refine aw_region_seq C (pb := false) rfl fun K hK => ?_
  repeat' (first | refine wy0 (h := ?_) | fail)
  refine awOps_nil (hK _ _ ?_)
  clear hK K
  refine aw_block ?_
  refine AW.less (sl' := [(0, .av (.sc x)), (5, vI (1)), (6, vI (at_))]) (AllIn.less ⟨rfl, rfl, rfl, trivial⟩) (aw_loop (fun k sl1 s1 => ∃ (i : Nat) (o : Int), k = t.length - i ∧ sl1 = [(0, .av (.sc x)), (5, vI (o)), (6, vI (i))] ∧ (Kp s s1) ∧ (-(i : Int) ≤ o ∧ o ≤ 1 + 6 * (i : Int) ∧ i ≤ at_ + t.length) ∧ (endG (t.drop i) o i = endG (t.drop at_) 1 at_)) (k := t.length - (at_)) ⟨at_, 1, rfl, rfl, (Kp.refl s).up (by omega), by omega, rfl⟩ ?_)
  rintro k1 _ s1 ⟨i, o, hk1, rfl, hs1, hb, h3⟩
  refine aw_seq ?_
  refine aw_region_seq C (pb := false) rfl fun K hK => ?_
  repeat' (first | refine wy1 (a := by simp only [go_sem, ↓reduceIte, Nat.reduceEqDiff, reduceCtorEq, Nat.reduceAdd, Nat.reduceMul, Nat.reduceLeDiff, aLoad, aStore, lenC hx]; exact rfl) (h := ?_) | fail)
  refine awOps_nil (hK _ _ ?_)
  clear hK K
  refine aw_cond (by rfl) ?_ ?_
  · intro hc0
    try simp only [decide_eq_true_eq, decide_eq_false_iff_not] at hc0
    have hi2 : i < t.length := by omega
    have hdrop : t.drop i = t[i] :: t.drop (i + 1) := List.drop_eq_getElem_cons hi2
    have hni := hn t[i] (List.getElem_mem hi2)
    refine aw_skip ?_
    simp only [thenA_normal, thenA_ret, thenA_exit, blockA_normal, blockA_ret, blockA_exit, ↓reduceIte, Nat.reduceEqDiff]
    refine aw_seq ?_
    refine aw_block ?_
    refine aw_seq ?_
    refine aw_region_seq C (pb := false) rfl fun K hK => ?_
    repeat' (first | refine wy1 (a := by simp only [go_sem, ↓reduceIte, Nat.reduceEqDiff, reduceCtorEq, Nat.reduceAdd, Nat.reduceMul, Nat.reduceLeDiff, aLoad, aStore, idxC hx hi2]; exact rfl) (h := ?_) | fail)
    (refine wc (And.intro Try.call79 (fn79 L t[i] _ hni)) ?_; rintro _ _ ⟨rfl, rfl⟩)
    repeat' (first | refine wy1 (a := by simp only [go_sem, ↓reduceIte, Nat.reduceEqDiff, reduceCtorEq, Nat.reduceAdd, Nat.reduceMul, Nat.reduceLeDiff, aLoad, aStore, idxC hx hi2]; exact rfl) (h := ?_) | fail)
    refine awOps_nil (hK _ _ ?_)
    clear hK K
    refine aw_cond (by rfl) ?_ ?_
    · intro hc1
      try simp only [Bool.not_eq_true', Bool.not_eq_false'] at hc1
      refine aw_region_seq C (pb := false) rfl fun K hK => ?_
      repeat' (first | refine wy0 (h := ?_) | fail)
      refine awOps_nil (hK _ _ ?_)
      clear hK K
      refine aw_ret ?_
      try simp only [thenA_normal, thenA_ret, thenA_exit, blockA_normal, blockA_ret, blockA_exit]
      simp only [go_sem, ↓reduceIte, Nat.reduceEqDiff, reduceCtorEq, Nat.reduceAdd, Nat.reduceMul, Nat.reduceLeDiff, aLoad, aStore, FnQ, resA]
      -- 0t1t.ret
      refine fun _ => ⟨by first | rfl | trivial, hs1.2.1, hs1.2.2, ?_⟩
      rw [← h3, hdrop, endG, if_neg (by rw [hc1]; exact Bool.false_ne_true)]
    · intro hc1
      try simp only [Bool.not_eq_true', Bool.not_eq_false'] at hc1
      have hk3 : cellOk t[i] = true := by simpa using hc1
      refine aw_skip ?_
      simp only [thenA_normal, thenA_ret, thenA_exit, blockA_normal, blockA_ret, blockA_exit, ↓reduceIte, Nat.reduceEqDiff]
      refine aw_region_seq C (pb := false) rfl fun K hK => ?_
      repeat' (first | refine wy1 (a := by simp only [go_sem, ↓reduceIte, Nat.reduceEqDiff, reduceCtorEq, Nat.reduceAdd, Nat.reduceMul, Nat.reduceLeDiff, aLoad, aStore, wrap_small (o - 1) (by omega) (by omega)]; exact rfl) (h := ?_) | fail)
      refine awOps_nil (hK _ _ ?_)
      clear hK K
      refine aw_seq ?_
      refine aw_region_seq C (pb := false) rfl fun K hK => ?_
      repeat' (first | refine wy1 (a := by simp only [go_sem, ↓reduceIte, Nat.reduceEqDiff, reduceCtorEq, Nat.reduceAdd, Nat.reduceMul, Nat.reduceLeDiff, aLoad, aStore, idxC hx hi2]; exact rfl) (h := ?_) | fail)
      refine awOps_nil (hK _ _ ?_)
      clear hK K
      refine aw_cond (by rfl) ?_ ?_
      · intro hc2
        try simp only [beq_iff_eq, beq_eq_false_iff_ne, ne_eq] at hc2
        refine aw_region C (pb := false) rfl ?_
        repeat' (first | refine wy1 (a := by simp only [go_sem, ↓reduceIte, Nat.reduceEqDiff, reduceCtorEq, Nat.reduceAdd, Nat.reduceMul, Nat.reduceLeDiff, aLoad, aStore, idxC hx hi2, wrap_small (o - 1 + t[i].n) (by have := cellOk_n hk3 hc2; omega) (by have := cellOk_n hk3 hc2; omega)]; exact rfl) (h := ?_) | fail)
        refine awOps_nil ?_
        try simp only [thenA_normal, thenA_ret, thenA_exit, blockA_normal, blockA_ret, blockA_exit]
        refine aw_region_seq C (pb := false) rfl fun K hK => ?_
        repeat' (first | refine wy0 (h := ?_) | fail)
        refine awOps_nil (hK _ _ ?_)
        clear hK K
        refine aw_cond (by rfl) ?_ ?_
        · intro hc3
          try simp only [beq_iff_eq, beq_eq_false_iff_ne, ne_eq] at hc3
          refine aw_region_seq C (pb := false) rfl fun K hK => ?_
          repeat' (first | refine wy1 (a := by simp only [go_sem, ↓reduceIte, Nat.reduceEqDiff, reduceCtorEq, Nat.reduceAdd, Nat.reduceMul, Nat.reduceLeDiff, aLoad, aStore, wrap_small ((i : Int) + 1) (by omega) (by omega)]; exact rfl) (h := ?_) | fail)
          refine awOps_nil (hK _ _ ?_)
          clear hK K
          refine aw_ret ?_
          try simp only [thenA_normal, thenA_ret, thenA_exit, blockA_normal, blockA_ret, blockA_exit]
          simp only [go_sem, ↓reduceIte, Nat.reduceEqDiff, reduceCtorEq, Nat.reduceAdd, Nat.reduceMul, Nat.reduceLeDiff, aLoad, aStore, FnQ, resA]
          -- 0t1f2t3t.ret
          refine fun _ => ⟨by first | rfl | trivial, hs1.2.1, hs1.2.2, ?_⟩
          rw [← h3, hdrop, endG, if_pos hk3, if_pos hc2, if_pos hc3]
        · intro hc3
          try simp only [beq_iff_eq, beq_eq_false_iff_ne, ne_eq] at hc3
          refine aw_skip ?_
          simp only [thenA_normal, thenA_ret, thenA_exit, blockA_normal, blockA_ret, blockA_exit, ↓reduceIte, Nat.reduceEqDiff]
          refine aw_region C (pb := false) rfl ?_
          repeat' (first | refine wy1 (a := by simp only [go_sem, ↓reduceIte, Nat.reduceEqDiff, reduceCtorEq, Nat.reduceAdd, Nat.reduceMul, Nat.reduceLeDiff, aLoad, aStore, wrap_small ((i : Int) + 1) (by omega) (by omega)]; exact rfl) (h := ?_) | fail)
          refine awOps_nil ?_
          try simp only [thenA_normal, thenA_ret, thenA_exit, blockA_normal, blockA_ret, blockA_exit]
          -- end of round 0 at 0t1f2t3f
          refine ⟨t.length - (i + 1), [(0, .av (.sc x)), (5, vI (o - 1 + t[i].n)), (6, vI (i + 1))], by omega, AllIn.less ⟨rfl, rfl, rfl, trivial⟩, i + 1, o - 1 + t[i].n, rfl, rfl, ?_, ?_, ?_⟩
          · exact hs1.up (by omega)
          · have := cellOk_n hk3 hc2
            omega
          · rw [← h3, hdrop, endG, if_pos hk3, if_pos hc2, if_neg hc3]
      · intro hc2
        try simp only [beq_iff_eq, beq_eq_false_iff_ne, ne_eq] at hc2
        refine aw_skip ?_
        simp only [thenA_normal, thenA_ret, thenA_exit, blockA_normal, blockA_ret, blockA_exit, ↓reduceIte, Nat.reduceEqDiff]
        refine aw_region_seq C (pb := false) rfl fun K hK => ?_
        repeat' (first | refine wy0 (h := ?_) | fail)
        refine awOps_nil (hK _ _ ?_)
        clear hK K
        refine aw_cond (by rfl) ?_ ?_
        · intro hc4
          try simp only [beq_iff_eq, beq_eq_false_iff_ne, ne_eq] at hc4
          refine aw_region_seq C (pb := false) rfl fun K hK => ?_
          repeat' (first | refine wy1 (a := by simp only [go_sem, ↓reduceIte, Nat.reduceEqDiff, reduceCtorEq, Nat.reduceAdd, Nat.reduceMul, Nat.reduceLeDiff, aLoad, aStore, wrap_small ((i : Int) + 1) (by omega) (by omega)]; exact rfl) (h := ?_) | fail)
          refine awOps_nil (hK _ _ ?_)
          clear hK K
          refine aw_ret ?_
          try simp only [thenA_normal, thenA_ret, thenA_exit, blockA_normal, blockA_ret, blockA_exit]
          simp only [go_sem, ↓reduceIte, Nat.reduceEqDiff, reduceCtorEq, Nat.reduceAdd, Nat.reduceMul, Nat.reduceLeDiff, aLoad, aStore, FnQ, resA]
          -- 0t1f2f4t.ret
          refine fun _ => ⟨by first | rfl | trivial, hs1.2.1, hs1.2.2, ?_⟩
          rw [← h3, hdrop, endG, if_pos hk3, if_neg hc2, if_pos hc4]
        · intro hc4
          try simp only [beq_iff_eq, beq_eq_false_iff_ne, ne_eq] at hc4
          refine aw_skip ?_
          simp only [thenA_normal, thenA_ret, thenA_exit, blockA_normal, blockA_ret, blockA_exit, ↓reduceIte, Nat.reduceEqDiff]
          refine aw_region C (pb := false) rfl ?_
          repeat' (first | refine wy1 (a := by simp only [go_sem, ↓reduceIte, Nat.reduceEqDiff, reduceCtorEq, Nat.reduceAdd, Nat.reduceMul, Nat.reduceLeDiff, aLoad, aStore, wrap_small ((i : Int) + 1) (by omega) (by omega)]; exact rfl) (h := ?_) | fail)
          refine awOps_nil ?_
          try simp only [thenA_normal, thenA_ret, thenA_exit, blockA_normal, blockA_ret, blockA_exit]
          -- end of round 0 at 0t1f2f4f
          refine ⟨t.length - (i + 1), [(0, .av (.sc x)), (5, vI (o - 1)), (6, vI (i + 1))], by omega, AllIn.less ⟨rfl, rfl, rfl, trivial⟩, i + 1, o - 1, rfl, rfl, ?_, ?_, ?_⟩
          · exact hs1.up (by omega)
          · omega
          · rw [← h3, hdrop, endG, if_pos hk3, if_neg hc2, if_neg hc4]
  · intro hc0
    try simp only [decide_eq_true_eq, decide_eq_false_iff_not] at hc0
    refine aw_exit ?_
    simp only [thenA_normal, thenA_ret, thenA_exit, blockA_normal, blockA_ret, blockA_exit, ↓reduceIte, Nat.reduceEqDiff]
    refine aw_region_seq C (pb := false) rfl fun K hK => ?_
    repeat' (first | refine wy0 (h := ?_) | fail)
    refine awOps_nil (hK _ _ ?_)
    clear hK K
    refine aw_ret ?_
    simp only [go_sem, ↓reduceIte, Nat.reduceEqDiff, reduceCtorEq, Nat.reduceAdd, Nat.reduceMul, Nat.reduceLeDiff, aLoad, aStore, FnQ, resA]
    -- 0f.x0.ret
    refine fun _ => ⟨by first | rfl | trivial, hs1.2.1, hs1.2.2, ?_⟩
    rw [← h3, List.drop_of_length_le (by omega), endG]
end Go.Am.Seat
/-
  MADE BY PROGRAM (am.py): the walks of functions 32.
-/
namespace Go.Am.Seat
open Go.Proofs

def rightOk (t : List Cell) : Bool := (decide ((t.length : Int) ≥ 1) && decide ((t.length : Int) ≤ 200)) && (endG t 1 0 == (t.length : Int))

theorem bod32 : Try.f32.body = some (Try.f32.body.getD .skip) := rfl
theorem fn32 (L : Loops) (t : List Cell) (s : Me) (x : Sc) (hx : GSl encC x t) (hl : t.length ≤ 281474976710656) (hn : ∀ c ∈ t, c.name.size ≤ 1152921504606846976) : FnL Try.prog L 32 [.av (.sc x)] s fun r s' => (r = vB (rightOk t)) ∧ s' = s := by
  refine FnL.pure (R := fun r => r = vB (rightOk t)) ?_
  refine fn_of_body (ts := [2]) Try.func32 bod32 rfl (by simp) (by simp [Try.ntmps32]) fun D0 => ?_
  unfold Try.f32
  simp only [Option.getD_some, initSl]
  refine aw_region_seq C (pb := false) rfl fun K hK => ?_
  repeat' (first | refine wy0 (h := ?_) | fail)
  refine awOps_nil (hK _ _ ?_)
  clear hK K
  refine aw_cut_seq C (pb := false) [(2, vB ((decide ((t.length : Int) ≥ 1) && decide ((t.length : Int) ≤ 200)) && (endG t 1 0 == (t.length : Int))))] rfl ?_ fun n1 hn1 => ?_
  · cases hA0 : (decide ((t.length : Int) ≥ 1) : Bool) <;> cases hA1 : (decide ((t.length : Int) ≤ 200) : Bool) <;> cases hA2 : (endG t 1 0 == (t.length : Int) : Bool)
    all_goals (repeat' (first | refine wy1 (a := by simp only [go_sem, ↓reduceIte, Nat.reduceEqDiff, reduceCtorEq, Nat.reduceAdd, Nat.reduceMul, Nat.reduceLeDiff, aLoad, aStore, lenC hx, hA0, hA1, hA2]; exact rfl) (h := ?_) | refine wn (h := ?_) | fail))
    all_goals (try (first | (refine wc (And.intro Try.call62 (fn62 L t 0 _ x hx hl hn (by omega))) ?_; rintro _ _ ⟨rfl, rfl⟩) | refine wn (h := ?_) | fail))
    all_goals (repeat' (first | refine wy1 (a := by simp only [go_sem, ↓reduceIte, Nat.reduceEqDiff, reduceCtorEq, Nat.reduceAdd, Nat.reduceMul, Nat.reduceLeDiff, aLoad, aStore, lenC hx, hA0, hA1, hA2]; exact rfl) (h := ?_) | refine wn (h := ?_) | fail))
    all_goals (exact awOps_nil ⟨⟨rfl, trivial⟩, rfl, (by first | omega | (dsimp only; omega)), rfl⟩)
  refine aw_ret ?_
  simp only [go_sem, ↓reduceIte, Nat.reduceEqDiff, reduceCtorEq, Nat.reduceAdd, Nat.reduceMul, Nat.reduceLeDiff, aLoad, aStore, FnQ, resA]
  -- .ret
  exact fun _ => ⟨by first | rfl | trivial, by first | exact fun _ _ => rfl | trivial, by first | rfl | trivial, rfl⟩
end Go.Am.Seat
/-
  MADE BY PROGRAM (am.py): the walks of functions 33.
-/
namespace Go.Am.Seat
open Go.Proofs

def andI (a b : Int) : Int := IntKind.i64.wrap (BitVec.ofInt IntKind.i64.bits a &&& BitVec.ofInt IntKind.i64.bits b).toNat
def nameR (x : ByteArray) : ByteArray := if (andI x.size 1 == 1) = true then ⟨#[102]⟩ else if (andI x.size 2 == 2) = true then ⟨#[103]⟩ else ⟨#[97]⟩

theorem bod33 : Try.f33.body = some (Try.f33.body.getD .skip) := rfl
theorem fn33 (L : Loops) (x : ByteArray) (s : Me)  : FnL Try.prog L 33 [.av (.sc (.str x))] s fun r s' => (r = .av (.sc (.str (nameR x)))) ∧ s' = s := by
  refine FnL.pure (R := fun r => r = .av (.sc (.str (nameR x)))) ?_
  refine fn_of_body (ts := [2]) Try.func33 bod33 rfl (by simp) (by simp [Try.ntmps33]) fun D0 => ?_
  unfold Try.f33
  simp only [Option.getD_some, initSl]
  refine aw_region_seq C (pb := false) rfl fun K hK => ?_
  repeat' (first | refine wy0 (h := ?_) | fail)
  refine awOps_nil (hK _ _ ?_)
  clear hK K
  refine aw_seq ?_
  refine aw_region_seq C (pb := false) rfl fun K hK => ?_
  repeat' (first | refine wy1 (a := by simp only [go_sem, ↓reduceIte, Nat.reduceEqDiff, reduceCtorEq, Nat.reduceAdd, Nat.reduceMul, Nat.reduceLeDiff, aLoad, aStore, lenS]; exact rfl) (h := ?_) | fail)
  refine awOps_nil (hK _ _ ?_)
  clear hK K
  refine aw_cond (by rfl) ?_ ?_
  · intro hc0
    refine aw_region_seq C (pb := false) rfl fun K hK => ?_
    repeat' (first | refine wy0 (h := ?_) | fail)
    refine awOps_nil (hK _ _ ?_)
    clear hK K
    refine aw_ret ?_
    try simp only [thenA_normal, thenA_ret, thenA_exit, blockA_normal, blockA_ret, blockA_exit]
    simp only [go_sem, ↓reduceIte, Nat.reduceEqDiff, reduceCtorEq, Nat.reduceAdd, Nat.reduceMul, Nat.reduceLeDiff, aLoad, aStore, FnQ, resA]
    -- 0t.ret
    exact fun _ => ⟨by first | rfl | trivial, by first | exact fun _ _ => rfl | trivial, by first | rfl | trivial, by rw [nameR, if_pos (show (andI x.size 1 == 1) = true from hc0)]⟩
  · intro hc0
    refine aw_skip ?_
    simp only [thenA_normal, thenA_ret, thenA_exit, blockA_normal, blockA_ret, blockA_exit, ↓reduceIte, Nat.reduceEqDiff]
    refine aw_seq ?_
    refine aw_region_seq C (pb := false) rfl fun K hK => ?_
    repeat' (first | refine wy1 (a := by simp only [go_sem, ↓reduceIte, Nat.reduceEqDiff, reduceCtorEq, Nat.reduceAdd, Nat.reduceMul, Nat.reduceLeDiff, aLoad, aStore, lenS]; exact rfl) (h := ?_) | fail)
    refine awOps_nil (hK _ _ ?_)
    clear hK K
    refine aw_cond (by rfl) ?_ ?_
    · intro hc1
      refine aw_region_seq C (pb := false) rfl fun K hK => ?_
      repeat' (first | refine wy0 (h := ?_) | fail)
      refine awOps_nil (hK _ _ ?_)
      clear hK K
      refine aw_ret ?_
      try simp only [thenA_normal, thenA_ret, thenA_exit, blockA_normal, blockA_ret, blockA_exit]
      simp only [go_sem, ↓reduceIte, Nat.reduceEqDiff, reduceCtorEq, Nat.reduceAdd, Nat.reduceMul, Nat.reduceLeDiff, aLoad, aStore, FnQ, resA]
      -- 0f1t.ret
      exact fun _ => ⟨by first | rfl | trivial, by first | exact fun _ _ => rfl | trivial, by first | rfl | trivial, by rw [nameR, if_neg (show ¬ (andI x.size 1 == 1) = true from (by rw [show (andI x.size 1 == 1) = false from hc0]; exact Bool.false_ne_true)), if_pos (show (andI x.size 2 == 2) = true from hc1)]⟩
    · intro hc1
      refine aw_skip ?_
      simp only [thenA_normal, thenA_ret, thenA_exit, blockA_normal, blockA_ret, blockA_exit, ↓reduceIte, Nat.reduceEqDiff]
      refine aw_region_seq C (pb := false) rfl fun K hK => ?_
      repeat' (first | refine wy0 (h := ?_) | fail)
      refine awOps_nil (hK _ _ ?_)
      clear hK K
      refine aw_ret ?_
      simp only [go_sem, ↓reduceIte, Nat.reduceEqDiff, reduceCtorEq, Nat.reduceAdd, Nat.reduceMul, Nat.reduceLeDiff, aLoad, aStore, FnQ, resA]
      -- 0f1f.ret
      exact fun _ => ⟨by first | rfl | trivial, by first | exact fun _ _ => rfl | trivial, by first | rfl | trivial, by rw [nameR, if_neg (show ¬ (andI x.size 1 == 1) = true from (by rw [show (andI x.size 1 == 1) = false from hc0]; exact Bool.false_ne_true)), if_neg (show ¬ (andI x.size 2 == 2) = true from (by rw [show (andI x.size 2 == 2) = false from hc1]; exact Bool.false_ne_true))]⟩
end Go.Am.Seat
