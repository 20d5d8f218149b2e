/-
  UnifyTells: for every input the law returns true, and each argument reads as it read: the row, out of the walk's contract (fn3) and the plain law.
-/
import Derived.Below
import Derived.ChangeOld
import Derived.OpenShut
import Derived.ProofKit
import Derived.ShutString
import Derived.SizedLaws
import Derived.Test.YticnfndhinjbbaaRows
import Derived.WalkKit
import Derived.Test.YticnfndhinjbbaaME6
set_option linter.unusedVariables false
set_option linter.unusedSimpArgs false
/-
  MADE BY PROGRAM (am.py): the walks of functions 14.
-/
namespace Go.Am.Seat
open Go.Proofs

theorem dd_lt {t : List Cell} {c : Nat → Nat} (i : Nat) (hl : 0 < t.length) : Dd t c i < t.length := by
  rcases dd_spec (t := t) (c := c) i with ⟨h, _⟩ | ⟨k, h1, h2, _⟩ <;> omega
theorem OkP.symm {t : List Cell} {c : Nat → Nat} {a b : Nat} (h : OkP t c a b) : OkP t c b a := fun ha hb e ka kb => (h hb ha e.symm kb ka).symm
theorem fn41w (L : Loops) {t : List Cell} {n : Nat} {c : Nat → Nat} {w : Bool} (hw : cd (∃ i j, ¬ OkP t c i j) = w) (s : Me) (x : Sc) (hx : GSl encC x t) (hn : n = t.length) (hl : n ≤ 1000000) : FnL Try.prog L 41 [.av (.sc x), .av (.sc (scN n c))] s fun r s' => r = vB w ∧ s' = s := by
  refine (fn41 L t n c s x hx hn hl).mono fun r s' ⟨⟨v, h1, h2, h3⟩, h4⟩ => ⟨h1.trans (congrArg vB ?_), h4⟩
  rw [← hw]
  cases v with
  | true => exact (cd_true.2 (h3 rfl)).symm
  | false =>
    refine (cd_false.2 ?_).symm
    rintro ⟨i, j, h⟩
    rcases Nat.lt_trichotomy i j with h5 | h5 | h5
    · exact h (h2 rfl j i h5).symm
    · subst h5
      exact h fun _ _ _ _ _ => rfl
    · exact h (h2 rfl i j h5)
theorem fn42w (L : Loops) {t : List Cell} {n : Nat} {c : Nat → Nat} {w : Bool} (hw : cd (¬ ∀ i, i < t.length → ∃ l, Trm t c (Dd t c) (Nd t c) i l) = w) (s : Me) (x : Sc) (hx : GSl encC x t) (hn : n = t.length) (hn0 : 0 < n) (hl : n ≤ 1000000) (ht : TOK t) (hci : CI t.length c) : FnL Try.prog L 42 [.av (.sc x), .av (.sc (scN n c))] s fun r s' => r = vB w ∧ s' = s := by
  subst hn
  refine (fn42 L t t.length c (Nd t c) s x hx rfl hl ht hci (fun i hi => dd_lt i hn0)).mono fun r s' ⟨⟨v, h1, h2, h3⟩, h4⟩ => ⟨h1.trans (congrArg vB ?_), h4⟩
  rw [← hw]
  cases v with
  | false => exact (cd_false.2 fun h => h (h2 rfl)).symm
  | true =>
    refine (cd_true.2 fun hall => ?_).symm
    obtain ⟨f, ⟨i, hi, hf⟩, hst⟩ := h3 rfl
    obtain ⟨l, hl⟩ := hall i hi
    have := stk_none ht (fun i hi => dd_lt i hn0) hci hst _ i l (Nat.le_refl _) hi hl
    rw [this] at hf
    cases hf
theorem fn46g (L : Loops) {t : List Cell} {n a0 : Nat} {c : Nat → Nat} {l : List Cell} {g : Bool} (hg : decide (l.length ≤ 200) = g) (s : Me) (x : Sc) (hx : GSl encC x t) (hn : n = t.length) (hl : n ≤ 1000000) (ht : TOK t) (hci : CI t.length c) (ha0 : a0 < n) (hT : Trm t c (Dd t c) (Nd t c) a0 l) : FnL Try.prog L 46 [.av (.sc x), .av (.sc (scN n c)), vI a0] s fun r s' => (∃ z, r = .tup [.av (.sc z), vB g] ∧ (g = true → z = .sl l.length (l.flatMap encC))) ∧ s' = s := by
  refine (fn46 L t n a0 c l s x hx hn hl ht hci ha0 hT).mono fun r s' ⟨h1, h2⟩ => ⟨?_, h2⟩
  rw [← hg]
  rcases h1 with ⟨h3, h4⟩ | ⟨h3, h4⟩
  · rw [decide_eq_false (by omega)]
    exact ⟨_, h4, fun h => by cases h⟩
  · rw [decide_eq_true h3]
    exact ⟨_, h4, fun _ => rfl⟩
def AtP (t : List Cell) (v : Int) (q : Nat) (a : Int) : Prop := (a = -1 ∧ ∀ k (h : k < t.length), k < q → ¬ (t[k].kind = 1 ∧ t[k].n = v)) ∨ ∃ (k : Nat) (h : k < t.length), a = (k : Int) ∧ t[k].kind = 1 ∧ t[k].n = v
theorem sorted_len {vs : List Int} (h : vs.Pairwise (· < ·)) (hr : ∀ v ∈ vs, 0 ≤ v ∧ v ≤ 999) : vs.length ≤ 1000 := by
  have key : ∀ i (hi : i < vs.length), (i : Int) ≤ vs[i] := by
    intro i
    induction i with
    | zero => intro hi; exact (hr _ (List.getElem_mem hi)).1
    | succ i ih =>
      intro hi
      have h1 := ih (by omega)
      have h2 := List.pairwise_iff_getElem.1 h i (i + 1) (by omega) hi (by omega)
      omega
  rcases Nat.eq_zero_or_pos vs.length with h0 | h0
  · omega
  · have h1 := key (vs.length - 1) (by omega)
    have h2 := (hr _ (List.getElem_mem (show vs.length - 1 < vs.length by omega))).2
    omega
def bndV (s : Int → List Cell) (v : Int) : Option (Int × List Cell) := if s v = [varCell v] then none else some (v, s v)
theorem bndV_eq {a b : List Cell} (ha : RTm a) (hb : RTm b) {s : Int → List Cell} (h : NormO a b s) {vs : List Int} (hs : vs.Pairwise (· < ·)) (ho : ∀ n, n ∈ vs ↔ occ (a ++ b) n) : vs.filterMap (bndV s) = (bnds s).map toI := by
  have key : ∀ {n : Int} {p : Int × List Cell}, bndV s n = some p → p = (n, s n) ∧ s n ≠ [varCell n] := fun {n p} h => by
    rw [bndV] at h
    split at h
    · cases h
    · rename_i h1
      exact ⟨(Option.some.inj h).symm, h1⟩
  refine sorted_ext ?_ (bnds_lt s) fun p => ?_
  · rw [List.pairwise_filterMap]
    refine hs.imp fun {n m} hnm p hp q hq => ?_
    rw [(key hp).1, (key hq).1]
    exact hnm
  · rw [bnds_mem, List.mem_filterMap]
    constructor
    · rintro ⟨n, hn, hp⟩
      obtain ⟨h1, h2⟩ := key hp
      have hr := occ_range (ok_two ha hb) ((ho n).1 hn)
      have e : ((n.toNat : Nat) : Int) = n := by omega
      exact ⟨n.toNat, by omega, by rw [e]; exact h1, by rw [e]; exact h2⟩
    · rintro ⟨n, _, h1, h2⟩
      have hoc : occ (a ++ b) n := Classical.byContradiction fun k => h2 (h.out n k)
      exact ⟨n, (ho n).2 hoc, by rw [bndV, if_neg h2, h1]⟩

-- many steps
theorem bod14 : Try.f14.body = some (Try.f14.body.getD .skip) := rfl
set_option maxHeartbeats 2000000 in
set_option maxRecDepth 10000 in
theorem fn14 (L : Loops) (a b : List Cell) (s : Me) (ra : RTm a) (rb : RTm b) : FnL Try.prog L 14 [vC a, vC b] s fun r s' => (∃ z, r = .tup [.av (.sc z), vI (mgu a b).2] ∧ GSl encB z (((mgu a b).1.map toI).map bndI)) ∧ s' = s := by
  refine FnL.pure (R := fun r => ∃ z, r = .tup [.av (.sc z), vI (mgu a b).2] ∧ GSl encB z (((mgu a b).1.map toI).map bndI)) ?_
  have a1 := ra.pos
  have a2 := ra.len
  have b1 := rb.pos
  have b2 := rb.len
  refine fn_of_body (ts := [4, 5]) Try.func14 bod14 rfl (by simp) (by simp [Try.ntmps14]) fun D0 => ?_
  unfold Try.f14
  simp only [Option.getD_some, initSl]
  refine aw_region_seq C (pb := false) rfl fun K hK => ?_
  repeat' (first | refine wy0 (h := ?_) | fail)
  refine awOps_nil (hK _ _ ?_)
  clear hK K
  refine aw_region_seq C (pb := false) rfl fun K hK => ?_
  repeat' (first | refine wy0 (h := ?_) | fail)
  refine wy2 ((show aop C false _ _ _ _ = aAppend T _ _ 22 _ _ from rfl).trans (appC0 (l := a) (upd_same _ _ _) a1 (by omega))) ?_
  repeat' (first | refine wy0 (h := ?_) | fail)
  refine awOps_nil (hK _ _ ?_)
  clear hK K
  refine aw_region_seq C (pb := false) rfl fun K hK => ?_
  repeat' (first | refine wy0 (h := ?_) | fail)
  refine wy2 ((show aop C false _ _ _ _ = aAppend T _ _ 22 _ _ from rfl).trans (appC (out := a) (l := b) (upd_same _ _ _) b1 (by omega))) ?_
  repeat' (first | refine wy0 (h := ?_) | fail)
  refine awOps_nil (hK _ _ ?_)
  refine aw_pur 6 (celC_pure (upd_same _ _ _)) ?_
  obtain ⟨t, ht0⟩ : ∃ t, t = a ++ b := ⟨_, rfl⟩
  rw [← ht0]
  have ht : TOK t := ht0 ▸ tok_two ra rb
  obtain ⟨n, hn⟩ : ∃ n, n = t.length := ⟨_, rfl⟩
  have hnl : n = a.length + b.length := by rw [hn, ht0, List.length_append]
  refine aw_state (J := fun s2 => Kp s s2) ⟨(by first | omega | (dsimp only; omega) | (dsimp only at *; omega)), fun j hj => (upd_ne _ _ (by omega)).trans ((upd_ne _ _ (by omega)).trans ((upd_ne _ _ (by omega)).trans ((upd_ne _ _ (by omega)).trans ((upd_ne _ _ (by omega)).trans (upd_ne _ _ (by omega)))))), rfl⟩ fun s2 hJ2 => ?_
  clear hK K
  refine aw_region_seq C (pb := false) rfl fun K hK => ?_
  repeat' (first | refine wy1 (a := by simp only [go_sem, ↓reduceIte, Nat.reduceEqDiff, reduceCtorEq, Nat.reduceAdd, Nat.reduceMul, Nat.reduceLeDiff, aLoad, aStore, lenC (gslC a)]; exact rfl) (h := ?_) | fail)
  refine wc (And.intro Try.call40 (fn40 L t n a.length _ _ (gslC t) hn (by omega) ht (by omega))) ?_
  rintro _ _ ⟨⟨c, rfl, hcl⟩, rfl⟩
  repeat' (first | refine wy1 (a := by simp only [go_sem, ↓reduceIte, Nat.reduceEqDiff, reduceCtorEq, Nat.reduceAdd, Nat.reduceMul, Nat.reduceLeDiff, aLoad, aStore, lenC (gslC a)]; exact rfl) (h := ?_) | fail)
  refine awOps_nil (hK _ _ ?_)
  refine AW.less (sl' := [(6, vC t), (7, .av (.sc (scN n c)))]) (AllIn.less ⟨rfl, rfl, trivial⟩) ?_
  clear hK K
  refine aw_seq ?_
  obtain ⟨w1, hw1⟩ : ∃ w, w = cd (∃ i j, ¬ OkP t c i j) := ⟨_, rfl⟩
  obtain ⟨w2, hw2⟩ : ∃ w, w = cd (¬ ∀ i, i < t.length → ∃ l, Trm t c (Dd t c) (Nd t c) i l) := ⟨_, rfl⟩
  refine aw_cut_seq C (pb := false) [(6, vC t), (7, .av (.sc (scN n c))), (33, vB (w1 || w2))] rfl ?_ fun n4 hn4 => ?_
  · cases hA0 : (w1 : Bool)
    all_goals (repeat' (first | refine wy1 (a := by simp only [go_sem, ↓reduceIte, Nat.reduceEqDiff, reduceCtorEq, Nat.reduceAdd, Nat.reduceMul, Nat.reduceLeDiff, aLoad, aStore, hA0]; exact rfl) (h := ?_) | fail))
    all_goals ((refine wc (And.intro Try.call41 (fn41w L hw1.symm _ _ (gslC t) hn (by omega))) ?_; rintro _ _ ⟨rfl, rfl⟩))
    all_goals (repeat' (first | refine wy1 (a := by simp only [go_sem, ↓reduceIte, Nat.reduceEqDiff, reduceCtorEq, Nat.reduceAdd, Nat.reduceMul, Nat.reduceLeDiff, aLoad, aStore, hA0]; exact rfl) (h := ?_) | refine wn (h := ?_) | fail))
    all_goals (try (first | (refine wc (And.intro Try.call42 (fn42w L hw2.symm _ _ (gslC t) hn (by omega) (by omega) ht hcl.ci)) ?_; rintro _ _ ⟨rfl, rfl⟩) | refine wn (h := ?_) | fail))
    all_goals (repeat' (first | refine wy1 (a := by simp only [go_sem, ↓reduceIte, Nat.reduceEqDiff, reduceCtorEq, Nat.reduceAdd, Nat.reduceMul, Nat.reduceLeDiff, aLoad, aStore, hA0]; exact rfl) (h := ?_) | fail))
    all_goals (exact awOps_nil ⟨⟨rfl, rfl, rfl, trivial⟩, rfl, (by first | omega | (dsimp only; omega)), rfl⟩)
  refine aw_cond (by rfl) ?_ ?_
  · intro hc0
    have hmg := ref_none ra rb (ht0 ▸ hcl) (by
      rw [← ht0]
      rcases Bool.or_eq_true_iff.1 (show (w1 || w2) = true from hc0) with h | h
      · exact .inl (cd_true.1 (hw1.symm.trans h))
      · exact .inr (cd_true.1 (hw2.symm.trans h)))
    refine aw_region_seq C (pb := false) rfl fun K hK => ?_
    repeat' (first | refine wy0 (h := ?_) | fail)
    refine awOps_nil (hK _ _ ?_)
    clear hK K
    refine aw_ret ?_
    try simp only [thenA_normal, thenA_ret, thenA_exit, blockA_normal, blockA_ret, blockA_exit]
    simp only [go_sem, ↓reduceIte, Nat.reduceEqDiff, reduceCtorEq, Nat.reduceAdd, Nat.reduceMul, Nat.reduceLeDiff, aLoad, aStore, FnQ, resA]
    -- 0t.ret
    exact fun _ => ⟨by first | rfl | trivial, hJ2.2.1, hJ2.2.2, .nilsl, by rw [hmg], by rw [hmg]; exact .inl ⟨rfl, rfl⟩⟩
  · intro hc0
    obtain ⟨h1, h2⟩ := Bool.or_eq_false_iff.1 (show (w1 || w2) = false from hc0)
    have hop : ∀ i j, OkP t c i j := fun i j => Classical.byContradiction fun k => cd_false.1 (hw1.symm.trans h1) ⟨i, j, k⟩
    have hall : ∀ i, i < t.length → ∃ l, Trm t c (Dd t c) (Nd t c) i l := Classical.byContradiction fun k => cd_false.1 (hw2.symm.trans h2) k
    have hN := ref_norm ra rb (ht0 ▸ hcl) (ht0 ▸ hop) (ht0 ▸ hall)
    rw [← ht0] at hN
    obtain ⟨σ, hσ⟩ : ∃ σ, σ = sol t c (Dd t c) (Nd t c) := ⟨_, rfl⟩
    have hsv : ∀ k (hk : k < t.length) (l : List Cell), t[k].kind = 1 → Trm t c (Dd t c) (Nd t c) k l → σ t[k].n = l := fun k hk l h1 h2 => by rw [hσ]; exact sol_var (cls_js hcl (by rw [ht0]; exact ok_two ra rb)) hk h1 h2
    rw [← hσ] at hN
    have hmn := mgu_norm ra rb hN
    refine aw_skip ?_
    simp only [thenA_normal, thenA_ret, thenA_exit, blockA_normal, blockA_ret, blockA_exit, ↓reduceIte, Nat.reduceEqDiff]
    refine aw_region_seq C (pb := false) rfl fun K hK => ?_
    repeat' (first | refine wy0 (h := ?_) | fail)
    refine wc (And.intro Try.call43 (fn43 L t _ _ (gslC t) (by omega))) ?_
    rintro _ _ ⟨⟨vs, yv, rfl, hyv, hvs, hvo⟩, rfl⟩
    repeat' (first | refine wy0 (h := ?_) | fail)
    refine awOps_nil (hK _ _ ?_)
    refine AW.less (sl' := [(6, vC t), (7, .av (.sc (scN n c))), (8, .av (.own n4 0 0 2)), (9, .av (.sc yv))]) (AllIn.less ⟨rfl, rfl, rfl, rfl, trivial⟩) ?_
    refine aw_state (J := fun s6 => Kp s s6 ∧ Acc s.nx s6.nx s6.ob (.av (.own n4 0 0 2)) 0 2 []) ⟨⟨by have := hJ2.1; exact (by first | omega | (dsimp only; omega) | (dsimp only at *; omega)), fun j hj => (upd_ne _ _ (by have := hJ2.1; omega)).trans (hJ2.2.1 j hj), hJ2.2.2⟩, .inr ⟨n4, 0, rfl, by have := hJ2.1; omega, (by first | omega | (dsimp only; omega) | (dsimp only at *; omega)), upd_same _ _ _, by simp, by simp⟩⟩ fun s6 hJ => ?_
    have hvl := sorted_len hvs fun v hv => occ_range (by rw [ht0]; exact ok_two ra rb) ((hvo v).1 hv)
    clear hK K
    refine aw_seq ?_
    refine aw_region_seq C (pb := false) rfl fun K hK => ?_
    repeat' (first | refine wy0 (h := ?_) | fail)
    refine awOps_nil (hK _ _ ?_)
    clear hK K
    refine aw_block ?_
    refine AW.less (sl' := [(6, vC t), (7, .av (.sc (scN n c))), (8, (_)), (9, .av (.sc yv)), (10, vI (0))]) (AllIn.less ⟨rfl, rfl, rfl, rfl, rfl, trivial⟩) (aw_loop (fun k sl1 s1 => ∃ (i : Nat) (xo : Va) (out : List (Int × List Cell)), k = vs.length - i ∧ sl1 = [(6, vC t), (7, .av (.sc (scN n c))), (8, (xo)), (9, .av (.sc yv)), (10, vI (i))] ∧ (Kp s s1) ∧ (i ≤ vs.length) ∧ (Acc s.nx s1.nx s1.ob xo out.length 2 (((out.map bndI).flatMap encB).map .sc)) ∧ (out = (vs.take i).filterMap (bndV σ)) ∧ (∀ v ∈ vs.take i, (σ v).length ≤ 200)) (k := vs.length - (0)) ⟨0, _, [], rfl, rfl, hJ.1.up (by first | omega | (dsimp only; omega) | (dsimp only at *; omega)), Nat.zero_le _, hJ.2.up (by first | omega | (dsimp only; omega) | (dsimp only at *; omega)) fun _ _ _ => rfl, rfl, fun v hv => by simp at hv⟩ ?_)
    rintro k1 _ s1 ⟨i, xo, out, hk1, rfl, hs1, hb, hacc, hout, hsm⟩
    refine aw_seq ?_
    refine aw_region_seq C (pb := false) rfl fun K hK => ?_
    repeat' (first | refine wy1 (a := by simp only [go_sem, ↓reduceIte, Nat.reduceEqDiff, reduceCtorEq, Nat.reduceAdd, Nat.reduceMul, Nat.reduceLeDiff, aLoad, aStore, lenI hyv]; exact rfl) (h := ?_) | fail)
    refine awOps_nil (hK _ _ ?_)
    clear hK K
    refine aw_cond (by rfl) ?_ ?_
    · intro hc1
      try simp only [decide_eq_true_eq, decide_eq_false_iff_not] at hc1
      have hi2 : i < vs.length := by omega
      obtain ⟨v, hv⟩ : ∃ v, v = vs[i] := ⟨_, rfl⟩
      have hix := idxI hyv hi2
      rw [← hv] at hix
      have hvm : v ∈ vs := by rw [hv]; exact List.getElem_mem hi2
      have hvoc := (hvo v).1 hvm
      have htk : vs.take (i + 1) = vs.take i ++ [v] := by rw [hv, List.take_succ_eq_append_getElem hi2]
      have hol : out.length ≤ vs.length := by rw [hout]; exact Nat.le_trans (List.length_filterMap_le _ _) (by rw [List.length_take]; omega)
      have hvr := occ_range (by rw [ht0]; exact ok_two ra rb) hvoc
      refine aw_skip ?_
      simp only [thenA_normal, thenA_ret, thenA_exit, blockA_normal, blockA_ret, blockA_exit, ↓reduceIte, Nat.reduceEqDiff]
      refine aw_seq ?_
      refine aw_block ?_
      refine aw_region_seq C (pb := false) rfl fun K hK => ?_
      repeat' (first | refine wy1 (a := by simp only [go_sem, ↓reduceIte, Nat.reduceEqDiff, reduceCtorEq, Nat.reduceAdd, Nat.reduceMul, Nat.reduceLeDiff, aLoad, aStore, hix]; exact rfl) (h := ?_) | fail)
      refine awOps_nil (hK _ _ ?_)
      clear hK K
      refine aw_seq ?_
      refine aw_region_seq C (pb := false) rfl fun K hK => ?_
      repeat' (first | refine wy0 (h := ?_) | fail)
      refine awOps_nil (hK _ _ ?_)
      clear hK K
      refine aw_block ?_
      refine AW.less (sl' := [(6, vC t), (7, .av (.sc (scN n c))), (8, xo), (9, .av (.sc yv)), (10, vI i), (11, vI v), (12, vI (-1)), (13, vI (0))]) (AllIn.less ⟨rfl, rfl, rfl, rfl, rfl, rfl, rfl, rfl, trivial⟩) (aw_loop (fun k sl1 s1 => ∃ (q : Nat) (at_ : Int), k = n - q ∧ sl1 = [(6, vC t), (7, .av (.sc (scN n c))), (8, xo), (9, .av (.sc yv)), (10, vI i), (11, vI v), (12, vI (at_)), (13, vI (q))] ∧ (Kp s s1 ∧ Acc s.nx s1.nx s1.ob xo out.length 2 (((out.map bndI).flatMap encB).map .sc)) ∧ (q ≤ n) ∧ (AtP t v q at_)) (k := n - (0)) ⟨0, -1, rfl, rfl, ⟨hs1.up (by first | omega | (dsimp only; omega) | (dsimp only at *; omega)), hacc.up (by first | omega | (dsimp only; omega) | (dsimp only at *; omega)) fun _ _ _ => rfl⟩, Nat.zero_le _, .inl ⟨rfl, fun k _ h => absurd h (by omega)⟩⟩ ?_)
      rintro k2 _ s2 ⟨q, at_, hk2, rfl, hs2, hb2, hat⟩
      refine aw_seq ?_
      refine aw_region_seq C (pb := false) rfl fun K hK => ?_
      repeat' (first | refine wy1 (a := by simp only [go_sem, ↓reduceIte, Nat.reduceEqDiff, reduceCtorEq, Nat.reduceAdd, Nat.reduceMul, Nat.reduceLeDiff, aLoad, aStore, lenC (gslC t), ← hn]; exact rfl) (h := ?_) | fail)
      refine awOps_nil (hK _ _ ?_)
      clear hK K
      refine aw_cond (by rfl) ?_ ?_
      · intro hc2
        try simp only [decide_eq_true_eq, decide_eq_false_iff_not] at hc2
        have hq2 : q < t.length := by omega
        refine aw_skip ?_
        simp only [thenA_normal, thenA_ret, thenA_exit, blockA_normal, blockA_ret, blockA_exit, ↓reduceIte, Nat.reduceEqDiff]
        refine aw_seq ?_
        refine aw_block ?_
        refine aw_cut_seq C (pb := false) [(6, vC t), (7, .av (.sc (scN n c))), (8, xo), (9, .av (.sc yv)), (10, vI i), (11, vI v), (12, vI at_), (13, vI q), (67, vB ((t[q].kind == 1) && (t[q].n == v)))] rfl ?_ fun n14 hn14 => ?_
        · cases hA0 : (t[q].kind == 1 : Bool)
          all_goals (repeat' (first | refine wy1 (a := by simp only [go_sem, ↓reduceIte, Nat.reduceEqDiff, reduceCtorEq, Nat.reduceAdd, Nat.reduceMul, Nat.reduceLeDiff, aLoad, aStore, idxC (gslC t) hq2, hA0]; exact rfl) (h := ?_) | refine wn (h := ?_) | fail))
          all_goals (exact awOps_nil ⟨⟨rfl, rfl, rfl, rfl, rfl, rfl, rfl, rfl, rfl, trivial⟩, rfl, (by first | omega | (dsimp only; omega)), rfl⟩)
        refine aw_cond (by rfl) ?_ ?_
        · intro hc3
          have hq3 : t[q].kind = 1 ∧ t[q].n = v := by simpa using hc3
          refine aw_region C (pb := false) rfl ?_
          repeat' (first | refine wy0 (h := ?_) | fail)
          refine awOps_nil ?_
          try simp only [thenA_normal, thenA_ret, thenA_exit, blockA_normal, blockA_ret, blockA_exit]
          refine aw_region C (pb := false) rfl ?_
          repeat' (first | refine wy1 (a := by simp only [go_sem, ↓reduceIte, Nat.reduceEqDiff, reduceCtorEq, Nat.reduceAdd, Nat.reduceMul, Nat.reduceLeDiff, aLoad, aStore, wrap_small ((q : Int) + 1) (by omega) (by omega)]; exact rfl) (h := ?_) | fail)
          refine awOps_nil ?_
          try simp only [thenA_normal, thenA_ret, thenA_exit, blockA_normal, blockA_ret, blockA_exit]
          -- end of round 1 at 0f1t2t3t
          refine ⟨n - (q + 1), [(6, vC t), (7, .av (.sc (scN n c))), (8, xo), (9, .av (.sc yv)), (10, vI i), (11, vI v), (12, vI ((q : Int))), (13, vI (q + 1))], by omega, AllIn.less ⟨rfl, rfl, rfl, rfl, rfl, rfl, rfl, rfl, trivial⟩, q + 1, (q : Int), rfl, rfl, ?_, ?_, ?_⟩
          · exact ⟨hs2.1.up (by first | omega | (dsimp only; omega) | (dsimp only at *; omega)), hs2.2.up (by first | omega | (dsimp only; omega) | (dsimp only at *; omega)) fun _ _ _ => rfl⟩
          · omega
          · exact .inr ⟨q, hq2, rfl, hq3.1, hq3.2⟩
        · intro hc3
          have hq3 : ¬ (t[q].kind = 1 ∧ t[q].n = v) := by simpa using hc3
          refine aw_skip ?_
          simp only [thenA_normal, thenA_ret, thenA_exit, blockA_normal, blockA_ret, blockA_exit, ↓reduceIte, Nat.reduceEqDiff]
          refine aw_region C (pb := false) rfl ?_
          repeat' (first | refine wy1 (a := by simp only [go_sem, ↓reduceIte, Nat.reduceEqDiff, reduceCtorEq, Nat.reduceAdd, Nat.reduceMul, Nat.reduceLeDiff, aLoad, aStore, wrap_small ((q : Int) + 1) (by omega) (by omega)]; exact rfl) (h := ?_) | fail)
          refine awOps_nil ?_
          try simp only [thenA_normal, thenA_ret, thenA_exit, blockA_normal, blockA_ret, blockA_exit]
          -- end of round 1 at 0f1t2t3f
          refine ⟨n - (q + 1), [(6, vC t), (7, .av (.sc (scN n c))), (8, xo), (9, .av (.sc yv)), (10, vI i), (11, vI v), (12, vI (at_)), (13, vI (q + 1))], by omega, AllIn.less ⟨rfl, rfl, rfl, rfl, rfl, rfl, rfl, rfl, trivial⟩, q + 1, at_, rfl, rfl, ?_, ?_, ?_⟩
          · exact ⟨hs2.1.up (by first | omega | (dsimp only; omega) | (dsimp only at *; omega)), hs2.2.up (by first | omega | (dsimp only; omega) | (dsimp only at *; omega)) fun _ _ _ => rfl⟩
          · omega
          · rcases hat with ⟨h1, h2⟩ | h
            · refine .inl ⟨h1, fun k h hk => ?_⟩
              by_cases e : k = q
              · subst e; exact hq3
              · exact h2 k h (by omega)
            · exact .inr h
      · intro hc2
        try simp only [decide_eq_true_eq, decide_eq_false_iff_not] at hc2
        refine aw_exit ?_
        simp only [thenA_normal, thenA_ret, thenA_exit, blockA_normal, blockA_ret, blockA_exit, ↓reduceIte, Nat.reduceEqDiff]
        refine aw_seq ?_
        obtain ⟨k, hk, rfl, hk1, hk2⟩ : ∃ (k : Nat) (h : k < t.length), at_ = (k : Int) ∧ t[k].kind = 1 ∧ t[k].n = v := by
          rcases hat with ⟨_, h⟩ | h
          · obtain ⟨k, hk, h1, h2⟩ := occ_get hvoc
            exact absurd ⟨h1, h2⟩ (h k hk (by omega))
          · exact h
        have hl : Trm t c (Dd t c) (Nd t c) k (σ v) := by
          obtain ⟨l, hl⟩ := hall k hk
          rw [← hk2, hsv k hk l hk1 hl]; exact hl
        refine aw_cut_seq C (pb := false) [(6, vC t), (7, .av (.sc (scN n c))), (8, xo), (9, .av (.sc yv)), (10, vI i), (11, vI v), (12, vI (k : Nat)), (81, vB (decide (Dd t c k < 0) && (Nd t c k == v)))] rfl ?_ fun n16 hn16 => ?_
        · cases hA0 : (decide (Dd t c k < 0) : Bool)
          all_goals (repeat' (first | refine wy1 (a := by simp only [go_sem, ↓reduceIte, Nat.reduceEqDiff, reduceCtorEq, Nat.reduceAdd, Nat.reduceMul, Nat.reduceLeDiff, aLoad, aStore, hA0]; exact rfl) (h := ?_) | fail))
          all_goals ((refine wc (And.intro Try.call44 (fnDoes L rfl _ _ (gslC t) hn (by omega) (by omega))) ?_; rintro _ _ ⟨rfl, rfl⟩))
          all_goals (repeat' (first | refine wy1 (a := by simp only [go_sem, ↓reduceIte, Nat.reduceEqDiff, reduceCtorEq, Nat.reduceAdd, Nat.reduceMul, Nat.reduceLeDiff, aLoad, aStore, hA0]; exact rfl) (h := ?_) | refine wn (h := ?_) | fail))
          all_goals (try (first | (refine wc (And.intro Try.call45 (fnLeast L rfl _ _ (gslC t) hn (by omega) (by omega))) ?_; rintro _ _ ⟨rfl, rfl⟩) | refine wn (h := ?_) | fail))
          all_goals (repeat' (first | refine wy1 (a := by simp only [go_sem, ↓reduceIte, Nat.reduceEqDiff, reduceCtorEq, Nat.reduceAdd, Nat.reduceMul, Nat.reduceLeDiff, aLoad, aStore, hA0]; exact rfl) (h := ?_) | refine wn (h := ?_) | fail))
          all_goals (exact awOps_nil ⟨⟨rfl, rfl, rfl, rfl, rfl, rfl, rfl, rfl, trivial⟩, rfl, (by first | omega | (dsimp only; omega)), rfl⟩)
        refine aw_cond (by rfl) ?_ ?_
        · intro hc4
          have hse : σ v = [varCell v] := by
            simp only [Bool.and_eq_true, decide_eq_true_eq, beq_iff_eq] at hc4
            rcases Trm.two hcl.ci hk hl with ⟨_, h⟩ | ⟨j, _, _, h, _⟩
            · rw [h, hc4.2]
            · omega
          refine aw_exit ?_
          simp only [thenA_normal, thenA_ret, thenA_exit, blockA_normal, blockA_ret, blockA_exit, ↓reduceIte, Nat.reduceEqDiff]
          refine aw_region C (pb := false) rfl ?_
          repeat' (first | refine wy1 (a := by simp only [go_sem, ↓reduceIte, Nat.reduceEqDiff, reduceCtorEq, Nat.reduceAdd, Nat.reduceMul, Nat.reduceLeDiff, aLoad, aStore, wrap_small ((i : Int) + 1) (by omega) (by omega)]; exact rfl) (h := ?_) | fail)
          refine awOps_nil ?_
          try simp only [thenA_normal, thenA_ret, thenA_exit, blockA_normal, blockA_ret, blockA_exit]
          -- end of round 0 at 0f1t2f.x24t.x1
          refine ⟨vs.length - (i + 1), [(6, vC t), (7, .av (.sc (scN n c))), (8, (xo)), (9, .av (.sc yv)), (10, vI (i + 1))], by omega, AllIn.less ⟨rfl, rfl, rfl, rfl, rfl, trivial⟩, i + 1, xo, out, rfl, rfl, ?_, ?_, ?_, ?_, ?_⟩
          · exact hs2.1.up (by first | omega | (dsimp only; omega))
          · omega
          · exact hs2.2.up (by first | omega | (dsimp only; omega)) fun _ _ _ => rfl
          · rw [htk, List.filterMap_append, ← hout]
            simp [bndV, hse]
          · intro v' hv'
            rw [htk] at hv'
            rcases List.mem_append.1 hv' with h | h
            · exact hsm v' h
            · rw [List.mem_singleton.1 h, hse]; simp
        · intro hc4
          have hse : ¬ σ v = [varCell v] := by
            intro e
            rcases Trm.two hcl.ci hk hl with ⟨h1, h⟩ | ⟨j, hj, ls, h1, h, _⟩
            · rw [h] at e
              have := congrArg Cell.n (List.cons.inj e).1
              rw [decide_eq_true h1, beq_iff_eq.2 (show Nd t c k = v from this)] at hc4
              cases hc4
            · rw [h] at e
              have e2 := (List.cons.inj e).1
              rcases dd_spec (t := t) (c := c) k with ⟨h2, _⟩ | ⟨j', h2, h3, _, h4⟩
              · omega
              · have : j' = j := by omega
                subst this
                rw [e2] at h4
                exact h4 rfl
          obtain ⟨g, hg⟩ : ∃ g, g = decide ((σ v).length ≤ 200) := ⟨_, rfl⟩
          refine aw_skip ?_
          simp only [thenA_normal, thenA_ret, thenA_exit, blockA_normal, blockA_ret, blockA_exit, ↓reduceIte, Nat.reduceEqDiff]
          refine aw_region_seq C (pb := false) rfl fun K hK => ?_
          repeat' (first | refine wy0 (h := ?_) | fail)
          refine wc (And.intro Try.call46 (fn46g L hg.symm _ _ (gslC t) hn (by omega) ht hcl.ci (by omega) hl)) ?_
          rintro _ _ ⟨⟨z, rfl, hz⟩, rfl⟩
          repeat' (first | refine wy0 (h := ?_) | fail)
          refine awOps_nil (hK _ _ ?_)
          clear hK K
          refine aw_seq ?_
          refine aw_region_seq C (pb := false) rfl fun K hK => ?_
          repeat' (first | refine wy0 (h := ?_) | fail)
          refine awOps_nil (hK _ _ ?_)
          clear hK K
          refine aw_cond (by rfl) ?_ ?_
          · intro hc5
            have hbig : ¬ small σ := fun h => by
              have h1 := h v.toNat (by omega)
              rw [show ((v.toNat : Nat) : Int) = v by omega] at h1
              rw [hg, decide_eq_true h1] at hc5
              cases hc5
            rw [mguO_big hbig] at hmn
            refine aw_region_seq C (pb := false) rfl fun K hK => ?_
            repeat' (first | refine wy0 (h := ?_) | fail)
            refine awOps_nil (hK _ _ ?_)
            clear hK K
            refine aw_ret ?_
            try simp only [thenA_normal, thenA_ret, thenA_exit, blockA_normal, blockA_ret, blockA_exit]
            simp only [go_sem, ↓reduceIte, Nat.reduceEqDiff, reduceCtorEq, Nat.reduceAdd, Nat.reduceMul, Nat.reduceLeDiff, aLoad, aStore, FnQ, resA]
            -- 0f1t2f.x24f5t.ret
            exact fun _ => ⟨by first | rfl | trivial, hs2.1.2.1, hs2.1.2.2, .nilsl, by rw [hmn], by rw [hmn]; exact .inl ⟨rfl, rfl⟩⟩
          · intro hc5
            have hgt : g = true := by cases g with | true => rfl | false => cases hc5
            have hle := of_decide_eq_true (hg.symm.trans hgt)
            obtain rfl := hz hgt
            refine aw_skip ?_
            simp only [thenA_normal, thenA_ret, thenA_exit, blockA_normal, blockA_ret, blockA_exit, ↓reduceIte, Nat.reduceEqDiff]
            refine aw_region C (pb := false) rfl ?_
            repeat' (first | refine wy0 (h := ?_) | fail)
            refine awOps_append (by rfl) (by rfl) (by rfl) (by rfl) (hs2.2.up (Nat.le_refl _) fun j h1 h2 => upd_ne _ _ (by omega)) T25 rfl T39 rfl (by simp) (by simp [y39]) (k := 1) (new := (encB (bndI (v, σ v))).map .sc) (by simp [aSrc, evA, get, upd, zerosA, encB, bndI, storeL, List.range, List.range.loop]; exact ⟨Nat.le_refl _, rfl⟩) (by simp [encB]) (by omega) (by omega) (by have := hs2.1.1; omega) fun x6 ob6 hacc6 hlow6 _ => ?_
            repeat' (first | refine wy0 (h := ?_) | fail)
            refine awOps_nil ?_
            try simp only [thenA_normal, thenA_ret, thenA_exit, blockA_normal, blockA_ret, blockA_exit]
            refine aw_region C (pb := false) rfl ?_
            repeat' (first | refine wy1 (a := by simp only [go_sem, ↓reduceIte, Nat.reduceEqDiff, reduceCtorEq, Nat.reduceAdd, Nat.reduceMul, Nat.reduceLeDiff, aLoad, aStore, wrap_small ((i : Int) + 1) (by omega) (by omega)]; exact rfl) (h := ?_) | fail)
            refine awOps_nil ?_
            try simp only [thenA_normal, thenA_ret, thenA_exit, blockA_normal, blockA_ret, blockA_exit]
            -- end of round 0 at 0f1t2f.x24f5f
            refine ⟨vs.length - (i + 1), [(6, vC t), (7, .av (.sc (scN n c))), (8, (x6)), (9, .av (.sc yv)), (10, vI (i + 1))], by omega, AllIn.less ⟨rfl, rfl, rfl, rfl, rfl, trivial⟩, i + 1, x6, out ++ [(v, σ v)], rfl, rfl, ?_, ?_, ?_, ?_, ?_⟩
            · exact ⟨by have := hs2.1.1; exact (by first | omega | (dsimp only; omega)), fun j hj => (hlow6 j hj).trans ((upd_ne _ _ (by have := hs2.1.1; omega)).trans (hs2.1.2.1 j hj)), hs2.1.2.2⟩
            · omega
            · simp only [List.length_append, List.length_cons, List.length_nil, List.map_append, List.flatMap_append, List.map_cons, List.map_nil, List.flatMap_cons, List.flatMap_nil, List.append_nil]
              exact hacc6.up (by first | omega | (dsimp only; omega)) fun _ _ _ => rfl
            · rw [htk, List.filterMap_append, ← hout]
              simp [bndV, hse]
            · intro v' hv'
              rw [htk] at hv'
              rcases List.mem_append.1 hv' with h | h
              · exact hsm v' h
              · rw [List.mem_singleton.1 h]; exact hle
    · intro hc1
      try simp only [decide_eq_true_eq, decide_eq_false_iff_not] at hc1
      refine aw_exit ?_
      simp only [thenA_normal, thenA_ret, thenA_exit, blockA_normal, blockA_ret, blockA_exit, ↓reduceIte, Nat.reduceEqDiff]
      have hie : i = vs.length := by omega
      rw [List.take_of_length_le (by omega)] at hout hsm
      have hsml : small σ := fun m _ => by
        by_cases ho : occ t m
        · exact hsm _ ((hvo _).2 ho)
        · rw [hN.out m (ht0 ▸ ho)]; simp
      rw [mguO_small hsml] at hmn
      obtain ⟨ty, ob7, hpv7, hty, _, hlow7, _⟩ := Acc.pure (enc := encB) (k := 2) (l := out.map bndI) (fun _ => rfl) (by rw [List.length_map]; exact hacc)
      refine aw_pur 8 hpv7 ?_
      have hoe : out = (bnds σ).map toI := by rw [hout]; exact bndV_eq ra rb hN hvs fun n => by rw [hvo, ht0]
      refine aw_region_seq C (pb := false) rfl fun K hK => ?_
      repeat' (first | refine wy0 (h := ?_) | fail)
      refine awOps_nil (hK _ _ ?_)
      clear hK K
      refine aw_ret ?_
      simp only [go_sem, ↓reduceIte, Nat.reduceEqDiff, reduceCtorEq, Nat.reduceAdd, Nat.reduceMul, Nat.reduceLeDiff, aLoad, aStore, FnQ, resA]
      -- 0f1f.x0.ret
      exact fun _ => ⟨by first | rfl | trivial, fun j hj => (hlow7 j hj).trans (hs1.2.1 j hj), hs1.2.2, ty, by rw [hmn], by rw [hmn]; dsimp only; rw [← hoe]; exact hty⟩
end Go.Am.Seat
/-
  MADE BY PROGRAM (am.py): the walks of functions 55.
-/
namespace Go.Am.Seat
open Go.Proofs

def boundG (l : List Bnd) (n : Int) : Sc := match l.find? (fun b => b.v == n) with
  | some b => b.t
  | none => .nilsl

theorem bod55 : Try.f55.body = some (Try.f55.body.getD .skip) := rfl
theorem fn55 (L : Loops) (l : List Bnd) (n : Int) (s : Me) (x : Sc) (hx : GSl encB x l) (hl : l.length ≤ 2199023255552) : FnL Try.prog L 55 [.av (.sc x), vI n] s fun r s' => (r = .av (.sc (boundG l n))) ∧ s' = s := by
  refine FnL.pure (R := fun r => r = .av (.sc (boundG l n))) ?_
  refine fn_of_body (ts := [4]) Try.func55 bod55 rfl (by simp) (by simp [Try.ntmps55]) fun D0 => ?_
  unfold Try.f55
  simp only [Option.getD_some, initSl]
  refine aw_region_seq C (pb := false) rfl fun K hK => ?_
  repeat' (first | refine wy0 (h := ?_) | fail)
  refine awOps_nil (hK _ _ ?_)
  clear hK K
  refine aw_seq ?_
  refine aw_region_seq C (pb := false) rfl fun K hK => ?_
  repeat' (first | refine wy0 (h := ?_) | fail)
  refine awOps_nil (hK _ _ ?_)
  clear hK K
  refine aw_block ?_
  refine AW.less (sl' := [(0, .av (.sc x)), (1, vI n), (5, vI (0))]) (AllIn.less ⟨rfl, rfl, rfl, trivial⟩) (aw_loop (fun k sl1 s1 => ∃ (i : Nat), k = l.length - i ∧ sl1 = [(0, .av (.sc x)), (1, vI n), (5, vI (i))] ∧ (Kp s s1) ∧ (i ≤ l.length) ∧ ((l.drop i).find? (fun b => b.v == n) = l.find? (fun b => b.v == n))) (k := l.length - (0)) ⟨0, rfl, rfl, (Kp.refl s).up (by omega), Nat.zero_le _, rfl⟩ ?_)
  rintro k1 _ s1 ⟨i, hk1, rfl, hs1, hb, h3⟩
  refine aw_seq ?_
  refine aw_region_seq C (pb := false) rfl fun K hK => ?_
  repeat' (first | refine wy1 (a := by simp only [go_sem, ↓reduceIte, Nat.reduceEqDiff, reduceCtorEq, Nat.reduceAdd, Nat.reduceMul, Nat.reduceLeDiff, aLoad, aStore, lenB hx]; exact rfl) (h := ?_) | fail)
  refine awOps_nil (hK _ _ ?_)
  clear hK K
  refine aw_cond (by rfl) ?_ ?_
  · intro hc0
    try simp only [decide_eq_true_eq, decide_eq_false_iff_not] at hc0
    have hi2 : i < l.length := by omega
    refine aw_skip ?_
    simp only [thenA_normal, thenA_ret, thenA_exit, blockA_normal, blockA_ret, blockA_exit, ↓reduceIte, Nat.reduceEqDiff]
    refine aw_seq ?_
    refine aw_block ?_
    refine aw_region_seq C (pb := false) rfl fun K hK => ?_
    repeat' (first | refine wy1 (a := by simp only [go_sem, ↓reduceIte, Nat.reduceEqDiff, reduceCtorEq, Nat.reduceAdd, Nat.reduceMul, Nat.reduceLeDiff, aLoad, aStore, idxB hx hi2]; exact rfl) (h := ?_) | fail)
    refine awOps_nil (hK _ _ ?_)
    clear hK K
    refine aw_cond (by rfl) ?_ ?_
    · intro hc1
      try simp only [decide_eq_true_eq, decide_eq_false_iff_not] at hc1
      refine aw_region_seq C (pb := false) rfl fun K hK => ?_
      repeat' (first | refine wy1 (a := by simp only [go_sem, ↓reduceIte, Nat.reduceEqDiff, reduceCtorEq, Nat.reduceAdd, Nat.reduceMul, Nat.reduceLeDiff, aLoad, aStore, idxB hx hi2]; exact rfl) (h := ?_) | fail)
      refine awOps_nil (hK _ _ ?_)
      clear hK K
      refine aw_ret ?_
      try simp only [thenA_normal, thenA_ret, thenA_exit, blockA_normal, blockA_ret, blockA_exit]
      simp only [go_sem, ↓reduceIte, Nat.reduceEqDiff, reduceCtorEq, Nat.reduceAdd, Nat.reduceMul, Nat.reduceLeDiff, aLoad, aStore, FnQ, resA]
      -- 0t1t.ret
      refine fun _ => ⟨rfl, hs1.2.1, hs1.2.2, ?_⟩
      rw [List.drop_eq_getElem_cons hi2, List.find?_cons, hc1] at h3
      rw [boundG, ← h3]
    · intro hc1
      try simp only [decide_eq_true_eq, decide_eq_false_iff_not] at hc1
      refine aw_skip ?_
      simp only [thenA_normal, thenA_ret, thenA_exit, blockA_normal, blockA_ret, blockA_exit, ↓reduceIte, Nat.reduceEqDiff]
      refine aw_region C (pb := false) rfl ?_
      repeat' (first | refine wy1 (a := by simp only [go_sem, ↓reduceIte, Nat.reduceEqDiff, reduceCtorEq, Nat.reduceAdd, Nat.reduceMul, Nat.reduceLeDiff, aLoad, aStore, wrap_small ((i : Int) + 1) (by omega) (by omega)]; exact rfl) (h := ?_) | fail)
      refine awOps_nil ?_
      try simp only [thenA_normal, thenA_ret, thenA_exit, blockA_normal, blockA_ret, blockA_exit]
      -- end of round 0 at 0t1f
      refine ⟨l.length - (i + 1), [(0, .av (.sc x)), (1, vI n), (5, vI (i + 1))], by omega, AllIn.less ⟨rfl, rfl, rfl, trivial⟩, i + 1, rfl, rfl, ?_, ?_, ?_⟩
      · exact hs1.up (by omega)
      · omega
      · rw [← h3, List.drop_eq_getElem_cons hi2, List.find?_cons, hc1]
  · intro hc0
    try simp only [decide_eq_true_eq, decide_eq_false_iff_not] at hc0
    refine aw_exit ?_
    simp only [thenA_normal, thenA_ret, thenA_exit, blockA_normal, blockA_ret, blockA_exit, ↓reduceIte, Nat.reduceEqDiff]
    refine aw_region_seq C (pb := false) rfl fun K hK => ?_
    repeat' (first | refine wy0 (h := ?_) | fail)
    refine awOps_nil (hK _ _ ?_)
    clear hK K
    refine aw_ret ?_
    simp only [go_sem, ↓reduceIte, Nat.reduceEqDiff, reduceCtorEq, Nat.reduceAdd, Nat.reduceMul, Nat.reduceLeDiff, aLoad, aStore, FnQ, resA]
    -- 0f.x0.ret
    refine fun _ => ⟨rfl, hs1.2.1, hs1.2.2, ?_⟩
    rw [List.drop_of_length_le (by omega)] at h3
    rw [boundG, ← h3]
    rfl
end Go.Am.Seat
/-
  MADE BY PROGRAM (am.py): the walks of functions 16.
-/
namespace Go.Am.Seat
open Go.Proofs

/-- What is bound, as a value. -/
def bdS (o : Option (List Cell)) : Sc := match o with
  | some u => .sl u.length (u.flatMap encC)
  | none => .nilsl
def lkB (all : List (Int × List Cell)) (n : Int) : Option (List Cell) := (all.find? fun p => p.1 == n).map (·.2)
theorem bound_eq (all : List (Int × List Cell)) (n : Int) : boundG (all.map bndI) n = bdS (lkB all n) := by
  have hf : (all.map bndI).find? (fun b => b.v == n) = (all.find? fun b => b.1 == n).map bndI := List.find?_map ..
  rw [boundG, hf, lkB]
  cases all.find? fun b => b.1 == n <;> rfl
theorem fnBound (L : Loops) {all : List (Int × List Cell)} {n : Int} {o : Option (List Cell)} (ho : lkB all n = o) (s : Me) (x : Sc) (hx : GSl encB x (all.map bndI)) (hl : all.length ≤ 1000000) : FnL Try.prog L 55 [.av (.sc x), vI n] s fun r s' => r = .av (.sc (bdS o)) ∧ s' = s :=
  (fn55 L (all.map bndI) n s x hx (by rw [List.length_map]; omega)).mono fun r s' h => ⟨h.1.trans (by rw [bound_eq, ho]), h.2⟩
def badO (o : Option (List Cell)) (x : List Cell) : Bool := match o with
  | some u => !(sameL u x)
  | none => false
theorem lenNil (ob : Nat → Obj) : aLen T ob 22 (.av (.sc .nilsl)) = some (vI 0) := lenC (l := []) (.inl ⟨rfl, rfl⟩) ob
theorem lkB_app {all : List (Int × List Cell)} {n : Int} {x : List Cell} (h : lkB all n = none) (m : Int) : lkB (all ++ [(n, x)]) m = if m = n then some x else lkB all m := by
  unfold lkB at h ⊢
  rw [Option.map_eq_none_iff] at h
  rw [List.find?_append]
  by_cases e : m = n
  · subst e
    rw [if_pos rfl, h]
    simp
  · rw [if_neg e]
    cases all.find? fun p => p.1 == m with
    | some q => rfl
    | none => simp [show ¬ n = m from fun k => e k.symm]
/-- Bindings whose terms are slices of our own. -/
def owC (ow : List (Int × Nat × List Cell)) : List Av := ow.flatMap fun q => [.sc (.int .i64 q.1), .own q.2.1 0 q.2.2.length 3]
def owB (q : Int × Nat × List Cell) : Int × List Cell := (q.1, q.2.2)
theorem owC_len (ow : List (Int × Nat × List Cell)) : (owC ow).length = ow.length * 2 := by
  induction ow with
  | nil => rfl
  | cons q ow ih => rw [owC, List.flatMap_cons, List.length_append, List.length_cons]; simp only [owC] at ih; rw [ih]; simp; omega
theorem pur2Cz {ob : Nat → Obj} {i fz : Nat} {a : List Cell} (hi : ob i = .cs (celC a) fz) : pur 3 ob (.own i 0 a.length 3) = some (.sl a.length (a.flatMap encC), upd ob i (.cs (celC a) (max fz (0 + a.length * 3)))) := by
  have hl := celC_len (l := a)
  simp only [pur, hi]
  rw [if_pos (by omega), List.drop_zero, List.take_of_length_le (by omega), show purL (pur 2) _ (celC a) = _ from purL_plain (fun ob s => by simp [pur]) _ _]
  rfl
theorem purL_ow : ∀ {ow : List (Int × Nat × List Cell)} {ob : Nat → Obj} {lo : Nat}, (∀ q ∈ ow, lo ≤ q.2.1 ∧ ∃ fz, ob q.2.1 = .cs (celC q.2.2) fz) → ∃ ob', purL (pur 3) ob (owC ow) = some ((ow.map owB).flatMap fun p => encB (bndI p), ob') ∧ ∀ j, j < lo → ob' j = ob j
  | [], ob, lo, _ => ⟨ob, rfl, fun _ _ => rfl⟩
  | q :: ow, ob, lo, h => by
    obtain ⟨h1, fz, h2⟩ := h q (by simp)
    obtain ⟨ob', e1, e2⟩ := purL_ow (ow := ow) (ob := upd ob q.2.1 (.cs (celC q.2.2) (max fz (0 + q.2.2.length * 3)))) (lo := lo) fun p hp => by
      obtain ⟨h3, fz', h4⟩ := h p (by simp [hp])
      refine ⟨h3, ?_⟩
      by_cases e : p.2.1 = q.2.1
      · rw [e, upd_same]
        rw [e, h2] at h4
        simp only [Obj.cs.injEq] at h4
        exact ⟨_, by rw [h4.1]⟩
      · exact ⟨fz', by rw [upd_ne _ _ e]; exact h4⟩
    refine ⟨ob', ?_, fun j hj => (e2 j hj).trans (upd_ne _ _ (by omega))⟩
    rw [show owC (q :: ow) = .sc (.int .i64 q.1) :: .own q.2.1 0 q.2.2.length 3 :: owC ow from rfl]
    simp only [purL, pur2Cz h2]
    rw [show pur 3 ob (.sc (.int .i64 q.1)) = some (.int .i64 q.1, ob) by simp [pur]]
    simp only [Option.bind_some, pur2Cz h2, e1]
    rfl

theorem ow_ne {ow : List (Int × Nat × List Cell)} {l : List Cell} {ob : Nat → Obj} {i j fz fz' : Nat} (hl : 1 ≤ l.length) (hi : ob i = .cs (celC l) fz) (hj : ob j = .cs (owC ow) fz') : i ≠ j := by
  intro e
  subst e
  rw [hi] at hj
  simp only [Obj.cs.injEq] at hj
  have h := hj.1
  cases l with
  | nil => simp at hl
  | cons c l =>
    cases ow with
    | nil => simp [celC, owC, encC] at h
    | cons q ow => simp [celC, owC, encC] at h
theorem ow_pure {lo hi : Nat} {ob : Nat → Obj} {x : Va} {ow : List (Int × Nat × List Cell)} (h : Acc lo hi ob x ow.length 2 (owC ow)) (hq : ∀ q ∈ ow, lo ≤ q.2.1 ∧ 1 ≤ q.2.2.length ∧ ∃ fz, ob q.2.1 = .cs (celC q.2.2) fz) : ∃ t ob', purV ob x = some (.av (.sc t), ob') ∧ GSl encB t ((ow.map owB).map bndI) ∧ ∀ i, i < lo → ob' i = ob i := by
  rcases h with ⟨rfl, h1, h2⟩ | ⟨id, fz, rfl, h2, h3, h4, h5, h6⟩
  · have : ow = [] := List.length_eq_zero_iff.1 h1
    subst this
    exact ⟨.nilsl, ob, by simp [purV, pur, purD], .inl ⟨rfl, rfl⟩, fun _ _ => rfl⟩
  · obtain ⟨ob', e1, e2⟩ := purL_ow (ow := ow) (ob := upd ob id (.cs (owC ow) (max fz (0 + ow.length * 2)))) (lo := lo) fun q hqm => by
      obtain ⟨k1, k2, fz', k3⟩ := hq q hqm
      exact ⟨k1, fz', by rw [upd_ne _ _ (ow_ne k2 k3 h4)]; exact k3⟩
    refine ⟨.sl ow.length ((ow.map owB).flatMap fun p => encB (bndI p)), ob', ?_, .inr (by rw [List.length_map, List.length_map, List.flatMap_map, List.flatMap_map, List.flatMap_map]), fun i hi => (e2 i hi).trans (upd_ne _ _ (by omega))⟩
    simp only [purV, purD]
    rw [pur]
    simp only [h4]
    rw [if_pos (by rw [owC_len]; omega), List.drop_zero, List.take_of_length_le (by rw [owC_len]; exact Nat.le_refl _), e1]
    rfl
theorem outG_eq {M : Int → Option (List Cell)} : ∀ {vs : List Int}, outG M vs = vs.filterMap fun n => (M n).bind fun u => if headV u n = true then none else some (n, u)
  | [] => rfl
  | n :: vs => by
    rw [outG, outG_eq, List.filterMap_cons]
    cases M n with
    | none => rfl
    | some u =>
      dsimp only [Option.bind_some]
      by_cases h : headV u n = true
      · rw [if_pos h, if_pos h]
      · rw [if_neg h, if_neg h]
theorem sort_vs {a : List Cell} {vs : List Int} (hs : vs.Pairwise (· < ·)) (ho : ∀ n, n ∈ vs ↔ occ a n) : sortI (varsG a []) = vs := by
  have h1 := sortI_lt (varsG_nodup (l := a) (out := []) List.nodup_nil)
  have key : (sortI (varsG a [])).map (fun n => (n, ())) = vs.map fun n => (n, ()) := by
    refine sorted_ext ?_ ?_ fun p => ?_
    · rw [List.pairwise_map]; exact h1
    · rw [List.pairwise_map]; exact hs
    · rw [List.mem_map, List.mem_map]
      constructor
      · rintro ⟨n, hn, e⟩
        exact ⟨n, (ho n).2 (varsG_occ.1 ((sortI_perm _).mem_iff.1 hn)), e⟩
      · rintro ⟨n, hn, e⟩
        exact ⟨n, (sortI_perm _).mem_iff.2 (varsG_occ.2 ((ho n).1 hn)), e⟩
  have := congrArg (List.map Prod.fst) key
  simpa [List.map_map, Function.comp_def] using this

-- many steps
theorem bod16 : Try.f16.body = some (Try.f16.body.getD .skip) := rfl
set_option maxHeartbeats 2000000 in
set_option maxRecDepth 10000 in
theorem fn16 (L : Loops) (a b : List Cell) (s : Me) (ra : RTm a) (rb : RTm b) : FnL Try.prog L 16 [vC a, vC b] s fun r s' => (∃ z, r = .tup [.av (.sc z), vB (matR a b).isSome] ∧ GSl encB z (((matR a b).getD []).map bndI)) ∧ s' = s := by
  refine FnL.pure (R := fun r => ∃ z, r = .tup [.av (.sc z), vB (matR a b).isSome] ∧ GSl encB z (((matR a b).getD []).map bndI)) ?_
  have a1 := ra.pos
  have a2 := ra.len
  have b1 := rb.pos
  have b2 := rb.len
  have ht := rb.tok
  obtain ⟨R, hR⟩ : ∃ R, R = matG b a 0 fun _ => none := ⟨_, rfl⟩
  refine fn_of_body (ts := [4, 5]) Try.func16 bod16 rfl (by simp) (by simp [Try.ntmps16]) fun D0 => ?_
  unfold Try.f16
  simp only [Option.getD_some, initSl]
  refine aw_region_seq C (pb := false) rfl fun K hK => ?_
  repeat' (first | refine wy0 (h := ?_) | fail)
  refine awOps_nil (hK _ _ ?_)
  clear hK K
  refine aw_region_seq C (pb := false) rfl fun K hK => ?_
  repeat' (first | refine wy0 (h := ?_) | fail)
  refine awOps_nil (hK _ _ ?_)
  clear hK K
  refine aw_seq ?_
  refine aw_region_seq C (pb := false) rfl fun K hK => ?_
  repeat' (first | refine wy0 (h := ?_) | fail)
  refine awOps_nil (hK _ _ ?_)
  clear hK K
  refine aw_block ?_
  refine AW.less (sl' := [(0, vC a), (1, vC b), (6, (_)), (7, vI (0)), (8, vI (0))]) (AllIn.less ⟨rfl, rfl, rfl, rfl, rfl, trivial⟩) (aw_loop (fun k sl1 s1 => ∃ (i : Nat) (kb : Nat) (xo : Va) (all : List (Int × List Cell)) (M : Int → Option (List Cell)), k = a.length - i ∧ sl1 = [(0, vC a), (1, vC b), (6, (xo)), (7, vI (kb)), (8, vI (i))] ∧ (Kp s s1) ∧ (i ≤ a.length ∧ all.length ≤ i ∧ kb ≤ b.length) ∧ (Acc s.nx s1.nx s1.ob xo all.length 2 (((all.map bndI).flatMap encB).map .sc)) ∧ (∀ n, M n = lkB all n) ∧ (∀ p ∈ all, 1 ≤ p.2.length ∧ p.2.length ≤ 200) ∧ (∀ c ∈ a.take i, c.kind = 1 → (M c.n).isSome) ∧ (matG b (a.drop i) kb M = R)) (k := a.length - (0)) ⟨0, 0, _, [], fun _ => none, rfl, rfl, ⟨by first | omega | (dsimp only; omega), fun j hj => upd_ne _ _ (by omega), rfl⟩, ⟨Nat.zero_le _, Nat.le_refl _, Nat.zero_le _⟩, .inr ⟨_, 0, rfl, (by first | omega | (dsimp only; omega) | (dsimp only at *; omega)), (by first | omega | (dsimp only; omega) | (dsimp only at *; omega)), upd_same _ _ _, by simp, by simp⟩, fun _ => rfl, fun p hp => by simp at hp, fun c hc => by simp at hc, hR.symm⟩ ?_)
  rintro k1 _ s1 ⟨i, kb, xo, all, M, hk1, rfl, hs1, hb, hacc, hM, hal, hset, h3⟩
  refine aw_seq ?_
  refine aw_region_seq C (pb := false) rfl fun K hK => ?_
  repeat' (first | refine wy1 (a := by simp only [go_sem, ↓reduceIte, Nat.reduceEqDiff, reduceCtorEq, Nat.reduceAdd, Nat.reduceMul, Nat.reduceLeDiff, aLoad, aStore, lenC (gslC a)]; exact rfl) (h := ?_) | fail)
  refine awOps_nil (hK _ _ ?_)
  clear hK K
  refine aw_cond (by rfl) ?_ ?_
  · intro hc0
    try simp only [decide_eq_true_eq, decide_eq_false_iff_not] at hc0
    have hi2 : i < a.length := by omega
    rw [List.drop_eq_getElem_cons hi2] at h3
    refine aw_skip ?_
    simp only [thenA_normal, thenA_ret, thenA_exit, blockA_normal, blockA_ret, blockA_exit, ↓reduceIte, Nat.reduceEqDiff]
    refine aw_seq ?_
    refine aw_block ?_
    refine aw_seq ?_
    refine aw_region_seq C (pb := false) rfl fun K hK => ?_
    repeat' (first | refine wy1 (a := by simp only [go_sem, ↓reduceIte, Nat.reduceEqDiff, reduceCtorEq, Nat.reduceAdd, Nat.reduceMul, Nat.reduceLeDiff, aLoad, aStore, lenC (gslC b)]; exact rfl) (h := ?_) | fail)
    refine awOps_nil (hK _ _ ?_)
    clear hK K
    refine aw_cond (by rfl) ?_ ?_
    · intro hc1
      try simp only [decide_eq_true_eq, decide_eq_false_iff_not] at hc1
      have hRn : R = none := by rw [matG, List.getElem?_eq_none (by omega)] at h3; exact h3.symm
      have hmr : matR a b = none := by rw [matR, ← hR, hRn]; rfl
      refine aw_region_seq C (pb := false) rfl fun K hK => ?_
      repeat' (first | refine wy0 (h := ?_) | fail)
      refine awOps_nil (hK _ _ ?_)
      clear hK K
      refine aw_ret ?_
      try simp only [thenA_normal, thenA_ret, thenA_exit, blockA_normal, blockA_ret, blockA_exit]
      simp only [go_sem, ↓reduceIte, Nat.reduceEqDiff, reduceCtorEq, Nat.reduceAdd, Nat.reduceMul, Nat.reduceLeDiff, aLoad, aStore, FnQ, resA]
      -- 0t1t.ret
      exact fun _ => ⟨by first | rfl | trivial, hs1.2.1, hs1.2.2, .nilsl, by rw [hmr]; rfl, by rw [hmr]; exact .inl ⟨rfl, rfl⟩⟩
    · intro hc1
      try simp only [decide_eq_true_eq, decide_eq_false_iff_not] at hc1
      have hkb : kb < b.length := by omega
      rw [matG, List.getElem?_eq_getElem hkb] at h3
      dsimp only at h3
      refine aw_skip ?_
      simp only [thenA_normal, thenA_ret, thenA_exit, blockA_normal, blockA_ret, blockA_exit, ↓reduceIte, Nat.reduceEqDiff]
      refine aw_seq ?_
      refine aw_region_seq C (pb := false) rfl fun K hK => ?_
      repeat' (first | refine wy1 (a := by simp only [go_sem, ↓reduceIte, Nat.reduceEqDiff, reduceCtorEq, Nat.reduceAdd, Nat.reduceMul, Nat.reduceLeDiff, aLoad, aStore, idxC (gslC a) hi2]; exact rfl) (h := ?_) | fail)
      refine awOps_nil (hK _ _ ?_)
      clear hK K
      refine aw_cond (by rfl) ?_ ?_
      · intro hc2
        have hk : ¬ a[i].kind = 1 := by simpa using hc2
        rw [if_neg hk] at h3
        refine aw_seq ?_
        refine aw_sil_seq C (pb := false) 9 _ rfl (regOk_of [0, 0, 3, 7, 0, 0, 48, 112, 255] (by kernel_rfl) rfl) rfl (fun _ _ => rfl) fun K hK => ?_
        repeat' (first | refine ws1 (a := by simp only [go_sem, ↓reduceIte, Nat.reduceEqDiff, reduceCtorEq, Nat.reduceAdd, Nat.reduceMul, Nat.reduceLeDiff, aLoad, aStore, idxC (gslC a) hi2, idxC (gslC b) hkb]; exact rfl) (h := ?_) | fail)
        refine sil_nil (hK _ ?_)
        clear hK K
        refine aw_cond (by rfl) ?_ ?_
        · intro hc3
          have hq0 : cellEq a[i] b[kb] = false := by simpa using (show (!(cellEq a[i] b[kb])) = true from hc3)
          have hRn : R = none := by rw [hq0, if_neg (by decide)] at h3; exact h3.symm
          have hmr : matR a b = none := by rw [matR, ← hR, hRn]; rfl
          refine aw_region_seq C (pb := false) rfl fun K hK => ?_
          repeat' (first | refine wy0 (h := ?_) | fail)
          refine awOps_nil (hK _ _ ?_)
          clear hK K
          refine aw_ret ?_
          try simp only [thenA_normal, thenA_ret, thenA_exit, blockA_normal, blockA_ret, blockA_exit]
          simp only [go_sem, ↓reduceIte, Nat.reduceEqDiff, reduceCtorEq, Nat.reduceAdd, Nat.reduceMul, Nat.reduceLeDiff, aLoad, aStore, FnQ, resA]
          -- 0t1f2t3t.ret
          exact fun _ => ⟨by first | rfl | trivial, hs1.2.1, hs1.2.2, .nilsl, by rw [hmr]; rfl, by rw [hmr]; exact .inl ⟨rfl, rfl⟩⟩
        · intro hc3
          have hq0 : cellEq a[i] b[kb] = true := by simpa using (show (!(cellEq a[i] b[kb])) = false from hc3)
          rw [if_pos hq0] at h3
          refine aw_skip ?_
          simp only [thenA_normal, thenA_ret, thenA_exit, blockA_normal, blockA_ret, blockA_exit, ↓reduceIte, Nat.reduceEqDiff]
          refine aw_region_seq C (pb := false) rfl fun K hK => ?_
          repeat' (first | refine wy1 (a := by simp only [go_sem, ↓reduceIte, Nat.reduceEqDiff, reduceCtorEq, Nat.reduceAdd, Nat.reduceMul, Nat.reduceLeDiff, aLoad, aStore, wrap_small ((kb : Int) + 1) (by omega) (by omega)]; exact rfl) (h := ?_) | fail)
          refine awOps_nil (hK _ _ ?_)
          clear hK K
          refine aw_exit ?_
          simp only [thenA_normal, thenA_ret, thenA_exit, blockA_normal, blockA_ret, blockA_exit, ↓reduceIte, Nat.reduceEqDiff]
          refine aw_region C (pb := false) rfl ?_
          repeat' (first | refine wy1 (a := by simp only [go_sem, ↓reduceIte, Nat.reduceEqDiff, reduceCtorEq, Nat.reduceAdd, Nat.reduceMul, Nat.reduceLeDiff, aLoad, aStore, wrap_small ((i : Int) + 1) (by omega) (by omega)]; exact rfl) (h := ?_) | fail)
          refine awOps_nil ?_
          try simp only [thenA_normal, thenA_ret, thenA_exit, blockA_normal, blockA_ret, blockA_exit]
          -- end of round 0 at 0t1f2t3f.x1
          refine ⟨a.length - (i + 1), [(0, vC a), (1, vC b), (6, (xo)), (7, vI (kb + 1)), (8, vI (i + 1))], by omega, AllIn.less ⟨rfl, rfl, rfl, rfl, rfl, trivial⟩, i + 1, kb + 1, xo, all, M, rfl, rfl, ?_, ?_, ?_, ?_, ?_, ?_, ?_⟩
          · exact hs1.up (by first | omega | (dsimp only; omega))
          · omega
          · exact hacc.up (by first | omega | (dsimp only; omega)) fun _ _ _ => rfl
          · exact hM
          · exact hal
          · rw [List.take_succ_eq_append_getElem hi2]
            intro c hc hk'
            rcases List.mem_append.1 hc with h | h
            · exact hset c h hk'
            · rw [List.mem_singleton] at h; rw [h] at hk'; exact absurd hk' hk
          · exact h3
      · intro hc2
        have hk : a[i].kind = 1 := by simpa using hc2
        rw [if_pos hk] at h3
        obtain ⟨e, he⟩ := ht.1 kb hkb
        rw [he] at h3
        dsimp only at h3
        have htO := termOf_slice he
        have hle := takes_le he
        rw [List.length_drop] at hle
        obtain ⟨te, hte⟩ : ∃ te, te = (b.take (kb + e)).drop kb := ⟨_, rfl⟩
        rw [← hte] at h3 htO
        have hsl : aSlice T 22 (vC b) (some (vI kb)) (some (vI ((kb + e : Nat) : Int))) = some (vC te) := by
          obtain ⟨x', h1, h2⟩ := slc_g (t := 22) (e := 42) (y := y22) (z := y42) T22 rfl T42 rfl (by decide) (enc := encC) (fun _ => rfl) (gslC b) (lo := some (vI kb)) (hi := some (vI ((kb + e : Nat) : Int))) (a := kb) (b := kb + e) (by simp [Am.bnd, vI]) (by simp only [Am.bnd, vI]; rw [if_pos (by omega)]; exact congrArg some (Int.toNat_natCast _)) (by omega) (by omega)
          rw [← hte] at h2
          rw [show vC b = .av (.sc (.sl b.length (b.flatMap encC))) from rfl, h1, gsl_cells h2 htO.pos]
        obtain ⟨o, ho⟩ : ∃ o, o = M a[i].n := ⟨_, rfl⟩
        rw [← ho] at h3
        have hlk : lkB all a[i].n = o := by rw [ho, hM]
        have hou : ∀ u, o = some u → 1 ≤ u.length ∧ u.length ≤ 200 := fun u e => by
          rw [e, lkB] at hlk
          obtain ⟨p, hp, e2⟩ := Option.map_eq_some_iff.1 hlk
          rw [← e2]
          exact hal p (List.mem_of_find?_eq_some hp)
        refine aw_skip ?_
        simp only [thenA_normal, thenA_ret, thenA_exit, blockA_normal, blockA_ret, blockA_exit, ↓reduceIte, Nat.reduceEqDiff]
        refine aw_state (J := fun s5 => Kp s s5 ∧ Acc s.nx s5.nx s5.ob xo all.length 2 (((all.map bndI).flatMap encB).map .sc)) ⟨hs1.up (by first | omega | (dsimp only; omega)), hacc.up (by first | omega | (dsimp only; omega)) fun _ _ _ => rfl⟩ fun s5 hJ5 => ?_
        obtain ⟨tx, ob2, hpv, htx, hacc2, hlow2, _⟩ := Acc.pure (enc := encB) (k := 2) (l := all.map bndI) (fun _ => rfl) (by rw [List.length_map]; exact hJ5.2)
        rw [List.length_map] at hacc2
        refine aw_dra_seq C (pb := false) 15 [12] [s5.ob, ob2] rfl (by kernel_rfl) (by kernel_rfl) rfl (fun _ _ => rfl) fun K hK => ?_
        iterate 2 (first | refine dra_yes [0, 1] (by rfl) (by rfl) (by rfl) (by rfl) (by kernel_rfl) ⟨⟨_, by simp  only [go_sem, ↓reduceIte, Nat.reduceEqDiff, reduceCtorEq, Nat.reduceAdd, Nat.reduceMul, Nat.reduceLeDiff, aLoad, aStore, osL_0, osL_1, osL_2, osL_3, osL_4, osL_5, osL_6, hsl, idxC (gslC a) hi2]; (try exact rfl), fun _ => rfl⟩, ⟨_, by simp  only [go_sem, ↓reduceIte, Nat.reduceEqDiff, reduceCtorEq, Nat.reduceAdd, Nat.reduceMul, Nat.reduceLeDiff, aLoad, aStore, osL_0, osL_1, osL_2, osL_3, osL_4, osL_5, osL_6, hsl, idxC (gslC a) hi2]; (try exact rfl), fun _ => rfl⟩, trivial⟩ ?_ | refine dra_no (by rfl) (by rfl) (by rfl) ?_)
        iterate 2 (first | refine dra_yes [0] (by rfl) (by rfl) (by rfl) (by rfl) (by kernel_rfl) ⟨⟨_, by simp  only [go_sem, ↓reduceIte, Nat.reduceEqDiff, reduceCtorEq, Nat.reduceAdd, Nat.reduceMul, Nat.reduceLeDiff, aLoad, aStore, osL_0, osL_1, osL_2, osL_3, osL_4, osL_5, osL_6, hsl, idxC (gslC a) hi2]; (try exact rfl), fun _ => rfl⟩, trivial⟩ ?_ | refine dra_no (by rfl) (by rfl) (by rfl) ?_)
        refine dra_callsil [0] (by rfl) (by rfl) (by rfl) (by rfl) (by kernel_rfl) ⟨And.intro Try.call54 (fn54 L b kb e _ _ (gslC b) (by omega) ht.2 he (by omega)), trivial⟩ ?_
        (first | refine dra_yes [0, 1] (by rfl) (by rfl) (by rfl) (by rfl) (by kernel_rfl) ⟨⟨_, by simp  only [go_sem, ↓reduceIte, Nat.reduceEqDiff, reduceCtorEq, Nat.reduceAdd, Nat.reduceMul, Nat.reduceLeDiff, aLoad, aStore, osL_0, osL_1, osL_2, osL_3, osL_4, osL_5, osL_6, hsl, idxC (gslC a) hi2]; (try exact rfl), fun _ => rfl⟩, ⟨_, by simp  only [go_sem, ↓reduceIte, Nat.reduceEqDiff, reduceCtorEq, Nat.reduceAdd, Nat.reduceMul, Nat.reduceLeDiff, aLoad, aStore, osL_0, osL_1, osL_2, osL_3, osL_4, osL_5, osL_6, hsl, idxC (gslC a) hi2]; (try exact rfl), fun _ => rfl⟩, trivial⟩ ?_ | refine dra_no (by rfl) (by rfl) (by rfl) ?_)
        iterate 6 (first | refine dra_yes [0] (by rfl) (by rfl) (by rfl) (by rfl) (by kernel_rfl) ⟨⟨_, by simp  only [go_sem, ↓reduceIte, Nat.reduceEqDiff, reduceCtorEq, Nat.reduceAdd, Nat.reduceMul, Nat.reduceLeDiff, aLoad, aStore, osL_0, osL_1, osL_2, osL_3, osL_4, osL_5, osL_6, hsl, idxC (gslC a) hi2]; (try exact rfl), fun _ => rfl⟩, trivial⟩ ?_ | refine dra_no (by rfl) (by rfl) (by rfl) ?_)
        refine dra_call (q := 0) (by rfl) (by rfl) (by rfl) (by rfl) (And.intro Try.call55 (FnL.pur (PurArgs.pur hpv (PurArgs.keep PurArgs.nil)) (fnBound L hlk _ tx htx (by omega)))) ?_
        iterate 2 (first | refine dra_yes [1] (by rfl) (by rfl) (by rfl) (by rfl) (by kernel_rfl) ⟨⟨_, by simp  only [go_sem, ↓reduceIte, Nat.reduceEqDiff, reduceCtorEq, Nat.reduceAdd, Nat.reduceMul, Nat.reduceLeDiff, aLoad, aStore, osL_0, osL_1, osL_2, osL_3, osL_4, osL_5, osL_6, hsl, idxC (gslC a) hi2]; (try exact rfl), fun _ => rfl⟩, trivial⟩ ?_ | refine dra_no (by rfl) (by rfl) (by rfl) ?_)
        refine dra_nil (hK _ ?_)
        simp only [osL_0, osL_1, osL_2, osL_3, osL_4, osL_5, osL_6, List.length_cons, List.length_nil, Nat.reduceAdd]
        refine AW.less (sl' := [(0, vC a), (1, vC b), (6, xo), (7, vI kb), (8, vI i), (9, vC te), (10, .av (.sc (bdS o)))]) (AllIn.less ⟨rfl, rfl, rfl, rfl, rfl, rfl, rfl, trivial⟩) ?_
        refine aw_state (J := fun s6 => Kp s s6 ∧ Acc s.nx s6.nx s6.ob xo all.length 2 (((all.map bndI).flatMap encB).map .sc)) ⟨⟨by have := hJ5.1.1; exact (by first | omega | (dsimp only; omega) | (dsimp only at *; omega)), fun j hj => (hlow2 j hj).trans (hJ5.1.2.1 j hj), hJ5.1.2.2⟩, hacc2.up (by first | omega | (dsimp only; omega) | (dsimp only at *; omega)) fun _ _ _ => rfl⟩ fun s6 hJ6 => ?_
        clear hK K
        refine aw_seq ?_
        refine aw_cut_seq C (pb := false) [(0, vC a), (1, vC b), (6, xo), (7, vI kb), (8, vI i), (9, vC te), (10, .av (.sc (bdS o))), (65, vB (badO o te))] rfl ?_ fun n12 hn12 => ?_
        · rcases ho' : o with _ | u
          · have w1 : decide ((0 : Int) > 0) = false := rfl
            repeat' (first | refine wy1 (a := by simp only [go_sem, ↓reduceIte, Nat.reduceEqDiff, reduceCtorEq, Nat.reduceAdd, Nat.reduceMul, Nat.reduceLeDiff, aLoad, aStore, bdS, lenNil, w1]; exact rfl) (h := ?_) | refine wn (h := ?_) | fail)
            try (first | (refine wc (And.intro Try.call20 (fn20 L te te _ _ _ (gslC te) (gslC te) (by omega))) ?_; rintro _ _ ⟨rfl, rfl⟩) | refine wn (h := ?_) | fail)
            repeat' (first | refine wy1 (a := by simp only [go_sem, ↓reduceIte, Nat.reduceEqDiff, reduceCtorEq, Nat.reduceAdd, Nat.reduceMul, Nat.reduceLeDiff, aLoad, aStore, bdS, lenNil, w1]; exact rfl) (h := ?_) | refine wn (h := ?_) | fail)
            exact awOps_nil ⟨⟨rfl, rfl, rfl, rfl, rfl, rfl, rfl, rfl, trivial⟩, rfl, (by first | omega | (dsimp only; omega)), rfl⟩
          · have w1 : decide ((u.length : Int) > 0) = true := decide_eq_true (by have := (hou u ho').1; omega)
            repeat' (first | refine wy1 (a := by simp only [go_sem, ↓reduceIte, Nat.reduceEqDiff, reduceCtorEq, Nat.reduceAdd, Nat.reduceMul, Nat.reduceLeDiff, aLoad, aStore, bdS, lenC (gslC u), w1]; exact rfl) (h := ?_) | refine wn (h := ?_) | fail)
            try (first | (refine wc (And.intro Try.call20 (fn20 L u te _ _ _ (gslC u) (gslC te) (by have := (hou u ho').2; omega))) ?_; rintro _ _ ⟨rfl, rfl⟩) | refine wn (h := ?_) | fail)
            repeat' (first | refine wy1 (a := by simp only [go_sem, ↓reduceIte, Nat.reduceEqDiff, reduceCtorEq, Nat.reduceAdd, Nat.reduceMul, Nat.reduceLeDiff, aLoad, aStore, bdS, lenC (gslC u), w1]; exact rfl) (h := ?_) | refine wn (h := ?_) | fail)
            exact awOps_nil ⟨⟨rfl, rfl, rfl, rfl, rfl, rfl, rfl, rfl, trivial⟩, rfl, (by first | omega | (dsimp only; omega)), rfl⟩
        refine aw_cond (by rfl) ?_ ?_
        · intro hc4
          have hRn : R = none := by
            cases o with
            | none => cases hc4
            | some u =>
              have h5 : sameL u te = false := by simpa [badO] using hc4
              dsimp only at h3
              rw [h5, if_neg (by decide)] at h3
              exact h3.symm
          have hmr : matR a b = none := by rw [matR, ← hR, hRn]; rfl
          refine aw_region_seq C (pb := false) rfl fun K hK => ?_
          repeat' (first | refine wy0 (h := ?_) | fail)
          refine awOps_nil (hK _ _ ?_)
          clear hK K
          refine aw_ret ?_
          try simp only [thenA_normal, thenA_ret, thenA_exit, blockA_normal, blockA_ret, blockA_exit]
          simp only [go_sem, ↓reduceIte, Nat.reduceEqDiff, reduceCtorEq, Nat.reduceAdd, Nat.reduceMul, Nat.reduceLeDiff, aLoad, aStore, FnQ, resA]
          -- 0t1f2f4t.ret
          exact fun _ => ⟨by first | rfl | trivial, hJ6.1.2.1, hJ6.1.2.2, .nilsl, by rw [hmr]; rfl, by rw [hmr]; exact .inl ⟨rfl, rfl⟩⟩
        · intro hc4
          have h3' : matG b (a.drop (i + 1)) (kb + e) (updI M a[i].n te) = R := by
            cases o with
            | none => exact h3
            | some u =>
              have h5 : sameL u te = true := by simpa [badO] using hc4
              dsimp only at h3
              rw [if_pos h5] at h3
              exact h3
          refine aw_skip ?_
          simp only [thenA_normal, thenA_ret, thenA_exit, blockA_normal, blockA_ret, blockA_exit, ↓reduceIte, Nat.reduceEqDiff]
          refine aw_seq ?_
          refine aw_cut_seq C (pb := false) [(0, vC a), (1, vC b), (6, xo), (7, vI kb), (8, vI i), (9, vC te), (10, .av (.sc (bdS o))), (68, vB o.isNone)] rfl ?_ fun n14 hn14 => ?_
          · rcases ho' : o with _ | u
            · have w1 : ((0 : Int) == 0) = true := rfl
              repeat' (first | refine wy1 (a := by simp only [go_sem, ↓reduceIte, Nat.reduceEqDiff, reduceCtorEq, Nat.reduceAdd, Nat.reduceMul, Nat.reduceLeDiff, aLoad, aStore, bdS, lenNil, w1]; exact rfl) (h := ?_) | fail)
              exact awOps_nil ⟨⟨rfl, rfl, rfl, rfl, rfl, rfl, rfl, rfl, trivial⟩, rfl, (by first | omega | (dsimp only; omega)), rfl⟩
            · have w1 : ((u.length : Int) == 0) = false := beq_eq_false_iff_ne.2 (by have := (hou u ho').1; omega)
              repeat' (first | refine wy1 (a := by simp only [go_sem, ↓reduceIte, Nat.reduceEqDiff, reduceCtorEq, Nat.reduceAdd, Nat.reduceMul, Nat.reduceLeDiff, aLoad, aStore, bdS, lenC (gslC u), w1]; exact rfl) (h := ?_) | fail)
              exact awOps_nil ⟨⟨rfl, rfl, rfl, rfl, rfl, rfl, rfl, rfl, trivial⟩, rfl, (by first | omega | (dsimp only; omega)), rfl⟩
          refine aw_cond (by rfl) ?_ ?_
          · intro hc5
            have hon : o = none := by cases o with | none => rfl | some u => cases hc5
            rw [hon] at hlk
            refine aw_region C (pb := false) rfl ?_
            repeat' (first | refine wy1 (a := by simp only [go_sem, ↓reduceIte, Nat.reduceEqDiff, reduceCtorEq, Nat.reduceAdd, Nat.reduceMul, Nat.reduceLeDiff, aLoad, aStore, idxC (gslC a) hi2]; exact rfl) (h := ?_) | fail)
            refine awOps_append (by rfl) (by rfl) (by rfl) (by rfl) (hJ6.2.up (Nat.le_refl _) fun j h1 h2 => upd_ne _ _ (by omega)) T25 rfl T39 rfl (by simp) (by simp [y39]) (k := 1) (new := (encB (bndI (a[i].n, te))).map .sc) (by simp [aSrc, evA, get, upd, zerosA, encB, bndI, storeL, List.range, List.range.loop]; exact ⟨Nat.le_refl _, rfl⟩) (by simp [encB]) (by omega) (by omega) (by have := hJ6.1.1; omega) fun x6 ob6 hacc6 hlow6 _ => ?_
            repeat' (first | refine wy1 (a := by simp only [go_sem, ↓reduceIte, Nat.reduceEqDiff, reduceCtorEq, Nat.reduceAdd, Nat.reduceMul, Nat.reduceLeDiff, aLoad, aStore, idxC (gslC a) hi2]; exact rfl) (h := ?_) | fail)
            refine awOps_nil ?_
            try simp only [thenA_normal, thenA_ret, thenA_exit, blockA_normal, blockA_ret, blockA_exit]
            refine aw_region C (pb := false) rfl ?_
            repeat' (first | refine wy0 (h := ?_) | fail)
            (refine wc (And.intro Try.call54 (fn54 L b kb e _ _ (gslC b) (by omega) ht.2 he (by omega))) ?_; rintro _ _ ⟨rfl, rfl⟩)
            repeat' (first | refine wy0 (h := ?_) | fail)
            refine awOps_nil ?_
            try simp only [thenA_normal, thenA_ret, thenA_exit, blockA_normal, blockA_ret, blockA_exit]
            refine aw_region C (pb := false) rfl ?_
            repeat' (first | refine wy1 (a := by simp only [go_sem, ↓reduceIte, Nat.reduceEqDiff, reduceCtorEq, Nat.reduceAdd, Nat.reduceMul, Nat.reduceLeDiff, aLoad, aStore, wrap_small ((i : Int) + 1) (by omega) (by omega)]; exact rfl) (h := ?_) | fail)
            refine awOps_nil ?_
            try simp only [thenA_normal, thenA_ret, thenA_exit, blockA_normal, blockA_ret, blockA_exit]
            -- end of round 0 at 0t1f2f4f5t
            refine ⟨a.length - (i + 1), [(0, vC a), (1, vC b), (6, (x6)), (7, vI (kb + e)), (8, vI (i + 1))], by omega, AllIn.less ⟨rfl, rfl, rfl, rfl, rfl, trivial⟩, i + 1, kb + e, x6, all ++ [(a[i].n, te)], updI M a[i].n te, rfl, rfl, ?_, ?_, ?_, ?_, ?_, ?_, ?_⟩
            · exact ⟨by have := hJ6.1.1; exact (by first | omega | (dsimp only; omega)), fun j hj => (hlow6 j hj).trans ((upd_ne _ _ (by have := hJ6.1.1; omega)).trans (hJ6.1.2.1 j hj)), hJ6.1.2.2⟩
            · simp only [List.length_append, List.length_cons, List.length_nil]
              omega
            · simp only [List.length_append, List.length_cons, List.length_nil, List.map_append, List.flatMap_append, List.map_cons, List.map_nil, List.flatMap_cons, List.flatMap_nil, List.append_nil]
              exact hacc6.up (by first | omega | (dsimp only; omega)) fun _ _ _ => rfl
            · intro n
              rw [lkB_app hlk, ← hM]
              rfl
            · intro p hp
              rcases List.mem_append.1 hp with h | h
              · exact hal p h
              · rw [List.mem_singleton] at h; rw [h]; exact ⟨htO.pos, by have := htO.len; dsimp only; omega⟩
            · rw [List.take_succ_eq_append_getElem hi2]
              intro c hc hk'
              rcases List.mem_append.1 hc with h | h
              · have h1 := hset c h hk'
                unfold updI
                split
                · rfl
                · exact h1
              · rw [List.mem_singleton] at h
                rw [h]
                unfold updI
                rw [if_pos rfl]
                rfl
            · exact h3'
          · intro hc5
            have hsm : o = some te := by
              cases o with
              | none => cases hc5
              | some u =>
                have h5 : sameL u te = true := by simpa [badO] using hc4
                rw [sameL_iff.1 h5]
            refine aw_skip ?_
            simp only [thenA_normal, thenA_ret, thenA_exit, blockA_normal, blockA_ret, blockA_exit, ↓reduceIte, Nat.reduceEqDiff]
            refine aw_region C (pb := false) rfl ?_
            repeat' (first | refine wy0 (h := ?_) | fail)
            (refine wc (And.intro Try.call54 (fn54 L b kb e _ _ (gslC b) (by omega) ht.2 he (by omega))) ?_; rintro _ _ ⟨rfl, rfl⟩)
            repeat' (first | refine wy0 (h := ?_) | fail)
            refine awOps_nil ?_
            try simp only [thenA_normal, thenA_ret, thenA_exit, blockA_normal, blockA_ret, blockA_exit]
            refine aw_region C (pb := false) rfl ?_
            repeat' (first | refine wy1 (a := by simp only [go_sem, ↓reduceIte, Nat.reduceEqDiff, reduceCtorEq, Nat.reduceAdd, Nat.reduceMul, Nat.reduceLeDiff, aLoad, aStore, wrap_small ((i : Int) + 1) (by omega) (by omega)]; exact rfl) (h := ?_) | fail)
            refine awOps_nil ?_
            try simp only [thenA_normal, thenA_ret, thenA_exit, blockA_normal, blockA_ret, blockA_exit]
            -- end of round 0 at 0t1f2f4f5f
            refine ⟨a.length - (i + 1), [(0, vC a), (1, vC b), (6, (xo)), (7, vI (kb + e)), (8, vI (i + 1))], by omega, AllIn.less ⟨rfl, rfl, rfl, rfl, rfl, trivial⟩, i + 1, kb + e, xo, all, updI M a[i].n te, rfl, rfl, ?_, ?_, ?_, ?_, ?_, ?_, ?_⟩
            · exact hJ6.1.up (by first | omega | (dsimp only; omega))
            · omega
            · exact hJ6.2.up (by first | omega | (dsimp only; omega)) fun _ _ _ => rfl
            · intro n
              rw [← hM]
              unfold updI
              split
              · rename_i e1; rw [e1, ← ho, hsm]
              · rfl
            · exact hal
            · rw [List.take_succ_eq_append_getElem hi2]
              intro c hc hk'
              rcases List.mem_append.1 hc with h | h
              · have h1 := hset c h hk'
                unfold updI
                split
                · rfl
                · exact h1
              · rw [List.mem_singleton] at h
                rw [h]
                unfold updI
                rw [if_pos rfl]
                rfl
            · exact h3'
  · intro hc0
    try simp only [decide_eq_true_eq, decide_eq_false_iff_not] at hc0
    refine aw_exit ?_
    simp only [thenA_normal, thenA_ret, thenA_exit, blockA_normal, blockA_ret, blockA_exit, ↓reduceIte, Nat.reduceEqDiff]
    have hie : i = a.length := by omega
    rw [List.drop_of_length_le (by omega), matG] at h3
    rw [List.take_of_length_le (by omega)] at hset
    have hmr : matR a b = some (outG M (sortI (varsG a []))) := by rw [matR, ← hR, ← h3]; rfl
    obtain ⟨tx, ob7, hpv7, htx, _, hlow7, _⟩ := Acc.pure (enc := encB) (k := 2) (l := all.map bndI) (fun _ => rfl) (by rw [List.length_map]; exact hacc)
    refine aw_pur 6 hpv7 ?_
    refine aw_state (J := fun s7 => Kp s s7) ⟨by have := hs1.1; dsimp only; omega, fun j hj => (hlow7 j hj).trans (hs1.2.1 j hj), hs1.2.2⟩ fun s7 hJ7 => ?_
    refine aw_region_seq C (pb := false) rfl fun K hK => ?_
    repeat' (first | refine wy0 (h := ?_) | fail)
    refine wc (And.intro Try.call43 (fn43 L a _ _ (gslC a) (by omega))) ?_
    rintro _ _ ⟨⟨vs, yv, rfl, hyv, hvs, hvo⟩, rfl⟩
    repeat' (first | refine wy0 (h := ?_) | fail)
    refine awOps_nil (hK _ _ ?_)
    refine AW.less (sl' := [(6, .av (.sc tx)), (11, .av (.own s7.nx 0 0 2)), (12, .av (.sc yv))]) (AllIn.less ⟨rfl, rfl, rfl, trivial⟩) ?_
    refine aw_state (J := fun s9 => Kp s s9 ∧ Acc s.nx s9.nx s9.ob (.av (.own s7.nx 0 0 2)) ([] : List (Int × Nat × List Cell)).length 2 (owC [])) ⟨⟨by have := hJ7.1; exact (by first | omega | (dsimp only; omega) | (dsimp only at *; omega)), fun j hj => (upd_ne _ _ (by have := hJ7.1; omega)).trans (hJ7.2.1 j hj), hJ7.2.2⟩, .inr ⟨s7.nx, 0, rfl, by have := hJ7.1; omega, (by first | omega | (dsimp only; omega) | (dsimp only at *; omega)), upd_same _ _ _, by simp [owC], by simp [owC]⟩⟩ fun s9 hJ9 => ?_
    have hvl := sorted_len hvs fun v hv => occ_range ra.ok ((hvo v).1 hv)
    clear hK K
    refine aw_seq ?_
    refine aw_region_seq C (pb := false) rfl fun K hK => ?_
    repeat' (first | refine wy0 (h := ?_) | fail)
    refine awOps_nil (hK _ _ ?_)
    clear hK K
    refine aw_block ?_
    refine AW.less (sl' := [(6, .av (.sc tx)), (11, (_)), (12, .av (.sc yv)), (13, vI (0))]) (AllIn.less ⟨rfl, rfl, rfl, rfl, trivial⟩) (aw_loop (fun k sl1 s1 => ∃ (q : Nat) (xw : Va) (ow : List (Int × Nat × List Cell)), k = vs.length - q ∧ sl1 = [(6, .av (.sc tx)), (11, (xw)), (12, .av (.sc yv)), (13, vI (q))] ∧ (Kp s s1) ∧ (q ≤ vs.length ∧ ow.length ≤ q) ∧ (Acc s.nx s1.nx s1.ob xw ow.length 2 (owC ow)) ∧ (∀ p ∈ ow, s.nx ≤ p.2.1 ∧ p.2.1 < s1.nx ∧ 1 ≤ p.2.2.length ∧ ∃ fz, s1.ob p.2.1 = .cs (celC p.2.2) fz) ∧ (ow.map owB = outG M (vs.take q))) (k := vs.length - (0)) ⟨0, _, [], rfl, rfl, hJ9.1.up (by first | omega | (dsimp only; omega) | (dsimp only at *; omega)), ⟨Nat.zero_le _, Nat.le_refl _⟩, hJ9.2.up (by first | omega | (dsimp only; omega) | (dsimp only at *; omega)) fun _ _ _ => rfl, fun p hp => by simp at hp, rfl⟩ ?_)
    rintro k2 _ s2 ⟨q, xw, ow, hk2, rfl, hs2, hb2, hacw, hq, how⟩
    refine aw_seq ?_
    refine aw_region_seq C (pb := false) rfl fun K hK => ?_
    repeat' (first | refine wy1 (a := by simp only [go_sem, ↓reduceIte, Nat.reduceEqDiff, reduceCtorEq, Nat.reduceAdd, Nat.reduceMul, Nat.reduceLeDiff, aLoad, aStore, lenI hyv]; exact rfl) (h := ?_) | fail)
    refine awOps_nil (hK _ _ ?_)
    clear hK K
    refine aw_cond (by rfl) ?_ ?_
    · intro hc6
      try simp only [decide_eq_true_eq, decide_eq_false_iff_not] at hc6
      have hq2 : q < vs.length := by omega
      obtain ⟨v, hv⟩ : ∃ v, v = vs[q] := ⟨_, rfl⟩
      have hix := idxI hyv hq2
      rw [← hv] at hix
      have hvt : vs.take (q + 1) = vs.take q ++ [v] := by rw [hv, List.take_succ_eq_append_getElem hq2]
      obtain ⟨c0, hc1, hc2', hc3'⟩ := (hvo v).1 (by rw [hv]; exact List.getElem_mem hq2)
      obtain ⟨u, hu⟩ := Option.isSome_iff_exists.1 (hset c0 hc1 hc2')
      rw [hc3'] at hu
      have hlk : lkB all v = some u := by rw [← hM, hu]
      have hul : 1 ≤ u.length ∧ u.length ≤ 200 := by
        have h5 := hlk
        rw [lkB] at h5
        obtain ⟨p, hp, e2⟩ := Option.map_eq_some_iff.1 h5
        rw [← e2]
        exact hal p (List.mem_of_find?_eq_some hp)
      have hu0 : 0 < u.length := hul.1
      have hw2 : aIndex T 22 (.av (.sc (bdS (some u)))) (.av (.sc (.int .i64 0))) = _ := idxC (gslC u) hu0
      have hhd : headV u v = (u[0].kind == 1 && u[0].n == v) := by
        cases u with
        | nil => simp at hu0
        | cons c l => rfl
      refine aw_skip ?_
      simp only [thenA_normal, thenA_ret, thenA_exit, blockA_normal, blockA_ret, blockA_exit, ↓reduceIte, Nat.reduceEqDiff]
      refine aw_seq ?_
      refine aw_block ?_
      refine aw_region_seq C (pb := false) rfl fun K hK => ?_
      repeat' (first | refine wy1 (a := by simp only [go_sem, ↓reduceIte, Nat.reduceEqDiff, reduceCtorEq, Nat.reduceAdd, Nat.reduceMul, Nat.reduceLeDiff, aLoad, aStore, hix]; exact rfl) (h := ?_) | fail)
      refine awOps_nil (hK _ _ ?_)
      clear hK K
      refine aw_region_seq C (pb := false) rfl fun K hK => ?_
      repeat' (first | refine wy0 (h := ?_) | fail)
      (refine wc (And.intro Try.call55 (fnBound L hlk _ tx htx (by omega))) ?_; rintro _ _ ⟨rfl, rfl⟩)
      repeat' (first | refine wy0 (h := ?_) | fail)
      refine awOps_nil (hK _ _ ?_)
      clear hK K
      refine aw_cut_seq C (pb := false) [(6, .av (.sc tx)), (11, xw), (12, .av (.sc yv)), (13, vI q), (14, vI v), (15, vC u), (110, vB (!(u[0].kind == 1) || !(u[0].n == v)))] rfl ?_ fun n23 hn23 => ?_
      · cases hA0 : (u[0].kind == 1 : Bool)
        all_goals (repeat' (first | refine wy1 (a := by simp only [go_sem, ↓reduceIte, Nat.reduceEqDiff, reduceCtorEq, Nat.reduceAdd, Nat.reduceMul, Nat.reduceLeDiff, aLoad, aStore, hw2, bne, hA0]; exact rfl) (h := ?_) | refine wn (h := ?_) | fail))
        all_goals (exact awOps_nil ⟨⟨rfl, rfl, rfl, rfl, rfl, rfl, rfl, trivial⟩, rfl, (by first | omega | (dsimp only; omega)), rfl⟩)
      refine aw_cond (by rfl) ?_ ?_
      · intro hc7
        have hH : headV u v = false := by rw [hhd]; cases h1 : (u[0].kind == 1) <;> cases h2 : (u[0].n == v) <;> rw [h1, h2] at hc7 <;> first | rfl | cases hc7
        refine aw_state (J := fun s8 => Kp s s8 ∧ Acc s.nx s8.nx s8.ob xw ow.length 2 (owC ow) ∧ ∀ p ∈ ow, s.nx ≤ p.2.1 ∧ p.2.1 < s8.nx ∧ 1 ≤ p.2.2.length ∧ ∃ fz, s8.ob p.2.1 = .cs (celC p.2.2) fz) ⟨hs2.up (by first | omega | (dsimp only; omega) | (dsimp only at *; omega)), hacw.up (by first | omega | (dsimp only; omega) | (dsimp only at *; omega)) fun _ _ _ => rfl, fun p hp => by obtain ⟨k1, k2, k3⟩ := hq p hp; exact ⟨k1, (by first | omega | (dsimp only; omega) | (dsimp only at *; omega)), k3⟩⟩ fun s8 hJ8 => ?_
        refine aw_region C (pb := false) rfl ?_
        repeat' (first | refine wy0 (h := ?_) | fail)
        refine wy2 ((show aop C false _ _ _ _ = aAppend T _ _ 22 _ _ from rfl).trans (appC0 (l := u) (upd_same _ _ _) hu0 (by omega))) ?_
        repeat' (first | refine wy0 (h := ?_) | fail)
        refine awOps_append (by rfl) (by rfl) (by rfl) (by rfl) (hJ8.2.1.up (hi' := s8.nx) (Nat.le_refl _) fun j h1 h2 => (upd_ne _ _ (by omega)).trans ((upd_ne _ _ (by omega)).trans ((upd_ne _ _ (by omega)).trans (upd_ne _ _ (by omega))))) T25 rfl T39 rfl (by simp) (by simp [y39]) (k := 1) (new := [.sc (.int .i64 v), .own (s8.nx + 4) 0 u.length 3]) (by simp [aSrc, evA, get, upd, zerosA, storeL, List.range, List.range.loop]; exact ⟨Nat.le_refl _, rfl⟩) (by simp) (by omega) (by omega) (by have := hJ8.1.1; omega) fun x6 ob6 hacc6 hlow6 hoth6 => ?_
        repeat' (first | refine wy0 (h := ?_) | fail)
        refine awOps_nil ?_
        try simp only [thenA_normal, thenA_ret, thenA_exit, blockA_normal, blockA_ret, blockA_exit]
        refine aw_region C (pb := false) rfl ?_
        repeat' (first | refine wy1 (a := by simp only [go_sem, ↓reduceIte, Nat.reduceEqDiff, reduceCtorEq, Nat.reduceAdd, Nat.reduceMul, Nat.reduceLeDiff, aLoad, aStore, wrap_small ((q : Int) + 1) (by have := hvl; omega) (by have := hvl; omega)]; exact rfl) (h := ?_) | fail)
        refine awOps_nil ?_
        try simp only [thenA_normal, thenA_ret, thenA_exit, blockA_normal, blockA_ret, blockA_exit]
        -- end of round 1 at 0f.x06t7t
        refine ⟨vs.length - (q + 1), [(6, .av (.sc tx)), (11, (x6)), (12, .av (.sc yv)), (13, vI (q + 1))], by omega, AllIn.less ⟨rfl, rfl, rfl, rfl, trivial⟩, q + 1, x6, ow ++ [(v, s8.nx + 4, u)], rfl, rfl, ?_, ?_, ?_, ?_, ?_⟩
        · exact ⟨by have := hJ8.1.1; exact (by first | omega | (dsimp only; omega) | (dsimp only at *; omega)), fun j hj => (hlow6 j hj).trans ((upd_ne _ _ (by have := hJ8.1.1; omega)).trans ((upd_ne _ _ (by have := hJ8.1.1; omega)).trans ((upd_ne _ _ (by have := hJ8.1.1; omega)).trans ((upd_ne _ _ (by have := hJ8.1.1; omega)).trans (hJ8.1.2.1 j hj))))), hJ8.1.2.2⟩
        · simp only [List.length_append, List.length_cons, List.length_nil]
          omega
        · exact (hacc6.to (by simp) (by simp [owC])).up (by first | omega | (dsimp only; omega) | (dsimp only at *; omega)) fun _ _ _ => rfl
        · intro p hp
          have hnx := hJ8.1.1
          rcases List.mem_append.1 hp with h | h
          · obtain ⟨k1, k2, k3, fz, k4⟩ := hJ8.2.2 p h
            refine ⟨k1, (by first | omega | (dsimp only; omega) | (dsimp only at *; omega)), k3, fz, ?_⟩
            rw [hoth6 p.2.1 (by omega) fun j hj => ?_]
            · exact (upd_ne _ _ (by omega)).trans ((upd_ne _ _ (by omega)).trans ((upd_ne _ _ (by omega)).trans ((upd_ne _ _ (by omega)).trans k4)))
            · rcases hJ8.2.1 with ⟨h1, _⟩ | ⟨id, fz', h1, _, _, h4, _⟩
              · rw [h1] at hj; cases hj
              · rw [h1] at hj; cases hj; exact ow_ne k3 k4 h4
          · rw [List.mem_singleton] at h
            rw [h]
            refine ⟨by dsimp only; omega, (by first | omega | (dsimp only; omega) | (dsimp only at *; omega)), hul.1, 0, ?_⟩
            dsimp only
            rw [hoth6 (s8.nx + 4) (by omega) fun j hj => ?_]
            · rw [upd_ne _ _ (by omega)]
              exact upd_same _ _ _
            · rcases hJ8.2.1 with ⟨h1, _⟩ | ⟨id, fz', h1, _, h3, _⟩
              · rw [h1] at hj; cases hj
              · rw [h1] at hj; cases hj; omega
        · rw [hvt, outG_eq, List.filterMap_append, ← outG_eq, List.map_append, how]
          simp [hu, hH, owB]
      · intro hc7
        have hH : headV u v = true := by rw [hhd]; cases h1 : (u[0].kind == 1) <;> cases h2 : (u[0].n == v) <;> rw [h1, h2] at hc7 <;> first | rfl | cases hc7
        refine aw_skip ?_
        simp only [thenA_normal, thenA_ret, thenA_exit, blockA_normal, blockA_ret, blockA_exit, ↓reduceIte, Nat.reduceEqDiff]
        refine aw_region C (pb := false) rfl ?_
        repeat' (first | refine wy1 (a := by simp only [go_sem, ↓reduceIte, Nat.reduceEqDiff, reduceCtorEq, Nat.reduceAdd, Nat.reduceMul, Nat.reduceLeDiff, aLoad, aStore, wrap_small ((q : Int) + 1) (by have := hvl; omega) (by have := hvl; omega)]; exact rfl) (h := ?_) | fail)
        refine awOps_nil ?_
        try simp only [thenA_normal, thenA_ret, thenA_exit, blockA_normal, blockA_ret, blockA_exit]
        -- end of round 1 at 0f.x06t7f
        refine ⟨vs.length - (q + 1), [(6, .av (.sc tx)), (11, (xw)), (12, .av (.sc yv)), (13, vI (q + 1))], by omega, AllIn.less ⟨rfl, rfl, rfl, rfl, trivial⟩, q + 1, xw, ow, rfl, rfl, ?_, ?_, ?_, ?_, ?_⟩
        · exact hs2.up (by first | omega | (dsimp only; omega) | (dsimp only at *; omega))
        · omega
        · exact hacw.up (by first | omega | (dsimp only; omega) | (dsimp only at *; omega)) fun _ _ _ => rfl
        · intro p hp
          obtain ⟨k1, k2, k3⟩ := hq p hp
          exact ⟨k1, (by first | omega | (dsimp only; omega) | (dsimp only at *; omega)), k3⟩
        · rw [hvt, outG_eq, List.filterMap_append, ← outG_eq, how]
          simp [hu, hH]
    · intro hc6
      try simp only [decide_eq_true_eq, decide_eq_false_iff_not] at hc6
      refine aw_exit ?_
      simp only [thenA_normal, thenA_ret, thenA_exit, blockA_normal, blockA_ret, blockA_exit, ↓reduceIte, Nat.reduceEqDiff]
      rw [List.take_of_length_le (by omega)] at how
      obtain ⟨ty, ob9, hpv9, hty, hlow9⟩ := ow_pure hacw fun p hp => by obtain ⟨k1, _, k3⟩ := hq p hp; exact ⟨k1, k3⟩
      refine aw_pur 11 hpv9 ?_
      refine aw_region_seq C (pb := false) rfl fun K hK => ?_
      repeat' (first | refine wy0 (h := ?_) | fail)
      refine awOps_nil (hK _ _ ?_)
      clear hK K
      refine aw_ret ?_
      simp only [go_sem, ↓reduceIte, Nat.reduceEqDiff, reduceCtorEq, Nat.reduceAdd, Nat.reduceMul, Nat.reduceLeDiff, aLoad, aStore, FnQ, resA]
      -- 0f.x06f.x2.ret
      exact fun _ => ⟨by first | rfl | trivial, fun j hj => (hlow9 j hj).trans (hs2.2.1 j hj), hs2.2.2, ty, by rw [hmr]; rfl, by rw [hmr, sort_vs hvs hvo, Option.getD_some, ← how]; exact hty⟩
end Go.Am.Seat
/-
  MADE BY PROGRAM (am.py): the walks of functions 30.
-/
namespace Go.Am.Seat
open Go.Proofs

theorem ldK {ob : Nat → Obj} {id i fz : Nat} {l : List Cell} (h : ob id = .cs (celC l) fz) (hi : i < l.length) : aLoad T ob 3 (.av (.ptr id (i * 3))) = some (vI l[i].kind) := by
  rw [ldA h]
  simp only [T3, Option.bind_some, y3]
  rw [if_pos (by rw [celC_len]; omega), celC_at hi]
  rfl
theorem ldN3 {ob : Nat → Obj} {id i fz : Nat} {l : List Cell} (h : ob id = .cs (celC l) fz) (hi : i < l.length) : aLoad T ob 3 (.av (.ptr id (i * 3 + 2))) = some (vI l[i].n) := by
  rw [ldA h]
  simp only [T3, Option.bind_some, y3]
  rw [if_pos (by rw [celC_len]; omega), ← List.drop_drop, celC_at hi]
  rfl
theorem mixV_kind {g : Int → Int} {t : List Cell} {i : Nat} (hi : i < t.length) : ((mixV g t i)[i]'(by rw [mixV_len]; exact hi)).kind = t[i].kind := by rw [mixV_get hi]
/-- The state while a row's variables are turned. -/
structure TV (s : Me) (oid : Nat) (g : Int → Int) (t : List Cell) (i : Nat) (s1 : Me) : Prop where
  kp : Kp s s1
  o : s1.ob oid = .cs (celC (mixV g t i)) 0
  lo : s.nx ≤ oid ∧ oid < s1.nx
theorem TV.up {s s1 : Me} {oid i : Nat} {g : Int → Int} {t : List Cell} (h : TV s oid g t i s1) {m : Nat} (hm : s1.nx ≤ m) : TV s oid g t i ⟨s1.ob, m, s1.ls⟩ :=
  ⟨⟨Nat.le_trans h.kp.1 hm, h.kp.2.1, h.kp.2.2⟩, h.o, by have := h.lo; dsimp only; omega⟩
theorem TV.set {s s1 : Me} {oid i : Nat} {g : Int → Int} {t : List Cell} (h : TV s oid g t i s1) (hi : i < t.length) (hk : t[i].kind = 1) {m : Nat} (hm : s1.nx ≤ m) {c : Cell} (hc : c = mapC g t[i]) : TV s oid g t (i + 1) ⟨upd s1.ob oid (.cs (celC ((mixV g t i).set i c)) 0), m, s1.ls⟩ := by
  have := h.lo
  exact ⟨⟨Nat.le_trans h.kp.1 hm, fun j hj => (upd_ne _ _ (by omega)).trans (h.kp.2.1 j hj), h.kp.2.2⟩, (upd_same _ _ _).trans (by rw [mixV_succ hi, hc]), by dsimp only; omega⟩
theorem TV.keep {s s1 : Me} {oid i : Nat} {g : Int → Int} {t : List Cell} (h : TV s oid g t i s1) (hi : i < t.length) (hk : ¬ t[i].kind = 1) {m : Nat} (hm : s1.nx ≤ m) : TV s oid g t (i + 1) ⟨s1.ob, m, s1.ls⟩ :=
  ⟨⟨Nat.le_trans h.kp.1 hm, h.kp.2.1, h.kp.2.2⟩, by rw [mixV_succ hi, mapC, if_neg hk, ← mixV_get (g := g) hi, List.set_getElem_self]; exact h.o, by have := h.lo; dsimp only; omega⟩
theorem TV.fin {s s1 : Me} {oid i : Nat} {g : Int → Int} {t : List Cell} (h : TV s oid g t i s1) (hi : i = t.length) : s1.ob oid = .cs (celC (t.map (mapC g))) 0 := by
  have := h.o
  rwa [hi, mixV, List.take_length, List.drop_length, List.append_nil] at this

-- many steps
theorem bod30 : Try.f30.body = some (Try.f30.body.getD .skip) := rfl
set_option maxHeartbeats 1000000 in
theorem fn30 (L : Loops) (t : List Cell) (s : Me) (x : Sc) (hx : GSl encC x t) (hl : 0 < t.length ∧ t.length ≤ 1000000) : FnL Try.prog L 30 [.av (.sc x)] s fun r s' => (r = vC (numG t)) ∧ s' = s := by
  refine FnL.pure (R := fun r => r = vC (numG t)) ?_
  obtain rfl := gsl_pos hx hl.1
  refine fn_of_body (ts := [2]) Try.func30 bod30 rfl (by simp) (by simp [Try.ntmps30]) fun D0 => ?_
  unfold Try.f30
  simp only [Option.getD_some, initSl]
  refine aw_region_seq C (pb := false) rfl fun K hK => ?_
  repeat' (first | refine wy1 (a := by simp only [go_sem, ↓reduceIte, Nat.reduceEqDiff, reduceCtorEq, Nat.reduceAdd, Nat.reduceMul, Nat.reduceLeDiff]; exact rfl) (h := ?_) | fail)
  refine awOps_nil (hK _ _ ?_)
  clear hK K
  refine aw_region_seq C (pb := false) rfl fun K hK => ?_
  repeat' (first | refine wy1 (a := by simp only [go_sem, ↓reduceIte, Nat.reduceEqDiff, reduceCtorEq, Nat.reduceAdd, Nat.reduceMul, Nat.reduceLeDiff]; exact rfl) (h := ?_) | fail)
  refine wc (And.intro Try.call24 (fn24 L t _ _ hx (by omega))) ?_
  rintro _ _ ⟨⟨xv, rfl, hxv⟩, rfl⟩
  repeat' (first | refine wy1 (a := by simp only [go_sem, ↓reduceIte, Nat.reduceEqDiff, reduceCtorEq, Nat.reduceAdd, Nat.reduceMul, Nat.reduceLeDiff]; exact rfl) (h := ?_) | fail)
  refine awOps_nil (hK _ _ ?_)
  clear hK K
  refine aw_region_seq C (pb := false) rfl fun K hK => ?_
  repeat' (first | refine wy1 (a := by simp only [go_sem, ↓reduceIte, Nat.reduceEqDiff, reduceCtorEq, Nat.reduceAdd, Nat.reduceMul, Nat.reduceLeDiff]; exact rfl) (h := ?_) | fail)
  refine wy2 ((show aop C false _ _ _ _ = aAppend T _ _ 22 _ _ from rfl).trans (appC0 (l := t) (upd_same _ _ _) hl.1 (by omega))) ?_
  repeat' (first | refine wy1 (a := by simp only [go_sem, ↓reduceIte, Nat.reduceEqDiff, reduceCtorEq, Nat.reduceAdd, Nat.reduceMul, Nat.reduceLeDiff]; exact rfl) (h := ?_) | fail)
  refine awOps_nil (hK _ _ ?_)
  clear hK K
  refine aw_seq ?_
  refine aw_region_seq C (pb := false) rfl fun K hK => ?_
  repeat' (first | refine wy1 (a := by simp only [go_sem, ↓reduceIte, Nat.reduceEqDiff, reduceCtorEq, Nat.reduceAdd, Nat.reduceMul, Nat.reduceLeDiff]; exact rfl) (h := ?_) | fail)
  refine awOps_nil (hK _ _ ?_)
  refine AW.less (sl' := [(3, .av (.sc xv)), (4, .av (.own (s.nx + 6) 0 t.length 3)), (5, vI 0)]) (AllIn.less ⟨rfl, rfl, rfl, trivial⟩) ?_
  refine aw_state (J := fun s3 => TV s (s.nx + 6) (fun n => placeI (varsG t []) n 0) t 0 s3) ⟨⟨(by first | omega | (dsimp only; omega) | (dsimp only at *; omega)), fun j hj => (upd_ne _ _ (by omega)).trans ((upd_ne _ _ (by omega)).trans (upd_ne _ _ (by omega))), rfl⟩, by rw [show mixV (fun n => placeI (varsG t []) n 0) t 0 = t by simp [mixV]]; exact upd_same _ _ _, (by first | omega | (dsimp only; omega) | (dsimp only at *; omega))⟩ fun s3 hJ3 => ?_
  obtain ⟨oid, hoid⟩ : ∃ c, c = s.nx + 6 := ⟨_, rfl⟩
  rw [← hoid] at hJ3 ⊢
  clear hK K
  refine aw_block ?_
  refine AW.less (sl' := [(3, .av (.sc xv)), (4, .av (.own oid 0 t.length 3)), (5, vI (0))]) (AllIn.less ⟨rfl, rfl, rfl, trivial⟩) (aw_loop (fun k sl1 s1 => ∃ (i : Nat), k = t.length - i ∧ sl1 = [(3, .av (.sc xv)), (4, .av (.own oid 0 t.length 3)), (5, vI (i))] ∧ (TV s oid (fun n => placeI (varsG t []) n 0) t i s1) ∧ (i ≤ t.length)) (k := t.length - (0)) ⟨0, rfl, rfl, hJ3.up (by first | omega | (dsimp only; omega) | (dsimp only at *; omega)), Nat.zero_le _⟩ ?_)
  rintro k1 _ s1 ⟨i, hk1, rfl, hs1, hb⟩
  refine aw_seq ?_
  refine aw_region_seq C (pb := false) rfl fun K hK => ?_
  repeat' (first | refine wy1 (a := by simp only [go_sem, ↓reduceIte, Nat.reduceEqDiff, reduceCtorEq, Nat.reduceAdd, Nat.reduceMul, Nat.reduceLeDiff, lenOwn]; exact rfl) (h := ?_) | fail)
  refine awOps_nil (hK _ _ ?_)
  clear hK K
  refine aw_cond (by rfl) ?_ ?_
  · intro hc0
    try simp only [decide_eq_true_eq, decide_eq_false_iff_not] at hc0
    have hi2 : i < t.length := by omega
    have hi3 : i < (mixV (fun n => placeI (varsG t []) n 0) t i).length := by rw [mixV_len]; exact hi2
    have hge := mixV_get (g := (fun n => placeI (varsG t []) n 0)) hi2
    refine aw_skip ?_
    simp only [thenA_normal, thenA_ret, thenA_exit, blockA_normal, blockA_ret, blockA_exit, ↓reduceIte, Nat.reduceEqDiff]
    refine aw_seq ?_
    refine aw_block ?_
    refine aw_region_seq C (pb := false) rfl fun K hK => ?_
    repeat' (first | refine wy1 (a := by simp only [go_sem, ↓reduceIte, Nat.reduceEqDiff, reduceCtorEq, Nat.reduceAdd, Nat.reduceMul, Nat.reduceLeDiff, ixC hi2, ldK hs1.o hi3, hge, Nat.add_zero]; exact rfl) (h := ?_) | fail)
    refine awOps_nil (hK _ _ ?_)
    clear hK K
    refine aw_cond (by rfl) ?_ ?_
    · intro hc1
      try simp only [beq_iff_eq, beq_eq_false_iff_ne, ne_eq] at hc1
      refine aw_region C (pb := false) rfl ?_
      repeat' (first | refine wy1 (a := by simp only [go_sem, ↓reduceIte, Nat.reduceEqDiff, reduceCtorEq, Nat.reduceAdd, Nat.reduceMul, Nat.reduceLeDiff, ixC hi2, ldN3 hs1.o hi3, hge, stCell hs1.o hi3, Nat.add_zero]; exact rfl) (h := ?_) | fail)
      (refine wc (And.intro Try.call61 (fn61 L (varsG t []) t[i].n _ xv hxv (by have := varsG_len t []; simp only [List.length_nil] at this; omega))) ?_; rintro _ _ ⟨rfl, rfl⟩)
      repeat' (first | refine wy1 (a := by simp only [go_sem, ↓reduceIte, Nat.reduceEqDiff, reduceCtorEq, Nat.reduceAdd, Nat.reduceMul, Nat.reduceLeDiff, ixC hi2, ldN3 hs1.o hi3, hge, stCell hs1.o hi3, Nat.add_zero]; exact rfl) (h := ?_) | refine wz1 (a := by simp only [go_sem, ↓reduceIte, Nat.reduceEqDiff, reduceCtorEq, Nat.reduceAdd, Nat.reduceMul, Nat.reduceLeDiff, ixC hi2, ldN3 hs1.o hi3, hge, stCell hs1.o hi3, Nat.add_zero]; exact rfl) (h := ?_) | fail)
      refine awOps_nil ?_
      try simp only [thenA_normal, thenA_ret, thenA_exit, blockA_normal, blockA_ret, blockA_exit]
      refine aw_region C (pb := false) rfl ?_
      repeat' (first | refine wy1 (a := by simp only [go_sem, ↓reduceIte, Nat.reduceEqDiff, reduceCtorEq, Nat.reduceAdd, Nat.reduceMul, Nat.reduceLeDiff, wrap_small ((i : Int) + 1) (by omega) (by omega)]; exact rfl) (h := ?_) | fail)
      refine awOps_nil ?_
      try simp only [thenA_normal, thenA_ret, thenA_exit, blockA_normal, blockA_ret, blockA_exit]
      -- end of round 0 at 0t1t
      refine ⟨t.length - (i + 1), [(3, .av (.sc xv)), (4, .av (.own oid 0 t.length 3)), (5, vI (i + 1))], by omega, AllIn.less ⟨rfl, rfl, rfl, trivial⟩, i + 1, rfl, rfl, ?_, ?_⟩
      · exact hs1.set hi2 hc1 (by first | omega | (dsimp only; omega) | (dsimp only at *; omega)) (by rw [mapC, if_pos hc1])
      · omega
    · intro hc1
      try simp only [beq_iff_eq, beq_eq_false_iff_ne, ne_eq] at hc1
      refine aw_skip ?_
      simp only [thenA_normal, thenA_ret, thenA_exit, blockA_normal, blockA_ret, blockA_exit, ↓reduceIte, Nat.reduceEqDiff]
      refine aw_region C (pb := false) rfl ?_
      repeat' (first | refine wy1 (a := by simp only [go_sem, ↓reduceIte, Nat.reduceEqDiff, reduceCtorEq, Nat.reduceAdd, Nat.reduceMul, Nat.reduceLeDiff, wrap_small ((i : Int) + 1) (by omega) (by omega)]; exact rfl) (h := ?_) | fail)
      refine awOps_nil ?_
      try simp only [thenA_normal, thenA_ret, thenA_exit, blockA_normal, blockA_ret, blockA_exit]
      -- end of round 0 at 0t1f
      refine ⟨t.length - (i + 1), [(3, .av (.sc xv)), (4, .av (.own oid 0 t.length 3)), (5, vI (i + 1))], by omega, AllIn.less ⟨rfl, rfl, rfl, trivial⟩, i + 1, rfl, rfl, ?_, ?_⟩
      · exact hs1.keep hi2 hc1 (by first | omega | (dsimp only; omega) | (dsimp only at *; omega))
      · omega
  · intro hc0
    try simp only [decide_eq_true_eq, decide_eq_false_iff_not] at hc0
    refine aw_exit ?_
    simp only [thenA_normal, thenA_ret, thenA_exit, blockA_normal, blockA_ret, blockA_exit, ↓reduceIte, Nat.reduceEqDiff]
    have hin : i = t.length := by omega
    have hpl := celC_pure (hs1.fin hin)
    rw [List.length_map] at hpl
    refine aw_pur 4 hpl ?_
    refine aw_region_seq C (pb := false) rfl fun K hK => ?_
    repeat' (first | refine wy1 (a := by simp only [go_sem, ↓reduceIte, Nat.reduceEqDiff, reduceCtorEq, Nat.reduceAdd, Nat.reduceMul, Nat.reduceLeDiff]; exact rfl) (h := ?_) | fail)
    refine awOps_nil (hK _ _ ?_)
    clear hK K
    refine aw_ret ?_
    simp only [go_sem, ↓reduceIte, Nat.reduceEqDiff, reduceCtorEq, Nat.reduceAdd, Nat.reduceMul, Nat.reduceLeDiff, FnQ, resA]
    -- 0f.x0.ret
    exact fun _ => ⟨rfl, fun j hj => (upd_ne _ _ (by have := hs1.lo; omega)).trans (hs1.kp.2.1 j hj), hs1.kp.2.2, by first | rfl | (simp only [vC, numG, List.length_map])⟩
end Go.Am.Seat
/-
  MADE BY PROGRAM (am.py): the walks of functions 19.
-/
namespace Go.Am.Seat
open Go.Proofs
theorem bod19 : Try.f19.body = some (Try.f19.body.getD .skip) := rfl
theorem fn19 (L : Loops) (a b : List Cell) (s : Me) (x y : Sc) (hx : GSl encC x a) (hy : GSl encC y b) (ha : 0 < a.length ∧ a.length ≤ 1000000) (hb : 0 < b.length ∧ b.length ≤ 1000000) : FnL Try.prog L 19 [.av (.sc x), .av (.sc y)] s fun r s' => (r = vB (sameL (numG a) (numG b))) ∧ s' = s := by
  refine FnL.pure (R := fun r => r = vB (sameL (numG a) (numG b))) ?_
  refine fn_of_body (ts := [4]) Try.func19 bod19 rfl (by simp) (by simp [Try.ntmps19]) fun D0 => ?_
  unfold Try.f19
  simp only [Option.getD_some, initSl]
  refine aw_region_seq C (pb := false) rfl fun K hK => ?_
  repeat' (first | refine wy0 (h := ?_) | fail)
  refine awOps_nil (hK _ _ ?_)
  clear hK K
  refine aw_region_seq C (pb := false) rfl fun K hK => ?_
  repeat' (first | refine wy0 (h := ?_) | fail)
  (refine wc (And.intro Try.call30 (fn30 L a _ x hx ha)) ?_; rintro _ _ ⟨rfl, rfl⟩)
  repeat' (first | refine wy0 (h := ?_) | fail)
  (refine wc (And.intro Try.call30 (fn30 L b _ y hy hb)) ?_; rintro _ _ ⟨rfl, rfl⟩)
  (refine wc (And.intro Try.call20 (fn20 L (numG a) (numG b) _ _ _ (gslC _) (gslC _) (by rw [numG, List.length_map]; omega))) ?_; rintro _ _ ⟨rfl, rfl⟩)
  repeat' (first | refine wy0 (h := ?_) | fail)
  refine awOps_nil (hK _ _ ?_)
  clear hK K
  refine aw_ret ?_
  simp only [go_sem, ↓reduceIte, Nat.reduceEqDiff, reduceCtorEq, Nat.reduceAdd, Nat.reduceMul, Nat.reduceLeDiff, aLoad, aStore, FnQ, resA]
  -- .ret
  exact fun _ => ⟨by first | rfl | trivial, by first | exact fun _ _ => rfl | trivial, by first | rfl | trivial, by first | rfl | trivial⟩
end Go.Am.Seat
/-
  MATCH and VARIANT at right terms: the contracts, in short.
-/
namespace Go.Am.Seat
open Go.Proofs
theorem fnVar (L : Loops) {a b : List Cell} {v : Bool} (hv : sameL (numG a) (numG b) = v) (s : Me) (x y : Sc) (hx : GSl encC x a) (hy : GSl encC y b) (ha : 1 ≤ a.length ∧ a.length ≤ 200) (hb : 1 ≤ b.length ∧ b.length ≤ 200) : FnL Try.prog L 18 [.av (.sc x), .av (.sc y)] s fun r s' => r = vB v ∧ s' = s :=
  (fn18 L a b s x y hx hy (by omega) (by omega)).mono fun r s' h => ⟨h.1.trans (congrArg vB hv), h.2⟩
theorem fnMat (L : Loops) {a b : List Cell} (ha : RTm a) (hb : RTm b) (s : Me) (x y : Sc) (hx : GSl encC x a) (hy : GSl encC y b) : FnL Try.prog L 15 [.av (.sc x), .av (.sc y)] s fun r s' => (∃ z, r = .tup [.av (.sc z), vB (matR a b).isSome] ∧ GSl encB z (((matR a b).getD []).map bndI)) ∧ s' = s := by
  have a2 := ha.len
  have b2 := hb.len
  refine (fn15 L a b _ s x y hx hy (by omega) hb.tok rfl fun o ho => matR_right ha hb ho).mono fun r s' ⟨⟨z, o, h1, h2, h3⟩, h4⟩ => ⟨⟨z, h1, ?_⟩, h4⟩
  rw [h3] at h2
  exact h2
theorem numG_len (t : List Cell) : (numG t).length = t.length := by rw [numG, List.length_map]
end Go.Am.Seat
/-
  MADE BY PROGRAM (am.py): the walks of functions 3.
-/
namespace Go.Am.Seat
open Go.Proofs

theorem mgu_bound {a b : List Cell} (ha : RTm a) (hb : RTm b) : ((mgu a b).1.map toI).length ≤ 1000 ∧ ∀ p ∈ (mgu a b).1.map toI, p.2.length ≤ 200 := by
  obtain ⟨h1, h2⟩ := mgu_len ha hb
  refine ⟨by rw [List.length_map]; exact h1, fun p hp => ?_⟩
  obtain ⟨q, hq, rfl⟩ := List.mem_map.1 hp
  exact h2 q hq
theorem mat_bound {a b : List Cell} (ha : RTm a) (hb : RTm b) : ((matR a b).getD []).length ≤ 1000 ∧ ∀ p ∈ (matR a b).getD [], p.2.length ≤ 200 := by
  cases h : matR a b with
  | none => exact ⟨Nat.zero_le _, fun p hp => by simp at hp⟩
  | some o => exact matR_bound ha hb h
theorem fn19v (L : Loops) {a b : List Cell} {v : Bool} (hv : sameL (numG a) (numG b) = v) (s : Me) (x y : Sc) (hx : GSl encC x a) (hy : GSl encC y b) (ha : 1 ≤ a.length ∧ a.length ≤ 200) (hb : 1 ≤ b.length ∧ b.length ≤ 200) : FnL Try.prog L 19 [.av (.sc x), .av (.sc y)] s fun r s' => r = vB v ∧ s' = s :=
  (fn19 L a b s x y hx hy (by omega) (by omega)).mono fun r s' h => ⟨h.1.trans (congrArg vB hv), h.2⟩

-- many steps
theorem bod3 : Try.f3.body = some (Try.f3.body.getD .skip) := rfl
set_option maxHeartbeats 2000000 in
set_option maxRecDepth 20000 in
theorem fn3 (L : Loops) (a b : List Cell) (s : Me) (sa sb : Sc) (ha : GSl encC sa a) (hb : GSl encC sb b) (hla : a.length ≤ 281474976710656) (hlb : b.length ≤ 281474976710656) (hna : ∀ c ∈ a, c.name.size ≤ 1152921504606846976) (hnb : ∀ c ∈ b, c.name.size ≤ 1152921504606846976) : FnL Try.prog L 3 [.av (.sc sa), .av (.sc sb)] s fun r s' => (r = vB true) ∧ s' = s := by
  refine FnL.pure (R := fun r => r = vB true) ?_
  refine fn_of_body (ts := [4]) Try.func3 bod3 rfl (by simp) (by simp [Try.ntmps3]) fun D0 => ?_
  unfold Try.f3
  simp only [Option.getD_some, initSl]
  refine aw_region_seq C (pb := false) rfl fun K hK => ?_
  repeat' (first | refine wy0 (h := ?_) | fail)
  refine awOps_nil (hK _ _ ?_)
  clear hK K
  refine aw_region_seq C (pb := false) rfl fun K hK => ?_
  (refine wc (And.intro Try.call11 (fn11 L _)) ?_; rintro _ _ ⟨rfl, rfl⟩)
  repeat' (first | refine wy0 (h := ?_) | fail)
  refine awOps_nil (hK _ _ ?_)
  clear hK K
  refine aw_region_seq C (pb := false) rfl fun K hK => ?_
  repeat' (first | refine wy0 (h := ?_) | fail)
  refine wc (And.intro Try.call12 (fnMade L a 30 _ sa ha hla hna (by decide))) ?_
  rintro _ _ ⟨⟨t, rfl, rt, hlt⟩, rfl⟩
  repeat' (first | refine wy0 (h := ?_) | fail)
  refine awOps_nil (hK _ _ ?_)
  clear hK K
  refine aw_region_seq C (pb := false) rfl fun K hK => ?_
  repeat' (first | refine wy0 (h := ?_) | fail)
  refine wc (And.intro Try.call12 (fnMade L b 30 _ sb hb hlb hnb (by decide))) ?_
  rintro _ _ ⟨⟨u, rfl, ru, hlu⟩, rfl⟩
  repeat' (first | refine wy0 (h := ?_) | fail)
  refine awOps_nil (hK _ _ ?_)
  refine AW.less (sl' := [(0, vC t), (1, vC u), (5, vB true)]) (AllIn.less ⟨rfl, rfl, rfl, trivial⟩) ?_
  clear hK K
  refine aw_region_seq C (pb := false) rfl fun K hK => ?_
  repeat' (first | refine wy0 (h := ?_) | fail)
  (refine wc (And.intro Try.call13 (fnMguV L rt ru _)) ?_; rintro _ _ ⟨rfl, rfl⟩)
  repeat' (first | refine wy0 (h := ?_) | fail)
  refine awOps_nil (hK _ _ ?_)
  refine AW.less (sl' := [(0, vC t), (1, vC u), (5, vB true), (6, .av (.sc (scB ((mgu t u).1.map toI)))), (7, vI (mgu t u).2)]) (AllIn.less ⟨rfl, rfl, rfl, rfl, rfl, trivial⟩) ?_
  clear hK K
  refine aw_region_seq C (pb := false) rfl fun K hK => ?_
  repeat' (first | refine wy0 (h := ?_) | fail)
  refine wc (And.intro Try.call14 (fn14 L t u _ rt ru)) ?_
  rintro _ _ ⟨⟨z2, rfl, hz2⟩, rfl⟩
  repeat' (first | refine wy0 (h := ?_) | fail)
  refine awOps_nil (hK _ _ ?_)
  refine AW.less (sl' := [(0, vC t), (1, vC u), (5, vB true), (6, .av (.sc (scB ((mgu t u).1.map toI)))), (7, vI (mgu t u).2), (8, .av (.sc z2)), (9, vI (mgu t u).2)]) (AllIn.less ⟨rfl, rfl, rfl, rfl, rfl, rfl, rfl, trivial⟩) ?_
  clear hK K
  refine aw_region_seq C (pb := false) rfl fun K hK => ?_
  repeat' (first | refine wy0 (h := ?_) | fail)
  refine wc (And.intro Try.call15 (fnMat L rt ru _ _ _ (gslC t) (gslC u))) ?_
  rintro _ _ ⟨⟨z3, rfl, hz3⟩, rfl⟩
  repeat' (first | refine wy0 (h := ?_) | fail)
  refine awOps_nil (hK _ _ ?_)
  refine AW.less (sl' := [(0, vC t), (1, vC u), (5, vB true), (6, .av (.sc (scB ((mgu t u).1.map toI)))), (7, vI (mgu t u).2), (8, .av (.sc z2)), (9, vI (mgu t u).2), (10, .av (.sc z3)), (11, vB (matR t u).isSome)]) (AllIn.less ⟨rfl, rfl, rfl, rfl, rfl, rfl, rfl, rfl, rfl, trivial⟩) ?_
  clear hK K
  refine aw_region_seq C (pb := false) rfl fun K hK => ?_
  repeat' (first | refine wy0 (h := ?_) | fail)
  refine wc (And.intro Try.call16 (fn16 L t u _ rt ru)) ?_
  rintro _ _ ⟨⟨z4, rfl, hz4⟩, rfl⟩
  repeat' (first | refine wy0 (h := ?_) | fail)
  refine awOps_nil (hK _ _ ?_)
  refine AW.less (sl' := [(0, vC t), (1, vC u), (5, vB true), (6, .av (.sc (scB ((mgu t u).1.map toI)))), (7, vI (mgu t u).2), (8, .av (.sc z2)), (9, vI (mgu t u).2), (10, .av (.sc z3)), (11, vB (matR t u).isSome), (12, .av (.sc z4)), (13, vB (matR t u).isSome)]) (AllIn.less ⟨rfl, rfl, rfl, rfl, rfl, rfl, rfl, rfl, rfl, rfl, rfl, trivial⟩) ?_
  clear hK K
  have hz1 := scB_gsl ((mgu t u).1.map toI)
  have hbm := mgu_bound rt ru
  have hbt := mat_bound rt ru
  obtain ⟨v, hv⟩ : ∃ v, v = sameL (numG t) (numG u) := ⟨_, rfl⟩
  obtain ⟨w, hw⟩ : ∃ w, w = (matR t u).isSome := ⟨_, rfl⟩
  obtain ⟨e, he⟩ : ∃ e, e = (mgu t u).2 := ⟨_, rfl⟩
  obtain ⟨z1, hz1'⟩ : ∃ z, z = scB ((mgu t u).1.map toI) := ⟨_, rfl⟩
  rw [← hz1'] at hz1 ⊢
  rw [← hw, ← he]
  have e1 : (e == e) = true := beq_self_eq_true e
  have e2 : (w == w) = true := beq_self_eq_true w
  have e3 : (v == v) = true := beq_self_eq_true v
  refine aw_region_seq C (pb := false) rfl fun K hK => ?_
  repeat' (first | refine wy1 (a := by simp only [go_sem, ↓reduceIte, Nat.reduceEqDiff, reduceCtorEq, Nat.reduceAdd, Nat.reduceMul, Nat.reduceLeDiff, aLoad, aStore, e1, e2, e3]; exact rfl) (h := ?_) | fail)
  (refine wc (And.intro Try.call17 (fnSameE L _ _ z1 z2 hz1 hz2 hbm)) ?_; rintro _ _ ⟨rfl, rfl⟩)
  repeat' (first | refine wy1 (a := by simp only [go_sem, ↓reduceIte, Nat.reduceEqDiff, reduceCtorEq, Nat.reduceAdd, Nat.reduceMul, Nat.reduceLeDiff, aLoad, aStore, e1, e2, e3]; exact rfl) (h := ?_) | refine wn (h := ?_) | fail)
  try (first | (refine wc (And.intro Try.call17 (fnSameE L _ _ z3 z4 hz3 hz4 hbt)) ?_; rintro _ _ ⟨rfl, rfl⟩) | refine wn (h := ?_) | fail)
  repeat' (first | refine wy1 (a := by simp only [go_sem, ↓reduceIte, Nat.reduceEqDiff, reduceCtorEq, Nat.reduceAdd, Nat.reduceMul, Nat.reduceLeDiff, aLoad, aStore, e1, e2, e3]; exact rfl) (h := ?_) | refine wn (h := ?_) | fail)
  try (first | (refine wc (And.intro Try.call18 (fnVar L hv.symm _ _ _ (gslC t) (gslC u) ⟨rt.pos, by omega⟩ ⟨ru.pos, by omega⟩)) ?_; rintro _ _ ⟨rfl, rfl⟩) | refine wn (h := ?_) | fail)
  repeat' (first | refine wy1 (a := by simp only [go_sem, ↓reduceIte, Nat.reduceEqDiff, reduceCtorEq, Nat.reduceAdd, Nat.reduceMul, Nat.reduceLeDiff, aLoad, aStore, e1, e2, e3]; exact rfl) (h := ?_) | refine wn (h := ?_) | fail)
  try (first | (refine wc (And.intro Try.call19 (fn19v L hv.symm _ _ _ (gslC t) (gslC u) ⟨rt.pos, by omega⟩ ⟨ru.pos, by omega⟩)) ?_; rintro _ _ ⟨rfl, rfl⟩) | refine wn (h := ?_) | fail)
  repeat' (first | refine wy1 (a := by simp only [go_sem, ↓reduceIte, Nat.reduceEqDiff, reduceCtorEq, Nat.reduceAdd, Nat.reduceMul, Nat.reduceLeDiff, aLoad, aStore, e1, e2, e3]; exact rfl) (h := ?_) | refine wn (h := ?_) | fail)
  refine awOps_nil (hK _ _ ?_)
  clear hK K
  refine aw_ret ?_
  simp only [go_sem, ↓reduceIte, Nat.reduceEqDiff, reduceCtorEq, Nat.reduceAdd, Nat.reduceMul, Nat.reduceLeDiff, aLoad, aStore, FnQ, resA]
  -- .ret
  exact fun _ => ⟨by first | rfl | trivial, by first | exact fun _ _ => rfl | trivial, by first | rfl | trivial, by first | rfl | trivial⟩
end Go.Am.Seat
/-
  UnifyTells: for every input the law returns true, and each argument reads as it read: the row, out of the walk's contract (fn3) and the plain law.
-/
namespace Go.Proofs.Yticnfndhinjbbaa.unifyTells
open Go.ChangeShapes Go.WideShapes Go.ChangeAt Go.RowKit Go.Am Go.Am.Seat
theorem own : ownKnob Try.prog.godebug = none := by kernel_rfl
theorem laidOut : laidOutB Try.prog = true := by kernel_rfl
set_option maxRecDepth 100000 in
theorem lifted (os : Os) (started : os.Started) (H : Type) (enc : TypeId × Value → H) :
    ReturnsInHanded {} Try.checked os 3 .any (Rows.unifyTellsSpec.pre6 enc Try.prog Try.f3 Rows.unifyTellsRow.domain false) (Rows.unifyTellsSpec.post enc Try.prog Try.f3 false true false false) := by
  refine returnsInHanded_of_change_sized (C := Try.checked) own started (by kernel_rfl) Try.func3
    (ChangeSpec.witness6 (enc := enc) (C := Try.checked) false ⟨#[], #[.slice none 0 0, .slice none 0 0], []⟩ 8 (by kernel_rfl) (by kernel_rfl) (by kernel_rfl) (by kernel_rfl)) ?_
  intro W base args ds gs before hval0 hW hcnd hsz0 _
  have hsz : (DataW.weightsEach Try.prog (Try.f3.params.toList ++ Rows.unifyTellsSpec.plain.varTypes Try.prog) (ds ++ gs)).all (· ≤ reachBytes) = true := hsz0
  have hval : ∀ (j : Nat) t v, Try.f3.params[j]? = some t → args[j]? = some v → Value.okWide Try.prog W .any base t v := hval0
  have hW' := hW
  obtain ⟨p, q, hA0, hV, rfl, hfz, hnd⟩ := hW
  have hA : DataW.TrodAll enc Try.prog W 0 (fun _ => true) true Try.f3.params.toList args.toList ds p := hA0
  rw [Try.params3] at hA hval hsz
  obtain ⟨v0, vs0, d0, ds0, p0, q0, hargs, rfl, rfl, h0, r0⟩ := trodAll_cons hA
  obtain ⟨v1, vs1, d1, ds1, p1, q1, rfl, rfl, rfl, h1, r1⟩ := trodAll_cons r0
  obtain ⟨rfl, rfl, rfl⟩ := trodAll_nil r1
  obtain rfl : args = #[v0, v1] := by cases args; simp_all
  obtain ⟨rfl, rfl⟩ := trodVars_none hV
  obtain ⟨a0, len0, cap0, rfl⟩ := okWide_slice Try.underlying22 (hval 0 22 v0 rfl rfl)
  have k0 := h0
  have lt0 : ∀ x ∈ p0, x.block < W.heap.size := by obtain ⟨m, hm⟩ := k0; exact DataW.trod_lt m _ _ _ hm
  obtain ⟨l0, ⟨⟨sc0, hsr0, hg0⟩, hl0, hn0⟩⟩ : ∃ l, ReadsC W (.slice a0 len0 cap0) l := by
    obtain ⟨fuel, hf⟩ := h0
    obtain ⟨v, l, hcs, hr⟩ := open_cells hf fun n hn => by
      have := List.all_eq_true.1 hsz n (DataW.weights_mem_each (j := 0) (t := 22) rfl rfl n hn)
      simpa using this
    simp only [Value.cells, List.cons.injEq, and_true] at hcs
    subst hcs
    exact ⟨l, hr⟩
  obtain ⟨a1, len1, cap1, rfl⟩ := okWide_slice Try.underlying22 (hval 1 22 v1 rfl rfl)
  have k1 := h1
  have lt1 : ∀ x ∈ p1, x.block < W.heap.size := by obtain ⟨m, hm⟩ := k1; exact DataW.trod_lt m _ _ _ hm
  obtain ⟨l1, ⟨⟨sc1, hsr1, hg1⟩, hl1, hn1⟩⟩ : ∃ l, ReadsC W (.slice a1 len1 cap1) l := by
    obtain ⟨fuel, hf⟩ := h1
    obtain ⟨v, l, hcs, hr⟩ := open_cells hf fun n hn => by
      have := List.all_eq_true.1 hsz n (DataW.weights_mem_each (j := 1) (t := 22) rfl rfl n hn)
      simpa using this
    simp only [Value.cells, List.cons.injEq, and_true] at hcs
    subst hcs
    exact ⟨l, hr⟩
  clear hA0 hval0 hsz0
  have hc := calls_of (s := ⟨fun _ => .dead, 0, fun _ => .ready⟩) rfl (fn3 noL l0 l1 _ sc0 sc1 hg0 hg1 hl0 hl1 hn0 hn1) (W := W) (vs := [.slice a0 len0 cap0, .slice a1 len1 cap1]) (VRs.cons (by simpa only [VR, AR, SR] using hsr0) (VRs.cons (by simpa only [VR, AR, SR] using hsr1) VRs.nil))
  refine hc.mono fun e W' ⟨⟨v, m', G', he, hvr⟩, bel⟩ => ?_
  simp only [VR, AR, SR] at hvr
  subst hvr
  subst he
  exact ⟨_, rfl, _, _, _, [], _, [], hW', trodAll_mk1 (shut_bool Try.underlying4 _), (trodAll_cons_mk (Below.trod laidOut (by kernel_rfl) (of_decide_eq_true (by kernel_rfl)) k0 bel lt0) (trodAll_cons_mk (Below.trod laidOut (by kernel_rfl) (of_decide_eq_true (by kernel_rfl)) k1 bel lt1) trodAll_mk0)), rfl, bel.frame _, fun h => by cases h⟩
theorem over : Rows.unifyTellsRow.holds Try.pinned (OpenSpec.ofChange Rows.unifyTellsSpec) :=
  OpenClaim.holds_of_wide 3 Try.f3 rfl rfl rfl rfl rfl rfl rfl ⟨rfl, rfl, rfl, rfl, rfl⟩ rfl rfl rfl rfl rfl (by kernel_rfl) Try.func3 (by kernel_rfl)
    (of_decide_eq_true (by kernel_rfl)) (by unfold Func.isWrapper; first | (rw [if_pos (by decide +kernel)]; kernel_rfl) | (rw [if_neg (by decide +kernel)]; exact ⟨rfl, rfl⟩))
    (fun os started H enc _ => lifted os started H enc)
theorem proved : Rows.UnifyTellsSaid := over
#print axioms proved
end Go.Proofs.Yticnfndhinjbbaa.unifyTells
namespace Go.Proofs.Yticnfndhinjbbaa
/-- The row, under a short name, for the claim. -/
theorem unifyTells_holds : Rows.UnifyTellsSaid := unifyTells.proved
end Go.Proofs.Yticnfndhinjbbaa
